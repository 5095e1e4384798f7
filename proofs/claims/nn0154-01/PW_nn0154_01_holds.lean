import PyProof.Rows.All
import Wide.All
import OpenK.AllK
import Wide.FinOn
import KE.KRevIter
import PyProof.WalksPairs
import PyProof.CompFree
import PyProof.SliceMore
import Wide.BytesRules
import KE.KEqDict
import PyProof.Rows.DictMade
import KE.KDictSum
import KE.KDictOf
import PyProof.Rows.SortStr
import PyProof.CollectWalk
import PyProof.AttrMissHeap
import OpenK.KMake
import KE.KIsAll
import PyProof.ExcBaseAll.Exception
import PyProof.ExcClass3
import Lean
import PySem.Challenge.RW_nn0154_01
set_option Elab.async false
set_option tactic.hygienic false
set_option maxRecDepth 100000
set_option linter.all false
namespace Mine
open PySem PySem.W PyProof.Rows PySem.Spec PySem.Calls
section
variable {α:Type}(l:List α)(n m:Nat)
theorem Jk:(l.take n).length≤l.length:=List.length_take_le' n l
theorem zM:(l.take n++l.drop (n+1)).length≤l.length:=
 (List.eraseIdx_eq_take_drop_succ l n)▸List.length_eraseIdx_le l n
theorem ye{l:List α}{n:Nat}(h:n<l.length):(l.take n++l.drop (n+1)).length=l.length-1:=
 (List.eraseIdx_eq_take_drop_succ l n)▸List.length_eraseIdx_of_lt h
theorem HH(x:α):(l.take n++x::l.drop n).length=l.length+1:=by
 rw[List.length_append,List.length_cons,←Nat.add_assoc,←List.length_append,List.take_append_drop]
theorem v5(x:α):(l.take n++[x]++l.drop n).length=l.length+1:=
 (congrArg _ (List.append_assoc ..)).trans (HH l n x)
end
section
variable {d n m c k j x:Nat}
theorem I0(h:d+x≤k):d≤k:=Nat.le_trans (Nat.le_add_right d x) h
theorem GQ(hm:n≤m)(h:d+c*m≤k):d+c*n≤k:=Nat.le_trans (Nat.add_le_add_left (Nat.mul_le_mul_left c hm) d) h
theorem K4(hj:j≤c)(h:d+c*(n+1)≤k):d+j+c*n≤k:=
 Nat.le_trans (Nat.le_trans (Nat.add_le_add_right (Nat.add_le_add_left hj d) _) (Nat.le_of_eq ((Nat.add_assoc d c _).trans (congrArg (d+·) (Nat.add_comm c _))))) h
theorem Ls(h:n≤1000):(n:Int)<2 ^ 63:=Int.lt_of_le_of_lt (Int.ofNat_le.mpr h) (by decide)
end
theorem bn{n m:Nat}(h:n=m):m≤n:=Nat.le_of_eq h.symm
theorem bl{i m:Nat}(h:Nat.blt i m=true):i<m:=Nat.le_of_ble_eq_true h
theorem Hs{i:Int}{n:Nat}(h:n≤1000)(hi:i<n):i<2 ^ 63:=Int.lt_trans hi (Ls h)
theorem dp{G:Prop}(h:∀C:Prop,(G→C)→C):G:=h G id
theorem ff{G:Prop}(h:false=true):G:=Bool.noConfusion h
theorem tf{G:Prop}(h:true=false):G:=Bool.noConfusion h
theorem ns{α:Type}{a:α}{G:Prop}(h:none=some a):G:=nomatch h
theorem mn{α:Type}{a:α}{G:Prop}(h:a∈([]:List α)):G:=nomatch h
theorem sn{α:Type}{a:α}{G:Prop}(h:some a=none):G:=nomatch h
@[elab_as_elim] theorem Er{α:Type}{l:List α}{P:List α→Prop}(h:l.length=0)(k:P []):P l:=by
 cases l with
 |nil=>exact k
 |cons a r=>exact Nat.noConfusion h
@[elab_as_elim] theorem oU{α:Type}{n:Nat}{l:List α}{P:List α→Prop}(h:l.length=n+1)(k:∀a r,r.length=n→P (a::r)):P l:=by
 cases l with
 |nil=>exact Nat.noConfusion h
 |cons a r=>exact k a r (Nat.succ.inj h)
theorem mC{A0 A1 A2:Prop}{G:Prop}(h:A0∧A1∧A2)(k:A0→A1→A2→G):G:=by obtain⟨h0,h1,h2⟩:=h;exact k h0 h1 h2
theorem Fu{A0 A1 A2 A3:Prop}{G:Prop}(h:A0∧A1∧A2∧A3)(k:A0→A1→A2→A3→G):G:=by obtain⟨h0,h1,h2,h3⟩:=h;exact k h0 h1 h2 h3
theorem I2{A0 A1 A2 A3 A4:Prop}{G:Prop}(h:A0∧A1∧A2∧A3∧A4)(k:A0→A1→A2→A3→A4→G):G:=by obtain⟨h0,h1,h2,h3,h4⟩:=h;exact k h0 h1 h2 h3 h4
theorem Km{A0 A1 A2 A3 A4 A5:Prop}{G:Prop}(h:A0∧A1∧A2∧A3∧A4∧A5)(k:A0→A1→A2→A3→A4→A5→G):G:=by obtain⟨h0,h1,h2,h3,h4,h5⟩:=h;exact k h0 h1 h2 h3 h4 h5
theorem el12.{u0}{α0:Sort u0}{A0 A1:α0→Prop}{G:Prop}(h:∃x0,(A0 x0)∧(A1 x0))(k:∀x0,(A0 x0)→(A1 x0)→G):G:=by obtain⟨x0,h0,h1⟩:=h;exact k x0 h0 h1
theorem el13.{u0}{α0:Sort u0}{A0 A1 A2:α0→Prop}{G:Prop}(h:∃x0,(A0 x0)∧(A1 x0)∧(A2 x0))(k:∀x0,(A0 x0)→(A1 x0)→(A2 x0)→G):G:=by obtain⟨x0,h0,h1,h2⟩:=h;exact k x0 h0 h1 h2
theorem el14.{u0}{α0:Sort u0}{A0 A1 A2 A3:α0→Prop}{G:Prop}(h:∃x0,(A0 x0)∧(A1 x0)∧(A2 x0)∧(A3 x0))(k:∀x0,(A0 x0)→(A1 x0)→(A2 x0)→(A3 x0)→G):G:=by obtain⟨x0,h0,h1,h2,h3⟩:=h;exact k x0 h0 h1 h2 h3
theorem el15.{u0}{α0:Sort u0}{A0 A1 A2 A3 A4:α0→Prop}{G:Prop}(h:∃x0,(A0 x0)∧(A1 x0)∧(A2 x0)∧(A3 x0)∧(A4 x0))(k:∀x0,(A0 x0)→(A1 x0)→(A2 x0)→(A3 x0)→(A4 x0)→G):G:=by obtain⟨x0,h0,h1,h2,h3,h4⟩:=h;exact k x0 h0 h1 h2 h3 h4
theorem el16.{u0}{α0:Sort u0}{A0 A1 A2 A3 A4 A5:α0→Prop}{G:Prop}(h:∃x0,(A0 x0)∧(A1 x0)∧(A2 x0)∧(A3 x0)∧(A4 x0)∧(A5 x0))(k:∀x0,(A0 x0)→(A1 x0)→(A2 x0)→(A3 x0)→(A4 x0)→(A5 x0)→G):G:=by obtain⟨x0,h0,h1,h2,h3,h4,h5⟩:=h;exact k x0 h0 h1 h2 h3 h4 h5
theorem el22.{u0,u1}{α0:Sort u0}{α1:Sort u1}{A0 A1:α0→α1→Prop}{G:Prop}(h:∃x0 x1,(A0 x0 x1)∧(A1 x0 x1))(k:∀x0 x1,(A0 x0 x1)→(A1 x0 x1)→G):G:=by obtain⟨x0,x1,h0,h1⟩:=h;exact k x0 x1 h0 h1
theorem el32.{u0,u1,u2}{α0:Sort u0}{α1:Sort u1}{α2:Sort u2}{A0 A1:α0→α1→α2→Prop}{G:Prop}(h:∃x0 x1 x2,(A0 x0 x1 x2)∧(A1 x0 x1 x2))(k:∀x0 x1 x2,(A0 x0 x1 x2)→(A1 x0 x1 x2)→G):G:=by obtain⟨x0,x1,x2,h0,h1⟩:=h;exact k x0 x1 x2 h0 h1
theorem el34.{u0,u1,u2}{α0:Sort u0}{α1:Sort u1}{α2:Sort u2}{A0 A1 A2 A3:α0→α1→α2→Prop}{G:Prop}(h:∃x0 x1 x2,(A0 x0 x1 x2)∧(A1 x0 x1 x2)∧(A2 x0 x1 x2)∧(A3 x0 x1 x2))(k:∀x0 x1 x2,(A0 x0 x1 x2)→(A1 x0 x1 x2)→(A2 x0 x1 x2)→(A3 x0 x1 x2)→G):G:=by obtain⟨x0,x1,x2,h0,h1,h2,h3⟩:=h;exact k x0 x1 x2 h0 h1 h2 h3
theorem el35.{u0,u1,u2}{α0:Sort u0}{α1:Sort u1}{α2:Sort u2}{A0 A1 A2 A3 A4:α0→α1→α2→Prop}{G:Prop}(h:∃x0 x1 x2,(A0 x0 x1 x2)∧(A1 x0 x1 x2)∧(A2 x0 x1 x2)∧(A3 x0 x1 x2)∧(A4 x0 x1 x2))(k:∀x0 x1 x2,(A0 x0 x1 x2)→(A1 x0 x1 x2)→(A2 x0 x1 x2)→(A3 x0 x1 x2)→(A4 x0 x1 x2)→G):G:=by obtain⟨x0,x1,x2,h0,h1,h2,h3,h4⟩:=h;exact k x0 x1 x2 h0 h1 h2 h3 h4
theorem el36.{u0,u1,u2}{α0:Sort u0}{α1:Sort u1}{α2:Sort u2}{A0 A1 A2 A3 A4 A5:α0→α1→α2→Prop}{G:Prop}(h:∃x0 x1 x2,(A0 x0 x1 x2)∧(A1 x0 x1 x2)∧(A2 x0 x1 x2)∧(A3 x0 x1 x2)∧(A4 x0 x1 x2)∧(A5 x0 x1 x2))(k:∀x0 x1 x2,(A0 x0 x1 x2)→(A1 x0 x1 x2)→(A2 x0 x1 x2)→(A3 x0 x1 x2)→(A4 x0 x1 x2)→(A5 x0 x1 x2)→G):G:=by obtain⟨x0,x1,x2,h0,h1,h2,h3,h4,h5⟩:=h;exact k x0 x1 x2 h0 h1 h2 h3 h4 h5
theorem el43.{u0,u1,u2,u3}{α0:Sort u0}{α1:Sort u1}{α2:Sort u2}{α3:Sort u3}{A0 A1 A2:α0→α1→α2→α3→Prop}{G:Prop}(h:∃x0 x1 x2 x3,(A0 x0 x1 x2 x3)∧(A1 x0 x1 x2 x3)∧(A2 x0 x1 x2 x3))(k:∀x0 x1 x2 x3,(A0 x0 x1 x2 x3)→(A1 x0 x1 x2 x3)→(A2 x0 x1 x2 x3)→G):G:=by obtain⟨x0,x1,x2,x3,h0,h1,h2⟩:=h;exact k x0 x1 x2 x3 h0 h1 h2
set_option genSizeOf false
inductive CV where
 |none|bool (b:Bool)|int (i:Int)|str (s:Str)|byt (b:Array UInt8)|ref (a:Addr)
 |tup (l:List CV)|lst (l:List CV)|sd (l:List (Str×CV))|nd (l:List (Int×CV))|obj (C:Addr) (l:List (Str×CV))
abbrev Fz:=Addr→Option Obj
def Fz.le(F G:Fz):Prop:=∀a o,F a=some o→G a=some o
theorem Fz.le.refl(F:Fz):F.le F:=fun O O e=>e
theorem Fz.le.trans{F G H:Fz}(x:F.le G)(y:G.le H):F.le H:=fun a o e=>y a o (x a o e)
noncomputable def Fz.put(F:Fz)(a:Addr)(o:Obj):Fz:=fun b=>if b=a then some o else F b
theorem Fz.put_self(F:Fz)(a:Addr)(o:Obj):F.put a o a=some o:=by simp[Fz.put]
theorem Fz.put_ne(F:Fz){a b:Addr}(o:Obj)(h:b≠a):F.put a o b=F b:=by simp[Fz.put,h]
theorem Fz.le_put{F:Fz}{a:Addr}(o:Obj)(h:F a=none):F.le (F.put a o):=fun b x e=>by
 by_cases hb:b=a
 ·subst hb;rw[h]at e;exact ns e
 ·rw[Fz.put_ne F o hb];exact e
set_option genInjectivity false
structure Wd where
 prog:Program
 w:World
 K:Frag
 base:Heap
 mg:Str→Option Value
 mb:Str→Option Value
 os:OsState
 kin:K.In base
 hg:base.Ns mainGlobals mg
 hb:base.Ns builtinsNs mb
 hbi:∀x:Str,x≠"__name__"→mb x=bootBuiltins x
 nolim:base.NoLimit
class inductive F2{α β:Type}(R:α→β→Prop):List α→List β→Prop
 |nil:F2 R [] []
 |cons {v:α} {c:β} {vs:List α} {cs:List β}:R v c→F2 R vs cs→F2 R (v::vs) (c::cs)
class inductive mx{K α β:Type}(R:α→β→Prop):List (K×α)→List (K×β)→Prop
 |nil:mx R [] []
 |cons {k:K} {v:α} {c:β} {vs:List (K×α)} {cs:List (K×β)}:R v c→mx R vs cs→mx R ((k,v)::vs) ((k,c)::cs)
class inductive Ie{β:Type}(R:Value→β→Prop):List DictEntry→List (Str×β)→Prop
 |nil:Ie R [] []
 |cons {k:Str} {hsh:Int} {t:Tok} {v:Value} {c:β} {es:List DictEntry} {cs:List (Str×β)}:R v c→Ie R es cs→Ie R (⟨hsh,.str k t,v⟩::es) ((k,c)::cs)
section
variable (W:Wd)(F:Fz)
class inductive bC:Value→CV→Prop
 |none:bC .none .none
 |bool (b:Bool):bC (.bool b) (.bool b)
 |int (i:Int) (t:Tok):bC (.int i t) (.int i)
 |str (x:Str) (t:Tok):bC (.str x t) (.str x)
 |byt (b:Array UInt8) (t:Tok):bC (.bytes b t) (.byt b)
 |ref (a:Addr):bC (.ref a) (.ref a)
 |tup {a:Addr} {o:Obj} {vs:List Value} {n:Nat} {l:List CV}:F a=some o→o.cls= .type "tuple"→o.data= .seq vs.toArray n→F2 bC vs l→bC (.ref a) (.tup l)
 |lst {a:Addr} {vs:List Value} {n:Nat} {l:List CV}:F a=some (listOf vs.toArray n)→F2 bC vs l→bC (.ref a) (.lst l)
 |sd {a:Addr} {o:Obj} {kvs:List (Str×Value)} {l:List (Str×CV)}:F a=some o→a≠sysModules→o.IsDictOf (strKind W.prog W.w) kvs→mx bC kvs l→bC (.ref a) (.sd l)
 |nd {a:Addr} {o:Obj} {kvs:List (Int×Value)} {l:List (Int×CV)}:F a=some o→a≠sysModules→o.IsDictOf (intKind W.prog W.w) kvs→mx bC kvs l→bC (.ref a) (.nd l)
 |obj {a C dx:Addr} {es:List DictEntry} {n:Nat} {fs:List (Str×CV)}:F a=some (instObj C dx)→F dx=some (dictOf es n)→Ie bC es fs→bC (.ref a) (.obj C fs)
abbrev b6:=F2 (bC W F)
abbrev uc:=mx (K:=Str) (bC W F)
abbrev As:=mx (K:=Int) (bC W F)
abbrev lB:=Ie (bC W F)
end
section
variable {W:Wd}{F G:Fz}
theorem F2.imp{α β:Type}{R S:α→β→Prop}(f:∀a b,R a b→S a b){v c}(h:F2 R v c):F2 S v c:=by
 induction h with
 |nil=>exact .nil
 |cons h _ ih=>exact .cons (f _ _ h) ih
theorem mx.imp{K α β:Type}{R S:α→β→Prop}(f:∀a b,R a b→S a b){v:List (K×α)}{c:List (K×β)}(h:mx R v c):mx S v c:=by
 induction h with
 |nil=>exact .nil
 |cons h _ ih=>exact .cons (f _ _ h) ih
theorem Ie.imp{β:Type}{R S:Value→β→Prop}(f:∀a b,R a b→S a b){v c}(h:Ie R v c):Ie S v c:=by
 induction h with
 |nil=>exact .nil
 |cons h _ ih=>exact .cons (f _ _ h) ih
theorem bC.mono(le:F.le G){v:Value}{c:CV}(h:bC W F v c):bC W G v c:=
 bC.rec (motive_1:=fun v c O=>bC W G v c) (motive_2:=fun v c O=>b6 W G v c) (motive_3:=fun v c O=>uc W G v c) (motive_4:=fun v c O=>As W G v c) (motive_5:=fun v c O=>lB W G v c)
  .none .bool .int .str .byt .ref (fun h1 h2 h3 O h=> .tup (le _ _ h1) h2 h3 h) (fun h1 O h=> .lst (le _ _ h1) h) (fun h1 h2 h3 O h=> .sd (le _ _ h1) h2 h3 h) (fun h1 h2 h3 O h=> .nd (le _ _ h1) h2 h3 h) (fun h1 h2 O h=> .obj (le _ _ h1) (le _ _ h2) h)
  .nil (fun O O=> .cons) .nil (fun O O=> .cons) .nil (fun O O=> .cons) .nil (fun O O=> .cons) h
theorem b6.mono(le:F.le G){v c}(h:b6 W F v c):b6 W G v c:=h.imp fun O O=> .mono le
theorem uc.mono(le:F.le G){v c}(h:uc W F v c):uc W G v c:=h.imp fun O O=> .mono le
theorem As.mono(le:F.le G){v c}(h:As W F v c):As W G v c:=h.imp fun O O=> .mono le
theorem lB.mono(le:F.le G){v c}(h:lB W F v c):lB W G v c:=h.imp fun O O=> .mono le
end
inductive B8(W:Wd)(F:Fz)(l:List CV):Value→Prop
 |mk {a:Addr} {o:Obj} {vs:List Value} {n:Nat}:F a=some o→o.cls= .type "tuple"→o.data= .seq vs.toArray n→b6 W F vs l→B8 W F l (.ref a)
inductive G0(W:Wd)(F:Fz)(l:List CV):Value→Prop
 |mk {a:Addr} {vs:List Value} {n:Nat}:F a=some (listOf vs.toArray n)→b6 W F vs l→G0 W F l (.ref a)
inductive K3(W:Wd)(F:Fz)(l:List (Str×CV)):Value→Prop
 |mk {a:Addr} {o:Obj} {kvs:List (Str×Value)}:F a=some o→a≠sysModules→o.IsDictOf (strKind W.prog W.w) kvs→uc W F kvs l→K3 W F l (.ref a)
inductive K1(W:Wd)(F:Fz)(l:List (Int×CV)):Value→Prop
 |mk {a:Addr} {o:Obj} {kvs:List (Int×Value)}:F a=some o→a≠sysModules→o.IsDictOf (intKind W.prog W.w) kvs→As W F kvs l→K1 W F l (.ref a)
inductive G6(W:Wd)(F:Fz)(C:Addr)(fs:List (Str×CV)):Value→Prop
 |mk {a dx:Addr} {es:List DictEntry} {n:Nat}:F a=some (instObj C dx)→F dx=some (dictOf es n)→lB W F es fs→G6 W F C fs (.ref a)
inductive DR(i:Int):Value→Prop
 |mk (t:Tok):DR i (.int i t)
inductive He(x:Str):Value→Prop
 |mk (t:Tok):He x (.str x t)
inductive GX(x:Array UInt8):Value→Prop
 |mk (t:Tok):GX x (.bytes x t)
def Lf(W:Wd)(F:Fz)(v:Value)(c:CV):Prop:=
 CV.rec (motive_1:=fun O=>Prop) (motive_2:=fun O=>Unit) (motive_3:=fun O=>Unit) (motive_4:=fun O=>Unit) (motive_5:=fun O=>Unit) (motive_6:=fun O=>Unit) (v= .none) (fun b=>v= .bool b) (fun i=>DR i v) (fun x=>He x v) (fun b=>GX b v) (fun a=>v= .ref a) (fun l O=>B8 W F l v) (fun l O=>G0 W F l v) (fun l O=>K3 W F l v) (fun l O=>K1 W F l v) (fun C fs O=>G6 W F C fs v)
  () (fun O O O O=>()) () (fun O O O O=>()) () (fun O O O O=>()) (fun O O O=>()) (fun O O O=>()) c
section
variable {W:Wd}{F G:Fz}
theorem bC.inv{v:Value}{c:CV}(h:bC W F v c):Lf W F v c:=by
 cases h with
 |none=>exact rfl
 |bool b=>exact rfl
 |int i t=>exact DR.mk t
 |str i t=>exact He.mk t
 |byt i t=>exact GX.mk t
 |ref a=>exact rfl
 |tup h1 h2 h3 h4=>exact B8.mk h1 h2 h3 h4
 |lst h1 h2=>exact G0.mk h1 h2
 |sd h1 h2 h3 h4=>exact K3.mk h1 h2 h3 h4
 |nd h1 h2 h3 h4=>exact K1.mk h1 h2 h3 h4
 |obj h1 h2 h3=>exact G6.mk h1 h2 h3
@[elab_as_elim] theorem F2.onNil{α β:Type}{R:α→β→Prop}{vs:List α}{P:List α→Prop}(h:F2 R vs [])(k:P []):P vs:=by cases h;exact k
@[elab_as_elim] theorem F2.onCons{α β:Type}{R:α→β→Prop}{vs:List α}{c:β}{cs:List β}{P:List α→Prop}(h:F2 R vs (c::cs))(k:∀v r,R v c→F2 R r cs→P (v::r)):P vs:=by cases h with|cons a b=>exact k _ _ a b
theorem F2.length{α β:Type}{R:α→β→Prop}{vs cs}(h:F2 R vs cs):vs.length=cs.length:=by
 induction h with
 |nil=>exact rfl
 |cons _ _ ih=>exact congrArg (·+1) ih
theorem mx.length{K α β:Type}{R:α→β→Prop}{vs:List (K×α)}{cs:List (K×β)}(h:mx R vs cs):vs.length=cs.length:=by
 induction h with
 |nil=>exact rfl
 |cons _ _ ih=>exact congrArg (·+1) ih
theorem F2.get{α β:Type}{R:α→β→Prop}{vs cs}(h:F2 R vs cs):∀{i:Nat} {c:β},cs[i]? =some c→∃v,vs[i]? =some v∧R v c:=by
 induction h with
 |nil=>exact fun e=>nomatch e
 |cons h _ ih=>exact fun {i} {c} e=>match i,e with
  |0,e=>⟨_,rfl,Option.some.inj e▸h⟩
  |_+1,e=>ih e
theorem F2.flip{α β:Type}{R:α→β→Prop}{vs cs}(h:F2 R vs cs):F2 (fun a b=>R b a) cs vs:=by
 induction h with
 |nil=>exact .nil
 |cons h _ ih=>exact .cons h ih
theorem F2.getv{α β:Type}{R:α→β→Prop}{vs cs}(h:F2 R vs cs){i:Nat}{v:α}(e:vs[i]? =some v):∃c,cs[i]? =some c∧R v c:=h.flip.get e
theorem F2.append{α β:Type}{R:α→β→Prop}{vs cs us ds}(h:F2 R vs cs)(y:F2 R us ds):F2 R (vs++us) (cs++ds):=by
 induction h with
 |nil=>exact y
 |cons h _ ih=>exact .cons h ih
theorem F2.drop{α β:Type}{R:α→β→Prop}(n:Nat):∀{vs cs},F2 R vs cs→F2 R (vs.drop n) (cs.drop n):=by
 induction n with
 |zero=>exact id
 |succ n ih=>
  intro vs cs h;cases h with
  |nil=>exact .nil
  |cons _ t=>exact ih t
theorem F2.take{α β:Type}{R:α→β→Prop}(n:Nat):∀{vs cs},F2 R vs cs→F2 R (vs.take n) (cs.take n):=by
 induction n with
 |zero=>exact fun O=> .nil
 |succ n ih=>
  intro vs cs h;cases h with
  |nil=>exact .nil
  |cons h t=>exact .cons h (ih t)
theorem b6.drop{vs cs}(n:Nat)(h:b6 W F vs cs):b6 W F (vs.drop n) (cs.drop n):=F2.drop n h
theorem b6.take{vs cs}(n:Nat)(h:b6 W F vs cs):b6 W F (vs.take n) (cs.take n):=F2.take n h
theorem F2.reverse{α β:Type}{R:α→β→Prop}{vs cs}(h:F2 R vs cs):F2 R vs.reverse cs.reverse:=by
 induction h with
 |nil=>exact .nil
 |cons h _ ih=>rw[List.reverse_cons,List.reverse_cons];exact ih.append (.cons h .nil)
theorem mx.find{K β:Type}[DecidableEq K]{R:Value→β→Prop}{vs:List (K×Value)}{cs:List (K×β)}(h:mx R vs cs)(k:K):(∃v c,valueAt vs k=some v∧cs.lookup k=some c∧R v c)∨(valueAt vs k=none∧cs.lookup k=none):=by
 induction h with
 |nil=>exact .inr ⟨rfl,rfl⟩
 | @cons k' _ _ _ _ h t ih=>
  by_cases e:k=k'
  ·subst e;exact .inl ⟨_,_,by simp[valueAt],by simp,h⟩
  ·rw[List.lookup_cons,show(k==k')=false from beq_eq_false_iff_ne.mpr e]
   unfold valueAt;rw[List.find?_cons_of_neg (by simpa using fun q=>e q.symm)]
   exact ih
end
theorem mx.at{K β:Type}[DecidableEq K]{R:Value→β→Prop}{vs:List (K×Value)}{cs:List (K×β)}(h:mx R vs cs){k:K}{c:β}(e:cs.lookup k=some c):∃v,valueAt vs k=some v∧R v c:=by
 rcases h.find k with⟨v,c',e1,e2,r⟩|⟨_,e2⟩
 ·rw[e]at e2;cases e2;exact⟨v,e1,r⟩
 ·rw[e]at e2;exact sn e2
theorem mx.getD{K β:Type}[DecidableEq K]{R:Value→β→Prop}{vs:List (K×Value)}{cs:List (K×β)}(h:mx R vs cs)(k:K){v:Value}{c:β}(r:R v c):R ((valueAt vs k).getD v) ((cs.lookup k).getD c):=by
 rcases h.find k with⟨v,c',e1,e2,r⟩|⟨e1,e2⟩
 ·rw[e1,e2];exact r
 ·rw[e1,e2];exact r
theorem mx.isSome{K β:Type}[DecidableEq K]{R:Value→β→Prop}{vs:List (K×Value)}{cs:List (K×β)}(h:mx R vs cs)(k:K):(valueAt vs k).isSome=(cs.lookup k).isSome:=by
 rcases h.find k with⟨v,c',e1,e2,r⟩|⟨e1,e2⟩
 ·rw[e1,e2];rfl
 ·rw[e1,e2];rfl
inductive MO where
 |lst (l:List CV)|sd (l:List (Str×CV))|nd (l:List (Int×CV))|pd (l:List (List Int×CV))|obj (C dx:Addr) (fs:List (Str×CV))
abbrev Sg:=List (Addr×MO)
noncomputable def MO.adrs(a:Addr):MO→List Addr
 | .obj _ dx _=>[a,dx]
 |_=>[a]
noncomputable def adrs(sg:Sg):List Addr:=sg.flatMap fun p=>p.2.adrs p.1
class inductive lE(W:Wd)(F:Fz):List (List Int×Addr×Value)→List (List Int×CV)→Prop
 |nil:lE W F [] []
 |cons {k:List Int} {a:Addr} {v:Value} {c:CV} {vs:List (List Int×Addr×Value)} {cs:List (List Int×CV)}:(∀h:Heap,(∀b o,F b=some o→h.get? b=some o)→IsTupleKey (intKind W.prog W.w) h k a)→bC W F v c→lE W F vs cs→lE W F ((k,a,v)::vs) ((k,c)::cs)
def MO.Is(W:Wd)(F:Fz)(h:Heap)(a:Addr):MO→Prop
 | .lst l=>∃vs n,h.get? a=some (listOf (List.toArray vs) n)∧b6 W F vs l
 | .sd l=>a≠sysModules∧∃o kvs,h.get? a=some o∧o.IsDictOf (strKind W.prog W.w) kvs∧uc W F kvs l
 | .nd l=>a≠sysModules∧∃o kvs,h.get? a=some o∧o.IsDictOf (intKind W.prog W.w) kvs∧As W F kvs l
 | .pd l=>a≠sysModules∧∃xs,h.DictOfH (tupleKind (intKind W.prog W.w)) a xs∧lE W F xs l
 | .obj C dx fs=>h.get? a=some (instObj C dx)∧∃es n,h.get? dx=some (dictOf es n)∧lB W F es fs
theorem MO.Is.there{W:Wd}{F:Fz}{h:Heap}{a:Addr}{m:MO}(x:m.Is W F h a):∀b∈m.adrs a,∃o,h.get? b=some o:=by
 have one:∀{o:Obj},h.get? a=some o→∀b∈[a],∃o,h.get? b=some o:=fun e b hb=>List.mem_singleton.mp hb▸⟨_,e⟩;cases m with
 |lst l=>obtain⟨_,_,e,_⟩:=x;exact one e
 |sd l=>obtain⟨_,_,_,e,_⟩:=x;exact one e
 |nd l=>obtain⟨_,_,_,e,_⟩:=x;exact one e
 |pd l=>obtain⟨_,_,⟨_,_,_,e,_⟩,_⟩:=x;exact one e
 |obj C dx fs=>obtain⟨e,_,_,e2,_⟩:=x;exact List.forall_mem_cons.mpr ⟨⟨_,e⟩,fun b hb=>List.mem_singleton.mp hb▸⟨_,e2⟩⟩
section
variable {W:Wd}{F G:Fz}
theorem lE.mono(le:F.le G){v c}(h:lE W F v c):lE W G v c:=by
 induction h with
 |nil=>exact .nil
 |cons h hv _ ih=>exact .cons (fun g hg=>h g fun b o e=>hg b o (le b o e)) (hv.mono le) ih
theorem lE.all{h':Heap}(fz:∀b o,G b=some o→h'.get? b=some o){v c}(h:lE W G v c):∀x∈v,(tupleKind (intKind W.prog W.w)).is h' x.1 x.2.1:=by
 induction h with
 |nil=>exact fun O h=>absurd h List.not_mem_nil
 |cons h0 _ _ ih=>exact List.forall_mem_cons.mpr ⟨h0 h' fz,ih⟩
theorem MO.Is.keep{h h':Heap}{a:Addr}{m:MO}(x:m.Is W F h a)(le:F.le G)(fz:∀b o,G b=some o→h'.get? b=some o)(hk:∀b∈m.adrs a,∀o,h.get? b=some o→h'.get? b=some o):m.Is W G h' a:=by
 cases m with
 |lst l=>obtain⟨vs,n,e,r⟩:=x;exact⟨vs,n,hk a (.head _) _ e,r.mono le⟩
 |sd l=>obtain⟨q,o,kvs,e,r,t⟩:=x;exact⟨q,o,kvs,hk a (.head _) _ e,r,t.mono le⟩
 |nd l=>obtain⟨q,o,kvs,e,r,t⟩:=x;exact⟨q,o,kvs,hk a (.head _) _ e,r,t.mono le⟩
 |pd l=>obtain⟨q,xs,⟨o,es,ep,e,r1,r2,r3,r4,r5⟩,t⟩:=x;exact⟨q,xs,⟨o,es,ep,hk a (.head _) _ e,r1,r2,r3,(t.mono le).all fz,r5⟩,t.mono le⟩
 |obj C dx fs=>obtain⟨e,es,n,e2,r⟩:=x;exact⟨hk a (.head _) _ e,es,n,hk dx (.tail _ (.head _)) _ e2,r.mono le⟩
end
def tz(env:Env)(h:Heap)(x:Str)(v:Value):Prop:=
 (env.kindOf x=some .local∧∃m,h.Ns env.locals m∧m x=some v)∨((env.kindOf x=some .cell∨env.kindOf x=some .free)∧∃c,env.cells.lookup x=some c∧h.IsCell c (some v))
structure FX where
 A:Around
 env:Env
 names:List Str
 globs:List Str
 own:List Addr
 kept:Fz
 n:Nat
 m:Nat
 hk:env.scope.kind= .function
 hgl:env.globals=mainGlobals
 hbu:env.builtins=builtinsNs
 hh:A.handled=none
 hd:A.depth+3*n≤900
 hu:A.units+30*n≤9000
 hL:env.locals∈own
 hce:∀x c,env.cells.lookup x=some c→c≠env.locals∧(c∈own∨∃o,kept c=some o)
 hci:∀x y c,env.cells.lookup x=some c→env.cells.lookup y=some c→x=y
 hnm:names.Nodup
 hkd:∀x∈names,env.kindOf x=some .local∨((env.kindOf x=some .cell∨env.kindOf x=some .free)∧∃c,env.cells.lookup x=some c)
 hdb:∀x∈names,(x==("__debug__":Str))=false∧(x==("__classdict__":Str))=false
 hst:∀(i:Nat) (x:Str),i<m→names[i]? =some x→env.kindOf x=some .local∨(env.kindOf x=some .cell∧∀c,env.cells.lookup x=some c→c∈own)
 hgb:∀x∈globs,env.kindOf x=some .globalImplicit∧(x==("__debug__":Str))=false
structure bc(W:Wd)(X:FX)(F:Fz)(rho:List (Option CV))(sg:Sg)(s:Shared):Prop where
 fz:∀a o,F a=some o→s.heap.get? a=some o
 kp:∀a o,X.kept a=some o→s.heap.get? a=some o
 bs:∀a o,W.base.get? a=some o→F a=some o
 va:∀(i:Nat) (x:Str) (c:CV),X.names[i]? =some x→rho[i]? =some (some c)→∃v,tz X.env s.heap x v∧bC W F v c
 ns:∃m,s.heap.Ns X.env.locals m
 ce:∀x c,X.env.cells.lookup x=some c→∃v,s.heap.IsCell c v
 mo:∀p∈sg,p.2.Is W F s.heap p.1
 nd:(X.own++adrs sg).Nodup
 th:∀a∈X.own,∃o,s.heap.get? a=some o
 ds:∀a,a∈X.own++adrs sg→F a=none∧X.kept a=none
 dk:∀a o,X.kept a=some o→F a=none
 gens:s.gens= #[]
 os:s.os=W.os
theorem dR{sg:Sg}{p:Addr×MO}(h:p∈sg){b:Addr}(hb:b∈p.2.adrs p.1):b∈adrs sg:=List.mem_flatMap.mpr ⟨p,h,hb⟩
section
variable {W:Wd}{X:FX}{F:Fz}{rho:List (Option CV)}{sg:Sg}{s:Shared}
theorem bc.thA(R:bc W X F rho sg s):∀a∈X.own++adrs sg,∃o,s.heap.get? a=some o:=fun a ha=>by
 rcases List.mem_append.mp ha with h|h
 ·exact R.th a h
 ·refine el12 (List.mem_flatMap.mp h) fun p hp hb=> ?_;exact(R.mo p hp).there a hb
theorem tz.keep{env:Env}{h h':Heap}{x:Str}{v:Value}(y:tz env h x v)(e1:∀o,h.get? env.locals=some o→h'.get? env.locals=some o)(e2:∀c,env.cells.lookup x=some c→∀o,h.get? c=some o→h'.get? c=some o):tz env h' x v:=by
 rcases y with⟨hk,m,hn,hv⟩|⟨hk,c,hc,o,ho,hd⟩
 ·exact .inl ⟨hk,m,hn.at' e1,hv⟩
 ·exact .inr ⟨hk,c,hc,o,e2 c hc o ho,hd⟩
theorem bc.keepF(R:bc W X F rho sg s){G:Fz}{h':Heap}{tk:Nat}(le:F.le G)(fz:∀a o,G a=some o→h'.get? a=some o)(hd:∀a,a∈X.own++adrs sg→G a=none)(hdk:∀a o,X.kept a=some o→G a=none)
  (hk:∀b o,s.heap.get? b=some o→(b∈X.own++adrs sg∨∃o,X.kept b=some o)→h'.get? b=some o):bc W X G rho sg {s with heap:=h',toks:=tk} where
 fz:=fz
 kp:=fun a o e=>hk a o (R.kp a o e) (.inr ⟨o,e⟩)
 bs:=fun a o e=>le a o (R.bs a o e)
 va:=fun i x c hx hc=>by
  refine el12 (R.va i x c hx hc) fun v hv r=> ?_;refine⟨v,hv.keep (fun o e=>hk _ o e (.inl (List.mem_append_left _ X.hL))) (fun c hc o e=>hk _ o e ?_),r.mono le⟩;rcases(X.hce x c hc).2 with h|h
  ·exact .inl (List.mem_append_left _ h)
  ·exact .inr h
 ns:=let⟨m,hn⟩:=R.ns;⟨m,hn.at' fun o e=>hk _ o e (.inl (List.mem_append_left _ X.hL))⟩
 ce:=fun x c hc=>by
  refine el22 (R.ce x c hc) fun v o e r=> ?_;refine⟨v,o,hk _ o e ?_,r⟩;rcases(X.hce x c hc).2 with h|h
  ·exact .inl (List.mem_append_left _ h)
  ·exact .inr h
 mo:=fun p hp=>(R.mo p hp).keep le fz fun b hb o e=>hk b o e (.inl (List.mem_append_right _ (dR hp hb)))
 nd:=R.nd
 th:=fun a ha=>let⟨o,e⟩:=R.th a ha;⟨o,hk a o e (.inl (List.mem_append_left _ ha))⟩
 ds:=fun a ha=>⟨hd a ha,(R.ds a ha).2⟩
 dk:=hdk
 gens:=R.gens
 os:=R.os
theorem bc.grow(R:bc W X F rho sg s){h':Heap}{tk:Nat}(hk:∀b o,s.heap.get? b=some o→h'.get? b=some o):bc W X F rho sg {s with heap:=h',toks:=tk}:=
 R.keepF (.refl F) (fun a o e=>hk a o (R.fz a o e)) (fun a ha=>(R.ds a ha).1) R.dk fun b o e O=>hk b o e
theorem bc.tok(R:bc W X F rho sg s){tk:Nat}:bc W X F rho sg {s with toks:=tk}:=R.grow (h':=s.heap) fun O O e=>e
theorem bc.F_none(R:bc W X F rho sg s){a:Addr}(ha:s.heap.get? a=none):F a=none:=by
 cases e:F a with
 |none=>rfl
 |some o=>have:=R.fz a o e;rw[ha]at this;cases this
theorem bc.k_none(R:bc W X F rho sg s){a:Addr}(ha:s.heap.get? a=none):X.kept a=none:=by
 cases e:X.kept a with
 |none=>rfl
 |some o=>have:=R.kp a o e;rw[ha]at this;cases this
theorem bc.not_mem(R:bc W X F rho sg s){a:Addr}(ha:s.heap.get? a=none):a∉X.own++adrs sg:=fun hm=>by
 obtain⟨o,e⟩:=R.thA a hm;rw[ha]at e;cases e
theorem bc.addF(R:bc W X F rho sg s){h':Heap}{tk:Nat}{a:Addr}{o:Obj}(hk:∀b o,s.heap.get? b=some o→h'.get? b=some o)(ha:s.heap.get? a=none)(hn:h'.get? a=some o):
  F.le (F.put a o)∧bc W X (F.put a o) rho sg {s with heap:=h',toks:=tk}:=by
 have le:=Fz.le_put o (R.F_none ha);refine⟨le,R.keepF le (fun b x e=> ?_) (fun b hb=> ?_) (fun b x e=> ?_) fun b o e O=>hk b o e⟩
 ·by_cases q:b=a
  ·subst q;rw[Fz.put_self]at e;cases e;exact hn
  ·rw[Fz.put_ne F o q]at e;exact hk b x (R.fz b x e)
 ·have q:b≠a:=fun q=>R.not_mem ha (q▸hb);rw[Fz.put_ne F o q];exact(R.ds b hb).1
 ·have q:b≠a:=fun q=>by rw[q,R.k_none ha]at e;cases e
  rw[Fz.put_ne F o q];exact R.dk b x e
theorem bc.addM(R:bc W X F rho sg s){h':Heap}{tk:Nat}{a:Addr}{m:MO}(hk:∀b o,s.heap.get? b=some o→h'.get? b=some o)(ha:∀b∈m.adrs a,s.heap.get? b=none)(hnd:(m.adrs a).Nodup)(hm:m.Is W F h' a):
  bc W X F rho ((a,m)::sg) {s with heap:=h',toks:=tk}:=by
 have R':=R.grow (tk:=tk) hk;have hin:adrs ((a,m)::sg)=m.adrs a++adrs sg:=rfl;have nm:∀b∈m.adrs a,b∉X.own++adrs sg:=fun b hb=>R.not_mem (ha b hb);refine {R' with mo:= ?_,nd:= ?_,ds:= ?_}
 ·intro p hp;rcases List.mem_cons.mp hp with rfl|hp
  ·exact hm
  ·exact R'.mo p hp
 ·rw[hin];have h0:=R.nd;rw[List.nodup_append]at h0 ⊢;refine⟨h0.1,?_,?_⟩
  ·rw[List.nodup_append];refine⟨hnd,h0.2.1,fun x hx y hy e=>nm x hx (List.mem_append_right _ (e▸hy))⟩
  ·intro x hx y hy e;rcases List.mem_append.mp hy with hy|hy
   ·exact nm y hy (List.mem_append_left _ (e▸hx))
   ·exact h0.2.2 x hx y hy e
 ·intro b hb;rw[hin]at hb;rcases List.mem_append.mp hb with hb|hb
  ·exact R.ds b (List.mem_append_left _ hb)
  ·rcases List.mem_append.mp hb with hb|hb
   ·exact⟨R.F_none (ha b hb),R.k_none (ha b hb)⟩
   ·exact R.ds b (List.mem_append_right _ hb)
end
class inductive gv(a:Addr)(m m':MO):Sg→Sg→Prop
 |head {r:Sg}:gv a m m' ((a,m)::r) ((a,m')::r)
 |tail {p:Addr×MO} {r r':Sg}:gv a m m' r r'→gv a m m' (p::r) (p::r')
class inductive oH(a:Addr)(m:MO):Sg→Sg→Prop
 |head {r:Sg}:oH a m ((a,m)::r) r
 |tail {p:Addr×MO} {r r':Sg}:oH a m r r'→oH a m (p::r) (p::r')
theorem gv.split{a:Addr}{m m':MO}{l l':Sg}(h:gv a m m' l l'):∃x y,l=x++(a,m)::y∧l'=x++(a,m')::y:=by
 induction h with
 |head=>exact⟨[],_,rfl,rfl⟩
 | @tail p _ _ _ ih=>obtain⟨x,y,e,f⟩:=ih;exact⟨p::x,y,congrArg (p::·) e,congrArg (p::·) f⟩
theorem oH.split{a:Addr}{m:MO}{l l':Sg}(h:oH a m l l'):∃x y,l=x++(a,m)::y∧l'=x++y:=by
 induction h with
 |head=>exact⟨[],_,rfl,rfl⟩
 | @tail p _ _ _ ih=>obtain⟨x,y,e,f⟩:=ih;exact⟨p::x,y,congrArg (p::·) e,congrArg (p::·) f⟩
theorem de(x y:Sg):adrs (x++y)=adrs x++adrs y:=by simp[adrs]
theorem cE(p:Addr×MO)(y:Sg):adrs (p::y)=p.2.adrs p.1++adrs y:=rfl
section
variable {W:Wd}{X:FX}{F:Fz}{rho:List (Option CV)}{sg sg':Sg}{s:Shared}
theorem bc.upd(R:bc W X F rho sg s){h':Heap}{tk:Nat}{a d:Addr}{m m':MO}(U:gv a m m' sg sg')(hadr:m.adrs a=m'.adrs a)(hd:d∈m.adrs a)(hs:Heap.SameBut d s.heap h')(hm:m'.Is W F h' a):
  bc W X F rho sg' {s with heap:=h',toks:=tk}:=by
 refine dp fun C_ k_=> ?_;obtain⟨x,y,rfl,rfl⟩:=U.split;have hmem:d∈X.own++adrs (x++(a,m)::y):=List.mem_append_right _ (dR (p:=(a,m)) (List.mem_append_right _ (.head _)) hd);have hadrs:adrs (x++(a,m')::y)=adrs (x++(a,m)::y):=by rw[de,de,cE,cE];show _++(m'.adrs a++_)=_++(m.adrs a++_);rw[hadr]
 have nd:=R.nd;have dF:=R.ds d hmem;have ne:∀b o,F b=some o→b≠d:=fun b o e q=>by rw[q,dF.1]at e;cases e
 have nk:∀b o,X.kept b=some o→b≠d:=fun b o e q=>by rw[q,dF.2]at e;cases e
 refine k_ ?_;rw[List.nodup_append]at nd;have dA:d∈adrs (x++(a,m)::y):=dR (p:=(a,m)) (List.mem_append_right _ (.head _)) hd;have no:∀b∈X.own,b≠d:=fun b hb q=>nd.2.2 b hb d dA q;have fz:∀b o,F b=some o→h'.get? b=some o:=fun b o e=>(hs.2 b (ne b o e)).trans (R.fz b o e);have keepL:∀o,s.heap.get? X.env.locals=some o→h'.get? X.env.locals=some o:=fun o e=>(hs.2 _ (no _ X.hL)).trans e;have keepC:∀z c,X.env.cells.lookup z=some c→∀o,s.heap.get? c=some o→h'.get? c=some o:=fun z c hc o e=>by
  refine(hs.2 c ?_).trans e;rcases(X.hce z c hc).2 with h|⟨o',h⟩
  ·exact no c h
  ·exact nk c o' h
 have others:∀p,p∈x∨p∈y→∀b∈p.2.adrs p.1,b≠d:=by
  intro p hp b hb q;subst q;have n2:=nd.2.1;rw[de,cE,List.nodup_append,List.nodup_append]at n2;rcases hp with hp|hp
  ·exact n2.2.2 b (dR hp hb) b (List.mem_append_left _ hd) rfl
  ·exact n2.2.1.2.2 b hd b (dR hp hb) rfl
 exact {
  fz:=fz
  kp:=fun b o e=>(hs.2 b (nk b o e)).trans (R.kp b o e)
  bs:=R.bs
  va:=fun i z c hx hc=>let⟨v,hv,r⟩:=R.va i z c hx hc;⟨v,hv.keep keepL (keepC z),r⟩
  ns:=let⟨m,hn⟩:=R.ns;⟨m,hn.at' keepL⟩
  ce:=fun z c hc=>let⟨v,o,e,r⟩:=R.ce z c hc;⟨v,o,keepC z c hc o e,r⟩
  mo:=fun p hp=>by
   rcases List.mem_append.mp hp with hp|hp
   ·exact(R.mo p (List.mem_append_left _ hp)).keep (.refl F) fz fun b hb o e=>(hs.2 b (others p (.inl hp) b hb)).trans e
   ·rcases List.mem_cons.mp hp with rfl|hp
    ·exact hm
    ·exact(R.mo p (List.mem_append_right _ (.tail _ hp))).keep (.refl F) fz fun b hb o e=>(hs.2 b (others p (.inr hp) b hb)).trans e
  nd:=by rw[hadrs];exact R.nd
  th:=fun b hb=>let⟨o,e⟩:=R.th b hb;⟨o,(hs.2 b (no b hb)).trans e⟩
  ds:=fun b hb=>by rw[hadrs]at hb;exact R.ds b hb
  dk:=R.dk
  gens:=R.gens
  os:=R.os}
theorem bc.sub(R:bc W X F rho sg s)(h:sg'.Sublist sg):bc W X F rho sg' s:=
 have hA:(adrs sg').Sublist (adrs sg):=by
  clear R;induction h with
  |slnil=>exact .slnil
  |cons p _ ih=>rw[cE];exact ih.trans (List.sublist_append_right _ _)
  |cons_cons p _ ih=>rw[cE,cE];exact(List.Sublist.refl _).append ih
 have hS:=(List.Sublist.refl X.own).append hA
 {R with mo:=fun p hp=>R.mo p (h.subset hp),nd:=R.nd.sublist hS,ds:=fun a ha=>R.ds a (hS.subset ha)}
theorem gv.sublistMem{a:Addr}{m m':MO}(U:gv a m m' sg sg'):(a,m)∈sg:=by obtain⟨x,y,rfl,_⟩:=U.split;simp
theorem oH.mem{a:Addr}{m:MO}(U:oH a m sg sg'):(a,m)∈sg:=by obtain⟨x,y,rfl,_⟩:=U.split;simp
theorem oH.sub{a:Addr}{m:MO}(U:oH a m sg sg'):sg'.Sublist sg:=by
 obtain⟨x,y,rfl,rfl⟩:=U.split;exact(List.Sublist.refl x).append (List.sublist_cons_self _ _)
end
noncomputable def MO.tree:MO→CV
 | .lst l=> .lst l
 | .sd l=> .sd l
 | .nd l=> .nd l
 | .pd _=> .none
 | .obj C _ fs=> .obj C fs
noncomputable def MO.solid:MO→Bool
 | .pd _=>false
 |_=>true
section
variable {W:Wd}{X:FX}{F:Fz}{rho:List (Option CV)}{sg sg':Sg}{s:Shared}
theorem bc.put{G:Fz}(RG:bc W X G rho sg s){b:Addr}{o:Obj}(sep:b∉X.own++adrs sg)(kn:X.kept b=none)(e:s.heap.get? b=some o)(hn:G b=none):G.le (G.put b o)∧bc W X (G.put b o) rho sg s:=by
 have le:=Fz.le_put o hn;refine⟨le,RG.keepF (h':=s.heap) (tk:=s.toks) le (fun c z q=> ?_) (fun c hc=> ?_) (fun c z q=> ?_) fun O O e O=>e⟩
 ·by_cases qq:c=b
  ·subst qq;rw[Fz.put_self]at q;cases q;exact e
  ·rw[Fz.put_ne G o qq]at q;exact RG.fz c z q
 ·have qq:c≠b:=fun qq=>sep (qq▸hc);rw[Fz.put_ne G o qq];exact(RG.ds c hc).1
 ·have qq:c≠b:=fun qq=>by rw[qq,kn]at q;cases q
  rw[Fz.put_ne G o qq];exact RG.dk c z q
theorem bc.apart(R:bc W X F rho sg s){a:Addr}{m:MO}(P:oH a m sg sg'):∀b∈m.adrs a,b∉X.own++adrs sg'∧X.kept b=none∧F b=none:=fun b hb=>by
 have hin:=dR P.mem hb;have nd:=R.nd;have h2:=R.ds b (List.mem_append_right _ hin);refine⟨fun hq=> ?_,h2.2,h2.1⟩;rw[List.nodup_append]at nd;rcases List.mem_append.mp hq with hq|hq
 ·exact nd.2.2 b hq b hin rfl
 ·obtain⟨x,y,rfl,rfl⟩:=P.split;have ndA:=nd.2.1;rw[de,cE,List.nodup_append,List.nodup_append]at ndA;rw[de]at hq;rcases List.mem_append.mp hq with hq|hq
  ·exact ndA.2.2 b hq b (List.mem_append_left _ hb) rfl
  ·exact ndA.2.1.2.2 b hb b hq rfl
theorem bc.freeze(R:bc W X F rho sg s){a:Addr}{m:MO}(P:oH a m sg sg')(hm:m.solid=true):∃G,F.le G∧bc W X G rho sg' s∧bC W G (.ref a) m.tree:=by
 have Mm:=R.mo _ P.mem;have ap:=R.apart P;have R':=R.sub P.sub;have self:a∈m.adrs a:=by cases m<;>exact .head _
 have one:=fun {o} e=>R'.put (o:=o) (ap a self).1 (ap a self).2.1 e (ap a self).2.2;cases m with
 |pd l=>exact ff hm
 |obj C dx fs=>
  obtain⟨e,es,n,e2,r⟩:=Mm;have nad:dx≠a:=fun q=>by
   obtain⟨x,y,rfl,rfl⟩:=P.split;have ndA:=(List.nodup_append.mp R.nd).2.1;rw[de,cE,List.nodup_append,List.nodup_append]at ndA;exact(List.nodup_cons.mp ndA.2.1.1).1 (q▸.head _)
  have ap2:=ap dx (.tail _ (.head _));obtain⟨le,R2⟩:=one e;obtain⟨le2,R3⟩:=R2.put ap2.1 ap2.2.1 e2 (by rw[Fz.put_ne F _ nad];exact ap2.2.2)
  exact⟨_,le.trans le2,R3,.obj (by rw[Fz.put_ne _ _ (Ne.symm nad)];exact Fz.put_self ..) (Fz.put_self ..) (r.mono (le.trans le2))⟩
 |lst l=>
  refine el22 Mm fun vs n e r=> ?_;exact⟨_,(one e).1,(one e).2,.lst (Fz.put_self ..) (r.mono (one e).1)⟩
 |sd l=>
  obtain⟨q,o,kvs,e,r,t⟩:=Mm;exact⟨_,(one e).1,(one e).2,.sd (Fz.put_self ..) q r (t.mono (one e).1)⟩
 |nd l=>
  obtain⟨q,o,kvs,e,r,t⟩:=Mm;exact⟨_,(one e).1,(one e).2,.nd (Fz.put_self ..) q r (t.mono (one e).1)⟩
end
inductive Fl where
 |next|brk|cont|ret (c:CV)
def BZ(W:Wd)(F:Fz)(f:Flow)(g:Fl):Prop:=match g with
 | .next=>f= .next
 | .brk=>f= .brk
 | .cont=>f= .cont
 | .ret c=>∃v,f= .ret v∧bC W F v c
abbrev bp:=List (Option CV)
section
variable {W:Wd}{F:Fz}{v:Value}{P:Value→Prop}
theorem bC.onInt{i:Int}(h:bC W F v (.int i))(k:∀t,P (.int i t)):P v:=by cases (h.inv:DR i v)with|mk t=>exact k t
theorem bC.onStr{i:Str}(h:bC W F v (.str i))(k:∀t,P (.str i t)):P v:=by cases (h.inv:He i v)with|mk t=>exact k t
theorem bC.onByt{i:Array UInt8}(h:bC W F v (.byt i))(k:∀t,P (.bytes i t)):P v:=by cases (h.inv:GX i v)with|mk t=>exact k t
theorem bC.onNone(h:bC W F v .none)(k:P .none):P v:=(h.inv:v= .none)▸k
theorem bC.onBool{b:Bool}(h:bC W F v (.bool b))(k:P (.bool b)):P v:=(h.inv:v= .bool b)▸k
theorem bC.onRef{a:Addr}(h:bC W F v (.ref a))(k:P (.ref a)):P v:=(h.inv:v= .ref a)▸k
theorem bC.onTup{l:List CV}(h:bC W F v (.tup l))(k:∀a o vs n,F a=some o→o.cls= .type "tuple"→o.data= .seq (List.toArray vs) n→b6 W F vs l→P (.ref a)):P v:=by cases (h.inv:B8 W F l v)with|mk h1 h2 h3 h4=>exact k _ _ _ _ h1 h2 h3 h4
theorem bC.onLst{l:List CV}(h:bC W F v (.lst l))(k:∀a vs n,F a=some (listOf (List.toArray vs) n)→b6 W F vs l→P (.ref a)):P v:=by cases (h.inv:G0 W F l v)with|mk h1 h2=>exact k _ _ _ h1 h2
theorem bC.onSd{l:List (Str×CV)}(h:bC W F v (.sd l))(k:∀a o kvs,F a=some o→a≠sysModules→o.IsDictOf (strKind W.prog W.w) kvs→uc W F kvs l→P (.ref a)):P v:=by cases (h.inv:K3 W F l v)with|mk h1 h2 h3 h4=>exact k _ _ _ h1 h2 h3 h4
theorem bC.onNd{l:List (Int×CV)}(h:bC W F v (.nd l))(k:∀a o kvs,F a=some o→a≠sysModules→o.IsDictOf (intKind W.prog W.w) kvs→As W F kvs l→P (.ref a)):P v:=by cases (h.inv:K1 W F l v)with|mk h1 h2 h3 h4=>exact k _ _ _ h1 h2 h3 h4
theorem bC.onObj{C:Addr}{fs:List (Str×CV)}(h:bC W F v (.obj C fs))(k:∀a dx es n,F a=some (instObj C dx)→F dx=some (dictOf es n)→lB W F es fs→P (.ref a)):P v:=by cases (h.inv:G6 W F C fs v)with|mk h1 h2 h3=>exact k _ _ _ _ h1 h2 h3
end
def Le{α β:Type}(W:Wd)(X:FX)(V:Fz→α→β→Prop)(t:Sem α)(rho:bp)(sg:Sg)(Q:β→Sg→Prop)(E:Value→Shared→Prop):Prop:=
 ∀F s (K:α→Shared→Prop),bc W X F rho sg s→(∀G a b sg' s',F.le G→bc W X G rho sg' s'→V G a b→Q b sg'→K a s')→wpAny (model W.prog W.w) X.A t K E s
abbrev Hb(W:Wd)(X:FX):=Le W X (bC W)
abbrev Ii(W:Wd)(X:FX):=Le W X (b6 W)
abbrev G_(W:Wd)(X:FX):=Le (α:=Bool) (β:=Bool) W X (fun O a b=>a=b)
def Ha(W:Wd)(X:FX)(t:Sem Flow)(rho:bp)(sg:Sg)(Q:Fl→bp→Sg→Prop)(E:Value→Shared→Prop):Prop:=
 ∀F s (K:Flow→Shared→Prop),bc W X F rho sg s→(∀G f g rho' sg' s',F.le G→bc W X G rho' sg' s'→BZ W G f g→Q g rho' sg'→K f s')→wpAny (model W.prog W.w) X.A t K E s
abbrev PE:=bp→Sg→(CV→Sg→Prop)→Prop
abbrev t5:=bp→Sg→(List CV→Sg→Prop)→Prop
abbrev PB:=bp→Sg→(Bool→Sg→Prop)→Prop
abbrev PS:=bp→Sg→(Fl→bp→Sg→Prop)→Prop
@[irreducible] def cQ(W:Wd)(X:FX)(e:Expr)(p:PE):Prop:=∀rho sg Q E,p rho sg Q→Hb W X (eval e X.env) rho sg Q E
@[irreducible] def lC(W:Wd)(X:FX)(pos:Pos)(es:List Expr)(p:t5):Prop:=∀rho sg Q E,p rho sg Q→Ii W X (spliced (backTo pos (starEach es X.env))) rho sg Q E
@[irreducible] def uI(W:Wd)(X:FX)(e:Expr)(p:PB):Prop:=∀rho sg Q E,p rho sg Q→G_ W X (isTrue e X.env (eval e X.env)) rho sg Q E
@[irreducible] def r_(W:Wd)(X:FX)(st:Stmt)(p:PS):Prop:=∀rho sg Q E,p rho sg Q→Ha W X (exec st X.env) rho sg Q E
@[irreducible] def ix(W:Wd)(X:FX)(sts:List Stmt)(p:PS):Prop:=∀rho sg Q E,p rho sg Q→Ha W X (execs sts X.env) rho sg Q E
section
variable {W:Wd}{X:FX}
theorem cQ.of{W:Wd}{X:FX}{e:Expr}{p:PE}(h:∀rho sg Q E,p rho sg Q→Hb W X (eval e X.env) rho sg Q E):cQ W X e p:=by delta cQ;exact h
theorem cQ.go{W:Wd}{X:FX}{e:Expr}{p:PE}(h:cQ W X e p){rho:bp}{sg:Sg}{Q:CV→Sg→Prop}{E:Value→Shared→Prop}{F:Fz}{s:Shared}{K:Value→Shared→Prop}(hp:p rho sg Q)(R:bc W X F rho sg s)(hK:∀G a b sg' s',F.le G→bc W X G rho sg' s'→bC W G a b→Q b sg'→K a s'):wpAny (model W.prog W.w) X.A (eval e X.env) K E s:=by delta cQ at h;exact h _ _ _ E hp F s K R hK
theorem lC.of{W:Wd}{X:FX}{pos:Pos}{es:List Expr}{p:t5}(h:∀rho sg Q E,p rho sg Q→Ii W X (spliced (backTo pos (starEach es X.env))) rho sg Q E):lC W X pos es p:=by delta lC;exact h
theorem lC.go{W:Wd}{X:FX}{pos:Pos}{es:List Expr}{p:t5}(h:lC W X pos es p){rho:bp}{sg:Sg}{Q:List CV→Sg→Prop}{E:Value→Shared→Prop}{F:Fz}{s:Shared}{K:List Value→Shared→Prop}(hp:p rho sg Q)(R:bc W X F rho sg s)(hK:∀G a b sg' s',F.le G→bc W X G rho sg' s'→b6 W G a b→Q b sg'→K a s'):wpAny (model W.prog W.w) X.A (spliced (backTo pos (starEach es X.env))) K E s:=by delta lC at h;exact h _ _ _ E hp F s K R hK
theorem uI.of{W:Wd}{X:FX}{e:Expr}{p:PB}(h:∀rho sg Q E,p rho sg Q→G_ W X (isTrue e X.env (eval e X.env)) rho sg Q E):uI W X e p:=by delta uI;exact h
theorem uI.go{W:Wd}{X:FX}{e:Expr}{p:PB}(h:uI W X e p){rho:bp}{sg:Sg}{Q:Bool→Sg→Prop}{E:Value→Shared→Prop}{F:Fz}{s:Shared}{K:Bool→Shared→Prop}(hp:p rho sg Q)(R:bc W X F rho sg s)(hK:∀G a b sg' s',F.le G→bc W X G rho sg' s'→a=b→Q b sg'→K a s'):wpAny (model W.prog W.w) X.A (isTrue e X.env (eval e X.env)) K E s:=by delta uI at h;exact h _ _ _ E hp F s K R hK
theorem r_.of{W:Wd}{X:FX}{st:Stmt}{p:PS}(h:∀rho sg Q E,p rho sg Q→Ha W X (exec st X.env) rho sg Q E):r_ W X st p:=by delta r_;exact h
theorem r_.go{W:Wd}{X:FX}{st:Stmt}{p:PS}(h:r_ W X st p){rho:bp}{sg:Sg}{Q:Fl→bp→Sg→Prop}{E:Value→Shared→Prop}{F:Fz}{s:Shared}{K:Flow→Shared→Prop}(hp:p rho sg Q)(R:bc W X F rho sg s)(hK:∀G f g rho' sg' s',F.le G→bc W X G rho' sg' s'→BZ W G f g→Q g rho' sg'→K f s'):wpAny (model W.prog W.w) X.A (exec st X.env) K E s:=by delta r_ at h;exact h _ _ _ E hp F s K R hK
theorem ix.of{W:Wd}{X:FX}{sts:List Stmt}{p:PS}(h:∀rho sg Q E,p rho sg Q→Ha W X (execs sts X.env) rho sg Q E):ix W X sts p:=by delta ix;exact h
theorem ix.go{W:Wd}{X:FX}{sts:List Stmt}{p:PS}(h:ix W X sts p){rho:bp}{sg:Sg}{Q:Fl→bp→Sg→Prop}{E:Value→Shared→Prop}{F:Fz}{s:Shared}{K:Flow→Shared→Prop}(hp:p rho sg Q)(R:bc W X F rho sg s)(hK:∀G f g rho' sg' s',F.le G→bc W X G rho' sg' s'→BZ W G f g→Q g rho' sg'→K f s'):wpAny (model W.prog W.w) X.A (execs sts X.env) K E s:=by delta ix at h;exact h _ _ _ E hp F s K R hK
theorem bc.base{F:Fz}{rho:bp}{sg:Sg}{s:Shared}(R:bc W X F rho sg s):∀b o,W.base.get? b=some o→s.heap.get? b=some o:=fun b o e=>R.fz b o (R.bs b o e)
theorem bc.kin{F:Fz}{rho:bp}{sg:Sg}{s:Shared}(R:bc W X F rho sg s):W.K.In s.heap:=W.kin.keeps R.base
def aK(c:CV):PE:=fun O sg Q=>Q c sg
theorem av{i:Int}{k:Nat}{pos:Pos}:cQ W X (.Constant (.int i) k pos) (aK (.int i)):= .of fun rho sg Q E h F s K R hK=>wpAny_Constant_int (hK F _ _ _ _ (.refl F) R.tok (.int i _) h)
theorem aI{x:Str}{k:Nat}{pos:Pos}:cQ W X (.Constant (.str x) k pos) (aK (.str x)):= .of fun rho sg Q E h F s K R hK=>Constant_str (hK F _ _ _ _ (.refl F) R.tok (.str x _) h)
theorem bE{k:Nat}{pos:Pos}:cQ W X (.Constant .none k pos) (aK .none):= .of fun rho sg Q E h F s K R hK=>by rw[eval_Constant];exact wpAny_pure (hK F _ _ _ _ (.refl F) R .none h)
theorem gC{b:Bool}{k:Nat}{pos:Pos}:cQ W X (.Constant (.bool b) k pos) (aK (.bool b)):= .of fun rho sg Q E h F s K R hK=>by rw[eval_Constant];exact wpAny_pure (hK F _ _ _ _ (.refl F) R (.bool b) h)
theorem Bk{b:List UInt8}{k:Nat}{pos:Pos}:cQ W X (.Constant (.bytes b) k pos) (aK (.byt b.toArray)):= .of fun rho sg Q E h F s K R hK=>by
 rw[eval_Constant];exact wpAny_bind (m:=fresh) (wpAny_fresh (wpAny_pure (hK F _ _ _ _ (.refl F) R.tok (.byt _ _) h)))
def ak(i:Nat):PE:=fun rho sg Q=>match rho[i]? with
 |some (some c)=>Q c sg
 |_=>False
theorem wL{x:Str}{pos:Pos}{i:Nat}{c:CV}{K E:Value→Shared→Prop}(hx:X.names[i]? =some x)(R:bc W X F rho sg s)(hc:rho[i]? =some (some c))(h:∀v,bC W F v c→K v s):wpAny (model W.prog W.w) X.A (eval (.Name x pos) X.env) K E s:=by
 obtain⟨v,hv,r⟩:=R.va i x c hx hc;have hdb:=X.hdb x (List.mem_of_getElem? hx);refine wpAny_Name ?_ hdb.1;rcases hv with⟨hk,m,hn,hm⟩|⟨hk,ca,hca,hcell⟩
 ·exact wpAny_loadName_local X.hk hk hn hm (h v r)
 ·rcases hk with hk|hk
  ·exact wpAny_loadName_cell X.hk hk hca hcell (h v r)
  ·exact wpAny_loadName_free X.hk hk hca hcell (h v r) hdb.2
theorem ad{ns:List Str}{x:Str}{pos:Pos}(i:Nat)(hn:X.names=ns)(hx:ns[i]? =some x):cQ W X (.Name x pos) (ak i):= .of fun rho sg Q E hp F s K R hK=>by
 unfold ak at hp;cases hc:rho[i]? with
 |none=>rw[hc]at hp;exact hp.elim
 |some o=>cases o with
  |none=>rw[hc]at hp;exact hp.elim
  |some c=>rw[hc]at hp;exact wL (hn▸hx) R hc fun v r=>hK F v c sg s (.refl F) R r hp
theorem fe{gs:List Str}{x:Str}{v:Value}(j:Nat)(hgs:X.globs=gs)(hj:gs[j]? =some x)(hv:nsIn W.K mainGlobals x=some (some v)){F:Fz}{rho:bp}{sg:Sg}{s:Shared}(R:bc W X F rho sg s){pos:Pos}{A:Around}{Q E:Value→Shared→Prop}(h:Q v s):wpAny (model W.prog W.w) A (eval (.Name x pos) X.env) Q E s:=
 have g:=X.hgb x (by rw[hgs];exact List.mem_of_getElem? hj)
 Name_function_global X.hk g.1 (loadGlobal_global (mg:=W.mg) (by rw[X.hgl];exact W.hg.keeps R.base) (mg_of W.kin W.hg hv) h) g.2
theorem gE{gs:List Str}{x:Str}{v:Value}(j:Nat)(hgs:X.globs=gs)(hj:gs[j]? =some x)(hv:nsIn W.K mainGlobals x=some none)(hb:bootBuiltins x=some v)(hn:x≠"__name__"){F:Fz}{rho:bp}{sg:Sg}{s:Shared}(R:bc W X F rho sg s){pos:Pos}{A:Around}{Q E:Value→Shared→Prop}(h:Q v s):wpAny (model W.prog W.w) A (eval (.Name x pos) X.env) Q E s:=
 have g:=X.hgb x (by rw[hgs];exact List.mem_of_getElem? hj)
 Name_function_global X.hk g.1 (loadGlobal_builtin (mg:=W.mg) (mb:=W.mb) (by rw[X.hgl];exact W.hg.keeps R.base) (mg_none_of W.kin W.hg hv) (by rw[X.hbu];exact W.hb.keeps R.base) ((W.hbi x hn).trans hb) h) g.2
theorem CB{gs:List Str}{x:Str}{pos:Pos}{i:Int}{t:Tok}(j:Nat)(hgs:X.globs=gs)(hj:gs[j]? =some x)(hv:nsIn W.K mainGlobals x=some (some (.int i t))):cQ W X (.Name x pos) (aK (.int i)):= .of fun rho sg Q E h F s K R hK=>fe j hgs hj hv R (hK F _ _ _ _ (.refl F) R (.int i t) h)
theorem CC{gs:List Str}{x:Str}{pos:Pos}{a:Addr}{dd:Option Addr}{vs:List Value}{n:Nat}{sl:Array (Option Value)}{l:List CV}(j:Nat)(hgs:X.globs=gs)(hj:gs[j]? =some x)(hv:nsIn W.K mainGlobals x=some (some (.ref a)))
  (hl:W.K.lookup a=some ⟨.type "tuple",dd,.seq vs.toArray n,sl⟩) (hvs:∀F,b6 W F vs l):
  cQ W X (.Name x pos) (aK (.tup l)):= .of fun rho sg Q E h F s K R hK=>fe j hgs hj hv R (hK F _ _ _ _ (.refl F) R (.tup (R.bs _ _ (W.kin _ _ hl)) rfl rfl (hvs F)) h)
def aq:t5:=fun O sg Q=>Q [] sg
def HP(c:CV)(Q:List CV→Sg→Prop):List CV→Sg→Prop:=fun cs sg2=>Q (c::cs) sg2
def Jm(ps:t5)(rho:bp)(Q:List CV→Sg→Prop):CV→Sg→Prop:=fun c sg1=>ps rho sg1 (HP c Q)
def ah(p:PE)(ps:t5):t5:=fun rho sg Q=>p rho sg (Jm ps rho Q)
theorem af{pos:Pos}:lC W X pos [] aq:= .of fun rho sg Q E h F s K R hK=>args_nil (hK F _ _ _ _ (.refl F) R .nil h)
theorem ae{pos:Pos}{e:Expr}{es:List Expr}{p:PE}{ps:t5}(he:starEach (e::es) X.env=(false,eval e X.env)::starEach es X.env)(h1:cQ W X e p)(h2:lC W X pos es ps):lC W X pos (e::es) (ah p ps):= .of fun rho sg Q E h F s K R hK=>
 args_cons (h1.go h R fun G v c sg1 s1 le1 R1 r1 h'=>h2.go h' R1 fun G2 vs cs sg2 s2 le2 R2 r2 h''=>hK G2 _ _ _ _ (le1.trans le2) R2 (.cons (r1.mono le2) r2) h'') he
theorem bJ{h:Heap}:h.get? h.objs.size=none:=by
 cases e:h.get? h.objs.size with
 |none=>rfl
 |some o=>exact absurd (Heap.lt_size e) (Nat.lt_irrefl _)
theorem aY(h:Heap)(o:Obj):∀b x,h.get? b=some x→(h.push o).get? b=some x:=fun O O e=>Heap.get?_push_of_some o e
def small(n:Nat):Prop:=n≤1000
theorem small.line{n:Nat}(h:small n):n≤sizeLine:=by rw[sizeLine_eq];unfold small at h;exact Nat.le_trans (by assumption) (by decide)
theorem sm{n:Nat}(h:Nat.ble n 1000=true):small n:=Nat.le_of_ble_eq_true h
def Kl(Q:CV→Sg→Prop):List CV→Sg→Prop:=fun cs sg1=>small cs.length∧Q (.tup cs) sg1
def dK(ps:t5):PE:=fun rho sg Q=>ps rho sg (Kl Q)
theorem bB{es:List Expr}{k:Nat}{pos:Pos}{ps:t5}(h:lC W X pos es ps):cQ W X (.Tuple es k pos) (dK ps):= .of fun rho sg Q E hp F s K R hK=>by
 refine Tuple_ (h.go hp R fun G vs cs sg1 s1 le1 R1 r1 h'=> ?_);refine wpAny_newTuple ?_ (by rw[r1.length];exact h'.1.line)
 obtain⟨le2,R2⟩:=R1.addF (h':=s1.heap.push {cls:= .type "tuple",data:= .seq vs.toArray}) (tk:=s1.toks) (aY _ _) bJ (Heap.get?_push_size _ rfl);exact hK _ _ _ _ _ (le1.trans le2) R2 (.tup (Fz.put_self ..) rfl rfl (r1.mono le2)) h'.2
def I1(Q:CV→Sg→Prop):List CV→Sg→Prop:=fun cs sg1=>small cs.length∧∀a,Q (.ref a) ((a,.lst cs)::sg1)
def cT(ps:t5):PE:=fun rho sg Q=>ps rho sg (I1 Q)
theorem bD{es:List Expr}{pos:Pos}{ps:t5}(h:lC W X pos es ps):cQ W X (.List es pos) (cT ps):= .of fun rho sg Q E hp F s K R hK=>by
 refine List_ (h.go hp R fun G vs cs sg1 s1 le1 R1 r1 h'=> ?_);refine wpAny_newList ?_ (by rw[r1.length];exact h'.1.line)
 have R2:=R1.addM (h':=s1.heap.push (listOf vs.toArray 0)) (tk:=s1.toks) (m:= .lst cs) (a:=s1.heap.objs.size) (aY _ _) (by intro b hb;simp[MO.adrs]at hb;subst hb;exact bJ) (by simp[MO.adrs])
  ⟨vs,0,Heap.get?_push_size _ rfl,r1⟩
 exact hK _ _ _ _ _ le1 R2 (.ref _) (h'.2 _)
inductive LQ(a:Addr)(Q:CV→Sg→Prop)(sg1:Sg):Prop
 |mk (m:MO) (sg2:Sg):oH a m sg1 sg2→m.solid=true→Q m.tree sg2→LQ a Q sg1
def Lq(Q:CV→Sg→Prop)(c:CV)(sg1:Sg):Prop:=match c with
 | .ref a=>LQ a Q sg1
 |c=>Q c sg1
def fv(p:PE):PE:=fun rho sg Q=>p rho sg (Lq Q)
inductive Dh{α:Type}(A:α→Prop)(Q:α→Sg→Prop)(sg:Sg):Prop
 |mk (x:α):A x→Q x sg→Dh A Q sg
structure Dd(b:Bool)(A B:Prop):Prop where
 t:b=true→A
 f:b=false→B
theorem Dd.y{A B:Prop}(h:A):Dd true A B:=⟨fun O=>h,fun e=>Bool.noConfusion e⟩
theorem Dd.n{A B:Prop}(h:B):Dd false A B:=⟨fun e=>Bool.noConfusion e,fun O=>h⟩
theorem aT{e:Expr}{p:PE}(h:cQ W X e p):cQ W X e (fv p):= .of fun rho sg Q E hp F s K R hK=>h.go hp R fun G v c sg1 s1 le1 R1 r1 h'=>by
 cases c with
 |ref a=>
  obtain⟨m,sg2,P,hm,hq⟩:=h';refine el13 (R1.freeze P hm) fun G2 le2 R2 V2=> ?_;apply r1.onRef;exact hK _ _ _ _ _ (le1.trans le2) R2 V2 hq
 |_=>exact hK _ _ _ _ _ le1 R1 r1 h'
end
structure kO(W:Wd)(kept F:Fz)(sg:Sg)(s:Shared):Prop where
 fz:∀a o,F a=some o→s.heap.get? a=some o
 kp:∀a o,kept a=some o→s.heap.get? a=some o
 bs:∀a o,W.base.get? a=some o→F a=some o
 mo:∀p∈sg,p.2.Is W F s.heap p.1
 nd:(adrs sg).Nodup
 ds:∀a,a∈adrs sg→F a=none∧kept a=none
 dk:∀a o,kept a=some o→F a=none
 gens:s.gens= #[]
 os:s.os=W.os
abbrev ao:=List CV→Sg→(CV→Sg→Prop)→Prop
def B5(K:Value→Shared→Prop)(E:Value→Shared→Prop)(r:Result)(s':Shared):Prop:=match r with
 | .ok (.ret v)=>K v s'
 | .ok _=>False
 | .error e=>E e s'
def ax(W:Wd)(n:Nat)(f:Value)(sp:ao):Prop:=
 ∀(A:Around) (kept F:Fz) (vs:List Value) (cs:List CV) (sg:Sg) (s:Shared) (Q:CV→Sg→Prop) (K E:Value→Shared→Prop),A.handled=none→A.depth+3*n≤900→A.units+30*n≤9000→
  kO W kept F sg s→b6 W F vs cs→sp cs sg Q→(∀G v c sg' s',F.le G→kO W kept G sg' s'→bC W G v c→Q c sg'→K v s')→
  codeAny (model W.prog W.w) A (.call f ⟨vs,[]⟩) (B5 K E) s
section
variable {W:Wd}{X:FX}{F:Fz}{rho:bp}{sg sg':Sg}{s s':Shared}
open Classical in
noncomputable def FX.keptAll(X:FX)(s:Shared):Fz:=fun a=>if a∈X.own then s.heap.get? a else X.kept a
theorem bX{a:Addr}(h:a∈X.own):X.keptAll s a=s.heap.get? a:=by simp[FX.keptAll,h]
theorem bu{a:Addr}(h:a∉X.own):X.keptAll s a=X.kept a:=by simp[FX.keptAll,h]
theorem bc.kept_not_own(R:bc W X F rho sg s){a:Addr}{o:Obj}(e:X.kept a=some o):a∉X.own:=fun hm=>by
 have:=(R.ds a (List.mem_append_left _ hm)).2;rw[this]at e;cases e
theorem bc.toC(R:bc W X F rho sg s):kO W (X.keptAll s) F sg s where
 fz:=R.fz
 kp:=fun a o e=>by
  by_cases h:a∈X.own
  ·rw[bX h]at e;exact e
  ·rw[bu h]at e;exact R.kp a o e
 bs:=R.bs
 mo:=R.mo
 nd:=(List.nodup_append.mp R.nd).2.1
 ds:=fun a ha=>⟨(R.ds a (List.mem_append_right _ ha)).1,by
  have h:a∉X.own:=fun hm=>(List.nodup_append.mp R.nd).2.2 a hm a ha rfl;rw[bu h];exact(R.ds a (List.mem_append_right _ ha)).2⟩
 dk:=fun a o e=>by
  by_cases h:a∈X.own
  ·exact(R.ds a (List.mem_append_left _ h)).1
  ·rw[bu h]at e;exact R.dk a o e
 gens:=R.gens
 os:=R.os
theorem bc.back(R:bc W X F rho sg s){G:Fz}(le:F.le G)(C:kO W (X.keptAll s) G sg' s'):bc W X G rho sg' s':=by
 have keepO:∀a∈X.own,∀o,s.heap.get? a=some o→s'.heap.get? a=some o:=fun a ha o e=>C.kp a o (by rw[bX ha];exact e)
 have keepK:∀a o,X.kept a=some o→s'.heap.get? a=some o:=fun a o e=>C.kp a o (by rw[bu (R.kept_not_own e)];exact e)
 have keepC:∀z c,X.env.cells.lookup z=some c→∀o,s.heap.get? c=some o→s'.heap.get? c=some o:=fun z c hc o e=>by
  rcases(X.hce z c hc).2 with h|⟨o',h⟩
  ·exact keepO c h o e
  ·have:=R.kp c o' h;rw[e]at this;cases this;exact keepK c o h
 have some_:∀a∈X.own,∃o,X.keptAll s a=some o:=fun a ha=>by rw[bX ha];exact R.th a ha
 exact {
  fz:=C.fz
  kp:=keepK
  bs:=C.bs
  va:=fun i x c hx hc=>let⟨v,hv,r⟩:=R.va i x c hx hc;⟨v,hv.keep (keepO _ X.hL) (keepC x),r.mono le⟩
  ns:=let⟨m,hn⟩:=R.ns;⟨m,hn.at' (keepO _ X.hL)⟩
  ce:=fun x c hc=>let⟨v,o,e,r⟩:=R.ce x c hc;⟨v,o,keepC x c hc o e,r⟩
  mo:=C.mo
  nd:=by
   rw[List.nodup_append];refine⟨(List.nodup_append.mp R.nd).1,C.nd,fun a ha b hb e=> ?_⟩;subst e;obtain⟨o,h⟩:=some_ a ha;rw[(C.ds a hb).2]at h;cases h
  th:=fun a ha=>let⟨o,e⟩:=R.th a ha;⟨o,keepO a ha o e⟩
  ds:=fun a ha=>by
   rcases List.mem_append.mp ha with h|h
   ·obtain⟨o,e⟩:=some_ a h;exact⟨C.dk a o e,(R.ds a (List.mem_append_left _ h)).2⟩
   ·have h':a∉X.own:=fun hm=>by
     obtain⟨o,e⟩:=some_ a hm;rw[(C.ds a h).2]at e;cases e
    exact⟨(C.ds a h).1,by have:=(C.ds a h).2;rw[bu h']at this;exact this⟩
  dk:=fun a o e=>C.dk a o (by rw[bu (R.kept_not_own e)];exact e)
  gens:=C.gens
  os:=C.os}
theorem uM{n:Nat}{f:Value}{sp:ao}(ok:ax W n f sp)(hn:n≤X.n){vs:List Value}{cs:List CV}{Q:CV→Sg→Prop}{K E:Value→Shared→Prop}(R:bc W X F rho sg s)(hv:b6 W F vs cs)(h:sp cs sg Q)
  (hK:∀G v c sg' s',F.le G→bc W X G rho sg' s'→bC W G v c→Q c sg'→K v s'):wpAny (model W.prog W.w) X.A (call f vs) K E s:=by
 exact wpAny_call (codeAny_mono (ok X.A (X.keptAll s) F vs cs sg s Q K E X.hh (GQ hn X.hd) (GQ hn X.hu) R.toC hv h fun G v c sg' s' le C r hq=>hK G v c sg' s' le (R.back le C) r hq) fun r s' h=>by
  rcases r with e|(_|_|_|v)<;>exact h)
def IW(sp:ao)(Q:CV→Sg→Prop):List CV→Sg→Prop:=fun cs sg1=>sp cs sg1 Q
def aA(sp:ao)(ps:t5):PE:=fun rho sg Q=>ps rho sg (IW sp Q)
theorem Bl{gs:List Str}{x:Str}{pos np:Pos}{f:Value}{sp:ao}{n:Nat}(j:Nat)(hgs:X.globs=gs)(hj:gs[j]? =some x)(hv:nsIn W.K mainGlobals x=some (some f))(hkp:keepIn W.K f=true)(ok:ax W n f sp)(hn:n≤X.n):
  cQ W X (.Call (.Name x np) [] [] pos) (aA sp aq):= .of fun rho sg Q E hp F s K R hK=>by
 refine Call_ (fe j hgs hj hv R ?_);exact callWith_K0 R.kin hkp (uM ok hn R .nil hp hK)
theorem au{gs:List Str}{x:Str}{pos np:Pos}{e:Expr}{es:List Expr}{ps:t5}{f:Value}{sp:ao}{n:Nat}(j:Nat)(hgs:X.globs=gs)(hj:gs[j]? =some x)(hv:nsIn W.K mainGlobals x=some (some f))(hkp:keepIn W.K f=true)(ok:ax W n f sp)(hn:n≤X.n)
  (he:starEach (e::es) X.env=(false,eval e X.env)::starEach es X.env) (hpl:(backTo pos (starEach es X.env)).any (·.1)=false) (ha:lC W X pos (e::es) ps):
  cQ W X (.Call (.Name x np) (e::es) [] pos) (aA sp ps):= .of fun rho sg Q E hp F s K R hK=>by
 refine Call_ (fe j hgs hj hv R ?_);refine callWith_K (h₀:=W.base) W.kin hkp (ha.go hp R fun G vs cs sg1 s1 le1 R1 r1 h'=>⟨R1.kin,?_⟩) he hpl;exact uM ok hn R1 r1 h' fun G2 v c sg2 s2 le2 R2 r2 h2=>hK _ _ _ _ _ (le1.trans le2) R2 r2 h2
end
theorem xK(kind:Str→Option NameKind):∀(ps:List Str) (vs:List Value) (m:Str→Option Value) (x:Str),x∉ps→bindL kind (ps.zip vs) m x=m x
 |[],_,_,_,_=>rfl
 |_::_,[],_,_,_=>rfl
 |p::ps,v::vs,m,x,h=>by
  have h1:x≠p:=fun e=>h (e▸.head _);have h2:x∉ps:=fun e=>h (.tail _ e);show bindL kind (ps.zip vs) _ x=_;rw[xK kind ps vs _ x h2];split
  ·simp[h1]
  ·rfl
theorem xJ(kind:Str→Option NameKind):∀(ps:List Str) (vs:List Value) (m:Str→Option Value) (x:Str),x∉ps→bindC kind (ps.zip vs) m x=m x
 |[],_,_,_,_=>rfl
 |_::_,[],_,_,_=>rfl
 |p::ps,v::vs,m,x,h=>by
  have h1:x≠p:=fun e=>h (e▸.head _);have h2:x∉ps:=fun e=>h (.tail _ e);show bindC kind (ps.zip vs) _ x=_;rw[xJ kind ps vs _ x h2];split
  ·rfl
  ·simp[h1]
theorem Dk(kind:Str→Option NameKind):∀(ps:List Str) (vs:List Value) (m cm:Str→Option Value),ps.Nodup→∀(i:Nat) (x:Str) (v:Value),ps[i]? =some x→vs[i]? =some v→
  (kind x=some .local→bindL kind (ps.zip vs) m x=some v)∧(kind x≠some .local→bindC kind (ps.zip vs) cm x=some v)
 |[],_,_,_,_,i,x,v,h,_=>by simp at h
 |_::_,[],_,_,_,i,x,v,_,h=>by simp at h
 |p::ps,u::vs,m,cm,hn,0,x,v,h1,h2=>by
  simp at h1 h2;subst h1;subst h2
  have h3:=(List.nodup_cons.mp hn).1;refine⟨fun hk=> ?_,fun hk=> ?_⟩
  ·show bindL kind (ps.zip vs) _ p=_;rw[xK kind ps vs _ p h3,if_pos hk];simp
  ·show bindC kind (ps.zip vs) _ p=_;rw[xJ kind ps vs _ p h3,if_neg hk];simp
 |p::ps,u::vs,m,cm,hn,i+1,x,v,h1,h2=>by
  simp at h1 h2
  exact Dk kind ps vs _ _ (List.nodup_cons.mp hn).2 i x v h1 h2
noncomputable def qV(scope:Scope)(names globs:List Str):Bool:=
 scope.kind== .function&& !scope.isCoroutine&& !scope.isGenerator&&decide names.Nodup&&decide (((scope.names.filter fun x=>x.2== .cell).map (·.1)).Nodup)&&
 (names.all fun x=>(scope.names.lookup x==some .local||scope.names.lookup x==some .cell)&& !(x==("__debug__":Str))&& !(x==("__classdict__":Str)))&&
 (globs.all fun x=>scope.names.lookup x==some .globalImplicit&& !(x==("__debug__":Str)))
theorem kh:∀(names:List (Str×NameKind)) (n:Nat) (acc:List (Str×Addr)),(cellsFrom n names acc).map (·.1)=((names.filter fun x=>x.2== .cell).map (·.1)).reverse++acc.map (·.1)
 |[],_,_=>rfl
 |(x,k)::r,n,acc=>by
  unfold cellsFrom;by_cases hk:(k==NameKind.cell)=true
  ·rw[if_pos hk,kh r];simp[List.filter_cons,hk]
  ·rw[if_neg hk,kh r];simp[List.filter_cons,hk]
theorem DX{cs:List (Str×Addr)}(h:cs.Pairwise fun x y=>x.2≠y.2){x y:Str}{c:Addr}(hx:(x,c)∈cs)(hy:(y,c)∈cs):x=y:=by
 induction h with
 |nil=>cases hx
 |cons h1 h2 ih=>
  cases hx with
  |head=>cases hy with
   |head=>rfl
   |tail _ hy=>exact absurd rfl (h1 (y,c) hy)
  |tail _ hx=>cases hy with
   |head=>exact absurd rfl (h1 (x,c) hx).symm
   |tail _ hy=>exact ih hx hy
def B6(Q:CV→Sg→Prop)(c:CV)(sg:Sg):Prop:=∃sg2,sg2.Sublist sg∧Q c sg2
def jn(Q:CV→Sg→Prop):Fl→bp→Sg→Prop:=fun g O sg=>match g with
 | .ret c=>B6 Q c sg
 | .next=>B6 Q .none sg
 |_=>False
section
variable {W:Wd}{X:FX}{F:Fz}{rho:bp}{sg sg':Sg}{s s':Shared}
theorem bc.leave(R:bc W X F rho sg s):kO W X.kept F sg s where
 fz:=R.fz
 kp:=R.kp
 bs:=R.bs
 mo:=R.mo
 nd:=(List.nodup_append.mp R.nd).2.1
 ds:=fun a ha=>R.ds a (List.mem_append_right _ ha)
 dk:=R.dk
 gens:=R.gens
 os:=R.os
theorem m6{sg sg':Sg}(h:sg'.Sublist sg):(adrs sg').Sublist (adrs sg):=by
 induction h with
 |slnil=>exact .slnil
 |cons p _ ih=>rw[cE];exact ih.trans (List.sublist_append_right _ _)
 |cons_cons p _ ih=>rw[cE,cE];exact(List.Sublist.refl _).append ih
theorem kO.sub{kept:Fz}(R:kO W kept F sg s)(h:sg'.Sublist sg):kO W kept F sg' s:=
 {R with mo:=fun p hp=>R.mo p (h.subset hp),nd:=R.nd.sublist (m6 h),ds:=fun a ha=>R.ds a ((m6 h).subset ha)}
theorem nh{n:Nat}{fa:Addr}{name qual:Str}{params:Arguments}{body:List Stmt}{scope:Scope}{dV kV doc pm cdv ct oc:Value}{an od:Option Addr}{osl:Array (Option Value)}
  (ps more globs:List Str) (hK:W.K.lookup fa=some ⟨oc,od,.func (fnOf name qual params body scope dV kV doc pm an cdv ct),osl⟩) (hcd:codeIn W.K cdv qual=true) (hchk:qV scope (ps++more) globs=true)
  {A:Around} {kept F:Fz} {vs vs':List Value} {cs':List CV} {sg:Sg} {s:Shared} {R:Result→Shared→Prop} (hh:A.handled=none) (hd:A.depth+3*(n+1)≤900) (hu:A.units+30*(n+1)≤9000) (C:kO W kept F sg s)
  (hbind:BindsTo s (fnOf name qual params body scope dV kV doc pm an cdv ct) ⟨vs,[]⟩ (ps.zip vs')) (hv':b6 W F vs' cs') (hlen:cs'.length=ps.length)
  (h:∀(Xf:FX) (s1:Shared),Xf.names=ps++more→Xf.globs=globs→Xf.env.scope=scope→Xf.n=n→Xf.m=(ps++more).length→Xf.kept=kept→Xf.A=A.deeper Xf.env→Xf.env.frame=some Xf.env.locals→(∀b o,s.heap.get? b=some o→s1.heap.get? b=some o)→(∀a o,s.heap.get? a=some o→a∉Xf.own)→(∀y c,Xf.env.cells.lookup y=some c→c∈Xf.own)→(∃k,Xf.env.cells=cellsFrom k scope.names [])→
   bc W Xf F (cs'.map some++more.map fun O=>none) sg s1→
   wpAny (model W.prog W.w) Xf.A (execs body Xf.env) (fun f s'=>R (.ok (.ret (match f with| .ret v=>v|_=> .none))) s') (fun e s'=>wpAny (model W.prog W.w) Xf.A (leaving Xf.env e) (fun O s''=>R (.error e) s'') (fun e' s''=>R (.error e') s'') s') s1):
  codeAny (model W.prog W.w) A (.call (.ref fa) ⟨vs,[]⟩) R s:=by
 have hbase:∀b o,W.base.get? b=some o→s.heap.get? b=some o:=fun b o e=>C.fz b o (C.bs b o e);unfold qV at hchk;simp only[Bool.and_eq_true,Bool.not_eq_true',beq_iff_eq,decide_eq_true_eq,List.all_eq_true,Bool.or_eq_true]at hchk;obtain⟨⟨⟨⟨⟨⟨k1,k2⟩,k3⟩,k4⟩,k4c⟩,k5⟩,k6⟩:=hchk;have kin:=W.kin.keeps hbase;have hlenv:vs'.length=ps.length:=hv'.length.trans hlen;refine codeAny_call_function (Nat.lt_of_le_of_lt (I0 hd) (by decide)) (kin _ _ hK) rfl k2 k3 rfl (codeRec_of kin hcd) (hbind _ _ _ _ ?_)
 refine wpAny_newFunctionEnv_cells k1 (fun x hx=> ?_) fun env he s1 x=> ?_
 ·have hmem:x.1∈ps:=(List.of_mem_zip (show(x.1,x.2)∈ps.zip vs' from hx)).1
  rcases(k5 x.1 (List.mem_append_left _ hmem)).1.1 with h|h
  ·exact .inl h
  ·exact .inr ⟨h,cellsFrom_some _ _ _ (.inl h)⟩
 refine el22 x.done fun h₁ tk hs1 keep₁=> ?_;have hsc:env.scope=scope:=by rw[he];rfl
 have hcl:env.cells=cellsFrom (s.heap.objs.size+1) scope.names []:=by rw[he];rfl
 have hloc:env.locals=s.heap.objs.size:=by rw[he];rfl
 have memc:∀y c,env.cells.lookup y=some c→(y,c)∈env.cells:=fun y c e=>mem_of_lookup_some e;refine⟨(W.nolim.keeps hbase).keeps x.toInCall.keep,codeAny_func ?_⟩
 let Xf:FX:={
  A:=A.deeper env
  env:=env
  names:=ps++more
  globs:=globs
  own:=env.locals::env.cells.map (·.2)
  kept:=kept
  n:=n
  m:=(ps++more).length
  hk:=by rw[hsc];exact k1
  hgl:=by rw[he];rfl
  hbu:=by rw[he];rfl
  hh:=hh
  hd:=K4 (by decide) hd
  hu:=K4 (by decide) hu
  hL:=List.Mem.head _
  hce:=fun y c e=>⟨Nat.ne_of_gt (x.above y c (memc y c e)),.inl (List.Mem.tail _ (List.mem_map.mpr ⟨(y,c),memc y c e,rfl⟩))⟩
  hci:=fun y z c e1 e2=>DX x.apart (memc y c e1) (memc z c e2)
  hnm:=k4
  hkd:=fun y hy=>by
   rcases(k5 y hy).1.1 with h|h
   ·exact .inl (by show env.scope.names.lookup y=_;rw[hsc];exact h)
   ·refine .inr ⟨.inl (by show env.scope.names.lookup y=_;rw[hsc];exact h),?_⟩
    exact Option.isSome_iff_exists.mp (by rw[hcl];exact cellsFrom_some _ _ _ (.inl h))
  hst:=fun i y O hy=>by
   rcases(k5 y (List.mem_of_getElem? hy)).1.1 with h|h
   ·exact .inl (by show env.scope.names.lookup y=_;rw[hsc];exact h)
   ·exact .inr ⟨by show env.scope.names.lookup y=_;rw[hsc];exact h,fun c e=>List.Mem.tail _ (List.mem_map.mpr ⟨(y,c),memc y c e,rfl⟩)⟩
  hdb:=fun y hy=>⟨(k5 y hy).1.2,(k5 y hy).2⟩
  hgb:=fun y hy=>⟨by show env.scope.names.lookup y=_;rw[hsc];exact(k6 y hy).1,(k6 y hy).2⟩}
 have hfresh:∀a o,s.heap.get? a=some o→a∉Xf.own:=fun a o e hm=>by
  have hlt:=Heap.lt_size e;rcases List.mem_cons.mp hm with h|h
  ·rw[h,hloc]at hlt;exact Nat.lt_irrefl _ hlt
  ·obtain⟨⟨y,c⟩,hc,rfl⟩:=List.mem_map.mp h;have:=x.above y c hc;rw[hloc]at this;exact Nat.lt_irrefl _ (Nat.lt_trans hlt this)
 have hsg:∀a∈adrs sg,∃o,s.heap.get? a=some o:=fun a ha=>by
  refine el12 (List.mem_flatMap.mp ha) fun q hq hb=> ?_;exact(C.mo q hq).there a hb
 have ndc:(env.cells.map (·.1)).Nodup:=by rw[hcl,kh,List.map_nil,List.append_nil];exact(List.reverse_perm _).nodup_iff.mpr k4c
 have R:bc W Xf F (cs'.map some++more.map fun O=>none) sg s1:={
  fz:=fun a o e=>x.toInCall.keep a o (C.fz a o e)
  kp:=fun a o e=>x.toInCall.keep a o (C.kp a o e)
  bs:=C.bs
  va:=fun i y c hy hc=>by
   have hi:i<cs'.length:=by
    rcases Nat.lt_or_ge i cs'.length with h|h
    ·exact h
    ·rw[List.getElem?_append_right (by simpa using h)]at hc
     simp only[List.length_map]at hc;rw[List.getElem?_map]at hc;cases q:more[i-cs'.length]? <;>rw[q]at hc<;>simp at hc
   have hc':cs'[i]? =some c:=by
    rw[List.getElem?_append_left (by simpa using hi),List.getElem?_map]at hc
    cases q:cs'[i]? <;>rw[q]at hc<;>simp at hc
    rw[hc]
   have hy':ps[i]? =some y:=by
    have:(ps++more)[i]? =some y:=hy;rw[List.getElem?_append_left (hlen▸(List.getElem?_eq_some_iff.mp hc').1)]at this;exact this
   obtain⟨v,hvi,r⟩:=hv'.get hc';have nps:ps.Nodup:=(List.nodup_append.mp k4).1;have B:=Dk env.kindOf ps vs' (fun O=>none) (fun O=>none) nps i y v hy' hvi;refine⟨v,?_,r⟩;rcases(k5 y (List.mem_append_left _ (List.mem_of_getElem? hy'))).1.1 with h|h
   ·have hk:env.kindOf y=some .local:=by show env.scope.names.lookup y=_;rw[hsc];exact h
    exact .inl ⟨hk,_,x.toInCall.ns,B.1 hk⟩
   ·have hk:env.kindOf y=some .cell:=by show env.scope.names.lookup y=_;rw[hsc];exact h
    obtain⟨ca,hca⟩:=Option.isSome_iff_exists.mp (show(env.cells.lookup y).isSome=true by rw[hcl];exact cellsFrom_some _ _ _ (.inl h))
    exact .inr ⟨.inl hk,ca,hca,B.2 (by rw[hk];decide)▸x.cell y ca hca⟩
  ns:=⟨_,x.toInCall.ns⟩
  ce:=fun y c e=>⟨_,x.cell y c e⟩
  mo:=fun q hq=>(C.mo q hq).keep (.refl F) (fun b o e=>x.toInCall.keep b o (C.fz b o e)) fun b O o e=>x.toInCall.keep b o e
  nd:=by
   rw[List.nodup_append];refine⟨List.nodup_cons.mpr ⟨fun hm=> ?_,?_⟩,C.nd,fun a ha b hb e=> ?_⟩
   ·obtain⟨⟨y,c⟩,hc,e⟩:=List.mem_map.mp hm;have e:c=env.locals:=e;exact absurd (x.above y c hc) (by rw[e];exact Nat.lt_irrefl _)
   ·exact List.pairwise_map.mpr x.apart
   ·subst e;obtain⟨o,e⟩:=hsg a hb;exact hfresh a o e ha
  th:=fun a ha=>by
   rcases List.mem_cons.mp ha with h|h
   ·obtain⟨o,_,_,e,_⟩:=x.toInCall.ns;exact⟨o,h▸e⟩
   ·obtain⟨⟨y,c⟩,hc,rfl⟩:=List.mem_map.mp h;obtain⟨o,e,_⟩:=x.cell y c (lookup_of_mem_nodup ndc hc);exact⟨o,e⟩
  ds:=fun a ha=>by
   rcases List.mem_append.mp ha with h|h
   ·refine⟨?_,?_⟩
    ·cases e:F a with
     |none=>rfl
     |some o=>exact absurd h (hfresh a o (C.fz a o e))
    ·cases e:kept a with
     |none=>exact e
     |some o=>exact absurd h (hfresh a o (C.kp a o e))
   ·exact C.ds a h
  dk:=C.dk
  gens:=by rw[hs1];exact C.gens
  os:=by rw[hs1];exact C.os}
 exact h Xf s1 rfl rfl hsc rfl rfl rfl rfl (show env.frame=some env.locals by rw[he];rfl) x.toInCall.keep hfresh (fun y c e=>List.Mem.tail _ (List.mem_map.mpr ⟨(y,c),memc y c e,rfl⟩)) ⟨_,hcl⟩ R
theorem Iq{n:Nat}{fa:Addr}{sp:ao}{name qual:Str}{params:Arguments}{body:List Stmt}{scope:Scope}{dV kV doc pm cdv ct oc:Value}{an od:Option Addr}{osl:Array (Option Value)}{p:PS}
  (ps more globs:List Str) (hK:W.K.lookup fa=some ⟨oc,od,.func (fnOf name qual params body scope dV kV doc pm an cdv ct),osl⟩) (hcd:codeIn W.K cdv qual=true) (hchk:qV scope (ps++more) globs=true)
  (him:∀X:FX,X.names=ps++more→X.globs=globs→X.env.scope=scope→X.n=n→X.m=(ps++more).length→ix W X body p)
  (hsp:∀(F:Fz) (s:Shared) (vs:List Value) (cs:List CV) (sg:Sg) (Q:CV→Sg→Prop),(∀b o,W.base.get? b=some o→s.heap.get? b=some o)→b6 W F vs cs→sp cs sg Q→
   ∃vs' cs',BindsTo s (fnOf name qual params body scope dV kV doc pm an cdv ct) ⟨vs,[]⟩ (ps.zip vs')∧b6 W F vs' cs'∧cs'.length=ps.length∧p (cs'.map some++more.map fun O=>none) sg (jn Q)):ax W (n+1) (.ref fa) sp:=by
 intro A kept F vs cs sg s Q K E hh hd hu C hv hq hK';obtain⟨vs',cs',hbind,hv',hlen,hp⟩:=hsp F s vs cs sg Q (fun b o e=>C.fz b o (C.bs b o e)) hv hq;refine nh (n:=n) ps more globs hK hcd hchk hh hd hu C hbind hv' hlen fun Xf s1 e1 e2 e3 e4 e5 ek O O O O O O R=> ?_;refine(him Xf e1 e2 e3 e4 e5).go hp R fun G f g rho' sg' s2 le R2 hf hg=> ?_;have done:∀v c,bC W G v c→B6 Q c sg'→B5 K E (.ok (.ret v)) s2:=fun v c r ⟨sg2,hsub,hq⟩=>hK' G v c sg2 s2 le (kO.sub (ek▸R2.leave) hsub) r hq;cases g with
 |next=>rw[show f= .next from hf];exact done _ _ .none hg
 |brk=>exact hg.elim
 |cont=>exact hg.elim
 |ret c=>obtain⟨v,rfl,r⟩:=hf;exact done v c r hg
end
section
variable {W:Wd}{F:Fz}
theorem lB.find{es:List DictEntry}{fs:List (Str×CV)}(H:lB W F es fs)(k:Str):(∃v c,getL k es=some (some v)∧fs.lookup k=some c∧bC W F v c)∨(getL k es=some none∧fs.lookup k=none):=by
 induction H with
 |nil=>exact .inr ⟨rfl,rfl⟩
 | @cons k' hh t0 v0 c0 es fs h t ih=>
  by_cases e:k=k'
  ·subst e;exact .inl ⟨v0,c0,by simp[getL,List.find?_cons,Value.isStr],List.lookup_cons_self,h⟩
  ·have e1:(k==k')=false:=beq_eq_false_iff_ne.mpr e;have e2:(k'==k)=false:=beq_eq_false_iff_ne.mpr fun q=>e q.symm;have e3:getL k (⟨hh,.str k' t0,v0⟩::es)=getL k es:=by
    simp[getL,List.find?_cons,Value.isStr,e2,DictEntry.refKey]
   rw[e3,List.lookup_cons,e1];exact ih
theorem bC.handed{v:Value}{c:CV}(h:bC W F v c):handedIn v=true:=by cases h<;>rfl
theorem lB.length{es:List DictEntry}{fs:List (Str×CV)}(h:lB W F es fs):es.length=fs.length:=by
 induction h with
 |nil=>rfl
 |cons _ _ ih=>exact congrArg (·+1) ih
noncomputable def qr(k:Str)(c:CV):List (Str×CV)→List (Str×CV)
 |[]=>[(k,c)]
 |p::r=>if p.1==k then(p.1,c)::r else p::qr k c r
theorem lB.put{k:Str}{hsh:Int}{t:Tok}{v:Value}{c:CV}(hv:bC W F v c){es:List DictEntry}{fs:List (Str×CV)}(h:lB W F es fs):lB W F (putL k hsh (.str k t) v es) (qr k c fs):=by
 induction h with
 |nil=>exact .cons hv .nil
 | @cons k' _ _ _ _ es fs h r ih=>
  unfold putL qr;by_cases e:(k'==k)=true
  ·rw[if_pos (show Value.isStr (.str k' _) k=true from e),if_pos e];exact .cons hv r
  ·rw[if_neg (show ¬Value.isStr (.str k' _) k=true from e),if_neg e];exact .cons h ih
end
noncomputable def fA(K:Frag)(C:Addr)(name:Str):Bool:=plainGet K C name&&hasDictIn K C&&(match findIn K (.ref C) name with|some attr=>noGet K attr|none=>false)
noncomputable def f6(K:Frag)(C:Addr)(name:Str)(f:Addr):Bool:=plainGet K C name&&findIn K (.ref C) name==some (some (.ref f))&&isFn K (.ref f)&&keepIn K (.ref f)
noncomputable def ft(K:Frag)(C:Addr)(name:Str):Bool:=findIn K (.ref C) "__setattr__"==some (some (.builtin "object.__setattr__"))&&plainOver K C&&takerIn K C name==some none&&hasDictIn K C
inductive ER(C:Addr)(sg:Sg)(a:Addr)(name:Str)(c:Option CV):Prop
 |mk (dx:Addr) (fs:List (Str×CV)):(a,MO.obj C dx fs)∈sg→fs.lookup name=c→ER C sg a name c
def fobj(C:Addr)(sg:Sg)(r:CV)(name:Str)(c:Option CV):Prop:=match r with
 | .obj D fs=>D=C∧fs.lookup name=c
 | .ref a=>ER C sg a name c
 |_=>False
abbrev zc(C:Addr)(sg:Sg)(r:CV)(name:Str)(c:CV):Prop:=fobj C sg r name (some c)
abbrev CG(C:Addr)(sg:Sg)(r:CV)(name:Str):Prop:=fobj C sg r name none
section
variable {W:Wd}{X:FX}{F:Fz}{rho:bp}{sg:Sg}{s:Shared}
theorem bc.fobj(R:bc W X F rho sg s){v:Value}{C:Addr}{r:CV}{name:Str}{c:Option CV}{P:Value→Prop}(h:bC W F v r)(hr:fobj C sg r name c)(k:∀a dx es n fs,InstAt s.heap a (instObj C dx) C (some (dictOf es n))→lB W F es fs→fs.lookup name=c→P (.ref a)):P v:=by
 cases r with
 |obj D fs=>
  obtain⟨rfl,hl⟩:=hr;exact h.onObj fun a dx es n h1 h2 h3=>k _ _ _ _ _ ⟨R.fz _ _ h1,rfl,rfl,R.fz _ _ h2⟩ h3 hl
 |ref a=>
  obtain⟨dx,fs,hm,hl⟩:=hr;obtain⟨e,es,n,e2,r⟩:=R.mo _ hm;exact h.onRef (k a dx es n fs ⟨e,rfl,rfl,e2⟩ r hl)
 |_=>exact hr.elim
def Lp(C:Addr)(name:Str)(Q:CV→Sg→Prop)(r:CV)(sg1:Sg):Prop:=Dh (zc C sg1 r name) Q sg1
def fld(C:Addr)(name:Str)(p:PE):PE:=fun rho sg Q=>p rho sg (Lp C name Q)
set_option tactic.hygienic true in
theorem aB{C:Addr}{name:Str}{e:Expr}{pos:Pos}{p:PE}(ok:fA W.K C name=true)
  (he:eval (.Attribute e name pos) X.env=(do
   let o ←eval e X.env
   standAt pos.atName
   let r ←holding [o] (getAttr o name true)
   letTemporaryGo e o r
   pure r)) (h:cQ W X e p):cQ W X (.Attribute e name pos) (fld C name p):= .of fun rho sg Q E hp F s K R hK=>by
 refine Attribute_any_ (h.go hp R fun G v r sg1 s1 le1 R1 r1 h'=> ?_) he;obtain⟨c,hc,hq⟩:=h';unfold fA at ok;rw[Bool.and_eq_true,Bool.and_eq_true]at ok;refine dp fun C_ k_=> ?_;obtain⟨⟨k1,k2⟩,k3⟩:=ok;refine k_ ?_;refine R1.fobj (P:=fun v=>wpAny (model W.prog W.w) X.A (getAttr v name true) K E s1) r1 hc fun a dx es n fs I en hl=> ?_;rcases en.find name with⟨v,c',g1,g2,g3⟩|⟨g1,g2⟩
 ·rw[hl]at g2;cases g2;split at k3
  ·rename_i attr ha
   exact get_value R1.kin I (plainGet_of k1).1 (findObj_own k2 ha k3 g1) g3.handed (hK _ _ _ _ _ le1 R1.tok g3 hq)
  ·exact ff k3
 ·rw[hl]at g2;exact sn g2
def Dn(sp:ao)(r:CV)(Q:CV→Sg→Prop)(cs:List CV)(sg2:Sg):Prop:=sp (r::cs) sg2 Q
def IX(C:Addr)(name:Str)(sp:ao)(ps:t5)(rho:bp)(Q:CV→Sg→Prop)(r:CV)(sg1:Sg):Prop:=CG C sg1 r name∧ps rho sg1 (Dn sp r Q)
def bA(C:Addr)(name:Str)(sp:ao)(p:PE)(ps:t5):PE:=fun rho sg Q=>p rho sg (IX C name sp ps rho Q)
theorem Dz{C f:Addr}{name:Str}{pl:Sem Bool}{v:Value}{r:CV}(ok:f6 W.K C name f=true)(R:bc W X F rho sg s)(hv:bC W F v r)(hr:CG C sg r name){Q:Value×List Value→Shared→Prop}{E:Value→Shared→Prop}
  (h:Q (.ref f,[v]) s):wpAny (model W.prog W.w) X.A (getMethod v name pl) Q E s:=by
 unfold f6 at ok;rw[Bool.and_eq_true,Bool.and_eq_true,Bool.and_eq_true]at ok;refine dp fun C_ k_=> ?_;obtain⟨⟨⟨k1,k2⟩,k3⟩,k4⟩:=ok;refine k_ ?_;refine R.fobj (P:=fun v=>Q (.ref f,[v]) s→wpAny (model W.prog W.w) X.A (getMethod v name pl) Q E s) hv hr (fun a dx es n fs I en hl h=> ?_) h;rcases en.find name with⟨v,c',g1,g2,g3⟩|⟨g1,g2⟩
 ·rw[hl]at g2;exact ns g2
 ·exact method_fn R.kin I (plainGet_of k1).1 (plainGet_of k1).2 (beq_iff_eq.mp k2) (beq_iff_eq.mp k3) (by show(lookIn name (dictOf es n)).map _=_;rw[lookIn_dict,g1];rfl) h
theorem bV{C f:Addr}{name:Str}{sp:ao}{n:Nat}{o:Expr}{apos pos:Pos}{p:PE}{pl:Sem Bool}(ok:f6 W.K C name f=true)(fok:ax W n (.ref f) sp)(hn:n≤X.n)
  (he:eval (.Call (.Attribute o name apos) [] [] pos) X.env=(do
   let ov ←eval o X.env
   standAt apos.atName
   let(f,first) ←holding [ov] (getMethod ov name pl)
   callWith pos f first (backTo pos (starEach [] X.env)) [])) (h:cQ W X o p):cQ W X (.Call (.Attribute o name apos) [] [] pos) (bA C name sp p aq):= .of fun rho sg Q E hp F s K R hK=>by
 refine MethodCall_ (h.go hp R fun G v r sg1 s1 le1 R1 r1 h'=> ?_) he;refine Dz ok R1 r1 h'.1 ?_;have k4:keepIn W.K (.ref f)=true:=by unfold f6 at ok;rw[Bool.and_eq_true]at ok;exact ok.2
 refine callWith_K0 R1.kin k4 ?_;exact uM fok hn R1 (.cons r1 .nil) h'.2 fun G2 v c sg2 s2 le2 R2 r2 h2=>hK _ _ _ _ _ (le1.trans le2) R2 r2 h2
theorem bi{C f:Addr}{name:Str}{sp:ao}{n:Nat}{o:Expr}{apos pos:Pos}{p:PE}{ps:t5}{e:Expr}{es:List Expr}{pl:Sem Bool}(ok:f6 W.K C name f=true)(fok:ax W n (.ref f) sp)(hn:n≤X.n)
  (he:eval (.Call (.Attribute o name apos) (e::es) [] pos) X.env=(do
   let ov ←eval o X.env
   standAt apos.atName
   let(f,first) ←holding [ov] (getMethod ov name pl)
   callWith pos f first (backTo pos (starEach (e::es) X.env)) []))
  (hs:starEach (e::es) X.env=(false,eval e X.env)::starEach es X.env) (hpl:(backTo pos (starEach es X.env)).any (·.1)=false) (h:cQ W X o p) (ha:lC W X pos (e::es) ps):
  cQ W X (.Call (.Attribute o name apos) (e::es) [] pos) (bA C name sp p ps):= .of fun rho sg Q E hp F s K R hK=>by
 refine MethodCall_ (h.go hp R fun G v r sg1 s1 le1 R1 r1 h'=> ?_) he;refine Dz ok R1 r1 h'.1 ?_;have k4:keepIn W.K (.ref f)=true:=by unfold f6 at ok;rw[Bool.and_eq_true]at ok;exact ok.2
 refine callWith_K (h₀:=W.base) W.kin k4 (ha.go h'.2 R1 fun G2 vs cs sg2 s2 le2 R2 r2 h2=>⟨R2.kin,?_⟩) hs hpl;exact uM fok hn R2 (.cons (r1.mono le2) r2) h2 fun G3 v c sg3 s3 le3 R3 r3 h3=>hK _ _ _ _ _ ((le1.trans le2).trans le3) R3 r3 h3
end
set_option tactic.hygienic true in
theorem Ju{W:Wd}{A:Around}{E:Value→Shared→Prop}{s:Shared}{x C dx:Addr}{es:List DictEntry}{n:Nat}{name:Str}{v:Value}{Q:Unit→Shared→Prop}(X:W.K.In s.heap)(I:InstAt s.heap x (instObj C dx) C (some (dictOf es n)))(ok:ft W.K C name=true)
  (hl:(getL name es).isSome=true) (hz:(putL name (PyData.keyHash W.w.params name) (.str name (s.toks+1)) v es).length≤1000)
  (h:∀h',h'.get? dx=some (dictOf (putL name (PyData.keyHash W.w.params name) (.str name (s.toks+1)) v es) (putN name es n))→Heap.SameBut dx s.heap h'→Q () {s with heap:=h',toks:=s.toks+2}):
  wpAny (model W.prog W.w) A (setAttr (.ref x) name v) Q E s:=by
 unfold ft at ok;rw[Bool.and_eq_true,Bool.and_eq_true,Bool.and_eq_true]at ok;refine dp fun C_ k_=> ?_;obtain⟨⟨⟨k1,k2⟩,k3⟩,k4⟩:=ok;have I':=I;obtain⟨hx,-,-,hd⟩:=I';refine k_ ?_;refine set_plain X I (beq_iff_eq.mp k1) (osa_open (s:={s with toks:=s.toks+1}) X I k2 (beq_iff_eq.mp k3) fun b=> ?_);obtain⟨cd,hc,hd'⟩:=any_some k4;refine wpAny_bind (wpAny_pure (wpAny_bind (wpAny_bind (wpAny_loadPart hx (wpAny_bind ((looks_clsIn X hc).at ?_))))));refine hd'.symm▸?_;refine wpAny_pure (a:=some dx) (wpAny_bind (wpAny_pure (wpAny_bind ?_)));refine wpAny_bind (wpAny_bind (wpAny_askSetting (wpAny_pure (wpAny_bind (wpAny_mkText (wpAny_bind (wpAny_loadPart hd ?_)))))));have c:(!es.toArray.any (·.key.isStr name)&&es.toArray.any (·.refKey))=false:=by
  rw[List.any_toArray,List.any_toArray];unfold getL at hl;split at hl
  ·rename_i en he
   rw[List.any_eq_true.mpr ⟨en,List.mem_of_find?_eq_some he,List.find?_some he⟩];rfl
  ·split at hl
   ·exact ff hl
   ·rename_i z;rw[Bool.not_eq_true]at z;rw[z,Bool.and_false]
 dsimp only;rw[aRefKeyMayBeTheName_at,c];refine wpAny_updatePart hd ?_;have hu:(s.heap.update dx (Obj.putName name (PyData.keyHash W.w.params name) (.str name (s.toks+1)) v)).get? dx=some (dictOf (putL name (PyData.keyHash W.w.params name) (.str name (s.toks+1)) v es) (putN name es n)):=by
  rw[Heap.get?_update_self _ hd (by rw[putName_dict];rfl),putName_dict]
 refine wpAny_bind (wpAny_lookBehind hu (pastItsLine_dict (by rw[List.size_toArray,sizeLine_eq];exact Nat.le_trans (by assumption) (by decide))) ?_)
 exact wpAny_pure (h _ hu (Heap.SameBut.update ..))
inductive Ij(C:Addr)(name:Str)(c:CV)(rho:bp)(Q:Fl→bp→Sg→Prop)(r:CV)(sg2:Sg):Prop
 |mk (a dx:Addr) (fs:List (Str×CV)) (sg3:Sg):r= .ref a→gv a (.obj C dx fs) (.obj C dx (qr name c fs)) sg2 sg3→fs.length≤900→Q .next rho sg3→Ij C name c rho Q r sg2
def Js(C:Addr)(name:Str)(po:PE)(rho:bp)(Q:Fl→bp→Sg→Prop)(c:CV)(sg1:Sg):Prop:=po rho sg1 (Ij C name c rho Q)
def fG(C:Addr)(name:Str)(po pv:PE):PS:=fun rho sg Q=>pv rho sg (Js C name po rho Q)
section
variable {W:Wd}{X:FX}
theorem tX(k:Str)(c:CV):∀fs,(qr k c fs).length≤fs.length+1
 |[]=>by simp[qr]
 |p::r=>by unfold qr;split<;>simp[tX k c r]
theorem cj{C:Addr}{name:Str}{o value:Expr}{pos' pos:Pos}{po pv:PE}(ok:ft W.K C name=true)(hs:swapsWith value (some (.Attribute o name pos')) pos.line X.env=pure false)(ho:cQ W X o po)(hv:cQ W X value pv):
  r_ W X (.Assign [.Attribute o name pos'] value pos) (fG C name po pv):= .of fun rho sg Q E hp F s K R hK=>by
 refine plainObj_wpAny_Assign_Attribute (hv.go hp R fun G v c sg1 s1 le1 R1 r1 h1=> ?_) hs;refine ho.go h1 R1 fun G2 ov r sg2 s2 le2 R2 r2 h2=> ?_;obtain⟨a,dx,fs,sg3,rfl,U,hz,hq⟩:=h2;obtain⟨e,es,n,e2,en⟩:=R2.mo _ U.sublistMem;have I:InstAt s2.heap a (instObj C dx) C (some (dictOf es n)):=⟨e,rfl,rfl,e2⟩;refine(r2.inv:ov= .ref a).symm▸?_;have put:∀hsh t,lB W G2 (putL name hsh (.str name t) v es) (qr name c fs):=fun hsh t=>en.put (r1.mono le2);refine Ju R2.kin I ok ?_ ?_ fun h' hd hsb=> ?_
 ·rcases en.find name with⟨_,_,g,_⟩|⟨g,_⟩<;>rw[g]<;>rfl
 ·rw[(put _ _).length];have:=tX name c fs;lia
 ·refine hK _ _ .next _ _ _ (le1.trans le2) (R2.upd (tk:=s2.toks+2) U rfl (d:=dx) (by simp[MO.adrs]) hsb ?_) rfl hq
  have hne:a≠dx:=by
   have nd:=(List.nodup_append.mp R2.nd).2.1;obtain⟨x,y,rfl,_⟩:=U.split;rw[de,cE,List.nodup_append,List.nodup_append]at nd;have:=nd.2.1.1;simp[MO.adrs]at this;exact this
  exact⟨(hsb.2 a hne).trans I.at_,_,_,hd,put _ _⟩
end
section
variable {W:Wd}{X:FX}{F:Fz}{rho:bp}{sg:Sg}{s:Shared}
theorem bc.ownSet(R:bc W X F rho sg s){rho':bp}{h':Heap}{tk:Nat}{a:Addr}(ha:a∈X.own)(hs:Heap.SameBut a s.heap h')
  (va':∀(i:Nat) (x:Str) (c:CV),X.names[i]? =some x→rho'[i]? =some (some c)→∃v,tz X.env h' x v∧bC W F v c)
  (ns':∃m,h'.Ns X.env.locals m) (ce':∀x c,X.env.cells.lookup x=some c→∃v,h'.IsCell c v) (th':∃o,h'.get? a=some o):bc W X F rho' sg {s with heap:=h',toks:=tk}:=by
 have d:=R.ds a (List.mem_append_left _ ha);have neF:∀b o,F b=some o→b≠a:=fun b o e q=>by rw[q,d.1]at e;cases e
 have neK:∀b o,X.kept b=some o→b≠a:=fun b o e q=>by rw[q,d.2]at e;cases e
 have neS:∀b,b∈adrs sg→b≠a:=fun b hb q=>(List.nodup_append.mp R.nd).2.2 a ha b hb q.symm;have fz:∀b o,F b=some o→h'.get? b=some o:=fun b o e=>(hs.2 b (neF b o e)).trans (R.fz b o e);exact {
  fz:=fz
  kp:=fun b o e=>(hs.2 b (neK b o e)).trans (R.kp b o e)
  bs:=R.bs
  va:=va'
  ns:=ns'
  ce:=ce'
  mo:=fun p hp=>(R.mo p hp).keep (.refl F) fz fun b hb o e=>(hs.2 b (neS b (dR hp hb))).trans e
  nd:=R.nd
  th:=fun b hb=>by
   by_cases q:b=a
   ·rw[q];exact th'
   ·obtain⟨o,e⟩:=R.th b hb;exact⟨o,(hs.2 b q).trans e⟩
  ds:=R.ds
  dk:=R.dk
  gens:=R.gens
  os:=R.os}
theorem getElem?_set_some{rho:bp}{i j:Nat}{c d:CV}(h:(rho.set i (some c))[j]? =some (some d)):(j=i∧d=c)∨(j≠i∧rho[j]? =some (some d)):=by
 by_cases e:i=j
 ·subst e;rw[List.getElem?_set_self']at h;cases q:rho[i]? with
  |none=>rw[q]at h;exact ns h
  |some x=>rw[q]at h;simp at h;exact .inl ⟨rfl,h.symm⟩
 ·rw[List.getElem?_set_ne e]at h;exact .inr ⟨fun q=>e q.symm,h⟩
theorem yh{l:List Str}(h:l.Nodup){i j:Nat}{x:Str}(h1:l[i]? =some x)(h2:l[j]? =some x):i=j:=by
 obtain⟨l1,e1⟩:=List.getElem?_eq_some_iff.mp h1;exact(List.getElem?_inj l1 h).mp (h1.trans h2.symm)
theorem jx{ns:List Str}{m:Nat}{x:Str}{v:Value}{c:CV}(i:Nat)(hn:X.names=ns)(hm:X.m=m)(hx:ns[i]? =some x)(hi:i<m)(R:bc W X F rho sg s)(hv:bC W F v c){A:Around}{Q:Unit→Shared→Prop}{E:Value→Shared→Prop}
  (h:∀s',bc W X F (rho.set i (some c)) sg s'→Q () s'):wpAny (model W.prog W.w) A (storeName X.env x v) Q E s:=by
 subst hn;have hmem:=List.mem_of_getElem? hx;rcases X.hst i x (hm▸hi) hx with hk|⟨hk,hown⟩
 ·obtain⟨m,hns⟩:=R.ns;refine wpAny_storeName_local hk hns (fun h' hns' hs=>h _ (R.ownSet (tk:=s.toks+1) X.hL hs (fun j y d hy hd=> ?_) ⟨_,hns'⟩ (fun y c hc=> ?_) (let⟨o,_,_,e,_⟩:=hns';⟨o,e⟩))) (by show(X.env.scope.kind== .class||(X.env.scope.kind== .module&&_))=false;rw[X.hk];rfl)
  ·rcases getElem?_set_some hd with⟨rfl,rfl⟩|⟨hne,hd⟩
   ·rw[hx]at hy;cases hy;exact⟨v,.inl ⟨hk,_,hns',by simp⟩,hv⟩
   ·refine el12 (R.va j y d hy hd) fun u hu r=> ?_;have hyx:y≠x:=fun e=>hne (yh X.hnm hy (e▸hx));refine⟨u,?_,r⟩;rcases hu with⟨hk',m',hm',hv'⟩|⟨hk',c',hc',hcell⟩
    ·have:m' y=m y:=by
      refine el34 hm' fun o1 es1 ep1 e1 d1 O f1=> ?_;obtain⟨o2,es2,ep2,e2,d2,_,f2⟩:=hns;rw[e1]at e2;cases e2;rw[d1]at d2;cases d2;rw[←f1,←f2]
     exact .inl ⟨hk',_,hns',by simp[hyx];rw[←this];exact hv'⟩
    ·exact .inr ⟨hk',c',hc',hcell.sameBut hs (X.hce y c' hc').1⟩
  ·obtain⟨w,hw⟩:=R.ce y c hc;exact⟨w,hw.sameBut hs (X.hce y c hc).1⟩
 ·obtain⟨ca,hca⟩:∃ca,X.env.cells.lookup x=some ca:=by
   rcases X.hkd x hmem with h|⟨_,h⟩
   ·rw[h]at hk;cases hk
   ·exact h
  have hcm:=X.hce x ca hca;obtain⟨v₀,hcell⟩:=R.ce x ca hca;refine wpAny_storeName_cell X.hk hk hca hcell fun h' hc' hs=>h {s with heap:=h'} (R.ownSet (tk:=s.toks) (hown ca hca) hs (fun j y d hy hd=> ?_) ?_ (fun y c hc=> ?_) (let⟨o,e,_⟩:=hc';⟨o,e⟩))
  ·rcases getElem?_set_some hd with⟨rfl,rfl⟩|⟨hne,hd⟩
   ·rw[hx]at hy;cases hy;exact⟨v,.inr ⟨.inl hk,ca,hca,hc'⟩,hv⟩
   ·obtain⟨u,hu,r⟩:=R.va j y d hy hd;have hyx:y≠x:=fun e=>hne (yh X.hnm hy (e▸hx));refine⟨u,?_,r⟩;rcases hu with⟨hk',m',hm',hv'⟩|⟨hk',c',hc',hcell'⟩
    ·exact .inl ⟨hk',m',hm'.sameBut hs (Ne.symm hcm.1),hv'⟩
    ·exact .inr ⟨hk',c',hc',hcell'.sameBut hs fun e=>hyx (X.hci y x ca (e▸hc') hca)⟩
  ·obtain⟨m,hns⟩:=R.ns;exact⟨m,hns.sameBut hs (Ne.symm hcm.1)⟩
  ·by_cases q:c=ca
   ·exact⟨_,q▸hc'⟩
   ·obtain⟨w,hw⟩:=R.ce y c hc;exact⟨w,hw.sameBut hs q⟩
def Lh(i:Nat)(rho:bp)(Q:Fl→bp→Sg→Prop)(c:CV)(sg1:Sg):Prop:=Q .next (rho.set i (some c)) sg1
def cS(i:Nat)(p:PE):PS:=fun rho sg Q=>p rho sg (Lh i rho Q)
theorem ar{ns:List Str}{m:Nat}{x:Str}{pos' pos:Pos}{value:Expr}{p:PE}(i:Nat)(hn:X.names=ns)(hm:X.m=m)(hx:ns[i]? =some x)(hi:i<m)(hs:swapsWith value (some (.Name x pos')) pos.line X.env=pure false)(h:cQ W X value p):
  r_ W X (.Assign [.Name x pos'] value pos) (cS i p):= .of fun rho sg Q E hp F s K R hK=>by
 refine wpAny_Assign_Name (h.go hp R fun G v c sg1 s1 le1 R1 r1 h1=> ?_) hs;exact jx i hn hm hx hi R1 r1 fun s' R'=>hK G .next .next _ _ s' le1 R' rfl h1
noncomputable def wx:bp→List Nat→List CV→bp
 |rho,i::is,c::cs=>wx (rho.set i (some c)) is cs
 |rho,_,_=>rho
def KL(is js:List Nat)(r:Bool)(rho:bp)(Q:Fl→bp→Sg→Prop)(c:CV)(sg1:Sg):Prop:=match c with
 | .tup cs=>cs.length=is.length∧Q .next (wx rho js (if r=true then cs.reverse else cs)) sg1
 |_=>False
def gP(is:List Nat)(p:PE):PS:=fun rho sg Q=>p rho sg (KL is is false rho Q)
class inductive yW(X:FX)(ns:List Str)(m:Nat):List Expr→List Nat→Prop
 |nil:yW X ns m [] []
 |cons {x:Str} {p:Pos} {es:List Expr} {is:List Nat} (i:Nat) (hx:ns[i]? =some x) (hi:i<m) (he:assignEach (.Name x p::es) X.env=(false,PySem.assign (.Name x p) X.env)::assignEach es X.env):yW X ns m es is→yW X ns m (.Name x p::es) (i::is)
theorem yW.go{ns:List Str}{m:Nat}(hn:X.names=ns)(hm:X.m=m){K:Unit→Shared→Prop}{E:Value→Shared→Prop}{es:List Expr}{is:List Nat}(T:yW X ns m es is):∀{rho:bp} {s:Shared} {vs:List Value} {cs:List CV},cs.length=is.length→bc W X F rho sg s→b6 W F vs cs→
  (∀s',bc W X F (wx rho is cs) sg s'→K () s')→wpAny (model W.prog W.w) X.A (assignInOrder ((assignEach es X.env).map (·.2)) vs) K E s:=by
 induction T with
 |nil=>
  intro rho s vs cs hl R hv h;cases hv with
  |nil=>exact wpAny_pure (h s R)
  |cons _ _=>exact Nat.noConfusion hl
 |cons i hx hi he T ih=>
  intro rho s vs cs hl R hv h;cases hv with
  |nil=>exact Nat.noConfusion hl
  |cons h1 h2=>
   refine he▸?_;exact wpAny_bind (wpAny_holding (wpAny_assign_Name (jx i hn hm hx hi R h1 fun s' R'=>ih (Nat.succ.inj hl) R' h2 h)))
theorem yW.each{ns:List Str}{m:Nat}{es:List Expr}{is:List Nat}(T:yW X ns m es is):(assignEach es X.env).length=is.length∧(assignEach es X.env).findIdx? (·.1)=none:=by
 induction T with
 |nil=>exact⟨rfl,rfl⟩
 |cons i hx hi he T ih=>
  refine he▸?_;refine⟨congrArg (·+1) ih.1,?_⟩;rw[List.findIdx?_cons,ih.2];rfl
theorem bc.ext(R:bc W X F rho sg s){h':Heap}{tk:Nat}(he:Heap.ExtBut s.heap.objs.size s.heap h'):bc W X F rho sg {s with heap:=h',toks:=tk}:=
 R.grow fun b o e=>he b o (Nat.ne_of_lt (Heap.lt_size e)) e
theorem dL{ns:List Str}{m:Nat}{es:List Expr}{k:Nat}{tpos pos:Pos}{value:Expr}{is:List Nat}{p:PE}(hn:X.names=ns)(hm:X.m=m)(T:yW X ns m es is)(hs:swapsWithSole [.Tuple es k tpos] value pos.line X.env=pure false)
  (hw:swappedStores [.Tuple es k tpos] value X.env=pure none) (h:cQ W X value p):r_ W X (.Assign [.Tuple es k tpos] value pos) (gP is p):= .of fun rho sg Q E hp F s K R hK=>by
 refine Assign_Tuple (h.go hp R fun G v c sg1 s1 le1 R1 r1 h1=> ?_) hs hw;cases c with
 |tup cs=>
  obtain⟨e1,e2,e3,e4⟩:=(r1.inv:B8 W G cs v);have ht:IsTup s1.heap _ _:=⟨_,R1.fz _ _ e1,e2,_,e3⟩;refine assign_Tuple_tuple X.hh ht ?_ T.each.2 fun h' hx=> ?_
  ·rw[T.each.1,←h1.1,List.size_toArray,e4.length]
  ·exact T.go hn hm h1.1 (R1.ext (tk:=s1.toks) hx) e4 fun s' R'=>hK G .next .next _ _ s' le1 R' rfl h1.2
 |_=>exact h1.elim
theorem wy{ns:List Str}{m:Nat}(hn:X.names=ns)(hm:X.m=m){K:Unit→Shared→Prop}{E:Value→Shared→Prop}(xs:List Str):∀(is:List Nat),(∀(j:Nat) (x:Str),xs[j]? =some x→∃i,is[j]? =some i∧ns[i]? =some x∧i<m)→xs.length=is.length→∀{rho:bp} {s:Shared} {vs:List Value} {cs:List CV},cs.length=is.length→bc W X F rho sg s→b6 W F vs cs→
  (∀s',bc W X F (wx rho is cs) sg s'→K () s')→wpAny (model W.prog W.w) X.A (assignInOrder (xs.map fun n=>bindName X.env n) vs) K E s:=by
 induction xs with
 |nil=>
  intro is hx hl' rho s vs cs hl R hv h;cases is with
  |nil=>cases hv with
   |nil=>exact wpAny_pure (h s R)
   |cons _ _=>exact Nat.noConfusion hl
  |cons _ _=>exact Nat.noConfusion hl'
 |cons x xs ih=>
  intro is hx hl' rho s vs cs hl R hv h;cases is with
  |nil=>exact Nat.noConfusion hl'
  |cons i is=>cases hv with
   |nil=>exact Nat.noConfusion hl
   |cons h1 h2=>
    refine el13 (hx 0 x rfl) fun i' e1 e2 e3=> ?_;have e1:i=i':=Option.some.inj e1;exact wpAny_bind (wpAny_holding (wpAny_bindName (jx i hn hm (e1▸e2) (e1▸e3) R h1 fun s' R'=>
     ih is (fun j y hy=>hx (j+1) y hy) (Nat.succ.inj hl') (Nat.succ.inj hl) R' h2 h)))
theorem K8{ns:List Str}{m:Nat}:∀(j:Nat) (x:Str),([]:List Str)[j]? =some x→∃i,([]:List Nat)[j]? =some i∧ns[i]? =some x∧i<m:=fun j x h=>by cases j<;>exact Mine.ns h
theorem GV{ns:List Str}{m i:Nat}{x:Str}{xs:List Str}{is:List Nat}(h:ns[i]? =some x)(hi:i<m)(t:∀(j:Nat) (x:Str),xs[j]? =some x→∃i,is[j]? =some i∧ns[i]? =some x∧i<m):∀(j:Nat) (y:Str),(x::xs)[j]? =some y→∃k,(i::is)[j]? =some k∧ns[k]? =some y∧k<m
 |0,y,e=>⟨i,rfl,h.trans e,hi⟩
 |j+1,y,e=>t j y e
def BT(is:List Nat)(p:PE):PS:=fun rho sg Q=>p rho sg (KL is is.reverse true rho Q)
theorem ri{ns:List Str}{m:Nat}{es:List Expr}{k:Nat}{tpos pos:Pos}{value:Expr}{is:List Nat}{p:PE}(xs:List Str)(hn:X.names=ns)(hm:X.m=m)(hxs:∀(j:Nat) (x:Str),xs.reverse[j]? =some x→∃i,is.reverse[j]? =some i∧ns[i]? =some x∧i<m)(hlen:xs.length=is.length)
  (hs:swapsWithSole [.Tuple es k tpos] value pos.line X.env=pure false)
  (hw:swappedStores [.Tuple es k tpos] value X.env=pure (some xs)) (h:cQ W X value p):r_ W X (.Assign [.Tuple es k tpos] value pos) (BT is p):= .of fun rho sg Q E hp F s K R hK=>by
 refine Assign_Tuple_swapped (h.go hp R fun G v c sg1 s1 le1 R1 r1 h1=> ?_) hs hw;cases c with
 |tup cs=>
  obtain @⟨a,o,vs,n,e1,e2,e3,e4⟩:=(r1.inv:B8 W G cs v);have ht:IsTup s1.heap _ _:=⟨_,R1.fz _ _ e1,e2,_,e3⟩;have hsz:vs.toArray.size=xs.length:=by rw[List.size_toArray,e4.length,h1.1,hlen]
  refine hsz▸?_;refine unpackItems_tuple X.hh ht fun h' hx=> ?_;refine wy hn hm xs.reverse is.reverse hxs (by simp[hlen]) (cs:=cs.reverse) (by simp[h1.1]) (R1.ext (tk:=s1.toks) hx) (by simpa using e4.reverse) fun s' R'=>hK G .next .next _ _ s' le1 R' rfl h1.2
 |_=>exact h1.elim
def LL(rho:bp)(Q:Fl→bp→Sg→Prop)(c:CV)(sg1:Sg):Prop:=Q (.ret c) rho sg1
def bQ(p:PE):PS:=fun rho sg Q=>p rho sg (LL rho Q)
theorem aL{e:Expr}{pos:Pos}{p:PE}(h:cQ W X e p):r_ W X (.Return (some e) pos) (bQ p):= .of fun rho sg Q E hp F s K R hK=>
 wpAny_Return_some (h.go hp R fun G v c sg1 s1 le1 R1 r1 h1=>hK G _ (.ret c) _ _ _ le1 R1 ⟨v,rfl,r1⟩ h1)
def Kz:PS:=fun rho sg Q=>Q (.ret .none) rho sg
theorem Hv{pos:Pos}:r_ W X (.Return none pos) Kz:= .of fun rho sg Q E hp F s K R hK=>wpAny_Return_none (hK F _ (.ret .none) _ _ _ (.refl F) R ⟨_,rfl,.none⟩ hp)
def Io(rho:bp)(Q:Fl→bp→Sg→Prop)(_:CV)(sg1:Sg):Prop:=Q .next rho sg1
def cB(p:PE):PS:=fun rho sg Q=>p rho sg (Io rho Q)
theorem bq{e:Expr}{pos:Pos}{p:PE}(hi:interactive X.env=false)(hs:swapsWith e none pos.line X.env=pure false)(h:cQ W X e p):r_ W X (.Expr e pos) (cB p):= .of fun rho sg Q E hp F s K R hK=>
 wpAny_Expr_any (h.go hp R fun G v c sg1 s1 le1 R1 r1 h1=>hK G .next .next _ _ _ le1 R1 rfl h1) hi hs
def Lv(pb po:PS)(rho:bp)(Q:Fl→bp→Sg→Prop)(b:Bool)(sg1:Sg):Prop:=Dd b (pb rho sg1 Q) (po rho sg1 Q)
def ew(pt:PB)(pb po:PS):PS:=fun rho sg Q=>pt rho sg (Lv pb po rho Q)
theorem be{test:Expr}{body orelse:List Stmt}{pos:Pos}{pt:PB}{pb po:PS}(ht:uI W X test pt)(hb:ix W X body pb)(ho:ix W X orelse po):r_ W X (.If test body orelse pos) (ew pt pb po):= .of fun rho sg Q E hp F s K R hK=>
 wpAny_If (ht.go hp R fun G b b' sg1 s1 le1 R1 r1 h1=>by
  subst r1;cases b with
  |true=>exact hb.go (h1.1 rfl) R1 fun G2 f g rho' sg' s' le2 R2 hf hg=>hK G2 f g _ _ _ (le1.trans le2) R2 hf hg
  |false=>exact ho.go (h1.2 rfl) R1 fun G2 f g rho' sg' s' le2 R2 hf hg=>hK G2 f g _ _ _ (le1.trans le2) R2 hf hg)
def am:PS:=fun rho sg Q=>Q .next rho sg
def IV:PS:=fun rho sg Q=>Q .brk rho sg
def Fj:PS:=fun rho sg Q=>Q .cont rho sg
def m8:PS:=fun O O O=>False
theorem fR{st:Stmt}:r_ W X st m8:= .of fun O O O O h=>h.elim
theorem vX{st:List Stmt}:ix W X st m8:= .of fun O O O O h=>h.elim
theorem Bj{pos:Pos}:r_ W X (.Break pos) IV:= .of fun rho sg Q E hp F s K R hK=>wpAny_Break (hK F _ .brk _ _ _ (.refl F) R rfl hp)
theorem tL{pos:Pos}:r_ W X (.Continue pos) Fj:= .of fun rho sg Q E hp F s K R hK=>wpAny_Continue (hK F _ .cont _ _ _ (.refl F) R rfl hp)
theorem ai:ix W X [] am:= .of fun rho sg Q E hp F s K R hK=>wpAny_execs_nil (hK F _ .next _ _ _ (.refl F) R rfl hp)
def wH(ps:PS)(Q:Fl→bp→Sg→Prop)(f:Fl)(rho1:bp)(sg1:Sg):Prop:=match f with
 | .next=>ps rho1 sg1 Q
 |f=>Q f rho1 sg1
def aj(p ps:PS):PS:=fun rho sg Q=>p rho sg (wH ps Q)
theorem ag{st:Stmt}{rest:List Stmt}{p ps:PS}(h1:r_ W X st p)(h2:ix W X rest ps):ix W X (st::rest) (aj p ps):= .of fun rho sg Q E hp F s K R hK=>
 wpAny_execs_cons (h1.go hp R fun G f g rho1 sg1 s1 le1 R1 hf hg=>by
  cases g with
  |next=>rw[show f= .next from hf];exact h2.go hg R1 fun G2 f g rho' sg' s' le2 R2 hf hg=>hK G2 f g _ _ _ (le1.trans le2) R2 hf hg
  |brk=>rw[show f= .brk from hf];exact hK G _ .brk _ _ _ le1 R1 rfl hg
  |cont=>rw[show f= .cont from hf];exact hK G _ .cont _ _ _ le1 R1 rfl hg
  |ret c=>obtain⟨v,rfl,r⟩:=hf;exact hK G _ (.ret c) _ _ _ le1 R1 ⟨v,rfl,r⟩ hg)
def kM(sg:Sg)(c:CV)(b:Bool):Prop:=match c with
 | .bool x=>b=x
 | .none=>b=false
 | .int i=>b=(i !=0)
 | .lst l=>l.length≤1000∧b= !l.isEmpty
 | .ref a=>∃l,(a,MO.lst l)∈sg∧l.length≤1000∧b= !l.isEmpty
 |_=>False
theorem r8{vs:List Value}{cs:List CV}(h:b6 W F vs cs):vs.toArray.isEmpty=cs.isEmpty:=by cases h<;>simp
theorem jy(R:bc W X F rho sg s){v:Value}{c:CV}(hv:bC W F v c){b:Bool}(h:kM sg c b){Q:Bool→Shared→Prop}{E:Value→Shared→Prop}(hq:∀tk,Q b {s with toks:=tk}):wpAny (model W.prog W.w) X.A (truthy v) Q E s:=by
 cases c with
 |bool x=>apply hv.onBool;rw[show b=x from h]at hq;exact wpAny_truthy_bool (hq s.toks)
 |none=>apply hv.onNone;rw[show b=false from h]at hq;exact truthy_none (hq s.toks)
 |int i=>apply hv.onInt;intro t;rw[show b=(i !=0)from h]at hq;exact P.truthy_int (hq s.toks)
 |lst l=>
  have h:_∧_:=h;apply hv.onLst;intro a vs n h1 h2;rw[h.2,←r8 h2]at hq;exact wpAny_truthy_list ⟨_,R.fz _ _ h1,rfl,_,rfl⟩ (by rw[List.size_toArray,h2.length];have:=h.1;lia) (hq _)
 |ref a=>
  refine el13 h fun l hm hl hb=> ?_;refine el22 (R.mo _ hm) fun vs n e r=> ?_;apply hv.onRef;rw[hb,←r8 r]at hq;exact wpAny_truthy_list ⟨_,e,rfl,_,rfl⟩ (by rw[List.size_toArray,r.length];lia) (hq _)
 |_=>exact h.elim
def yE(Q:Bool→Sg→Prop)(c:CV)(sg1:Sg):Prop:=Dh (kM sg1 c) Q sg1
def aX(p:PE):PB:=fun rho sg Q=>p rho sg (yE Q)
theorem bj{e:Expr}{p:PE}(he:isTrue e X.env (eval e X.env)=(do let v ←eval e X.env;standAt e.pos;holding [v] (truthy v)))(h:cQ W X e p):uI W X e (aX p):= .of fun rho sg Q E hp F s K R hK=>
 isTrue_plain (h.go hp R fun G v c sg1 s1 le1 R1 r1 ⟨b,hb,hq⟩=>jy R1 r1 hb fun tk=>hK G b b sg1 _ le1 R1.tok rfl hq) he
def KQ(Q:Bool→Sg→Prop)(b:Bool)(sg1:Sg):Prop:=Q (!b) sg1
def lz(p:PB):PB:=fun rho sg Q=>p rho sg (KQ Q)
theorem c9{e:Expr}{pos:Pos}{p:PB}(h:uI W X e p):uI W X (.UnaryOp .Not e pos) (lz p):= .of fun rho sg Q E hp F s K R hK=>
 isTrue_not (h.go hp R fun G b b' sg1 s1 le1 R1 r1 h1=>by subst r1;exact hK G _ _ sg1 _ le1 R1 rfl h1)
def d9:PB:=fun O sg Q=>Q true sg
def Ah:PB:=fun O sg Q=>Q false sg
def KK(q:PB)(rho:bp)(Q:Bool→Sg→Prop)(b:Bool)(sg1:Sg):Prop:=Dd b (q rho sg1 Q) (Q false sg1)
def LN(q:PB)(rho:bp)(Q:Bool→Sg→Prop)(b:Bool)(sg1:Sg):Prop:=Dd b (Q true sg1) (q rho sg1 Q)
def qw(p q:PB):PB:=fun rho sg Q=>p rho sg (KK q rho Q)
def yD(p q:PB):PB:=fun rho sg Q=>p rho sg (LN q rho Q)
theorem jd{pos:Pos}:uI W X (.BoolOp .And [] pos) d9:= .of fun rho sg Q E hp F s K R hK=>isTrue_and_nil (hK F _ _ _ _ (.refl F) R rfl hp)
theorem jW{pos:Pos}:uI W X (.BoolOp .Or [] pos) Ah:= .of fun rho sg Q E hp F s K R hK=>isTrue_or_nil (hK F _ _ _ _ (.refl F) R rfl hp)
theorem eJ{e:Expr}{es:List Expr}{pos:Pos}{p q:PB}(h1:uI W X e p)(h2:uI W X (.BoolOp .And es pos) q):uI W X (.BoolOp .And (e::es) pos) (qw p q):= .of fun rho sg Q E hp F s K R hK=>
 isTrue_and (h1.go hp R fun G b b' sg1 s1 le1 R1 r1 h=>by
  subst r1;cases b with
  |true=>exact h2.go (h.1 rfl) R1 fun G2 b b' sg2 s2 le2 R2 r2 h'=>hK G2 _ _ _ _ (le1.trans le2) R2 r2 h'
  |false=>exact hK G _ _ _ _ le1 R1 rfl (h.2 rfl))
theorem eg{e:Expr}{es:List Expr}{pos:Pos}{p q:PB}(h1:uI W X e p)(h2:uI W X (.BoolOp .Or es pos) q):uI W X (.BoolOp .Or (e::es) pos) (yD p q):= .of fun rho sg Q E hp F s K R hK=>
 isTrue_or (h1.go hp R fun G b b' sg1 s1 le1 R1 r1 h=>by
  subst r1;cases b with
  |true=>exact hK G _ _ _ _ le1 R1 rfl (h.1 rfl)
  |false=>exact h2.go (h.2 rfl) R1 fun G2 b b' sg2 s2 le2 R2 r2 h'=>hK G2 _ _ _ _ (le1.trans le2) R2 r2 h')
def Lu(pb po:PE)(rho:bp)(Q:CV→Sg→Prop)(b:Bool)(sg1:Sg):Prop:=Dd b (pb rho sg1 Q) (po rho sg1 Q)
def xY(pt:PB)(pb po:PE):PE:=fun rho sg Q=>pt rho sg (Lu pb po rho Q)
theorem fZ{test body orelse:Expr}{pos:Pos}{pt:PB}{pb po:PE}(ht:uI W X test pt)(hb:cQ W X body pb)(ho:cQ W X orelse po):cQ W X (.IfExp test body orelse pos) (xY pt pb po):= .of fun rho sg Q E hp F s K R hK=>by
 show wpAny _ _ (do if ←isTrue test X.env (eval test X.env)then eval body X.env else eval orelse X.env) _ _ _
 refine wpAny_bind (ht.go hp R fun G b b' sg1 s1 le1 R1 r1 h1=> ?_);subst r1;cases b with
 |true=>exact hb.go (h1.1 rfl) R1 fun G2 v c sg2 s2 le2 R2 r2 h'=>hK G2 _ _ _ _ (le1.trans le2) R2 r2 h'
 |false=>exact ho.go (h1.2 rfl) R1 fun G2 v c sg2 s2 le2 R2 r2 h'=>hK G2 _ _ _ _ (le1.trans le2) R2 r2 h'
end
noncomputable def FX.guard(X:FX)(I:Addr)(o:Obj):FX:={X with kept:=X.kept.put I o,hce:=fun x c h=>⟨(X.hce x c h).1,(X.hce x c h).2.imp id fun⟨p,e⟩=>by
 by_cases q:c=I
 ·exact⟨o,by rw[q];exact Fz.put_self ..⟩
 ·exact⟨p,by rw[Fz.put_ne _ _ q];exact e⟩⟩}
structure iw(X:FX)(F:Fz)(sg:Sg)(I:Addr):Prop where
 f:F I=none
 k:X.kept I=none
 o:I∉X.own++adrs sg
section
variable {W:Wd}{X:FX}{F:Fz}{rho:bp}{sg:Sg}{s:Shared}
theorem bc.fresh(R:bc W X F rho sg s){I:Addr}(h:s.heap.get? I=none):iw X F sg I:=⟨R.F_none h,R.k_none h,R.not_mem h⟩
theorem bc.guard(R:bc W X F rho sg s){I:Addr}{o:Obj}(h:iw X F sg I)(e:s.heap.get? I=some o):bc W (X.guard I o) F rho sg s where
 fz:=R.fz
 kp:=fun a p q=>by
  by_cases z:a=I
  ·obtain rfl:=z.symm;rw[show(X.guard I o).kept I=some o from Fz.put_self ..]at q;cases q;exact e
  ·exact R.kp a p (by rw[←Fz.put_ne X.kept o z];exact q)
 bs:=R.bs
 va:=R.va
 ns:=R.ns
 ce:=R.ce
 mo:=R.mo
 nd:=R.nd
 th:=R.th
 ds:=fun a ha=>⟨(R.ds a ha).1,by
  have z:a≠I:=fun z=>h.o (z▸ha);show X.kept.put I o a=none;rw[Fz.put_ne _ _ z];exact(R.ds a ha).2⟩
 dk:=fun a p q=>by
  by_cases z:a=I
  ·rw[z];exact h.f
  ·exact R.dk a p (by rw[←Fz.put_ne X.kept o z];exact q)
 gens:=R.gens
 os:=R.os
theorem bc.unguard{I:Addr}{o:Obj}(hk:X.kept I=none)(R:bc W (X.guard I o) F rho sg s):bc W X F rho sg s∧iw X F sg I∧s.heap.get? I=some o:=by
 have hI:(X.guard I o).kept I=some o:=Fz.put_self ..;have sub:∀a p,X.kept a=some p→(X.guard I o).kept a=some p:=fun a p q=>by
  have z:a≠I:=fun z=>by rw[z,hk]at q;cases q
  show X.kept.put I o a=_;rw[Fz.put_ne _ _ z];exact q
 refine⟨{
  fz:=R.fz
  kp:=fun a p q=>R.kp a p (sub a p q)
  bs:=R.bs
  va:=R.va
  ns:=R.ns
  ce:=R.ce
  mo:=R.mo
  nd:=R.nd
  th:=R.th
  ds:=fun a ha=>⟨(R.ds a ha).1,by
   cases q:X.kept a with
   |none=>rfl
   |some p=>have:=(R.ds a ha).2;rw[sub a p q]at this;cases this⟩
  dk:=fun a p q=>R.dk a p (sub a p q)
  gens:=R.gens
  os:=R.os},⟨R.dk I o hI,hk,fun hm=> ?_⟩,R.kp I o hI⟩
 have:=(R.ds I hm).2;rw[hI]at this;exact sn this
theorem bc.freeStep(R:bc W X F rho sg s){I:Addr}(h:iw X F sg I){h':Heap}{tk:Nat}(hk:∀b o,b≠I→s.heap.get? b=some o→h'.get? b=some o):bc W X F rho sg {s with heap:=h',toks:=tk}:=
 R.keepF (.refl F) (fun a o e=>hk a o (fun z=>by rw[z,h.f]at e;cases e) (R.fz a o e)) (fun a ha=>(R.ds a ha).1) R.dk fun b o e hb=>hk b o (fun z=>by
  rcases hb with hb|⟨p,hb⟩
  ·exact h.o (z▸hb)
  ·rw[z,h.k]at hb;cases hb) e
theorem iw.mono{G:Fz}{sg':Sg}{I:Addr}(h:iw X F sg I)(hG:G I=none)(hs:I∉X.own++adrs sg'):iw X G sg' I:=⟨hG,h.k,hs⟩
def F8(L:PS)(Q:Fl→bp→Sg→Prop)(f:Fl)(rho1:bp)(sg1:Sg):Prop:=match f with
 | .next=>L rho1 sg1 Q
 | .cont=>L rho1 sg1 Q
 | .brk=>Q .next rho1 sg1
 | .ret c=>Q (.ret c) rho1 sg1
noncomputable def dJ(B:PS)(i:Nat):List CV→PS
 |[]=>fun rho sg Q=>Q .next rho sg
 |c::cs=>fun rho sg Q=>B (rho.set i (some c)) sg (F8 (dJ B i cs) Q)
def xE(W:Wd)(A:Around)(env:Env)(ns gs:List Str)(sc:Scope)(n m:Nat)(body:List Stmt)(p:PS):Prop:=∀X:FX,X.A=A→X.env=env→X.names=ns→X.globs=gs→X.env.scope=sc→X.n=n→X.m=m→ix W X body p
structure Ki(W:Wd)(X:FX)(F:Fz)(I:Addr)(fp:List Addr)(N:Nat)(P:Nat→Value→Prop)(St:Nat→Heap→Prop)(cs:List CV):Prop where
 Wk:Walks W.prog W.w X.A I fp [I] N P St
 hfp:∀b∈fp,b≠I→∃o,F b=some o
 hob:∀k h,St k h→∃o,h.get? I=some o
 hcs:cs.length=N
 hP:∀k v,P k v→∃c,cs[k]? =some c∧bC W F v c
inductive IK(W:Wd)(X:FX)(F:Fz)(I:Addr)(N:Nat)(St:Nat→Heap→Prop)(go:Nat→bp→Sg→Prop)(k:Nat)(s:Shared):Prop
 |mk (G:Fz) (rho:bp) (sg:Sg) (j:Nat):k=N-j→j≤N→F.le G→bc W X G rho sg s→iw X G sg I→St j s.heap→go j rho sg→IK W X F I N St go k s
section
variable {I:Addr}{fp:List Addr}{N:Nat}{P:Nat→Value→Prop}{St:Nat→Heap→Prop}{cs:List CV}{G:Fz}{j:Nat}
theorem Ki.st(H:Ki W X F I fp N P St cs)(le:F.le G){h1 h2:Heap}(f1:∀b o,G b=some o→h1.get? b=some o)(f2:∀b o,G b=some o→h2.get? b=some o)(fI:∀o,h1.get? I=some o→h2.get? I=some o)(hst:St j h1):St j h2:=by
 refine H.Wk.frame _ _ _ hst fun b hb o e=> ?_;by_cases z:b=I
 ·exact z▸fI o (z▸e)
 ·obtain⟨p,hp⟩:=H.hfp b hb z;exact Option.some.inj ((f1 b p (le b p hp)).symm.trans e)▸f2 b p (le b p hp)
theorem Ki.back(H:Ki W X F I fp N P St cs){go:Nat→bp→Sg→Prop}(le:F.le G)(R:bc W X G rho sg s)(hF:iw X G sg I)(hst:St (j+1) s.heap){ob:Obj}(hob:s.heap.get? I=some ob)(hlt:j<N)
  {G2:Fz} {rho2:bp} {sg2:Sg} {s2:Shared} (le2:G.le G2) (R2:bc W (X.guard I ob) G2 rho2 sg2 s2) (hc:go (j+1) rho2 sg2):∃m,m<N-j∧IK W X F I N St go m s2:=by
 obtain⟨R3,hF3,e3⟩:=R2.unguard hF.k;exact⟨N-(j+1),Nat.sub_lt_sub_left hlt (Nat.lt_succ_self j),G2,rho2,sg2,j+1,rfl,hlt,le.trans le2,R3,hF3,H.st le R.fz (fun b o e=>R3.fz b o (le2 b o e)) (fun o e=>Option.some.inj (hob.symm.trans e)▸e3) hst,hc⟩
end
theorem D_{α:Type}{l:List α}{j:Nat}{c:α}(h:l[j]? =some c):l.drop j=c::l.drop (j+1):=by
 obtain⟨hl,he⟩:=List.getElem?_eq_some_iff.mp h;rw[List.drop_eq_getElem_cons hl,he]
theorem zd{ns gs:List Str}{sc:Scope}{n m:Nat}{body:List Stmt}{B:PS}{x:Str}{px:Pos}(i:Nat)(hn:X.names=ns)(hg:X.globs=gs)(hsc:X.env.scope=sc)(hnn:X.n=n)(hm:X.m=m)(hx:ns[i]? =some x)(hi:i<m)
  (hB:xE W X.A X.env ns gs sc n m body B) {I:Addr} {fp:List Addr} {N:Nat} {P:Nat→Value→Prop} {St:Nat→Heap→Prop} (Wk:Walks W.prog W.w X.A I fp [I] N P St) (hfp:∀b∈fp,b≠I→∃o,F b=some o)
  (hob:∀k h,St k h→∃o,h.get? I=some o) {cs:List CV} (hcs:cs.length=N) (hP:∀k v,P k v→∃c,cs[k]? =some c∧bC W F v c)
  (R:bc W X F rho sg s) (hF:iw X F sg I) (hst:St 0 s.heap) {Q:Fl→bp→Sg→Prop} (h:dJ B i cs rho sg Q) {K:Flow→Shared→Prop} {E:Value→Shared→Prop}
  (hK:∀G f g rho' sg' s',F.le G→bc W X G rho' sg' s'→BZ W G f g→Q g rho' sg'→K f s'):
  codeAny (model W.prog W.w) X.A (.forLoop (.Name x px) (.ref I) body [] X.env) (fun r s'=>match r with| .ok f=>K f s'| .error e=>cameBackBy (model W.prog W.w) X.A X.env E e s') s:=by
 have H:Ki W X F I fp N P St cs:=⟨Wk,hfp,hob,hcs,hP⟩;refine codeAny_forLoop_any (IK W X F I N St fun j rho sg=>dJ B i (cs.drop j) rho sg Q) (fun k s inv=> ?_) N ⟨F,rho,sg,0,rfl,Nat.zero_le _,.refl F,R,hF,hst,h⟩;clear R hF hst h;obtain⟨G,rho,sg,j,hk,hj,le,R,hF,hst,hc⟩:=inv;subst hk;rcases Nat.lt_or_ge j N with hlt|hge
 ·refine Wk.item j _ _ _ hlt hst fun v h₁ tk₁ hPv hst₁ hk₁=> ?_;have R1:bc W X G rho sg {s with heap:=h₁,toks:=tk₁}:=R.freeStep hF fun b o hb e=>hk₁ b o (fun z=>hb (List.mem_singleton.mp z)) e;obtain⟨c,hcj,hv⟩:=hP j v hPv;obtain⟨ob,hob1⟩:=hob _ _ hst₁;rw[D_ hcj]at hc;have back:=fun {G2 rho2 sg2 s2}=>H.back (go:=fun j rho sg=>dJ B i (cs.drop j) rho sg Q) (G2:=G2) (rho2:=rho2) (sg2:=sg2) (s2:=s2) le R1 hF hst₁ hob1 hlt;refine wpAny_of_eq (show letOwnedTupleGo (.Name x px) (.ref I) v=pure ()from rfl) ?_
  refine wpAny_assign_Name (jx (X:=X.guard I ob) i hn hm hx hi (R1.guard hF hob1) (hv.mono le) fun s2 R2=> ?_);refine(hB (X.guard I ob) rfl rfl hn hg hsc hnn hm).go hc R2 fun G2 f g rho2 sg2 s3 le2 R3 hf hq=> ?_;cases g with
  |next=>rw[show f= .next from hf];exact back le2 R3 hq
  |cont=>rw[show f= .cont from hf];exact back le2 R3 hq
  |brk=>rw[show f= .brk from hf];exact hK G2 .next .next _ _ _ (le.trans le2) (R3.unguard hF.k).1 rfl hq
  |ret c=>obtain⟨v,e,r⟩:=hf;rw[e];exact hK G2 (.ret v) (.ret c) _ _ _ (le.trans le2) (R3.unguard hF.k).1 ⟨v,rfl,r⟩ hq
 ·have hjN:=Nat.le_antisymm hj hge;refine Wk.done _ _ _ (hjN▸hst) fun h₁ tk₁ hk₁=> ?_;rw[List.drop_of_length_le (Nat.le_of_eq (hcs.trans hjN.symm))]at hc;exact wpAny_execs_nil (hK G .next .next _ _ _ le (R.freeStep hF fun b o hb e=>hk₁ b o (fun z=>hb (List.mem_singleton.mp z)) e) rfl hc)
def tr(W:Wd)(X:FX)(F:Fz)(s:Shared)(v:Value)(cs:List CV)(S:Addr→Heap→Prop:=fun O O=>True):Prop:=
 ∀(Q E:Value→Shared→Prop),(∀(I:Addr) (h':Heap) (tk:Nat) (fp:List Addr) (N:Nat) (P:Nat→Value→Prop) (St:Nat→Heap→Prop),s.heap.get? I=none→(∀b o,s.heap.get? b=some o→h'.get? b=some o)→
  Walks W.prog W.w X.A I fp [I] N P St→(∀b∈fp,b≠I→∃o,F b=some o)→(∀k h,St k h→∃o,h.get? I=some o)→(∀k h,St k h→S I h)→cs.length=N→(∀k v,P k v→∃c,cs[k]? =some c∧bC W F v c)→St 0 h'→Q (.ref I) {s with heap:=h',toks:=tk})→wpAny (model W.prog W.w) X.A (pyIter v) Q E s
theorem tr.forS{ns gs:List Str}{sc:Scope}{n m:Nat}{body:List Stmt}{B:PS}{x:Str}{px:Pos}(i:Nat)(hn:X.names=ns)(hg:X.globs=gs)(hsc:X.env.scope=sc)(hnn:X.n=n)(hm:X.m=m)(hx:ns[i]? =some x)(hi:i<m)
  (hB:xE W X.A X.env ns gs sc n m body B) {v:Value} {cs:List CV} (it:tr W X F s v cs) (R:bc W X F rho sg s) {Q:Fl→bp→Sg→Prop} (h:dJ B i cs rho sg Q) {K:Flow→Shared→Prop} {E:Value→Shared→Prop}
  (hK:∀G f g rho' sg' s',F.le G→bc W X G rho' sg' s'→BZ W G f g→Q g rho' sg'→K f s'):
  wpAny (model W.prog W.w) X.A (pyIter v) (fun it s₂=>codeAny (model W.prog W.w) X.A (.forLoop (.Name x px) it body [] X.env) (fun r s'=>match r with| .ok f=>K f s'| .error e=>cameBackBy (model W.prog W.w) X.A X.env E e s') s₂) E s:=
 it _ _ fun I h' tk fp N P St hI hk Wk hfp hob O hcs hP hst=>
  have R':bc W X F rho sg {s with heap:=h',toks:=tk}:=R.grow hk
  zd i hn hg hsc hnn hm hx hi hB Wk hfp hob hcs hP R' (R.fresh hI) hst h hK
theorem yb{v:Value}{l:List CV}(R:bc W X F rho sg s)(hv:bC W F v (.lst l)):tr W X F s v l (fun I h=>∃l j,h.IsListIter I l j):=fun Q E h=>by
 apply hv.onLst;intro a vs n h1 h2;have hl:s.heap.IsList a vs.toArray:=⟨_,R.fz _ _ h1,rfl,_,rfl⟩;have hlt:a<s.heap.objs.size:=Heap.lt_size (R.fz _ _ h1);refine wpAny_pyIter_list hl (h s.heap.objs.size _ s.toks _ _ _ _ bJ (aY _ _) (Walks.list X.hh s.heap.objs.size a (Nat.ne_of_lt hlt) vs.toArray) ?_ ?_ (fun k h hst=>⟨_,_,hst.1⟩) ?_ ?_ ⟨⟨_,Heap.get?_push_size _ rfl,rfl,rfl⟩,hl.at fun o e=>aY _ _ _ _ e⟩)
 ·intro b hb hne;simp at hb;rcases hb with rfl|rfl
  ·exact absurd rfl hne
  ·exact⟨_,h1⟩
 ·rintro k h ⟨⟨o,e,_⟩,_⟩;exact⟨o,e⟩
 ·rw[List.size_toArray,h2.length]
 ·intro k v hp;exact h2.getv (by simpa using hp)
theorem Ep{v:Value}{l:List CV}(R:bc W X F rho sg s)(hv:bC W F v (.tup l)):tr W X F s v l:=fun Q E h=>by
 apply hv.onTup;intro a o vs n h1 hc hd h2;have hl:s.heap.IsTuple a vs.toArray:=⟨_,R.fz _ _ h1,hc,_,hd⟩;have hlt:a<s.heap.objs.size:=Heap.lt_size (R.fz _ _ h1);refine wpAny_pyIter_tuple hl (h s.heap.objs.size _ s.toks _ _ _ _ bJ (aY _ _) (Walks.tuple X.hh s.heap.objs.size a (Nat.ne_of_lt hlt) vs.toArray) ?_ ?_ (fun O O O=>trivial) ?_ ?_ ⟨⟨_,Heap.get?_push_size _ rfl,rfl,rfl⟩,hl.at fun o e=>aY _ _ _ _ e⟩)
 ·intro b hb hne;simp at hb;rcases hb with rfl|rfl
  ·exact absurd rfl hne
  ·exact⟨_,h1⟩
 ·rintro k h ⟨⟨o,e,_⟩,_⟩;exact⟨o,e⟩
 ·rw[List.size_toArray,h2.length]
 ·intro k v hp;exact h2.getv (by simpa using hp)
theorem mx.get{K α β:Type}{R:α→β→Prop}{vs:List (K×α)}{cs:List (K×β)}(h:mx R vs cs):∀{i:Nat} {k:K} {v:α},vs[i]? =some (k,v)→∃c,cs[i]? =some (k,c)∧R v c:=by
 induction h with
 |nil=>exact fun e=>nomatch e
 |cons h _ ih=>
  intro i k v e;cases i with
  |zero=>cases e;exact⟨_,rfl,h⟩
  |succ i=>exact ih e
theorem pH{k:Str}{v:Value}(h:(strKind W.prog W.w).is k v=true):∃t,v= .str k t:=Value.isStrOf_shape h
theorem xr{k:Int}{v:Value}(h:(intKind W.prog W.w).is k v=true):∃t,v= .int k t:=Value.isInt_shape h
theorem F1{v:Value}{l:List (Str×CV)}(R:bc W X F rho sg s)(hv:bC W F v (.sd l)):tr W X F s v (l.map fun p=> .str p.1):=fun Q E h=>by
 apply hv.onSd;intro a o kvs h1 hne hd h2;have hD:s.heap.DictOf (strKind W.prog W.w) a kvs:=Heap.dictOf_iff.mpr ⟨o,R.fz _ _ h1,hd⟩;obtain⟨ep,hA⟩:=hD.dictAt;have hlt:a<s.heap.objs.size:=Heap.lt_size (R.fz _ _ h1);refine wpAny_pyIter_dict (beq_eq_false_iff_ne.mpr hne) hA (h s.heap.objs.size _ s.toks _ _ _ _ bJ (aY _ _) (Walks.dictKeys X.hh s.heap.objs.size a (Nat.ne_of_lt hlt) kvs ep) ?_ ?_ (fun O O O=>trivial) ?_ ?_ ⟨⟨_,Heap.get?_push_size _ rfl,rfl,rfl⟩,hA.push _⟩)
 ·intro b hb hne;simp at hb;rcases hb with rfl|rfl
  ·exact absurd rfl hne
  ·exact⟨_,h1⟩
 ·rintro k h ⟨⟨o,e,_⟩,_⟩;exact⟨o,e⟩
 ·rw[List.length_map,h2.length]
 ·rintro k v ⟨key,x,hx,hk⟩;refine el12 (h2.get hx) fun c hc O=> ?_;obtain⟨t,rfl⟩:=pH hk;exact⟨_,by rw[List.getElem?_map,hc];rfl,.str _ _⟩
theorem FZ{v:Value}{l:List (Int×CV)}(R:bc W X F rho sg s)(hv:bC W F v (.nd l)):tr W X F s v (l.map fun p=> .int p.1):=fun Q E h=>by
 apply hv.onNd;intro a o kvs h1 hne hd h2;have hD:s.heap.DictOf (intKind W.prog W.w) a kvs:=Heap.dictOf_iff.mpr ⟨o,R.fz _ _ h1,hd⟩;obtain⟨ep,hA⟩:=hD.dictAt;have hlt:a<s.heap.objs.size:=Heap.lt_size (R.fz _ _ h1);refine wpAny_pyIter_dict (beq_eq_false_iff_ne.mpr hne) hA (h s.heap.objs.size _ s.toks _ _ _ _ bJ (aY _ _) (Walks.dictKeys X.hh s.heap.objs.size a (Nat.ne_of_lt hlt) kvs ep) ?_ ?_ (fun O O O=>trivial) ?_ ?_ ⟨⟨_,Heap.get?_push_size _ rfl,rfl,rfl⟩,hA.push _⟩)
 ·intro b hb hne;simp at hb;rcases hb with rfl|rfl
  ·exact absurd rfl hne
  ·exact⟨_,h1⟩
 ·rintro k h ⟨⟨o,e,_⟩,_⟩;exact⟨o,e⟩
 ·rw[List.length_map,h2.length]
 ·rintro k v ⟨key,x,hx,hk⟩;refine el12 (h2.get hx) fun c hc O=> ?_;obtain⟨t,rfl⟩:=xr hk;exact⟨_,by rw[List.getElem?_map,hc];rfl,.int _ _⟩
noncomputable def jY(c:CV):List CV:=match c with
 | .lst l=>l
 | .tup l=>l
 | .sd l=>l.map fun p=> .str p.1
 | .nd l=>l.map fun p=> .int p.1
 |_=>[]
def cu:CV→Prop
 | .lst _=>True
 | .tup _=>True
 | .sd _=>True
 | .nd _=>True
 |_=>False
theorem Bo{v:Value}{c:CV}(R:bc W X F rho sg s)(hv:bC W F v c)(h:cu c):tr W X F s v (jY c):=by
 cases c with
 |lst l=>exact fun Q E h=>yb R hv Q E fun I h' tk fp N P St h1 h2 h3 h4 h5 O=>h I h' tk fp N P St h1 h2 h3 h4 h5 fun O O O=>trivial
 |tup l=>exact Ep R hv
 |sd l=>exact F1 R hv
 |nd l=>exact FZ R hv
 |_=>exact h.elim
def Ko(i:Nat)(B:PS)(rho:bp)(Q:Fl→bp→Sg→Prop)(c:CV)(sg1:Sg):Prop:=cu c∧dJ B i (jY c) rho sg1 Q
def forS(i:Nat)(p:PE)(B:PS):PS:=fun rho sg Q=>p rho sg (Ko i B rho Q)
theorem fY{ns gs:List Str}{sc:Scope}{n m:Nat}{body:List Stmt}{B:PS}{x:Str}{px pos:Pos}{iter:Expr}{p:PE}(i:Nat)(hn:X.names=ns)(hg:X.globs=gs)(hsc:X.env.scope=sc)(hnn:X.n=n)(hm:X.m=m)(hx:ns[i]? =some x)(hi:i<m)
  (hs:∀v,foldedSetIterable iter X.env v=pure v) (h:cQ W X iter p) (hB:xE W X.A X.env ns gs sc n m body B):r_ W X (.For (.Name x px) iter body [] pos) (forS i p B):= .of fun rho sg Q E hp F s K R hK=>by
 refine wpAny_For (h.go hp R fun G v c sg1 s1 le1 R1 r1 h1=> ?_) hs;exact(Bo R1 r1 h1.1).forS i hn hg hsc hnn hm hx hi hB R1 h1.2 fun G2 f g rho' sg' s' le2 R2 hf hq=>hK G2 f g _ _ _ (le1.trans le2) R2 hf hq
def L9(B L:PS)(rho:bp)(Q:Fl→bp→Sg→Prop)(b:Bool)(sg1:Sg):Prop:=Dd b (B rho sg1 (F8 L Q)) (Q .next rho sg1)
noncomputable def kj(T:PB)(B:PS):Nat→PS
 |0=>fun O O O=>False
 |n+1=>fun rho sg Q=>T rho sg (L9 B (kj T B n) rho Q)
def tn(T:PB)(B:PS):PS:=fun rho sg Q=>∃n,kj T B n rho sg Q
inductive Kh(W:Wd)(X:FX)(F:Fz)(T:PB)(B:PS)(Q:Fl→bp→Sg→Prop)(k:Nat)(s:Shared):Prop
 |mk (G:Fz) (rho:bp) (sg:Sg):F.le G→bc W X G rho sg s→kj T B k rho sg Q→Kh W X F T B Q k s
theorem nq{test:Expr}{body:List Stmt}{pos:Pos}{T:PB}{B:PS}(ht:uI W X test T)(hB:ix W X body B):r_ W X (.While test body [] pos) (tn T B):= .of fun rho sg Q E ⟨n,hp⟩ F s K R hK=>by
 refine wpAny_While (codeAny_whileLoop (Kh W X F T B Q) ?_ n ⟨F,rho,sg,.refl F,R,hp⟩);rintro k s' ⟨G,rho',sg',le,R',hc⟩;cases k with
 |zero=>exact hc.elim
 |succ k=>
  refine ht.go hc R' fun G1 b b' sg1 s1 le1 R1 r1 h1=> ?_;subst r1;cases b with
  |false=>exact wpAny_execs_nil (hK G1 .next .next _ _ _ (le.trans le1) R1 rfl (h1.2 rfl))
  |true=>
   refine hB.go (h1.1 rfl) R1 fun G2 f g rho2 sg2 s3 le2 R3 hf hq=> ?_;cases g with
   |next=>rw[show f= .next from hf];exact⟨k,Nat.lt_succ_self _,G2,rho2,sg2,(le.trans le1).trans le2,R3,hq⟩
   |cont=>rw[show f= .cont from hf];exact⟨k,Nat.lt_succ_self _,G2,rho2,sg2,(le.trans le1).trans le2,R3,hq⟩
   |brk=>rw[show f= .brk from hf];exact hK G2 .next .next _ _ _ ((le.trans le1).trans le2) R3 rfl hq
   |ret c=>obtain⟨v,rfl,r⟩:=hf;exact hK G2 (.ret v) (.ret c) _ _ _ ((le.trans le1).trans le2) R3 ⟨v,rfl,r⟩ hq
end
def nE(prog:Program)(w:World)(A:Around)(env:Env)(R:Result→Shared→Prop):Value→Shared→Prop:=notedBy (model prog w) A env fun e s'=>R (.error e) s'
def KS(prog:Program)(w:World)(A:Around)(elt:Expr)(acc:Value)(env:Env)(R:Result→Shared→Prop)(J:Shared→Prop)(ok:Bool)(s₃:Shared):Prop:=
 if ok=true then wpAny (model prog w) A (eval elt env) (fun x s₄=>wpAny (model prog w) A (call (.builtin "list.append") [acc,x]) (fun O s₅=>J s₅) (nE prog w A env R) s₄) (nE prog w A env R) s₃ else J s₃
def KT(prog:Program)(w:World)(A:Around)(ifs:List Expr)(elt:Expr)(acc:Value)(env:Env)(R:Result→Shared→Prop)(J:Shared→Prop)(_:Unit)(s₂:Shared):Prop:=
 wpAny (model prog w) A (forIn ifs true fun c r=>if r=true then do let ok ←isTrue c env (eval c env);pure (ForInStep.yield ok)else pure (ForInStep.yield r)) (KS prog w A elt acc env R J) (nE prog w A env R) s₂
def IE(prog:Program)(w:World)(A:Around)(target:Expr)(ifs:List Expr)(elt:Expr)(it acc:Value)(env:Env)(R:Result→Shared→Prop)(J:Shared→Prop)(r:Option Value)(s₁:Shared):Prop:=match r with
 |none=>R (.ok .next) s₁
 |some v=>wpAny (model prog w) A (letOwnedTupleGo target it v) (fun O s₁'=>wpAny (model prog w) A (assign target env v) (KT prog w A ifs elt acc env R J) (nE prog w A env R) s₁') (nE prog w A env R) s₁
theorem D3{prog:Program}{w:World}{A:Around}{elt target iter:Expr}{ifs:List Expr}{scope:Scope}{pos:Pos}{it acc:Value}{env:Env}{R:Result→Shared→Prop}{s:Shared}(I:Nat→Shared→Prop)
  (turn:∀n s,I n s→wpAny (model prog w) A (pyNext it) (IE prog w A target ifs elt it acc env R fun s=>∃m,m<n∧I m s) (nE prog w A env R) s)
  (n:Nat) (h:I n s):codeAny (model prog w) A (.compLoop (.ListComp elt [⟨target,iter,ifs,0⟩] scope pos) 0 it acc env) R s:=by
 refine codeAny_loop rfl I (fun n s hI=> ?_) n h;show wpAny _ A ((compTurn (.ListComp elt [⟨target,iter,ifs,0⟩] scope pos) 0 it acc env).onRaise (fun x=>do noteFrame x env;theTreesLotGoes x)) _ _ s
 refine wpAny_noted ?_;rw[compTurn_list];refine wpAny_bind (wpAny_standAt (wpAny_bind (wpAny_mono (turn n s hI) (fun r s₁ h₁=> ?_) fun O O h'=>h')));cases r with
 |none=>exact wpAny_pure h₁
 |some v=>
  refine wpAny_bind (wpAny_mono h₁ (fun O s₁' h₁'=> ?_) fun O O h'=>h');refine wpAny_bind (wpAny_mono h₁' (fun O s₂ h₂=>wpAny_bind (wpAny_mono h₂ (fun ok s₃ h₃=> ?_) fun O O h'=>h')) fun O O h'=>h');cases ok with
  |false=>exact wpAny_pure ⟨rfl,h₃⟩
  |true=>
   exact wpAny_bind (wpAny_bind (wpAny_mono h₃ (fun x s₄ h₄=>wpAny_bind (wpAny_mono h₄ (fun O s₅ h₅=>wpAny_pure (wpAny_pure ⟨rfl,h₅⟩)) fun O O h'=>h')) fun O O h'=>h'))
noncomputable def Cc(env:Env)(x:Str×NameKind)(r:List (Str×Addr)):Sem (ForInStep (List (Str×Addr))):=
 if(x.2==NameKind.free)=true then do let a ←cellOf env x.1;pure (ForInStep.yield ((x.1,a)::r))else pure (ForInStep.yield r)
structure K_(env:Env)(names:List (Str×NameKind))(acc cl:List (Str×Addr)):Prop where
 e:forIn names acc (Cc env)=pure cl
 a:∀x c,(x,c)∈cl→(x,c)∈acc∨env.cells.lookup x=some c
 b:∀p∈acc,p∈cl
 c:∀x,(x,NameKind.free)∈names→∃c,(x,c)∈cl
theorem y_{env:Env}(names:List (Str×NameKind)):∀(acc:List (Str×Addr)),(∀x,(x,NameKind.free)∈names→∃c,env.cells.lookup x=some c)→∃cl,K_ env names acc cl:=by
 induction names with
 |nil=>exact fun acc O=>⟨acc,rfl,fun O O h=> .inl h,fun O h=>h,fun O h=>absurd h List.not_mem_nil⟩
 |cons p r ih=>
  intro acc h;by_cases hk:(p.2==NameKind.free)=true
  ·have hp:p=(p.1,NameKind.free):=Prod.ext rfl (beq_iff_eq.mp hk);obtain⟨c,hc⟩:=h p.1 (List.mem_cons.mpr (.inl hp.symm));obtain⟨cl,k⟩:=ih ((p.1,c)::acc) fun x hx=>h x (.tail _ hx);refine⟨cl,?_,fun x d hd=>(k.a x d hd).elim (fun z=>(List.mem_cons.mp z).elim (fun z=> .inr ?_) .inl) .inr,fun p hp=>k.b p (.tail _ hp),fun x hx=>(List.mem_cons.mp hx).elim (fun z=>⟨c,?_⟩) (k.c x)⟩
   ·rw[List.forIn_cons];unfold Cc cellOf;rw[if_pos hk,hc];exact k.e
   ·cases z;exact hc
   ·cases z;exact k.b _ (.head _)
  ·obtain⟨cl,k⟩:=ih acc fun x hx=>h x (.tail _ hx);refine⟨cl,?_,k.a,k.b,fun x hx=>(List.mem_cons.mp hx).elim (fun z=> ?_) (k.c x)⟩
   ·rw[List.forIn_cons];unfold Cc;refine(if_neg hk)▸?_;exact k.e
   ·cases z;exact absurd rfl hk
theorem xt{x:Str}{c:Addr}{l:List (Str×Addr)}(h:(x,c)∈l)(hn:l.lookup x=none):False:=by
 induction l with
 |nil=>exact List.not_mem_nil h
 |cons p r ih=>
  rw[List.lookup_cons]at hn;rcases List.mem_cons.mp h with h|h
  ·cases h;rw[beq_self_eq_true]at hn;exact sn hn
  ·cases z:x==p.1<;>rw[z]at hn
   ·exact ih h hn
   ·exact sn hn
theorem Cd{sc:Scope}{env:Env}(h:∀x,(x,NameKind.free)∈sc.names→∃c,env.cells.lookup x=some c):
  ∃cl,closureFor sc env=pure cl∧(∀x c,cl.lookup x=some c→env.cells.lookup x=some c)∧∀x,(x,NameKind.free)∈sc.names→cl.lookup x=env.cells.lookup x:=by
 obtain⟨cl,k⟩:=y_ sc.names [] h;have h1:∀x c,cl.lookup x=some c→env.cells.lookup x=some c:=fun x c hc=>(k.a x c (mem_of_lookup_some hc)).resolve_left List.not_mem_nil;refine⟨cl,(congrArg (fun m=>m >>= fun x=>(pure x:Sem (List (Str×Addr)))) k.e).trans rfl,h1,fun x hx=> ?_⟩;obtain⟨c,hc⟩:=k.c x hx;cases q:cl.lookup x with
 |some d=>exact(h1 x d q).symm
 |none=>exact(xt hc q).elim
theorem nw{env:Env}{names:List (Str×NameKind)}{x:Str}{k:NameKind}(h:names.lookup x=some k):
  (names.map fun(n,k)=>if(k==NameKind.free&&env.scope.kind== .function&&env.kindOf n==some .cell)then(n,NameKind.cell)else(n,k)).lookup x=some (if(k==NameKind.free&&env.scope.kind== .function&&env.kindOf x==some .cell)then .cell else k):=by
 induction names with
 |nil=>exact ns h
 |cons p r ih=>
  rw[List.lookup_cons]at h;refine List.map_cons▸?_;by_cases hc:(p.2==NameKind.free&&env.scope.kind== .function&&env.kindOf p.1==some .cell)=true
  ·show List.lookup x ((if _ then _ else _)::_)=_
   rw[if_pos hc,List.lookup_cons];cases hx:x==p.1<;>rw[hx]at h
   ·exact ih h
   ·rw[←eq_of_beq hx,Option.some.inj h]at hc;exact congrArg some (if_pos hc).symm
  ·show List.lookup x ((if _ then _ else _)::_)=_
   rw[if_neg hc,List.lookup_cons];cases hx:x==p.1<;>rw[hx]at h
   ·exact ih h
   ·rw[←eq_of_beq hx,Option.some.inj h]at hc;exact congrArg some ((Option.some.inj h).trans (if_neg hc).symm)
noncomputable def qU(osc:Scope)(ons:List Str)(sc:Scope)(tgs frs globs:List Str)(fi:List Nat):Bool:=
 osc.kind== .function&&sc.kind== .function&&(sc.names.all fun x=> !(x.2== .cell)&&(!(x.2== .local)||sc.names.lookup x.1==some .local)&&(!(x.2== .free)||(osc.names.lookup x.1==some .cell&&ons.contains x.1)))&&decide (tgs++frs).Nodup&&
 (tgs.all fun x=>sc.names.lookup x==some .local)&&(frs.all fun x=>sc.names.lookup x==some .free&&sc.names.contains (x,.free))&&
 ((tgs++frs).all fun x=> !(x==("__debug__":Str))&& !(x==("__classdict__":Str)))&&
 (globs.all fun x=>sc.names.lookup x==some .globalImplicit&& !(x==("__debug__":Str)))&&decide (fi.map (ons[·]?)=frs.map some)
def Kk(L:List CV→Sg→(CV→Sg→Prop)→Prop)(ys:List CV)(Q:CV→Sg→Prop)(y:CV)(sg2:Sg):Prop:=L (ys++[y]) sg2 Q
def Lj(pe:PE)(rho:bp)(L:List CV→Sg→(CV→Sg→Prop)→Prop)(ys:List CV)(Q:CV→Sg→Prop)(b:Bool)(sg1:Sg):Prop:=Dd b (pe rho sg1 (Kk L ys Q)) (L ys sg1 Q)
inductive K9(o:Option (List CV))(frs:bp)(pt:PB)(pe:PE)(L:List CV→Sg→(CV→Sg→Prop)→Prop)(ys:List CV)(sg:Sg)(Q:CV→Sg→Prop):Prop
 |mk (l:List CV):o=some l→pt (l.map some++frs) sg (Lj pe (l.map some++frs) L ys Q)→K9 o frs pt pe L ys sg Q
noncomputable def Ak(sp:CV→Option (List CV))(pt:PB)(pe:PE)(frs:bp):List CV→List CV→Sg→(CV→Sg→Prop)→Prop
 |[],ys=>fun sg Q=>Q (.lst ys) sg
 |c::cs,ys=>fun sg Q=>K9 (sp c) frs pt pe (Ak sp pt pe frs cs) ys sg Q
noncomputable def lY(c:CV):Option (List CV):=some [c]
noncomputable def xz(c:CV):Option (List CV):=match c with| .tup [a,b]=>some [a,b]|_=>none
@[irreducible] def jE(W:Wd)(X:FX)(ifs:List Expr)(p:PB):Prop:=∀rho sg Q E,p rho sg Q→
 G_ W X (forIn ifs true fun c r=>if r=true then do let ok ←isTrue c X.env (eval c X.env);pure (ForInStep.yield ok)else pure (ForInStep.yield r)) rho sg Q E
theorem jE.of{W:Wd}{X:FX}{ifs:List Expr}{p:PB}(h:∀rho sg Q E,p rho sg Q→G_ W X (forIn ifs true fun c r=>if r=true then do let ok ←isTrue c X.env (eval c X.env);pure (ForInStep.yield ok)else pure (ForInStep.yield r)) rho sg Q E):jE W X ifs p:=by delta jE;exact h
theorem jE.go{W:Wd}{X:FX}{ifs:List Expr}{p:PB}(h:jE W X ifs p){rho:bp}{sg:Sg}{Q:Bool→Sg→Prop}{E:Value→Shared→Prop}{F:Fz}{s:Shared}{K:Bool→Shared→Prop}(hp:p rho sg Q)(R:bc W X F rho sg s)(hK:∀G a b sg' s',F.le G→bc W X G rho sg' s'→a=b→Q b sg'→K a s'):wpAny (model W.prog W.w) X.A (forIn ifs true fun c r=>if r=true then do let ok ←isTrue c X.env (eval c X.env);pure (ForInStep.yield ok)else pure (ForInStep.yield r)) K E s:=by delta jE at h;exact h _ _ _ E hp F s K R hK
def tx(W:Wd)(target:Expr)(tgs frs gs:List Str)(S:Addr→Heap→Prop)(sp:CV→Option (List CV)):Prop:=
 ∀(X:FX) (F:Fz) (I:Addr) (pre fr:bp) (sg:Sg) (s:Shared) (v:Value) (c:CV) (l:List CV) (K:Unit→Shared→Prop) (E:Value→Shared→Prop),X.names=tgs++frs→X.globs=gs→X.m=tgs.length→pre.length=tgs.length→S I s.heap→sp c=some l→bC W F v c→bc W X F (pre++fr) sg s→
  (∀s',bc W X F (l.map some++fr) sg s'→K () s')→wpAny (model W.prog W.w) X.A (letOwnedTupleGo target (.ref I) v) (fun O s'=>wpAny (model W.prog W.w) X.A (assign target X.env v) K E s') E s
section
variable {W:Wd}{X:FX}{F:Fz}{rho:bp}{sg:Sg}{s:Shared}
theorem HX{pre fr:bp}{c:CV}(h:pre.length=1):(pre++fr).set 0 (some c)=some c::fr:=oU h fun O O h=>Er h rfl
theorem HY{pre fr:bp}{a b:CV}(h:pre.length=2):wx (pre++fr) [0,1] [a,b]=some a::some b::fr:=oU h fun O O h=>oU h fun O O h=>Er h rfl
theorem DI{c:CV}{l:List CV}(h:xz c=some l){Z:CV→List CV→Prop}(k:∀a b,Z (.tup [a,b]) [a,b]):Z c l:=by
 cases c with
 |tup m=>
  cases m with
  |nil=>exact ns h
  |cons a m=>cases m with
   |nil=>exact ns h
   |cons b m=>cases m with
    |nil=>exact Option.some.inj h▸k a b
    |cons _ _=>exact ns h
 |_=>exact ns h
theorem bL{x:Str}{px:Pos}{frs gs:List Str}{S:Addr→Heap→Prop}:tx W (.Name x px) [x] frs gs S lY:=by
 intro X F I pre fr sg s v c l K E hn hg hm hpre hS hsp hv R h;rw[←Option.some.inj hsp]at h;refine wpAny_of_eq (show letOwnedTupleGo (.Name x px) (.ref I) v=pure ()from rfl) ?_
 exact wpAny_assign_Name (jx 0 hn hm rfl Nat.zero_lt_one R hv fun s' R'=>h s' (show bc W X F (some c::fr) sg s' from HX hpre▸R'))
theorem wG{x y:Str}{px py tp:Pos}{tk:Nat}{frs gs:List Str}:tx W (.Tuple [.Name x px,.Name y py] tk tp) [x,y] frs gs (fun I h=>∃l j,h.IsListIter I l j) xz:=by
 intro X F I pre fr sg s v c l K E hn hg hm hpre hS hsp hv R;refine DI hsp (Z:=fun c l=>bC W F v c→(∀s',bc W X F (l.map some++fr) sg s'→K () s')→_) (fun a b hv h=> ?_) hv;obtain⟨e1,e2,e3,e4⟩:=(hv.inv:B8 W F [a,b] v);obtain⟨ll,j,hI⟩:=hS;refine wpAny_letOwnedTupleGo_listiter hI ?_;have T:yW X ([x,y]++frs) 2 [.Name x px,.Name y py] [0,1]:= .cons 0 rfl Nat.zero_lt_two rfl (.cons 1 rfl Nat.one_lt_two rfl .nil);have ht:IsTup s.heap _ _:=⟨_,R.fz _ _ e1,e2,_,e3⟩;refine assign_Tuple_tuple X.hh ht (by rw[T.each.1,List.size_toArray,e4.length];rfl) T.each.2 fun h' hx=> ?_
 exact T.go hn hm (cs:=[a,b]) rfl (R.ext (tk:=s.toks) hx) e4 fun s' R'=>h s' (show bc W X F (some a::some b::fr) sg s' from HY hpre▸R')
theorem fS:jE W X [] d9:= .of fun rho sg Q E hp F s K R hK=>wpAny_tests_nil (hK F _ _ _ _ (.refl F) R rfl hp)
theorem h8{t:Expr}{p:PB}(h:uI W X t p):jE W X [t] p:= .of fun rho sg Q E hp F s K R hK=>wpAny_tests_one (h.go hp R fun G v c sg1 s1 le1 R1 r1 h'=>hK G v c sg1 s1 le1 R1 r1 h')
theorem vR{Y:FX}{G:Fz}{sg':Sg}{I D:Addr}{oI:Obj}(h:iw Y G sg' D)(hne:D≠I):iw (Y.guard I oI) G sg' D:=
 ⟨h.f,by show(Y.kept.put I oI) D=none;rw[Fz.put_ne _ _ hne];exact h.k,h.o⟩
structure yG(osc:Scope)(ons:List Str)(sc:Scope)(tgs frs gs:List Str)(fi:List Nat):Prop where
 k0:osc.kind= .function
 k1:sc.kind= .function
 k2:∀x∈sc.names,((x.2==NameKind.cell)=false∧((x.2==NameKind.local)=false∨sc.names.lookup x.1=some .local))∧((x.2==NameKind.free)=false∨osc.names.lookup x.1=some .cell∧x.1∈ons)
 k3:(tgs++frs).Nodup
 k4:∀x∈tgs,sc.names.lookup x=some .local
 k5:∀x∈frs,sc.names.lookup x=some .free∧(x,NameKind.free)∈sc.names
 k6:∀x∈tgs++frs,(x==("__debug__":Str))=false∧(x==("__classdict__":Str))=false
 k7:∀x∈gs,sc.names.lookup x=some .globalImplicit∧(x==("__debug__":Str))=false
 k8:fi.map (ons[·]?)=frs.map some
theorem Lk{osc:Scope}{ons tgs frs gs:List Str}{fi:List Nat}{scope:Scope}(chk:qU osc ons scope tgs frs gs fi=true):yG osc ons scope tgs frs gs fi:=by
 unfold qU at chk;simp only[Bool.and_eq_true,Bool.not_eq_true',beq_iff_eq,decide_eq_true_eq,List.all_eq_true,Bool.or_eq_true,List.contains_iff_mem]at chk;exact⟨chk.1.1.1.1.1.1.1.1,chk.1.1.1.1.1.1.1.2,chk.1.1.1.1.1.1.2,chk.1.1.1.1.1.2,chk.1.1.1.1.2,chk.1.1.1.2,chk.1.1.2,chk.1.2,chk.2⟩
structure H_(X Xc:FX)(env:Env)(C:Addr)(tgs frs gs:List Str)(s₁:Shared):Prop where
 A:Xc.A=X.A
 env:Xc.env=env
 names:Xc.names=tgs++frs
 globs:Xc.globs=gs
 own:Xc.own=[C]
 kept:Xc.kept=X.keptAll s₁
 n:Xc.n=X.n
 m:Xc.m=tgs.length
structure jD(X:FX)(scope:Scope)(cl:List (Str×Addr)):Prop where
 h1:∀x c,cl.lookup x=some c→X.env.cells.lookup x=some c
 h2:∀x,(x,NameKind.free)∈scope.names→cl.lookup x=X.env.cells.lookup x
theorem xR{scope:Scope}{tgs frs gs:List Str}{fi:List Nat}{cl:List (Str×Addr)}(k:yG X.env.scope X.names scope tgs frs gs fi)(hcl:jD X scope cl)(C:Addr){x:Str}(hx:x∈frs):
  (compEnvC scope cl C X.env).kindOf x=some .cell∧X.env.kindOf x=some .cell∧cl.lookup x=X.env.cells.lookup x∧x∈X.names:=by
 have hm:=(k.k5 x hx).2;have q:=(k.k2 _ hm).2.resolve_left Bool.noConfusion;have q1:X.env.kindOf x=some .cell:=q.1;refine⟨?_,q1,hcl.h2 x hm,q.2⟩;show List.lookup x (scope.names.map _)=_;rw[nw (env:=X.env) (k.k5 x hx).1,q1,k.k0];rfl
theorem Ch(R:bc W X F rho sg s){cl:List (Str×Addr)}{scope:Scope}(hcl:jD X scope cl){C:Addr}(fC:s.heap.get? C=none){s₁:Shared}(R1:bc W X F rho sg s₁)(x:Str)(c:Addr)(hc:cl.lookup x=some c):c≠C∧(c∈[C]∨∃o,X.keptAll s₁ c=some o):=by
 have e:=hcl.h1 x c hc;refine el22 (R.ce x c e) fun v o hv O=> ?_;refine⟨fun q=>(by rw[q,fC]at hv;exact ns hv),.inr ?_⟩
 by_cases z:c∈X.own
 ·rw[bX z];exact R1.th c z
 ·rw[bu z];exact(X.hce x c e).2.resolve_left z
theorem Fi{scope:Scope}{tgs frs gs:List Str}{fi:List Nat}{cl:List (Str×Addr)}(k:yG X.env.scope X.names scope tgs frs gs fi)(hcl:jD X scope cl){C:Addr}(R1:bc W X F rho sg s){i:Nat}{x:Str}{c:CV}
  (hx:(tgs++frs)[i]? =some x) (hc:(tgs.map (fun O=>none)++fi.map fun i=>rho.getD i none)[i]? =some (some c)):∃v,tz (compEnvC scope cl C X.env) s.heap x v∧bC W F v c:=by
 rcases Nat.lt_or_ge i tgs.length with hi|hi
 ·rw[List.getElem?_append_left (by rw[List.length_map];exact hi),List.getElem?_map,List.getElem?_eq_getElem hi]at hc
  exact ns (Option.some.inj hc)
 ·rw[List.getElem?_append_right (by rw[List.length_map];exact hi),List.length_map,List.getElem?_map]at hc
  have hx:frs[i-tgs.length]? =some x:=by rw[←List.getElem?_append_right (l₁:=tgs) hi];exact hx
  have k8:=congrArg (·[i-tgs.length]?) k.k8;rw[List.getElem?_map,List.getElem?_map,hx]at k8;refine el12 (Option.map_eq_some_iff.mp hc) fun j z hj=> ?_;rw[z]at k8;have k8:X.names[j]? =some x:=Option.some.inj k8;have hr:rho[j]? =some (some c):=by
   rw[List.getD_eq_getElem?_getD]at hj;cases y:rho[j]? with
   |none=>rw[y]at hj;exact ns hj
   |some u=>rw[y]at hj;exact congrArg some hj
  refine el12 (R1.va j x c k8 hr) fun v hv r=> ?_;refine dp fun C_ k_=> ?_;obtain⟨q1,q2,q3,-⟩:=xR k hcl C (List.mem_of_getElem? hx);refine k_ ?_;refine⟨v,?_,r⟩;rcases hv with⟨hk,_⟩|⟨_,ca,hca,hcell⟩
  ·rw[q2]at hk;exact NameKind.noConfusion (Option.some.inj hk)
  ·exact .inr ⟨.inl q1,ca,q3.trans hca,hcell⟩
theorem Hl{scope:Scope}{tgs frs gs:List Str}{fi:List Nat}{cl:List (Str×Addr)}(k:yG X.env.scope X.names scope tgs frs gs fi)(hcl:jD X scope cl)(C:Addr){x:Str}(hx:x∈tgs++frs):(compEnvC scope cl C X.env).kindOf x=some .local∨(((compEnvC scope cl C X.env).kindOf x=some .cell∨(compEnvC scope cl C X.env).kindOf x=some .free)∧∃c,cl.lookup x=some c):=
 (List.mem_append.mp hx).elim (fun hx=> .inl (lookup_relabel_local (k.k4 x hx))) fun hx=>by
  refine Fu (xR k hcl C hx) fun q1 q2 q3 hm=> ?_;refine .inr ⟨.inl q1,?_⟩;refine q3▸?_;rcases X.hkd x hm with h|⟨_,h⟩
  ·rw[q2]at h;exact NameKind.noConfusion (Option.some.inj h)
  ·exact h
theorem Hk{scope:Scope}{tgs frs gs:List Str}{fi:List Nat}{cl:List (Str×Addr)}{C:Addr}(k:yG X.env.scope X.names scope tgs frs gs fi){x:Str}(hx:x∈gs):(compEnvC scope cl C X.env).kindOf x=some .globalImplicit:=by
 show List.lookup x (scope.names.map _)=_;rw[nw (env:=X.env) (k.k7 x hx).1];rfl
theorem Ci{scope:Scope}{tgs frs gs:List Str}{fi:List Nat}{cl:List (Str×Addr)}(k:yG X.env.scope X.names scope tgs frs gs fi)(hcl:jD X scope cl){C:Addr}{s₁:Shared}(hce:∀x c,cl.lookup x=some c→c≠C∧(c∈[C]∨∃o,X.keptAll s₁ c=some o)):
  ∃Xc:FX,H_ X Xc (compEnvC scope cl C X.env) C tgs frs gs s₁:=
 ⟨{
  A:=X.A
  env:=compEnvC scope cl C X.env
  names:=tgs++frs
  globs:=gs
  own:=[C]
  kept:=X.keptAll s₁
  n:=X.n
  m:=tgs.length
  hk:=k.k1
  hgl:=X.hgl
  hbu:=X.hbu
  hh:=X.hh
  hd:=X.hd
  hu:=X.hu
  hL:= .head _
  hce:=hce
  hci:=fun x y c e1 e2=>X.hci x y c (hcl.h1 x c e1) (hcl.h1 y c e2)
  hnm:=k.k3
  hkd:=fun x hx=>Hl k hcl C hx
  hdb:=k.k6
  hst:=fun i x hi hx=> .inl (lookup_relabel_local (k.k4 x (List.mem_of_getElem? ((List.getElem?_append_left hi).symm.trans hx))))
  hgb:=fun x hx=>⟨Hk k hx,(k.k7 x hx).2⟩},rfl,rfl,rfl,rfl,rfl,rfl,rfl,rfl⟩
theorem Fg{Xc:FX}{scope:Scope}{tgs frs gs:List Str}{fi:List Nat}{cl:List (Str×Addr)}(k:yG X.env.scope X.names scope tgs frs gs fi)(hcl:jD X scope cl)(R:bc W X F rho sg s){C:Addr}(fC:s.heap.get? C=none){s₁:Shared}(R1:bc W X F rho sg s₁){m:Str→Option Value}
  (hns:s₁.heap.Ns C m) (h:H_ X Xc (compEnvC scope cl C X.env) C tgs frs gs s₁):bc W Xc F (tgs.map (fun O=>none)++fi.map fun i=>rho.getD i none) sg s₁:=by
 obtain⟨-,he,hn,-,ho,hk,-,-⟩:=h;exact {
  fz:=R1.fz
  kp:=hk▸R1.toC.kp
  bs:=R1.bs
  va:=hn▸he▸fun i x c hx hc=>Fi k hcl R1 hx hc
  ns:=he▸⟨_,hns⟩
  ce:=he▸fun x c hc=>R1.ce x c (hcl.h1 x c hc)
  mo:=R1.mo
  nd:=ho▸List.nodup_cons.mpr ⟨fun hm=>R.not_mem fC (List.mem_append_right _ hm),(List.nodup_append.mp R.nd).2.1⟩
  th:=ho▸fun a ha=>List.mem_singleton.mp ha▸(let⟨o,_,_,e,_⟩:=hns;⟨o,e⟩)
  ds:=ho▸hk▸fun a ha=>(List.mem_cons.mp ha).elim (fun q=>q▸⟨R.F_none fC,(bu fun hm=>R.not_mem fC (List.mem_append_left _ hm)).trans (R.k_none fC)⟩) fun ha=>R1.toC.ds a ha
  dk:=hk▸R1.toC.dk
  gens:=R1.gens
  os:=R1.os}
structure xD(W:Wd)(Xc:FX)(elt target:Expr)(ifs:List Expr)(tgs frs gs:List Str)(S:Addr→Heap→Prop)(sp:CV→Option (List CV))(pt:PB)(pe:PE)(F:Fz)(I D:Addr)(fp:List Addr)(N:Nat)(P:Nat→Value→Prop)(St:Nat→Heap→Prop)(cs:List CV):Prop where
 hT:tx W target tgs frs gs S sp
 hlen:∀c l,sp c=some l→l.length=tgs.length
 hIf:∀Y:FX,Y.names=tgs++frs→Y.globs=gs→Y.n=Xc.n→jE W Y ifs pt
 hEl:∀Y:FX,Y.names=tgs++frs→Y.globs=gs→Y.n=Xc.n→cQ W Y elt pe
 Wk:Walks W.prog W.w Xc.A I fp [I] N P St
 hfp:∀b∈fp,b≠I→∃o,F b=some o
 hob:∀k h,St k h→∃o,h.get? I=some o
 hS:∀k h,St k h→S I h
 hcs:cs.length=N
 hN:small N
 hP:∀k v,P k v→∃c,cs[k]? =some c∧bC W F v c
 hID:I≠D
 names:Xc.names=tgs++frs
 globs:Xc.globs=gs
 m:Xc.m=tgs.length
structure H9(W:Wd)(Xc:FX)(G:Fz)(I D:Addr)(St:Nat→Heap→Prop)(vs:List Value)(n:Nat)(rho:bp)(sg:Sg)(j:Nat)(s:Shared):Prop where
 R:bc W Xc G rho sg s
 fI:iw Xc G sg I
 fD:iw Xc G sg D
 st:St j s.heap
 d:s.heap.get? D=some (PySem.W.listOf vs.toArray n)
inductive GY(W:Wd)(Xc:FX)(F:Fz)(I D:Addr)(St:Nat→Heap→Prop)(N:Nat)(tl:Nat)(frc:bp)(go:Nat→List CV→Sg→Prop)(k:Nat)(s:Shared):Prop
 |mk (G:Fz) (pre:bp) (sg:Sg) (j:Nat) (ys:List CV) (vs:List Value) (n:Nat):k=N-j→j≤N→F.le G→pre.length=tl→H9 W Xc G I D St vs n (pre++frc) sg j s→b6 W G vs ys→ys.length≤j→go j ys sg→GY W Xc F I D St N tl frc go k s
section
variable {Xc:FX}{elt target:Expr}{ifs:List Expr}{tgs frs gs:List Str}{S:Addr→Heap→Prop}{sp:CV→Option (List CV)}{pt:PB}{pe:PE}{I D:Addr}{fp:List Addr}{N:Nat}{P:Nat→Value→Prop}{St:Nat→Heap→Prop}{cs:List CV}{frc:bp}{G:Fz}{j i:Nat}{vs:List Value}{n:Nat}
theorem Dr(H:xD W Xc elt target ifs tgs frs gs S sp pt pe F I D fp N P St cs){h1 h2:Heap}(le:F.le G)(f1:∀b o,G b=some o→h1.get? b=some o)(f2:∀b o,G b=some o→h2.get? b=some o)(fI:∀o,h1.get? I=some o→h2.get? I=some o)(hst:St j h1):St j h2:=by
 refine H.Wk.frame _ _ _ hst fun b hb o e=> ?_;by_cases z:b=I
 ·exact z▸fI o (z▸e)
 ·obtain⟨p,hp⟩:=H.hfp b hb z;exact Option.some.inj ((f1 b p (le b p hp)).symm.trans e)▸f2 b p (le b p hp)
theorem xQ(H:xD W Xc elt target ifs tgs frs gs S sp pt pe F I D fp N P St cs)(le:F.le G)(a:H9 W Xc G I D St vs n rho sg j s){ob:Obj}(hob:s.heap.get? I=some ob)
  {G2:Fz} {rho2:bp} {sg2:Sg} {s2:Shared} (le2:G.le G2) (Rx:bc W ((Xc.guard I ob).guard D (PySem.W.listOf vs.toArray n)) G2 rho2 sg2 s2):H9 W Xc G2 I D St vs n rho2 sg2 j s2:=by
 refine mC (Rx.unguard (vR (oI:=ob) a.fD (Ne.symm H.hID)).k) fun Ra Fa ea=> ?_;refine mC (Ra.unguard a.fI.k) fun Rb Fb eb=> ?_;exact⟨Rb,Fb,⟨Fa.f,a.fD.k,Fa.o⟩,Dr H le a.R.fz (fun b o e=>Rb.fz b o (le2 b o e)) (fun o e=>Option.some.inj (hob.symm.trans e)▸eb) a.st,ea⟩
theorem D4(H:xD W Xc elt target ifs tgs frs gs S sp pt pe F I D fp N P St cs)(a:H9 W Xc G I D St vs n rho sg j s){h₂:Heap}{tk₂:Nat}(hst₂:St i h₂)(hk₂:∀b o,b∉[I]→s.heap.get? b=some o→h₂.get? b=some o):
  H9 W Xc G I D St vs n rho sg i {s with heap:=h₂,toks:=tk₂}:=
 ⟨a.R.freeStep a.fI fun b o hb e=>hk₂ b o (fun h=>hb (List.mem_singleton.mp h)) e,a.fI,a.fD,hst₂,hk₂ D _ (fun h=>H.hID (List.mem_singleton.mp h).symm) a.d⟩
theorem Ff(H:xD W Xc elt target ifs tgs frs gs S sp pt pe F I D fp N P St cs)(le:F.le G)(a:H9 W Xc G I D St vs n rho sg j s){h':Heap}{y:Value}(hsb:Heap.SameBut D s.heap h')(hd:h'.get? D=some (PySem.W.listOf (vs++[y]).toArray (n+1))):
  H9 W Xc G I D St (vs++[y]) (n+1) rho sg j {s with heap:=h'}:=by
 have R6:bc W Xc G rho sg {s with heap:=h'}:=a.R.freeStep (tk:=s.toks) a.fD fun b o hb e=>(hsb.2 b hb).trans e;exact⟨R6,a.fI,a.fD,Dr H le a.R.fz R6.fz (fun o e=>(hsb.2 I H.hID).trans e) a.st,hd⟩
theorem D1(R:bc W Xc G rho sg s)(fD:iw Xc G sg D)(d:s.heap.get? D=some (PySem.W.listOf vs.toArray n)):bc W Xc (G.put D (PySem.W.listOf vs.toArray n)) rho sg s:=
 R.keepF (h':=s.heap) (tk:=s.toks) (Fz.le_put _ fD.f) (fun b o e=>by
  by_cases q:b=D
  ·obtain rfl:=q.symm;rw[Fz.put_self]at e;exact d.trans e
  ·rw[Fz.put_ne G _ q]at e;exact R.fz b o e) (fun b hb=>(Fz.put_ne G _ fun q:b=D=>fD.o (q▸hb)).trans (R.ds b hb).1) (fun b o e=>(Fz.put_ne G _ fun q:b=D=>by rw[q,fD.k]at e;exact ns e).trans (R.dk b o e)) fun O O e O=>e
theorem D2(H:xD W Xc elt target ifs tgs frs gs S sp pt pe F I D fp N P St cs){Q:CV→Sg→Prop}{R:Result→Shared→Prop}
  (hR:∀G rho sg s ys,F.le G→bc W Xc G rho sg s→bC W G (.ref D) (.lst ys)→Q (.lst ys) sg→R (.ok .next) s) {k:Nat}
  (inv:GY W Xc F I D St N tgs.length frc (fun j ys sg=>Ak sp pt pe frc (cs.drop j) ys sg Q) k s):
  wpAny (model W.prog W.w) Xc.A (pyNext (.ref I)) (IE W.prog W.w Xc.A target ifs elt (.ref I) (.ref D) Xc.env R fun s=>∃m,m<k∧GY W Xc F I D St N tgs.length frc (fun j ys sg=>Ak sp pt pe frc (cs.drop j) ys sg Q) m s) (nE W.prog W.w Xc.A Xc.env R) s:=by
 refine dp fun C_ k_=> ?_;obtain⟨G,pre,sg,j,ys,vs,n,hk,hj,le,hpre,a,hvs,hyl,hc⟩:=inv;refine k_ ?_;rcases Nat.lt_or_ge j N with hlt|hge
 ·refine H.Wk.item j _ _ _ hlt a.st fun v h₂ tk₂ hPv hst₂ hk₂=> ?_;have a2:=D4 H a (tk₂:=tk₂) hst₂ hk₂;refine el12 (H.hP j v hPv) fun c hcj hv=> ?_;have hc:K9 (sp c) frc pt pe (Ak sp pt pe frc (cs.drop (j+1))) ys sg Q:=by
   obtain⟨hl,he⟩:=List.getElem?_eq_some_iff.mp hcj;rw[List.drop_eq_getElem_cons hl,he]at hc;exact hc
  obtain⟨l,hsp,hc⟩:=hc;obtain⟨ob,hob⟩:=H.hob _ _ hst₂;have hl:(l.map some).length=tgs.length:=by rw[List.length_map];exact H.hlen _ _ hsp
  have less:N-(j+1)<k:=hk▸Nat.sub_lt_sub_left hlt (Nat.lt_succ_self j);refine H.hT ((Xc.guard I ob).guard D (PySem.W.listOf vs.toArray n)) G I pre _ sg _ v c l _ _ H.names H.globs H.m hpre (H.hS _ _ hst₂) hsp (hv.mono le) ((a2.R.guard a2.fI hob).guard (vR a2.fD (Ne.symm H.hID)) a2.d) fun s3 R3=> ?_;refine(H.hIf ((Xc.guard I ob).guard D (PySem.W.listOf vs.toArray n)) H.names H.globs rfl).go hc R3 fun G4 b b' sg4 s4 le4 R4 r4 h4=> ?_;subst r4;cases b with
  |false=>exact⟨_,less,G4,l.map some,sg4,j+1,ys,vs,n,rfl,hlt,le.trans le4,hl,xQ H le a2 hob le4 R4,hvs.mono le4,Nat.le_succ_of_le hyl,h4.2 rfl⟩
  |true=>
   refine(H.hEl ((Xc.guard I ob).guard D (PySem.W.listOf vs.toArray n)) H.names H.globs rfl).go (h4.1 rfl) R4 fun G5 y cy sg5 s5 le5 R5 r5 h5=> ?_;have a5:=xQ H le a2 hob (le4.trans le5) R5;have hv5:=hvs.mono (le4.trans le5);refine append_at a5.d (fun h' hsb hd'=> ?_) (by rw[List.size_toArray,hv5.length];exact Nat.le_of_lt (Nat.lt_of_lt_of_le (Nat.lt_of_le_of_lt hyl hlt) H.hN.line))
   exact⟨_,less,G5,l.map some,sg5,j+1,ys++[cy],vs++[y],n+1,rfl,hlt,le.trans (le4.trans le5),hl,Ff H (le.trans (le4.trans le5)) a5 hsb (by rw[hd'];simp[PySem.W.listOf]),hv5.append (.cons r5 .nil),by rw[List.length_append];exact Nat.succ_le_succ hyl,h5⟩
 ·have hjN:=Nat.le_antisymm hj hge;refine H.Wk.done _ _ _ (hjN▸a.st) fun h₂ tk₂ hk₂=> ?_;have d2:h₂.get? D=some (PySem.W.listOf vs.toArray n):=hk₂ D _ (fun h=>H.hID (List.mem_singleton.mp h).symm) a.d;have R2:bc W Xc G (pre++frc) sg {s with heap:=h₂,toks:=tk₂}:=a.R.freeStep a.fI fun b o hb e=>hk₂ b o (fun h=>hb (List.mem_singleton.mp h)) e;rw[List.drop_of_length_le (Nat.le_of_eq (H.hcs.trans hjN.symm))]at hc;exact hR _ _ sg _ ys (le.trans (Fz.le_put _ a.fD.f)) (D1 R2 a.fD d2) (.lst (Fz.put_self ..) (hvs.mono (Fz.le_put _ a.fD.f))) hc
end
theorem Fh{tgs frs gs:List Str}{fi:List Nat}{elt target iter:Expr}{ifs:List Expr}{scope:Scope}{pos:Pos}{cl:List (Str×Addr)}{S:Addr→Heap→Prop}{sp:CV→Option (List CV)}{pt:PB}{pe:PE}
  (k:yG X.env.scope X.names scope tgs frs gs fi) (hcl:jD X scope cl)
  (hT:tx W target tgs frs gs S sp) (hlen:∀c l,sp c=some l→l.length=tgs.length) (hIf:∀Xc:FX,Xc.names=tgs++frs→Xc.globs=gs→Xc.n=X.n→jE W Xc ifs pt) (hEl:∀Xc:FX,Xc.names=tgs++frs→Xc.globs=gs→Xc.n=X.n→cQ W Xc elt pe)
  {I:Addr} {fp:List Addr} {N:Nat} {P:Nat→Value→Prop} {St:Nat→Heap→Prop} {cs:List CV} (R:bc W X F rho sg s) (Wk:Walks W.prog W.w X.A I fp [I] N P St) (hfp:∀b∈fp,b≠I→∃o,F b=some o)
  (hob:∀k h,St k h→∃o,h.get? I=some o) (hS:∀k h,St k h→S I h) (hcs:cs.length=N) (hN:small N) (hP:∀k v,P k v→∃c,cs[k]? =some c∧bC W F v c) (hF:iw X F sg I) (hst:St 0 s.heap)
  {Q:CV→Sg→Prop} (h:Ak sp pt pe (fi.map fun i=>rho.getD i none) cs [] sg Q) {RR:Value→Addr→Result→Shared→Prop}
  (hRR:∀D C G sg' s' m ys,F.le G→bc W X G rho sg' s'→bC W G (.ref D) (.lst ys)→iw X G sg' C→s'.heap.Ns C m→Q (.lst ys) sg'→RR (.ref D) C (.ok .next) s')
  {H2 H3 h₁:Heap} {D:Addr} {tk:Nat} (hC:H2.objs.size=D+1) (hD:s.heap.objs.size=D) (hp:∀b o,s.heap.get? b=some o→H3.get? b=some o) (hacc:H3.get? D=some (PySem.W.listOf ([]:List Value).toArray 0)) (hns:∃m,h₁.Ns H2.objs.size m) (hsb:Heap.SameBut H2.objs.size H3 h₁):
  codeAny (model W.prog W.w) X.A (.compStart (.ListComp elt [⟨target,iter,ifs,0⟩] scope pos) 0 (.ref I) (.ref D) (compEnvC scope cl H2.objs.size X.env)) (RR (.ref D) H2.objs.size) {s with heap:=h₁,toks:=tk}:=by
 rw[hC]at hns hsb ⊢;refine dp fun C_ k_=> ?_;have ne:∀b,b<D→b≠D+1:=fun b hb=>Nat.ne_of_lt (Nat.lt_succ_of_lt hb);have old:∀b o,s.heap.get? b=some o→h₁.get? b=some o:=fun b o e=>hsb.extBut b o (ne b (hD▸Heap.lt_size e)) (hp _ _ e);have fresh:∀b,D≤b→s.heap.get? b=none:=fun b hb=>by
  cases e:s.heap.get? b with
  |none=>rfl
  |some o=>exact absurd (hD▸Heap.lt_size e:b<D) (Nat.not_lt.mpr hb)
 have fD:=fresh D (Nat.le_refl _);have fC:=fresh (D+1) (Nat.le_succ _);obtain⟨oI,hIo⟩:=hob _ _ hst;have hIlt:I<D:=hD▸Heap.lt_size hIo;have R1:bc W X F rho sg {s with heap:=h₁,toks:=tk}:=R.grow old;obtain⟨m,hns⟩:=hns;obtain⟨Xc,h⟩:=Ci k hcl (Ch R hcl fC R1);have Rc:=Fg k hcl R fC R1 hns h;obtain⟨hA,he,hnm,hg,ho,hkp,hn,hm⟩:=h;refine k_ ?_;rw[←hA,←he];have kn:∀b,s.heap.get? b=none→Xc.kept b=none:=fun b hb=>by rw[hkp,bu fun hm=>R.not_mem hb (List.mem_append_left _ hm)];exact R.k_none hb
 have on:∀b,s.heap.get? b=none→b≠D+1→b∉Xc.own++adrs sg:=fun b hb hne hm=>by
  rw[ho]at hm;rcases List.mem_cons.mp hm with h|h
  ·exact hne h
  ·exact R.not_mem hb (List.mem_append_right _ h)
 have H:xD W Xc elt target ifs tgs frs gs S sp pt pe F I D fp N P St cs:=⟨hT,hlen,fun Y a b c=>hIf Y a b (c.trans hn),fun Y a b c=>hEl Y a b (c.trans hn),hA▸Wk,hfp,hob,hS,hcs,hN,hP,Nat.ne_of_lt hIlt,hnm,hg,hm⟩;have a:H9 W Xc F I D St [] 0 (tgs.map (fun O=>none)++fi.map fun i=>rho.getD i none) sg 0 {s with heap:=h₁,toks:=tk}:=by
  refine⟨Rc,⟨hF.f,?_,fun hm=> ?_⟩,⟨R.F_none fD,kn _ fD,on D fD (Nat.ne_of_lt (Nat.lt_succ_self _))⟩,Wk.frame _ _ _ hst fun b O o e=>old b o e,hsb.extBut _ _ (Nat.ne_of_lt (Nat.lt_succ_self _)) hacc⟩
  ·rw[hkp,bu fun hm=>hF.o (List.mem_append_left _ hm)];exact hF.k
  ·rw[ho]at hm;rcases List.mem_cons.mp hm with h|h
   ·exact ne I hIlt h
   ·exact hF.o (List.mem_append_right _ h)
 have loop:codeAny (model W.prog W.w) Xc.A (.compLoop (.ListComp elt [⟨target,iter,ifs,0⟩] scope pos) 0 (.ref I) (.ref D) Xc.env) (RR (.ref D) (D+1)) {s with heap:=h₁,toks:=tk}:=by
  refine D3 (fun k s=>GY W Xc F I D St N tgs.length (fi.map fun i=>rho.getD i none) (fun j ys sg=>Ak sp pt pe (fi.map fun i=>rho.getD i none) (cs.drop j) ys sg Q) k s) (fun k s inv=>D2 H (fun G rho2 sg2 s2 ys le R3 hv hq=> ?_) inv) N
   ⟨F,_,sg,0,[],[],0,rfl,Nat.zero_le _,.refl F,List.length_map ..,a,.nil,Nat.zero_le _,h⟩
  obtain⟨m',hm'⟩:=R3.ns;rw[he]at hm';have hCm:D+1∈Xc.own:=by rw[ho];exact .head _
  refine hRR D (D+1) G sg2 s2 m' ys le (R1.back le (hkp▸R3.leave)) hv ⟨(R3.ds _ (List.mem_append_left _ hCm)).1,R.k_none fC,fun hm=> ?_⟩ hm' hq;rcases List.mem_append.mp hm with h|h
  ·obtain⟨o,e⟩:=R.th _ h;rw[fC]at e;exact ns e
  ·exact(List.nodup_append.mp R3.nd).2.2 _ hCm _ h rfl
 exact codeAny_compStart_list loop (H.Wk.self 0 _ _ _ a.st loop)
theorem Cg{tgs frs gs:List Str}{fi:List Nat}{elt target iter:Expr}{ifs:List Expr}{scope:Scope}{pos:Pos}{cl:List (Str×Addr)}{S:Addr→Heap→Prop}{sp:CV→Option (List CV)}{pt:PB}{pe:PE}
  (k:yG X.env.scope X.names scope tgs frs gs fi) (hcl:jD X scope cl)
  (hT:tx W target tgs frs gs S sp) (hlen:∀c l,sp c=some l→l.length=tgs.length) (hIf:∀Xc:FX,Xc.names=tgs++frs→Xc.globs=gs→Xc.n=X.n→jE W Xc ifs pt) (hEl:∀Xc:FX,Xc.names=tgs++frs→Xc.globs=gs→Xc.n=X.n→cQ W Xc elt pe)
  {I:Addr} {fp:List Addr} {N:Nat} {P:Nat→Value→Prop} {St:Nat→Heap→Prop} {cs:List CV} (R:bc W X F rho sg s) (Wk:Walks W.prog W.w X.A I fp [I] N P St) (hfp:∀b∈fp,b≠I→∃o,F b=some o)
  (hob:∀k h,St k h→∃o,h.get? I=some o) (hS:∀k h,St k h→S I h) (hcs:cs.length=N) (hN:small N) (hP:∀k v,P k v→∃c,cs[k]? =some c∧bC W F v c) (hF:iw X F sg I) (hst:St 0 s.heap)
  {Q:CV→Sg→Prop} (h:Ak sp pt pe (fi.map fun i=>rho.getD i none) cs [] sg Q) {RR:Value→Addr→Result→Shared→Prop} {E:Value→Shared→Prop}
  (hRR:∀D C G sg' s' m ys,F.le G→bc W X G rho sg' s'→bC W G (.ref D) (.lst ys)→iw X G sg' C→s'.heap.Ns C m→Q (.lst ys) sg'→RR (.ref D) C (.ok .next) s'):
  wpAny (model W.prog W.w) X.A (newList []) (fun acc s₃=>wpAny (model W.prog W.w) X.A (newFunctionEnv scope X.env.globals cl [] X.env.qual none .none (some X.env)) (fun cenv s₄=>
   codeAny (model W.prog W.w) X.A (.compStart (.ListComp elt [⟨target,iter,ifs,0⟩] scope pos) 0 (.ref I) acc {cenv with scope:=relabel scope X.env}) (RR acc cenv.locals) s₄) E s₃) E s:=by
 refine wpAny_newObj_type (wpAny_newFunctionEnv (fun x hx e=> ?_) (by intro y hy;simp at hy) (fun h₁ hns₁ hsb₁=> ?_) k.k1)
 ·have:=(k.k2 x hx).1.1;rw[e]at this;exact tf this
 exact Fh (H2:=s.heap.push {cls:= .type "list",dict:=none,data:= .seq ([]:List Value).toArray}) k hcl hT hlen hIf hEl R Wk hfp hob hS hcs hN hP hF hst h hRR (Heap.size_push ..) rfl (fun b o e=>Heap.get?_push_of_some _ (Heap.get?_push_of_some _ e)) (Heap.get?_push_of_some _ (Heap.get?_push_size _ rfl)) ⟨_,hns₁⟩ hsb₁
def Jj(sp:CV→Option (List CV))(ci:CV→Prop)(pt:PB)(pe:PE)(frs:bp)(Q:CV→Sg→Prop)(c:CV)(sg1:Sg):Prop:=ci c∧small (jY c).length∧Ak sp pt pe frs (jY c) [] sg1 Q
def d7(sp:CV→Option (List CV))(ci:CV→Prop)(fi:List Nat)(pi:PE)(pt:PB)(pe:PE):PE:=fun rho sg Q=>pi rho sg (Jj sp ci pt pe (fi.map fun i=>rho.getD i none) Q)
def FV:CV→Prop
 | .lst _=>True
 |_=>False
def J1(W:Wd)(X:FX)(S:Addr→Heap→Prop)(ci:CV→Prop):Prop:=∀(F:Fz) (rho:bp) (sg:Sg) (s:Shared) (v:Value) (c:CV),ci c→bc W X F rho sg s→bC W F v c→tr W X F s v (jY c) S
theorem cW:J1 W X (fun O O=>True) cu:=fun F rho sg s v c h R hv=>Bo R hv h
theorem Dv:J1 W X (fun I h=>∃l j,h.IsListIter I l j) FV:=fun F rho sg s v c h R hv=>by
 cases c with
 |lst l=>exact yb R hv
 |_=>exact h.elim
theorem cY{x:Str}:∀c l,lY c=some l→l.length=[x].length:=fun c l h=>by unfold lY at h;cases h;rfl
theorem DJ{x y:Str}:∀c l,xz c=some l→l.length=[x,y].length:=fun c l h=>DI (Z:=fun O l=>l.length=2) h fun O O=>rfl
theorem Dq{osc:Scope}{ons tgs frs gs:List Str}{fi:List Nat}{elt target iter:Expr}{ifs:List Expr}{scope:Scope}{pos pos':Pos}{S:Addr→Heap→Prop}{sp:CV→Option (List CV)}{ci:CV→Prop}{pi:PE}{pt:PB}{pe:PE}{use:Option (Value→Sem Unit)}
  (chk:qU osc ons scope tgs frs gs fi=true) (hsc:X.env.scope=osc) (hon:X.names=ons) (hit:J1 W X S ci)
  (hT:tx W target tgs frs gs S sp) (hlen:∀c l,sp c=some l→l.length=tgs.length) (hI:cQ W X iter pi) (hIf:∀Xc:FX,Xc.names=tgs++frs→Xc.globs=gs→Xc.n=X.n→jE W Xc ifs pt) (hEl:∀Xc:FX,Xc.names=tgs++frs→Xc.globs=gs→Xc.n=X.n→cQ W Xc elt pe)
  (hs:∀v,foldedSetIterable iter X.env v=pure v) {rho:bp} {sg:Sg} {F:Fz} {s:Shared} {Q:CV→Sg→Prop} (hp:d7 sp ci fi pi pt pe rho sg Q) (R:bc W X F rho sg s) {K E:Value→Shared→Prop}
  (hRR:∀D C G sg' s' m ys,F.le G→bc W X G rho sg' s'→bC W G (.ref D) (.lst ys)→iw X G sg' C→s'.heap.Ns C m→Q (.lst ys) sg'→compPost (model W.prog W.w) X.A E use K (.ref D) C (.ok .next) s'):
  wpAny (model W.prog W.w) X.A (comprehension (.ListComp elt [⟨target,iter,ifs,0⟩] scope pos) scope X.env pos' (newList []) false (eval iter X.env) use) K E s:=by
 subst hsc;subst hon;have k:=Lk chk;have hfree:∀x,(x,NameKind.free)∈scope.names→∃c,X.env.cells.lookup x=some c:=fun x hx=>by
  have q:=(k.k2 _ hx).2.resolve_left Bool.noConfusion;rcases X.hkd x q.2 with h|⟨_,h⟩
  ·exact NameKind.noConfusion (Option.some.inj ((show X.env.kindOf x=some .cell from q.1).symm.trans h))
  ·exact h
 refine el13 (Cd hfree) fun cl e hcl1 hcl2=> ?_;refine wpAny_comprehension_free rfl hs e k.k1 (fun x hx hl=>(k.k2 x hx).1.2.resolve_left fun h=>by rw[hl]at h;exact tf h) ?_
 refine hI.go hp R fun G v c sg1 s1 le1 R1 r1 h1=> ?_;refine mC h1 fun hc hsm hgo=> ?_;refine hit G rho sg1 s1 v c hc R1 r1 _ _ fun I h' tk fp N P St hIn hk Wk hfp hob hSt hcs hP hst=> ?_;have R2:bc W X G rho sg1 {s1 with heap:=h',toks:=tk}:=R1.grow hk;exact Cg k ⟨hcl1,hcl2⟩ hT hlen hIf hEl R2 Wk hfp hob hSt hcs (hcs▸hsm) hP (R1.fresh hIn) hst hgo (RR:=fun acc C=>compPost (model W.prog W.w) X.A E use K acc C) fun D C G2 sg' s' m ys le2 R3 hv hF hm hq=>hRR D C G2 sg' s' m ys (le1.trans le2) R3 hv hF hm hq
theorem c8{osc:Scope}{ons tgs frs gs:List Str}{fi:List Nat}{elt target iter:Expr}{ifs:List Expr}{scope:Scope}{pos:Pos}{S:Addr→Heap→Prop}{sp:CV→Option (List CV)}{ci:CV→Prop}{pi:PE}{pt:PB}{pe:PE}
  (chk:qU osc ons scope tgs frs gs fi=true) (hsc:X.env.scope=osc) (hon:X.names=ons) (hit:J1 W X S ci)
  (hT:tx W target tgs frs gs S sp) (hlen:∀c l,sp c=some l→l.length=tgs.length) (hs:∀v,foldedSetIterable iter X.env v=pure v) (hI:cQ W X iter pi) (hIf:∀Xc:FX,Xc.names=tgs++frs→Xc.globs=gs→Xc.n=X.n→jE W Xc ifs pt) (hEl:∀Xc:FX,Xc.names=tgs++frs→Xc.globs=gs→Xc.n=X.n→cQ W Xc elt pe):
  cQ W X (.ListComp elt [⟨target,iter,ifs,0⟩] scope pos) (d7 sp ci fi pi pt pe):= .of fun rho sg Q E hp F s K R hK=>by
 rw[eval_ListComp];exact Dq (use:=none) chk hsc hon hit hT hlen hI hIf hEl hs hp R fun D C G sg' s' m ys le R' hv hF hm hq=>⟨m,hm,fun h' hsb=>hK G _ _ _ _ le (R'.freeStep (tk:=s'.toks) hF fun b o hb e=>(hsb.2 b hb).trans e) hv hq⟩
theorem gZ{osc:Scope}{ons tgs frs gs:List Str}{fi:List Nat}{elt target iter:Expr}{ifs:List Expr}{scope:Scope}{pos:Pos}{S:Addr→Heap→Prop}{sp:CV→Option (List CV)}{ci:CV→Prop}{pi:PE}{pt:PB}{pe:PE}{m:Nat}{y:Str}{py spos:Pos}(i:Nat)
  (hsw:swapsWith (.ListComp elt [⟨target,iter,ifs,0⟩] scope pos) (some (.Name y py)) spos.line X.env=pure true) (hm:X.m=m) (hx:ons[i]? =some y) (hi:i<m)
  (chk:qU osc ons scope tgs frs gs fi=true) (hsc:X.env.scope=osc) (hon:X.names=ons) (hit:J1 W X S ci)
  (hT:tx W target tgs frs gs S sp) (hlen:∀c l,sp c=some l→l.length=tgs.length) (hs:∀v,foldedSetIterable iter X.env v=pure v) (hI:cQ W X iter pi) (hIf:∀Xc:FX,Xc.names=tgs++frs→Xc.globs=gs→Xc.n=X.n→jE W Xc ifs pt) (hEl:∀Xc:FX,Xc.names=tgs++frs→Xc.globs=gs→Xc.n=X.n→cQ W Xc elt pe):
  r_ W X (.Assign [.Name y py] (.ListComp elt [⟨target,iter,ifs,0⟩] scope pos) spos) (cS i (d7 sp ci fi pi pt pe)):= .of fun rho sg Q E hp F s K R hK=>by
 refine(exec_Assign_Name_used _ _ _ _ hsw)▸?_;refine wpAny_bind (wpAny_standAt (wpAny_bind ?_));show wpAny _ X.A (do let _ ←comprehension (.ListComp elt [⟨target,iter,ifs,0⟩] scope pos) scope X.env _ (newList []) false (eval iter X.env) (some (assign (.Name y py) X.env))) _ _ s
 refine wpAny_bind (Dq (use:=some (assign (.Name y py) X.env)) chk hsc hon hit hT hlen hI hIf hEl hs hp R fun D C G sg' s' mm ys le R' hv hF hn hq=> ?_);refine el32 (id hn) fun o es ep ho hrest=> ?_;refine wpAny_assign_Name (jx (X:=X.guard C o) (m:=m) i hon hm hx hi (R'.guard hF ho) hv fun s2 R2=> ?_);refine mC (R2.unguard hF.k) fun R3 F3 e3=> ?_;exact⟨mm,⟨o,es,ep,e3,hrest⟩,fun h' hsb=>wpAny_pure (wpAny_pure (hK G .next .next _ _ _ le (R3.freeStep (tk:=s2.toks) F3 fun b o hb e=>(hsb.2 b hb).trans e) rfl hq))⟩
end
abbrev Ke:=CV→Sg→(CV→Sg→Prop)→Prop
abbrev Hc:=CV→CV→Sg→(CV→Sg→Prop)→Prop
abbrev LS:=CV→CV→CV→Sg→(CV→Sg→Prop)→Prop
def Ex(f:Ke):ao:=fun cs sg Q=>match cs with|[a]=>f a sg Q|_=>False
def wg(f:Hc):ao:=fun cs sg Q=>match cs with|[a,b]=>f a b sg Q|_=>False
def LX(f:LS):ao:=fun cs sg Q=>match cs with|[a,b,c]=>f a b c sg Q|_=>False
def CO(f:Int→Prop):CV→Prop| .int i=>f i|_=>False
def Kw(f:Str→Prop):CV→Prop| .str i=>f i|_=>False
def GR(f:List CV→Prop):CV→Prop| .lst i=>f i|_=>False
def Kx(f:List CV→Prop):CV→Prop| .tup i=>f i|_=>False
def LH(f:List (Str×CV)→Prop):CV→Prop| .sd i=>f i|_=>False
def JK(f:Addr→Prop):CV→Prop| .ref i=>f i|_=>False
section
variable {c:CV}{P:CV→Prop}
theorem DC{f:Ke}{cs:List CV}{sg:Sg}{Q:CV→Sg→Prop}(h:Ex f cs sg Q){P:List CV→Prop}(k:∀a,f a sg Q→P [a]):P cs:=by
 match cs,h with
 |[a],h=>exact k a h
theorem zY{f:Hc}{cs:List CV}{sg:Sg}{Q:CV→Sg→Prop}(h:wg f cs sg Q){P:List CV→Prop}(k:∀a b,f a b sg Q→P [a,b]):P cs:=by
 match cs,h with
 |[a,b],h=>exact k a b h
theorem HN{f:LS}{cs:List CV}{sg:Sg}{Q:CV→Sg→Prop}(h:LX f cs sg Q){P:List CV→Prop}(k:∀a b c,f a b c sg Q→P [a,b,c]):P cs:=by
 match cs,h with
 |[a,b,c],h=>exact k a b c h
variable {W:Wd}{F:Fz}{v:Value}{Z:Value→Prop}
theorem bC.int_{f:Int→Prop}(r:bC W F v c)(h:CO f c)(k:∀i t,f i→Z (.int i t)):Z v:=by cases c with|int i=>exact r.onInt fun t=>k i t h|_=>exact h.elim
theorem bC.str_{f:Str→Prop}(r:bC W F v c)(h:Kw f c)(k:∀i t,f i→Z (.str i t)):Z v:=by cases c with|str i=>exact r.onStr fun t=>k i t h|_=>exact h.elim
theorem bC.ref_{f:Addr→Prop}(r:bC W F v c)(h:JK f c)(k:∀i,f i→Z (.ref i)):Z v:=by cases c with|ref i=>exact r.onRef (k i h)|_=>exact h.elim
theorem bC.lst_{f:List CV→Prop}(r:bC W F v c)(h:GR f c)(k:∀l a vs n,f l→F a=some (listOf (List.toArray vs) n)→b6 W F vs l→Z (.ref a)):Z v:=by cases c with|lst i=>exact r.onLst fun a vs n=>k i a vs n h|_=>exact h.elim
theorem bC.tup_{f:List CV→Prop}(r:bC W F v c)(h:Kx f c)(k:∀l a o vs n,f l→F a=some o→o.cls= .type "tuple"→o.data= .seq (List.toArray vs) n→b6 W F vs l→Z (.ref a)):Z v:=by cases c with|tup i=>exact r.onTup fun a o vs n=>k i a o vs n h|_=>exact h.elim
theorem bC.sd_{f:List (Str×CV)→Prop}(r:bC W F v c)(h:LH f c)(k:∀l a o kvs,f l→F a=some o→a≠sysModules→o.IsDictOf (strKind W.prog W.w) kvs→uc W F kvs l→Z (.ref a)):Z v:=by cases c with|sd i=>exact r.onSd fun a o kvs=>k i a o kvs h|_=>exact h.elim
end
def dm(W:Wd)(t:List Value→Sem Value)(sp:ao):Prop:=
 ∀(X:FX) (F:Fz) (rho:bp) (sg:Sg) (s:Shared) (vs:List Value) (cs:List CV) (Q:CV→Sg→Prop) (K E:Value→Shared→Prop),bc W X F rho sg s→b6 W F vs cs→sp cs sg Q→
  (∀G v c sg' s',F.le G→bc W X G rho sg' s'→bC W G v c→Q c sg'→K v s')→wpAny (model W.prog W.w) X.A (t vs) K E s
noncomputable def one(f:Value→Sem Value):List Value→Sem Value:=fun vs=>match vs with|[a]=>f a|_=>pure .none
noncomputable def two(f:Value→Value→Sem Value):List Value→Sem Value:=fun vs=>match vs with|[a,b]=>f a b|_=>pure .none
noncomputable def xM(f:Value):List Value→Sem Value:=fun vs=>call f vs
def sb(W:Wd)(X:FX)(F:Fz)(rho:bp)(Q:CV→Sg→Prop)(K:Value→Shared→Prop):Prop:=∀G v c sg' s',F.le G→bc W X G rho sg' s'→bC W G v c→Q c sg'→K v s'
def Ic(W:Wd)(t:Value→Sem Value)(f:Ke):Prop:=∀{X F rho sg s v c Q K E},bc W X F rho sg s→bC W F v c→f c sg Q→sb W X F rho Q K→wpAny (model W.prog W.w) X.A (t v) K E s
def Id(W:Wd)(t:Value→Value→Sem Value)(f:Hc):Prop:=∀{X F rho sg s v c u d Q K E},bc W X F rho sg s→bC W F v c→bC W F u d→f c d sg Q→sb W X F rho Q K→wpAny (model W.prog W.w) X.A (t v u) K E s
theorem Im{W:Wd}{t:Value→Sem Value}{f:Ke}(h:Ic W t f):dm W (one t) (Ex f):=fun X F rho sg s vs cs Q K E R hv hsp hK=>by
 refine DC hsp (P:=fun cs=>b6 W F vs cs→_) (fun a hf hv=> ?_) hv;refine hv.onCons fun v r h1 h2=> ?_;exact h2.onNil (h R h1 hf hK)
theorem tD{W:Wd}{t:Value}{f:Ke}(h:Ic W (fun v=>call t [v]) f):dm W (xM t) (Ex f):=fun X F rho sg s vs cs Q K E R hv hsp hK=>by
 refine DC hsp (P:=fun cs=>b6 W F vs cs→_) (fun a hf hv=> ?_) hv;refine hv.onCons fun v r h1 h2=> ?_;exact h2.onNil (h R h1 hf hK)
theorem tC{W:Wd}{t:Value→Value→Sem Value}{f:Hc}(h:Id W t f):dm W (two t) (wg f):=fun X F rho sg s vs cs Q K E R hv hsp hK=>by
 refine zY hsp (P:=fun cs=>b6 W F vs cs→_) (fun a b hf hv=> ?_) hv;refine hv.onCons fun v r h1 h2=> ?_;refine h2.onCons fun u r h2 h3=> ?_;exact h3.onNil (h R h1 h2 hf hK)
theorem Ck{W:Wd}{t:Value}{f:Hc}(h:Id W (fun v u=>call t [v,u]) f):dm W (xM t) (wg f):=fun X F rho sg s vs cs Q K E R hv hsp hK=>by
 refine zY hsp (P:=fun cs=>b6 W F vs cs→_) (fun a b hf hv=> ?_) hv;refine hv.onCons fun v r h1 h2=> ?_;refine h2.onCons fun u r h2 h3=> ?_;exact h3.onNil (h R h1 h2 hf hK)
theorem sb.here{W:Wd}{X:FX}{F:Fz}{rho:bp}{Q:CV→Sg→Prop}{K:Value→Shared→Prop}(h:sb W X F rho Q K){v:Value}{c:CV}{sg:Sg}{s:Shared}(R:bc W X F rho sg s)(r:bC W F v c)(q:Q c sg):K v s:=h F v c sg s (.refl F) R r q
section
variable {W:Wd}{X:FX}{F:Fz}{rho:bp}{sg:Sg}{s:Shared}
def Kj(sp:ao)(a:CV)(Q:CV→Sg→Prop)(b:CV)(sg2:Sg):Prop:=sp [a,b] sg2 Q
def Li(sp:ao)(q:PE)(rho:bp)(Q:CV→Sg→Prop)(a:CV)(sg1:Sg):Prop:=q rho sg1 (Kj sp a Q)
def L8(sp:ao)(Q:CV→Sg→Prop)(a:CV)(sg1:Sg):Prop:=sp [a] sg1 Q
def bh(sp:ao)(p q:PE):PE:=fun rho sg Q=>p rho sg (Li sp q rho Q)
theorem bH{op:Operator}{l r:Expr}{pos:Pos}{sp:ao}{p q:PE}(d:dm W (two (binaryOp op)) sp)(h1:cQ W X l p)(h2:cQ W X r q):cQ W X (.BinOp l op r pos) (bh sp p q):= .of fun rho sg Q E hp F s K R hK=>
 wpAny_BinOp (h1.go hp R fun G a ca sg1 s1 le1 R1 r1 h'=>h2.go h' R1 fun G2 b cb sg2 s2 le2 R2 r2 h''=>
  d X G2 rho sg2 s2 [a,b] [ca,cb] Q K E R2 (.cons (r1.mono le2) (.cons r2 .nil)) h'' fun G3 v c sg3 s3 le3 R3 r3 h3=>hK _ _ _ _ _ ((le1.trans le2).trans le3) R3 r3 h3)
theorem fX{op:CmpOp}{l r:Expr}{pos:Pos}{sp:ao}{p q:PE}(hm:behindInMarks op r=false)(d:dm W (two (compareOp op)) sp)(h1:cQ W X l p)(h2:cQ W X r q):cQ W X (.Compare l [op] [r] pos) (bh sp p q):= .of fun rho sg Q E hp F s K R hK=>
 wpAny_Compare1 (h1.go hp R fun G a ca sg1 s1 le1 R1 r1 h'=>h2.go h' R1 fun G2 b cb sg2 s2 le2 R2 r2 h''=>
  d X G2 rho sg2 s2 [a,b] [ca,cb] Q K E R2 (.cons (r1.mono le2) (.cons r2 .nil)) h'' fun G3 v c sg3 s3 le3 R3 r3 h3=>hK _ _ _ _ _ ((le1.trans le2).trans le3) R3 r3 h3) hm
theorem aE{op:CmpOp}{l r:Expr}{pos:Pos}{sp:ao}{p q:PE}(hm:behindInMarks op r=false)(d:dm W (two (compareOp op)) sp)(h1:cQ W X l p)(h2:cQ W X r q):uI W X (.Compare l [op] [r] pos) (aX (bh sp p q)):= .of fun rho sg Q E hp F s K R hK=>by
 rw[isTrue_Compare1,markedBehindIn_of_false hm];refine wpAny_bind (h1.go hp R fun G a ca sg1 s1 le1 R1 r1 h'=>wpAny_bind (wpAny_holding (h2.go h' R1 fun G2 b cb sg2 s2 le2 R2 r2 h''=>wpAny_bind (wpAny_standAt (wpAny_bind (wpAny_operate' ?_))))));exact d X G2 rho sg2 s2 [a,b] [ca,cb] _ _ E R2 (.cons (r1.mono le2) (.cons r2 .nil)) h'' fun G3 v c sg3 s3 le3 R3 r3 ⟨t,ht,hq⟩=>wpAny_holding (jy R3 r3 ht fun tk=>hK _ t t _ _ ((le1.trans le2).trans le3) R3.tok rfl hq)
def un(sp:ao)(p:PE):PE:=fun rho sg Q=>p rho sg (L8 sp Q)
theorem vY{op:UnaryOp}{e:Expr}{pos:Pos}{sp:ao}{p:PE}(d:dm W (one (unaryOp op)) sp)(h1:cQ W X e p):cQ W X (.UnaryOp op e pos) (un sp p):= .of fun rho sg Q E hp F s K R hK=>
 UnaryOp_ (h1.go hp R fun G a ca sg1 s1 le1 R1 r1 h'=>
  d X G rho sg1 s1 [a] [ca] Q K E R1 (.cons r1 .nil) h' fun G3 v c sg3 s3 le3 R3 r3 h3=>hK _ _ _ _ _ (le1.trans le3) R3 r3 h3)
def KP(xz:ao)(b:CV)(Q:Bool→Sg→Prop)(c:CV)(sg4:Sg):Prop:=xz [b,c] sg4 (yE Q)
def KO(xz:ao)(r:PE)(b:CV)(rho:bp)(Q:Bool→Sg→Prop)(x:Bool)(sg3:Sg):Prop:=Dd x (r rho sg3 (KP xz b Q)) (Q false sg3)
def KN(lY xz:ao)(r:PE)(a:CV)(rho:bp)(Q:Bool→Sg→Prop)(b:CV)(sg2:Sg):Prop:=lY [a,b] sg2 (yE (KO xz r b rho Q))
def KM(lY xz:ao)(q r:PE)(rho:bp)(Q:Bool→Sg→Prop)(a:CV)(sg1:Sg):Prop:=q rho sg1 (KN lY xz r a rho Q)
def qx(lY xz:ao)(p q r:PE):PB:=fun rho sg Q=>p rho sg (KM lY xz q r rho Q)
theorem kY{op1 op2:CmpOp}{l m r:Expr}{pos:Pos}{lY xz:ao}{p q pr:PE}(hm:lastMarks [op1,op2] [m,r]=false)(d1:dm W (two (compareOp op1)) lY)(d2:dm W (two (compareOp op2)) xz)(h1:cQ W X l p)(h2:cQ W X m q)(h3:cQ W X r pr):
  uI W X (.Compare l [op1,op2] [m,r] pos) (qx lY xz p q pr):= .of fun rho sg Q E hp F s K R hK=>by
 refine isTrue_chain (h1.go hp R fun G a ca sg1 s1 le1 R1 r1 h'=>test_link (h2.go h' R1 fun G2 b cb sg2 s2 le2 R2 r2 h''=> ?_)) hm;refine d1 X G2 rho sg2 s2 [a,b] [ca,cb] _ _ E R2 (.cons (r1.mono le2) (.cons r2 .nil)) h'' fun G3 v c sg3 s3 le3 R3 r3 h3'=> ?_;obtain⟨x,hx,ht,hf⟩:=h3';refine jy R3 r3 hx fun tk=> ?_;cases x with
 |false=>exact hK _ _ _ _ _ ((le1.trans le2).trans le3) R3.tok rfl (hf rfl)
 |true=>
  refine test_last (h3.go (ht rfl) R3.tok fun G4 d' cd sg4 s4 le4 R4 r4 h4=> ?_);exact d2 X G4 rho sg4 s4 [b,d'] [cb,cd] _ _ E R4 (.cons ((r2.mono le3).mono le4) (.cons r4 .nil)) h4 fun G5 v c sg5 s5 le5 R5 r5 ⟨y,hy,hq⟩=>jy R5 r5 hy fun tk=>hK _ y y _ _ ((((le1.trans le2).trans le3).trans le4).trans le5) R5.tok rfl hq
theorem AQ{f:Value}{sp:ao}(d:dm W (xM f) sp){pos:Pos}{es:List Expr}{ps:t5}{E:Value→Shared→Prop}{Q:CV→Sg→Prop}(ha:lC W X pos es ps)(hp:ps rho sg fun cs sg1=>sp cs sg1 Q)(R:bc W X F rho sg s){K:Value→Shared→Prop}
  (hK:∀G v c sg' s',F.le G→bc W X G rho sg' s'→bC W G v c→Q c sg'→K v s'):wpAny (model W.prog W.w) X.A (spliced (backTo pos (starEach es X.env))) (fun vs s₁=>wpAny (model W.prog W.w) X.A (call f vs) K E s₁) E s:=
 ha.go hp R fun G vs cs sg1 s1 le1 R1 r1 h1=>d X G rho sg1 s1 vs cs Q K E R1 r1 h1 fun G2 v c sg2 s2 le2 R2 r2 h2=>hK _ _ _ _ _ (le1.trans le2) R2 r2 h2
theorem bd{gs:List Str}{x:Str}{f:Value}{pos np:Pos}{e:Expr}{es:List Expr}{ps:t5}{sp:ao}(j:Nat)(hgs:X.globs=gs)(hj:gs[j]? =some x)(hv:nsIn W.K mainGlobals x=some none)(hb:bootBuiltins x=some f)(hn:x≠"__name__")
  (hf:(∃id,f= .builtin id)∨∃T,f= .type T) (d:dm W (xM f) sp)
  (he:starEach (e::es) X.env=(false,eval e X.env)::starEach es X.env) (hpl:(backTo pos (starEach es X.env)).any (·.1)=false) (ha:lC W X pos (e::es) ps):
  cQ W X (.Call (.Name x np) (e::es) [] pos) (aA sp ps):= .of fun rho sg Q E hp F s K R hK=>by
 refine Call_ (gE j hgs hj hv hb hn R ?_);rcases hf with⟨id,rfl⟩|⟨T,rfl⟩
 ·exact PyProof.Rows.callWith_builtin1 (AQ d ha hp R hK) he hpl
 ·exact PyProof.Rows.callWith_type1 (AQ d ha hp R hK) he hpl
def wP(W:Wd)(name:Str)(id:String)(ok:CV→Sg→Prop):Prop:=
 ∀(X:FX) (F:Fz) (rho:bp) (sg:Sg) (s:Shared) (v:Value) (c:CV) (pl:Sem Bool) (Q:Value×List Value→Shared→Prop) (E:Value→Shared→Prop),ok c sg→bc W X F rho sg s→bC W F v c→Q (.builtin id,[v]) s→wpAny (model W.prog W.w) X.A (getMethod v name pl) Q E s
def Hj(ok:CV→Sg→Prop)(sp:ao)(ps:t5)(rho:bp)(Q:CV→Sg→Prop)(r:CV)(sg1:Sg):Prop:=ok r sg1∧ps rho sg1 (Dn sp r Q)
def cq(ok:CV→Sg→Prop)(sp:ao)(p:PE)(ps:t5):PE:=fun rho sg Q=>p rho sg (Hj ok sp ps rho Q)
theorem vW{o:Expr}{name:Str}{id:String}{apos pos:Pos}{p:PE}{pl:Sem Bool}{ok:CV→Sg→Prop}{sp:ao}(cm:wP W name id ok)(d:dm W (xM (.builtin id)) sp)
  (he:eval (.Call (.Attribute o name apos) [] [] pos) X.env=(do
   let ov ←eval o X.env
   standAt apos.atName
   let(f,first) ←holding [ov] (getMethod ov name pl)
   callWith pos f first (backTo pos (starEach [] X.env)) [])) (h:cQ W X o p):cQ W X (.Call (.Attribute o name apos) [] [] pos) (cq ok sp p aq):= .of fun rho sg Q E hp F s K R hK=>by
 refine MethodCall_ (h.go hp R fun G v r sg1 s1 le1 R1 r1 h'=>cm X G rho sg1 s1 v r pl _ E h'.1 R1 r1 ?_) he;exact callWith_method0 (d X G rho sg1 s1 [v] [r] Q K E R1 (.cons r1 .nil) h'.2 fun G2 v c sg2 s2 le2 R2 r2 h2=>hK _ _ _ _ _ (le1.trans le2) R2 r2 h2)
theorem br{o:Expr}{name:Str}{id:String}{apos pos:Pos}{p:PE}{pl:Sem Bool}{ok:CV→Sg→Prop}{sp:ao}{e:Expr}{es:List Expr}{ps:t5}(cm:wP W name id ok)(d:dm W (xM (.builtin id)) sp)
  (he:eval (.Call (.Attribute o name apos) (e::es) [] pos) X.env=(do
   let ov ←eval o X.env
   standAt apos.atName
   let(f,first) ←holding [ov] (getMethod ov name pl)
   callWith pos f first (backTo pos (starEach (e::es) X.env)) []))
  (hs:starEach (e::es) X.env=(false,eval e X.env)::starEach es X.env) (hpl:(backTo pos (starEach es X.env)).any (·.1)=false) (h:cQ W X o p) (ha:lC W X pos (e::es) ps):
  cQ W X (.Call (.Attribute o name apos) (e::es) [] pos) (cq ok sp p ps):= .of fun rho sg Q E hp F s K R hK=>by
 refine MethodCall_ (h.go hp R fun G v r sg1 s1 le1 R1 r1 h'=>cm X G rho sg1 s1 v r pl _ E h'.1 R1 r1 ?_) he;refine callWith_method1 (ha.go h'.2 R1 fun G2 vs cs sg2 s2 le2 R2 r2 h2=> ?_) hs hpl;exact d X G2 rho sg2 s2 (v::vs) (r::cs) Q K E R2 (.cons (r1.mono le2) r2) h2 fun G3 v c sg3 s3 le3 R3 r3 h3=>hK _ _ _ _ _ ((le1.trans le2).trans le3) R3 r3 h3
def Ao(W:Wd)(sp:ao):Prop:=
 ∀(X:FX) (F:Fz) (rho:bp) (sg:Sg) (s:Shared) (o i:Value) (cs:List CV) (Q:CV→Sg→Prop) (K E:Value→Shared→Prop),bc W X F rho sg s→b6 W F [o,i] cs→sp cs sg Q→
  (∀G v c sg' s',F.le G→bc W X G rho sg' s'→bC W G v c→Q c sg'→K v s')→(∃T id,s.TypeIs o T∧typeLookup (.type T) "__getitem__"=pure (some (.builtin id)))∧wpAny (model W.prog W.w) X.A (getItem o i) K E s
theorem GK{value slice:Expr}{o i:Value}{T id:String}{Q E:Value→Shared→Prop}(hT:s.TypeIs o T)
  (hl:typeLookup (.type T) "__getitem__"=pure (some (.builtin id))) (h:wpAny (model W.prog W.w) X.A (getItem o i) Q E s)
  (hs:subscripted slice false o i=operate [o,i] (getItem o i)):wpAny (model W.prog W.w) X.A (subscriptTail value slice o i) Q E s:=by
 refine wpAny_bind ?_;rw[getitemInPython_of_ne hT.not_modules];refine wpAny_bind (wpAny_specialOf hT hl ?_);have fin:wpAny (model W.prog W.w) X.A (subscripted slice false o i) (fun r s₃=>wpAny (model W.prog W.w) X.A (letTemporaryGo value o r >>= fun O=>pure r) Q E s₃) E s:=by
  rw[hs];exact wpAny_operating (wpAny_mono h (fun r s₃ h₃=>wpAny_bind (wpAny_letTemporaryGo (wpAny_pure h₃))) fun O O x=>x)
 first
  |exact wpAny_pure (wpAny_bind fin)
  |exact wpAny_bind (wpAny_pure (wpAny_bind fin))
  |exact wpAny_bind fin
theorem aU{value slice:Expr}{pos:Pos}{sp:ao}{p q:PE}(hs:∀o i,subscripted slice false o i=operate [o,i] (getItem o i))(d:Ao W sp)(h1:cQ W X value p)(h2:cQ W X slice q):cQ W X (.Subscript value slice pos) (bh sp p q):= .of fun rho sg Q E hp F s K R hK=>by
 refine Subscript_ (h1.go hp R fun G a ca sg1 s1 le1 R1 r1 h'=>h2.go h' R1 fun G2 b cb sg2 s2 le2 R2 r2 h''=> ?_);refine dp fun C_ k_=> ?_;obtain⟨⟨T,id,hT,hl⟩,hg⟩:=d X G2 rho sg2 s2 a b [ca,cb] Q K E R2 (.cons (r1.mono le2) (.cons r2 .nil)) h'' fun G3 v c sg3 s3 le3 R3 r3 h3=>hK _ _ _ _ _ ((le1.trans le2).trans le3) R3 r3 h3;refine k_ ?_;exact GK hT hl hg (hs _ _)
theorem H5{v:Value}{i:Int}(h:bC W F v (.int i)):∃t,v= .int i t:=h.onInt (P:=fun v=>∃t,v= .int i t) fun t=>⟨t,rfl⟩
theorem GN{v:Value}(h:bC W F v .none):v= .none:=h.inv
theorem H6{v:Value}{i:Str}(h:bC W F v (.str i)):∃t,v= .str i t:=h.onStr (P:=fun v=>∃t,v= .str i t) fun t=>⟨t,rfl⟩
@[irreducible] def kb(W:Wd)(X:FX)(e:Option Expr)(p:PE):Prop:=∀rho sg Q E,p rho sg Q→Hb W X (evalPart e X.env) rho sg Q E
theorem kb.of{W:Wd}{X:FX}{e:Option Expr}{p:PE}(h:∀rho sg Q E,p rho sg Q→Hb W X (evalPart e X.env) rho sg Q E):kb W X e p:=by delta kb;exact h
theorem kb.go{W:Wd}{X:FX}{e:Option Expr}{p:PE}(h:kb W X e p){rho:bp}{sg:Sg}{Q:CV→Sg→Prop}{E:Value→Shared→Prop}{F:Fz}{s:Shared}{K:Value→Shared→Prop}(hp:p rho sg Q)(R:bc W X F rho sg s)(hK:∀G a b sg' s',F.le G→bc W X G rho sg' s'→bC W G a b→Q b sg'→K a s'):wpAny (model W.prog W.w) X.A (evalPart e X.env) K E s:=by delta kb at h;exact h _ _ _ E hp F s K R hK
theorem fd:kb W X none (aK .none):= .of fun rho sg Q E h F s K R hK=>by rw[evalPart_none];exact wpAny_pure (hK F _ _ _ _ (.refl F) R .none h)
theorem iM{e:Expr}{p:PE}(h:cQ W X e p):kb W X (some e) p:= .of fun rho sg Q E hp F s K R hK=>h.go hp R hK
def LY(l:List CV)(sg:Sg)(Q:CV→Sg→Prop)(b:Int):Prop:=0≤b∧Q (.lst (l.take b.toNat)) sg
def L6(l:List CV)(b:CV)(sg:Sg)(Q:CV→Sg→Prop):CV→Prop
 | .none=>CO (LY l sg Q) b
 | .int a=>b= .none∧0≤a∧Q (.lst (l.drop a.toNat)) sg
 |_=>False
def LZ(a b:CV)(sg:Sg)(Q:CV→Sg→Prop)(l:List CV):Prop:=small l.length∧L6 l b sg Q a
def H0(o a b:CV)(sg:Sg)(Q:CV→Sg→Prop):Prop:=GR (LZ a b sg Q) o
def LK(o a:CV)(Q:CV→Sg→Prop)(b:CV)(sg3:Sg):Prop:=H0 o a b sg3 Q
def LJ(pu:PE)(o:CV)(rho:bp)(Q:CV→Sg→Prop)(a:CV)(sg2:Sg):Prop:=pu rho sg2 (LK o a Q)
def LI(pl pu:PE)(rho:bp)(Q:CV→Sg→Prop)(o:CV)(sg1:Sg):Prop:=pl rho sg1 (LJ pu o rho Q)
def kI(p pl pu:PE):PE:=fun rho sg Q=>p rho sg (LI pl pu rho Q)
theorem gD{x:Str}{np:Pos}{lower upper:Option Expr}{p pos:Pos}{pv pl pu:PE}(h1:cQ W X (.Name x np) pv)(h2:kb W X lower pl)(h3:kb W X upper pu):cQ W X (.Subscript (.Name x np) (.Slice lower upper none p) pos) (kI pv pl pu):= .of fun rho sg Q E hp F s K R hK=>by
 refine wpAny_Subscript_list_slice (h1.go hp R fun G o co sg1 s1 le1 R1 r1 h'=>h2.go h' R1 fun G2 a ca sg2 s2 le2 R2 r2 h''=>h3.go h'' R2 fun G3 b cb sg3 s3 le3 R3 r3 h3=> ?_) (fun O O=>rfl);have fin:∀(vs:List Value) (items:Array Value) (l:List CV),items=vs.toArray→b6 W G3 vs l→Q (.lst l) sg3→∀(o':Obj),K (.ref (s3.heap.objs.size+1)) {s3 with heap:=(s3.heap.push o').push {cls:= .type "list",data:= .seq items}}:=by
  intro vs items l hi hv hq o';subst hi;have R4:bc W X G3 rho sg3 {s3 with heap:=s3.heap.push o',toks:=s3.toks}:=R3.grow (aY _ _);have hsz:(s3.heap.push o').objs.size=s3.heap.objs.size+1:=Heap.size_push _ _;obtain⟨le5,R5⟩:=R4.addF (h':=(s3.heap.push o').push (PySem.W.listOf vs.toArray 0)) (tk:=s3.toks) (a:=s3.heap.objs.size+1) (aY _ _) (by rw[←hsz];exact bJ) (by rw[←hsz];exact Heap.get?_push_size _ rfl)
  exact hK _ _ _ _ _ (((le1.trans le2).trans le3).trans le5) R5 (.lst (Fz.put_self ..) (hv.mono le5)) hq
 have h3:GR (LZ ca cb sg3 Q) co:=h3;apply r1.lst_ h3;intro l aa vs n h3 e1 e2;have il:s3.heap.IsList aa vs.toArray:=⟨_,R3.fz _ _ (le3 _ _ (le2 _ _ e1)),rfl,_,rfl⟩;have sz:vs.toArray.size≤sizeLine:=by rw[List.size_toArray,e2.length];exact h3.1.line
 obtain⟨_,h3⟩:=h3;cases ca with
 |none=>
  apply r2.onNone;have h3:CO (LY l sg3 Q) cb:=h3;apply r3.int_ h3;intro i t h3;refine⟨aa,vs.toArray,none,some i,rfl,il,sz,.none,.int _ _,fin (vs.take i.toNat) _ _ ?_ ((e2.mono (le2.trans le3)).take _) h3.2 _⟩;obtain⟨k,rfl⟩:=Int.eq_ofNat_of_zero_le h3.1;exact slicePick_upto' _ k
 |int i=>
  obtain⟨rfl,h0,hq⟩:=h3;obtain⟨t⟩:=(r2.inv:DR i a);obtain rfl:b= .none:=r3.inv;refine⟨aa,vs.toArray,some i,none,rfl,il,sz,.int _ _,.none,fin (vs.drop i.toNat) _ _ ?_ ((e2.mono (le2.trans le3)).drop _) hq _⟩;obtain⟨k,rfl⟩:=Int.eq_ofNat_of_zero_le h0;exact slicePick_from' _ k
 |_=>exact h3.elim
end
section
variable {W:Wd}{X:FX}{F:Fz}{rho:bp}{sg:Sg}{s:Shared}
theorem kP{a:Addr}{o:Obj}{vs:List Value}{n:Nat}(R:bc W X F rho sg s)(h:F a=some o)(hc:o.cls= .type "tuple")(hd:o.data= .seq vs.toArray n):IsTup s.heap a vs.toArray:=⟨_,R.fz _ _ h,hc,_,hd⟩
abbrev Kf:=Int→Int→Sg→(CV→Sg→Prop)→Prop
def zZ(f:Kf):Hc:=fun c d sg Q=>CO (fun a=>CO (fun b=>f a b sg Q) d) c
theorem m9{t:Value→Value→Sem Value}{f:Kf}(h:∀{X F rho sg s a b x y Q K E},bc W X F rho sg s→f a b sg Q→sb W X F rho Q K→wpAny (model W.prog W.w) X.A (t (.int a x) (.int b y)) K E s):dm W (two t) (wg (zZ f)):=
 tC fun {X F rho sg s v c u d Q K E} R r1 r2 hf hK=>by
  apply r1.int_ hf;intro a x hf;apply r2.int_ hf;intro b y hf;exact h R hf hK
def Jw:Hc:=fun c d sg Q=>match c with
 | .int a=>CO (fun b=>Q (.int (a+b)) sg) d
 | .lst l=>GR (fun m=>small (l.length+m.length)∧Q (.lst (l++m)) sg) d
 | .tup l=>Kx (fun m=>small (l.length+m.length)∧Q (.tup (l++m)) sg) d
 |_=>False
def dD:ao:=wg Jw
theorem Hf{l m:List CV}{a1 a2:Addr}{o1 o2:Obj}{vs1 vs2:List Value}{n1 n2:Nat}{Q:CV→Sg→Prop}{K E:Value→Shared→Prop}(R:bc W X F rho sg s)(hz:small (l.length+m.length))(hq:Q (.tup (l++m)) sg)(hK:sb W X F rho Q K)
  (e1:F a1=some o1) (c1:o1.cls= .type "tuple") (d1:o1.data= .seq vs1.toArray n1) (v1:b6 W F vs1 l) (e2:F a2=some o2) (c2:o2.cls= .type "tuple") (d2:o2.data= .seq vs2.toArray n2) (v2:b6 W F vs2 m):
  wpAny (model W.prog W.w) X.A (binaryOp .Add (.ref a1) (.ref a2)) K E s:=by
 have h1:bC W F (.ref a1) (.tup l):= .tup e1 c1 d1 v1;have h2:bC W F (.ref a2) (.tup m):= .tup e2 c2 d2 v2;obtain⟨cls,dd,data,sl⟩:=o1;obtain⟨cls2,dd2,data2,sl2⟩:=o2;cases c1;cases d1;cases c2;cases d2;have ho:=R.fz _ _ e1;have ho2:=R.fz _ _ e2;cases v1 with
 |nil=>exact concat_meets ⟨_,ho,rfl⟩ ⟨_,ho2,rfl⟩ noFill_tuple_add seq_tuple_add PySem.F.slot_tuple_add PySem.F.entry_tuple_add (PySem.F.args_tuple_add_2 _ _) (tuple_addW0 a1 a2 [].toArray vs2.toArray n1 n2 dd dd2 sl sl2 rfl) ⟨ho,ho2,hK.here R h2 hq⟩
 | @cons p1 _ q1 _ u1 w1=>cases v2 with
  |nil=>exact concat_meets ⟨_,ho,rfl⟩ ⟨_,ho2,rfl⟩ noFill_tuple_add seq_tuple_add PySem.F.slot_tuple_add PySem.F.entry_tuple_add (PySem.F.args_tuple_add_2 _ _) (tuple_addW1 a1 a2 (p1::q1).toArray [].toArray n1 n2 dd dd2 sl sl2 Bool.false_ne_true rfl) ⟨ho,ho2,hK.here R h1 (by rwa [List.append_nil]at hq)⟩
  | @cons p2 _ q2 _ u2 w2=>
   have x1:b6 W F _ _:=F2.cons u1 w1;have x2:b6 W F _ _:=F2.cons u2 w2;refine concat_meets ⟨_,ho,rfl⟩ ⟨_,ho2,rfl⟩ noFill_tuple_add seq_tuple_add PySem.F.slot_tuple_add PySem.F.entry_tuple_add (PySem.F.args_tuple_add_2 _ _) (tuple_addW2 a1 a2 (p1::q1).toArray (p2::q2).toArray n1 n2 dd dd2 sl sl2 Bool.false_ne_true Bool.false_ne_true (by rw[List.size_toArray,List.size_toArray,x1.length,x2.length];exact hz.line)) ⟨ho,ho2,?_⟩
   rw[List.append_toArray];obtain⟨le,R2⟩:=R.addF (o:={cls:= .type "tuple",data:= .seq (_++_:List Value).toArray}) (tk:=s.toks) (aY _ _) bJ (Heap.get?_push_size _ rfl);exact hK _ _ _ _ _ le R2 (.tup (Fz.put_self ..) rfl rfl ((x1.mono le).append (x2.mono le))) hq
theorem bG:dm W (two (binaryOp .Add)) dD:=tC fun {X F rho sg s v c u d Q K E} R r1 r2 hf hK=>by
 cases c with
 |int a=>
  apply r1.onInt;intro x;have hf:CO _ d:=hf;apply r2.int_ hf;intro b y hf;exact PyProof.Rows.add_int (hK.here R.tok (.int _ _) hf)
 |lst l=>
  apply r1.onLst;intro a1 vs1 n1 e1 v1;have hf:GR _ d:=hf;apply r2.lst_ hf;intro m a2 vs2 n2 hf e2 v2;refine P.add_list (R.fz _ _ e1) (R.fz _ _ e2) ?_ (by rw[List.size_toArray,List.size_toArray,v1.length,v2.length];exact hf.1.line)
  rw[List.append_toArray];obtain⟨le,R2⟩:=R.addF (o:=PySem.W.listOf (vs1++vs2).toArray 0) (tk:=s.toks) (aY _ _) bJ (Heap.get?_push_size _ rfl);exact hK _ _ _ _ _ le R2 (.lst (Fz.put_self ..) ((v1.mono le).append (v2.mono le))) hf.2
 |tup l=>
  apply r1.onTup;intro a1 o1 vs1 n1 e1 c1 d1 v1;have hf:Kx _ d:=hf;apply r2.tup_ hf;intro m a2 o2 vs2 n2 hf e2 c2 d2 v2;exact Hf R hf.1 hf.2 hK e1 c1 d1 v1 e2 c2 d2 v2
 |_=>exact hf.elim
def IC:ao:=wg (zZ fun a b sg Q=>Q (.int (a-b)) sg)
theorem Ft:dm W (two (binaryOp .Sub)) IC:=m9 fun R h hK=>PyProof.Rows.sub_int (hK.here R.tok (.int _ _) h)
def wB:ao:=wg (zZ fun a b sg Q=>(Builtin.Int.intBits a≤64∨Builtin.Int.intBits b≤64)∧Q (.int (a*b)) sg)
theorem kX:dm W (two (binaryOp .Mult)) wB:=m9 fun R h hK=>PyProof.Rows.mul_int (hK.here R.tok (.int _ _) h.2) (h.1.elim IntMulOk.of_left IntMulOk.of_right)
def yA:ao:=wg (zZ fun a b sg Q=>b≠0∧Q (.int (a.fmod b)) sg)
theorem q6:dm W (two (binaryOp .Mod)) yA:=m9 fun R h hK=>PyProof.Rows.mod_int' h.1 (hK.here R.tok (.int _ _) h.2)
def DK:ao:=wg (zZ fun a b sg Q=>b≠0∧Builtin.divisionGoesByPylong a b=false∧Q (.int (a.fdiv b)) sg)
theorem vC:dm W (two (binaryOp .FloorDiv)) DK:=m9 fun R h hK=>PyProof.Rows.floordiv_int h.1 (hK.here R.tok (.int _ _) h.2.2) (.inl h.2.1)
def wC:ao:=Ex fun c sg Q=>CO (fun a=>Q (.int (-a)) sg) c
theorem nb:dm W (one (unaryOp .USub)) wC:=Im fun {X F rho sg s v c Q K E} R r h hK=>by
 apply r.int_ h;intro a x h;exact PyProof.Rows.neg_int (hK.here R.tok (.int _ _) h)
def Kv(Q:CV→Sg→Prop)(b:Bool)(sg:Sg):Prop:=Q (.bool (!b)) sg
def GG:ao:=Ex fun c sg Q=>Dh (kM sg c) (Kv Q) sg
theorem AX:dm W (one (unaryOp .Not)) GG:=Im fun {X F rho sg s v c Q K E} R r h hK=>by
 obtain⟨b,hb,hq⟩:=h;exact not_of (jy R r hb fun tk=>hK.here R.tok (.bool _) hq)
def Ab:ao:=wg (zZ fun a b sg Q=>Q (.bool (decide (a<b))) sg)
theorem jU:dm W (two (compareOp .Lt)) Ab:=m9 fun R h hK=>PyProof.Rows.lt_int (hK.here R (.bool _) h)
def CZ:ao:=wg (zZ fun a b sg Q=>Q (.bool (decide (a≤b))) sg)
theorem ol:dm W (two (compareOp .LtE)) CZ:=m9 fun R h hK=>P.le_int (hK.here R (.bool _) h)
def BP:ao:=wg (zZ fun a b sg Q=>Q (.bool (decide (a>b))) sg)
theorem q5:dm W (two (compareOp .Gt)) BP:=m9 fun R h hK=>P.gt_int (hK.here R (.bool _) h)
def GE:ao:=wg (zZ fun a b sg Q=>Q (.bool (decide (a≥b))) sg)
theorem uN:dm W (two (compareOp .GtE)) GE:=m9 fun R h hK=>P.ge_int (hK.here R (.bool _) h)
noncomputable def isNone:CV→Bool
 | .none=>true
 |_=>false
theorem wK{v:Value}{c:CV}(h:bC W F v c):(v==Value.none)=isNone c:=by cases h<;>rfl
def K7(p:Prop):CV→Prop| .none=>p|_=>False
theorem bC.none_{p:Prop}{v:Value}{c:CV}{Z:Value→Prop}(r:bC W F v c)(h:K7 p c)(k:p→Z .none):Z v:=by cases c with|none=>exact r.onNone (k h)|_=>exact h.elim
def rZ:ao:=wg fun c d sg Q=>K7 (Q (.bool (isNone c)) sg) d
theorem e_:dm W (two (compareOp .Is)) rZ:=tC fun {X F rho sg s v c u d Q K E} R r1 r2 h hK=>by
 apply r2.none_ h;intro h;exact is_none_gen (hK.here R (wK r1▸.bool _) h)
def oA:ao:=wg fun c d sg Q=>K7 (Q (.bool (!isNone c)) sg) d
theorem lP:dm W (two (compareOp .IsNot)) oA:=tC fun {X F rho sg s v c u d Q K E} R r1 r2 h hK=>by
 apply r2.none_ h;intro h;exact isnot_none_gen (hK.here R (wK r1▸.bool _) h)
def JB(q:PE)(rho:bp)(Q:CV→Sg→Prop)(c:CV)(b:Bool)(sg1:Sg):Prop:=Dd b (q rho sg1 Q) (Q c sg1)
def KV(q:PE)(rho:bp)(Q:CV→Sg→Prop)(c:CV)(b:Bool)(sg1:Sg):Prop:=Dd b (Q c sg1) (q rho sg1 Q)
def IF(q:PE)(rho:bp)(Q:CV→Sg→Prop)(c:CV)(sg1:Sg):Prop:=Dh (kM sg1 c) (JB q rho Q c) sg1
def LP(q:PE)(rho:bp)(Q:CV→Sg→Prop)(c:CV)(sg1:Sg):Prop:=Dh (kM sg1 c) (KV q rho Q c) sg1
def EL(p q:PE):PE:=fun rho sg Q=>p rho sg (IF q rho Q)
def L2(p q:PE):PE:=fun rho sg Q=>p rho sg (LP q rho Q)
theorem rk{op:BoolOp}{e:Expr}{pos:Pos}{p:PE}(h:cQ W X e p):cQ W X (.BoolOp op [e] pos) p:= .of fun rho sg Q E hp F s K R hK=>BoolOp_one (h.go hp R hK)
theorem rj{e1 e2:Expr}{rest:List Expr}{pos:Pos}{p q:PE}(h1:cQ W X e1 p)(h2:cQ W X (.BoolOp .And (e2::rest) pos) q):cQ W X (.BoolOp .And (e1::e2::rest) pos) (EL p q):= .of fun rho sg Q E hp F s K R hK=>
 BoolOp_and (h1.go hp R fun G v c sg1 s1 le1 R1 r1 ⟨b,hb,ht,hf⟩=>jy R1 r1 hb fun tk=>by
  cases b with
  |true=>exact h2.go (ht rfl) R1.tok fun G2 v c sg2 s2 le2 R2 r2 h'=>hK G2 _ _ _ _ (le1.trans le2) R2 r2 h'
  |false=>exact hK G _ _ _ _ le1 R1.tok r1 (hf rfl))
theorem Je{e1 e2:Expr}{rest:List Expr}{pos:Pos}{p q:PE}(h1:cQ W X e1 p)(h2:cQ W X (.BoolOp .Or (e2::rest) pos) q):cQ W X (.BoolOp .Or (e1::e2::rest) pos) (L2 p q):= .of fun rho sg Q E hp F s K R hK=>
 BoolOp_or (h1.go hp R fun G v c sg1 s1 le1 R1 r1 ⟨b,hb,ht,hf⟩=>jy R1 r1 hb fun tk=>by
  cases b with
  |true=>exact hK G _ _ _ _ le1 R1.tok r1 (ht rfl)
  |false=>exact h2.go (hf rfl) R1.tok fun G2 v c sg2 s2 le2 R2 r2 h'=>hK G2 _ _ _ _ (le1.trans le2) R2 r2 h')
end
noncomputable def pd(c:CV):PyData:=CV.rec (motive_1:=fun O=>PyData) (motive_2:=fun O=>List PyData) (motive_3:=fun O=>Unit) (motive_4:=fun O=>Unit) (motive_5:=fun O=>Unit) (motive_6:=fun O=>Unit) .none .bool .int .str (fun O=> .dict []) (fun O=> .dict []) (fun O=> .tuple) (fun O=> .list) (fun O O=> .dict []) (fun O O=> .dict []) (fun O O O=> .dict []) [] (fun O O=>List.cons) () (fun O O O O=>()) () (fun O O O O=>()) (fun O O O=>()) (fun O O O=>()) c
noncomputable def GT(c:List CV):List PyData:=CV.rec_1 (motive_1:=fun O=>PyData) (motive_2:=fun O=>List PyData) (motive_3:=fun O=>Unit) (motive_4:=fun O=>Unit) (motive_5:=fun O=>Unit) (motive_6:=fun O=>Unit) .none .bool .int .str (fun O=> .dict []) (fun O=> .dict []) (fun O=> .tuple) (fun O=> .list) (fun O O=> .dict []) (fun O O=> .dict []) (fun O O O=> .dict []) [] (fun O O=>List.cons) () (fun O O O O=>()) () (fun O O O O=>()) (fun O O O=>()) (fun O O O=>()) c
section
variable {W:Wd}{X:FX}{F:Fz}{rho:bp}{sg:Sg}{s:Shared}
def Rd(h:Heap)(v:Value)(d:PyData):Prop:=PyData.canLay0 d=true→∃as,Reads h v d as
def Ld(h:Heap)(v:List Value)(d:List PyData):Prop:=PyData.canLayAll0 d=true→∃as,ReadsAll h v d as
theorem BI{h:Heap}{v:Value}{d:PyData}(e:PyData.canLay0 d=false):Rd h v d:=fun q=>absurd q (Bool.eq_false_iff.mp e)
theorem Gs{h:Heap}{v:Value}{d:PyData}{vs:List Value}{ds:List PyData}(x:Rd h v d)(y:Ld h vs ds):Ld h (v::vs) (d::ds):=fun e=>by
 rw[PyData.canLayAll0,Bool.and_eq_true]at e;obtain⟨as,r⟩:=x e.1;obtain⟨bs,r'⟩:=y e.2;exact⟨_,.cons r r'⟩
theorem bC.reads{h:Heap}(fz:∀a o,F a=some o→h.get? a=some o){v:Value}{c:CV}(r:bC W F v c):PyData.canLay0 (pd c)=true→∃as,Reads h v (pd c) as:=
 have no:PyData.canLay0 (.dict [])=false:=rfl
 bC.rec (motive_1:=fun v c O=>Rd h v (pd c)) (motive_2:=fun v c O=>Ld h v (GT c)) (motive_3:=fun O O O=>True) (motive_4:=fun O O O=>True) (motive_5:=fun O O O=>True)
  (fun O=>⟨_,.none⟩) (fun b O=>⟨_,.bool b⟩) (fun i t O=>⟨_,.int i t⟩) (fun x t O=>⟨_,.str x t⟩) (fun O O=>BI no) (fun O=>BI no)
  (fun h1 h2 h3 O ih e=>by
   rw[show pd _= .tuple _ from rfl,PyData.canLay0]at e
   obtain⟨as,r⟩:=ih e;exact⟨_,.tuple (fz _ _ h1) h2 h3 r⟩)
  (fun h1 O ih e=>by
   rw[show pd _= .list _ from rfl,PyData.canLay0]at e
   obtain⟨as,r⟩:=ih e;exact⟨_,.list (fz _ _ h1) rfl rfl r⟩)
  (fun O O O O O=>BI no) (fun O O O O O=>BI no) (fun O O O O=>BI no)
  (fun O=>⟨_,.nil⟩) (fun O O x y=>Gs x y) trivial (fun O O O O=>trivial) trivial (fun O O O O=>trivial) trivial (fun O O O O=>trivial) r
theorem Iy:X.A.units+64<cLine:=Nat.lt_of_le_of_lt (Nat.add_le_add_right (I0 X.hu) 64) (by decide)
theorem tc:X.A.units<cLine:=Nat.lt_of_le_of_lt (I0 X.hu) (by decide)
theorem hH{a:Addr}(h:a≠sysModules):(a==sysModules)=false:=beq_eq_false_iff_ne.mpr h
def Dt(sg:Sg)(Q:Bool→Prop):CV→Prop
 | .lst l=>l.length≤1000∧Q l.isEmpty
 | .ref a=>∃l,(a,MO.lst l)∈sg∧l.length≤1000∧Q l.isEmpty
 |_=>False
def vE(sg:Sg)(Q:Bool→Prop):CV→Prop
 | .sd l=>Q l.isEmpty
 | .ref a=>∃l,(a,MO.sd l)∈sg∧Q l.isEmpty
 |_=>False
theorem Cn(R:bc W X F rho sg s){v:Value}{c:CV}(r:bC W F v c){Q:Bool→Prop}(h:Dt sg Q c){Z:Value→Prop}(k:∀a vs l,s.heap.IsList a (List.toArray vs)→b6 W F vs l→Q l.isEmpty→Z (.ref a)):Z v:=by
 cases c with
 |lst l=>exact r.onLst fun a vs n e v=>k a vs l ⟨_,R.fz _ _ e,rfl,_,rfl⟩ v h.2
 |ref a=>
  refine el13 h fun l hm hl hq=> ?_;refine el22 (R.mo _ hm) fun vs1 n e1 v1=> ?_;exact r.onRef (k a vs1 l ⟨_,e1,rfl,_,rfl⟩ v1 hq)
 |_=>exact h.elim
theorem tF(R:bc W X F rho sg s){v:Value}{c:CV}(r:bC W F v c){Q:Bool→Prop}(h:vE sg Q c){Z:Value→Prop}(k:∀a kvs l,(a==sysModules)=false→s.heap.DictOf (strKind W.prog W.w) a kvs→uc W F kvs l→Q l.isEmpty→Z (.ref a)):Z v:=by
 cases c with
 |sd l=>exact r.onSd fun a o kvs e n d v=>k a kvs l (hH n) (Heap.dictOf_iff.mpr ⟨_,R.fz _ _ e,d⟩) v h
 |ref a=>
  refine el12 h fun l hm hq=> ?_;obtain⟨n1,o,kvs,e1,d1,v1⟩:=R.mo _ hm;exact r.onRef (k a kvs l (hH n1) (Heap.dictOf_iff.mpr ⟨_,e1,d1⟩) v1 hq)
 |_=>exact h.elim
def Dl(sg:Sg)(Q:CV→Sg→Prop)(b:Bool):Prop:=Q (.bool b) sg
def Gf(sg:Sg)(Q:CV→Sg→Prop)(b:Bool):Prop:=Q (.bool (!b)) sg
def L5(c d:CV)(p:Prop):Prop:=SeqAt.shaped (pd c)=true∧SeqAt.shaped (pd d)=true∧p
def Ln(f:Int→Prop)(g:Prop)(c:CV):Prop:=match c with| .int i=>f i|_=>g
def Lo(f:Str→Prop)(g:Prop)(c:CV):Prop:=match c with| .str i=>f i|_=>g
def Lm(f:Bool→Prop)(g:Prop)(c:CV):Prop:=match c with| .bool i=>f i|_=>g
theorem Fw{f:Int→Prop}{g:Prop}{v:Value}{c:CV}(r:bC W F v c)(h:Ln f g c){Z:Value→Prop}(k1:∀i t,f i→Z (.int i t))(k2:g→Z v):Z v:=by cases c with|int i=>exact r.onInt fun t=>k1 i t h|_=>exact k2 h
theorem Fx{f:Str→Prop}{g:Prop}{v:Value}{c:CV}(r:bC W F v c)(h:Lo f g c){Z:Value→Prop}(k1:∀i t,f i→Z (.str i t))(k2:g→Z v):Z v:=by cases c with|str i=>exact r.onStr fun t=>k1 i t h|_=>exact k2 h
theorem Fv{f:Bool→Prop}{g:Prop}{v:Value}{c:CV}(r:bC W F v c)(h:Lm f g c){Z:Value→Prop}(k1:∀i,f i→Z (.bool i))(k2:g→Z v):Z v:=by cases c with|bool i=>exact r.onBool (k1 i h)|_=>exact k2 h
def bo(sg:Sg)(Q:CV→Sg→Prop)(n:Bool)(b:Bool):Prop:=match n with|false=>Q (.bool b) sg|true=>Q (.bool (!b)) sg
def oZ(sg:Sg)(Q:CV→Sg→Prop)(n:Bool)(c d:CV):Prop:=L5 c d (bo sg Q n (PyData.eqv (pd c) (pd d)))
def KG:Hc:=fun c d sg Q=>match d with
 | .int b=>Ln (fun a=>Q (.bool (a==b)) sg) (oZ sg Q false c d) c
 | .str b=>Lo (fun a=>Q (.bool (a==b)) sg) (oZ sg Q false c d) c
 | .bool b=>Lm (fun a=>Q (.bool (a==b)) sg) (oZ sg Q false c d) c
 | .lst []=>Dt sg (Dl sg Q) c
 | .tup []=>Kx (fun l=>Q (.bool l.isEmpty) sg) c
 | .sd []=>vE sg (Dl sg Q) c
 |d=>oZ sg Q false c d
def eG:ao:=wg KG
theorem dv{vs:List Value}{l:List CV}(h:b6 W F vs l):vs.toArray.size=l.length:=by rw[List.size_toArray,h.length]
theorem FA(R:bc W X F rho sg s){a b:Addr}{vs:List Value}{l:List CV}(ha:s.heap.IsList a vs.toArray)(hv:b6 W F vs l)(hb:s.heap.IsList b #[]){Q E:Value→Shared→Prop}(h:Q (.bool l.isEmpty) s):wpAny (model W.prog W.w) X.A (compareOp .Eq (.ref a) (.ref b)) Q E s:=by
 have hz:=dv hv;cases l with
 |nil=>exact SeqAt.eq_listAt (e:=fun O=>true) ha hb hz tc (fun j h1 h2=>absurd h2 (Nat.not_lt_zero j)) (by rw[hz];exact h)
 |cons c cs=>exact SeqAt.eq_list_lengthsAt ha hb (by rw[hz];exact rfl) tc h
theorem wz{vs:List (Str×Value)}{l:List (Str×CV)}(h:uc W F vs l):(vs.length==([]:List (Str×Value)).length&&true)=l.isEmpty:=by cases h<;>rfl
theorem EJ{vs:List Value}{l:List CV}(h:b6 W F vs l):((List.range (min vs.toArray.size (List.toArray ([]:List Value)).size)).all (fun O=>true)&&vs.toArray.size==(List.toArray ([]:List Value)).size)=l.isEmpty:=by rw[dv h];cases l<;>simp
theorem qe{c d:CV}{v u:Value}{Q:CV→Sg→Prop}{K E:Value→Shared→Prop}(R:bc W X F rho sg s)(r1:bC W F v c)(r2:bC W F u d)(h:oZ sg Q false c d)(hK:sb W X F rho Q K):wpAny (model W.prog W.w) X.A (compareOp .Eq v u) K E s:=by
 refine dp fun C_ k_=> ?_;obtain⟨_,q1⟩:=r1.reads R.fz (SeqAt.canLay_of_shaped h.1);obtain⟨_,q2⟩:=r2.reads R.fz (SeqAt.canLay_of_shaped h.2.1);refine k_ ?_;exact SeqAt.compareEq_shaped q1 q2 h.1 h.2.1 Iy (hK.here R (.bool _) h.2.2)
theorem zR{c d:CV}{v u:Value}{Q:CV→Sg→Prop}{K E:Value→Shared→Prop}(R:bc W X F rho sg s)(r1:bC W F v c)(r2:bC W F u d)(h:oZ sg Q true c d)(hK:sb W X F rho Q K):wpAny (model W.prog W.w) X.A (compareOp .NotEq v u) K E s:=by
 refine dp fun C_ k_=> ?_;obtain⟨_,q1⟩:=r1.reads R.fz (SeqAt.canLay_of_shaped h.1);obtain⟨_,q2⟩:=r2.reads R.fz (SeqAt.canLay_of_shaped h.2.1);refine k_ ?_;exact SeqAt.compareNe_shaped q1 q2 h.1 h.2.1 Iy (hK.here R (.bool _) h.2.2)
theorem bt:dm W (two (compareOp .Eq)) eG:=tC fun {X F rho sg s v c u d Q K E} R r1 r2 h hK=>by
 cases d with
 |int b=>
  apply Fw r1 h
  ·intro a x h;apply r2.onInt;intro y;exact PyProof.Rows.eq_int (hK.here R (.bool _) h)
  ·exact fun h=>qe R r1 r2 h hK
 |str b=>
  apply Fx r1 h
  ·intro a x h;apply r2.onStr;intro y;exact PyProof.Rows.eq_str (hK.here R (.bool _) h)
  ·exact fun h=>qe R r1 r2 h hK
 |bool b=>
  apply Fv r1 h
  ·intro a h;apply r2.onBool;exact PyProof.Rows.eq_bool (hK.here R (.bool _) h)
  ·exact fun h=>qe R r1 r2 h hK
 |lst l=>cases l with
  |nil=>
   apply Cn R r1 (Q:=Dl sg Q) h;intro a vs l il v hq;apply r2.onLst;intro b vs2 n2 e2 v2;revert e2;refine v2.onNil fun e2=> ?_;exact FA R il v ⟨_,R.fz _ _ e2,rfl,_,rfl⟩ (hK.here R (.bool _) hq)
  |cons=>exact qe R r1 r2 h hK
 |tup l=>cases l with
  |nil=>
   apply r1.tup_ h;intro l a o vs n h e1 c1 d1 v1;apply r2.onTup;intro b o2 vs2 n2 e2 c2 d2 v2;revert d2;refine v2.onNil fun d2=> ?_;refine SeqAt.eq_tupleAt (e:=fun O=>true) (kP R e1 c1 d1) (kP R e2 c2 d2) tc (fun j h1 h2=>absurd h2 (Nat.not_lt_zero j)) ?_;rw[EJ v1];exact hK.here R (.bool _) h
  |cons=>exact qe R r1 r2 h hK
 |sd l=>cases l with
  |nil=>
   apply tF R r1 (Q:=Dl sg Q) h;intro a kvs l n1 d1 v1 hq;apply r2.onSd;intro b o2 kvs2 e2 n2 d2 v2;cases v2;refine keq_eq (r:=true) n1 (hH n2) d1 (Heap.dictOf_iff.mpr ⟨_,R.fz _ _ e2,d2⟩) tc (fun h=> ?_) (hK.here R ?_ hq)
   ·rw[List.length_eq_zero_iff.mp h];exact .nil
   ·rw[wz v1];exact .bool _
  |cons=>exact qe R r1 r2 h hK
 |_=>exact qe R r1 r2 h hK
def LF(sg:Sg)(Q:CV→Sg→Prop)(c:CV):List (Str×CV)→Prop
 |[]=>vE sg (Gf sg Q) c
 |p::r=>r=[]∧CO (fun j=>LH (fun l=>∃i,l=[(p.1,.int i)]∧Q (.bool (i !=j)) sg) c) p.2
def KH:Hc:=fun c d sg Q=>match d with
 | .int b=>Ln (fun a=>Q (.bool (a !=b)) sg) (oZ sg Q true c d) c
 | .str b=>Lo (fun a=>Q (.bool (a !=b)) sg) (oZ sg Q true c d) c
 | .bool b=>Lm (fun a=>Q (.bool (a !=b)) sg) (oZ sg Q true c d) c
 | .byt b=>∃a,c= .byt a∧Q (.bool (a.toList !=b.toList)) sg
 | .sd l=>LF sg Q c l
 |d=>oZ sg Q true c d
def lZ:ao:=wg KH
theorem dl:dm W (two (compareOp .NotEq)) lZ:=tC fun {X F rho sg s v c u d Q K E} R r1 r2 h hK=>by
 cases d with
 |int b=>
  apply Fw r1 h
  ·intro a x h;apply r2.onInt;intro y;exact PyProof.Rows.ne_int (hK.here R (.bool _) h)
  ·exact fun h=>zR R r1 r2 h hK
 |str b=>
  apply Fx r1 h
  ·intro a x h;apply r2.onStr;intro y;exact PyProof.Rows.ne_str (hK.here R (.bool _) h)
  ·exact fun h=>zR R r1 r2 h hK
 |bool b=>
  apply Fv r1 h
  ·intro a h;apply r2.onBool;exact PyProof.Rows.ne_bool (hK.here R (.bool _) h)
  ·exact fun h=>zR R r1 r2 h hK
 |byt b=>
  refine dp fun C_ k_=> ?_;obtain⟨a,rfl,h⟩:=h;refine k_ ?_;apply r1.onByt;intro t;apply r2.onByt;intro t;exact PySem.W.ne_bytes (hK.here R (.bool _) h)
 |sd l=>
  apply r2.onSd;intro b o2 kvs2 e2 n2 d2 v2;have dd:=Heap.dictOf_iff.mpr ⟨_,R.fz _ _ e2,d2⟩;cases v2 with
  |nil=>
   apply tF R r1 (Q:=Gf sg Q) h;intro a kvs l n1 d1 v1 hq;refine keq_ne (r:=true) n1 (hH n2) d1 dd tc (fun h=> ?_) (hK.here R ?_ hq)
   ·rw[List.length_eq_zero_iff.mp h];exact .nil
   ·rw[wz v1];exact .bool _
  | @cons y v c2 _ _ w2 v2=>
   obtain⟨rfl,h⟩:=h;revert dd d2;apply w2.int_ h;intro j t h d2 dd;apply r1.sd_ h;rintro _ a o kvs ⟨i,rfl,hq⟩ e1 n1 d1 v1;cases v2;cases v1 with|cons w1 v1=>
   cases v1;obtain⟨_⟩:=(w1.inv:DR _ _);refine keq_ne (r:=(i==j)&&true) (hH n1) (hH n2) (Heap.dictOf_iff.mpr ⟨_,R.fz _ _ e1,d1⟩) dd tc (fun h=> .hit (by simp[valueAt];rfl) (SeqAt.EqAt.int_int _ _ _ _) .nil) (hK.here R ?_ hq)
   show bC _ _ (.bool (!(true&&((i==j)&&true)))) _;rw[Bool.and_true,Bool.true_and];exact .bool _
 |_=>exact zR R r1 r2 h hK
end
noncomputable def bk{K V:Type}[DecidableEq K](k:K)(c:V):List (K×V)→List (K×V)
 |[]=>[(k,c)]
 |p::r=>if p.1=k then(k,c)::r else p::bk k c r
theorem yw{K V:Type}[DecidableEq K](k:K)(c:V):∀l:List (K×V),(bk k c l).map (·.1)=if k∈l.map (·.1)then l.map (·.1)else l.map (·.1)++[k]
 |[]=>rfl
 |p::r=>by
  unfold bk;by_cases h:p.1=k
  ·subst h;simp
  ·have h':¬k=p.1:=fun e=>h e.symm;rw[if_neg h];simp only[List.map_cons,yw k c r,List.mem_cons,h',false_or];split<;>simp
theorem j_{K:Type}[DecidableEq K](k:K)(v:Value):∀kvs:List (K×Value),(kvs.map (·.1)).Nodup→stored kvs k v=bk k v kvs
 |[],_=>rfl
 |p::r,h=>by
  have h1:=(List.nodup_cons.mp h).1;have ih:=j_ k v r (List.nodup_cons.mp h).2;unfold bk;by_cases e:p.1=k
  ·subst e;have nr:∀q∈r,¬q.1=p.1:=fun q hq z=>h1 (List.mem_map.mpr ⟨q,hq,z⟩);have:r.map (fun kv=>if kv.1=p.1 then(kv.1,v)else kv)=r:=by
    rw[List.map_congr_left (g:=id) fun q hq=>by rw[if_neg (nr q hq)];rfl];simp
   simp[stored,this]
  ·rw[if_neg e,←ih];unfold stored;by_cases hr:(r.any fun kv=>decide (kv.1=k))=true
   ·simp[hr,e]
   ·simp[hr,e]
section
variable {W:Wd}{X:FX}{F:Fz}{rho:bp}{sg:Sg}{s:Shared}
theorem mx.put{K β:Type}[DecidableEq K]{R:Value→β→Prop}{k:K}{v:Value}{c:β}(hv:R v c){kvs:List (K×Value)}{l:List (K×β)}(h:mx R kvs l):mx R (bk k v kvs) (bk k c l):=by
 induction h with
 |nil=>exact .cons hv .nil
 | @cons k' _ _ _ _ h r ih=>
  unfold bk;by_cases e:k'=k
  ·rw[if_pos e,if_pos e];exact .cons hv r
  ·rw[if_neg e,if_neg e];exact .cons h ih
noncomputable def mB{K V:Type}[DecidableEq K](k:K)(l:List (K×V)):List (K×V):=l.filter fun p=>decide (p.1≠k)
theorem mx.del{K β:Type}[DecidableEq K]{R:Value→β→Prop}{k:K}{kvs:List (K×Value)}{l:List (K×β)}(h:mx R kvs l):mx R (without kvs k) (mB k l):=by
 induction h with
 |nil=>exact .nil
 | @cons k' _ _ _ _ h r ih=>
  unfold without mB;by_cases e:k'=k
  ·rw[List.filter_cons_of_neg (by simpa using e),List.filter_cons_of_neg (by simpa using e)];exact ih
  ·rw[List.filter_cons_of_pos (by simpa using e),List.filter_cons_of_pos (by simpa using e)];exact .cons h ih
def Es(sg:Sg):CV→List CV→Prop
 | .lst m,l=>l=m
 | .ref a,l=>(a,MO.lst l)∈sg
 |_,_=>False
def CY(sg:Sg):CV→List (Str×CV)→Prop
 | .sd m,l=>l=m
 | .ref a,l=>(a,MO.sd l)∈sg
 |_,_=>False
def CK(sg:Sg):CV→List (Int×CV)→Prop
 | .nd m,l=>l=m
 | .ref a,l=>(a,MO.nd l)∈sg
 |_,_=>False
def Jn(sg:Sg):CV→List (List Int×CV)→Prop
 | .ref a,l=>(a,MO.pd l)∈sg
 |_,_=>False
noncomputable def bZ(l:List Int):List CV:=l.map .int
theorem bc.lsOf(R:bc W X F rho sg s){v:Value}{c:CV}{l:List CV}(hv:bC W F v c)(h:Es sg c l){Z:Value→Prop}(k:∀a vs n,s.heap.get? a=some (PySem.W.listOf (List.toArray vs) n)→b6 W F vs l→Z (.ref a)):Z v:=by
 cases c with
 |lst m=>cases h;exact hv.onLst fun a vs n e r=>k a vs n (R.fz _ _ e) r
 |ref a=>obtain⟨vs,n,e,r⟩:=R.mo _ h;exact hv.onRef (k a vs n e r)
 |_=>exact h.elim
theorem bc.sdOf(R:bc W X F rho sg s){v:Value}{c:CV}{l:List (Str×CV)}(hv:bC W F v c)(h:CY sg c l){Z:Value→Prop}(k:∀a kvs,(a==sysModules)=false→s.heap.DictOf (strKind W.prog W.w) a kvs→uc W F kvs l→Z (.ref a)):Z v:=by
 cases c with
 |sd m=>cases h;exact hv.onSd fun a o kvs e n d r=>k a kvs (hH n) (Heap.dictOf_iff.mpr ⟨_,R.fz _ _ e,d⟩) r
 |ref a=>obtain⟨n,o,kvs,e,d,r⟩:=R.mo _ h;exact hv.onRef (k a kvs (hH n) (Heap.dictOf_iff.mpr ⟨_,e,d⟩) r)
 |_=>exact h.elim
theorem bc.ndOf(R:bc W X F rho sg s){v:Value}{c:CV}{l:List (Int×CV)}(hv:bC W F v c)(h:CK sg c l){Z:Value→Prop}(k:∀a kvs,(a==sysModules)=false→s.heap.DictOf (intKind W.prog W.w) a kvs→As W F kvs l→Z (.ref a)):Z v:=by
 cases c with
 |nd m=>cases h;exact hv.onNd fun a o kvs e n d r=>k a kvs (hH n) (Heap.dictOf_iff.mpr ⟨_,R.fz _ _ e,d⟩) r
 |ref a=>obtain⟨n,o,kvs,e,d,r⟩:=R.mo _ h;exact hv.onRef (k a kvs (hH n) (Heap.dictOf_iff.mpr ⟨_,e,d⟩) r)
 |_=>exact h.elim
theorem bc.pdOf(R:bc W X F rho sg s){v:Value}{c:CV}{l:List (List Int×CV)}(hv:bC W F v c)(h:Jn sg c l){Z:Value→Prop}(k:∀a xs,(a==sysModules)=false→s.heap.DictOfH (tupleKind (intKind W.prog W.w)) a xs→lE W F xs l→Z (.ref a)):Z v:=by
 cases c with
 |ref a=>obtain⟨n,xs,e,r⟩:=R.mo _ h;exact hv.onRef (k a xs (hH n) e r)
 |_=>exact h.elim
theorem l7{k:Str}{t:Tok}:(strKind W.prog W.w).is k (.str k t)=true:=by simp[PySem.strKind,Value.isStrOf]
theorem qi{k:Int}{t:Tok}:(intKind W.prog W.w).is k (.int k t)=true:=by simp[PySem.intKind,Value.isInt]
theorem EK:∀{ks:List Int} {vs:List Value},b6 W F vs (bZ ks)→ItemsAre (intKind W.prog W.w) ks vs:=by
 intro ks;induction ks with
 |nil=>intro vs h;exact h.onNil .nil
 |cons k ks ih=>
  intro vs h;refine h.onCons fun v r h t=> ?_;apply h.onInt;intro u;exact .cons qi (ih t)
theorem C5{v:Value}{ks:List Int}(h:bC W F v (.tup (bZ ks))){Z:Value→Prop}(k:∀a,(∀g:Heap,(∀b o,F b=some o→g.get? b=some o)→IsTupleKey (intKind W.prog W.w) g ks a)→Z (.ref a)):Z v:=
 h.onTup fun a o vs n e c d r=>k a fun g hg=>⟨_,_,_,hg _ _ e,c,d,EK r⟩
theorem lE.length{xs l}(h:lE W F xs l):xs.length=l.length:=by
 induction h with
 |nil=>exact rfl
 |cons _ _ _ ih=>exact congrArg (·+1) ih
theorem lE.find{xs l}(h:lE W F xs l)(ks:List Int):(∃p c,atKey xs ks=some p∧l.lookup ks=some c∧bC W F p.2 c)∨(atKey xs ks=none∧l.lookup ks=none):=by
 induction h with
 |nil=>exact .inr ⟨rfl,rfl⟩
 | @cons k a v c _ _ h0 hv t ih=>
  by_cases e:k=ks
  ·subst e;exact .inl ⟨(a,v),c,by simp[atKey],by simp[List.lookup_cons],hv⟩
  ·unfold atKey;rw[List.lookup_cons,show(ks==k)=false from beq_eq_false_iff_ne.mpr fun q=>e q.symm,List.find?_cons_of_neg (by simpa using e)]
   exact ih
theorem lE.isSome{xs l}(h:lE W F xs l)(ks:List Int):(atKey xs ks).isSome=(l.lookup ks).isSome:=by
 rcases h.find ks with⟨v,c',e1,e2,r⟩|⟨e1,e2⟩
 ·rw[e1,e2];rfl
 ·rw[e1,e2];rfl
theorem DH{k:List Int}:(tupleKind (intKind W.prog W.w)).room X.A.in1:=Nat.lt_of_le_of_lt (Nat.add_le_add_right (I0 X.hu) 1) (by decide)
noncomputable def Hh(x:Str):List CV→Option Bool
 |[]=>some false
 | .str y::r=>(Hh x r).map fun b=>y==x||b
 |_=>none
inductive JT(sg:Sg)(d:CV)(x:Str)(b:Bool):Prop
 |mk (l:List (Str×CV)):CY sg d l→b=(l.lookup x).isSome→JT sg d x b
inductive JW(d:CV)(x:Str)(b:Bool):Prop
 |mk (l:List CV):d= .tup l→Hh x l=some b→JW d x b
inductive JU(sg:Sg)(d:CV)(i:Int)(b:Bool):Prop
 |mk (l:List (Int×CV)):CK sg d l→b=(l.lookup i).isSome→JU sg d i b
inductive JV(sg:Sg)(d:CV)(t:List CV)(b:Bool):Prop
 |mk (ks:List Int) (l:List (List Int×CV)):t=bZ ks→Jn sg d l→b=(l.lookup ks).isSome→JV sg d t b
def Jc(sg:Sg)(k d:CV)(b:Bool):Prop:=match k with
 | .str x=>JT sg d x b∨JW d x b
 | .int i=>JU sg d i b
 | .tup t=>JV sg d t b
 |_=>False
def bK(Q:CV→Sg→Prop)(b:Bool)(sg:Sg):Prop:=Q (.bool b) sg
def BQ:ao:=wg fun k d sg Q=>Dh (Jc sg k d) (bK Q) sg
def oB:ao:=wg fun k d sg Q=>Dh (Jc sg k d) (Kv Q) sg
theorem C3{x:Str}:∀{l:List CV} {vs:List Value} {b:Bool},b6 W F vs l→Hh x l=some b→∃ys,StrsAre vs ys∧ys.any (·==x)=b:=by
 intro l;induction l with
 |nil=>intro vs b h e;exact h.onNil ⟨[],.nil,Option.some.inj e⟩
 |cons c cs ih=>
  intro vs b h e;refine h.onCons fun v r hv t=> ?_;cases c with
  |str y=>
   apply hv.onStr;intro u;have e:(Hh x cs).map (fun b=>y==x||b)=some b:=e;obtain⟨b',q,e⟩:=Option.map_eq_some_iff.mp e;refine el12 (ih t q) fun ys hy z=> ?_;exact⟨y::ys,.cons _ _ hy,by rw[List.any_cons,z];exact e⟩
  |_=>exact ns e
def La(W:Wd)(X:FX)(s:Shared)(b:Bool)(v u:Value):Prop:=∀(K E:Value→Shared→Prop),
 ((∀tk,K (.bool b) {s with toks:=tk})→wpAny (model W.prog W.w) X.A (compareOp .In v u) K E s)∧((∀tk,K (.bool (!b)) {s with toks:=tk})→wpAny (model W.prog W.w) X.A (compareOp .NotIn v u) K E s)
theorem Iv(R:bc W X F rho sg s){k d:CV}{v u:Value}{b:Bool}(h1:bC W F v k)(h2:bC W F u d)(hb:Jc sg k d b):La W X s b v u:=by
 cases k with
 |str x=>
  apply h1.onStr;intro t;rcases hb with⟨l,hl,e⟩|⟨l,e,hl⟩
  ·apply R.sdOf h2 hl;intro d kvs hs hd r;rw[←r.isSome]at e;subst e;exact fun K E=>⟨fun h=>wpAny_in_of l7 hs hd.mapOf (h _),fun h=>wpAny_notIn_of l7 hs hd.mapOf (h _)⟩
  ·subst e;apply h2.onTup;intro a o vs n e1 c1 d1 v1;obtain⟨ys,hy,rfl⟩:=C3 v1 hl;exact fun K E=>⟨fun h=>in_tuple_strs (kP R e1 c1 d1) hy (h s.toks),fun h=>notin_tuple_strs (kP R e1 c1 d1) hy (h s.toks)⟩
 |int x=>
  apply h1.onInt;intro t;obtain⟨l,hl,e⟩:=hb;apply R.ndOf h2 hl;intro d kvs hs hd r;rw[←r.isSome]at e;subst e;exact fun K E=>⟨fun h=>wpAny_in_of qi hs hd.mapOf (h _),fun h=>wpAny_notIn_of qi hs hd.mapOf (h _)⟩
 |tup ts=>
  obtain⟨ks,l,rfl,hl,e⟩:=hb;apply R.pdOf h2 hl;intro d xs hs hd r;apply C5 h1;intro a hk;rw[←r.isSome]at e;subst e;exact fun K E=>⟨fun h=>wpAny_in_heap (DH (k:=ks)) (hk _ R.fz) hs hd (h _),fun h=>wpAny_notIn_heap (DH (k:=ks)) (hk _ R.fz) hs hd (h _)⟩
 |_=>exact hb.elim
theorem lO:dm W (two (compareOp .In)) BQ:=tC fun R h1 h2 ⟨b,hb,hq⟩ hK=>(Iv R h1 h2 hb _ _).1 fun tk=>hK.here R.tok (.bool _) hq
theorem i8:dm W (two (compareOp .NotIn)) oB:=tC fun R h1 h2 ⟨b,hb,hq⟩ hK=>(Iv R h1 h2 hb _ _).2 fun tk=>hK.here R.tok (.bool _) hq
noncomputable def xX(i:Int)(n:Nat):Option Nat:=if 0≤i then(if i.toNat<n then some i.toNat else none)else if 0≤i+n then some (i+n).toNat else none
inductive J2(sg:Sg)(d:CV)(x:Str)(c:CV):Prop
 |mk (l:List (Str×CV)):CY sg d l→l.lookup x=some c→J2 sg d x c
inductive J0(sg:Sg)(d:CV)(i:Int)(c:CV):Prop
 |mk (l:List (Int×CV)):CK sg d l→l.lookup i=some c→J0 sg d i c
inductive JZ(sg:Sg)(d:CV)(i:Int)(c:CV):Prop
 |mk (l:List CV):Es sg d l→0≤i→small l.length→l[i.toNat]? =some c→JZ sg d i c
inductive J4(d:CV)(i:Int)(c:CV):Prop
 |mk (l:List CV) (j:Nat):d= .tup l→small l.length→xX i l.length=some j→l[j]? =some c→J4 d i c
inductive J3(sg:Sg)(d:CV)(t:List CV)(c:CV):Prop
 |mk (ks:List Int) (l:List (List Int×CV)):t=bZ ks→Jn sg d l→l.lookup ks=some c→J3 sg d t c
def lR(sg:Sg)(d k c:CV):Prop:=match k with
 | .str x=>J2 sg d x c
 | .int i=>J0 sg d i c∨JZ sg d i c∨J4 d i c
 | .tup t=>J3 sg d t c
 |_=>False
def aR:ao:=wg fun d k sg Q=>Dh (lR sg d k) Q sg
theorem Ej{i:Int}{n j:Nat}(h:xX i n=some j):seqIndex? i n=some j∧-(n:Int)≤i∧i<n:=by
 unfold xX at h;unfold seqIndex?;by_cases h0:0≤i
 ·rw[if_pos h0]at h;split at h
  ·cases h;have h1:i<n:=(Int.toNat_lt h0).mp ‹_›;exact⟨seqIndex_of h0 h1,Int.le_trans (Int.neg_nonpos_of_nonneg (Int.natCast_nonneg n)) h0,h1⟩
  ·exact ns h
 ·rw[if_neg h0]at h;split at h
  ·cases h;have h2:=Int.not_le.mp h0;have h1:i+n<n:=by have:=Int.add_lt_add_right h2 n;rwa [Int.zero_add]at this
   refine⟨?_,Int.add_nonneg_iff_neg_le.mp ‹_›,Int.lt_of_lt_of_le h2 (Int.natCast_nonneg n)⟩;show(if _ then _ else _)=_
   rw[if_pos h2,decide_eq_true h1,Bool.and_true];exact if_pos (decide_eq_true ‹_›)
  ·exact ns h
def EV(W:Wd)(X:FX)(s:Shared)(K E:Value→Shared→Prop)(o i:Value):Prop:=(∃T id,s.TypeIs o T∧typeLookup (.type T) "__getitem__"=pure (some (.builtin id)))∧wpAny (model W.prog W.w) X.A (getItem o i) K E s
theorem HB(R:bc W X F rho sg s){d k c:CV}{o i:Value}{Q:CV→Sg→Prop}{K E:Value→Shared→Prop}(h1:bC W F o d)(h2:bC W F i k)(hb:lR sg d k c)(hq:Q c sg)(hK:sb W X F rho Q K):EV W X s K E o i:=by
 cases k with
 |str x=>
  obtain⟨l,hl,hc⟩:=hb;apply h2.onStr;intro t;apply R.sdOf h1 hl;intro d kvs hs hd r;refine el12 (r.at hc) fun v e1 e3=> ?_;exact⟨⟨_,_,hd.mapOf.typeIs,slot_dict_getitem.lookup⟩,wpAny_getItem_of l7 hd.mapOf e1 (hK.here R.tok e3 hq)⟩
 |int x=>
  apply h2.onInt;intro t;rcases hb with⟨l,hl,hc⟩|⟨l,hl,h0,hsm,hc⟩|⟨l,j,e,hsm,hj,hc⟩
  ·apply R.ndOf h1 hl;intro d kvs hs hd r;refine el12 (r.at hc) fun v e1 e3=> ?_;exact⟨⟨_,_,hd.mapOf.typeIs,slot_dict_getitem.lookup⟩,wpAny_getItem_of qi hd.mapOf e1 (hK.here R.tok e3 hq)⟩
  ·apply R.lsOf h1 hl;intro d vs n e r;refine el12 (r.get hc) fun v e1 e3=> ?_;have hlt:=(List.getElem?_eq_some_iff.mp hc).1;exact⟨⟨_,_,⟨_,e,rfl⟩,list_getitem_lookup⟩,wpAny_getItem_list ⟨_,e,rfl,_,rfl⟩ h0 (Hs hsm ((Int.toNat_lt h0).mp hlt)) (by rw[List.getElem?_toArray];exact e1) (hK.here R e3 hq)⟩
  ·subst e;apply h1.onTup;intro a ob vs n e1 c1 d1 v1;refine el12 (v1.get hc) fun v e2 e3=> ?_;refine mC (Ej hj) fun q1 q3 q4=> ?_;have ht:=kP R e1 c1 d1;exact⟨⟨_,_,ht.typeIs,slot_tuple_getitem.lookup⟩,getItem_tuple ht (Int.le_trans (Int.neg_le_neg (Int.le_of_lt (Ls hsm))) q3) (Hs hsm q4) (by rw[dv v1];exact q1) (by rw[List.getElem?_toArray];exact e2) (hK.here R e3 hq)⟩
 |tup ts=>
  obtain⟨ks,l,rfl,hl,hc⟩:=hb;apply R.pdOf h1 hl;intro d xs hs hd r;apply C5 h2;intro a hk;rcases r.find ks with⟨v,c',e1,e2,e3⟩|⟨e1,e2⟩
  ·rw[hc]at e2;cases e2;exact⟨⟨_,_,hd.typeIs,slot_dict_getitem.lookup⟩,wpAny_getItem_heap (DH (k:=ks)) (hk _ R.fz) hd e1 (hK.here R.tok e3 hq)⟩
  ·rw[hc]at e2;exact sn e2
 |_=>exact hb.elim
theorem aD:Ao W aR:=fun X F rho sg s o i cs Q K E R hv hsp hK=>by
 refine zY hsp (P:=fun cs=>b6 W F [o,i] cs→EV W X s K E o i) (fun a b hf hv=> ?_) hv;obtain⟨c,hb,hq⟩:=hf;cases hv with|cons h1 h2=>cases h2 with|cons h2 h3=>exact HB R h1 h2 hb hq hK
end
theorem o7(its:Array Value)(n:Nat)(f:Array Value→Array Value):∃m,Obj.mapSeq f (PySem.W.listOf its n)=PySem.W.listOf (f its) m:=⟨_,rfl⟩
theorem D6{K V:Type}[DecidableEq K](k:K)(l:List (K×V))(h:l.lookup k=none):mB k l=l:=by
 induction l with
 |nil=>rfl
 |cons p r ih=>
  obtain⟨k',v⟩:=p;rw[List.lookup_cons]at h;by_cases e:k=k'
  ·subst e;simp at h
  ·have e1:(k==k')=false:=beq_eq_false_iff_ne.mpr e;rw[e1]at h;unfold mB;rw[List.filter_cons_of_pos (by simp;exact fun q=>e q.symm)]
   exact congrArg _ (ih h)
theorem gv.same{a:Addr}{m m':MO}{sg sg':Sg}(U:gv a m m' sg sg')(h:m=m'):sg'=sg:=by
 subst h;induction U with
 |head=>rfl
 |tail _ ih=>rw[ih]
section
variable {W:Wd}{X:FX}{F:Fz}{rho:bp}{sg sg':Sg}{s:Shared}
theorem b6.snoc_inv{vs:List Value}{l:List CV}{c:CV}(h:b6 W F vs (l++[c])){Z:List Value→Prop}(k:∀us v,b6 W F us l→bC W F v c→Z (us++[v])):Z vs:=by
 have h2:=h.reverse;rw[List.reverse_append]at h2;rw[←List.reverse_reverse vs];revert h2;generalize vs.reverse=z;intro h2;cases h2 with
 |cons hv t=>
  rw[List.reverse_cons];exact k _ _ (List.reverse_reverse l▸t.reverse) hv
theorem bc.setList(R:bc W X F rho sg s){h':Heap}{tk:Nat}{a:Addr}{l l':List CV}{vs:List Value}{n:Nat}(U:gv a (.lst l) (.lst l') sg sg')(hs:Heap.SameBut a s.heap h')(e:h'.get? a=some (PySem.W.listOf vs.toArray n))(hv:b6 W F vs l'):
  bc W X F rho sg' {s with heap:=h',toks:=tk}:=R.upd U rfl (d:=a) (by simp[MO.adrs]) hs ⟨vs,n,e,hv⟩
theorem bc.mlist(R:bc W X F rho sg s){a:Addr}{l l':List CV}(U:gv a (.lst l) (.lst l') sg sg'):∃vs n,s.heap.get? a=some (PySem.W.listOf (List.toArray vs) n)∧b6 W F vs l:=R.mo _ U.sublistMem
theorem bc.mapList(R:bc W X F rho sg s){tk:Nat}{a:Addr}{l l':List CV}{its:Array Value}{vs:List Value}{n:Nat}{f:Array Value→Array Value}(U:gv a (.lst l) (.lst l') sg sg')(e:s.heap.get? a=some (PySem.W.listOf its n))(he:f its=vs.toArray)(hv:b6 W F vs l'):
  bc W X F rho sg' {s with heap:=s.heap.update a (Obj.mapSeq f),toks:=tk}:=by
 have hu:(s.heap.update a (Obj.mapSeq f)).get? a=some (Obj.mapSeq f (PySem.W.listOf its n)):=Heap.get?_update_self _ e rfl;obtain⟨m,hm⟩:=o7 its n f;rw[hm,he]at hu;exact R.setList U (Heap.SameBut.update ..) hu hv
inductive J9(sg:Sg)(Q:CV→Sg→Prop)(a:Addr):Prop
 |mk (l:List CV) (c:CV) (sg2:Sg):gv a (.lst (l++[c])) (.lst l) sg sg2→small (l.length+1)→Q c sg2→J9 sg Q a
def GH:ao:=Ex fun c sg Q=>JK (J9 sg Q) c
theorem AY:dm W (xM (.builtin "list.pop")) GH:=tD fun {X F rho sg s v c Q K E} R h1 hf hK=>by
 apply h1.ref_ hf;rintro a ⟨l,c,sg2,U,hz,hq⟩;refine el22 (R.mlist U) fun vs n e r=> ?_;revert e;apply r.snoc_inv;intro us v ru rv e;have hsz:(us++[v]).toArray.size=us.length+1:=by simp
 refine call_meets PySem.F.slot_list_pop ⟨_,e,rfl⟩ PySem.F.entry_list_pop (PySem.F.args_list_pop_1 _) (MeetsSeq.list_pop_last _ (us++[v]).toArray n v (by rw[hsz];simp) (by rw[hsz,ru.length];exact hz.line)) ⟨e,?_⟩
 refine hK.here (R.mapList (tk:=s.toks) U e ?_ ru) rv hq;rw[hsz];simp[Array.eraseIdxIfInBounds];rw[List.eraseIdx_append_of_length_le (Nat.le_refl _)];simp
inductive GW(c:CV)(sg:Sg)(Q:CV→Sg→Prop)(a:Addr):Prop
 |mk (l:List CV) (sg2:Sg):gv a (.lst l) (.lst (l++[c])) sg sg2→small l.length→Q .none sg2→GW c sg Q a
def dE:ao:=wg fun r c sg Q=>JK (GW c sg Q) r
theorem cc:dm W (xM (.builtin "list.append")) dE:=Ck fun {X F rho sg s v c u d Q K E} R h1 h2 hf hK=>by
 apply h1.ref_ hf;rintro a ⟨l,sg2,U,hz,hq⟩;refine el22 (R.mlist U) fun vs n e r=> ?_;refine append_at e (fun h' hs he=> ?_) (by rw[dv r];exact hz.line)
 rw[List.push_toArray]at he;exact hK.here (R.setList (tk:=s.toks) U hs he (r.append (.cons h2 .nil))) .none hq
inductive JP(m:CV)(sg:Sg)(Q:CV→Sg→Prop)(a:Addr):Prop
 |mk (l k:List CV) (sg2:Sg):Es sg m k→gv a (.lst l) (.lst (l++k)) sg sg2→small (l.length+k.length)→Q .none sg2→JP m sg Q a
def BO:ao:=wg fun r m sg Q=>JK (JP m sg Q) r
theorem AV:dm W (xM (.builtin "list.extend")) BO:=Ck fun {X F rho sg s v c u d Q K E} R h1 h2 hf hK=>by
 apply h1.ref_ hf;rintro a ⟨l,k,sg2,hm,U,hz,hq⟩;refine el22 (R.mlist U) fun vs n e r=> ?_;apply R.lsOf h2 hm;intro b us n2 e2 r2;have z1:=dv r;have z2:=dv r2;have z3:=hz.line;refine call_meets PySem.F.slot_list_extend ⟨_,e,rfl⟩ PySem.F.entry_list_extend (PySem.F.args_list_extend_2 _ _) (AutoSeq1.list_extend_list_list_0 a vs.toArray n b us.toArray n2 ?_ (by rw[z1];exact Nat.le_trans (Nat.le_add_right _ _) z3) (by rw[z1,z2];exact Nat.le_succ_of_le z3)) ⟨e,e2,?_⟩
 ·rw[z1,z2];simp only[Builtin.List.listTooLong];rw[show(decide (l.length+k.length>sizeLine):Bool)=false from decide_eq_false (Nat.not_lt.mpr z3)]
  rw[Bool.and_false];exact Bool.false_ne_true
 exact hK.here (R.mapList (tk:=s.toks) U e (List.append_toArray _ _) (r.append r2)) .none hq
def wf(c:CV)(sg:Sg):Prop:=∃l,Es sg c l
def Ew(c:CV)(sg:Sg):Prop:=(∃l,CY sg c l)∨∃l,CK sg c l
theorem qT{name:Str}{id:String}(slot:Slot "list" name id)(hty:typeOf (.builtin id)=pure (.type "method_descriptor")):wP W name id wf:=fun X F rho sg s v c pl Q E ⟨l,hl⟩ R hv h=>by
 revert h;apply R.lsOf hv hl;intro a vs n e r h;exact getMethod_builtin ⟨_,e,rfl⟩ PySem.F.plainAttrs_list slot hty (fun b q=>by cases q;exact⟨_,e,rfl⟩) h
theorem Do:wP W "pop" "list.pop" wf:=qT PySem.F.slot_list_pop PySem.F.type_list_pop
theorem cG:wP W "append" "list.append" wf:=qT PySem.F.slot_list_append PySem.F.type_list_append
theorem vy:wP W "extend" "list.extend" wf:=qT PySem.F.slot_list_extend PySem.F.type_list_extend
theorem DZ:wP W "index" "list.index" wf:=qT PySem.F.slot_list_index PySem.F.type_list_index
theorem AR{name:Str}{id:String}(slot:Slot "dict" name id)(hty:typeOf (.builtin id)=pure (.type "method_descriptor")):wP W name id Ew:=fun X F rho sg s v c pl Q E ho R hv h=>by
 revert h;rcases ho with⟨l,hl⟩|⟨l,hl⟩
 ·apply R.sdOf hv hl;intro d kvs hs hd r h;exact getMethod_builtin hd.typeIs PySem.F.plainAttrs_dict slot hty hd.mapOf.noDict h
 ·apply R.ndOf hv hl;intro d kvs hs hd r h;exact getMethod_builtin hd.typeIs PySem.F.plainAttrs_dict slot hty hd.mapOf.noDict h
theorem iL:wP W "get" "dict.get" Ew:=AR PySem.F.slot_dict_get PySem.F.type_dict_get
theorem Fd:wP W "pop" "dict.pop" Ew:=AR PySem.F.slot_dict_pop PySem.F.type_dict_pop
inductive IM(d:CV)(sg:Sg)(Q:CV→Sg→Prop)(k:Str):Prop
 |mk (l:List (Str×CV)):CY sg d l→Q ((l.lookup k).getD .none) sg→IM d sg Q k
inductive IL(d c:CV)(sg:Sg)(Q:CV→Sg→Prop)(k:Int):Prop
 |mk (l:List (Int×CV)):CK sg d l→Q ((l.lookup k).getD c) sg→IL d c sg Q k
def pG:ao:=fun cs sg Q=>match cs with
 |[d,k]=>Kw (IM d sg Q) k
 |[d,k,c]=>CO (IL d c sg Q) k
 |_=>False
theorem I_(R:bc W X F rho sg s){d k:CV}{o i:Value}{Q:CV→Sg→Prop}{K E:Value→Shared→Prop}(h1:bC W F o d)(h2:bC W F i k)(hb:Kw (IM d sg Q) k)(hK:sb W X F rho Q K):wpAny (model W.prog W.w) X.A (call (.builtin "dict.get") [o,i]) K E s:=by
 apply h2.str_ hb;rintro k t ⟨l,hl,hq⟩;apply R.sdOf h1 hl;intro a kvs hs hd r;exact call_meetsIn PySem.F.slot_dict_get hd.typeIs PySem.F.entry_dict_get (PySem.F.args_dict_get_2 _ _) (meets_dict_get (strKind W.prog W.w) a l7 hs) ⟨_,hd.mapOf,hK.here R.tok (r.getD k .none) hq⟩
theorem Hq(R:bc W X F rho sg s){d k c:CV}{o i v:Value}{Q:CV→Sg→Prop}{K E:Value→Shared→Prop}(h1:bC W F o d)(h2:bC W F i k)(h3:bC W F v c)(hb:CO (IL d c sg Q) k)(hK:sb W X F rho Q K):wpAny (model W.prog W.w) X.A (call (.builtin "dict.get") [o,i,v]) K E s:=by
 apply h2.int_ hb;rintro k t ⟨l,hl,hq⟩;apply R.ndOf h1 hl;intro a kvs hs hd r;exact call_meetsIn PySem.F.slot_dict_get hd.typeIs PySem.F.entry_dict_get (PySem.F.args_dict_get_3 _ _ _) (meets_dict_get_default (intKind W.prog W.w) a qi hs _) ⟨_,hd.mapOf,hK.here R.tok (r.getD k h3) hq⟩
theorem gB:dm W (xM (.builtin "dict.get")) pG:=fun X F rho sg s vs cs Q K E R hv hsp hK=>by
 rcases hv with _|⟨h1,_|⟨h2,_|⟨h3,_|⟨h4,h5⟩⟩⟩⟩
 ·exact hsp.elim
 ·exact hsp.elim
 ·exact I_ R h1 h2 hsp hK
 ·exact Hq R h1 h2 h3 hsp hK
 ·exact hsp.elim
inductive Ia(k:Str)(sg:Sg)(Q:CV→Sg→Prop)(a:Addr):Prop
 |mk (l:List (Str×CV)) (sg2:Sg):gv a (.sd l) (.sd (mB k l)) sg sg2→l.length≤1000→Q ((l.lookup k).getD .none) sg2→Ia k sg Q a
def GD:ao:=LX fun d k c sg Q=>JK (fun a=>Kw (fun k=>K7 (Ia k sg Q a) c) k) d
theorem D9:dm W (xM (.builtin "dict.pop")) GD:=fun X F rho sg s vs cs Q K E R hv hsp hK=>by
 have hK:sb W X F rho Q K:=hK;refine HN hsp (P:=fun cs=>b6 W F vs cs→_) (fun d k c hf hv=> ?_) hv;refine hv.onCons fun v r h1 h2=> ?_;refine h2.onCons fun v r h2 h3=> ?_;refine h3.onCons fun v r h3 h4=> ?_;refine h4.onNil ?_;apply h1.ref_ hf;intro a hf;apply h2.str_ hf;intro k t hf;apply h3.none_ hf;rintro⟨l,sg2,U,hz,hq⟩;refine dp fun C_ k_=> ?_;obtain⟨hne,o,kvs,e,d,r⟩:=R.mo _ U.sublistMem;have hd:s.heap.DictOf (strKind W.prog W.w) a kvs:=Heap.dictOf_iff.mpr ⟨_,e,d⟩;have hs:=hH hne;refine k_ ?_;rcases r.find k with⟨v,c,e1,e2,e3⟩|⟨e1,e2⟩
 ·rw[e2]at hq;refine call_meetsIn PySem.F.slot_dict_pop hd.typeIs PySem.F.entry_dict_pop (PySem.F.args_dict_pop_3 _ _ _) (meets_dict_pop_there _ _ l7 [_] (.inr ⟨_,rfl⟩) rfl) ⟨kvs,v,hd,by rw[r.length,sizeLine_eq];exact Nat.le_trans (by assumption) (by decide),e1,fun h' hd' hsb=> ?_⟩
  refine dp fun C_ k_=> ?_;obtain⟨o',e',d'⟩:=Heap.dictOf_iff.mp hd';refine k_ ?_;exact hK.here (R.upd (tk:=s.toks+1) U rfl (d:=a) (.head _) hsb ⟨hne,o',_,e',d',r.del⟩) e3 hq
 ·rw[e2]at hq;have:=U.same (by rw[D6 k l e2])
  subst this;exact call_meetsIn PySem.F.slot_dict_pop hd.typeIs PySem.F.entry_dict_pop (PySem.F.args_dict_pop_3 _ _ _) (meets_dict_pop_default _ _ l7 hs rfl _) ⟨kvs,hd,e1,hK.here R.tok .none hq⟩
end
section
variable {W:Wd}{X:FX}{F:Fz}{rho:bp}{sg sg':Sg}{s:Shared}
noncomputable def rn:CV→Option (Int×Int)
 | .tup [.int a,.int b]=>some (a,b)
 |_=>none
inductive EU(c:CV)(sg:Sg)(Q:CV→Sg→Prop)(l:List CV):Prop
 |mk (p:Int×Int) (ps:List (Int×Int)) (j:Nat):rn c=some p→l.map rn=ps.map some→ps[j]? =some p→(∀m<j,ps[m]?≠some p)→small l.length→Q (.int j) sg→EU c sg Q l
def Aa:ao:=wg fun l c sg Q=>GR (EU c sg Q) l
theorem Em{c:CV}{p:Int×Int}(h:rn c=some p):c= .tup [.int p.1,.int p.2]:=by
 cases c with
 |tup l=>
  cases l with
  |nil=>exact ns h
  |cons a l=>cases a with
   |int i=>cases l with
    |nil=>exact ns h
    |cons b l=>cases b with
     |int j=>cases l with
      |nil=>exact Option.some.inj h▸rfl
      |cons _ _=>exact ns h
     |_=>exact ns h
   |_=>exact ns h
 |_=>exact ns h
theorem oE{v:Value}{c:CV}{p:Int×Int}(h:bC W F v c)(hc:rn c=some p){Z:Value→Prop}(k:∀a o t u n,F a=some o→o.cls= .type "tuple"→o.data= .seq #[.int p.1 t,.int p.2 u] n→Z (.ref a)):Z v:=by
 cases Em hc;apply h.onTup;intro a o vs n e1 e2 e3 e4;revert e3;refine e4.onCons fun v r h1 e4=> ?_;refine e4.onCons fun w r h2 e4=> ?_;refine e4.onNil ?_;apply h1.onInt;intro t;apply h2.onInt;intro u e3;exact k _ _ _ _ _ e1 e2 e3
theorem yv{p q:Int×Int}{t u t' u':Tok}{n n':Nat}{o:Obj}(d1:o.data= .seq #[.int p.1 t,.int p.2 u] n)(d2:o.data= .seq #[.int q.1 t',.int q.2 u'] n'):p=q:=by
 rw[d1]at d2;obtain⟨a,b⟩:=p;obtain⟨c,d⟩:=q;cases d2;rfl
theorem Ea{A:Around}(hu:A.units<cLine)(fz:∀a o,F a=some o→s.heap.get? a=some o){v u:Value}{c d:CV}{p q:Int×Int}(h1:bC W F v c)(h2:bC W F u d)(e1:rn c=some p)(e2:rn d=some q):SeqAt.EqAt A s v u (decide (p=q)):=by
 apply oE h1 e1;intro a o t t' n f1 c1 d1;apply oE h2 e2;intro b o2 t2 t2' n2 f2 c2 d2;by_cases hab:a=b
 ·subst hab;rw[f1]at f2;cases f2;refine(decide_eq_true (yv d1 d2))▸?_;intro prog w E Q hq;refine wpAny_holding ?_;rw[if_pos (by simp)]
  exact wpAny_pure (M:=model prog w) (E:=E) hq
 ·have:=SeqAt.EqAt.of_refs (A:=A) (s:=s) hab (SeqAt.RcAt.tuples (e:=fun j=>if j=0 then p.1==q.1 else p.2==q.2) ⟨_,fz _ _ f1,c1,_,d1⟩ ⟨_,fz _ _ f2,c2,_,d2⟩ hu fun j h1 h2=>by
   match j,h1 with
   |0,_=>exact SeqAt.EqAt.int_int _ _ _ _
   |1,_=>exact SeqAt.EqAt.int_int _ _ _ _)
  have e:((List.range (min #[Value.int p.1 t,Value.int p.2 t'].size #[Value.int q.1 t2,Value.int q.2 t2'].size)).all (fun j=>if j=0 then p.1==q.1 else p.2==q.2)&& #[Value.int p.1 t,Value.int p.2 t'].size== #[Value.int q.1 t2,Value.int q.2 t2'].size)=decide (p=q):=by
   obtain⟨p1,p2⟩:=p;obtain⟨q1,q2⟩:=q;have:List.range (min #[Value.int p1 t,Value.int p2 t'].size #[Value.int q1 t2,Value.int q2 t2'].size)=[0,1]:=rfl;refine this▸?_;simp only[List.all_cons,List.all_nil,Bool.and_true,if_pos,if_neg,Prod.mk.injEq,Bool.decide_and,show(1:Nat)≠0 from by decide,if_false,ne_eq,not_false_eq_true,ite_false]
   rw[Bool.eq_iff_iff];simp
  rw[e]at this;exact this
theorem Cl:dm W (xM (.builtin "list.index")) Aa:=Ck fun {X F rho sg s v c u c2 Q K E} R h1 h2 hf hK=>by
  apply h1.lst_ hf;rintro l a vs n ⟨p,ps,j,hc,hl,hj,hno,hz,hq⟩ e1 v1;have hlen:ps.length=vs.length:=by have:=congrArg List.length hl;simp at this;rw[v1.length,this]
  have hitem:∀(i:Nat) (v:Value),vs[i]? =some v→∃d q,bC W F v d∧rn d=some q∧ps[i]? =some q:=fun i v hi=>by
   refine el12 (v1.getv hi) fun d hd hv=> ?_;have:=congrArg (·[i]?) hl;simp only[List.getElem?_map,hd,Option.map_some]at this;cases hp:ps[i]? with
   |none=>rw[hp]at this;exact sn this
   |some q=>rw[hp]at this;simp at this;exact⟨d,q,hv,this,rfl⟩
  classical
  let e:Value→Bool:=fun v=>decide (∃d q,bC W F v d∧rn d=some q∧q=p)
  have hE:∀(i:Nat) (v:Value) (q:Int×Int),vs[i]? =some v→ps[i]? =some q→SeqAt.EqAt X.A.in1 s v _ (e v)∧e v=decide (q=p):=fun i v q hi hq'=>by
   obtain⟨d,q',hv,hd,hp⟩:=hitem i v hi;rw[hq']at hp;cases hp;have key:∀d' q'',bC W F v d'→rn d'=some q''→q''=q:=fun d' q'' hv' hd'=>by
    revert hv';apply oE hv hd;intro a1 o1 t1 u1 n1 f1 c1 d1 hv';obtain⟨a2,z,f2,d2⟩:∃a2,Value.ref a1= .ref a2∧∃o,F a2=some o∧∃t u n,o.data= .seq #[.int q''.1 t,.int q''.2 u] n:=oE (Z:=fun v=>∃a2,v=Value.ref a2∧∃o,F a2=some o∧∃t u n,o.data= .seq #[.int q''.1 t,.int q''.2 u] n) hv' hd' fun a o t u n f c d=>⟨a,rfl,o,f,t,u,n,d⟩;cases z;obtain⟨f2,_,_,_,d2⟩:=d2;rw[f1]at f2;cases f2;exact(yv d1 d2).symm
   have he:e v=decide (q=p):=by
    by_cases hqp:q=p
    ·rw[decide_eq_true hqp];exact decide_eq_true ⟨d,q,hv,hd,hqp⟩
    ·rw[decide_eq_false hqp];exact decide_eq_false fun⟨d',q'',a,b,c⟩=>hqp (by rw[←key d' q'' a b];exact c)
   rw[he];exact⟨Ea (Nat.lt_of_le_of_lt (Nat.add_le_add_right (I0 X.hu) 1) (by decide)) R.fz hv h2 hd hc,rfl⟩
  have hj':j<vs.length:=by rw[←hlen];exact(List.getElem?_eq_some_iff.mp hj).1
  have hlp:vs.length=l.length:=v1.length;unfold small at hz;refine call_meets PySem.F.slot_list_index ⟨_,R.fz _ _ e1,rfl⟩ PySem.F.entry_list_index (PySem.F.args_list_index_2 _ _) (SeqAt.list_indexAt a vs.toArray n none #[] _ e j (by simpa using hj') (by lia) ?_ ?_) ⟨R.fz _ _ e1,?_,hK.here R.tok (.int _ _) hq⟩
  ·rw[(hE j _ p (by simp) hj).2];simp
  ·intro m hm hmj;have hm':m<ps.length:=by rw[hlen];simpa using hm
   rw[(hE m _ ps[m] (by simp) (by simp)).2]
   exact decide_eq_false fun h=>hno m hmj (by rw[←h];simp)
  ·intro y hy;obtain⟨i,hi,rfl⟩:=List.getElem_of_mem (show y∈vs by simpa using hy)
   exact(hE i _ ps[i] (by simp) (by simp)).1
theorem Ae{K:Type}[DecidableEq K](x:K×Addr×Value)(r:List (K×Addr×Value))(k:K)(a:Addr)(v:Value)(h:((x::r).map (·.1)).Nodup):
  storedH (x::r) k a v=if x.1=k then(x.1,x.2.1,v)::r else x::storedH r k a v:=by
 have h1:=(List.nodup_cons.mp h).1;by_cases e:x.1=k
 ·subst e;rw[if_pos rfl,storedH_old (p:=x.2) (by simp[atKey])]
  have:r.map (putAt x.1 v)=r:=by
   rw[List.map_congr_left (g:=id) fun q hq=>by
    have:¬q.1=x.1:=fun z=>h1 (List.mem_map.mpr ⟨q,hq,z⟩);simp[putAt,this]]
   simp
  simp[this,putAt]
 ·rw[if_neg e];have hk:atKey (x::r) k=atKey r k:=by simp[atKey,e]
  unfold storedH;refine hk.symm▸?_;by_cases z:(atKey r k).isSome=true
  ·rw[if_pos z,if_pos z];simp[putAt,e]
  ·rw[if_neg z,if_neg z];rfl
theorem lE.put{k:List Int}{a:Addr}{v:Value}{c:CV}(ha:∀h:Heap,(∀b o,F b=some o→h.get? b=some o)→IsTupleKey (intKind W.prog W.w) h k a)(hv:bC W F v c){xs l}(h:lE W F xs l)(hn:(xs.map (·.1)).Nodup):lE W F (storedH xs k a v) (bk k c l):=by
 induction h with
 |nil=>exact .cons ha hv .nil
 | @cons k' _ _ _ _ _ h0 h r ih=>
  rw[Ae _ _ _ _ _ hn];unfold bk;by_cases e:k'=k
  ·subst e;rw[if_pos rfl,if_pos rfl];exact .cons h0 hv r
  ·rw[if_neg e,if_neg e];exact .cons h0 h (ih (List.nodup_cons.mp hn).2)
theorem F2.set{α β:Type}{R:α→β→Prop}{v:α}{c:β}(hv:R v c){vs l}(h:F2 R vs l):∀n:Nat,F2 R (vs.set n v) (l.set n c):=by
 induction h with
 |nil=>exact fun O=> .nil
 |cons h t ih=>
  intro n;cases n with
  |zero=>exact .cons hv t
  |succ n=>exact .cons h (ih n)
theorem HZ{A:Around}{E:Value→Shared→Prop}{prog:Program}{w:World}{l:Addr}{vs:List Value}{n:Nat}{k:Int}{t:Tok}{v:Value}{Q:Unit→Shared→Prop}(ho:s.heap.get? l=some (PySem.W.listOf vs.toArray n))
  (h0:0≤k) (hfit:k<2 ^ 63) (hn:k<vs.length)
  (hQ:∀h' m,h'.get? l=some (PySem.W.listOf (vs.set k.toNat v).toArray m)→Heap.SameBut l s.heap h'→Q () {s with heap:=h'}):
  wpAny (model prog w) A (setItem (.ref l) (.int k t) v) Q E s:=by
 have hl:s.heap.IsList l vs.toArray:=⟨_,ho,rfl,_,rfl⟩;unfold setItem
 try with_reducible refine wpAny_holding ?_
 first|refine wpAny_bind (wpAny_pure ?_)|skip
 refine wpAny_bind (wpAny_sequenceKey hl.typeIs rfl ?_);refine wpAny_bind (wpAny_callSpecial?_slot (name:=Str.ofString "__setitem__") hl.typeIs slot_list_setitem
  (wpAny_call_entry slot_list_setitem hl.typeIs entry_list_setitem ?_ (args_list_setitem _ _ _)))
 show wpAny _ _ (Builtin.List.listSubscript? (.int k t) >>= _) _ _ s;refine wpAny_bind (wpAny_listSubscript_int (fitsIndex_of h0 hfit) ?_);clear hfit;obtain⟨j,rfl⟩:=Int.eq_ofNat_of_zero_le h0;have hj:j<vs.toArray.size:=by rw[List.size_toArray];exact Int.ofNat_lt.mp hn
 have hx':vs.toArray[j]? =some vs.toArray[j]:=Array.getElem?_eq_getElem hj;show wpAny _ _ ((seqItemAt l j >>= fun r=>pure (r.map (j,·))) >>= _) _ _ s;refine wpAny_bind (wpAny_bind (wpAny_seqItemAt ho rfl (wpAny_pure ?_)));refine hx'▸?_;show wpAny _ _ (setSeqItemAt l j v >>= _) _ _ s;obtain⟨m,hm⟩:=o7 vs.toArray n (·.setIfInBounds j v);have he:vs.toArray.setIfInBounds j v=(vs.set j v).toArray:=by simp
 have hfin:(s.heap.update l (Obj.mapSeq (·.setIfInBounds j v))).get? l=some (PySem.W.listOf (vs.set j v).toArray m):=by
  rw[Heap.get?_update_self _ ho (by rw[hm];rfl),hm,he]
 refine wpAny_bind (wpAny_setSeqItemAt ho rfl ?_)
 first
  |exact wpAny_bind (wpAny_pure (wpAny_pure ⟨.none,rfl,wpAny_pure (hQ _ _ hfin (Heap.SameBut.update ..))⟩))
  |exact wpAny_pure ⟨.none,rfl,wpAny_pure (hQ _ _ hfin (Heap.SameBut.update ..))⟩
inductive Kc(sg:Sg)(a:Addr)(x:Str)(c:CV)(Q:Sg→Prop):Prop
 |mk (l:List (Str×CV)) (sg2:Sg):gv a (.sd l) (.sd (bk x c l)) sg sg2→l.length≤1000→Q sg2→Kc sg a x c Q
inductive Kb(sg:Sg)(a:Addr)(i:Int)(c:CV)(Q:Sg→Prop):Prop
 |mk (l:List (Int×CV)) (sg2:Sg):gv a (.nd l) (.nd (bk i c l)) sg sg2→l.length≤1000→Q sg2→Kb sg a i c Q
inductive Ka(sg:Sg)(a:Addr)(i:Int)(c:CV)(Q:Sg→Prop):Prop
 |mk (l:List CV) (sg2:Sg):gv a (.lst l) (.lst (l.set i.toNat c)) sg sg2→0≤i→i<l.length→small l.length→Q sg2→Ka sg a i c Q
inductive Kd(sg:Sg)(a:Addr)(t:List CV)(c:CV)(Q:Sg→Prop):Prop
 |mk (ks:List Int) (l:List (List Int×CV)) (sg2:Sg):t=bZ ks→gv a (.pd l) (.pd (bk ks c l)) sg sg2→l.length≤1000→Q sg2→Kd sg a t c Q
def KA(sg:Sg)(k c:CV)(Q:Sg→Prop)(a:Addr):Prop:=match k with
 | .str x=>Kc sg a x c Q
 | .int i=>Kb sg a i c Q∨Ka sg a i c Q
 | .tup t=>Kd sg a t c Q
 |_=>False
def GC(sg:Sg)(d k c:CV)(Q:Sg→Prop):Prop:=JK (KA sg k c Q) d
def KD(d c:CV)(rho:bp)(Q:Fl→bp→Sg→Prop)(k:CV)(sg3:Sg):Prop:=GC sg3 d k c (Q .next rho)
def KC(pi:PE)(c:CV)(rho:bp)(Q:Fl→bp→Sg→Prop)(d:CV)(sg2:Sg):Prop:=pi rho sg2 (KD d c rho Q)
def KB(po pi:PE)(rho:bp)(Q:Fl→bp→Sg→Prop)(c:CV)(sg1:Sg):Prop:=po rho sg1 (KC pi c rho Q)
def dC(po pi pv:PE):PS:=fun rho sg Q=>pv rho sg (KB po pi rho Q)
theorem Jv(R:bc W X F rho sg s){o i v:Value}{d k c:CV}(h1:bC W F o d)(h2:bC W F i k)(h3:bC W F v c){Q:Sg→Prop}(h:GC sg d k c Q){K:Unit→Shared→Prop}{E:Value→Shared→Prop}
  (hK:∀sg' s',bc W X F rho sg' s'→Q sg'→K () s'):wpAny (model W.prog W.w) X.A (setItem o i v) K E s:=by
 apply h1.ref_ h;intro a h;cases k with
 |str x=>
  obtain⟨l,sg2,U,hz,hq⟩:=h;apply h2.onStr;intro t;refine dp fun C_ k_=> ?_;obtain⟨hne,ob,kvs,e,d,r⟩:=R.mo _ U.sublistMem;have hd:=Heap.dictOf_iff.mpr ⟨_,e,d⟩;refine k_ ?_;refine wpAny_setItem_pairs l7 hd (fun h' hd' hs=> ?_) (by rw[r.length,sizeLine_eq];exact Nat.le_trans hz (by decide))
  obtain⟨o',e',d'⟩:=Heap.dictOf_iff.mp hd';refine el35 hd fun O O O O O O O hnd=> ?_;refine hK _ _ (R.upd (tk:=s.toks+1) U rfl (d:=a) (.head _) hs ⟨hne,o',_,e',d',?_⟩) hq;rw[j_ _ _ _ hnd.2];exact r.put h3
 |int x=>
  apply h2.onInt;intro t;rcases h with⟨l,sg2,U,hz,hq⟩|⟨l,sg2,U,h0,hlt,hz,hq⟩
  ·obtain⟨hne,ob,kvs,e,d,r⟩:=R.mo _ U.sublistMem;have hd:=Heap.dictOf_iff.mpr ⟨_,e,d⟩;refine wpAny_setItem_pairs qi hd (fun h' hd' hs=> ?_) (by rw[r.length,sizeLine_eq];exact Nat.le_trans hz (by decide))
   obtain⟨o',e',d'⟩:=Heap.dictOf_iff.mp hd';refine el35 hd fun O O O O O O O hnd=> ?_;refine hK _ _ (R.upd (tk:=s.toks+1) U rfl (d:=a) (.head _) hs ⟨hne,o',_,e',d',?_⟩) hq;rw[j_ _ _ _ hnd.2];exact r.put h3
  ·refine el22 (R.mlist U) fun vs n e r=> ?_;refine HZ e h0 (Hs hz hlt) (r.length▸hlt) fun h' m e' hs=> ?_;exact hK _ _ (R.setList (tk:=s.toks) U hs e' (r.set h3 _)) hq
 |tup ts=>
  refine dp fun C_ k_=> ?_;obtain⟨ks,l,sg2,rfl,U,hz,hq⟩:=h;obtain⟨hne,xs,hd,r⟩:=R.mo _ U.sublistMem;refine k_ ?_;apply C5 h2;intro b hk;refine wpAny_setItem_heap (DH (k:=ks)) (hk _ R.fz) hd (fun h' hd' hs=> ?_) (by rw[r.length,sizeLine_eq];exact Nat.le_trans hz (by decide))
  refine el36 hd fun O O O O O O O O hnd=> ?_;exact hK _ _ (R.upd U rfl (d:=a) (.head _) hs ⟨hne,_,hd',r.put hk h3 hnd⟩) hq
 |_=>exact h.elim
theorem bI{o i value:Expr}{pos' pos:Pos}{po pi pv:PE}(hs:swapsWith value (some (.Subscript o i pos')) pos.line X.env=pure false)(ho:cQ W X o po)(hi:cQ W X i pi)(hv:cQ W X value pv):
  r_ W X (.Assign [.Subscript o i pos'] value pos) (dC po pi pv):= .of fun rho sg Q E hp F s K R hK=>by
 refine wpAny_Assign_Subscript (hv.go hp R fun G v c sg1 s1 le1 R1 r1 h1=>ho.go h1 R1 fun G2 ov d sg2 s2 le2 R2 r2 h2=>hi.go h2 R2 fun G3 iv k sg3 s3 le3 R3 r3 h3=> ?_) hs;exact Jv R3 (r2.mono le3) r3 (r1.mono (le2.trans le3)) h3 fun sg4 s4 R4 hq=>hK _ _ .next _ _ _ ((le1.trans le2).trans le3) R4 rfl hq
end
noncomputable def eE{K V:Type}[DecidableEq K](l:List (K×V)):List (K×V)→List (K×V):=List.foldl (fun acc p=>bk p.1 p.2 acc) l
section
variable {W:Wd}{X:FX}{F:Fz}{rho:bp}{sg sg':Sg}{s:Shared}
theorem bc.newAddr(R:bc W X F rho sg s):s.heap.objs.size≠sysModules:=by
 exact Nat.ne_of_gt (modules_low (W.nolim.keeps R.base))
theorem zS{α:Type}(a:α):[a].Nodup:=List.nodup_cons.mpr ⟨List.not_mem_nil,List.nodup_nil⟩
theorem zq{h:Heap}:∀b∈[h.objs.size],h.get? b=none:=fun b hb=>List.mem_singleton.mp hb▸bJ
def Hm:MO→Prop
 | .sd l=>l=[]
 | .nd l=>l=[]
 | .pd l=>l=[]
 |_=>False
def fW(m:MO):PE:=fun rho sg Q=>∀a,Q (.ref a) ((a,m)::sg)
theorem cU{pos:Pos}{m:MO}(hm:Hm m):cQ W X (.Dict [] [] pos) (fW m):= .of fun rho sg Q E hp F s K R hK=>by
 refine wpAny_Dict_empty ?_;have hne:=R.newAddr;have he:m.Is W F (s.heap.push {cls:= .type "dict",data:= .dict #[]}) s.heap.objs.size:=by
  cases m with
  |sd l=>
   cases hm;obtain⟨o,e,d⟩:=Heap.dictOf_iff.mp (Heap.DictOf.new (knd:=PySem.strKind W.prog W.w) s.heap);exact⟨hne,o,_,e,d,.nil⟩
  |nd l=>
   cases hm;obtain⟨o,e,d⟩:=Heap.dictOf_iff.mp (Heap.DictOf.new (knd:=PySem.intKind W.prog W.w) s.heap);exact⟨hne,o,_,e,d,.nil⟩
  |pd l=>
   cases hm;exact⟨hne,_,Heap.DictOfH.new s.heap,.nil⟩
  |_=>exact hm.elim
 have ha:m.adrs s.heap.objs.size=[s.heap.objs.size]:=by cases m<;>first|rfl|exact hm.elim
 have R2:=R.addM (h':=s.heap.push {cls:= .type "dict",data:= .dict #[]}) (tk:=s.toks) (m:=m) (a:=s.heap.objs.size) (aY _ _) (ha▸zq) (ha▸zS _) he;exact hK _ _ _ _ _ (.refl F) R2 (.ref _) (hp _)
abbrev EN:=bp→Sg→(List (Str×CV)→Sg→Prop)→Prop
def ik:EN:=fun O sg Q=>Q [] sg
def LC(k c:CV)(Q:List (Str×CV)→Sg→Prop)(l:List (Str×CV))(sg3:Sg):Prop:=Kw (fun x=>Q ((x,c)::l) sg3) k
def LB(ps:EN)(k:CV)(rho:bp)(Q:List (Str×CV)→Sg→Prop)(c:CV)(sg2:Sg):Prop:=ps rho sg2 (LC k c Q)
def LA(pv:PE)(ps:EN)(rho:bp)(Q:List (Str×CV)→Sg→Prop)(k:CV)(sg1:Sg):Prop:=pv rho sg1 (LB ps k rho Q)
def cn(pk pv:PE)(ps:EN):EN:=fun rho sg Q=>pk rho sg (LA pv ps rho Q)
def ES(W:Wd)(X:FX)(prs:List (Sem Value×Sem Value))(p:EN):Prop:=∀(rho:bp) (sg:Sg) (Q:List (Str×CV)→Sg→Prop) (E:Value→Shared→Prop) (F:Fz) (s:Shared) (K:List (Value×Value)→Shared→Prop),p rho sg Q→bc W X F rho sg s→
 (∀G vs l sg' s',F.le G→bc W X G rho sg' s'→(∃kvs,Carries (PySem.strKind W.prog W.w) vs kvs∧uc W G kvs l)→vs.length=prs.length→Q l sg'→K vs s')→wpAny (model W.prog W.w) X.A (evalPairs prs) K E s
theorem FS:ES W X [] ik:=fun rho sg Q E F s K hp R hK=>evalPairs_nil (hK F _ _ _ _ (.refl F) R ⟨[],trivial,.nil⟩ rfl hp)
theorem El{k v:Expr}{pos:Pos}{rest:List (Sem Value×Sem Value)}{pk pv:PE}{ps:EN}(hk:cQ W X k pk)(hv:cQ W X v pv)(hr:ES W X rest ps):ES W X ((eval k X.env,do let x ←eval v X.env;standAt pos;pure x)::rest) (cn pk pv ps):=fun rho sg Q E F s K hp R hK=>by
 refine evalPairs_cons (hk.go hp R fun G kv kc sg1 s1 le1 R1 r1 h1=>wpAny_bind (hv.go h1 R1 fun G2 vv c sg2 s2 le2 R2 r2 h2=>wpAny_bind (wpAny_standAt (wpAny_pure ?_))));refine hr _ _ _ E _ _ _ h2 R2 fun G3 vs l sg3 s3 le3 R3 ⟨kvs,hc,hs⟩ hlen h3=> ?_;apply r1.str_ h3;intro x t h3;exact hK G3 _ _ _ _ ((le1.trans le2).trans le3) R3 ⟨(x,vv)::kvs,⟨l7,rfl,hc⟩,.cons (r2.mono le3) hs⟩ (congrArg (·+1) hlen) h3
set_option tactic.hygienic true in
theorem mx.merge{K β:Type}[DecidableEq K]{R:Value→β→Prop}{ks:List (K×Value)}{ls:List (K×β)}(h:mx R ks ls):∀{acc al},mx R acc al→(acc.map (·.1)).Nodup→mx R (merged acc ks) (eE al ls):=by
 induction h with
 |nil=>exact fun h O=>h
 | @cons k v c _ _ hv t ih=>
  intro acc al h hn;show mx R (merged (stored acc k v) _) (eE (bk k _ al) _);rw[j_ _ _ _ hn];refine ih (h.put hv) ?_;rw[yw];split
  ·exact hn
  ·rename_i hk
   rw[List.nodup_append];exact⟨hn,List.nodup_cons.mpr ⟨List.not_mem_nil,List.nodup_nil⟩,fun a ha b hb e=>hk (List.mem_singleton.mp hb▸e▸ha)⟩
inductive Ib(a:Addr)(Q:CV→Sg→Prop)(l:List (Str×CV))(sg1:Sg):Prop
 |mk (sg2:Sg):gv a (.sd []) (.sd (eE [] l)) sg1 sg2→Q (.ref a) sg2→Ib a Q l sg1
def ij(ps:EN):PE:=fun rho sg Q=>∀a,ps rho ((a,.sd [])::sg) (Ib a Q)
theorem FQ{keys:List (Option Expr)}{values:List Expr}{pos:Pos}{prs:List (Sem Value×Sem Value)}{ps:EN}(hshape:(evalEachOpt keys X.env).zip ((evalEach values X.env).map fun v=>do let x ←v;standAt pos;pure x)=prs.map fun p=>(some p.1,p.2))(h0:prs≠[])(hlen:prs.length≤15)(h:ES W X prs ps):
  cQ W X (.Dict keys values pos) (ij ps):= .of fun rho sg Q E hp F s K R hK=>by
 have hne:=R.newAddr;refine el12 (Heap.dictOf_iff.mp (Heap.DictOf.new (knd:=PySem.strKind W.prog W.w) s.heap)) fun o e d=> ?_;have R2:=R.addM (h':=s.heap.push {cls:= .type "dict",data:= .dict #[]}) (tk:=s.toks) (m:= .sd []) (a:=s.heap.objs.size) (aY _ _) zq (zS _) ⟨hne,o,_,e,d,.nil⟩;refine wpAny_Dict_pairs (knd:=PySem.strKind W.prog W.w) hshape h0 hlen (h _ _ _ E _ _ _ (hp _) R2 fun G vs l sg1 s1 le1 R1 ⟨kvs,hc,hs⟩ hl h1=> ?_);refine dp fun C_ k_=> ?_;obtain⟨sg2,U,hq⟩:=h1;obtain⟨hne',o',kvs0,e',d',r0⟩:=R1.mo _ U.sublistMem;refine k_ ?_;cases r0;refine⟨kvs,hc,Heap.dictOf_iff.mpr ⟨o',e',d'⟩,fun h' hd' hsb=> ?_⟩;refine el12 (Heap.dictOf_iff.mp hd') fun o2 e2 d2=> ?_;exact hK G _ _ _ _ le1 (R1.upd U rfl (d:=_) (.head _) hsb ⟨hne',o2,_,e2,d2,mx.merge hs .nil List.nodup_nil⟩) (.ref _) hq
inductive Db(sg:Sg)(Q:CV→Sg→Prop)(d:CV):Prop
 |mk (l:List (Str×CV)):CY sg d l→l.length≤1000→(∀a,Q (.ref a) ((a,.sd l)::sg))→Db sg Q d
def rY:ao:=Ex fun d sg Q=>Db sg Q d
theorem m_:dm W (xM (.type "dict")) rY:=tD fun {X F rho sg s v c Q K E} R h1 hf hK=>by
 obtain⟨l,hl,hz,hq⟩:=hf;apply R.sdOf h1 hl;intro d kvs hs hd r;refine kt_call_dict hs hd (by rw[r.length,sizeLine_eq];exact Nat.le_trans (by assumption) (by decide)) fun h' hd' hsb=> ?_
 obtain⟨o,e,d'⟩:=Heap.dictOf_iff.mp hd';have keep:∀b x,s.heap.get? b=some x→h'.get? b=some x:=fun b x q=>(hsb.2 b (Nat.ne_of_lt (Heap.lt_size q))).trans (aY _ _ _ _ q);exact hK _ _ _ _ _ (.refl F) (R.addM (tk:=s.toks) (m:= .sd l) (a:=s.heap.objs.size) keep zq (zS _) ⟨R.newAddr,o,_,e,d',r⟩) (.ref _) (hq _)
inductive J6(sg:Sg)(Q:CV→Sg→Prop)(c:CV):Prop
 |mk (l:List CV):Es sg c l→small l.length→Q (.int l.length) sg→J6 sg Q c
def fK:ao:=Ex fun c sg Q=>J6 sg Q c
theorem cg:dm W (xM (.builtin "len")) fK:=tD fun {X F rho sg s v c Q K E} R h1 hf hK=>by
 obtain⟨l,hl,hz,hq⟩:=hf;apply R.lsOf h1 hl;intro a vs n e r;have hsz:=dv r;refine call_len_list ⟨_,e,rfl,_,rfl⟩ (by rw[hsz];unfold small at hz;lia) ?_
 rw[hsz];exact hK.here R.tok (.int _ _) hq
def Iz:ao:=Ex fun c sg Q=>CO (fun i=>Q (.int (if i<0 then -i else i)) sg) c
theorem Fs:dm W (xM (.builtin "abs")) Iz:=tD fun {X F rho sg s v c Q K E} R h1 hf hK=>by
 apply h1.int_ hf;intro i t hf;exact call_abs_int fun u tk=>hK.here R.tok (.int _ _) hf
inductive EO(r:Int→Int→Prop)(sg:Sg)(Q:CV→Sg→Prop)(l:List CV):Prop
 |mk (is:List Int):l=bZ is→is≠[]→small l.length→(∀m∈is,(∀i∈is,r m i)→Q (.int m) sg)→EO r sg Q l
def DL:ao:=fun cs sg Q=>match cs with
 |[a,b]=>CO (fun a=>CO (fun b=>Q (.int (if b<a then b else a)) sg) b) a
 |[l]=>GR (EO (·≤·) sg Q) l
 |_=>False
def GF:ao:=Ex fun l sg Q=>GR (EO (·≥·) sg Q) l
theorem Ai{ks:List Int}:∀{vs:List Value},b6 W F vs (bZ ks)→IntsAre vs ks:=by
 induction ks with
 |nil=>intro vs h;cases h;exact .nil
 |cons k ks ih=>
  intro vs h;refine h.onCons fun v r h t=> ?_;apply h.onInt;intro u;exact .cons _ _ (ih t)
theorem xI{ns:List Int}{vs:List Value}(r:b6 W F vs (bZ ns))(hne:ns≠[]){Z:Prop}(k:∀xs:Array (Int×Tok),vs.toArray=intItems xs→0<xs.size→ns=xs.toList.map (·.1)→Z):Z:=by
 have hi:=Ai r;obtain⟨xs,ex⟩:=hi.allInts.items;have hns:ns=xs.toList.map (·.1):=by rw[←hi.numsOf,←nums_intItems,←ex]
 refine k xs ex ?_ hns;have h3:0<ns.length:=List.length_pos_iff.mpr hne;rw[hns,List.length_map,Array.length_toList]at h3;exact h3
theorem AP{ns:List Int}{xs:Array (Int×Tok)}(hns:ns=xs.toList.map (·.1)){j:Nat}(hj:j<xs.size):numAt xs j∈ns:=by
 rw[hns,numAt_eq];exact getD_mem (by rw[List.length_map,Array.length_toList];exact hj)
theorem AO{ns:List Int}{xs:Array (Int×Tok)}(hns:ns=xs.toList.map (·.1)){p:Int→Prop}(h:∀j,j≤xs.size-1→p (numAt xs j)):∀i∈ns,p i:=fun a ha=>by
 rw[hns]at ha;obtain⟨j,hj,rfl⟩:=mem_getD ha;rw[List.length_map,Array.length_toList]at hj;rw[←numAt_eq];exact h j (Nat.le_sub_one_of_lt hj)
theorem vD:dm W (xM (.builtin "min")) DL:=fun X F rho sg s vs cs Q K E R hv hsp hK=>by
 rcases hv with _|⟨h1,_|⟨h2,_|⟨h3,h4⟩⟩⟩
 ·exact hsp.elim
 rotate_left
 ·apply h1.int_ hsp;intro a t hsp;apply h2.int_ hsp;intro b u hsp;refine min_two_ints X.hh fun h' tk hk=> ?_;by_cases z:b<a
  ·rw[if_pos z];rw[if_pos z]at hsp;exact hK _ _ _ _ _ (.refl F) (R.grow hk) (.int _ _) hsp
  ·rw[if_neg z];rw[if_neg z]at hsp;exact hK _ _ _ _ _ (.refl F) (R.grow hk) (.int _ _) hsp
 ·exact hsp.elim
 ·apply h1.lst_ hsp;rintro l a vs n ⟨ns,rfl,hne,hz,hq⟩ e r;refine xI r hne fun xs ex hsz hns=> ?_;refine min_intList X.hh ⟨_,R.fz _ _ e,rfl,n,by rw[←ex]⟩ hsz fun v h' tk hv hk=> ?_
  obtain⟨t,rfl⟩:=intItems_at hv;obtain⟨h1,h2⟩:=argBest_lt (numAt xs) (xs.size-1);exact hK _ _ _ _ _ (.refl F) (R.grow hk) (.int _ _) (hq _ (AP hns (by exact Nat.lt_of_le_pred hsz h1)) (AO hns h2))
theorem AW:dm W (xM (.builtin "max")) GF:=tD fun {X F rho sg s v c Q K E} R h1 hf hK=>by
 apply h1.lst_ hf;rintro l a vs n ⟨ns,rfl,hne,hz,hq⟩ e r;refine xI r hne fun xs ex hsz hns=> ?_;refine max_intList X.hh ⟨_,R.fz _ _ e,rfl,n,by rw[←ex]⟩ hsz fun v h' tk hv hk=> ?_
 obtain⟨t,rfl⟩:=intItems_at hv;obtain⟨h1,h2⟩:=argBest_gt (numAt xs) (xs.size-1);exact hK _ _ _ _ _ (.refl F) (R.grow hk) (.int _ _) (hq _ (AP hns (by exact Nat.lt_of_le_pred hsz h1)) (AO hns h2))
inductive Df(sg:Sg)(Q:CV→Sg→Prop)(c:CV):Prop
 |mk (l:List CV):Es sg c l→small l.length→Q (.lst l) sg→Df sg Q c
def wA:ao:=Ex fun c sg Q=>Df sg Q c
theorem tE:dm W (xM (.type "list")) wA:=tD fun {X F rho sg s v c Q K E} R h1 hf hK=>by
 obtain⟨l,hl,hz,hq⟩:=hf;apply R.lsOf h1 hl;intro a vs n e r;refine call_list_seq a (.inl rfl) e rfl rfl (fun h' c' hk hD=> ?_) (by rw[dv r];exact hz.line)
 obtain⟨le,R2⟩:=R.addF (tk:=s.toks) hk bJ hD;exact hK _ _ _ _ _ le R2 (.lst (Fz.put_self ..) (r.mono le)) hq
noncomputable def ID(l:List Str):List CV:=l.map .str
def BR:ao:=Ex fun c sg Q=>LH (fun l=>l.length<64∧∀ks:List Str,ks.Perm (l.map (·.1))→Q (.lst (ID ks)) sg) c
theorem Af{vs:List Value}{ss:List Str}(h:StrsAre vs ss):b6 W F vs (ID ss):=by
 induction h with
 |nil=>exact .nil
 |cons _ _ _ ih=>exact .cons (.str _ _) ih
theorem xA{vs:List Value}:∀{ss:List Str},vs.length=ss.length→(∀(j:Nat) (v:Value),vs[j]? =some v→∃k t,ss[j]? =some k∧v= .str k t)→StrsAre vs ss:=by
 induction vs with
 |nil=>intro ss h _;cases List.length_eq_zero_iff.mp h.symm;exact .nil
 |cons v vs ih=>
  intro ss h hi;cases ss with
  |nil=>cases h
  |cons k ss=>
   obtain⟨k',t,hk,rfl⟩:=hi 0 v rfl;cases hk;exact .cons _ _ (ih (Nat.succ.inj h) fun j u hj=>hi (j+1) u hj)
theorem AZ:dm W (xM (.builtin "sorted")) BR:=tD fun {X F rho sg s v c Q K E} R h1 hf hK=>by
  apply h1.sd_ hf;rintro l a o kvs ⟨hz,hq⟩ e1 n1 d1 v1;have hd:s.heap.DictOf (PySem.strKind W.prog W.w) a kvs:=Heap.dictOf_iff.mpr ⟨_,R.fz _ _ e1,d1⟩;obtain⟨ep,hat⟩:=hd.dictAt;refine call_function_entry kind_sorted plain_sorted entry_sorted (args_sorted1 _) ?_;refine wpAny_bind (m:=checkCount "sorted" 1 1 _) (wpAny_pure ?_);refine wpAny_bind (kdu_collect (A:=X.A.in1) (kdl_dict (knd:=PySem.strKind W.prog W.w) (kvs:=kvs) (ep:=ep) (hH n1)) X.hh hat (by rw[v1.length,sizeLine_eq];exact Nat.le_trans (Nat.le_of_lt (by assumption)) (by decide)) fun h' tk acc hk hacc=> ?_)
  have hlen:acc.toList.length=l.length:=by rw[Array.length_toList,hacc.1,v1.length]
  refine wpAny_bind (wpAny_newList ?_ (by rw[hlen,sizeLine_eq];exact Nat.le_trans (Nat.le_of_lt (by assumption)) (by decide)))
  have hss:StrsAre acc.toList (l.map (·.1)):=by
   have hitem:∀(j:Nat) (v:Value),acc.toList[j]? =some v→∃k t,(l.map (·.1))[j]? =some k∧v= .str k t:=fun j v hj=>by
    obtain⟨k,x,hx,hk'⟩:=hacc.2 j v (by rw[←Array.getElem?_toList];exact hj)
    obtain⟨t,rfl⟩:=pH hk';refine el12 (v1.get hx) fun c hc O=> ?_;exact⟨k,t,by rw[List.getElem?_map,hc];rfl,rfl⟩
   have hl2:acc.toList.length=(l.map (·.1)).length:=by rw[hlen,List.length_map]
   exact xA hl2 hitem
  have hoL:(h'.push {cls:= .type "list",data:= .seq acc.toList.toArray}).get? h'.objs.size=some (seqObj "list" acc.toList.toArray 0):=Heap.get?_push_size _ rfl;have hno:s.heap.get? h'.objs.size=none:=by
   cases q:s.heap.get? h'.objs.size with
   |none=>rfl
   |some o=>exact absurd (Heap.lt_size (hk _ _ q)) (Nat.lt_irrefl _)
  refine wpAny_bind (wpAny_holding (wpAny_call_entry slot_list_sort ⟨_,hoL,rfl⟩ entry_list_sort (list_sort_treeK strKind_oneLt hoL hss.keysOf (fun v₁ v₂ rest e=>keyKind_strs (by rw[←e];exact hss)) (by rw[hlen];exact hz) fun st' a1 a2=>⟨_,rfl,?_⟩) (args_list_sort _)))
  refine dp fun C_ k_=> ?_;obtain⟨ss',b1,b2,b3⟩:=sorted_out_str hss a1 a2;refine k_ ?_;refine wpAny_pure ⟨_,rfl,?_⟩;refine dp fun C_ k_=> ?_;obtain⟨e2,he2⟩:=sortedHeap_at (out:=(arrOf st').map (·.2)) hoL;have keep:∀b o,s.heap.get? b=some o→(sortedHeap (h'.push {cls:= .type "list",data:= .seq acc.toList.toArray}) h'.objs.size acc.toList ((arrOf st').map (·.2))).get? b=some o:=fun b o q=>by
   have q':=hk _ _ q;have hlt:=Heap.lt_size q';rw[sortedHeap_old (Nat.ne_of_lt hlt) (by rw[size_push'];exact Nat.lt_succ_of_lt hlt)]
   exact aY _ _ _ _ q'
  obtain⟨le,R2⟩:=R.addF (tk:=tk) keep hno he2;refine k_ ?_;exact hK _ _ _ _ _ le R2 (.lst (vs:=((arrOf st').map (·.2)).toList) (Fz.put_self ..) (Af b1)) (hq _ b2)
end
section
variable {W:Wd}{X:FX}{F:Fz}{rho:bp}{sg sg':Sg}{s:Shared}
theorem Dm{prog:Program}{w:World}{A:Around}{I:Addr}{fp wr:List Addr}{n:Nat}{P:Nat→Value→Prop}{St:Nat→Heap→Prop}(W:Walks prog w A I fp wr n P St):Walks prog w A I fp wr n (fun i v=>i<n∧P i v) St where
 sub:=W.sub
 frame:=W.frame
 item:=fun i s Q E hi st hQ=>W.item i s Q E hi st fun v h' tk hp=>hQ v h' tk ⟨hi,hp⟩
 done:=W.done
 self:=W.self
noncomputable def oW(n:Int):List CV:=(List.range n.toNat).map fun i=> .int (i:Nat)
def Gk(K:CV→Sg→Prop)(cs:List CV)(sg:Sg):Prop:=match cs with|[c]=>K c sg|_=>False
theorem uP{K:CV→Sg→Prop}{vs:List Value}{cs:List CV}(h:Gk K cs sg)(r:b6 W F vs cs){Z:List Value→Prop}(k:∀v c,K c sg→bC W F v c→Z [v]):Z vs:=by
 cases cs with
 |nil=>exact h.elim
 |cons c l=>cases l with
  |nil=>cases r with|cons r r'=>cases r';exact k _ c h r
  |cons _ _=>exact h.elim
def Ir(i:Nat)(B:PS)(rho:bp)(Q:Fl→bp→Sg→Prop)(c:CV)(sg1:Sg):Prop:=CO (fun n=>0≤n∧n≤1000∧dJ B i (oW n) rho sg1 Q) c
def It(i:Nat)(B:PS)(rho:bp)(Q:Fl→bp→Sg→Prop)(c:CV)(sg1:Sg):Prop:=GR (fun l=>dJ B i l.reverse rho sg1 Q) c
def Cr(i:Nat)(p:PE)(B:PS):PS:=fun rho sg Q=>p rho sg (Ir i B rho Q)
theorem om{ns gs:List Str}{sc:Scope}{n m:Nat}{body:List Stmt}{B:PS}{x:Str}{px pos cp np:Pos}{e:Expr}{p:PE}(i j:Nat)(hn:X.names=ns)(hg:X.globs=gs)(hsc:X.env.scope=sc)(hnn:X.n=n)(hm:X.m=m)(hx:ns[i]? =some x)(hi:i<m)
  (hj:gs[j]? =some (Str.ofString "range")) (hv:nsIn W.K mainGlobals (Str.ofString "range")=some none) (hb:bootBuiltins (Str.ofString "range")=some (.type "range"))
  (he:starEach [e] X.env=(false,eval e X.env)::starEach [] X.env) (hpl:(backTo cp (starEach [] X.env)).any (·.1)=false)
  (hs:∀v,foldedSetIterable (.Call (.Name (Str.ofString "range") np) [e] [] cp) X.env v=pure v) (h:cQ W X e p) (hB:xE W X.A X.env ns gs sc n m body B):
  r_ W X (.For (.Name x px) (.Call (.Name (Str.ofString "range") np) [e] [] cp) body [] pos) (Cr i p B):= .of fun rho sg Q E hp F s K R hK=>by
 refine wpAny_For (Call_ (gE j hg hj hv hb (by decide) R ?_)) hs
 refine PyProof.Rows.callWith_type1 ((ae (pos:=cp) he h af).go (Q:=Gk (Ir i B rho Q)) hp R fun G vs cs sg1 s1 le1 R1 r1 h1=> ?_) he hpl;apply uP h1 r1;intro v c h1 r1;apply r1.int_ h1;rintro n t ⟨h0,hz,hc⟩;refine call_range_1 ?_;have hr:=IsRange.new s1.heap 0 n 1 s1.toks t (s1.toks+1);refine wpAny_pyIter_range hr (small_one (by decide) (by decide) (by lia) (by exact Int.lt_of_le_of_lt (by assumption) (by decide))) ?_
 have hrs:Builtin.Range.rangeSize 0 n 1=(n.toNat:Int):=by rw[rangeSize_one];split<;>lia
 have R2:bc W X G rho sg1 {s1 with heap:=s1.heap.push {cls:= .type "range",data:= .fields #[.int 0 s1.toks,.int n t,.int 1 (s1.toks+1)]},toks:=s1.toks+1+1}:=R1.grow (aY _ _);have R3:=R2.grow (h':=(s1.heap.push {cls:= .type "range",data:= .fields #[.int 0 s1.toks,.int n t,.int 1 (s1.toks+1)]}).push {cls:= .type "range_iterator",data:= .fields #[rawInt 0,rawInt (Builtin.Range.rangeSize 0 n 1),rawInt 1]}) (tk:=s1.toks+1+1) (aY _ _);refine zd i hn hg hsc hnn hm hx hi hB (Dm (Walks.range X.hh _ 0 1 n.toNat)) (fun b hb hne=>absurd (List.mem_singleton.mp hb) hne) (fun k h hst=>⟨_,hst⟩) (cs:=oW n) (by simp[oW]) (fun k v hP=> ?_) R3 (R2.fresh bJ) ?_ hc
  fun G2 f g rho' sg' s' le2 R' hf hq=>hK G2 f g _ _ _ (le1.trans le2) R' hf hq
 ·obtain⟨hk,t',rfl⟩:=hP;refine⟨.int k,by simp[oW,hk],?_⟩
  rw[show(0:Int)+k*1=k by lia]
  exact .int _ _
 ·show IsRangeIter _ _ _ _ _;have e1:(0:Int)+((0:Nat):Int)*1=0:=by decide
  have e2:(n.toNat:Int)-((0:Nat):Int)=n.toNat:=by exact rfl
  rw[e1,e2,←hrs];exact Heap.get?_push_size _ rfl
def I7(i:Nat)(p:PE)(B:PS):PS:=fun rho sg Q=>p rho sg (It i B rho Q)
theorem Ht{ns gs:List Str}{sc:Scope}{n m:Nat}{body:List Stmt}{B:PS}{x:Str}{px pos cp np:Pos}{e:Expr}{p:PE}(i j:Nat)(hn:X.names=ns)(hg:X.globs=gs)(hsc:X.env.scope=sc)(hnn:X.n=n)(hm:X.m=m)(hx:ns[i]? =some x)(hi:i<m)
  (hj:gs[j]? =some (Str.ofString "reversed")) (hv:nsIn W.K mainGlobals (Str.ofString "reversed")=some none) (hb:bootBuiltins (Str.ofString "reversed")=some (.type "reversed"))
  (he:starEach [e] X.env=(false,eval e X.env)::starEach [] X.env) (hpl:(backTo cp (starEach [] X.env)).any (·.1)=false)
  (hs:∀v,foldedSetIterable (.Call (.Name (Str.ofString "reversed") np) [e] [] cp) X.env v=pure v) (h:cQ W X e p) (hB:xE W X.A X.env ns gs sc n m body B):
  r_ W X (.For (.Name x px) (.Call (.Name (Str.ofString "reversed") np) [e] [] cp) body [] pos) (I7 i p B):= .of fun rho sg Q E hp F s K R hK=>by
 refine wpAny_For (Call_ (gE j hg hj hv hb (by decide) R ?_)) hs
 refine PyProof.Rows.callWith_type1 ((ae (pos:=cp) he h af).go (Q:=Gk (It i B rho Q)) hp R fun G vs cs sg1 s1 le1 R1 r1 h1=> ?_) he hpl;apply uP h1 r1;intro v c h1 r1;apply r1.lst_ h1;intro l a vs n' hc e1 v1;have hl:s1.heap.IsList a vs.toArray:=⟨_,R1.fz _ _ e1,rfl,_,rfl⟩;have hlt:a<s1.heap.objs.size:=Heap.lt_size (R1.fz _ _ e1);refine call_reversed_list hl ?_;have hit:(s1.heap.push (revObj a ((vs.toArray.size:Int)-1))).IsRevIter s1.heap.objs.size a ((vs.toArray.size:Int)-1):=⟨_,Heap.get?_push_size _ rfl,rfl,rfl⟩;refine wpAny_pyIter_revIter (s:={s1 with heap:=s1.heap.push (revObj a ((vs.toArray.size:Int)-1))}) hit ?_;have R2:bc W X G rho sg1 {s1 with heap:=s1.heap.push (revObj a ((vs.toArray.size:Int)-1)),toks:=s1.toks}:=R1.grow (aY _ _);have hsz:=dv v1;refine zd i hn hg hsc hnn hm hx hi hB (Dm (Walks.listRev X.hh s1.heap.objs.size a (Nat.ne_of_lt hlt) vs.toArray)) (fun b hb hne=> ?_) (fun k h hst=>let⟨_,⟨o,e,_⟩,_⟩:=hst;⟨o,e⟩) (cs:=l.reverse) (by rw[hsz];simp) (fun k v hP=> ?_) R2 (R1.fresh bJ |>.mono (R1.F_none bJ) (R1.fresh bJ).o) ⟨Nat.zero_le _,by simpa using hit,hl.push _⟩ hc
  fun G2 f g rho' sg' s' le2 R' hf hq=>hK G2 f g _ _ _ (le1.trans le2) R' hf hq
 ·simp at hb
  rcases hb with rfl|rfl
  ·exact absurd rfl hne
  ·exact⟨_,e1⟩
 ·obtain⟨hk,hP⟩:=hP;refine el12 (v1.getv (by simpa using hP)) fun c hc hv=> ?_
  refine⟨c,?_,hv⟩;rw[hsz]at hk;rw[List.getElem?_reverse hk];rw[←v1.length];exact hc
end
theorem yk:Manifest.owners.lookup (String.ofList ['d','e','s','r','e','v','e','r'].reverse)=some Manifest.sig_reversed:=by kernel_rfl
theorem fJ:Slot "reversed" "__next__" "reversed.__next__":=
 .of (owner:="reversed") (n:="__next__") (by rw[typeLookup_type,builtinLookup_eq_fast];kernel_rfl) (by decide+kernel) (by decide+kernel) (by decide+kernel)
  (by first|exact .inl (by decide+kernel)|exact .inr (by decide+kernel)) (by rw[isSubtype_type];kernel_rfl)
theorem nc:entryFor table "reversed.__next__"=some Builtin.«reversed.__next__»:=entryFor_of_tree (by kernel_rfl)
theorem l9(a:Value):argsOk "reversed.__next__" ⟨[a],[]⟩:=by
 unfold argsOk;rw[signature?_of (id:="reversed.__next__") (n:=['_','_','t','x','e','n','_','_']) (o:=['d','e','s','r','e','v','e','r']) (by kernel_rfl) yk];kernel_rfl
theorem pF:Slot "reversed" "__iter__" "reversed.__iter__":=
 .of (owner:="reversed") (n:="__iter__") (by rw[typeLookup_type,builtinLookup_eq_fast];kernel_rfl) (by decide+kernel) (by decide+kernel) (by decide+kernel)
  (by first|exact .inl (by decide+kernel)|exact .inr (by decide+kernel)) (by rw[isSubtype_type];kernel_rfl)
theorem uz(a:Value):argsOk "reversed.__iter__" ⟨[a],[]⟩:=by
 unfold argsOk;rw[signature?_of (id:="reversed.__iter__") (n:=['_','_','r','e','t','i','_','_']) (o:=['d','e','s','r','e','v','e','r']) (by kernel_rfl) yk];kernel_rfl
theorem vF:entryFor table "reversed.__iter__"=some Builtin.«dict_keyiterator.__iter__»:=
 entryFor_alias (id':="dict_keyiterator.__iter__") (by kernel_rfl) (by first|rfl|decide+kernel|(unfold String.splitOn;simp+decide [String.splitOnAux])) (by decide+kernel) (by kernel_rfl)
theorem xy:Slot "reversed" "__init__" "object.__init__":=
 .of (owner:="object") (n:="__init__") (by rw[typeLookup_type,builtinLookup_eq_fast];kernel_rfl) (by decide+kernel) (by decide+kernel) (by decide+kernel)
  (by first|exact .inl (by decide+kernel)|exact .inr (by decide+kernel)) (by rw[isSubtype_type];kernel_rfl)
theorem Cb:TypeCalled "reversed" "reversed.__new__" "object.__init__":=
 ⟨by decide+kernel,by decide+kernel,⟨_,_,PySem.F.mro_reversed⟩,PySem.F.made_reversed,by decide+kernel,PySem.F.sub_reversed_self,xy⟩
theorem wJ:typeLookup (.type "tuple") "__reversed__"=pure none:=by rw[typeLookup_type,builtinLookup_eq_fast];kernel_rfl
theorem Ag:isSubtype (.type "tuple") (.type "dict")=pure false:=by rw[isSubtype_type];kernel_rfl
section
variable {prog:Program}{w:World}{A:Around}{E:Value→Shared→Prop}{s:Shared}
noncomputable def wv(l:Addr)(i:Int):Obj:={cls:= .type "reversed",data:= .fields #[.ref l,rawInt i]}
theorem BK{l:Addr}{o:Obj}{items:Array Value}{n:Nat}(hc:o.cls= .type "tuple")(hd:o.data= .seq items n)(hfit:(items.size:Int)<2 ^ 63):
  Meets (Builtin.«reversed.__new__» ⟨[.type "reversed",.ref l],[]⟩) (fun O R s=>s.heap.get? l=some o∧∀tk,R (.ok (.ret (.ref s.heap.objs.size))) {s with heap:=s.heap.push (wv l ((items.size:Int)-1)),toks:=tk}):=
 .of_wp fun prog w A R s ⟨ho,h⟩=>by
  have hT:s.TypeIs (.ref l) "tuple":=⟨_,ho,hc⟩;have ht:IsTup s.heap l items:=⟨_,ho,hc,_,hd⟩;refine wpAny_bind (wpAny_of_eq (newClass_reversed _) ?_)
  try dsimp only
  refine wpAny_bind (wpAny_of_eq (a:=()) (by first|rfl|kernel_rfl) ?_)
  refine wpAny_bind (wpAny_of_eq (a:=()) (by first|rfl|kernel_rfl) ?_)
  try dsimp only
  refine wpAny_bind (wpAny_specialOf hT wJ ?_)
  try dsimp only
  refine wpAny_bind ?_
  wp_delta
  refine wpAny_bind (wpAny_isInstance hT Ag ?_);rw[if_neg (by decide)]
  refine wpAny_bind (wpAny_specialOf hT slot_tuple_getitem.lookup ?_)
  try dsimp only
  rw[if_pos (by decide+kernel)]
  refine wpAny_pure ?_;rw[if_neg (by decide)]
  refine wpAny_bind (len_tuple ht hfit ?_);refine wpAny_bind (wpAny_of_eq (a:=some (items.size:Int)) (by first|rfl|kernel_rfl) ?_)
  try dsimp only
  refine wpAny_bind ?_;unfold Builtin.SmallTypes.newRecord
  try dsimp only
  exact wpAny_newObj_type (wpAny_pure ⟨_,rfl,h _⟩)
theorem qS{l:Addr}{o:Obj}{items:Array Value}{n:Nat}{Q:Value→Shared→Prop}(ho:s.heap.get? l=some o)(hc:o.cls= .type "tuple")(hd:o.data= .seq items n)(hfit:(items.size:Int)<2 ^ 63)
  (h:∀tk,Q (.ref s.heap.objs.size) {s with heap:=s.heap.push (wv l ((items.size:Int)-1)),toks:=tk}):wpAny (model prog w) A (call (.type "reversed") [.ref l]) Q E s:=
 callType_new Cb rfl (PySem.F.typeCall_reversed_1 _) (PySem.F.newCall_reversed_1 _) (fun obj=>PySem.F.args_object_init_2 obj _) PySem.F.entry_reversed_new
  (BK hc hd hfit) ⟨ho,fun tk=>⟨⟨_,Heap.get?_push_size _ rfl,rfl⟩,h tk⟩⟩
def uR(h:Heap)(a l:Addr)(i:Int):Prop:=∃o,h.get? a=some o∧o.cls= .type "reversed"∧o.data= .fields #[.ref l,rawInt i]
theorem uR.typeIs{a l:Addr}{i:Int}(x:uR s.heap a l i):s.TypeIs (.ref a) "reversed":=let⟨o,ho,hc,_⟩:=x;⟨o,ho,hc⟩
theorem uR.at{h h':Heap}{a l:Addr}{i:Int}(x:uR h a l i)(e:∀o,h.get? a=some o→h'.get? a=some o):uR h' a l i:=let⟨o,ho,r⟩:=x;⟨o,e _ ho,r⟩
theorem yr{it l:Addr}{i:Int}{Q:Value→Shared→Prop}(hit:uR s.heap it l i)(h:Q (.ref it) s):wpAny (model prog w) A (pyIter (.ref it)) Q E s:=by
 refine wpAny_pyIter_slot hit.typeIs pF (wpAny_call_entry pF hit.typeIs vF ?_ (uz _));show wpAny _ _ (ret (.ref it)) _ _ s;exact wpAny_pure ⟨_,rfl,"reversed",_,hit.typeIs,fJ.lookup,h⟩
theorem wt{it l:Addr}{i:Nat}{items:Array Value}{x:Value}{Q:Option Value→Shared→Prop}(hit:uR s.heap it l (i:Int))(hl:IsTup s.heap l items)(hx:items[i]? =some x)(hsm:items.size≤1000)
  (hQ:∀h' tk,uR h' it l ((i:Int)-1)→Heap.SameBut it s.heap h'→Q (some x) {s with heap:=h',toks:=tk}):wpAny (model prog w) A (pyNext (.ref it)) Q E s:=by
 refine el13 (id hit) fun o ho hc hd=> ?_;have hi:=(Array.getElem?_eq_some_iff.mp hx).1;refine wpAny_bind (wpAny_attempt (wpAny_callSpecial?_slot (name:=Str.ofString "__next__") hit.typeIs fJ
  (wpAny_call_entry fJ hit.typeIs nc ?_ (l9 _))))
 refine wpAny_bind (wpAny_of_eq (a:=(Value.ref it,[])) rfl ?_)
 try dsimp only
 refine wpAny_bind (wpAny_field ho hd (x:= .ref l) rfl ?_);refine wpAny_bind (wpAny_field ho hd (x:=rawInt (i:Int)) rfl ?_);show wpAny _ _ (if(i:Int)<0 then _ else _) _ _ s
 rw[if_neg (by exact Int.not_ofNat_neg i)]
 refine wpAny_bind (wpAny_specialOf hl.typeIs slot_tuple_getitem.lookup ?_)
 try dsimp only
 rw[if_neg (by simp)]
 refine wpAny_bind (wpAny_mkInt ?_);have hl2:IsTup ({s with toks:=s.toks+1}:Shared).heap l items:=hl;refine wpAny_bind (wpAny_attempt (getItem_tuple (k:=i) hl2 (Int.neg_ofNat_le_natCast (2 ^ 63) i) (Hs hsm (Int.ofNat_lt.mpr hi)) (seqIndex_of (Int.natCast_nonneg i) (Int.ofNat_lt.mpr hi)) hx ?_))
 try dsimp only
 refine wpAny_bind (wpAny_field ho hd (x:=rawInt (i:Int)) rfl ?_);show wpAny _ _ (setField (.ref it) 1 (rawInt ((i:Int)-1)) >>= _) _ _ _;refine wpAny_bind (wpAny_setField ho hd (by simp) ?_)
 refine wpAny_pure ⟨x,rfl,wpAny_pure (hQ _ _ ?_ (Heap.SameBut.update ..))⟩;exact⟨_,Heap.get?_update_self _ ho (Obj.isFreed_of_fields (Obj.data_mapFields hd _)),(Obj.cls_mapFields ..).trans hc,by
  rw[Obj.data_mapFields hd];simp⟩
theorem xx{it l:Addr}{Q:Option Value→Shared→Prop}(hh:A.handled=none)(hit:uR s.heap it l (-1))
  (hQ:∀h',Heap.ExtBut it s.heap h'→Q none {s with heap:=h'}):wpAny (model prog w) A (pyNext (.ref it)) Q E s:=by
 refine el13 (id hit) fun o ho hc hd=> ?_;refine wpAny_bind (wpAny_attempt (wpAny_callSpecial?_slot (name:=Str.ofString "__next__") hit.typeIs fJ
  (wpAny_call_entry fJ hit.typeIs nc ?_ (l9 _))))
 refine wpAny_bind (wpAny_of_eq (a:=(Value.ref it,[])) rfl ?_)
 try dsimp only
 refine wpAny_bind (wpAny_field ho hd (x:= .ref l) rfl ?_);refine wpAny_bind (wpAny_field ho hd (x:=rawInt (-1)) rfl ?_);show wpAny _ _ (if(-1:Int)<0 then _ else _) _ _ s
 rw[if_pos (by decide)]
 refine wpAny_bind (wpAny_rule ?_);refine wpAny_bind ?_
 wp_delta
 refine wpAny_bind (wpAny_setField ho hd (by simp) ?_)
 have h1:=Heap.get?_update_self (Obj.mapFields fun xs=>xs.setIfInBounds 1 (rawInt (-1))) ho (Obj.isFreed_of_fields (Obj.data_mapFields hd _));refine wpAny_setField h1 (Obj.data_mapFields hd _) (by simp) ?_
 have hext:Heap.ExtBut it s.heap ((s.heap.update it (Obj.mapFields fun xs=>xs.setIfInBounds 1 (rawInt (-1)))).update it (Obj.mapFields fun xs=>xs.setIfInBounds 0 Value.none)):=fun b o hb e=>(Heap.get?_update_ne _ _ _ _ hb).trans ((Heap.get?_update_ne _ _ _ _ hb).trans e)
 first
 |show wpAny _ _ (newExc (.type "StopIteration") [] >>= _) _ _ _
 |(refine wpAny_bind ?_;show wpAny _ _ (newExc (.type "StopIteration") [] >>= _) _ _ _)
 refine wpAny_bind ?_;simp only[newExc,newTuple];refine wpAny_bind (wpAny_newObj_type ?_ (by size_fits))
 refine wpAny_bind (m:=firstArgMember _ _) (wpAny_of_eq (a:=Value.none) (by first|rfl|(simp only[firstArgMember];rfl)) ?_)
 refine wpAny_newObj_type ?_ (by size_fits)
 simp only[raiseNew];refine wpAny_bind (wpAny_handled ?_)
 first|rw[show A.in1.handled=none from hh]|rw[hh]
 refine wpAny_bind (wpAny_pure (wpAny_throw ?_));refine wpAny_bind (wpAny_isInstance (T:="StopIteration") (b:=true) ⟨_,Heap.get?_push_size _ rfl,rfl⟩ isSubtype_stop ?_);exact wpAny_pure (hQ _ ((hext.push _).push _))
end
theorem C6{h h':Heap}{a:Addr}{items:Array Value}(x:IsTup h a items)(e:∀o,h.get? a=some o→h'.get? a=some o):IsTup h' a items:=let⟨o,ho,r⟩:=x;⟨o,e _ ho,r⟩
theorem H7{prog:Program}{w:World}{A:Around}(hh:A.handled=none)(I l:Addr)(hne:l≠I)(items:Array Value)(hsm:items.size≤1000):
  Walks prog w A I [I,l] [I] items.size (fun i v=>items[items.size-1-i]? =some v) (fun i h=>i≤items.size∧uR h I l ((items.size:Int)-1-(i:Int))∧IsTup h l items) where
 sub:=fun b hb=>by simp at hb;simp[hb]
 frame:=fun O O O x hk=>⟨x.1,x.2.1.at fun o e=>hk I (by simp) o e,C6 x.2.2 fun o e=>hk l (by simp) o e⟩
 item:=fun i s Q E hi x hQ=>by
  have e:(items.size:Int)-1-(i:Int)=((items.size-1-i:Nat):Int):=by rw[Int.ofNat_sub (Nat.le_sub_one_of_lt hi),Int.ofNat_sub (Nat.zero_lt_of_lt hi)];rfl
  have hit:=x.2.1;rw[e]at hit;have hx:items[items.size-1-i]? =some (items[items.size-1-i]'(by exact Nat.sub_one_sub_lt_of_lt hi)):=Array.getElem?_eq_getElem (by exact Nat.sub_one_sub_lt_of_lt hi)
  refine wt hit x.2.2 hx hsm fun h' tk hit' hs'=> ?_;have e2:((items.size-1-i:Nat):Int)-1=(items.size:Int)-1-((i+1:Nat):Int):=by rw[←e,Int.sub_sub];rfl
  rw[e2]at hit';exact hQ _ h' tk hx ⟨hi,hit',C6 x.2.2 fun o eo=>(hs'.2 l hne).trans eo⟩ fun b o hb eo=>hs'.extBut b o (fun h=>hb (by simp[h])) eo
 done:=fun s Q E x hQ=>by
  have e:(items.size:Int)-1-(items.size:Int)= -1:=by exact Int.sub_eq_iff_eq_add'.mpr rfl
  have hit:=x.2.1;rw[e]at hit;exact xx hh hit fun h' he'=>hQ h' s.toks fun b o hb eo=>he' b o (fun h=>hb (by simp[h])) eo
 self:=fun O O O O x hQ=>yr x.2.1 hQ
section
variable {W:Wd}{X:FX}{F:Fz}{rho:bp}{sg sg':Sg}{s:Shared}
def FF(i:Nat)(B:PS)(rho:bp)(Q:Fl→bp→Sg→Prop)(c:CV)(sg1:Sg):Prop:=Kx (fun l=>small l.length∧dJ B i l.reverse rho sg1 Q) c
def Iu(i:Nat)(p:PE)(B:PS):PS:=fun rho sg Q=>p rho sg (FF i B rho Q)
theorem FR{ns gs:List Str}{sc:Scope}{n m:Nat}{body:List Stmt}{B:PS}{x:Str}{px pos cp np:Pos}{e:Expr}{p:PE}(i j:Nat)(hn:X.names=ns)(hg:X.globs=gs)(hsc:X.env.scope=sc)(hnn:X.n=n)(hm:X.m=m)(hx:ns[i]? =some x)(hi:i<m)
  (hj:gs[j]? =some (Str.ofString "reversed")) (hv:nsIn W.K mainGlobals (Str.ofString "reversed")=some none) (hb:bootBuiltins (Str.ofString "reversed")=some (.type "reversed"))
  (he:starEach [e] X.env=(false,eval e X.env)::starEach [] X.env) (hpl:(backTo cp (starEach [] X.env)).any (·.1)=false)
  (hs:∀v,foldedSetIterable (.Call (.Name (Str.ofString "reversed") np) [e] [] cp) X.env v=pure v) (h:cQ W X e p) (hB:xE W X.A X.env ns gs sc n m body B):
  r_ W X (.For (.Name x px) (.Call (.Name (Str.ofString "reversed") np) [e] [] cp) body [] pos) (Iu i p B):= .of fun rho sg Q E hp F s K R hK=>by
 refine wpAny_For (Call_ (gE j hg hj hv hb (by decide) R ?_)) hs
 refine PyProof.Rows.callWith_type1 ((ae (pos:=cp) he h af).go (Q:=Gk (FF i B rho Q)) hp R fun G vs cs sg1 s1 le1 R1 r1 h1=> ?_) he hpl;apply uP h1 r1;intro v c h1 r1;apply r1.tup_ h1;rintro l a o vs n' ⟨hz,hc⟩ e1 c1 d1 v1;have hsz:=dv v1;have hl:=kP R1 e1 c1 d1;have hlt:a<s1.heap.objs.size:=Heap.lt_size (R1.fz _ _ e1);refine qS (R1.fz _ _ e1) c1 d1 (by rw[hsz];exact Ls hz) fun tk=> ?_
 have hit:uR (s1.heap.push (wv a ((vs.toArray.size:Int)-1))) s1.heap.objs.size a ((vs.toArray.size:Int)-1):=⟨_,Heap.get?_push_size _ rfl,rfl,rfl⟩;refine yr (s:={s1 with heap:=s1.heap.push (wv a ((vs.toArray.size:Int)-1)),toks:=tk}) hit ?_;have R2:bc W X G rho sg1 {s1 with heap:=s1.heap.push (wv a ((vs.toArray.size:Int)-1)),toks:=tk}:=R1.grow (aY _ _);refine zd i hn hg hsc hnn hm hx hi hB (Dm (H7 X.hh s1.heap.objs.size a (Nat.ne_of_lt hlt) vs.toArray (by rw[hsz];exact hz))) (fun b hb hne=> ?_) (fun k h hst=>let⟨_,⟨o,e,_⟩,_⟩:=hst;⟨o,e⟩) (cs:=l.reverse) (by rw[hsz];simp) (fun k v hP=> ?_) R2 (R1.fresh bJ |>.mono (R1.F_none bJ) (R1.fresh bJ).o) ⟨Nat.zero_le _,by simpa using hit,C6 hl fun o e=>aY _ _ _ _ e⟩ hc
  fun G2 f g rho' sg' s' le2 R' hf hq=>hK G2 f g _ _ _ (le1.trans le2) R' hf hq
 ·simp at hb
  rcases hb with rfl|rfl
  ·exact absurd rfl hne
  ·exact⟨_,e1⟩
 ·obtain⟨hk,hP⟩:=hP;refine el12 (v1.getv (by simpa using hP)) fun c hc hv=> ?_
  refine⟨c,?_,hv⟩;rw[hsz]at hk;rw[List.getElem?_reverse hk];rw[←v1.length];exact hc
end
theorem EG{prog:Program}{w:World}{A:Around}{I:Addr}{fp wr:List Addr}{n:Nat}{P:Nat→Value→Prop}{St:Nat→Heap→Prop}(W:Walks prog w A I fp wr n P St)(pre:Array Value):
  Walks prog w A I fp wr (pre.size+n) (fun i v=>(i<pre.size∧pre[i]? =some v)∨(pre.size≤i∧P (i-pre.size) v)) (fun i h=>pre.size≤i∧St (i-pre.size) h) where
 sub:=W.sub
 frame:=fun i h h' st hk=>⟨st.1,W.frame _ _ _ st.2 hk⟩
 item:=fun i s Q E hi st hQ=>W.item (i-pre.size) s Q E (by have:=st.1;exact Nat.sub_lt_left_of_lt_add this hi) st.2 fun v h' tk hp st' hk=>hQ v h' tk (.inr ⟨st.1,hp⟩) ⟨by lia,by rw[show i+1-pre.size=i-pre.size+1 by have:=st.1;exact Nat.sub_add_comm this];exact st'⟩ hk
 done:=fun s Q E st hQ=>W.done s Q E (by have:=st.2;rwa [Nat.add_sub_cancel_left]at this) hQ
 self:=fun i s Q E st hQ=>W.self _ s Q E st.2 hQ
theorem Eu:typeLookup (.type "list_reverseiterator") "__len__"=pure none:=by rw[typeLookup_type,builtinLookup_eq_fast];kernel_rfl
theorem FN:typeLookup (.type "list_reverseiterator") "__length_hint__"=pure (some (.builtin "list_reverseiterator.__length_hint__")):=by rw[typeLookup_type,builtinLookup_eq_fast];kernel_rfl
section
variable {prog:Program}{w:World}{A:Around}{E:Value→Shared→Prop}{s:Shared}
theorem Cp{S I l:Addr}{pre items:Array Value}{n:Nat}{Q:Value→Shared→Prop}(hh:A.handled=none)(hS:s.heap.get? S=some (PySem.W.listOf pre n))(hI:s.heap.IsRevIter I l ((items.size:Int)-1))(hl:s.heap.IsList l items)(hSI:S≠I)(hSl:S≠l)(hlI:l≠I)
  (hn:pre.size+items.size≤sizeLine) (h:∀h' tk c',(∀b o,b≠S→b≠I→s.heap.get? b=some o→h'.get? b=some o)→h'.get? S=some (PySem.W.listOf (pre++items.reverse) c')→Q .none {s with heap:=h',toks:=tk}):
  wpAny (model prog w) A (call (.builtin "list.extend") [.ref S,.ref I]) Q E s:=by
 refine wpAny_call (codeAny_call_builtin PySem.F.slot_list_extend.plain PySem.F.entry_list_extend (PySem.F.slot_list_extend.check _ _ _ _ _ _ _ _ ⟨_,hS,rfl⟩ (PySem.F.args_list_extend_2 _ _) ?_));show wpAny _ A.in1 (Builtin.List.listExtendWith (.ref S) (.ref I) .none) _ _ s;refine wpAny_bind (wpAny_typeOf hI.typeIs ?_);have h1:Builtin.List.listSameRef (.ref S) (.ref I)=false:=by simp[Builtin.List.listSameRef,hSI]
 rw[if_neg (by rw[h1];decide)]
 refine wpAny_bind (wpAny_pyIter_revIter hI ?_);refine wpAny_bind (wpAny_holding ?_);refine wpAny_bind (wpAny_specialOf hI.typeIs Eu ?_);show wpAny _ A.in1 (specialOf (Value.ref I) (Str.ofString "__length_hint__") >>= _) _ _ _;refine wpAny_bind (wpAny_specialOf hI.typeIs FN ?_);generalize hid:("list_reverseiterator.__length_hint__":String)=id0
 wp_delta
 rw[show splitId id0=some ("list_reverseiterator","__length_hint__")from by subst hid;decide+kernel]
 subst hid;refine wpAny_bind (wpAny_isInstance (b:=true) hI.typeIs (by rw[isSubtype_type];kernel_rfl) ?_)
 refine wpAny_pure ?_;rw[if_neg (by decide)]
 have W0:=EG (Dm (Walks.listRev (prog:=prog) (w:=w) (A:=A.in1) hh I l hlI items)) pre;refine wpAny_pure ⟨plainId_quiet PySem.F.plain_extend_loop _,codeAny_extend_loopS W0.toS hn S (by simp[hSI,hSl]) .none items.size pre.size s pre n (by exact Nat.add_sub_self_left pre.size items.size) (by exact Nat.le_add_right pre.size items.size) ⟨Nat.le_refl _,by rw[Nat.sub_self];exact⟨Nat.zero_le _,by simpa using hI,hl⟩⟩ hS ⟨rfl,fun j v hj=> .inl ⟨(Array.getElem?_eq_some_iff.mp hj).1,hj⟩⟩ fun s' acc' c' hm hS' hacc=> ?_⟩
 have he:acc'=pre++items.reverse:=by
  apply Array.ext
  ·rw[hacc.1];simp
  ·intro i h1 h2;have hi:=hacc.2 i acc'[i] (by simp[h1])
   rcases hi with⟨a,b⟩|⟨a,c,d⟩
   ·rw[Array.getElem_append_left a];rw[Array.getElem?_eq_getElem a]at b;exact(Option.some.inj b).symm
   ·rw[Array.getElem_append_right a,Array.getElem_reverse];rw[Array.getElem?_eq_getElem (by exact Nat.sub_one_sub_lt_of_lt c)]at d
    exact(Option.some.inj d).symm
 rw[he]at hS';rw[Moved.eq_with hm];exact h s'.heap s'.toks c' (fun b o hb hb2 e=>hm.heap b o (fun hmem=>by
  rcases List.mem_cons.mp hmem with h|h
  ·exact hb h
  ·exact hb2 (List.mem_singleton.mp h)) e) hS'
end
section
variable {W:Wd}{X:FX}{F:Fz}{rho:bp}{sg sg':Sg}{s:Shared}
theorem bc.updK(R:bc W X F rho sg s){h':Heap}{tk:Nat}{a d:Addr}{m m':MO}(U:gv a m m' sg sg')(hadr:m.adrs a=m'.adrs a)(hd:d∈m.adrs a)(hs:∀b o,b≠d→s.heap.get? b=some o→h'.get? b=some o)(hm:m'.Is W F h' a):
  bc W X F rho sg' {s with heap:=h',toks:=tk}:=by
 refine dp fun C_ k_=> ?_;obtain⟨x,y,rfl,rfl⟩:=U.split;have hmem:d∈X.own++adrs (x++(a,m)::y):=List.mem_append_right _ (dR (p:=(a,m)) (List.mem_append_right _ (.head _)) hd);have hadrs:adrs (x++(a,m')::y)=adrs (x++(a,m)::y):=by rw[de,de,cE,cE];show _++(m'.adrs a++_)=_++(m.adrs a++_);rw[hadr]
 have nd:=R.nd;have dF:=R.ds d hmem;have ne:∀b o,F b=some o→b≠d:=fun b o e q=>by rw[q,dF.1]at e;cases e
 have nk:∀b o,X.kept b=some o→b≠d:=fun b o e q=>by rw[q,dF.2]at e;cases e
 refine k_ ?_;rw[List.nodup_append]at nd;have dA:d∈adrs (x++(a,m)::y):=dR (p:=(a,m)) (List.mem_append_right _ (.head _)) hd;have no:∀b∈X.own,b≠d:=fun b hb q=>nd.2.2 b hb d dA q;have fz:∀b o,F b=some o→h'.get? b=some o:=fun b o e=>hs b o (ne b o e) (R.fz b o e);have keepL:∀o,s.heap.get? X.env.locals=some o→h'.get? X.env.locals=some o:=fun o e=>hs _ o (no _ X.hL) e;have keepC:∀z c,X.env.cells.lookup z=some c→∀o,s.heap.get? c=some o→h'.get? c=some o:=fun z c hc o e=>by
  refine hs c o ?_ e;rcases(X.hce z c hc).2 with h|⟨o',h⟩
  ·exact no c h
  ·exact nk c o' h
 have others:∀p,p∈x∨p∈y→∀b∈p.2.adrs p.1,b≠d:=by
  intro p hp b hb q;subst q;have n2:=nd.2.1;rw[de,cE,List.nodup_append,List.nodup_append]at n2;rcases hp with hp|hp
  ·exact n2.2.2 b (dR hp hb) b (List.mem_append_left _ hd) rfl
  ·exact n2.2.1.2.2 b hd b (dR hp hb) rfl
 exact {
  fz:=fz
  kp:=fun b o e=>hs b o (nk b o e) (R.kp b o e)
  bs:=R.bs
  va:=fun i z c hx hc=>let⟨v,hv,r⟩:=R.va i z c hx hc;⟨v,hv.keep keepL (keepC z),r⟩
  ns:=let⟨m,hn⟩:=R.ns;⟨m,hn.at' keepL⟩
  ce:=fun z c hc=>let⟨v,o,e,r⟩:=R.ce z c hc;⟨v,o,keepC z c hc o e,r⟩
  mo:=fun p hp=>by
   rcases List.mem_append.mp hp with hp|hp
   ·exact(R.mo p (List.mem_append_left _ hp)).keep (.refl F) fz fun b hb o e=>hs b o (others p (.inl hp) b hb) e
   ·rcases List.mem_cons.mp hp with rfl|hp
    ·exact hm
    ·exact(R.mo p (List.mem_append_right _ (.tail _ hp))).keep (.refl F) fz fun b hb o e=>hs b o (others p (.inr hp) b hb) e
  nd:=by rw[hadrs];exact R.nd
  th:=fun b hb=>let⟨o,e⟩:=R.th b hb;⟨o,hs b o (no b hb) e⟩
  ds:=fun b hb=>by rw[hadrs]at hb;exact R.ds b hb
  dk:=R.dk
  gens:=R.gens
  os:=R.os}
inductive IJ(r:CV)(Q:CV→Sg→Prop)(c:CV)(sg2:Sg):Prop
 |mk (k:List CV) (a:Addr) (l:List CV) (sg3:Sg):c= .lst k→r= .ref a→gv a (.lst l) (.lst (l++k.reverse)) sg2 sg3→small (l.length+k.length)→Q .none sg3→IJ r Q c sg2
def Kn(pe:PE)(rho:bp)(Q:CV→Sg→Prop)(r:CV)(sg1:Sg):Prop:=wf r sg1∧pe rho sg1 (IJ r Q)
def FC(po pe:PE):PE:=fun rho sg Q=>po rho sg (Kn pe rho Q)
theorem Ek{gs:List Str}{o e:Expr}{np cp apos pos:Pos}{po pe:PE}{pl:Sem Bool}(j:Nat)(hg:X.globs=gs)(hj:gs[j]? =some (Str.ofString "reversed"))(hv:nsIn W.K mainGlobals (Str.ofString "reversed")=some none)(hb:bootBuiltins (Str.ofString "reversed")=some (.type "reversed"))
  (he:starEach [e] X.env=(false,eval e X.env)::starEach [] X.env) (hpl:(backTo cp (starEach [] X.env)).any (·.1)=false)
  (hc:eval (.Call (.Attribute o (Str.ofString "extend") apos) [.Call (.Name (Str.ofString "reversed") np) [e] [] cp] [] pos) X.env=(do
   let ov ←eval o X.env
   standAt apos.atName
   let(f,first) ←holding [ov] (getMethod ov (Str.ofString "extend") pl)
   callWith pos f first (backTo pos (starEach [.Call (.Name (Str.ofString "reversed") np) [e] [] cp] X.env)) []))
  (hs:starEach [.Call (.Name (Str.ofString "reversed") np) [e] [] cp] X.env=(false,eval (.Call (.Name (Str.ofString "reversed") np) [e] [] cp) X.env)::starEach [] X.env) (hpl2:(backTo pos (starEach [] X.env)).any (·.1)=false)
  (ho:cQ W X o po) (h:cQ W X e pe):cQ W X (.Call (.Attribute o (Str.ofString "extend") apos) [.Call (.Name (Str.ofString "reversed") np) [e] [] cp] [] pos) (FC po pe):= .of fun rho sg Q E hp F s K R hK=>by
 refine MethodCall_ (ho.go hp R fun G v r sg1 s1 le1 R1 r1 h'=>vy X G rho sg1 s1 v r pl _ E h'.1 R1 r1 ?_) hc;refine callWith_method1 (args_cons (Call_ (gE j hg hj hv hb (by decide) R1 ?_)) hs) hs hpl2
 refine PyProof.Rows.callWith_type1 ((ae (pos:=cp) he h af).go (Q:=Gk (IJ r Q)) h'.2 R1 fun G2 vs cs sg2 s2 le2 R2 r2 h2=> ?_) he hpl;apply uP h2 r2;rintro v c ⟨k,a,l,sg3,rfl,rfl,U,hz,hq⟩ r2;apply r1.onRef;apply r2.onLst;intro b us n2 e1 v1;refine el22 (R2.mlist U) fun vs n ea rv=> ?_;have hl:s2.heap.IsList b us.toArray:=⟨_,R2.fz _ _ e1,rfl,_,rfl⟩;have hlt:b<s2.heap.objs.size:=Heap.lt_size (R2.fz _ _ e1);have hla:a<s2.heap.objs.size:=Heap.lt_size ea;have hab:a≠b:=fun q=>by
  have:=(R2.ds a (List.mem_append_right _ (dR U.sublistMem (.head _)))).1;rw[q,e1]at this;exact sn this
 refine call_reversed_list hl ?_;refine args_nil ?_;have z1:=dv rv;have z2:=dv v1;unfold small at hz;refine Cp (I:=s2.heap.objs.size) (pre:=vs.toArray) X.hh (aY _ _ _ _ ea) ⟨_,Heap.get?_push_size _ rfl,rfl,rfl⟩ (hl.push _) (Nat.ne_of_lt hla) hab (Nat.ne_of_lt hlt) (by rw[z1,z2,sizeLine_eq];exact Nat.le_trans (by assumption) (by decide)) fun h' tk c' hk hS'=> ?_
 have e3:vs.toArray++us.toArray.reverse=(vs++us.reverse).toArray:=by simp
 rw[e3]at hS';have R3:bc W X G2 rho sg3 {s2 with heap:=h',toks:=tk}:=R2.updK U rfl (d:=a) (.head _) (fun b o hb e=>hk b o hb (Nat.ne_of_lt (Heap.lt_size e)) (aY _ _ _ _ e)) ⟨_,_,hS',rv.append v1.reverse⟩;exact hK _ _ _ _ _ (le1.trans le2) R3 .none hq
end
theorem Bq:typeLookup (.type "list") "keys"=pure none:=by rw[typeLookup_type,builtinLookup_eq_fast];kernel_rfl
section
variable {prog:Program}{w:World}{A:Around}{E:Value→Shared→Prop}{s:Shared}
theorem xh{a:Addr}{vs:List Value}{n:Nat}{Q:Option Value→Shared→Prop}(hx:s.heap.get? a=some (PySem.W.listOf vs.toArray n))(hA:A.handled=none)
  (h:∀h' tk,(∀b o,s.heap.get? b=some o→h'.get? b=some o)→Q none {s with heap:=h',toks:=tk}):wpAny (model prog w) A (getAttr? (.ref a) "keys") Q E s:=by
 obtain⟨hp,g,d,tk,os⟩:=s;have hT:∀tk',(⟨hp,g,d,tk',os⟩:Shared).TypeIs (.ref a) "list":=fun O=>⟨_,hx,rfl⟩;have f1:=sub_AttributeError;have f3:=F.slot_list_getattribute.lookup;have f4:=F.slot_list_getattribute.bind (.ref a);have f5:=am_list_getattr_none;unfold getAttr? getAttrBy? getAttrBy
 repeat (any_goals (first|assumption|exact hT _|((with_reducible show wpAny _ _ (call (Value.builtin "list.__getattribute__") _ _) _ _ _);refine call_meets F.slot_list_getattribute (hT _) am_entry_list_getattribute (F.args_list_getattribute_2 _ _) (meets_getattribute_miss_list a vs.toArray n #[] "keys" _ Bq (by decide) (by size_fits)) ⟨hx,hA,fun h' tk' e hx'=> ?_⟩)|wp_step))
 obtain⟨t',u',he⟩:=hx'.there;show wpAny _ _ (getattributeRaised _ _ _ _ _ _ _) _ _ _;unfold getattributeRaised
 repeat (any_goals (first|assumption|wp_step))
 exact h _ _ fun b o q=>hx'.keeps b o q
theorem oj{K:Type}[DecidableEq K]{knd:KeyKind prog w K}{h h':Heap}{d:Addr}{kvs:List (K×Value)}(x:h.DictOf knd d kvs)(e:∀o,h.get? d=some o→h'.get? d=some o):h'.DictOf knd d kvs:=let⟨o,es,ep,ho,r⟩:=x;⟨o,es,ep,e _ ho,r⟩
theorem gI:plainId "dict.update.loop"=true:=by decide+kernel
theorem nf:entryFor table "dict.update.loop"=some Builtin.«dict.update.loop»:=entryFor_of_tree (by kernel_rfl)
inductive yT{K:Type}[DecidableEq K](knd:KeyKind prog w K)(h:Heap):Value→K→Value→Prop
 |mk {a:Addr} {o:Obj} {key:Value} {n:Nat} {k:K} {u:Value}:h.get? a=some o→o.cls= .type "tuple"→o.data= .seq #[key,u] n→knd.is k key=true→yT knd h (.ref a) k u
theorem CJ{K:Type}[DecidableEq K](l:List (K×Value)):∀acc:List (K×Value),(merged acc l).length≤acc.length+l.length:=by
 induction l with
 |nil=>exact fun O=>Nat.le_refl _
 |cons x r ih=>
  intro acc;have h1:=ih (stored acc x.1 x.2);have h2:=stored_length_le acc x.1 x.2;show(merged (stored acc x.1 x.2) r).length≤_;rw[List.length_cons,←Nat.succ_add_eq_add_succ];exact Nat.le_trans h1 (Nat.add_le_add_right h2 _)
theorem GM{K:Type}[DecidableEq K]{knd:KeyKind prog w K}(hh:A.handled=none){I L d:Addr}(hIL:L≠I)(hId:d≠I)(hLd:L≠d){vs:List Value}{kvs:List (K×Value)}(hlen:vs.length=kvs.length)(hn:kvs.length≤1000)
  (hI0:s.heap.get? I=none) (hd0:s.heap.get? d=none) (hp:∀(i:Nat) (v:Value),vs[i]? =some v→∃k u,kvs[i]? =some (k,u)∧yT knd s.heap v k u) {R:Result→Shared→Prop} (res:Value)
  (hR:∀h' tk,(∀b o,b≠I→b≠d→s.heap.get? b=some o→h'.get? b=some o)→h'.DictOf knd d (merged [] kvs)→R (.ok (.ret res)) {s with heap:=h',toks:=tk}):
  ∀(m i:Nat) (h:Heap) (tk:Nat),vs.length-i=m→i≤vs.length→h.IsListIter I L i→h.IsList L vs.toArray→h.DictOf knd d (merged [] (kvs.take i))→(∀b o,b≠I→b≠d→s.heap.get? b=some o→h.get? b=some o)→
   codeAny (model prog w) A (.builtin "dict.update.loop" ⟨[.ref d,.ref I,rawInt i,res],[]⟩) R {s with heap:=h,toks:=tk}:=by
 intro m;have W0:=fun(A':Around) (hA:A'.handled=none)=>Walks.list (prog:=prog) (w:=w) (A:=A') hA I L hIL vs.toArray;induction m with
 |zero=>
  intro i h tk hm hi hI hL hD hk;have hin:i=vs.length:=Nat.le_antisymm hi (Nat.le_of_sub_eq_zero hm);subst hin;refine codeAny_builtin nf ?_;rw[Around.under_plainId gI _];show wpAny _ A.in1 (pyNext (.ref I) >>= _) _ _ _;refine wpAny_bind ((W0 A.in1 hh).done _ _ _ (by rw[List.size_toArray];exact⟨hI,hL⟩) fun h' tk' hk'=> ?_)
  show wpAny _ _ (Builtin.Dict.addKeywords d [] >>= _) _ _ _;refine wpAny_bind (wpAny_pure (wpAny_pure (hR h' tk' (fun b o hb hbd e=>hk' b o (by simpa using hb) (hk b o hb hbd e)) ?_)))
  rw[hlen,List.take_length]at hD;exact oj hD fun o e=>hk' d o (by simpa using hId) e
 |succ m ih=>
  intro i h tk hm hi hI hL hD hk;have hlt:i<vs.length:=by exact Nat.lt_of_sub_eq_succ hm
  refine codeAny_builtin nf ?_;rw[Around.under_plainId gI _];show wpAny _ A.in1 (pyNext (.ref I) >>= _) _ _ _;refine wpAny_bind ((W0 A.in1 hh).item i _ _ _ (by rw[List.size_toArray];exact hlt) ⟨hI,hL⟩ fun v h' tk' hP hst hk'=> ?_)
  obtain⟨k,u,hkv,@⟨a,o,key,n,_,_,ho,hc,hd,hkey⟩⟩:=hp i v (by simpa using hP)
  have haI:a≠I:=fun q=>by rw[q,hI0]at ho;cases ho
  have had:a≠d:=fun q=>by rw[q,hd0]at ho;cases ho
  have ho':h'.get? a=some o:=hk' a o (by simpa using haI) (hk a o haI had ho)
  have hD':h'.DictOf knd d (merged [] (kvs.take i)):=oj hD fun o e=>hk' d o (by simpa using hId) e
  refine wpAny_bind ?_;refine wpAny_holding ?_;refine wpAny_bind (wpAny_tryCatch ?_);unfold Builtin.Dict.pairItems;refine wpAny_bind (wpAny_typeOf ⟨_,ho',hc⟩ ?_);rw[if_pos (by decide)]
  refine wpAny_bind (wpAny_seqItems ho' hd ?_);refine wpAny_pure ?_;show wpAny _ _ (holding [key,u] (dictSet d key u)) _ _ _;refine wpAny_holding (wpAny_dictSet_pairs hkey hD' (fun h2 hD2 hs2=> ?_) ?_)
  ·have hst2:∀b,b≠d→h2.get? b=h'.get? b:=hs2.2;refine wpAny_pure ⟨plainId_quiet gI _,?_⟩;have:=ih (i+1) h2 (tk'+1) (by rw[Nat.sub_add_eq,hm];rfl) hlt (hst.1.at fun o e=>(hst2 I (Ne.symm hId)).trans e) (hst.2.at fun o e=>(hst2 L hLd).trans e) ?_ fun b o hb hbd e=>(hst2 b hbd).trans (hk' b o (by simpa using hb) (hk b o hb hbd e))
   ·exact this
   ·have e:kvs.take (i+1)=kvs.take i++[(k,u)]:=by rw[List.take_add_one,hkv];rfl
    rw[e]
    simpa [merged,List.foldl_append] using hD2
  ·have h1:=CJ (kvs.take i) [];have h2:=List.length_take_le i kvs;rw[sizeLine_eq];rw[List.length_nil,Nat.zero_add]at h1;exact Nat.le_trans h1 (Nat.le_trans h2 (Nat.le_trans (Nat.le_of_lt (Nat.lt_of_lt_of_le hlt (hlen▸hn))) (by decide)))
theorem vx{K:Type}[DecidableEq K]{knd:KeyKind prog w K}(hh:A.handled=none){L:Addr}{vs:List Value}{kvs:List (K×Value)}{n0:Nat}{Q:Value→Shared→Prop}(hL:s.heap.get? L=some (PySem.W.listOf vs.toArray n0))(hlen:vs.length=kvs.length)(hn:kvs.length≤1000)
  (hp:∀(i:Nat) (v:Value),vs[i]? =some v→∃k u,kvs[i]? =some (k,u)∧yT knd s.heap v k u)
  (h:∀h' tk,(∀b o,s.heap.get? b=some o→h'.get? b=some o)→h'.DictOf knd s.heap.objs.size (merged [] kvs)→Q (.ref s.heap.objs.size) {s with heap:=h',toks:=tk}):wpAny (model prog w) A (call (.type "dict") [.ref L]) Q E s:=by
 refine callType_codes (Q₁:=fun obj s₁=>obj= .ref s.heap.objs.size∧s₁={s with heap:=s.heap.push {cls:= .type "dict",data:= .dict #[]}}) F.kt_called_dict (F.kt_typeCall_dict_1 _) F.entry_dict_init (kt_code_dict_new _ ⟨rfl,rfl⟩) ?_;rintro obj s₁ ⟨rfl,rfl⟩;have hnew:(s.heap.push {cls:= .type "dict",data:= .dict #[]}).DictOf knd s.heap.objs.size []:=Heap.DictOf.new s.heap;have hL1:=aY s.heap {cls:= .type "dict",data:= .dict #[]} _ _ hL;refine⟨hnew.typeIs,F.args_dict_init_2 _ _,?_⟩;unfold Builtin.«dict.__init__»;refine wpAny_bind ?_;unfold Builtin.Dict.selfAndRest;refine wpAny_bind (wpAny_notOrdered_dict hnew.typeIs ?_);show wpAny _ _ (pure (s.heap.objs.size,[Value.ref L])) _ _ _;refine wpAny_pure ?_;show wpAny _ _ (Builtin.Dict.updateFrom "dict.__init__" s.heap.objs.size (.ref L) [] .none) _ _ _;unfold Builtin.Dict.updateFrom;refine wpAny_bind (wpAny_typeOf (T:="list") ⟨_,hL1,rfl⟩ ?_);rw[if_pos (by decide)]
 refine wpAny_bind (xh hL1 hh fun h2 tk2 hk2=> ?_);rw[if_pos (by rfl)]
 refine wpAny_bind (wpAny_rule ?_);have hL2:=hk2 _ _ hL1;have hLL:h2.IsList L vs.toArray:=⟨_,hL2,rfl,_,rfl⟩;refine wpAny_bind ?_;refine wpAny_pyIter_list hLL ?_;have hD2:h2.DictOf knd s.heap.objs.size []:=oj hnew fun o e=>hk2 _ o e;have hdlt:s.heap.objs.size<h2.objs.size:=by
  obtain⟨o,_,_,e,_⟩:=hD2;exact Heap.lt_size e
 have hLlt:L<s.heap.objs.size:=Heap.lt_size hL;have keep3:∀(oI:Obj) b o,s.heap.get? b=some o→(h2.push oI).get? b=some o:=fun oI b o e=>aY _ _ _ _ (hk2 b o (aY _ _ _ _ e));refine wpAny_pure ⟨plainId_quiet gI _,GM (knd:=knd) (kvs:=kvs) (s:=s) (A:=A.in1) hh (I:=h2.objs.size) (L:=L) (d:=s.heap.objs.size) (Nat.ne_of_lt (Nat.lt_trans hLlt hdlt)) (Nat.ne_of_lt hdlt) (Nat.ne_of_lt hLlt) hlen hn (Heap.get?_none_of_le (Nat.le_of_lt hdlt)) bJ hp .none (fun h' tk hk hD=>⟨rfl,?_⟩) vs.length 0 _ _ rfl (Nat.zero_le _) ⟨_,Heap.get?_push_size _ rfl,rfl,rfl⟩ (hLL.push _) (by
   simp only[List.take_zero];exact oj hD2 fun o e=>aY _ _ _ _ e) (fun b o O O e=>keep3 _ b o e)⟩
 exact h h' tk (fun b o e=>hk b o (Nat.ne_of_lt (Nat.lt_trans (Heap.lt_size e) hdlt)) (Nat.ne_of_lt (Heap.lt_size e)) e) hD
end
section
variable {W:Wd}{X:FX}{F:Fz}{rho:bp}{sg sg':Sg}{s:Shared}
inductive yH{K:Type}[DecidableEq K](f:K→CV)(mo:List (K×CV)→MO)(sg:Sg)(Q:CV→Sg→Prop)(l:List CV):Prop
 |mk (kvs:List (K×CV)):l=kvs.map (fun p=> .tup [f p.1,p.2])→kvs.length≤1000→(∀a,Q (.ref a) ((a,mo (eE [] kvs))::sg))→yH f mo sg Q l
def gg:ao:=Ex fun c sg Q=>GR (fun l=>yH .str .sd sg Q l∨yH .int .nd sg Q l) c
set_option tactic.hygienic true in
theorem Gm{K:Type}[DecidableEq K]{knd:KeyKind W.prog W.w K}{f:K→CV}(hf:∀{k v},bC W F v (f k)→knd.is k v=true)(fz:∀a o,F a=some o→s.heap.get? a=some o){kvs:List (K×CV)}:∀{vs:List Value},b6 W F vs (kvs.map fun p=>CV.tup [f p.1,p.2])→
  ∃ks:List (K×Value),mx (bC W F) ks kvs∧vs.length=ks.length∧∀(i:Nat) (v:Value),vs[i]? =some v→∃k u,ks[i]? =some (k,u)∧yT knd s.heap v k u:=by
 induction kvs with
 |nil=>intro vs h;exact h.onNil ⟨[],.nil,rfl,fun i v h=>nomatch h⟩
 |cons p r ih=>
  intro vs h;refine h.onCons fun v vs h t=> ?_;obtain⟨ks,h1,h2,h3⟩:=ih t;apply h.onTup;intro a o us n e1 c1 d1 v1;revert d1;refine v1.onCons fun w us w1 v1=> ?_;refine v1.onCons fun u us w2 v1=> ?_;refine v1.onNil fun d1=> ?_;refine⟨(p.1,u)::ks,.cons w2 h1,congrArg (·+1) h2,fun i v hv=> ?_⟩;cases i with
  |zero=>cases hv;exact⟨_,_,rfl,.mk (fz _ _ e1) c1 d1 (hf w1)⟩
  |succ i=>exact h3 i v hv
theorem q0{K:Type}[DecidableEq K]{knd:KeyKind W.prog W.w K}{f:K→CV}{mo:List (K×CV)→MO}(hf:∀{k v},bC W F v (f k)→knd.is k v=true)(hm:∀{l h a o kvs},a≠sysModules→h.get? a=some o→o.IsDictOf knd kvs→mx (bC W F) kvs l→MO.Is W F h a (mo l))(ha:∀l a,(mo l).adrs a=[a])
  {l:List CV} {a:Addr} {vs:List Value} {n:Nat} {Q:CV→Sg→Prop} {K' E:Value→Shared→Prop} (R:bc W X F rho sg s) (h:yH f mo sg Q l) (e1:F a=some (PySem.W.listOf vs.toArray n)) (v1:b6 W F vs l) (hK:sb W X F rho Q K'):wpAny (model W.prog W.w) X.A (call (.type "dict") [.ref a]) K' E s:=by
 obtain⟨kvs,rfl,hz,hq⟩:=h;obtain⟨ks,s1,s2,s3⟩:=Gm (s:=s) hf R.fz v1;have hlk:=s1.length;refine vx (knd:=knd) X.hh (R.fz _ _ e1) s2 (by rw[hlk];exact hz) s3 fun h' tk hk hD=> ?_
 obtain⟨o,e,d⟩:=Heap.dictOf_iff.mp hD;exact hK _ _ _ _ _ (.refl F) (R.addM (m:=mo (eE [] kvs)) (a:=s.heap.objs.size) hk (by rw[ha];exact zq) (by rw[ha];exact zS _) (hm R.newAddr e d (mx.merge s1 .nil List.nodup_nil))) (.ref _) (hq _)
theorem gA:dm W (xM (.type "dict")) gg:=tD fun {X F rho sg s v c Q K E} R h1 hf hK=>by
 apply h1.lst_ hf;intro l a us n hf e1 v1;rcases hf with h|h
 ·exact q0 (mo:= .sd) (knd:=PySem.strKind W.prog W.w) (fun r=>by obtain⟨t,rfl⟩:=H6 r;exact l7) (fun h1 h2 h3 h4=>⟨h1,_,_,h2,h3,h4⟩) (fun O O=>rfl) R h e1 v1 hK
 ·exact q0 (mo:= .nd) (knd:=PySem.intKind W.prog W.w) (fun r=>by obtain⟨t,rfl⟩:=H5 r;exact qi) (fun h1 h2 h3 h4=>⟨h1,_,_,h2,h3,h4⟩) (fun O O=>rfl) R h e1 v1 hK
end
def LG(a:Addr)(Q:CV→Sg→Prop)(r:CV)(sg':Sg):Prop:=r= .none∧Q (.ref a) sg'
def IB(C:Addr)(sp:ao):ao:=fun cs sg Q=>∀a dx,sp (.ref a::cs) ((a,.obj C dx [])::sg) (LG a Q)
section
variable {W:Wd}{X:FX}{F:Fz}{rho:bp}{sg sg':Sg}{s:Shared}
theorem BU(A:Around)(C:Addr)(vals:List Value):(A.under (.builtin "type.__call__" ⟨.ref C::vals,[]⟩)).depth=A.depth+1∧(A.under (.builtin "type.__call__" ⟨.ref C::vals,[]⟩)).units≤A.units+30∧(A.under (.builtin "type.__call__" ⟨.ref C::vals,[]⟩)).handled=A.handled:=⟨rfl,by
 show A.units+_≤_;exact Nat.add_le_add_left (by show(1:Nat)≤30;decide) _,rfl⟩
theorem kO.addM{kept:Fz}(R:kO W kept F sg s){h':Heap}{a:Addr}{m:MO}(hk:∀b o,s.heap.get? b=some o→h'.get? b=some o)(ha:∀b∈m.adrs a,s.heap.get? b=none)(hnd:(m.adrs a).Nodup)(hm:m.Is W F h' a):
  kO W kept F ((a,m)::sg) {s with heap:=h'}:=by
 have hin:adrs ((a,m)::sg)=m.adrs a++adrs sg:=by simp[adrs]
 have thA:∀b∈adrs sg,∃o,s.heap.get? b=some o:=fun b hb=>by
  obtain⟨p,hp,hb⟩:=List.mem_flatMap.mp hb;exact(R.mo p hp).there b hb
 have nm:∀b∈m.adrs a,b∉adrs sg:=fun b hb hm=>by
  obtain⟨o,e⟩:=thA b hm;rw[ha b hb]at e;cases e
 have fn:∀b∈m.adrs a,F b=none:=fun b hb=>by
  cases e:F b with
  |none=>rfl
  |some o=>have:=R.fz b o e;rw[ha b hb]at this;cases this
 have kn:∀b∈m.adrs a,kept b=none:=fun b hb=>by
  cases e:kept b with
  |none=>rfl
  |some o=>have:=R.kp b o e;rw[ha b hb]at this;cases this
 exact {
  fz:=fun b o e=>hk b o (R.fz b o e)
  kp:=fun b o e=>hk b o (R.kp b o e)
  bs:=R.bs
  mo:=fun p hp=>by
   rcases List.mem_cons.mp hp with rfl|hp
   ·exact hm
   ·exact(R.mo p hp).keep (.refl F) (fun b o e=>hk b o (R.fz b o e)) fun b O o e=>hk b o e
  nd:=by
   rw[hin,List.nodup_append];exact⟨hnd,R.nd,fun x hx y hy e=>nm x hx (e▸hy)⟩
  ds:=fun b hb=>by
   rw[hin]at hb;rcases List.mem_append.mp hb with hb|hb
   ·exact⟨fn b hb,kn b hb⟩
   ·exact R.ds b hb
  dk:=R.dk
  gens:=R.gens
  os:=R.os}
theorem IY{n:Nat}{C fI:Addr}{sp:ao}(hm:makesIn W.K C=true)(hi:findIn W.K (.ref C) "__init__"=some (some (.ref fI)))(hf:typeIn W.K (.ref fI)=some (.type "function"))(ok:ax W n (.ref fI) sp):ax W (n+1) (.ref C) (IB C sp):=by
 intro A kept F vs cs sg s Q K E hh hd hu CR hv hq hK;have hbase:∀b o,W.base.get? b=some o→s.heap.get? b=some o:=fun b o e=>CR.fz b o (CR.bs b o e);have kin:=W.kin.keeps hbase;obtain⟨u1,u2,u3⟩:=BU A C vs;have hx1:(s.heap.push emptyDict).objs.size=s.heap.objs.size+1:=Heap.size_push _ _;have keep:∀b o,s.heap.get? b=some o→((s.heap.push emptyDict).push (instObj C s.heap.objs.size)).get? b=some o:=fun b o e=>aY _ _ _ _ (aY _ _ _ _ e);have ha:((s.heap.push emptyDict).push (instObj C s.heap.objs.size)).get? (s.heap.objs.size+1)=some (instObj C s.heap.objs.size):=by rw[←hx1];exact Heap.get?_push_size _ rfl
 have hdx:((s.heap.push emptyDict).push (instObj C s.heap.objs.size)).get? s.heap.objs.size=some (dictOf [] 0):=aY _ _ _ _ (Heap.get?_push_size _ rfl);have C1:=CR.addM (m:= .obj C s.heap.objs.size []) (a:=s.heap.objs.size+1) keep (by
  intro b hb;simp[MO.adrs]at hb;have fr:∀b,s.heap.objs.size≤b→s.heap.get? b=none:=fun b hb=>by
   cases e:s.heap.get? b with
   |none=>rfl
   |some o=>exact absurd (Heap.lt_size e) (Nat.not_lt.mpr hb)
  rcases hb with rfl|rfl
  ·exact fr _ (by exact Nat.le_add_right s.heap.objs.size 1)
  ·exact fr _ (Nat.le_refl _)) (by simp[MO.adrs]) ⟨ha,[],0,hdx,.nil⟩
 obtain⟨hh0,g,d,t,os⟩:=s;refine make_core (makes_of kin hm) (looks_findIn kin hi) (fun self=>bind_fn kin self hf) (.inl rfl) ?_;refine codeAny_mono (ok _ kept F (.ref _::vs) (.ref _::cs) _ _ (fun r sg'=>r= .none∧Q (.ref (hh0.objs.size+1)) sg') (fun v s'=>v= .none∧K (.ref (hh0.objs.size+1)) s') E (by rw[u3];exact hh) (by rw[u1];exact K4 (by decide) hd) (Nat.le_trans (Nat.add_le_add_right u2 _) (K4 (Nat.le_refl _) hu)) C1 (.cons (.ref _) hv) (hq _ _) ?_) ?_
 ·intro G v c sg' s' le CR' hv' hq';obtain⟨rfl,hq'⟩:=hq';exact⟨GN hv',hK G _ _ _ _ le CR' (.ref _) hq'⟩
 ·intro r s' h;rcases r with e|(_|_|_|v)<;>exact h
noncomputable def C7:CV→Option Value
 | .none=>some (.type "NoneType")
 | .bool _=>some (.type "bool")
 | .int _=>some (.type "int")
 | .str _=>some (.type "str")
 | .tup _=>some (.type "tuple")
 | .lst _=>some (.type "list")
 | .sd _=>some (.type "dict")
 | .nd _=>some (.type "dict")
 | .obj C _=>some (.ref C)
 |_=>none
noncomputable def Gj(K:Frag)(D:Addr):Bool:=plainGet K D "__class__"&&hasDictIn K D&&findIn K (.ref D) "__class__"==some (some (.builtin "object.__class__"))&&
 specialIn K (.builtin "object.__class__") "__get__"==some (some (.builtin "getset_descriptor.__get__"))&&takesIn K (.builtin "object.__class__")==some true&&mroIn K D (.type "object")==some true
def JI(K:Frag)(cls:Value)(ans:List (Value×Bool)):Prop:=∀t b,ans.lookup t=some b→kitOne K t cls=some b∧∀C,t= .ref C→Gj K C=true
inductive K0(ans:List (Value×Bool))(Q:CV→Sg→Prop)(c:CV)(sg1:Sg):Prop
 |mk (t:Value) (b:Bool):C7 c=some t→ans.lookup t=some b→Q (.bool b) sg1→K0 ans Q c sg1
def isi(ans:List (Value×Bool))(p:PE):PE:=fun rho sg Q=>p rho sg (K0 ans Q)
theorem FW{cls:Value}{ans:List (Value×Bool)}(hA:JI W.K cls ans)(R:bc W X F rho sg s){v:Value}{c:CV}(hv:bC W F v c){t:Value}{b:Bool}(ht:C7 c=some t)(hb:ans.lookup t=some b){Q:Value→Shared→Prop}{E:Value→Shared→Prop}
  (h:∀tk,Q (.bool b) {s with toks:=tk}):wpAny (model W.prog W.w) X.A (call (.builtin "isinstance") [v,cls]) Q E s:=by
 obtain⟨hk,hC⟩:=hA t b hb;have hk:∀t',C7 c=some t'→kitOne W.K t' cls=some b:=fun t' e=>Option.some.inj (ht.symm.trans e)▸hk;cases c with
 |none=>apply hv.onNone;exact kia_one kitx_none R.kin trivial (hk _ rfl) (by decide) h
 |bool x=>apply hv.onBool;exact kia_one kitx_bool R.kin trivial (hk _ rfl) (fun e=>nomatch e) h
 |int x=>apply hv.onInt;intro t';exact kia_one kitx_int R.kin trivial (hk _ rfl) (fun e=>nomatch e) h
 |str x=>apply hv.onStr;intro t';exact kia_one kitx_str R.kin trivial (hk _ rfl) (fun e=>nomatch e) h
 |byt x=>exact ns ht
 |ref a=>exact ns ht
 |tup l=>apply hv.onTup;intro a o vs n e c d r;exact kia_one kitx_tuple R.kin ⟨_,R.fz _ _ e,c⟩ (hk _ rfl) (fun e=>nomatch e) h
 |lst l=>apply hv.onLst;intro a vs n e r;exact kia_one kitx_list R.kin ⟨_,R.fz _ _ e,rfl⟩ (hk _ rfl) (fun e=>nomatch e) h
 |sd l=>
  apply hv.onSd;intro a o kvs e n d r;exact kia_one kitx_dict R.kin (Heap.dictOf_iff.mpr ⟨_,R.fz _ _ e,d⟩:s.heap.DictOf (PySem.strKind W.prog W.w) _ _).typeIs (hk _ rfl) (fun e=>nomatch e) h
 |nd l=>
  apply hv.onNd;intro a o kvs e n d r;exact kia_one kitx_dict R.kin (Heap.dictOf_iff.mpr ⟨_,R.fz _ _ e,d⟩:s.heap.DictOf (PySem.intKind W.prog W.w) _ _).typeIs (hk _ rfl) (fun e=>nomatch e) h
 |obj C fs=>
  have:=hC C (Option.some.inj ht).symm;unfold Gj at this;simp only[Bool.and_eq_true,beq_iff_eq]at this;obtain⟨⟨⟨⟨⟨k1,k2⟩,k3⟩,k4⟩,k5⟩,k6⟩:=this;apply hv.onObj;intro a dx es n e1 e2 r;exact kia_one (kitx_own (ox:=instObj _ _) (od:=dictOf _ _) k1 k2 k3 k4 k5 k6) R.kin ⟨R.fz _ _ e1,rfl,rfl,R.fz _ _ e2⟩ (hk _ rfl) (fun e=>nomatch e) h
theorem fc{gs:List Str}{e:Expr}{x:Str}{np xp pos:Pos}{cls:Value}{ans:List (Value×Bool)}{p:PE}(i j:Nat)(hg:X.globs=gs)(hi:gs[i]? =some (Str.ofString "isinstance"))(hv:nsIn W.K mainGlobals (Str.ofString "isinstance")=some none)(hb:bootBuiltins (Str.ofString "isinstance")=some (.builtin "isinstance"))
  (hj:gs[j]? =some x) (hx:nsIn W.K mainGlobals x=some (some cls)) (hA:JI W.K cls ans)
  (he:starEach [e,.Name x xp] X.env=(false,eval e X.env)::starEach [.Name x xp] X.env) (he2:starEach [.Name x xp] X.env=(false,eval (.Name x xp) X.env)::starEach [] X.env) (hpl:(backTo pos (starEach [.Name x xp] X.env)).any (·.1)=false) (h:cQ W X e p):
  cQ W X (.Call (.Name (Str.ofString "isinstance") np) [e,.Name x xp] [] pos) (isi ans p):= .of fun rho sg Q E hp F s K R hK=>by
 refine Call_ (gE i hg hi hv hb (by decide) R (PyProof.Rows.callWith_builtin1 ?_ he hpl))
 refine args_cons (h.go hp R fun G v c sg1 s1 le1 R1 r1 h1=>args_cons (fe j hg hj hx R1 (args_nil ?_)) he2) he;obtain⟨t,b,ht,hb,hq⟩:=h1;exact FW hA R1 r1 ht hb fun tk=>hK _ _ _ _ _ le1 R1.tok (.bool _) hq
theorem h9{gs:List Str}{e:Expr}{x:Str}{np xp pos:Pos}{cls:Value}{ans:List (Value×Bool)}{p:PE}(i j:Nat)(hg:X.globs=gs)(hi:gs[i]? =some (Str.ofString "isinstance"))(hv:nsIn W.K mainGlobals (Str.ofString "isinstance")=some none)(hb:bootBuiltins (Str.ofString "isinstance")=some (.builtin "isinstance"))
  (hj:gs[j]? =some x) (hx:nsIn W.K mainGlobals x=some none) (hbx:bootBuiltins x=some cls) (hnx:x≠"__name__") (hA:JI W.K cls ans)
  (he:starEach [e,.Name x xp] X.env=(false,eval e X.env)::starEach [.Name x xp] X.env) (he2:starEach [.Name x xp] X.env=(false,eval (.Name x xp) X.env)::starEach [] X.env) (hpl:(backTo pos (starEach [.Name x xp] X.env)).any (·.1)=false) (h:cQ W X e p):
  cQ W X (.Call (.Name (Str.ofString "isinstance") np) [e,.Name x xp] [] pos) (isi ans p):= .of fun rho sg Q E hp F s K R hK=>by
 refine Call_ (gE i hg hi hv hb (by decide) R (PyProof.Rows.callWith_builtin1 ?_ he hpl))
 refine args_cons (h.go hp R fun G v c sg1 s1 le1 R1 r1 h1=>args_cons (gE j hg hj hx hbx hnx R1 (args_nil ?_)) he2) he;obtain⟨t,b,ht,hb,hq⟩:=h1;exact FW hA R1 r1 ht hb fun tk=>hK _ _ _ _ _ le1 R1.tok (.bool _) hq
end
section
variable {W:Wd}{X:FX}{F:Fz}{rho:bp}{sg sg':Sg}{s:Shared}
theorem BN{rho:bp}{i j:Nat}{c d:CV}(h:(rho.set i (some c))[j]? =some (some d)):(j=i∧d=c)∨(j≠i∧rho[j]? =some (some d)):=by
 by_cases e:j=i
 ·subst e;rw[List.getElem?_set_self']at h;cases q:rho[j]? with
  |none=>rw[q]at h;simp at h
  |some x=>rw[q]at h;simp at h;exact .inl ⟨rfl,h.symm⟩
 ·rw[List.getElem?_set_ne (Ne.symm e)]at h;exact .inr ⟨e,h⟩
inductive JS(i:Nat)(p:PS)(rho:bp)(sg:Sg)(Q:Fl→bp→Sg→Prop):Prop
 |mk (a:Addr) (m:MO) (sg1:Sg):rho[i]? =some (some (.ref a))→oH a m sg sg1→m.solid=true→p (rho.set i (some m.tree)) sg1 Q→JS i p rho sg Q
def i9(i:Nat)(p:PS):PS:=JS i p
theorem cV{sts:List Stmt}{p:PS}(i:Nat)(h:ix W X sts p):ix W X sts (i9 i p):= .of fun rho sg Q E ⟨a,m,sg1,hi,P,hm,hq⟩ F s K R hK=>by
 obtain⟨G,le,R2,hv⟩:=R.freeze P hm;have va:∀(j:Nat) (x:Str) (c:CV),X.names[j]? =some x→(rho.set i (some m.tree))[j]? =some (some c)→∃v,tz X.env s.heap x v∧bC W G v c:=by
  intro j x c hx hc;rcases BN hc with⟨rfl,rfl⟩|⟨hne,hc⟩
  ·obtain⟨v,h1,h2⟩:=R2.va j x (.ref a) hx hi;cases (h2.inv:v= .ref a);exact⟨_,h1,hv⟩
  ·exact R2.va j x c hx hc
 have R3:bc W X G (rho.set i (some m.tree)) sg1 s:={R2 with va:=va};exact h.go hq R3 fun G2 f g rho' sg' s' le2 R' hf hg=>hK G2 f g _ _ _ (le.trans le2) R' hf hg
theorem lB.set{name:Str}{a:Addr}{c:CV}(hv:bC W F (.ref a) c){es:List DictEntry}{fs:List (Str×CV)}(x:lB W F es fs)(hl:fs.lookup name=some (.ref a)):lB W F es (qr name c fs):=by
 induction x with
 |nil=>cases hl
 | @cons k _ _ _ c0 _ _ h r ih=>
  unfold qr;by_cases e:k=name
  ·subst e;rw[if_pos (beq_self_eq_true k)];rw[List.lookup_cons_self]at hl;cases hl;cases (h.inv:_=Value.ref a);exact .cons hv r
  ·rw[if_neg (by simpa using e)]
   rw[List.lookup_cons,show(name==k)=false from beq_eq_false_iff_ne.mpr fun q=>e q.symm]at hl
   exact .cons h (ih hl)
inductive JQ(i:Nat)(C:Addr)(name:Str)(p:PS)(rho:bp)(sg:Sg)(Q:Fl→bp→Sg→Prop):Prop
 |mk (a dx:Addr) (fs:List (Str×CV)) (t:Addr) (m:MO) (sg1 sg2:Sg):rho[i]? =some (some (.ref a))→fs.lookup name=some (.ref t)→oH t m sg sg1→m.solid=true→gv a (.obj C dx fs) (.obj C dx (qr name m.tree fs)) sg1 sg2→p rho sg2 Q→JQ i C name p rho sg Q
def Ho(i:Nat)(C:Addr)(name:Str)(p:PS):PS:=JQ i C name p
theorem zE{sts:List Stmt}{p:PS}(i:Nat)(C:Addr)(name:Str)(h:ix W X sts p):ix W X sts (Ho i C name p):= .of fun rho sg Q E ⟨a,dx,fs,t,m,sg1,sg2,hi,hl,P,hm,U,hq⟩ F s K R hK=>by
 obtain⟨G,le,R2,hv⟩:=R.freeze P hm;obtain⟨e1,es,n,e2,r⟩:=R2.mo _ U.sublistMem;have R3:bc W X G rho sg2 s:=by
  have:=R2.updK (h':=s.heap) (tk:=s.toks) U rfl (d:=a) (.head _) (fun b o O e=>e) ⟨e1,es,n,e2,r.set hv hl⟩;exact this
 exact h.go hq R3 fun G2 f g rho' sg' s' le2 R' hf hg=>hK G2 f g _ _ _ (le.trans le2) R' hf hg
def De(W:Wd)(X:FX)(pos:Pos)(keys:List (Option Expr))(values:List Expr)(p:EN):Prop:=
 ∃prs,(evalEachOpt keys X.env).zip ((evalEach values X.env).map fun v=>do let x ←v;standAt pos;pure x)=prs.map (fun p=>(some p.1,p.2))∧prs.length=keys.length∧ES W X prs p
theorem ee{pos:Pos}:De W X pos [] [] ik:=⟨[],rfl,rfl,FS⟩
theorem cC{k v:Expr}{pos:Pos}{ks:List (Option Expr)}{vs:List Expr}{pk pv:PE}{ps:EN}(h1:cQ W X k pk)(h2:cQ W X v pv)(h3:De W X pos ks vs ps):De W X pos (some k::ks) (v::vs) (cn pk pv ps):=by
 obtain⟨prs,e1,e2,e3⟩:=h3;refine⟨(eval k X.env,do let x ←eval v X.env;standAt pos;pure x)::prs,?_,by simp[e2],El h1 h2 e3⟩
 rw[List.map_cons,←e1];rfl
theorem jc{keys:List (Option Expr)}{values:List Expr}{pos:Pos}{ps:EN}(h0:keys.isEmpty=false)(hlen:Nat.ble keys.length 15=true)(h:De W X pos keys values ps):cQ W X (.Dict keys values pos) (ij ps):=by
 obtain⟨prs,e1,e2,e3⟩:=h;refine FQ e1 (fun e=> ?_) (by rw[e2];exact Nat.le_of_ble_eq_true hlen) e3
 rw[e]at e2;cases keys with
 |nil=>cases h0
 |cons _ _=>cases e2
end
noncomputable def dz:List Stmt:=match PySem.Challenge.pw_nn0154_01.main with| .mk b .. =>b
noncomputable def jB:List Stmt→Nat→Stmt
 |s::_,0=>s
 |_::r,n+1=>jB r n
 |[],_=> .Pass default
noncomputable def y0:Stmt→Arguments| .FunctionDef _ a .. =>a|_=>default
noncomputable def eZ:Stmt→List Stmt| .FunctionDef _ _ b .. =>b| .ClassDef _ _ _ b .. =>b|_=>[]
noncomputable def lx:Stmt→Scope| .FunctionDef _ _ _ _ _ _ s .. =>s|_=>default
noncomputable abbrev jv(i:Nat):Stmt:=jB dz i
noncomputable abbrev BY(i j:Nat):Stmt:=jB (eZ (jB dz i)) j
noncomputable abbrev kr(a:Addr)(s:Stmt):Addr×Arguments×List Stmt×Scope:=(a,y0 s,eZ s,lx s)
noncomputable abbrev mw:Arguments:=y0 (jB (eZ (jB dz 2)) 0)
noncomputable abbrev gQ:List Stmt:=eZ (jB (eZ (jB dz 2)) 0)
noncomputable abbrev mz:Scope:=lx (jB (eZ (jB dz 2)) 0)
noncomputable abbrev qz:Arguments:=y0 (jB (eZ (jB dz 23)) 0)
noncomputable abbrev jC:List Stmt:=eZ (jB (eZ (jB dz 23)) 0)
noncomputable abbrev jG:Scope:=lx (jB (eZ (jB dz 23)) 0)
noncomputable abbrev yF:List Stmt:=eZ (jB dz 62)
noncomputable abbrev yV:Scope:=lx (jB dz 62)
noncomputable abbrev Am:List Stmt:=eZ (jB dz 74)
noncomputable abbrev AI:Scope:=lx (jB dz 74)
noncomputable abbrev JN:List Stmt:=eZ (jB dz 75)
noncomputable abbrev Ik:Scope:=lx (jB dz 75)
noncomputable def L7:List Value:=[.type "NoneType",.type "bool",.type "int",.type "str",.type "tuple",.type "list",.type "dict",.ref 202,.ref 273,.ref 404]
noncomputable def L3(t cls:Value):Bool:=t==cls||(t== .type "bool"&&cls== .type "int")
noncomputable def eY(cls:Value):List (Value×Bool):=L7.map fun t=>(t,L3 t cls)
inductive Dc(K:Frag)(fa:Addr)(params:Arguments)(body:List Stmt)(scope:Scope)(dV:Value):Prop
 |mk (name qual kV doc pm an cdv ct oc od osl):K.lookup fa=some ⟨oc,od,.func (fnOf name qual params body scope dV kV doc pm an cdv ct),osl⟩→codeIn K cdv qual=true→Dc K fa params body scope dV
inductive B0(K:Frag)(fa:Addr)(params:Arguments)(body:List Stmt)(scope:Scope):Prop
 |mk (dV:Value):dV= .none∨fa=333→Dc K fa params body scope dV→B0 K fa params body scope
def Da(K:Frag)(C fI:Addr):Prop:=makesIn K C=true∧findIn K (.ref C) "__init__"=some (some (.ref fI))∧typeIn K (.ref fI)=some (.type "function")
noncomputable def bM:List Str:=[Str.ofString "Resources",Str.ofString "MediaBox",Str.ofString "CropBox",Str.ofString "Rotate"]
noncomputable def Hw:List CV:=bM.map .str
def JY(K:Frag):Prop:=∃a dd n sl t1 t2 t3 t4,nsIn K mainGlobals (Str.ofString "INHERITED")=some (some (.ref a))∧K.lookup a=some ⟨.type "tuple",dd,.seq [Value.str (Str.ofString "Resources") t1,.str (Str.ofString "MediaBox") t2,.str (Str.ofString "CropBox") t3,.str (Str.ofString "Rotate") t4].toArray n,sl⟩
noncomputable def K6(K:Frag):List Bool:=[ft K 202 (Str.ofString "text"),ft K 273 (Str.ofString "number"),ft K 273 (Str.ofString "generation"),fA K 273 (Str.ofString "number"),fA K 273 (Str.ofString "generation"),keepIn K (.ref 167),keepIn K (.ref 202),keepIn K (.ref 224),keepIn K (.ref 245),keepIn K (.ref 273),keepIn K (.ref 284),keepIn K (.ref 301),f6 K 273 (Str.ofString "pair") 270,keepIn K (.ref 306),keepIn K (.ref 318),ft K 404 (Str.ofString "table"),ft K 404 (Str.ofString "trailer"),fA K 404 (Str.ofString "table"),f6 K 404 (Str.ofString "fetch") 340,f6 K 404 (Str.ofString "get") 347,fA K 404 (Str.ofString "trailer"),keepIn K (.ref 404),ft K 431 (Str.ofString "reference"),ft K 431 (Str.ofString "fields"),ft K 452 (Str.ofString "reference"),ft K 452 (Str.ofString "head"),ft K 452 (Str.ofString "above"),ft K 452 (Str.ofString "inherited"),ft K 452 (Str.ofString "is_page"),fA K 202 (Str.ofString "text"),keepIn K (.ref 470),keepIn K (.ref 477),keepIn K (.ref 452),f6 K 404 (Str.ofString "root") 396,keepIn K (.ref 491),fA K 452 (Str.ofString "is_page"),fA K 452 (Str.ofString "reference"),fA K 452 (Str.ofString "inherited"),fA K 452 (Str.ofString "head"),keepIn K (.ref 484),keepIn K (.ref 498),keepIn K (.ref 510),keepIn K (.ref 505),keepIn K (.ref 431),keepIn K (.ref 529),fA K 452 (Str.ofString "above"),keepIn K (.ref 536),keepIn K (.ref 543),keepIn K (.ref 463),keepIn K (.ref 564),f6 K 404 (Str.ofString "put") 368,keepIn K (.ref 574),keepIn K (.ref 569),keepIn K (.ref 557),keepIn K (.ref 586),keepIn K (.ref 593),keepIn K (.ref 581),ft K 650 (Str.ofString "shelf"),ft K 650 (Str.ofString "made"),ft K 650 (Str.ofString "table"),keepIn K (.ref 612),ft K 650 (Str.ofString "barred"),f6 K 404 (Str.ofString "add") 375,fA K 650 (Str.ofString "made"),fA K 431 (Str.ofString "reference"),fA K 650 (Str.ofString "table"),keepIn K (.ref 313),fA K 650 (Str.ofString "shelf"),keepIn K (.ref 607),fA K 650 (Str.ofString "barred"),fA K 431 (Str.ofString "fields"),keepIn K (.ref 650),f6 K 650 (Str.ofString "reserve") 633,keepIn K (.ref 659),f6 K 650 (Str.ofString "lay") 647,f6 K 650 (Str.ofString "take_needed") 640,keepIn K (.ref 515),keepIn K (.ref 664),ft K 686 (Str.ofString "data"),ft K 686 (Str.ofString "base"),ft K 686 (Str.ofString "shelf"),fA K 686 (Str.ofString "data"),fA K 686 (Str.ofString "base"),keepIn K (.ref 686),fA K 686 (Str.ofString "shelf"),keepIn K (.ref 704),keepIn K (.ref 669),keepIn K (.ref 413),keepIn K (.ref 697),keepIn K (.ref 600),keepIn K (.ref 739),keepIn K (.ref 746),keepIn K (.ref 522),keepIn K (.ref 760),keepIn K (.ref 550),keepIn K (.ref 711),keepIn K (.ref 718),keepIn K (.ref 725),keepIn K (.ref 774),keepIn K (.ref 767),keepIn K (.ref 732),keepIn K (.ref 753),keepIn K (.ref 779)]
noncomputable def LW:List (Str×Option (Option Value)):=[((Str.ofString "isinstance"),some none),((Str.ofString "bool"),some none),((Str.ofString "int"),some none),((Str.ofString "Decimal"),some (some (.ref 167))),((Str.ofString "Name"),some (some (.ref 202))),((Str.ofString "String"),some (some (.ref 224))),((Str.ofString "list"),some none),((Str.ofString "dict"),some none),((Str.ofString "Stream"),some (some (.ref 245))),((Str.ofString "Reference"),some (some (.ref 273))),((Str.ofString "kind_of"),some (some (.ref 284))),((Str.ofString "copied"),some (some (.ref 301))),((Str.ofString "sorted"),some none),((Str.ofString "parts_of"),some (some (.ref 306))),((Str.ofString "reversed"),some none),((Str.ofString "renumbered"),some (some (.ref 318))),((Str.ofString "range"),some none),((Str.ofString "Shelf"),some (some (.ref 404))),((Str.ofString "home_of"),some (some (.ref 470))),((Str.ofString "is_node"),some (some (.ref 477))),((Str.ofString "Spot"),some (some (.ref 452))),((Str.ofString "met"),some (some (.ref 491))),((Str.ofString "kids_of"),some (some (.ref 484))),((Str.ofString "spots"),some (some (.ref 498))),((Str.ofString "page_spots"),some (some (.ref 510))),((Str.ofString "fields_of"),some (some (.ref 505))),((Str.ofString "Page"),some (some (.ref 431))),((Str.ofString "is_count"),some (some (.ref 529))),((Str.ofString "counts_of"),some (some (.ref 536))),((Str.ofString "is_parent"),some (some (.ref 543))),((Str.ofString "turned"),some (some (.ref 463))),((Str.ofString "lay"),some (some (.ref 564))),((Str.ofString "len"),some none),((Str.ofString "min"),some none),((Str.ofString "kid_index"),some (some (.ref 574))),((Str.ofString "place_of"),some (some (.ref 569))),((Str.ofString "settle"),some (some (.ref 557))),((Str.ofString "remove_page"),some (some (.ref 586))),((Str.ofString "push_down"),some (some (.ref 593))),((Str.ofString "put_reference"),some (some (.ref 581))),((Str.ofString "barred_numbers"),some (some (.ref 612))),((Str.ofString "references_in"),some (some (.ref 313))),((Str.ofString "is_there"),some (some (.ref 607))),((Str.ofString "Collector"),some (some (.ref 650))),((Str.ofString "bare_page"),some (some (.ref 659))),((Str.ofString "pages"),some (some (.ref 515))),((Str.ofString "assembled"),some (some (.ref 664))),((Str.ofString "Bench"),some (some (.ref 686))),((Str.ofString "max"),some none),((Str.ofString "need_pages"),some (some (.ref 704))),((Str.ofString "split_pages"),some (some (.ref 669))),((Str.ofString "shelf_copied"),some (some (.ref 413))),((Str.ofString "bench_turned"),some (some (.ref 697))),((Str.ofString "move_page"),some (some (.ref 600))),((Str.ofString "abs"),some none),((Str.ofString "_law_draw"),some (some (.ref 739))),((Str.ofString "_law_turned"),some (some (.ref 746))),((Str.ofString "page_count"),some (some (.ref 522))),((Str.ofString "_law_seen"),some (some (.ref 760))),((Str.ofString "page_faults"),some (some (.ref 550))),((Str.ofString "bench_split"),some (some (.ref 711))),((Str.ofString "bench_less"),some (some (.ref 718))),((Str.ofString "bench_moved"),some (some (.ref 725))),((Str.ofString "_law_moved"),some (some (.ref 774))),((Str.ofString "_law_right"),some (some (.ref 767))),((Str.ofString "_law_pen"),some (some (.ref 732))),((Str.ofString "_law_document"),some (some (.ref 753))),((Str.ofString "_law_deed"),some (some (.ref 779)))]
noncomputable def LV:List (Addr×Arguments×List Stmt×Scope):=[kr 199 (BY 11 0),kr 263 (BY 14 0),kr 270 (BY 14 1),kr 284 (jv 15),kr 301 (jv 19),kr 306 (jv 20),kr 313 (jv 21),kr 318 (jv 22),kr 333 (BY 23 0),kr 340 (BY 23 1),kr 347 (BY 23 2),kr 368 (BY 24 0),kr 375 (BY 24 1),kr 396 (BY 24 4),kr 413 (jv 25),kr 428 (BY 28 0),kr 449 (BY 29 0),kr 463 (jv 30),kr 470 (jv 31),kr 477 (jv 32),kr 484 (jv 33),kr 491 (jv 34),kr 498 (jv 35),kr 505 (jv 36),kr 510 (jv 37),kr 515 (jv 38),kr 522 (jv 39),kr 529 (jv 40),kr 536 (jv 41),kr 543 (jv 42),kr 550 (jv 43),kr 557 (jv 44),kr 564 (jv 45),kr 569 (jv 46),kr 574 (jv 47),kr 581 (jv 48),kr 586 (jv 49),kr 593 (jv 50),kr 600 (jv 51),kr 607 (jv 53),kr 612 (jv 54),kr 626 (BY 55 0),kr 633 (BY 55 1),kr 640 (BY 55 2),kr 647 (BY 55 3),kr 659 (jv 56),kr 664 (jv 57),kr 669 (jv 58),kr 683 (BY 60 0),kr 697 (jv 61),kr 704 (jv 62),kr 711 (jv 63),kr 718 (jv 64),kr 725 (jv 65),kr 732 (jv 67),kr 739 (jv 68),kr 746 (jv 69),kr 753 (jv 70),kr 760 (jv 71),kr 767 (jv 72),kr 774 (jv 73),kr 779 (jv 74),kr 784 (jv 75)]
noncomputable def LT:List (Value×List (Value×Bool)):=[((.type "bool"),(eY (.type "bool"))),((.type "int"),(eY (.type "int"))),((.ref 167),(eY (.ref 167))),((.ref 202),(eY (.ref 202))),((.ref 224),(eY (.ref 224))),((.type "list"),(eY (.type "list"))),((.type "dict"),(eY (.type "dict"))),((.ref 245),(eY (.ref 245))),((.ref 273),(eY (.ref 273)))]
noncomputable def LU:List (Addr×Addr):=[(202,199),(273,263),(404,333),(431,428),(452,449),(650,626),(686,683)]
structure KF(K:Frag):Prop where
 b_:∀x∈K6 K,x=true
 n_:∀p∈LW,nsIn K mainGlobals p.1=p.2
 f_:∀p∈LV,B0 K p.1 p.2.1 p.2.2.1 p.2.2.2
 a_:∀p∈LT,JI K p.1 p.2
 c_:∀p∈LU,Da K p.1 p.2
 g_MOST_HOPS:∃t,nsIn K mainGlobals (Str.ofString "MOST_HOPS")=some (some (.int 30 t))
 g_INHERITED:JY K
 dfl:∃T o n,Dc K 333 qz jC jG (.ref T)∧K.lookup T=some o∧o.data= .seq #[Value.none,.none] n
theorem KF.b{K:Frag}(k:KF K)(i:Nat){x:Bool}(e:(K6 K)[i]? =some x):x=true:=k.b_ x (List.mem_of_getElem? e)
theorem KF.n{K:Frag}(k:KF K)(i:Nat){s:Str}{v:Option (Option Value)}(e:LW[i]? =some (s,v)):nsIn K mainGlobals s=v:=k.n_ (s,v) (List.mem_of_getElem? e)
theorem KF.f{K:Frag}(k:KF K)(i:Nat){a:Addr}{A:Arguments}{B:List Stmt}{S:Scope}(e:LV[i]? =some (a,A,B,S)):B0 K a A B S:=k.f_ (a,A,B,S) (List.mem_of_getElem? e)
theorem KF.a{K:Frag}(k:KF K)(i:Nat){c:Value}{l:List (Value×Bool)}(e:LT[i]? =some (c,l)):JI K c l:=k.a_ (c,l) (List.mem_of_getElem? e)
theorem KF.c{K:Frag}(k:KF K)(i:Nat){c f:Addr}(e:LU[i]? =some (c,f)):Da K c f:=k.c_ (c,f) (List.mem_of_getElem? e)
theorem aC(X:FX):interactive X.env=false:=by
 have:=X.hk;simp[interactive,this]
theorem CA{W:Wd}{X:FX}(kf:KF W.K){gs:List Str}{pos:Pos}(j:Nat)(hgs:X.globs=gs)(hj:gs[j]? =some (Str.ofString "INHERITED")):cQ W X (.Name (Str.ofString "INHERITED") pos) (aK (.tup Hw)):=by
 obtain⟨a,dd,n,sl,t1,t2,t3,t4,h1,h2⟩:=kf.g_INHERITED;exact CC j hgs hj h1 h2 fun F=> .cons (.str _ _) (.cons (.str _ _) (.cons (.str _ _) (.cons (.str _ _) .nil)))
theorem yB{X:FX}{sc:Scope}(hsc:X.env.scope=sc){elt:Expr}{gens:List Comprehension}{scope:Scope}{pos py:Pos}{y:Str}{line:Nat}
  (h:(sc.kind== .function&&sc.names.lookup y==some .local&&py.line==pos.line&& !(scope.names.any fun p=>p.1==y&&(p.2== .local||p.2== .cell)))=true):swapsWith (.ListComp elt gens scope pos) (some (.Name y py)) line X.env=pure true:=by
 simp only[Bool.and_eq_true,beq_iff_eq,Bool.not_eq_true']at h;obtain⟨⟨⟨h1,h2⟩,h3⟩,h4⟩:=h;have e1:X.env.blockKind= .function:=by unfold Env.blockKind;rw[hsc,h1];rfl
 have e2:X.env.kindOf y=some .local:=by show X.env.scope.names.lookup y=_;rw[hsc];exact h2
 have e3:(py.line==pos.line)=true:=by simpa using h3
 have e4:(scope.names.any fun x=>match x with|(n,k)=>n==y&&(k== .local||k== .cell))=false:=h4
 unfold swapsWith;show(pure (X.env.blockKind== .function&&X.env.kindOf y==some .local&&py.line==pos.line&& !(scope.names.any fun x=>match x with|(n,k)=>n==y&&(k== .local||k== .cell))):Sem Bool)=_
 rw[e1,e2,e3,e4];rfl
theorem KJ{X:FX}{sc:Scope}(hsc:X.env.scope=sc){elt:Expr}{gens:List Comprehension}{scope:Scope}{pos py:Pos}{y:Str}{line:Nat}
  (h:sc.names.lookup y=some .cell):swapsWith (.ListComp elt gens scope pos) (some (.Name y py)) line X.env=pure false:=by
 have e2:X.env.kindOf y=some .cell:=by show X.env.scope.names.lookup y=_;rw[hsc];exact h
 unfold swapsWith;show(pure (X.env.blockKind== .function&&X.env.kindOf y==some .local&&py.line==pos.line&& !(scope.names.any fun x=>match x with|(n,k)=>n==y&&(k== .local||k== .cell))):Sem Bool)=_
 rw[e2,show((some NameKind.cell:Option NameKind)==some .local)=false from rfl]
 have:(NameKind.cell==NameKind.local)=false:=rfl;simp[this]
noncomputable def C4(sc:Scope)(ts vs:List Expr):Option (List Str):=
 if(!(ts.length==2||ts.length==3)||vs.length !=ts.length||sc.kind != .function)=true then none else
 if(vs.any fun| .Starred .. =>true|_=>false)=true then none else
 if((ts.filterMap fun
  | .Name id pos=>if sc.names.lookup id==some .local&&pos.line==(ts.head?.map (·.pos.line)).getD 0 then some id else none
  |_=>none).length !=ts.length||(ts.filterMap fun
  | .Name id pos=>if sc.names.lookup id==some .local&&pos.line==(ts.head?.map (·.pos.line)).getD 0 then some id else none
  |_=>none).eraseDups.length !=(ts.filterMap fun
  | .Name id pos=>if sc.names.lookup id==some .local&&pos.line==(ts.head?.map (·.pos.line)).getD 0 then some id else none
  |_=>none).length)=true then none else
 if vs.all (foldedForSure 8)=true then none else
 if vs.all (constantsAlone 8)=true then none else
 some (ts.filterMap fun
  | .Name id pos=>if sc.names.lookup id==some .local&&pos.line==(ts.head?.map (·.pos.line)).getD 0 then some id else none
  |_=>none)
theorem nt{α:Type}{c:Bool}{x:Option α}{r:α}(h:(if c=true then none else x)=some r):¬c=true∧x=some r:=by
 cases c with
 |true=>exact ns h
 |false=>exact⟨Bool.false_ne_true,h⟩
theorem DM{X:FX}{sc:Scope}(hsc:X.env.scope=sc){ts vs:List Expr}{k kk:Nat}{p1 p2:Pos}{xs:List Str}(h:(C4 sc ts vs==some xs)=true):swappedStores [.Tuple ts k p1] (.Tuple vs kk p2) X.env=pure (some xs):=by
 have h:=beq_iff_eq.mp h;subst hsc;have e1:X.env.blockKind=X.env.scope.kind:=by unfold Env.blockKind;rw[X.hk];rfl
 obtain⟨c1,h⟩:=nt h;obtain⟨c2,h⟩:=nt h;obtain⟨c3,h⟩:=nt h;obtain⟨c4,h⟩:=nt h;obtain⟨c5,h⟩:=nt h;rw[←e1]at c1;refine(if_neg c1).trans ?_;refine(if_neg c2).trans ?_;refine(if_neg c3).trans ?_;refine(if_neg c4).trans ?_;refine(if_neg c5).trans ?_;exact congrArg (fun z=>(pure (some z):Sem (Option (List Str)))) (Option.some.inj h)
theorem bF{a b:String}:Str.ofString a=Str.ofString b↔a=b:=by
 constructor
 ·intro h;rw[Str.ofString_eq_toList,Str.ofString_eq_toList]at h
  injection h with h
  have h:=Array.mk.inj h;have hm:∀(l m:List Char),l.map Char.toNat=m.map Char.toNat→l=m:=by
   intro l;induction l with
   |nil=>intro m h;cases m with
    |nil=>rfl
    |cons _ _=>cases h
   |cons c l ih=>intro m h;cases m with
    |nil=>cases h
    |cons d m=>
     simp only[List.map_cons,List.cons.injEq]at h;rw[ih m h.2,Char.ext (UInt32.toNat.inj h.1)]
  exact String.toList_inj.mp (hm _ _ h)
 ·rintro rfl;rfl
theorem dc(a b:String):(Str.ofString a==Str.ofString b)=(a==b):=by
 rw[Bool.eq_iff_iff,beq_iff_eq,beq_iff_eq,bF]
theorem I4{W:Wd}{n:Nat}{fa:Addr}{sp:ao}{params:Arguments}{body:List Stmt}{scope:Scope}{p:PS}(ps more globs:List Str)(hK:B0 W.K fa params body scope)(h333:fa≠333)
  (hchk:qV scope (ps++more) globs=true) (hb:∀(name qual:Str) (kV doc pm:Value) (an:Option Addr) (cdv ct:Value) (s:Shared) (vs:List Value),vs.length=ps.length→BindsTo s (fnOf name qual params body scope .none kV doc pm an cdv ct) ⟨vs,[]⟩ (ps.zip vs))
  (him:∀X:FX,X.names=ps++more→X.globs=globs→X.env.scope=scope→X.n=n→X.m=(ps++more).length→ix W X body p)
  (hsp:∀cs sg Q,sp cs sg Q→cs.length=ps.length∧p (cs.map some++more.map fun O=>none) sg (jn Q)):ax W (n+1) (.ref fa) sp:=by
 obtain⟨dV,hd,name,qual,kV,doc,pm,an,cdv,ct,oc,od,osl,h1,h2⟩:=hK;have hd:=hd.resolve_right h333;subst hd;refine Iq ps more globs h1 h2 hchk him fun F s vs cs sg Q hbase hv hq=> ?_;obtain⟨hl,hp⟩:=hsp cs sg Q hq;exact⟨vs,cs,hb _ _ _ _ _ _ _ _ _ _ (hv.length.trans hl),hv,hl,hp⟩
theorem ax.up{W:Wd}{n m:Nat}{f:Value}{sp:ao}(h:ax W n f sp)(hm:n≤m):ax W m f sp:=fun A kept F vs cs sg s Q K E hh hd hu=>h A kept F vs cs sg s Q K E hh (GQ hm hd) (GQ hm hu)
theorem ax.upb{W:Wd}{n m:Nat}{f:Value}{sp:ao}(h:ax W n f sp)(hm:Nat.ble n m=true):ax W m f sp:=h.up (Nat.le_of_ble_eq_true hm)
structure yU(ps mo:List Str)(p:PS)(sg:Sg)(Q:CV→Sg→Prop)(cs:List CV):Prop where
 l:cs.length=ps.length
 r:p (cs.map some++mo.map fun O=>none) sg (jn Q)
def xB(ps:List Str)(params:Arguments)(body:List Stmt)(scope:Scope):Prop:=∀(name qual:Str) (kV doc pm:Value) (an:Option Addr) (cdv ct:Value) (s:Shared) (vs:List Value),vs.length=ps.length→BindsTo s (fnOf name qual params body scope .none kV doc pm an cdv ct) ⟨vs,[]⟩ (ps.zip vs)
def gh(ps mo:List Str)(p:PS)(sp:ao):Prop:=∀sg Q cs,sp cs sg Q→yU ps mo p sg Q cs
theorem aO{W:Wd}{n:Nat}{fa:Addr}{sp:ao}{params:Arguments}{body:List Stmt}{scope:Scope}{p:PS}{ps more globs:List Str}(hK:B0 W.K fa params body scope)(h333:Nat.beq fa 333=false)
  (hchk:qV scope (ps++more) globs=true) (hb:xB ps params body scope)
  (him:∀X:FX,X.names=ps++more→X.globs=globs→X.env.scope=scope→X.n=n→X.m=(ps++more).length→ix W X body p)
  (hsp:gh ps more p sp):ax W (n+1) (.ref fa) sp:=I4 ps more globs hK (Nat.ne_of_beq_eq_false h333) hchk hb him fun cs sg Q h=>⟨(hsp sg Q cs h).1,(hsp sg Q cs h).2⟩
section
variable {A:Arguments}{B:List Stmt}{S:Scope}{x0 x1 x2 x3 x4 x5 x6:Str}
theorem dI(h:∀(name qual:Str) (kV doc pm:Value) (an:Option Addr) (cdv ct:Value) (s:Shared) (a:Value),BindsTo s (fnOf name qual A B S .none kV doc pm an cdv ct) ⟨[a],[]⟩ [(x0,a)]):xB [x0] A B S:=fun O O O O O O O O O O e=>oU e fun a O e=>Er e (h _ _ _ _ _ _ _ _ _ _)
theorem cF(h:∀(name qual:Str) (kV doc pm:Value) (an:Option Addr) (cdv ct:Value) (s:Shared) (a b:Value),BindsTo s (fnOf name qual A B S .none kV doc pm an cdv ct) ⟨[a,b],[]⟩ [(x0,a),(x1,b)]):xB [x0,x1] A B S:=fun O O O O O O O O O O e=>oU e fun a O e=>oU e fun b O e=>Er e (h _ _ _ _ _ _ _ _ _ _ _)
theorem gY(h:∀(name qual:Str) (kV doc pm:Value) (an:Option Addr) (cdv ct:Value) (s:Shared) (a b c:Value),BindsTo s (fnOf name qual A B S .none kV doc pm an cdv ct) ⟨[a,b,c],[]⟩ [(x0,a),(x1,b),(x2,c)]):xB [x0,x1,x2] A B S:=fun O O O O O O O O O O e=>oU e fun a O e=>oU e fun b O e=>oU e fun c O e=>Er e (h _ _ _ _ _ _ _ _ _ _ _ _)
theorem Ca(h:∀(name qual:Str) (kV doc pm:Value) (an:Option Addr) (cdv ct:Value) (s:Shared) (a b c d:Value),BindsTo s (fnOf name qual A B S .none kV doc pm an cdv ct) ⟨[a,b,c,d],[]⟩ [(x0,a),(x1,b),(x2,c),(x3,d)]):xB [x0,x1,x2,x3] A B S:=fun O O O O O O O O O O e=>oU e fun a O e=>oU e fun b O e=>oU e fun c O e=>oU e fun d O e=>Er e (h _ _ _ _ _ _ _ _ _ _ _ _ _)
theorem IU(h:∀(name qual:Str) (kV doc pm:Value) (an:Option Addr) (cdv ct:Value) (s:Shared) (a b c d e f:Value),BindsTo s (fnOf name qual A B S .none kV doc pm an cdv ct) ⟨[a,b,c,d,e,f],[]⟩ [(x0,a),(x1,b),(x2,c),(x3,d),(x4,e),(x5,f)]):xB [x0,x1,x2,x3,x4,x5] A B S:=fun O O O O O O O O O O e=>oU e fun a O e=>oU e fun b O e=>oU e fun c O e=>oU e fun d O e=>oU e fun e O e=>oU e fun f O e=>Er e (h _ _ _ _ _ _ _ _ _ _ _ _ _ _ _)
end
theorem ax.weaken{W:Wd}{n:Nat}{f:Value}{sp sp':ao}(h:ax W n f sp)(hs:∀cs sg Q,sp' cs sg Q→sp cs sg Q):ax W n f sp':=fun A kept F vs cs sg s Q K E hh hd hu C hv hq=>h A kept F vs cs sg s Q K E hh hd hu C hv (hs _ _ _ hq)
theorem Ce{W:Wd}{n:Nat}{C fI:Addr}{sp:ao}(h:Da W.K C fI)(ok:ax W n (.ref fI) sp):ax W (n+1) (.ref C) (IB C sp):=IY h.1 h.2.1 h.2.2 ok
abbrev Hd:=List (Str×CV)
abbrev Tb:=List (Int×CV)
noncomputable def aG(n:Int):CV:= .obj 273 [(Str.ofString "number",.int n),(Str.ofString "generation",.int 0)]
noncomputable def l_(x:Str):CV:= .obj 202 [(Str.ofString "text",.str x)]
noncomputable def cP(v:CV):CV:= .tup [.int 0,v]
def jq(C:Addr)(names:List Str):ao:=fun cs sg Q=>match cs with
 | .ref a::cs=>cs.length=names.length∧∃dx sg1,sg=(a,.obj C dx [])::sg1∧Q .none ((a,.obj C dx (names.zip cs))::sg1)
 |_=>False
def tg(C:Addr)(names:List Str):ao:=fun cs sg Q=>cs.length=names.length∧∀a dx,Q (.ref a) ((a,.obj C dx (names.zip cs))::sg)
theorem wb{W:Wd}{n:Nat}{C fI:Addr}{names:List Str}(h:Da W.K C fI)(ok:ax W n (.ref fI) (jq C names)):ax W (n+1) (.ref C) (tg C names):=
 (Ce h ok).weaken fun cs sg Q ⟨h1,h2⟩ a dx=>⟨h1,dx,sg,rfl,rfl,h2 a dx⟩
def gJ:=tg 202 [Str.ofString "text"]
def bY:=tg 273 [Str.ofString "number",Str.ofString "generation"]
def Ac:=tg 431 [Str.ofString "reference",Str.ofString "fields"]
def Ad:=tg 452 [Str.ofString "reference",Str.ofString "head",Str.ofString "above",Str.ofString "inherited",Str.ofString "is_page"]
def jp:=tg 686 [Str.ofString "data",Str.ofString "base",Str.ofString "shelf"]
inductive eW(sg:Sg)(Q:CV→Sg→Prop):List CV→Prop
 |mk {c:CV} (n):c=aG n→Q (.tup [.int n,.int 0]) sg→eW sg Q [c]
def aF:ao:=fun cs sg Q=>eW sg Q cs
noncomputable def Dx:CV→Option Str
 | .none=>some (Str.ofString "null")
 | .bool _=>some (Str.ofString "truth")
 | .int _=>some (Str.ofString "int")
 | .lst _=>some (Str.ofString "array")
 | .sd _=>some (Str.ofString "dict")
 | .obj C _=>if C=202 then some (Str.ofString "name")else if C=273 then some (Str.ofString "ref")else none
 |_=>none
inductive oh(sg:Sg)(Q:CV→Sg→Prop):List CV→Prop
 |mk {c:CV} (x):Dx c=some x→Q (.str x) sg→oh sg Q [c]
def f7:ao:=fun cs sg Q=>oh sg Q cs
noncomputable def jo(c:CV)(R:Hd):List (Str×CV):=[(Str.ofString "table",c),(Str.ofString "trailer",.sd R)]
def d6(sg:Sg)(sh:CV)(T:Tb)(R:Hd):Prop:=match sh with
 | .obj C fs=>C=404∧fs=jo (.nd T) R
 | .ref a=>∃dx c,(a,MO.obj 404 dx (jo c R))∈sg∧CK sg c T
 |_=>False
def ud(sg:Sg)(a:Addr)(T:Tb)(R:Hd)(pre post:Sg)(t:Addr):Prop:=sg=pre++(t,.nd T)::post∧∃dx,(a,MO.obj 404 dx (jo (.ref t) R))∈pre++post
theorem d6.table{sg:Sg}{sh:CV}{T:Tb}{R:Hd}(h:d6 sg sh T R):∃c,zc 404 sg sh (Str.ofString "table") c∧CK sg c T:=by
 cases sh with
 |obj C fs=>obtain⟨rfl,rfl⟩:=h;exact⟨_,⟨rfl,rfl⟩,rfl⟩
 |ref a=>obtain⟨dx,c,h1,h2⟩:=h;exact⟨c,⟨dx,_,h1,rfl⟩,h2⟩
 |_=>exact h.elim
theorem d6.trailer{sg:Sg}{sh:CV}{T:Tb}{R:Hd}(h:d6 sg sh T R):zc 404 sg sh (Str.ofString "trailer") (.sd R):=by
 cases sh with
 |obj C fs=>obtain⟨rfl,rfl⟩:=h;exact⟨rfl,rfl⟩
 |ref a=>obtain⟨dx,c,h1,h2⟩:=h;exact⟨dx,_,h1,rfl⟩
 |_=>exact h.elim
theorem d6.inst{sg:Sg}{sh:CV}{T:Tb}{R:Hd}(h:d6 sg sh T R)(name:Str)(hn:∀c,(jo c R).lookup name=none):CG 404 sg sh name:=by
 cases sh with
 |obj C fs=>obtain⟨rfl,rfl⟩:=h;exact⟨rfl,hn _⟩
 |ref a=>obtain⟨dx,c,h1,h2⟩:=h;exact⟨dx,_,h1,hn _⟩
 |_=>exact h.elim
theorem ud.at{sg:Sg}{a t:Addr}{T:Tb}{R:Hd}{pre post:Sg}(h:ud sg a T R pre post t):d6 sg (.ref a) T R:=by
 obtain⟨rfl,dx,h⟩:=h;refine⟨dx,.ref t,?_,List.mem_append_right _ (.head _)⟩;simp only[List.mem_append,List.mem_cons]at h ⊢;rcases h with h|h
 ·exact .inl h
 ·exact .inr (.inr h)
theorem ud.put{sg:Sg}{a t:Addr}{T:Tb}{R:Hd}{pre post:Sg}(h:ud sg a T R pre post t)(T':Tb):ud (pre++(t,.nd T')::post) a T' R pre post t:=⟨rfl,h.2⟩
theorem d6.more{sg:Sg}{sh:CV}{T:Tb}{R:Hd}(h:d6 sg sh T R)(x:Sg):d6 (x++sg) sh T R:=by
 cases sh with
 |obj C fs=>exact h
 |ref a=>
  obtain⟨dx,c,h1,h2⟩:=h;refine⟨dx,c,List.mem_append_right _ h1,?_⟩;cases c with
  |ref t=>exact List.mem_append_right _ h2
  |_=>exact h2
 |_=>exact h.elim
theorem d6.cons{sg:Sg}{sh:CV}{T:Tb}{R:Hd}(h:d6 sg sh T R)(x:Addr×MO):d6 (x::sg) sh T R:=h.more [x]
theorem lA{t:Addr}{m m':MO}:∀(pre:Sg) {post:Sg},gv t m m' (pre++(t,m)::post) (pre++(t,m')::post)
 |[],_=> .head
 |_::pre,_=> .tail (lA pre)
def NR:CV→Prop
 | .none=>True
 | .int _=>True
 | .lst _=>True
 | .sd _=>True
 | .obj C _=>C=202
 |_=>False
def km(T:Tb)(c r:CV):Prop:=(NR c∧r=c)∨∃n,c=aG n∧T.lookup n=some (cP r)∧NR r
theorem NR.isi{c:CV}(h:NR c):∃t,C7 c=some t∧(eY (.ref 273)).lookup t=some false:=by
 cases c with
 |obj C fs=>have h:C=202:=h;subst h;exact⟨_,rfl,rfl⟩
 |none=>exact⟨_,rfl,rfl⟩
 |int _=>exact⟨_,rfl,rfl⟩
 |lst _=>exact⟨_,rfl,rfl⟩
 |sd _=>exact⟨_,rfl,rfl⟩
 |_=>exact h.elim
inductive gw(sg:Sg)(Q:CV→Sg→Prop):List CV→Prop
 |mk {sh:CV} {c:CV} (T R r):d6 sg sh T R→km T c r→Q r sg→gw sg Q [sh,c]
def bg:ao:=fun cs sg Q=>gw sg Q cs
inductive iD(sg:Sg)(Q:CV→Sg→Prop):List CV→Prop
 |mk {sh:CV} {hd:CV} {k:Str} (T R l r):d6 sg sh T R→CY sg hd l→km T ((l.lookup k).getD .none) r→Q r sg→iD sg Q [sh,hd,.str k]
def aQ:ao:=fun cs sg Q=>iD sg Q cs
inductive jI(sg:Sg)(Q:CV→Sg→Prop):List CV→Prop
 |mk {a:Addr} {n:Int} {g:Int} {v:CV} (pre post t T R):ud sg a T R pre post t→T.length≤900→Q .none (pre++(t,.nd (bk n (.tup [.int g,v]) T))::post)→jI sg Q [.ref a,.int n,.int g,v]
def db:ao:=fun cs sg Q=>jI sg Q cs
inductive jH(sg:Sg)(Q:CV→Sg→Prop):List CV→Prop
 |mk {a:Addr} {v:CV} (pre post t T R) (k:Nat):ud sg a T R pre post t→T.length≤900→((∀i:Nat,1≤i→i≤k→(T.lookup (i:Int)).isSome=true))→T.lookup ((k:Int)+1)=none→Q (aG (k+1)) (pre++(t,.nd (bk ((k:Int)+1) (cP v) T))::post)→jH sg Q [.ref a,v]
def dH:ao:=fun cs sg Q=>jH sg Q cs
inductive iE(sg:Sg)(Q:CV→Sg→Prop):List CV→Prop
 |mk {sh:CV} (T R l):d6 sg sh T R→km T ((R.lookup (Str.ofString "Root")).getD .none) (.sd l)→Q (.sd l) sg→iE sg Q [sh]
def dO:ao:=fun cs sg Q=>iE sg Q cs
noncomputable def cA:Hd→Hd→Hd
 |l,[]=>l
 |l,(k,v)::r=>cA (if isNone v=true then mB k l else bk k v l) r
inductive qQ(sg:Sg)(Q:CV→Sg→Prop):List CV→Prop
 |mk {l:Hd} {ch:Hd}:(ch.map (·.1)).Nodup→l.length+ch.length≤900→Q (.sd (cA l ch)) sg→qQ sg Q [.sd l,.sd ch]
def dY:ao:=fun cs sg Q=>qQ sg Q cs
inductive n9(sg:Sg)(Q:CV→Sg→Prop):List CV→Prop
 |mk {sh:CV} {c:CV} (T R n v):d6 sg sh T R→c=aG n→T.lookup n=some (cP v)→NR v→Q (aG n) sg→n9 sg Q [sh,c]
def dj:ao:=fun cs sg Q=>n9 sg Q cs
inductive oa(sg:Sg)(Q:CV→Sg→Prop):List CV→Prop
 |mk {sh:CV} {l:Hd} (T R x):d6 sg sh T R→l.lookup (Str.ofString "Type")=some (l_ (Str.ofString x))→((x="Pages"∨x="Page"))→Q (.bool (x=="Pages")) sg→oa sg Q [sh,.sd l]
def qu:ao:=fun cs sg Q=>oa sg Q cs
inductive og(sg:Sg)(Q:CV→Sg→Prop):List CV→Prop
 |mk {sh:CV} {l:Hd} (T R ks):d6 sg sh T R→l.lookup (Str.ofString "Kids")=some (.lst ks)→Q (.lst ks) sg→og sg Q [sh,.sd l]
def cz:ao:=fun cs sg Q=>og sg Q cs
def DQ(T:Tb)(l:Hd):Prop:=∀k∈bM,∀c,l.lookup k=some c→∃r,km T c r∧isNone r=false
noncomputable def gi(l m:Hd):List Str→Hd
 |[]=>m
 |k::ks=>gi l (match l.lookup k with|some c=>bk k c m|none=>m) ks
noncomputable def Jx(n:Int)(l:Hd)(ab:List Int)(m:Hd)(pg:Bool):List (Str×CV):=[(Str.ofString "reference",aG n),(Str.ofString "head",.sd l),(Str.ofString "above",.tup (ab.map aG)),(Str.ofString "inherited",.sd m),(Str.ofString "is_page",.bool pg)]
noncomputable def f8(n:Int)(l:Hd)(ab:List Int)(m:Hd)(pg:Bool):CV:= .obj 452 (Jx n l ab m pg)
inductive Dj(sg:Sg)(Q:CV→Sg→Prop):List CV→Prop
 |mk {sh:CV} {c:CV} {ab:List CV} {m:Hd} (T R n l ns x):d6 sg sh T R→c=aG n→ab=ns.map aG→T.lookup n=some (cP (.sd l))→l.lookup (Str.ofString "Type")=some (l_ (Str.ofString x))→((x="Pages"∨x="Page"))→DQ T l→m.length≤100→Q (f8 n l ns (gi l m bM) (!(x=="Pages"))) sg→Dj sg Q [sh,c,.tup ab,.sd m]
def C0:ao:=fun cs sg Q=>Dj sg Q cs
noncomputable def ko(l m:Hd):List Str→Hd→Hd
 |[],f=>f
 |k::ks,f=>ko l m ks (match m.lookup k,l.lookup k with|some c,none=>bk k c f|_,_=>f)
inductive jO(sg:Sg)(Q:CV→Sg→Prop):List CV→Prop
 |mk {sh:CV} {c:CV} (T R n l ab m pg):d6 sg sh T R→c=f8 n l ab m pg→DQ T l→l.length≤100→Q (.sd (ko l m bM l)) sg→jO sg Q [sh,c]
def gN:ao:=fun cs sg Q=>jO sg Q cs
theorem L1{Q:Fl→bp→Sg→Prop}{rho:bp}{sg:Sg}(h:Q .next rho sg):wH am Q .next rho sg:=h
theorem L4{L:PS}{Q:Fl→bp→Sg→Prop}{rho:bp}{sg:Sg}(h:L rho sg Q):F8 L Q .next rho sg:=h
theorem ay{n:Nat}(h:n≤1000):small n:=h
theorem ej{n:Nat}(h:Nat.ble n 900=true):n≤900:=Nat.le_of_ble_eq_true h
theorem jw{a b:String}(h:a≠b):false=(Str.ofString a==Str.ofString b):=by rw[dc,eq_comm,beq_eq_false_iff_ne];exact h
theorem wF(a:Str):true=(a==a):=(beq_self_eq_true a).symm
theorem rs{Q:CV→Sg→Prop}{c:CV}{sg:Sg}(h:Q c sg):B6 Q c sg:=⟨sg,.refl _,h⟩
section
noncomputable def lp:List Str:=[Str.ofString "self",Str.ofString "text"]
noncomputable def lb:List Str:=[]
noncomputable def sQ:List Str:=[]
def t7:PS:=(aj (fG 202 (Str.ofString "text") (ak 0) (ak 1))
 am)
theorem sJ{W:Wd}(kf:KF W.K){N:Nat}{sp:ao}(hsp:gh lp lb (t7) sp):ax W (N+1) (.ref 199) sp:=by
 refine aO (ps:=lp) (more:=lb) (globs:=sQ) (kf.f 0 rfl) rfl (by decide+kernel) (cF fun O O O O O O O O O O O=> .of_eq rfl) (fun X hn hg hsc hnn hm=> ?_) hsp
 refine ag (cj (kf.b 0 rfl) rfl (ad 0 hn rfl) (ad 1 hn rfl)) ?_;exact ai
noncomputable def gU:List Str:=[Str.ofString "self",Str.ofString "number",Str.ofString "generation"]
noncomputable def gS:List Str:=[]
noncomputable def mG:List Str:=[]
def mU:PS:=(aj (fG 273 (Str.ofString "number") (ak 0) (ak 1))
 (aj (fG 273 (Str.ofString "generation") (ak 0) (ak 2))
 am))
theorem mE{W:Wd}(kf:KF W.K){N:Nat}{sp:ao}(hsp:gh gU gS (mU) sp):ax W (N+1) (.ref 263) sp:=by
 refine aO (ps:=gU) (more:=gS) (globs:=mG) (kf.f 1 rfl) rfl (by decide+kernel) (gY fun O O O O O O O O O O O O=> .of_eq rfl) (fun X hn hg hsc hnn hm=> ?_) hsp
 refine ag (cj (kf.b 1 rfl) rfl (ad 0 hn rfl) (ad 1 hn rfl)) ?_;refine ag (cj (kf.b 2 rfl) rfl (ad 0 hn rfl) (ad 2 hn rfl)) ?_;exact ai
noncomputable def lq:List Str:=[Str.ofString "self",Str.ofString "reference",Str.ofString "fields"]
noncomputable def lc:List Str:=[]
noncomputable def sR:List Str:=[]
def t8:PS:=(aj (fG 431 (Str.ofString "reference") (ak 0) (ak 1))
 (aj (fG 431 (Str.ofString "fields") (ak 0) (ak 2))
 am))
theorem sK{W:Wd}(kf:KF W.K){N:Nat}{sp:ao}(hsp:gh lq lc (t8) sp):ax W (N+1) (.ref 428) sp:=by
 refine aO (ps:=lq) (more:=lc) (globs:=sR) (kf.f 15 rfl) rfl (by decide+kernel) (gY fun O O O O O O O O O O O O=> .of_eq rfl) (fun X hn hg hsc hnn hm=> ?_) hsp
 refine ag (cj (kf.b 22 rfl) rfl (ad 0 hn rfl) (ad 1 hn rfl)) ?_;refine ag (cj (kf.b 23 rfl) rfl (ad 0 hn rfl) (ad 2 hn rfl)) ?_;exact ai
noncomputable def lr:List Str:=[Str.ofString "self",Str.ofString "reference",Str.ofString "head",Str.ofString "above",Str.ofString "inherited",Str.ofString "is_page"]
noncomputable def ld:List Str:=[]
noncomputable def sS:List Str:=[]
def t9:PS:=(aj (fG 452 (Str.ofString "reference") (ak 0) (ak 1))
 (aj (fG 452 (Str.ofString "head") (ak 0) (ak 2))
 (aj (fG 452 (Str.ofString "above") (ak 0) (ak 3))
 (aj (fG 452 (Str.ofString "inherited") (ak 0) (ak 4))
 (aj (fG 452 (Str.ofString "is_page") (ak 0) (ak 5))
 am)))))
theorem sL{W:Wd}(kf:KF W.K){N:Nat}{sp:ao}(hsp:gh lr ld (t9) sp):ax W (N+1) (.ref 449) sp:=by
 refine aO (ps:=lr) (more:=ld) (globs:=sS) (kf.f 16 rfl) rfl (by decide+kernel) (IU fun O O O O O O O O O O O O O O O=> .of_eq rfl) (fun X hn hg hsc hnn hm=> ?_) hsp
 refine ag (cj (kf.b 24 rfl) rfl (ad 0 hn rfl) (ad 1 hn rfl)) ?_;refine ag (cj (kf.b 25 rfl) rfl (ad 0 hn rfl) (ad 2 hn rfl)) ?_;refine ag (cj (kf.b 26 rfl) rfl (ad 0 hn rfl) (ad 3 hn rfl)) ?_;refine ag (cj (kf.b 27 rfl) rfl (ad 0 hn rfl) (ad 4 hn rfl)) ?_;refine ag (cj (kf.b 28 rfl) rfl (ad 0 hn rfl) (ad 5 hn rfl)) ?_;exact ai
noncomputable def j6:List Str:=[Str.ofString "self",Str.ofString "data",Str.ofString "base",Str.ofString "shelf"]
noncomputable def j1:List Str:=[]
noncomputable def rd:List Str:=[]
def se:PS:=(aj (fG 686 (Str.ofString "data") (ak 0) (ak 1))
 (aj (fG 686 (Str.ofString "base") (ak 0) (ak 2))
 (aj (fG 686 (Str.ofString "shelf") (ak 0) (ak 3))
 am)))
theorem q_{W:Wd}(kf:KF W.K){N:Nat}{sp:ao}(hsp:gh j6 j1 (se) sp):ax W (N+1) (.ref 683) sp:=by
 refine aO (ps:=j6) (more:=j1) (globs:=rd) (kf.f 48 rfl) rfl (by decide+kernel) (Ca fun O O O O O O O O O O O O O=> .of_eq rfl) (fun X hn hg hsc hnn hm=> ?_) hsp
 refine ag (cj (kf.b 78 rfl) rfl (ad 0 hn rfl) (ad 1 hn rfl)) ?_;refine ag (cj (kf.b 79 rfl) rfl (ad 0 hn rfl) (ad 2 hn rfl)) ?_;refine ag (cj (kf.b 80 rfl) rfl (ad 0 hn rfl) (ad 3 hn rfl)) ?_;exact ai
noncomputable def j7:List Str:=[Str.ofString "self"]
noncomputable def j2:List Str:=[]
noncomputable def rf:List Str:=[]
def sf:PS:=(aj (bQ (dK (ah (fld 273 (Str.ofString "number") (ak 0)) (ah (fld 273 (Str.ofString "generation") (ak 0)) aq))))
 am)
theorem rb{W:Wd}(kf:KF W.K){N:Nat}{sp:ao}(hsp:gh j7 j2 (sf) sp):ax W (N+1) (.ref 270) sp:=by
 refine aO (ps:=j7) (more:=j2) (globs:=rf) (kf.f 2 rfl) rfl (by decide+kernel) (dI fun O O O O O O O O O O=> .of_eq rfl) (fun X hn hg hsc hnn hm=> ?_) hsp
 refine ag (aL (bB (ae rfl (aB (kf.b 3 rfl) rfl (ad 0 hn rfl)) (ae rfl (aB (kf.b 4 rfl) rfl (ad 0 hn rfl)) af)))) ?_;exact ai
noncomputable def wp:List Str:=[Str.ofString "value"]
noncomputable def v_:List Str:=[]
noncomputable def Cz:List Str:=[Str.ofString "isinstance",Str.ofString "bool",Str.ofString "int",Str.ofString "Decimal",Str.ofString "Name",Str.ofString "String",Str.ofString "list",Str.ofString "dict",Str.ofString "Stream",Str.ofString "Reference",Str.ofString "PaperError"]
def DV:PS:=(aj (ew (aX (bh rZ (ak 0) (aK .none))) (aj (bQ (aK (.str (Str.ofString "null"))))
 am) am)
 (aj (ew (aX (isi (eY (.type "bool")) (ak 0))) (aj (bQ (aK (.str (Str.ofString "truth"))))
 am) am)
 (aj (ew (aX (isi (eY (.type "int")) (ak 0))) (aj (bQ (aK (.str (Str.ofString "int"))))
 am) am)
 (aj (ew (aX (isi (eY (.ref 167)) (ak 0))) (aj (bQ (aK (.str (Str.ofString "real"))))
 am) am)
 (aj (ew (aX (isi (eY (.ref 202)) (ak 0))) (aj (bQ (aK (.str (Str.ofString "name"))))
 am) am)
 (aj (ew (aX (isi (eY (.ref 224)) (ak 0))) (aj (bQ (aK (.str (Str.ofString "string"))))
 am) am)
 (aj (ew (aX (isi (eY (.type "list")) (ak 0))) (aj (bQ (aK (.str (Str.ofString "array"))))
 am) am)
 (aj (ew (aX (isi (eY (.type "dict")) (ak 0))) (aj (bQ (aK (.str (Str.ofString "dict"))))
 am) am)
 (aj (ew (aX (isi (eY (.ref 245)) (ak 0))) (aj (bQ (aK (.str (Str.ofString "stream"))))
 am) am)
 (aj (ew (aX (isi (eY (.ref 273)) (ak 0))) (aj (bQ (aK (.str (Str.ofString "ref"))))
 am) am)
 (aj m8
 am)))))))))))
theorem Cv{W:Wd}(kf:KF W.K){N:Nat}{sp:ao}(hsp:gh wp v_ (DV) sp):ax W (N+1) (.ref 284) sp:=by
 refine aO (ps:=wp) (more:=v_) (globs:=Cz) (kf.f 3 rfl) rfl (by decide+kernel) (dI fun O O O O O O O O O O=> .of_eq rfl) (fun X hn hg hsc hnn hm=> ?_) hsp
 refine ag (be (aE rfl e_ (ad 0 hn rfl) bE) (by {refine ag (aL aI) ?_;exact ai}) ai) ?_
 refine ag (be (bj rfl (h9 0 1 hg rfl (kf.n 0 rfl) rfl rfl (kf.n 1 rfl) rfl (by decide) (kf.a 0 rfl) rfl rfl rfl (ad 0 hn rfl))) (by {refine ag (aL aI) ?_;exact ai}) ai) ?_
 refine ag (be (bj rfl (h9 0 2 hg rfl (kf.n 0 rfl) rfl rfl (kf.n 2 rfl) rfl (by decide) (kf.a 1 rfl) rfl rfl rfl (ad 0 hn rfl))) (by {refine ag (aL aI) ?_;exact ai}) ai) ?_
 refine ag (be (bj rfl (fc 0 3 hg rfl (kf.n 0 rfl) rfl rfl (kf.n 3 rfl) (kf.a 2 rfl) rfl rfl rfl (ad 0 hn rfl))) (by {refine ag (aL aI) ?_;exact ai}) ai) ?_
 refine ag (be (bj rfl (fc 0 4 hg rfl (kf.n 0 rfl) rfl rfl (kf.n 4 rfl) (kf.a 3 rfl) rfl rfl rfl (ad 0 hn rfl))) (by {refine ag (aL aI) ?_;exact ai}) ai) ?_
 refine ag (be (bj rfl (fc 0 5 hg rfl (kf.n 0 rfl) rfl rfl (kf.n 5 rfl) (kf.a 4 rfl) rfl rfl rfl (ad 0 hn rfl))) (by {refine ag (aL aI) ?_;exact ai}) ai) ?_
 refine ag (be (bj rfl (h9 0 6 hg rfl (kf.n 0 rfl) rfl rfl (kf.n 6 rfl) rfl (by decide) (kf.a 5 rfl) rfl rfl rfl (ad 0 hn rfl))) (by {refine ag (aL aI) ?_;exact ai}) ai) ?_
 refine ag (be (bj rfl (h9 0 7 hg rfl (kf.n 0 rfl) rfl rfl (kf.n 7 rfl) rfl (by decide) (kf.a 6 rfl) rfl rfl rfl (ad 0 hn rfl))) (by {refine ag (aL aI) ?_;exact ai}) ai) ?_
 refine ag (be (bj rfl (fc 0 8 hg rfl (kf.n 0 rfl) rfl rfl (kf.n 8 rfl) (kf.a 7 rfl) rfl rfl rfl (ad 0 hn rfl))) (by {refine ag (aL aI) ?_;exact ai}) ai) ?_
 refine ag (be (bj rfl (fc 0 9 hg rfl (kf.n 0 rfl) rfl rfl (kf.n 9 rfl) (kf.a 8 rfl) rfl rfl rfl (ad 0 hn rfl))) (by {refine ag (aL aI) ?_;exact ai}) ai) ?_
 refine ag fR ?_;exact ai
noncomputable def mr:List Str:=[Str.ofString "self",Str.ofString "value"]
noncomputable def mf:List Str:=[Str.ofString "here",Str.ofString "hop",Str.ofString "generation",Str.ofString "found"]
noncomputable def uF:List Str:=[Str.ofString "range",Str.ofString "MOST_HOPS",Str.ofString "isinstance",Str.ofString "Reference"]
def qC:PS:=(aj (ew (lz (aX (isi (eY (.ref 273)) (ak 2)))) (aj (bQ (ak 2))
 am) am)
 (aj (gP [4,5] (cq Ew pG (fld 404 (Str.ofString "table") (ak 0)) (ah (fld 273 (Str.ofString "number") (ak 2)) (ah (dK (ah (un wC (aK (.int 1))) (ah (aK .none) aq))) aq))))
 (aj (ew (aX (bh lZ (ak 4) (fld 273 (Str.ofString "generation") (ak 2)))) (aj (bQ (aK .none))
 am) am)
 (aj (cS 2 (ak 5))
 am))))
def uS:PS:=(aj (cS 2 (ak 1))
 (aj (Cr 3 (aK (.int 30)) qC)
 (aj (bQ (xY (aX (isi (eY (.ref 273)) (ak 2))) (aK .none) (ak 2)))
 am)))
theorem uC{W:Wd}(kf:KF W.K){N:Nat}{sp:ao}(hsp:gh mr mf (uS) sp):ax W (N+1) (.ref 340) sp:=by
 refine aO (ps:=mr) (more:=mf) (globs:=uF) (kf.f 9 rfl) rfl (by decide+kernel) (cF fun O O O O O O O O O O O=> .of_eq rfl) (fun X hn hg hsc hnn hm=> ?_) hsp
 refine ag (ar 2 hn hm rfl (bl rfl) rfl (ad 1 hn rfl)) ?_;refine ag (om 3 0 hn hg hsc hnn hm rfl (bl rfl) rfl (kf.n 16 rfl) rfl rfl rfl (fun O=>rfl) (CB 1 hg rfl (Classical.choose_spec kf.g_MOST_HOPS)) (fun X hA hE hn hg hsc hnn hm=>(by {refine ag (be (c9 (bj rfl (fc 2 3 hg rfl (kf.n 0 rfl) rfl rfl (kf.n 9 rfl) (kf.a 8 rfl) rfl rfl rfl (ad 2 hn rfl)))) (by {refine ag (aL (ad 2 hn rfl)) ?_;exact ai}) ai) ?_;refine ag (dL hn hm (.cons 4 rfl (by decide) rfl (.cons 5 rfl (by decide) rfl .nil)) rfl rfl (br iL gB rfl rfl rfl (aB (kf.b 17 rfl) rfl (ad 0 hn rfl)) (ae rfl (aB (kf.b 3 rfl) rfl (ad 2 hn rfl)) (ae rfl (bB (ae rfl (vY nb av) (ae rfl bE af))) af)))) ?_;refine ag (be (aE rfl dl (ad 4 hn rfl) (aB (kf.b 4 rfl) rfl (ad 2 hn rfl))) (by {refine ag (aL bE) ?_;exact ai}) ai) ?_;refine ag (ar 2 hn hm rfl (bl rfl) rfl (ad 5 hn rfl)) ?_;exact ai}))) ?_
 refine ag (aL (fZ (bj rfl (fc 2 3 hg rfl (kf.n 0 rfl) rfl rfl (kf.n 9 rfl) (kf.a 8 rfl) rfl rfl rfl (ad 2 hn rfl))) bE (ad 2 hn rfl))) ?_;exact ai
noncomputable def pp:List Str:=[Str.ofString "self",Str.ofString "head",Str.ofString "key"]
noncomputable def o8:List Str:=[]
noncomputable def xi:List Str:=[]
def yL:PS:=(aj (bQ (bA 404 (Str.ofString "fetch") bg (ak 0) (ah (cq Ew pG (ak 1) (ah (ak 2) aq)) aq)))
 am)
theorem w_{W:Wd}(kf:KF W.K){N:Nat}(aP:ax W N (.ref 340) bg){sp:ao}(hsp:gh pp o8 (yL) sp):ax W (N+1) (.ref 347) sp:=by
 refine aO (ps:=pp) (more:=o8) (globs:=xi) (kf.f 10 rfl) rfl (by decide+kernel) (gY fun O O O O O O O O O O O O=> .of_eq rfl) (fun X hn hg hsc hnn hm=> ?_) hsp
 refine ag (aL (bi (kf.b 18 rfl) aP (bn hnn) rfl rfl rfl (ad 0 hn rfl) (ae rfl (br iL gB rfl rfl rfl (ad 1 hn rfl) (ae rfl (ad 2 hn rfl) af)) af))) ?_;exact ai
noncomputable def rK:List Str:=[Str.ofString "self",Str.ofString "number",Str.ofString "generation",Str.ofString "value"]
noncomputable def rp:List Str:=[]
noncomputable def zs:List Str:=[]
def Au:PS:=(aj (dC (fld 404 (Str.ofString "table") (ak 0)) (ak 1) (dK (ah (ak 2) (ah (ak 3) aq))))
 am)
theorem zf{W:Wd}(kf:KF W.K){N:Nat}{sp:ao}(hsp:gh rK rp (Au) sp):ax W (N+1) (.ref 368) sp:=by
 refine aO (ps:=rK) (more:=rp) (globs:=zs) (kf.f 11 rfl) rfl (by decide+kernel) (Ca fun O O O O O O O O O O O O O=> .of_eq rfl) (fun X hn hg hsc hnn hm=> ?_) hsp
 refine ag (bI rfl (aB (kf.b 17 rfl) rfl (ad 0 hn rfl)) (ad 1 hn rfl) (bB (ae rfl (ad 2 hn rfl) (ae rfl (ad 3 hn rfl) af)))) ?_;exact ai
noncomputable def rJ:List Str:=[Str.ofString "self",Str.ofString "value"]
noncomputable def ro:List Str:=[Str.ofString "number"]
noncomputable def zr:List Str:=[Str.ofString "Reference"]
def mR:PB:=(aX (bh BQ (ak 2) (fld 404 (Str.ofString "table") (ak 0))))
def iR:PS:=(aj (cS 2 (bh dD (ak 2) (aK (.int 1))))
 am)
def At:PS:=(aj (cS 2 (aK (.int 1)))
 (aj (tn mR iR)
 (aj (dC (fld 404 (Str.ofString "table") (ak 0)) (ak 2) (dK (ah (aK (.int 0)) (ah (ak 1) aq))))
 (aj (bQ (fv (aA bY (ah (ak 2) (ah (aK (.int 0)) aq)))))
 am))))
theorem ze{W:Wd}(kf:KF W.K){N:Nat}(bx:ax W N (.ref 273) bY){sp:ao}(hsp:gh rJ ro (At) sp):ax W (N+1) (.ref 375) sp:=by
 refine aO (ps:=rJ) (more:=ro) (globs:=zr) (kf.f 12 rfl) rfl (by decide+kernel) (cF fun O O O O O O O O O O O=> .of_eq rfl) (fun X hn hg hsc hnn hm=> ?_) hsp
 refine ag (ar 2 hn hm rfl (bl rfl) rfl av) ?_;refine ag (nq (aE rfl lO (ad 2 hn rfl) (aB (kf.b 17 rfl) rfl (ad 0 hn rfl))) (by {refine ag (ar 2 hn hm rfl (bl rfl) rfl (bH bG (ad 2 hn rfl) av)) ?_;exact ai})) ?_
 refine ag (bI rfl (aB (kf.b 17 rfl) rfl (ad 0 hn rfl)) (ad 2 hn rfl) (bB (ae rfl av (ae rfl (ad 1 hn rfl) af)))) ?_;refine ag (aL (aT (au 0 hg rfl (kf.n 9 rfl) (kf.b 9 rfl) bx (bn hnn) rfl rfl (ae rfl (ad 2 hn rfl) (ae rfl av af))))) ?_;exact ai
noncomputable def pq:List Str:=[Str.ofString "self"]
noncomputable def o9:List Str:=[Str.ofString "found"]
noncomputable def xj:List Str:=[Str.ofString "isinstance",Str.ofString "dict"]
def yM:PS:=(aj (cS 1 (bA 404 (Str.ofString "get") aQ (ak 0) (ah (fld 404 (Str.ofString "trailer") (ak 0)) (ah (aK (.str (Str.ofString "Root"))) aq))))
 (aj (bQ (xY (aX (isi (eY (.type "dict")) (ak 1))) (ak 1) (fv (fW (.sd [])))))
 am))
theorem xa{W:Wd}(kf:KF W.K){N:Nat}(aH:ax W N (.ref 347) aQ){sp:ao}(hsp:gh pq o9 (yM) sp):ax W (N+1) (.ref 396) sp:=by
 refine aO (ps:=pq) (more:=o9) (globs:=xj) (kf.f 13 rfl) rfl (by decide+kernel) (dI fun O O O O O O O O O O=> .of_eq rfl) (fun X hn hg hsc hnn hm=> ?_) hsp
 refine ag (ar 1 hn hm rfl (bl rfl) rfl (bi (kf.b 19 rfl) aH (bn hnn) rfl rfl rfl (ad 0 hn rfl) (ae rfl (aB (kf.b 20 rfl) rfl (ad 0 hn rfl)) (ae rfl aI af)))) ?_;refine ag (aL (fZ (bj rfl (h9 0 1 hg rfl (kf.n 0 rfl) rfl rfl (kf.n 7 rfl) rfl (by decide) (kf.a 6 rfl) rfl rfl rfl (ad 1 hn rfl))) (ad 1 hn rfl) (aT (cU rfl)))) ?_
 exact ai
noncomputable def yp:List Str:=[Str.ofString "head",Str.ofString "changes"]
noncomputable def yg:List Str:=[Str.ofString "found",Str.ofString "key"]
noncomputable def Ei:List Str:=[Str.ofString "dict"]
def tu:PS:=(aj (ew (aX (bh rZ (bh aR (ak 1) (ak 3)) (aK .none))) (aj (cB (cq Ew GD (ak 2) (ah (ak 3) (ah (aK .none) aq))))
 am) (aj (dC (ak 2) (ak 3) (bh aR (ak 1) (ak 3)))
 am))
 am)
def EY:PS:=(aj (cS 2 (aA rY (ah (ak 0) aq)))
 (aj (forS 3 (ak 1) tu)
 (i9 2 (aj (bQ (ak 2))
 am))))
theorem Ef{W:Wd}(kf:KF W.K){N:Nat}{sp:ao}(hsp:gh yp yg (EY) sp):ax W (N+1) (.ref 463) sp:=by
 refine aO (ps:=yp) (more:=yg) (globs:=Ei) (kf.f 17 rfl) rfl (by decide+kernel) (cF fun O O O O O O O O O O O=> .of_eq rfl) (fun X hn hg hsc hnn hm=> ?_) hsp
 refine ag (ar 2 hn hm rfl (bl rfl) rfl (bd 0 hg rfl (kf.n 7 rfl) rfl (by decide) (.inr ⟨_,rfl⟩) m_ rfl rfl (ae rfl (ad 0 hn rfl) af))) ?_
 refine ag (fY 3 hn hg hsc hnn hm rfl (bl rfl) (fun O=>rfl) (ad 1 hn rfl) (fun X hA hE hn hg hsc hnn hm=>(by {refine ag (be (aE rfl e_ (aU (fun O O=>rfl) aD (ad 1 hn rfl) (ad 3 hn rfl)) bE) (by {refine ag (bq (aC X) rfl (br Fd D9 rfl rfl rfl (ad 2 hn rfl) (ae rfl (ad 3 hn rfl) (ae rfl bE af)))) ?_;exact ai}) (by {refine ag (bI rfl (ad 2 hn rfl) (ad 3 hn rfl) (aU (fun O O=>rfl) aD (ad 1 hn rfl) (ad 3 hn rfl))) ?_;exact ai})) ?_;exact ai}))) ?_
 refine cV 2 ?_;refine ag (aL (ad 2 hn rfl)) ?_;exact ai
noncomputable def wm:List Str:=[Str.ofString "shelf",Str.ofString "value"]
noncomputable def v7:List Str:=[Str.ofString "here",Str.ofString "seen",Str.ofString "generation",Str.ofString "found"]
noncomputable def Cw:List Str:=[Str.ofString "isinstance",Str.ofString "Reference",Str.ofString "TreeFault"]
def yK:PB:=(qw (aX (isi (eY (.ref 273)) (ak 2))) (qw (aX (bh oB (fld 273 (Str.ofString "number") (ak 2)) (ak 3))) d9))
def yJ:PS:=(aj (dC (ak 3) (fld 273 (Str.ofString "number") (ak 2)) (aK (.bool true)))
 (aj (gP [4,5] (cq Ew pG (fld 404 (Str.ofString "table") (ak 0)) (ah (fld 273 (Str.ofString "number") (ak 2)) (ah (dK (ah (un wC (aK (.int 1))) (ah (aK .none) aq))) aq))))
 (aj (ew (aX (bh lZ (ak 4) (fld 273 (Str.ofString "generation") (ak 2)))) (aj IV
 am) am)
 (aj (ew (lz (aX (isi (eY (.ref 273)) (ak 5)))) (aj (bQ (ak 2))
 am) am)
 (aj (cS 2 (ak 5))
 am)))))
def DS:PS:=(aj (cS 2 (ak 1))
 (aj (cS 3 (fW (.nd [])))
 (aj (tn yK yJ)
 (aj m8
 am))))
theorem Cs{W:Wd}(kf:KF W.K){N:Nat}{sp:ao}(hsp:gh wm v7 (DS) sp):ax W (N+1) (.ref 470) sp:=by
 refine aO (ps:=wm) (more:=v7) (globs:=Cw) (kf.f 18 rfl) rfl (by decide+kernel) (cF fun O O O O O O O O O O O=> .of_eq rfl) (fun X hn hg hsc hnn hm=> ?_) hsp
 refine ag (ar 2 hn hm rfl (bl rfl) rfl (ad 1 hn rfl)) ?_;refine ag (ar 3 hn hm rfl (bl rfl) rfl (cU rfl)) ?_;refine ag (nq (eJ (bj rfl (fc 0 1 hg rfl (kf.n 0 rfl) rfl rfl (kf.n 9 rfl) (kf.a 8 rfl) rfl rfl rfl (ad 2 hn rfl))) (eJ (aE rfl i8 (aB (kf.b 3 rfl) rfl (ad 2 hn rfl)) (ad 3 hn rfl)) jd)) (by {refine ag (bI rfl (ad 3 hn rfl) (aB (kf.b 3 rfl) rfl (ad 2 hn rfl)) gC) ?_;refine ag (dL hn hm (.cons 4 rfl (by decide) rfl (.cons 5 rfl (by decide) rfl .nil)) rfl rfl (br iL gB rfl rfl rfl (aB (kf.b 17 rfl) rfl (ad 0 hn rfl)) (ae rfl (aB (kf.b 3 rfl) rfl (ad 2 hn rfl)) (ae rfl (bB (ae rfl (vY nb av) (ae rfl bE af))) af)))) ?_;refine ag (be (aE rfl dl (ad 4 hn rfl) (aB (kf.b 4 rfl) rfl (ad 2 hn rfl))) (by {refine ag Bj ?_;exact ai}) ai) ?_;refine ag (be (c9 (bj rfl (fc 0 1 hg rfl (kf.n 0 rfl) rfl rfl (kf.n 9 rfl) (kf.a 8 rfl) rfl rfl rfl (ad 5 hn rfl)))) (by {refine ag (aL (ad 2 hn rfl)) ?_;exact ai}) ai) ?_;refine ag (ar 2 hn hm rfl (bl rfl) rfl (ad 5 hn rfl)) ?_;exact ai})) ?_
 refine ag fR ?_;exact ai
noncomputable def wn:List Str:=[Str.ofString "shelf",Str.ofString "head"]
noncomputable def v8:List Str:=[Str.ofString "kind"]
noncomputable def Cx:List Str:=[Str.ofString "isinstance",Str.ofString "Name"]
def DT:PS:=(aj (cS 2 (bA 404 (Str.ofString "get") aQ (ak 0) (ah (ak 1) (ah (aK (.str (Str.ofString "Type"))) aq))))
 (aj (ew (qw (aX (isi (eY (.ref 202)) (ak 2))) (qw (aX (bh BQ (fld 202 (Str.ofString "text") (ak 2)) (dK (ah (aK (.str (Str.ofString "Pages"))) (ah (aK (.str (Str.ofString "Page"))) aq))))) d9)) (aj (bQ (bh eG (fld 202 (Str.ofString "text") (ak 2)) (aK (.str (Str.ofString "Pages")))))
 am) am)
 (aj (bQ (bh oA (bA 404 (Str.ofString "get") aQ (ak 0) (ah (ak 1) (ah (aK (.str (Str.ofString "Kids"))) aq))) (aK .none)))
 am)))
theorem Ct{W:Wd}(kf:KF W.K){N:Nat}(aH:ax W N (.ref 347) aQ){sp:ao}(hsp:gh wn v8 (DT) sp):ax W (N+1) (.ref 477) sp:=by
 refine aO (ps:=wn) (more:=v8) (globs:=Cx) (kf.f 19 rfl) rfl (by decide+kernel) (cF fun O O O O O O O O O O O=> .of_eq rfl) (fun X hn hg hsc hnn hm=> ?_) hsp
 refine ag (ar 2 hn hm rfl (bl rfl) rfl (bi (kf.b 19 rfl) aH (bn hnn) rfl rfl rfl (ad 0 hn rfl) (ae rfl (ad 1 hn rfl) (ae rfl aI af)))) ?_;refine ag (be (eJ (bj rfl (fc 0 1 hg rfl (kf.n 0 rfl) rfl rfl (kf.n 4 rfl) (kf.a 3 rfl) rfl rfl rfl (ad 2 hn rfl))) (eJ (aE rfl lO (aB (kf.b 29 rfl) rfl (ad 2 hn rfl)) (bB (ae rfl aI (ae rfl aI af)))) jd)) (by {refine ag (aL (fX rfl bt (aB (kf.b 29 rfl) rfl (ad 2 hn rfl)) aI)) ?_;exact ai}) ai) ?_
 refine ag (aL (fX rfl lP (bi (kf.b 19 rfl) aH (bn hnn) rfl rfl rfl (ad 0 hn rfl) (ae rfl (ad 1 hn rfl) (ae rfl aI af))) bE)) ?_;exact ai
noncomputable def wo:List Str:=[Str.ofString "shelf",Str.ofString "head"]
noncomputable def v9:List Str:=[Str.ofString "kids"]
noncomputable def Cy:List Str:=[Str.ofString "isinstance",Str.ofString "list",Str.ofString "TreeFault"]
def DU:PS:=(aj (cS 2 (bA 404 (Str.ofString "get") aQ (ak 0) (ah (ak 1) (ah (aK (.str (Str.ofString "Kids"))) aq))))
 (aj (ew (lz (aX (isi (eY (.type "list")) (ak 2)))) (aj m8
 am) am)
 (aj (bQ (ak 2))
 am)))
theorem Cu{W:Wd}(kf:KF W.K){N:Nat}(aH:ax W N (.ref 347) aQ){sp:ao}(hsp:gh wo v9 (DU) sp):ax W (N+1) (.ref 484) sp:=by
 refine aO (ps:=wo) (more:=v9) (globs:=Cy) (kf.f 20 rfl) rfl (by decide+kernel) (cF fun O O O O O O O O O O O=> .of_eq rfl) (fun X hn hg hsc hnn hm=> ?_) hsp
 refine ag (ar 2 hn hm rfl (bl rfl) rfl (bi (kf.b 19 rfl) aH (bn hnn) rfl rfl rfl (ad 0 hn rfl) (ae rfl (ad 1 hn rfl) (ae rfl aI af)))) ?_;refine ag (be (c9 (bj rfl (h9 0 1 hg rfl (kf.n 0 rfl) rfl rfl (kf.n 6 rfl) rfl (by decide) (kf.a 5 rfl) rfl rfl rfl (ad 2 hn rfl)))) (by {refine ag fR ?_;exact ai}) ai) ?_
 refine ag (aL (ad 2 hn rfl)) ?_;exact ai
noncomputable def Gr:List Str:=[Str.ofString "shelf",Str.ofString "value",Str.ofString "above",Str.ofString "inherited"]
noncomputable def Gc:List Str:=[Str.ofString "reference",Str.ofString "head",Str.ofString "given",Str.ofString "key"]
noncomputable def Jb:List Str:=[Str.ofString "home_of",Str.ofString "isinstance",Str.ofString "dict",Str.ofString "TreeFault",Str.ofString "INHERITED",Str.ofString "Spot",Str.ofString "is_node"]
def Ar:PS:=(aj (ew (aX (bh oA (bA 404 (Str.ofString "get") aQ (ak 0) (ah (ak 5) (ah (ak 7) aq))) (aK .none))) (aj (dC (ak 6) (ak 7) (bh aR (ak 5) (ak 7)))
 am) am)
 am)
def J8:PS:=(aj (cS 4 (aA dj (ah (ak 0) (ah (ak 1) aq))))
 (aj (cS 5 (bA 404 (Str.ofString "fetch") bg (ak 0) (ah (ak 4) aq)))
 (aj (ew (lz (aX (isi (eY (.type "dict")) (ak 5)))) (aj m8
 am) am)
 (aj (cS 6 (aA rY (ah (ak 3) aq)))
 (aj (forS 7 (aK (.tup Hw)) Ar)
 (i9 6 (aj (bQ (fv (aA Ad (ah (ak 4) (ah (ak 5) (ah (ak 2) (ah (ak 6) (ah (un GG (aA qu (ah (ak 0) (ah (ak 5) aq)))) aq))))))))
 am)))))))
theorem I9{W:Wd}(kf:KF W.K){N:Nat}(b8:ax W N (.ref 470) dj)(aP:ax W N (.ref 340) bg)(aH:ax W N (.ref 347) aQ)(zW:ax W N (.ref 452) Ad)(qm:ax W N (.ref 477) qu){sp:ao}(hsp:gh Gr Gc (J8) sp):ax W (N+1) (.ref 491) sp:=by
 refine aO (ps:=Gr) (more:=Gc) (globs:=Jb) (kf.f 21 rfl) rfl (by decide+kernel) (Ca fun O O O O O O O O O O O O O=> .of_eq rfl) (fun X hn hg hsc hnn hm=> ?_) hsp
 refine ag (ar 4 hn hm rfl (bl rfl) rfl (au 0 hg rfl (kf.n 18 rfl) (kf.b 30 rfl) b8 (bn hnn) rfl rfl (ae rfl (ad 0 hn rfl) (ae rfl (ad 1 hn rfl) af)))) ?_;refine ag (ar 5 hn hm rfl (bl rfl) rfl (bi (kf.b 18 rfl) aP (bn hnn) rfl rfl rfl (ad 0 hn rfl) (ae rfl (ad 4 hn rfl) af))) ?_;refine ag (be (c9 (bj rfl (h9 1 2 hg rfl (kf.n 0 rfl) rfl rfl (kf.n 7 rfl) rfl (by decide) (kf.a 6 rfl) rfl rfl rfl (ad 5 hn rfl)))) (by {refine ag fR ?_;exact ai}) ai) ?_
 refine ag (ar 6 hn hm rfl (bl rfl) rfl (bd 2 hg rfl (kf.n 7 rfl) rfl (by decide) (.inr ⟨_,rfl⟩) m_ rfl rfl (ae rfl (ad 3 hn rfl) af))) ?_
 refine ag (fY 7 hn hg hsc hnn hm rfl (bl rfl) (fun O=>rfl) (CA kf 4 hg rfl) (fun X hA hE hn hg hsc hnn hm=>(by {refine ag (be (aE rfl lP (bi (kf.b 19 rfl) aH (bn hnn) rfl rfl rfl (ad 0 hn rfl) (ae rfl (ad 5 hn rfl) (ae rfl (ad 7 hn rfl) af))) bE) (by {refine ag (bI rfl (ad 6 hn rfl) (ad 7 hn rfl) (aU (fun O O=>rfl) aD (ad 5 hn rfl) (ad 7 hn rfl))) ?_;exact ai}) ai) ?_;exact ai}))) ?_
 refine cV 6 ?_;refine ag (aL (aT (au 5 hg rfl (kf.n 20 rfl) (kf.b 32 rfl) zW (bn hnn) rfl rfl (ae rfl (ad 4 hn rfl) (ae rfl (ad 5 hn rfl) (ae rfl (ad 2 hn rfl) (ae rfl (ad 6 hn rfl) (ae rfl (vY AX (au 6 hg rfl (kf.n 19 rfl) (kf.b 31 rfl) qm (bn hnn) rfl rfl (ae rfl (ad 0 hn rfl) (ae rfl (ad 5 hn rfl) af)))) af)))))))) ?_;exact ai
noncomputable def rQ:List Str:=[Str.ofString "shelf",Str.ofString "spot"]
noncomputable def rB:List Str:=[Str.ofString "found",Str.ofString "key"]
noncomputable def zy:List Str:=[Str.ofString "dict",Str.ofString "INHERITED"]
def mO:PS:=(aj (ew (qw (aX (bh BQ (ak 3) (fld 452 (Str.ofString "inherited") (ak 1)))) (qw (aX (bh rZ (bA 404 (Str.ofString "get") aQ (ak 0) (ah (fld 452 (Str.ofString "head") (ak 1)) (ah (ak 3) aq))) (aK .none))) d9)) (aj (dC (ak 2) (ak 3) (bh aR (fld 452 (Str.ofString "inherited") (ak 1)) (ak 3)))
 am) am)
 am)
def AB:PS:=(aj (cS 2 (aA rY (ah (fld 452 (Str.ofString "head") (ak 1)) aq)))
 (aj (forS 3 (aK (.tup Hw)) mO)
 (i9 2 (aj (bQ (ak 2))
 am))))
theorem zl{W:Wd}(kf:KF W.K){N:Nat}(aH:ax W N (.ref 347) aQ){sp:ao}(hsp:gh rQ rB (AB) sp):ax W (N+1) (.ref 505) sp:=by
 refine aO (ps:=rQ) (more:=rB) (globs:=zy) (kf.f 23 rfl) rfl (by decide+kernel) (cF fun O O O O O O O O O O O=> .of_eq rfl) (fun X hn hg hsc hnn hm=> ?_) hsp
 refine ag (ar 2 hn hm rfl (bl rfl) rfl (bd 0 hg rfl (kf.n 7 rfl) rfl (by decide) (.inr ⟨_,rfl⟩) m_ rfl rfl (ae rfl (aB (kf.b 38 rfl) rfl (ad 1 hn rfl)) af))) ?_
 refine ag (fY 3 hn hg hsc hnn hm rfl (bl rfl) (fun O=>rfl) (CA kf 1 hg rfl) (fun X hA hE hn hg hsc hnn hm=>(by {refine ag (be (eJ (aE rfl lO (ad 3 hn rfl) (aB (kf.b 37 rfl) rfl (ad 1 hn rfl))) (eJ (aE rfl e_ (bi (kf.b 19 rfl) aH (bn hnn) rfl rfl rfl (ad 0 hn rfl) (ae rfl (aB (kf.b 38 rfl) rfl (ad 1 hn rfl)) (ae rfl (ad 3 hn rfl) af))) bE) jd)) (by {refine ag (bI rfl (ad 2 hn rfl) (ad 3 hn rfl) (aU (fun O O=>rfl) aD (aB (kf.b 37 rfl) rfl (ad 1 hn rfl)) (ad 3 hn rfl))) ?_;exact ai}) ai) ?_;exact ai}))) ?_
 refine cV 2 ?_;refine ag (aL (ad 2 hn rfl)) ?_;exact ai
end
section
variable {W:Wd}
inductive JJ(C:Addr)(names:List Str)(sg:Sg)(Q:CV→Sg→Prop):List CV→Prop
 |mk {a:Addr} {cs:List CV} (dx:Addr) (sg1:Sg):cs.length=names.length→sg=(a,.obj C dx [])::sg1→Q .none ((a,.obj C dx (names.zip cs))::sg1)→JJ C names sg Q (.ref a::cs)
theorem zJ{C:Addr}{ns:List Str}{cs:List CV}{sg:Sg}{Q:CV→Sg→Prop}(h:jq C ns cs sg Q):JJ C ns sg Q cs:=by
 cases cs with
 |nil=>exact h.elim
 |cons c cs=>cases c with
  |ref a=>obtain⟨h1,dx,sg1,h2,h3⟩:=h;exact⟨dx,sg1,h1,h2,h3⟩
  |_=>exact h.elim
theorem Lx{C:Addr}{x0:Str}{cs:List CV}{sg:Sg}{Q:CV→Sg→Prop}(h:jq C [x0] cs sg Q){ps mo:List Str}{P:PS}
  (k:∀a c0 dx sg1,Q .none ((a,.obj C dx [(x0,c0)])::sg1)→yU ps mo P ((a,.obj C dx [])::sg1) Q [.ref a,c0]):yU ps mo P sg Q cs:=by
 refine JJ.casesOn (zJ h) fun {a r} dx sg1 z e=> ?_;exact oU z fun c0 O z=>Er z (fun hq=>e▸k a c0 dx sg1 hq)
theorem Kr{C:Addr}{x0 x1:Str}{cs:List CV}{sg:Sg}{Q:CV→Sg→Prop}(h:jq C [x0,x1] cs sg Q){ps mo:List Str}{P:PS}
  (k:∀a c0 c1 dx sg1,Q .none ((a,.obj C dx [(x0,c0),(x1,c1)])::sg1)→yU ps mo P ((a,.obj C dx [])::sg1) Q [.ref a,c0,c1]):yU ps mo P sg Q cs:=by
 refine JJ.casesOn (zJ h) fun {a r} dx sg1 z e=> ?_;exact oU z fun c0 O z=>oU z fun c1 O z=>Er z (fun hq=>e▸k a c0 c1 dx sg1 hq)
theorem Ly{C:Addr}{x0 x1 x2:Str}{cs:List CV}{sg:Sg}{Q:CV→Sg→Prop}(h:jq C [x0,x1,x2] cs sg Q){ps mo:List Str}{P:PS}
  (k:∀a c0 c1 c2 dx sg1,Q .none ((a,.obj C dx [(x0,c0),(x1,c1),(x2,c2)])::sg1)→yU ps mo P ((a,.obj C dx [])::sg1) Q [.ref a,c0,c1,c2]):yU ps mo P sg Q cs:=by
 refine JJ.casesOn (zJ h) fun {a r} dx sg1 z e=> ?_;exact oU z fun c0 O z=>oU z fun c1 O z=>oU z fun c2 O z=>Er z (fun hq=>e▸k a c0 c1 c2 dx sg1 hq)
theorem Lz{C:Addr}{x0 x1 x2 x3 x4:Str}{cs:List CV}{sg:Sg}{Q:CV→Sg→Prop}(h:jq C [x0,x1,x2,x3,x4] cs sg Q){ps mo:List Str}{P:PS}
  (k:∀a c0 c1 c2 c3 c4 dx sg1,Q .none ((a,.obj C dx [(x0,c0),(x1,c1),(x2,c2),(x3,c3),(x4,c4)])::sg1)→yU ps mo P ((a,.obj C dx [])::sg1) Q [.ref a,c0,c1,c2,c3,c4]):yU ps mo P sg Q cs:=by
 refine JJ.casesOn (zJ h) fun {a r} dx sg1 z e=> ?_;exact oU z fun c0 O z=>oU z fun c1 O z=>oU z fun c2 O z=>oU z fun c3 O z=>oU z fun c4 O z=>Er z (fun hq=>e▸k a c0 c1 c2 c3 c4 dx sg1 hq)
theorem nx{R:PS}{rho:bp}{sg:Sg}{Q:Fl→bp→Sg→Prop}(h:R rho sg Q):am rho sg (wH R Q):=h
theorem isiN{i:Nat}{A:List (Value×Bool)}{B R:PS}{rho:bp}{sg:Sg}{Q:Fl→bp→Sg→Prop}{c:CV}{t:Value}(hv:rho[i]? =some (some c))(ht:C7 c=some t)(hl:A.lookup t=some false)(h:R rho sg Q):
  aj (ew (aX (isi A (ak i))) B am) R rho sg Q:=by
 show match rho[i]? with|some (some c)=>K0 A (yE (Lv B am rho (wH R Q))) c sg|_=>False
 rw[hv];exact⟨t,false,ht,hl,false,rfl,.n h⟩
theorem isiY{i:Nat}{A:List (Value×Bool)}{B R:PS}{rho:bp}{sg:Sg}{Q:Fl→bp→Sg→Prop}{c:CV}{t:Value}(hv:rho[i]? =some (some c))(ht:C7 c=some t)(hl:A.lookup t=some true)(h:B rho sg (wH R Q)):
  aj (ew (aX (isi A (ak i))) B am) R rho sg Q:=by
 show match rho[i]? with|some (some c)=>K0 A (yE (Lv B am rho (wH R Q))) c sg|_=>False
 rw[hv];exact⟨t,true,ht,hl,true,rfl,.y h⟩
theorem sZ(kf:KF W.K):ax W 1 (.ref 199) (jq 202 [Str.ofString "text"]):=by
 exact sJ kf fun sg Q cs h=>Lx h fun a c dx sg1 hq=>⟨rfl,⟨_,dx,[],_,rfl,.head,ej rfl,rs hq⟩⟩
theorem fg(kf:KF W.K):ax W 2 (.ref 202) gJ:=wb (kf.c 0 rfl) (sZ kf)
theorem mI(kf:KF W.K):ax W 1 (.ref 263) (jq 273 [Str.ofString "number",Str.ofString "generation"]):=by
 exact mE kf fun sg Q cs h=>Kr h fun a c d dx sg1 hq=>⟨rfl,⟨_,dx,[],_,rfl,.head,ej rfl,_,dx,_,_,rfl,.head,ej rfl,rs hq⟩⟩
theorem bx(kf:KF W.K):ax W 2 (.ref 273) bY:=wb (kf.c 1 rfl) (mI kf)
theorem s6(kf:KF W.K):ax W 1 (.ref 428) (jq 431 [Str.ofString "reference",Str.ofString "fields"]):=by
 exact sK kf fun sg Q cs h=>Kr h fun a c d dx sg1 hq=>⟨rfl,⟨_,dx,[],_,rfl,.head,ej rfl,_,dx,_,_,rfl,.head,ej rfl,rs hq⟩⟩
theorem zV(kf:KF W.K):ax W 2 (.ref 431) Ac:=wb (kf.c 3 rfl) (s6 kf)
theorem rH(kf:KF W.K):ax W 1 (.ref 683) (jq 686 [Str.ofString "data",Str.ofString "base",Str.ofString "shelf"]):=by
 exact q_ kf fun sg Q cs h=>Ly h fun a c d f dx sg1 hq=>⟨rfl,⟨_,dx,[],_,rfl,.head,ej rfl,_,dx,_,_,rfl,.head,ej rfl,_,dx,_,_,rfl,.head,ej rfl,rs hq⟩⟩
theorem gF(kf:KF W.K):ax W 2 (.ref 686) jp:=wb (kf.c 6 rfl) (rH kf)
theorem s7(kf:KF W.K):ax W 1 (.ref 449) (jq 452 [Str.ofString "reference",Str.ofString "head",Str.ofString "above",Str.ofString "inherited",Str.ofString "is_page"]):=by
 exact sL kf fun sg Q cs h=>Lz h fun a c d f g i dx sg1 hq=>⟨rfl,⟨_,dx,[],_,rfl,.head,ej rfl,_,dx,_,_,rfl,.head,ej rfl,_,dx,_,_,rfl,.head,ej rfl,_,dx,_,_,rfl,.head,ej rfl,_,dx,_,_,rfl,.head,ej rfl,rs hq⟩⟩
theorem zW(kf:KF W.K):ax W 2 (.ref 452) Ad:=wb (kf.c 4 rfl) (s7 kf)
theorem az(kf:KF W.K):ax W 1 (.ref 270) aF:=by
 refine rb kf fun sg Q cs (h:eW sg Q cs)=> ?_;refine eW.casesOn h @fun c n e hq=>⟨rfl,?_⟩;subst e;exact⟨_,⟨rfl,rfl⟩,_,⟨rfl,rfl⟩,sm rfl,rs hq⟩
theorem di(kf:KF W.K):ax W 1 (.ref 284) f7:=by
 refine Cv kf fun sg Q cs (h:oh sg Q cs)=> ?_;refine oh.casesOn h @fun c x e hq=>⟨rfl,?_⟩;cases c with
 |none=>
  cases e;exact⟨_,rfl,.y (rs hq)⟩
 |int i=>
  cases e;exact⟨_,rfl,.n (nx<|isiN rfl rfl rfl<|isiY rfl rfl rfl (rs hq))⟩
 |bool i=>
  cases e;exact⟨_,rfl,.n (nx<|isiY rfl rfl rfl (rs hq))⟩
 |lst i=>
  cases e;exact⟨_,rfl,.n (nx<|isiN rfl rfl rfl<|isiN rfl rfl rfl<|isiN rfl rfl rfl<|isiN rfl rfl rfl<|isiN rfl rfl rfl<|isiY rfl rfl rfl (rs hq))⟩
 |sd i=>
  cases e;exact⟨_,rfl,.n (nx<|isiN rfl rfl rfl<|isiN rfl rfl rfl<|isiN rfl rfl rfl<|isiN rfl rfl rfl<|isiN rfl rfl rfl<|isiN rfl rfl rfl<|isiY rfl rfl rfl (rs hq))⟩
 |obj C i=>
  have e:(if C=202 then some (Str.ofString "name")else if C=273 then some (Str.ofString "ref")else none)=some x:=e
  by_cases h:C=202
  ·subst h;cases e;exact⟨_,rfl,.n (nx<|isiN rfl rfl rfl<|isiN rfl rfl rfl<|isiN rfl rfl rfl<|isiY rfl rfl rfl (rs hq))⟩
  ·rw[if_neg h]at e;by_cases h:C=273
   ·subst h;cases e;exact⟨_,rfl,.n (nx<|isiN rfl rfl rfl<|isiN rfl rfl rfl<|isiN rfl rfl rfl<|isiN rfl rfl rfl<|isiN rfl rfl rfl<|isiN rfl rfl rfl<|isiN rfl rfl rfl<|isiN rfl rfl rfl<|isiY rfl rfl rfl (rs hq))⟩
   ·rw[if_neg h]at e;cases e
 |_=>cases e
end
section
variable {W:Wd}
theorem aP(kf:KF W.K):ax W 2 (.ref 340) bg:=by
 refine uC kf fun sg Q cs (h:gw sg Q cs)=> ?_
 ·refine gw.casesOn h @fun sh c T R r hs hf hq=>⟨rfl,?_⟩;refine⟨by decide,by decide,?_⟩
  show dJ _ 3 (.int 0:: .int 1::_) _ _ _;rcases hf with⟨hn,rfl⟩|⟨n,rfl,hl,hn⟩
  ·refine el12 hn.isi fun t h1 h2=> ?_;exact⟨t,false,h1,h2,false,rfl,fun O=>rs hq,fun h=>by cases h⟩
  ·refine⟨_,true,rfl,rfl,true,rfl,.n ?_⟩;refine el12 hs.table fun c1 f1 f2=> ?_;refine⟨c1,f1,.inr ⟨T,f2⟩,_,⟨rfl,rfl⟩,?_⟩;refine⟨sm rfl,T,f2,?_⟩;rw[hl];refine⟨rfl,?_⟩;refine⟨_,⟨rfl,rfl⟩,?_⟩;refine⟨false,rfl,.n ?_⟩;refine el12 hn.isi fun t h1 h2=> ?_;exact⟨t,false,h1,h2,false,rfl,fun O=>rs hq,fun h=>by cases h⟩
theorem aH(kf:KF W.K):ax W 3 (.ref 347) aQ:=by
 refine w_ kf (aP kf) fun sg Q cs (h:iD sg Q cs)=> ?_
 ·refine iD.casesOn h @fun sh hd k T R l r hs hl hf hq=>⟨rfl,?_⟩;refine⟨hs.inst _ fun O=>rfl,.inl ⟨l,hl⟩,?_⟩;exact⟨l,hl,T,R,r,hs,hf,rs hq⟩
theorem cw(kf:KF W.K):ax W 1 (.ref 368) db:=by
 refine zf kf fun sg Q cs (h:jI sg Q cs)=> ?_
 ·refine jI.casesOn h @fun a n g v pre post t T R hs hz hq=>⟨rfl,?_⟩;have hat:=hs.at;refine el22 hat fun dx c h1 h2=> ?_;obtain⟨rfl,dx2,h3⟩:=hs;refine⟨sm rfl,.ref t,⟨dx2,jo (.ref t) R,?_,rfl⟩,.inl ⟨T,_,lA pre,by exact Nat.le_trans (by assumption) (by decide),rs hq⟩⟩
  simp only[List.mem_append,List.mem_cons]at h3 ⊢;rcases h3 with h|h
  ·exact .inl h
  ·exact .inr (.inr h)
theorem cK(kf:KF W.K):ax W 4 (.ref 396) dO:=by
 refine xa kf (aH kf) fun sg Q cs (h:iE sg Q cs)=> ?_
 ·refine iE.casesOn h @fun sh T R l hs hf hq=>⟨rfl,?_⟩;exact⟨hs.inst _ fun O=>rfl,_,hs.trailer,T,R,R,_,hs,rfl,hf,_,true,rfl,rfl,_,rfl,fun O=>rs hq,fun h=>by cases h⟩
theorem E_{sg:Sg}{a:Addr}{v:CV}{T:Tb}{R:Hd}{k:Nat}(hs:d6 sg (.ref a) T R)(hsome:∀i:Nat,1≤i→i≤k→(T.lookup (i:Int)).isSome=true)(hnone:T.lookup ((k:Int)+1)=none){Q:Fl→bp→Sg→Prop}
  (h:Q .next [some (.ref a),some v,some (.int (k+1))] sg):∀(m j:Nat),j+m=k+1→1≤j→kj mR iR (m+1) [some (.ref a),some v,some (.int j)] sg Q:=by
 refine el12 hs.table fun c1 f1 f2=> ?_;intro m;induction m with
 |zero=>
  intro j hj h1;have hj:j=k+1:=by exact Eq.symm (Nat.add_right_cancel (congrFun (congrArg HAdd.hAdd (id (Eq.symm hj))) a))
  subst hj;refine⟨c1,f1,?_⟩;refine⟨false,⟨T,f2,?_⟩,false,rfl,.n ?_⟩
  ·rw[show((k+1:Nat):Int)=(k:Int)+1 by exact Nat.ToInt.add_congr rfl rfl,hnone];rfl
  ·rw[show((k+1:Nat):Int)=(k:Int)+1 by exact Nat.ToInt.add_congr rfl rfl];exact h
 |succ m ih=>
  intro j hj h1;refine⟨c1,f1,?_⟩;refine⟨true,⟨T,f2,?_⟩,true,rfl,.y ?_⟩
  ·rw[hsome j h1 (by lia)]
  ·unfold iR;have:=ih (j+1) (by lia) (by exact Nat.le_add_right_of_le h1)
   rw[show((j+1:Nat):Int)=(j:Int)+1 by exact Nat.ToInt.add_congr rfl rfl]at this
   exact this
theorem cJ(kf:KF W.K):ax W 3 (.ref 375) dH:=by
 refine ze kf (bx kf) fun sg Q cs (h:jH sg Q cs)=> ?_
 ·refine jH.casesOn h @fun a v pre post t T R k hs hz hsome hnone hq=>⟨rfl,?_⟩;refine⟨k+1,E_ hs.at hsome hnone ?_ k 1 (by exact Nat.add_comm 1 k) (by exact Nat.le_of_ble_eq_true rfl)⟩
  obtain⟨rfl,dx2,h3⟩:=hs;refine⟨sm rfl,.ref t,⟨dx2,jo (.ref t) R,?_,rfl⟩,.inl ⟨T,_,lA pre,by exact Nat.le_trans (by assumption) (by decide),?_⟩⟩
  ·simp only[List.mem_append,List.mem_cons]at h3 ⊢;rcases h3 with h|h
   ·exact .inl h
   ·exact .inr (.inr h)
  ·refine⟨rfl,fun a dx=>⟨_,_,.head,rfl,rs hq⟩⟩
theorem b8(kf:KF W.K):ax W 2 (.ref 470) dj:=by
 refine Cs kf fun sg Q cs (h:n9 sg Q cs)=> ?_
 ·refine n9.casesOn h @fun sh c T R n v hs z7 hl hn hq=>⟨rfl,?_⟩;subst z7;intro a;refine⟨1,?_⟩;refine⟨_,true,rfl,rfl,true,rfl,.y ⟨_,⟨rfl,rfl⟩,?_⟩⟩;refine⟨false,⟨[],.head _,rfl⟩,true,rfl,.y ⟨fun O=> ?_,fun h=>(by exact tf h)⟩⟩
  refine⟨_,⟨rfl,rfl⟩,.inl ⟨_,_,.head,by decide,?_⟩⟩
  refine el12 ((hs.cons (a,.nd (bk n (.bool true) []))).table) fun c1 f1 f2=> ?_;refine⟨c1,f1,.inr ⟨T,f2⟩,_,⟨rfl,rfl⟩,?_⟩;refine⟨sm rfl,T,f2,?_⟩;rw[hl];refine⟨rfl,?_⟩;refine⟨_,⟨rfl,rfl⟩,?_⟩;refine⟨false,rfl,.n ?_⟩;refine el12 hn.isi fun t h1 h2=> ?_;exact⟨t,false,h1,h2,false,rfl,.y ⟨sg,List.sublist_cons_self _ _,hq⟩⟩
theorem qm(kf:KF W.K):ax W 4 (.ref 477) qu:=by
 refine Ct kf (aH kf) fun sg Q cs (h:oa sg Q cs)=> ?_
 ·refine oa.casesOn h @fun sh l T R x hs hl hx hq=>⟨rfl,?_⟩;refine⟨hs.inst _ fun O=>rfl,T,R,l,_,hs,rfl,.inl ⟨?_,rfl⟩,?_⟩
  ·rw[hl];exact rfl
  ·rw[hl];refine⟨_,true,rfl,rfl,true,rfl,.y ⟨_,⟨rfl,rfl⟩,sm rfl,?_⟩⟩;rcases hx with rfl|rfl
   ·refine⟨true,.inr ⟨_,rfl,by rfl⟩,true,rfl,.y ⟨fun O=>⟨_,⟨rfl,rfl⟩,?_⟩,fun h=>(by exact tf h)⟩⟩
    exact rs hq
   ·refine⟨true,.inr ⟨_,rfl,by rfl⟩,true,rfl,.y ⟨fun O=>⟨_,⟨rfl,rfl⟩,?_⟩,fun h=>(by exact tf h)⟩⟩
    show B6 Q (.bool (Str.ofString "Page"==Str.ofString "Pages")) sg;rw[dc];exact rs hq
theorem bR(kf:KF W.K):ax W 4 (.ref 484) cz:=by
 refine Cu kf (aH kf) fun sg Q cs (h:og sg Q cs)=> ?_
 ·refine og.casesOn h @fun sh l T R ks hs hl hq=>⟨rfl,?_⟩;refine⟨hs.inst _ fun O=>rfl,T,R,l,_,hs,rfl,.inl ⟨?_,rfl⟩,?_⟩
  ·rw[hl];exact trivial
  ·rw[hl];exact⟨_,true,rfl,rfl,true,rfl,.n (rs hq)⟩
end
theorem dg{K V:Type}[DecidableEq K](k:K)(c:V):∀l:List (K×V),(bk k c l).length≤l.length+1
 |[]=>by simp[bk]
 |p::r=>by unfold bk;split<;>simp[dg k c r]
theorem AU{K V:Type}[DecidableEq K](k:K)(l:List (K×V)):(mB k l).length≤l.length:=List.length_filter_le _ _
theorem cH{K V:Type}[BEq K][LawfulBEq K]{k:K}{v:V}:∀{l:List (K×V)},(l.map (·.1)).Nodup→(k,v)∈l→l.lookup k=some v
 |p::r,hn,hm=>by
  rw[List.lookup_cons];have hn':=List.nodup_cons.mp hn;rcases List.mem_cons.mp hm with rfl|hm
  ·simp
  ·have:(k==p.1)=false:=beq_eq_false_iff_ne.mpr fun e=>hn'.1 (List.mem_map.mpr ⟨(k,v),hm,e⟩);rw[this];exact cH hn'.2 hm
section
variable {W:Wd}
theorem tZ{sg:Sg}{a:Addr}{l ch:Hd}(hn:(ch.map (·.1)).Nodup){Q:Fl→bp→Sg→Prop}:∀(rest done:Hd) (l':Hd) (x:Option CV),ch=done++rest→l'.length+rest.length≤900→
  (∀x',Q .next [some (.sd l),some (.sd ch),some (.ref a),x'] ((a,.sd (cA l' rest))::sg))→
  dJ tu 3 (rest.map fun p=> .str p.1) [some (.sd l),some (.sd ch),some (.ref a),x] ((a,.sd l')::sg) Q
 |[],done,l',x,e,hz,h=>h x
 |(k,v)::rest,done,l',x,e,hz,h=>by
  simp only[List.length_cons]at hz;have hl:ch.lookup k=some v:=cH hn (by rw[e];simp)
  have ih:=fun l'' hz' h'=>tZ (sg:=sg) (a:=a) (l:=l) hn (Q:=Q) rest (done++[(k,v)]) l'' (some (.str k)) (by rw[e];simp) hz' h'
  refine⟨v,⟨ch,rfl,hl⟩,isNone v,rfl,fun hv=>⟨.inl ⟨l',.head _⟩,?_⟩,fun hv=>⟨v,⟨ch,rfl,hl⟩,?_⟩⟩
  ·refine⟨l',_,.head,by exact Nat.le_trans (Nat.le_trans (Nat.le_add_right _ _) (by assumption)) (by decide),?_⟩
   refine ih _ (by have:=AU k l';show(mB k l').length+_≤_;lia) fun x'=> ?_
   have:=h x';rw[cA,if_pos hv]at this;exact this
  ·refine⟨l',_,.head,by exact Nat.le_trans (Nat.le_trans (Nat.le_add_right _ _) (by assumption)) (by decide),?_⟩
   refine ih _ (by have:=dg k v l';show(bk k v l').length+_≤_;exact Nat.le_trans (Nat.add_le_add_right (by assumption) _) (Nat.le_trans (Nat.le_of_eq (Nat.succ_add_eq_add_succ _ _)) (by assumption))) fun x'=> ?_
   have:=h x';rw[cA,hv]at this;exact this
theorem cX(kf:KF W.K):ax W 1 (.ref 463) dY:=by
 refine Ef kf fun sg Q cs (h:qQ sg Q cs)=> ?_
 ·refine qQ.casesOn h @fun l ch hnd hz hq=>⟨rfl,?_⟩;refine⟨l,rfl,by exact Nat.le_trans (Nat.le_trans (Nat.le_add_right _ _) (by assumption)) (by decide),fun a=>⟨trivial,?_⟩⟩
  refine tZ hnd ch [] l none rfl hz fun x'=> ?_;exact⟨a,_,_,rfl,.head,rfl,rs hq⟩
theorem DQ.none{T:Tb}{l:Hd}(h:DQ T l){k:Str}(hk:k∈bM):∃r,km T ((l.lookup k).getD .none) r∧isNone r=(l.lookup k).isNone:=by
 cases e:l.lookup k with
 |none=>exact⟨.none,.inl ⟨trivial,rfl⟩,rfl⟩
 |some c=>obtain⟨r,h1,h2⟩:=h k hk c e;exact⟨r,h1,h2⟩
theorem Bt{sg:Sg}{a:Addr}{sh v1:CV}{ab:List CV}{T:Tb}{R:Hd}{n:Int}{l:Hd}(hs:d6 sg sh T R)(hk:DQ T l){m0:Hd}{Q:Fl→bp→Sg→Prop}:∀(ks:List Str),(∀k∈ks,k∈bM)→∀(m:Hd) (x:Option CV),m.length+ks.length≤900→
  (∀x',Q .next [some sh,some v1,some (.tup ab),some (.sd m0),some (aG n),some (.sd l),some (.ref a),x'] ((a,.sd (gi l m ks))::sg))→
  dJ Ar 7 (ks.map .str) [some sh,some v1,some (.tup ab),some (.sd m0),some (aG n),some (.sd l),some (.ref a),x] ((a,.sd m)::sg) Q
 |[],hks,m,x,hz,h=>h x
 |k::ks,hks,m,x,hz,h=>by
  simp only[List.length_cons]at hz;have ih:=Bt (a:=a) (v1:=v1) (ab:=ab) (n:=n) hs hk (m0:=m0) (Q:=Q) ks fun k' h'=>hks k' (.tail _ h');have hs':=hs.cons (a,.sd m);refine el12 (hk.none (hks k (.head _))) fun r h1 h2=> ?_;refine⟨hs'.inst _ fun O=>rfl,T,R,l,r,hs',rfl,h1,?_⟩;refine⟨_,rfl,fun hv=> ?_,fun hv=> ?_⟩<;>rw[h2]at hv
  ·cases e:l.lookup k with
   |none=>rw[e]at hv;exact ff hv
   |some c=>
    refine⟨c,⟨l,rfl,e⟩,m,_,.head,by exact Nat.le_trans (Nat.le_trans (Nat.le_add_right _ _) (by assumption)) (by decide),?_⟩
    refine ih _ _ (by have:=dg k c m;exact Nat.le_trans (Nat.add_le_add_right (by assumption) _) (Nat.le_trans (Nat.le_of_eq (Nat.succ_add_eq_add_succ _ _)) (by assumption))) fun x'=> ?_
    have:=h x';rw[gi,e]at this;exact this
  ·cases e:l.lookup k with
   |some c=>rw[e]at hv;exact tf hv
   |none=>
    refine ih _ _ (by exact Nat.le_of_succ_le hz) fun x'=> ?_
    have:=h x';rw[gi,e]at this;exact this
theorem CN(kf:KF W.K):ax W 5 (.ref 491) C0:=by
 refine I9 (N:=4) kf ((b8 kf).upb rfl) ((aP kf).upb rfl) ((aH kf).upb rfl) ((zW kf).upb rfl) ((qm kf).upb rfl) fun sg Q cs (h:Dj sg Q cs)=> ?_
 ·refine Dj.casesOn h @fun sh c ab m T R n l ns x hs z11 z12 hl ht hx hk hz hq=>⟨rfl,?_⟩;subst z11;subst z12;refine⟨T,R,n,.sd l,hs,rfl,hl,trivial,hs.inst _ fun O=>rfl,T,R,.sd l,hs,.inr ⟨n,rfl,hl,trivial⟩,?_⟩;refine⟨_,true,rfl,rfl,true,rfl,.n ?_⟩;refine⟨m,rfl,by exact Nat.le_trans (by assumption) (by decide),fun a=>⟨trivial,?_⟩⟩
  refine Bt hs hk bM (fun O h=>h) m none (by show _+4≤900;exact Nat.le_trans (Nat.add_le_add_right (by assumption) _) (by decide)) fun x'=> ?_
  refine⟨a,_,_,rfl,.head,rfl,T,R,x,hs,ht,hx,_,rfl,rfl,fun b dx=>⟨_,_,.head,rfl,rs ?_⟩⟩;exact hq
theorem tI{sg:Sg}{a:Addr}{sh:CV}{T:Tb}{R:Hd}{n:Int}{l m:Hd}{ab:List Int}{pg:Bool}(hs:d6 sg sh T R)(hk:DQ T l){Q:Fl→bp→Sg→Prop}:∀(ks:List Str),(∀k∈ks,k∈bM)→∀(f:Hd) (x:Option CV),f.length+ks.length≤900→
  (∀x',Q .next [some sh,some (f8 n l ab m pg),some (.ref a),x'] ((a,.sd (ko l m ks f))::sg))→
  dJ mO 3 (ks.map .str) [some sh,some (f8 n l ab m pg),some (.ref a),x] ((a,.sd f)::sg) Q
 |[],hks,f,x,hz,h=>h x
 |k::ks,hks,f,x,hz,h=>by
  simp only[List.length_cons]at hz;have ih:=tI (a:=a) (n:=n) (m:=m) (ab:=ab) (pg:=pg) hs hk (Q:=Q) ks fun k' h'=>hks k' (.tail _ h');have hs':=hs.cons (a,.sd f);refine el12 (hk.none (hks k (.head _))) fun r h1 h2=> ?_;refine⟨.sd m,⟨rfl,rfl⟩,?_⟩;refine⟨(m.lookup k).isSome,.inl ⟨m,rfl,rfl⟩,_,rfl,fun hv=>⟨hs'.inst _ fun O=>rfl,.sd l,⟨rfl,rfl⟩,T,R,l,r,hs',rfl,h1,?_⟩,fun hv=> ?_⟩
  ·refine⟨_,rfl,fun hw=>⟨fun O=> ?_,fun h=>(by exact tf h)⟩,fun hw=>⟨fun h=>(by exact ff h),fun O=> ?_⟩⟩<;>rw[h2]at hw
   ·cases e:m.lookup k with
    |none=>rw[e]at hv;exact ff hv
    |some c=>
     cases e2:l.lookup k with
     |some c=>rw[e2]at hw;exact ff hw
     |none=>
      refine⟨.sd m,⟨rfl,rfl⟩,c,⟨m,rfl,e⟩,f,_,.head,by exact Nat.le_trans (Nat.le_trans (Nat.le_add_right _ _) (by assumption)) (by decide),?_⟩
      refine ih _ _ (by have:=dg k c f;exact Nat.le_trans (Nat.add_le_add_right (by assumption) _) (Nat.le_trans (Nat.le_of_eq (Nat.succ_add_eq_add_succ _ _)) (by assumption))) fun x'=> ?_
      have:=h x';rw[ko,e,e2]at this;exact this
   ·refine ih _ _ (by exact Nat.le_of_succ_le hz) fun x'=> ?_
    have:=h x';cases e2:l.lookup k with
    |none=>rw[e2]at hw;exact tf hw
    |some c=>
     rw[ko,e2]at this;cases e:m.lookup k<;>rw[e]at this<;>exact this
  ·refine⟨fun h=>(by exact ff h),fun O=>ih _ _ (by exact Nat.le_of_succ_le hz) fun x'=> ?_⟩
   have:=h x';cases e:m.lookup k with
   |some c=>rw[e]at hv;exact tf hv
   |none=>rw[ko,e]at this;exact this
theorem fj(kf:KF W.K):ax W 4 (.ref 505) gN:=by
 refine zl kf (aH kf) fun sg Q cs (h:jO sg Q cs)=> ?_
 ·refine jO.casesOn h @fun sh c T R n l ab m pg hs z10 hk hz hq=>⟨rfl,?_⟩;subst z10;refine⟨.sd l,⟨rfl,rfl⟩,?_⟩;refine⟨l,rfl,by exact Nat.le_trans (by assumption) (by decide),fun a=>⟨trivial,?_⟩⟩
  refine tI hs hk bM (fun O h=>h) l none (by show _+4≤900;exact Nat.le_trans (Nat.add_le_add_right (by assumption) _) (by decide)) fun x'=> ?_
  exact⟨a,_,_,rfl,.head,rfl,rs hq⟩
end
noncomputable abbrev dB:=Str.ofString "Type"
noncomputable abbrev dn:=Str.ofString "Kids"
noncomputable abbrev bb:=Str.ofString "Count"
noncomputable abbrev aJ:=Str.ofString "Parent"
structure EZ where
 n:Int
 l:Hd
inductive pI where
 |page (p:EZ)
 |node (n:Int) (l:Hd) (ps:List EZ)
structure dZ where
 l:Hd
 its:List pI
noncomputable def pI.num:pI→Int
 | .page p=>p.n
 | .node n _ _=>n
noncomputable def pI.nums:pI→List Int
 | .page p=>[p.n]
 | .node n _ ps=>n::ps.map (·.n)
noncomputable def dZ.nums(d:dZ):List Int:=2::d.its.flatMap pI.nums
structure aS where
 n:Int
 l:Hd
 ab:List Int
 m:Hd
 pg:Bool
noncomputable def aS.cv(s:aS):CV:=f8 s.n s.l s.ab s.m s.pg
noncomputable def s8(ab:List Int)(m:Hd)(p:EZ):aS:=⟨p.n,p.l,ab,gi p.l m bM,true⟩
noncomputable def iN(ab:List Int)(m:Hd):pI→List aS
 | .page p=>[s8 ab m p]
 | .node n l ps=>⟨n,l,ab,gi l m bM,false⟩::ps.map (s8 (ab++[n]) (gi l m bM))
noncomputable def dZ.rm(d:dZ):Hd:=gi d.l [] bM
noncomputable def dZ.spots(d:dZ):List aS:=⟨2,d.l,[],d.rm,false⟩::d.its.flatMap (iN [2] d.rm)
def Lc(T:Tb)(p:EZ):Prop:=T.lookup p.n=some (cP (.sd p.l))∧p.l.lookup dB=some (l_ (Str.ofString "Page"))∧DQ T p.l
def LR(T:Tb):pI→Prop
 | .page p=>Lc T p
 | .node n l ps=>T.lookup n=some (cP (.sd l))∧l.lookup dB=some (l_ (Str.ofString "Pages"))∧l.lookup dn=some (.lst (ps.map fun p=>aG p.n))∧DQ T l∧∀p∈ps,Lc T p
structure iu(T:Tb)(R:Hd)(d:dZ):Prop where
 root:∃c,km T ((R.lookup (Str.ofString "Root")).getD .none) (.sd c)∧c.lookup (Str.ofString "Pages")=some (aG 2)
 t2:T.lookup 2=some (cP (.sd d.l))
 ty:d.l.lookup dB=some (l_ (Str.ofString "Pages"))
 ks:d.l.lookup dn=some (.lst (d.its.map fun i=>aG i.num))
 ok:DQ T d.l
 its:∀i∈d.its,LR T i
 nd:d.nums.Nodup
 sz:d.nums.length≤60
theorem jX(l:Hd):∀(ks:List Str) (m:Hd),(gi l m ks).length≤m.length+ks.length
 |[],m=>by simp[gi]
 |k::ks,m=>by
  unfold gi;cases l.lookup k with
  |none=>have:=jX l ks m;simp only[List.length_cons];exact Nat.le_succ_of_le this
  |some c=>exact Nat.le_trans (jX l ks (bk k c m)) (Nat.succ_add_eq_add_succ _ _▸Nat.add_le_add_right (dg k c m) _)
theorem eQ{K V:Type}[DecidableEq K]{k:K}{c:V}:∀{l:List (K×V)},l.lookup k=none→bk k c l=l++[(k,c)]
 |[],_=>rfl
 |p::r,h=>by
  rw[List.lookup_cons]at h;by_cases e:p.1=k
  ·subst e;simp at h
  ·have e1:(k==p.1)=false:=beq_eq_false_iff_ne.mpr fun q=>e q.symm;rw[e1]at h;unfold bk;rw[if_neg e,eQ h];rfl
theorem md{n:Int}:∀{fs:List aS},n∉fs.map (·.n)→(fs.map fun s=>(s.n,CV.bool true)).lookup n=none
 |[],_=>rfl
 |s::fs,h=>by
  simp only[List.map_cons,List.mem_cons,not_or]at h;rw[List.map_cons,List.lookup_cons,beq_eq_false_iff_ne.mpr h.1];exact md h.2
inductive uL(sg:Sg)(Q:CV→Sg→Prop):List CV→Prop
 |mk {sh:CV} (T R d):d6 sg sh T R→iu T R d→Q (.lst (d.spots.map aS.cv)) sg→uL sg Q [sh]
def dX:ao:=fun cs sg Q=>uL sg Q cs
noncomputable def dZ.pages(d:dZ):List aS:=d.spots.filter (·.pg)
inductive iJ(sg:Sg)(Q:CV→Sg→Prop):List CV→Prop
 |mk {sh:CV} (T R d):d6 sg sh T R→iu T R d→Q (.lst (d.pages.map aS.cv)) sg→iJ sg Q [sh]
def eC:ao:=fun cs sg Q=>iJ sg Q cs
noncomputable def nN(s:aS):CV:= .obj 431 [(Str.ofString "reference",aG s.n),(Str.ofString "fields",.sd (ko s.l s.m bM s.l))]
inductive uK(sg:Sg)(Q:CV→Sg→Prop):List CV→Prop
 |mk {sh:CV} (T R d):d6 sg sh T R→iu T R d→(∀s∈d.spots,s.l.length≤100)→Q (.lst (d.pages.map nN)) sg→uK sg Q [sh]
def iq:ao:=fun cs sg Q=>uK sg Q cs
inductive lI(sg:Sg)(Q:CV→Sg→Prop):List CV→Prop
 |mk {i:Int}:Q (.bool (decide (i≥0))) sg→lI sg Q [.int i]
def nY:ao:=fun cs sg Q=>lI sg Q cs
inductive iI(sg:Sg)(Q:CV→Sg→Prop):List CV→Prop
 |mk {sh:CV} (T R d i):d6 sg sh T R→iu T R d→d.l.lookup bb=some (.int i)→0≤i→Q (.int i) sg→iI sg Q [sh]
def kL:ao:=fun cs sg Q=>iI sg Q cs
inductive Di(sg:Sg)(Q:CV→Sg→Prop):List CV→Prop
 |mk {a:Addr} {c:CV} {v:CV} (n pre post t T R):c=aG n→ud sg a T R pre post t→T.length≤900→Q .none (pre++(t,.nd (bk n (cP v) T))::post)→Di sg Q [.ref a,c,v]
def jr:ao:=fun cs sg Q=>Di sg Q cs
section
noncomputable def BG:List Str:=[Str.ofString "shelf"]
noncomputable def Bv:List Str:=[Str.ofString "found",Str.ofString "seen",Str.ofString "line",Str.ofString "value",Str.ofString "above",Str.ofString "inherited",Str.ofString "spot",Str.ofString "kid"]
noncomputable def FM:List Str:=[Str.ofString "met",Str.ofString "TreeFault",Str.ofString "reversed",Str.ofString "kids_of"]
def pL:PS:=(aj (cB (cq wf dE (ak 3) (ah (dK (ah (ak 8) (ah (bh dD (ak 5) (dK (ah (fld 452 (Str.ofString "reference") (ak 7)) aq))) (ah (fld 452 (Str.ofString "inherited") (ak 7)) aq)))) aq)))
 am)
def pM:PB:=(aX (ak 3))
def lD:PS:=(aj (gP [4,5,6] (cq wf GH (ak 3) aq))
 (aj (cS 7 (aA C0 (ah (ak 0) (ah (ak 4) (ah (ak 5) (ah (ak 6) aq))))))
 (aj (ew (yD (aX (bh BQ (fld 273 (Str.ofString "number") (fld 452 (Str.ofString "reference") (ak 7))) (ak 2))) (yD (qw (aX (bh eG (ak 1) (fv (cT aq)))) (qw (aX (fld 452 (Str.ofString "is_page") (ak 7))) d9)) Ah)) (aj m8
 am) am)
 (aj (dC (ak 2) (fld 273 (Str.ofString "number") (fld 452 (Str.ofString "reference") (ak 7))) (aK (.bool true)))
 (aj (cB (cq wf dE (ak 1) (ah (ak 7) aq)))
 (aj (ew (lz (aX (fld 452 (Str.ofString "is_page") (ak 7)))) (aj (I7 8 (aA cz (ah (ak 0) (ah (fld 452 (Str.ofString "head") (ak 7)) aq))) pL)
 am) am)
 am))))))
def G8:PS:=(aj (cS 1 (cT aq))
 (aj (cS 2 (fW (.nd [])))
 (aj (cS 3 (cT (ah (dK (ah (cq Ew pG (bA 404 (Str.ofString "root") dO (ak 0) aq) (ah (aK (.str (Str.ofString "Pages"))) aq)) (ah (dK aq) (ah (fv (fW (.sd []))) aq)))) aq)))
 (aj (tn pM lD)
 (i9 1 (aj (bQ (ak 1))
 am))))))
theorem FH{W:Wd}(kf:KF W.K){N:Nat}(cK:ax W N (.ref 396) dO)(CN:ax W N (.ref 491) C0)(bR:ax W N (.ref 484) cz){sp:ao}(hsp:gh BG Bv (G8) sp):ax W (N+1) (.ref 498) sp:=by
 refine aO (ps:=BG) (more:=Bv) (globs:=FM) (kf.f 22 rfl) rfl (by decide+kernel) (dI fun O O O O O O O O O O=> .of_eq rfl) (fun X hn hg hsc hnn hm=> ?_) hsp
 refine ag (ar 1 hn hm rfl (bl rfl) rfl (bD af)) ?_;refine ag (ar 2 hn hm rfl (bl rfl) rfl (cU rfl)) ?_;refine ag (ar 3 hn hm rfl (bl rfl) rfl (bD (ae rfl (bB (ae rfl (br iL gB rfl rfl rfl (bV (kf.b 33 rfl) cK (bn hnn) rfl (ad 0 hn rfl)) (ae rfl aI af)) (ae rfl (bB af) (ae rfl (aT (cU rfl)) af)))) af))) ?_;refine ag (nq (bj rfl (ad 3 hn rfl)) (by {refine ag (dL hn hm (.cons 4 rfl (by decide) rfl (.cons 5 rfl (by decide) rfl (.cons 6 rfl (by decide) rfl .nil))) rfl rfl (vW Do AY rfl (ad 3 hn rfl))) ?_;refine ag (ar 7 hn hm rfl (bl rfl) rfl (au 0 hg rfl (kf.n 21 rfl) (kf.b 34 rfl) CN (bn hnn) rfl rfl (ae rfl (ad 0 hn rfl) (ae rfl (ad 4 hn rfl) (ae rfl (ad 5 hn rfl) (ae rfl (ad 6 hn rfl) af)))))) ?_;refine ag (be (eg (aE rfl lO (aB (kf.b 3 rfl) rfl (aB (kf.b 36 rfl) rfl (ad 7 hn rfl))) (ad 2 hn rfl)) (eg (eJ (aE rfl bt (ad 1 hn rfl) (aT (bD af))) (eJ (bj rfl (aB (kf.b 35 rfl) rfl (ad 7 hn rfl))) jd)) jW)) (by {refine ag fR ?_;exact ai}) ai) ?_;refine ag (bI rfl (ad 2 hn rfl) (aB (kf.b 3 rfl) rfl (aB (kf.b 36 rfl) rfl (ad 7 hn rfl))) gC) ?_;refine ag (bq (aC X) rfl (br cG cc rfl rfl rfl (ad 1 hn rfl) (ae rfl (ad 7 hn rfl) af))) ?_;refine ag (be (c9 (bj rfl (aB (kf.b 35 rfl) rfl (ad 7 hn rfl)))) (by {refine ag (Ht 8 2 hn hg hsc hnn hm rfl (bl rfl) rfl (kf.n 14 rfl) rfl rfl rfl (fun O=>rfl) (au 3 hg rfl (kf.n 22 rfl) (kf.b 39 rfl) bR (bn hnn) rfl rfl (ae rfl (ad 0 hn rfl) (ae rfl (aB (kf.b 38 rfl) rfl (ad 7 hn rfl)) af))) (fun X hA hE hn hg hsc hnn hm=>(by {refine ag (bq (aC X) rfl (br cG cc rfl rfl rfl (ad 3 hn rfl) (ae rfl (bB (ae rfl (ad 8 hn rfl) (ae rfl (bH bG (ad 5 hn rfl) (bB (ae rfl (aB (kf.b 36 rfl) rfl (ad 7 hn rfl)) af))) (ae rfl (aB (kf.b 37 rfl) rfl (ad 7 hn rfl)) af)))) af))) ?_;exact ai}))) ?_;exact ai}) ai) ?_;exact ai})) ?_
 refine cV 1 ?_;refine ag (aL (ad 1 hn rfl)) ?_;exact ai
noncomputable def pD:List Str:=[Str.ofString "shelf"]
noncomputable def pn:List Str:=[]
noncomputable def xn:List Str:=[Str.ofString "spots"]
def yS:PS:=(aj (bQ (d7 lY cu [] (aA dX (ah (ak 0) aq)) (aX (fld 452 (Str.ofString "is_page") (ak 0))) (ak 0)))
 am)
theorem xg{W:Wd}(kf:KF W.K){N:Nat}(cD:ax W N (.ref 498) dX){sp:ao}(hsp:gh pD pn (yS) sp):ax W (N+1) (.ref 510) sp:=by
 refine aO (ps:=pD) (more:=pn) (globs:=xn) (kf.f 24 rfl) rfl (by decide+kernel) (dI fun O O O O O O O O O O=> .of_eq rfl) (fun X hn hg hsc hnn hm=> ?_) hsp
 refine ag (aL (c8 (tgs:=[Str.ofString "spot"]) (frs:=[]) (gs:=[]) (fi:=[]) (by decide+kernel) hsc hn cW bL cY (fun O=>rfl) (au 0 hg rfl (kf.n 23 rfl) (kf.b 40 rfl) cD (bn hnn) rfl rfl (ae rfl (ad 0 hn rfl) af)) (fun Xc hn hg hnc=>have hnn:=hnc.trans hnn;(h8 (bj rfl (aB (kf.b 35 rfl) rfl (ad 0 hn rfl))))) (fun Xc hn hg hnc=>have hnn:=hnc.trans hnn;(ad 0 hn rfl)))) ?_
 exact ai
noncomputable def BF:List Str:=[Str.ofString "shelf"]
noncomputable def Bu:List Str:=[]
noncomputable def FL:List Str:=[Str.ofString "page_spots"]
def G7:PS:=(aj (bQ (d7 lY cu [0] (aA eC (ah (ak 0) aq)) d9 (fv (aA Ac (ah (fld 452 (Str.ofString "reference") (ak 0)) (ah (aA gN (ah (ak 1) (ah (ak 0) aq))) aq))))))
 am)
theorem FG{W:Wd}(kf:KF W.K){N:Nat}(dN:ax W N (.ref 510) eC)(zV:ax W N (.ref 431) Ac)(fj:ax W N (.ref 505) gN){sp:ao}(hsp:gh BF Bu (G7) sp):ax W (N+1) (.ref 515) sp:=by
 refine aO (ps:=BF) (more:=Bu) (globs:=FL) (kf.f 25 rfl) rfl (by decide+kernel) (dI fun O O O O O O O O O O=> .of_eq rfl) (fun X hn hg hsc hnn hm=> ?_) hsp
 refine ag (aL (c8 (tgs:=[Str.ofString "spot"]) (frs:=[Str.ofString "shelf"]) (gs:=[Str.ofString "Page",Str.ofString "fields_of"]) (fi:=[0]) (by decide+kernel) hsc hn cW bL cY (fun O=>rfl) (au 0 hg rfl (kf.n 24 rfl) (kf.b 41 rfl) dN (bn hnn) rfl rfl (ae rfl (ad 0 hn rfl) af)) (fun Xc hn hg hnc=>have hnn:=hnc.trans hnn;fS) (fun Xc hn hg hnc=>have hnn:=hnc.trans hnn;(aT (au 0 hg rfl (kf.n 26 rfl) (kf.b 43 rfl) zV (bn hnn) rfl rfl (ae rfl (aB (kf.b 36 rfl) rfl (ad 0 hn rfl)) (ae rfl (au 1 hg rfl (kf.n 25 rfl) (kf.b 42 rfl) fj (bn hnn) rfl rfl (ae rfl (ad 1 hn rfl) (ae rfl (ad 0 hn rfl) af))) af))))))) ?_
 exact ai
noncomputable def tT:List Str:=[Str.ofString "value"]
noncomputable def tP:List Str:=[]
noncomputable def Bf:List Str:=[Str.ofString "isinstance",Str.ofString "int",Str.ofString "bool"]
def B2:PS:=(aj (bQ (EL (isi (eY (.type "int")) (ak 0)) (EL (un GG (isi (eY (.type "bool")) (ak 0))) (bh GE (ak 0) (aK (.int 0))))))
 am)
theorem Ba{W:Wd}(kf:KF W.K){N:Nat}{sp:ao}(hsp:gh tT tP (B2) sp):ax W (N+1) (.ref 529) sp:=by
 refine aO (ps:=tT) (more:=tP) (globs:=Bf) (kf.f 27 rfl) rfl (by decide+kernel) (dI fun O O O O O O O O O O=> .of_eq rfl) (fun X hn hg hsc hnn hm=> ?_) hsp
 refine ag (aL (rj (h9 0 1 hg rfl (kf.n 0 rfl) rfl rfl (kf.n 2 rfl) rfl (by decide) (kf.a 1 rfl) rfl rfl rfl (ad 0 hn rfl)) (rj (vY AX (h9 0 2 hg rfl (kf.n 0 rfl) rfl rfl (kf.n 1 rfl) rfl (by decide) (kf.a 0 rfl) rfl rfl rfl (ad 0 hn rfl))) (rk (fX rfl uN (ad 0 hn rfl) av))))) ?_
 exact ai
noncomputable def pC:List Str:=[Str.ofString "shelf"]
noncomputable def pj:List Str:=[Str.ofString "count"]
noncomputable def xm:List Str:=[Str.ofString "home_of",Str.ofString "is_count",Str.ofString "TreeFault"]
def yR:PS:=(aj (cS 1 (bA 404 (Str.ofString "get") aQ (ak 0) (ah (bA 404 (Str.ofString "fetch") bg (ak 0) (ah (aA dj (ah (ak 0) (ah (cq Ew pG (bA 404 (Str.ofString "root") dO (ak 0) aq) (ah (aK (.str (Str.ofString "Pages"))) aq)) aq))) aq)) (ah (aK (.str (Str.ofString "Count"))) aq))))
 (aj (ew (aX (aA nY (ah (ak 1) aq))) (aj (bQ (ak 1))
 am) am)
 (aj m8
 am)))
theorem xf{W:Wd}(kf:KF W.K){N:Nat}(aH:ax W N (.ref 347) aQ)(aP:ax W N (.ref 340) bg)(b8:ax W N (.ref 470) dj)(cK:ax W N (.ref 396) dO)(nJ:ax W N (.ref 529) nY){sp:ao}(hsp:gh pC pj (yR) sp):ax W (N+1) (.ref 522) sp:=by
 refine aO (ps:=pC) (more:=pj) (globs:=xm) (kf.f 26 rfl) rfl (by decide+kernel) (dI fun O O O O O O O O O O=> .of_eq rfl) (fun X hn hg hsc hnn hm=> ?_) hsp
 refine ag (ar 1 hn hm rfl (bl rfl) rfl (bi (kf.b 19 rfl) aH (bn hnn) rfl rfl rfl (ad 0 hn rfl) (ae rfl (bi (kf.b 18 rfl) aP (bn hnn) rfl rfl rfl (ad 0 hn rfl) (ae rfl (au 0 hg rfl (kf.n 18 rfl) (kf.b 30 rfl) b8 (bn hnn) rfl rfl (ae rfl (ad 0 hn rfl) (ae rfl (br iL gB rfl rfl rfl (bV (kf.b 33 rfl) cK (bn hnn) rfl (ad 0 hn rfl)) (ae rfl aI af)) af))) af)) (ae rfl aI af)))) ?_;refine ag (be (bj rfl (au 1 hg rfl (kf.n 27 rfl) (kf.b 44 rfl) nJ (bn hnn) rfl rfl (ae rfl (ad 1 hn rfl) af))) (by {refine ag (aL (ad 1 hn rfl)) ?_;exact ai}) ai) ?_
 refine ag fR ?_;exact ai
noncomputable def Gq:List Str:=[Str.ofString "shelf",Str.ofString "reference",Str.ofString "head"]
noncomputable def Gb:List Str:=[]
noncomputable def Ja:List Str:=[]
def J7:PS:=(aj (cB (bA 404 (Str.ofString "put") db (ak 0) (ah (fld 273 (Str.ofString "number") (ak 1)) (ah (fld 273 (Str.ofString "generation") (ak 1)) (ah (ak 2) aq)))))
 am)
theorem I8{W:Wd}(kf:KF W.K){N:Nat}(cw:ax W N (.ref 368) db){sp:ao}(hsp:gh Gq Gb (J7) sp):ax W (N+1) (.ref 564) sp:=by
 refine aO (ps:=Gq) (more:=Gb) (globs:=Ja) (kf.f 32 rfl) rfl (by decide+kernel) (gY fun O O O O O O O O O O O O=> .of_eq rfl) (fun X hn hg hsc hnn hm=> ?_) hsp
 refine ag (bq (aC X) rfl (bi (kf.b 50 rfl) cw (bn hnn) rfl rfl rfl (ad 0 hn rfl) (ae rfl (aB (kf.b 3 rfl) rfl (ad 1 hn rfl)) (ae rfl (aB (kf.b 4 rfl) rfl (ad 1 hn rfl)) (ae rfl (ad 2 hn rfl) af))))) ?_;exact ai
end
abbrev pJ:=pI×List Int×Hd
noncomputable def HC(k:Int)(ab:List Int)(m:Hd):CV:= .tup [aG k,.tup (ab.map aG),.sd m]
noncomputable def pJ.cv(j:pJ):CV:=HC j.1.num j.2.1 j.2.2
noncomputable def pJ.out(j:pJ):List aS:=iN j.2.1 j.2.2 j.1
noncomputable def pI.size:pI→Nat
 | .page _=>1
 | .node _ _ ps=>1+ps.length
def pJ.ok(T:Tb)(j:pJ):Prop:=LR T j.1∧j.2.1.length≤20∧match j.1 with
 | .page _=>j.2.2.length≤8
 | .node _ _ _=>j.2.2.length≤4∧j.2.1.length≤10
theorem rX:∀(jobs:List pJ),jobs.length≤(jobs.map fun j=>j.1.size).sum
 |[]=>Nat.le_refl _
 |j::jobs=>by
  have:=rX jobs;have h1:1≤j.1.size:=by cases j.1<;>simp[pI.size]
  simp only[List.length_cons,List.map_cons,List.sum_cons];lia
theorem Cq(ps:List EZ)(ab:List Int)(m:Hd):((ps.map fun p=>((.page p,ab,m):pJ)).flatMap fun j=>j.1.nums)=ps.map (·.n):=by
 induction ps with
 |nil=>rfl
 |cons p ps ih=>simp only[List.map_cons,List.flatMap_cons,ih];rfl
theorem Eb(ps:List EZ)(ab:List Int)(m:Hd):(ps.map fun p=>((.page p,ab,m):pJ)).flatMap pJ.out=ps.map (s8 ab m):=by
 induction ps with
 |nil=>rfl
 |cons p ps ih=>simp only[List.map_cons,List.flatMap_cons,ih];rfl
theorem vI(ps:List EZ)(ab:List Int)(m:Hd):((ps.map fun p=>((.page p,ab,m):pJ)).map fun j=>j.1.size).sum=ps.length:=by
 induction ps with
 |nil=>rfl
 |cons p ps ih=>simp only[List.map_cons,List.sum_cons,List.length_cons,ih];show 1+ps.length=ps.length+1;exact Nat.add_comm 1 ps.length
section
variable {W:Wd}
theorem qv{rest:Sg}{la:Addr}{sh c1 c2 v1 v3:CV}{n:Int}{l:Hd}{ab:List Int}{m:Hd}{pg:Bool}(hab:ab.length≤20){Q:Fl→bp→Sg→Prop}:∀(ks:List Int) (line:List CV) (x:Option CV),line.length+ks.length≤200→
  (∀x',Q .next [some sh,some c1,some c2,some (.ref la),some v1,some (.tup (ab.map aG)),some v3,some (f8 n l ab m pg),x'] ((la,.lst (line++ks.map fun k=>HC k (ab++[n]) m))::rest))→
  dJ pL 8 (ks.map aG) [some sh,some c1,some c2,some (.ref la),some v1,some (.tup (ab.map aG)),some v3,some (f8 n l ab m pg),x] ((la,.lst line)::rest) Q
 |[],line,x,hz,h=>by have:=h x;rw[List.map_nil,List.append_nil]at this;exact this
 |k::ks,line,x,hz,h=>by
  simp only[List.length_cons]at hz;have ih:=qv (rest:=rest) (la:=la) (sh:=sh) (c1:=c1) (c2:=c2) (v1:=v1) (v3:=v3) (n:=n) (l:=l) (m:=m) (pg:=pg) hab (Q:=Q) ks;refine⟨⟨line,.head _⟩,_,⟨rfl,rfl⟩,sm rfl,?_⟩;refine⟨ay (by simp;exact Nat.le_trans (by assumption) (by decide)),_,⟨rfl,rfl⟩,sm rfl,line,_,.head,ay (by exact Nat.le_trans (Nat.le_trans (Nat.le_add_right _ _) (by assumption)) (by decide)),?_⟩
  have e:CV.tup [aG k,.tup (ab.map aG++[aG n]),.sd m]=HC k (ab++[n]) m:=by unfold HC;rw[List.map_append];rfl
  rw[e];refine ih _ _ (by simp;exact Nat.le_trans (Nat.le_of_eq (Nat.succ_add_eq_add_succ _ _)) (by assumption)) fun x'=> ?_
  have:=h x';rw[List.map_cons]at this;rw[List.append_assoc];exact this
noncomputable def KI(sh:CV)(fa sa la:Addr)(x1 x2 x3 x4 x5:Option CV):bp:=[some sh,some (.ref fa),some (.ref sa),some (.ref la),x1,x2,x3,x4,x5]
noncomputable def JM(la sa fa:Addr)(line:List CV)(fs:List aS)(rest:Sg):Sg:=(la,.lst line)::(sa,.nd (fs.map fun s=>(s.n,CV.bool true)))::(fa,.lst (fs.map aS.cv))::rest
theorem GI{rest:Sg}{la sa fa:Addr}{sh:CV}{T:Tb}{R:Hd}(hs:d6 rest sh T R)(line:List CV)(fs:List aS):d6 (JM la sa fa line fs rest) sh T R:=((hs.cons _).cons _).cons _
theorem IZ{fs:List aS}(h:fs≠[]):false=(fs.map aS.cv).isEmpty:=by
 cases fs with
 |nil=>exact absurd rfl h
 |cons _ _=>rfl
theorem wD{rest:Sg}{la sa fa:Addr}{sh:CV}{T:Tb}{R:Hd}(hs:d6 rest sh T R){n:Int}{l m:Hd}{ab:List Int}{ty:String}{line:List CV}{fs:List aS}{x1 x2 x3 x4 x5:Option CV}{Q:Fl→bp→Sg→Prop}
  (g1:T.lookup n=some (cP (.sd l))) (g2:l.lookup dB=some (l_ (Str.ofString ty))) (gt:ty="Pages"∨ty="Page") (g3:DQ T l) (hm:m.length≤100) (hfr:n∉fs.map (·.n)) (hne:fs≠[]) (hz:fs.length≤60) (hl:line.length≤60)
  (k:Dd (!(!ty=="Pages")) ((aj (I7 8 (aA cz (ah (ak 0) (ah (fld 452 (Str.ofString "head") (ak 7)) aq))) pL) am) (KI sh fa sa la (some (aG n)) (some (.tup (ab.map aG))) (some (.sd m)) (some (f8 n l ab (gi l m bM) (!ty=="Pages"))) x5) (JM la sa fa line (fs++[⟨n,l,ab,gi l m bM,!ty=="Pages"⟩]) rest) (wH am Q))
   (Q .next (KI sh fa sa la (some (aG n)) (some (.tup (ab.map aG))) (some (.sd m)) (some (f8 n l ab (gi l m bM) (!ty=="Pages"))) x5) (JM la sa fa line (fs++[⟨n,l,ab,gi l m bM,!ty=="Pages"⟩]) rest))):
  lD (KI sh fa sa la x1 x2 x3 x4 x5) (JM la sa fa (line++[HC n ab m]) fs rest) Q:=by
 have hlk:=md hfr;have z1:(fs.map aS.cv).length≤60:=by rw[List.length_map];exact hz
 have z2:(fs.map fun s=>(s.n,CV.bool true)).length≤60:=by rw[List.length_map];exact hz
 have e1:bk n (CV.bool true) (fs.map fun s=>(s.n,CV.bool true))=(fs++[(⟨n,l,ab,gi l m bM,!ty=="Pages"⟩:aS)]).map fun s=>(s.n,CV.bool true):=by rw[eQ hlk,List.map_append];rfl
 have e2:fs.map aS.cv++[f8 n l ab (gi l m bM) (!ty=="Pages")]=(fs++[(⟨n,l,ab,gi l m bM,!ty=="Pages"⟩:aS)]).map aS.cv:=by rw[List.map_append];rfl
 refine⟨⟨_,.head _⟩,line,_,_,.head,Nat.le_trans (Nat.succ_le_succ hl) (by decide),rfl,T,R,n,l,ab,ty,GI hs _ _,rfl,rfl,g1,g2,gt,g3,hm,?_⟩
 refine⟨_,⟨rfl,rfl⟩,_,⟨rfl,rfl⟩,false,⟨_,.tail _ (.head _),by rw[hlk];rfl⟩,false,rfl,.n ⟨sm rfl,fun b=>⟨.lst [],_,.head,rfl,fs.map aS.cv,.tail _ (.tail _ (.head _)),Nat.le_trans z1 (by decide),false,IZ hne,.n (.n (.n ?_))⟩⟩⟩
 refine⟨_,⟨rfl,rfl⟩,_,⟨rfl,rfl⟩,.inl ⟨_,_,.tail .head,Nat.le_trans z2 (by decide),⟨_,.tail _ (.tail _ (.head _))⟩,_,_,.tail (.tail .head),Nat.le_trans z1 (by decide),_,⟨rfl,rfl⟩,(!ty=="Pages"),rfl,?_⟩⟩
 rw[e1,e2];exact k
theorem Dw{fs:List aS}{n:Int}{a b:List Int}(h:(fs.map (·.n)++(n::a++b)).Nodup):n∉fs.map (·.n):=fun hm=>(List.nodup_append.mp h).2.2 n hm n (.head _) rfl
theorem C2{rest:Sg}{la sa fa:Addr}{sh:CV}{T:Tb}{R:Hd}(hs:d6 rest sh T R){Q:Fl→bp→Sg→Prop}:∀(fuel:Nat) (jobs:List pJ) (fs:List aS) (x1 x2 x3 x4 x5:Option CV),(jobs.map fun j=>j.1.size).sum<fuel→(∀j∈jobs,j.ok T)→(fs.map (·.n)++jobs.flatMap fun j=>j.1.nums).Nodup→fs.length+(jobs.map fun j=>j.1.size).sum≤60→fs≠[]→
  (∀x1 x2 x3 x4 x5,Q .next (KI sh fa sa la x1 x2 x3 x4 x5) (JM la sa fa [] (fs++jobs.flatMap pJ.out) rest))→
  kj pM lD fuel (KI sh fa sa la x1 x2 x3 x4 x5) (JM la sa fa (jobs.reverse.map pJ.cv) fs rest) Q:=by
 intro fuel;induction fuel with
 |zero=>intro jobs fs x1 x2 x3 x4 x5 h;exact absurd h (Nat.not_lt_zero _)
 |succ fuel ih=>
  intro jobs fs x1 x2 x3 x4 x5 hfu hj hnd hz hne h;have hjl:=rX jobs;cases jobs with
  |nil=>
   refine⟨false,⟨[],.head _,by decide,rfl⟩,.n ?_⟩
   have:=h x1 x2 x3 x4 x5;rw[List.flatMap_nil,List.append_nil]at this;exact this
  |cons j jobs=>
   obtain⟨⟨i,ab,m⟩,rfl⟩:∃j',j'=j:=⟨j,rfl⟩;obtain⟨hit,hab,hm⟩:=hj _ (.head _);have hjs:∀j'∈jobs,j'.ok T:=fun j' h'=>hj j' (.tail _ h');have e1:(((i,ab,m)::jobs:List pJ).reverse.map pJ.cv)=jobs.reverse.map pJ.cv++[HC i.num ab m]:=by rw[List.reverse_cons,List.map_append];rfl
   rw[e1];rw[List.length_cons]at hjl;rw[List.map_cons,List.sum_cons]at hfu hz hjl;rw[List.flatMap_cons]at hnd;have hll:(jobs.reverse.map pJ.cv).length≤60:=by rw[List.length_map,List.length_reverse];exact Nat.le_trans (Nat.le_of_succ_le hjl) (Nat.le_trans (Nat.le_add_left _ _) hz)
   refine⟨true,⟨_,.head _,by rw[List.length_append];exact Nat.le_trans (Nat.succ_le_succ hll) (by decide),by simp⟩,.y ?_⟩
   have hfl:fs.length≤60:=Nat.le_trans (Nat.le_add_right _ _) hz;cases i with
   |page p=>
    obtain⟨g1,g2,g3⟩:=hit;refine wD hs (ty:="Page") g1 g2 (.inr rfl) g3 (Nat.le_trans (hm:m.length≤8) (by decide)) (Dw (a:=[]) hnd) hne hfl hll (.n ?_)
    refine ih jobs (fs++[s8 ab m p]) (some (aG p.n)) (some (.tup (ab.map aG))) (some (.sd m)) _ x5 ?_ hjs ?_ ?_ (List.append_ne_nil_of_right_ne_nil _ (List.cons_ne_nil _ _)) fun y1 y2 y3 y4 y5=> ?_
    ·exact Nat.lt_of_succ_lt_succ (by rw[Nat.add_comm]at hfu;exact hfu)
    ·rw[List.map_append,List.append_assoc];exact hnd
    ·rw[List.length_append,Nat.add_assoc];exact hz
    ·rw[List.append_assoc];exact h y1 y2 y3 y4 y5
   |node n l ps=>
    obtain⟨g1,g2,gk,g3,gp⟩:=hit;obtain⟨hm,hab2⟩:m.length≤4∧ab.length≤10:=hm;refine wD hs (ty:="Pages") g1 g2 (.inl rfl) g3 (Nat.le_trans hm (by decide)) (Dw hnd) hne hfl hll (.y ⟨_,⟨rfl,rfl⟩,T,R,_,GI hs _ _,gk,?_⟩)
    have hsz:(1+ps.length)+(fs.length+(jobs.map fun j=>j.1.size).sum)≤60:=by rw[Nat.add_left_comm];exact hz
    have hfu:(1+ps.length)+(jobs.map fun j=>j.1.size).sum<fuel+1:=hfu;have e2:(ps.map fun p=>aG p.n).reverse=(ps.map (·.n)).reverse.map aG:=by rw[List.map_reverse,List.map_map];rfl
    show dJ _ _ (ps.map fun p=>aG p.n).reverse _ _ _;rw[e2];have hpl:(ps.map (·.n)).reverse.length≤60:=by rw[List.length_reverse,List.length_map];exact Nat.le_trans (Nat.le_add_left ps.length 1) (Nat.le_trans (Nat.le_add_right _ _) hsz)
    refine qv hab _ _ _ (Nat.le_trans (Nat.add_le_add hll hpl) (by decide)) fun x'=> ?_
    have ih':=ih ((ps.map fun p=>((.page p,ab++[n],gi l m bM):pJ))++jobs) (fs++[⟨n,l,ab,gi l m bM,false⟩]) (some (aG n)) (some (.tup (ab.map aG))) (some (.sd m)) (some (f8 n l ab (gi l m bM) (!true))) x' (by
     rw[List.map_append,List.sum_append,vI];lia) (fun j' hj'=> ?_) ?_ ?_ (List.append_ne_nil_of_right_ne_nil _ (List.cons_ne_nil _ _)) fun y1 y2 y3 y4 y5=> ?_
    ·have e3:List.map pJ.cv ((ps.map fun p=>((.page p,ab++[n],gi l m bM):pJ))++jobs).reverse=jobs.reverse.map pJ.cv++(ps.map (·.n)).reverse.map fun k=>HC k (ab++[n]) (gi l m bM):=by
      rw[List.reverse_append,List.map_append,←List.map_reverse,←List.map_reverse,List.map_map,List.map_map];rfl
     rw[e3]at ih';exact ih'
    ·rcases List.mem_append.mp hj' with h'|h'
     ·obtain⟨p,hp,rfl⟩:=List.mem_map.mp h';exact⟨gp p hp,by rw[List.length_append];exact Nat.le_trans (Nat.succ_le_succ hab2) (by decide),Nat.le_trans (jX l bM m) (Nat.add_le_add_right hm 4)⟩
     ·exact hjs j' h'
    ·rw[List.flatMap_append,Cq,List.map_append,List.append_assoc];exact hnd
    ·rw[List.map_append,List.sum_append,vI,List.length_append];show fs.length+1+_≤60;lia
    ·rw[List.flatMap_append,Eb,List.append_assoc];exact h y1 y2 y3 y4 y5
theorem F4(its:List pI)(ab:List Int)(m:Hd):((its.map fun i=>((i,ab,m):pJ)).flatMap fun j=>j.1.nums)=its.flatMap pI.nums:=by
 induction its with
 |nil=>rfl
 |cons p ps ih=>simp only[List.map_cons,List.flatMap_cons,ih]
theorem F5(its:List pI)(ab:List Int)(m:Hd):(its.map fun i=>((i,ab,m):pJ)).flatMap pJ.out=its.flatMap (iN ab m):=by
 induction its with
 |nil=>rfl
 |cons p ps ih=>simp only[List.map_cons,List.flatMap_cons,ih];rfl
theorem oo(its:List pI)(ab:List Int)(m:Hd):((its.map fun i=>((i,ab,m):pJ)).map fun j=>j.1.size).sum=(its.flatMap pI.nums).length:=by
 induction its with
 |nil=>rfl
 |cons p ps ih=>
  simp only[List.map_cons,List.sum_cons,List.flatMap_cons,List.length_append,ih]
  congr 1
  cases p<;>simp[pI.size,pI.nums];lia
theorem cD(kf:KF W.K):ax W 6 (.ref 498) dX:=by
 refine FH (N:=5) kf ((cK kf).upb rfl) ((CN kf).upb rfl) ((bR kf).upb rfl) fun sg Q cs (h:uL sg Q cs)=> ?_
 ·refine uL.casesOn h @fun sh T R d hs hd hq=>⟨rfl,?_⟩;refine⟨sm rfl,fun fa sa=> ?_⟩;obtain⟨c,hr,hp⟩:=hd.root;have hs2:=(hs.cons (fa,.lst [])).cons (sa,.nd []);refine⟨hs2.inst _ fun O=>rfl,T,R,c,hs2,hr,.inl ⟨c,rfl⟩,?_⟩;refine⟨c,rfl,?_⟩;rw[hp];refine⟨sm rfl,fun ea=>⟨_,_,.head,rfl,sm rfl,sm rfl,fun la=> ?_⟩⟩;have hz:=hd.sz;have hnd:=hd.nd;simp only[dZ.nums,List.length_cons]at hz;refine⟨61,?_⟩;refine⟨true,⟨_,.head _,by simp,rfl⟩,.y ?_⟩
  refine⟨⟨_,.head _⟩,?_⟩;refine⟨[],_,_,.head,sm rfl,?_⟩;refine⟨rfl,?_⟩;have hs3:=hs2.cons (la,.lst []);refine⟨T,R,2,d.l,[],"Pages",hs3,rfl,rfl,hd.t2,hd.ty,.inl rfl,hd.ok,by simp,?_⟩
  refine⟨_,⟨rfl,rfl⟩,_,⟨rfl,rfl⟩,false,⟨_,.tail _ (.head _),rfl⟩,false,rfl,fun h=>(by exact ff h),fun O=> ?_⟩
  refine⟨sm rfl,fun b=>⟨.lst [],_,.head,rfl,?_⟩⟩;refine⟨[],.tail _ (.tail _ (.head _)),by simp,?_⟩
  refine⟨true,rfl,.y ⟨_,⟨rfl,rfl⟩,false,rfl,?_⟩⟩;refine⟨fun h=>(by exact ff h),fun O=>⟨fun h=>(by exact ff h),fun O=>⟨fun h=>(by exact ff h),fun O=> ?_⟩⟩⟩
  refine⟨_,⟨rfl,rfl⟩,_,⟨rfl,rfl⟩,.inl ⟨_,_,.tail .head,by simp,⟨_,.tail _ (.tail _ (.head _))⟩,?_⟩⟩
  refine⟨_,_,.tail (.tail .head),sm rfl,_,⟨rfl,rfl⟩,false,rfl,.y ?_⟩;have hs4:d6 ((la,MO.lst [])::(sa,MO.nd (bk 2 (.bool true) []))::(fa,MO.lst ([]++[f8 2 d.l [] (gi d.l [] bM) (!true)]))::sg) sh T R:=((hs.cons _).cons _).cons _;refine⟨_,⟨rfl,rfl⟩,T,R,_,hs4,hd.ks,?_⟩;have e2:(d.its.map fun i=>aG i.num).reverse=(d.its.map pI.num).reverse.map aG:=by simp[List.map_reverse]
  show dJ _ _ (d.its.map fun i=>aG i.num).reverse _ _ _;rw[e2];have hsz:=rX (d.its.map fun i=>((i,[2],d.rm):pJ));rw[oo]at hsz;simp only[List.length_map]at hsz;refine qv (ab:=[]) (by simp) _ _ _ (by simp;lia) fun x'=> ?_
  have hrm:d.rm.length≤4:=by have:=jX d.l bM [];simpa [bM,dZ.rm] using this
  have e3:List.map pJ.cv (d.its.map fun i=>((i,[2],d.rm):pJ)).reverse=List.map (fun k=>HC k [2] d.rm) (d.its.map pI.num).reverse:=by
   rw[←List.map_reverse,←List.map_reverse,List.map_map,List.map_map];rfl
  refine L1 (L1 (L4 ?_));show kj pM lD 60 _ ((la,MO.lst (List.map (fun k=>HC k [2] d.rm) (d.its.map pI.num).reverse))::_) _;rw[←e3];refine C2 (rest:=sg) (la:=la) (sa:=sa) (fa:=fa) hs 60 (d.its.map fun i=>((i,[2],d.rm):pJ)) [⟨2,d.l,[],d.rm,false⟩] (some (aG 2)) (some (.tup [])) (some (.sd [])) (some (f8 2 d.l [] d.rm false)) x' (by rw[oo];exact Nat.lt_of_succ_le hz) (fun j hj=> ?_) (by rw[F4];exact hnd) (by rw[oo];simp only[List.length_cons,List.length_nil];lia) (by simp) fun y1 y2 y3 y4 y5=> ?_
  ·obtain⟨i,hi,rfl⟩:=List.mem_map.mp hj;refine⟨hd.its i hi,by simp,?_⟩
   cases i with
   |page p=>show d.rm.length≤8;exact Nat.le_trans (by assumption) (by decide)
   |node n l ps=>exact⟨hrm,by simp⟩
  ·rw[F5];exact⟨fa,_,_,rfl,.tail (.tail .head),rfl,⟨sg,.cons _ (.cons _ (.refl _)),hq⟩⟩
end
theorem cZ{α:Type}{f g:α→CV}{p:α→Bool}{pt:PB}{pe:PE}{frs:bp}{sg:Sg}{Q:CV→Sg→Prop}:∀(ss:List α) (ys:List CV),(∀s∈ss,∀K:Bool→Sg→Prop,K (p s) sg→pt (some (f s)::frs) sg K)→(∀s∈ss,p s=true→∀K:CV→Sg→Prop,K (g s) sg→pe (some (f s)::frs) sg K)→
  Q (.lst (ys++(ss.filter p).map g)) sg→Ak lY pt pe frs (ss.map f) ys sg Q
 |[],ys,_,_,h=>by have:=h;simp at this;exact this
 |s::ss,ys,h1,h2,h=>by
  rw[List.map_cons];refine⟨[f s],rfl,h1 s (.head _) _ ⟨fun hp=>h2 s (.head _) hp _ ?_,fun hp=> ?_⟩⟩
  ·refine cZ ss _ (fun s' h'=>h1 s' (.tail _ h')) (fun s' h'=>h2 s' (.tail _ h')) ?_;rw[List.filter_cons_of_pos hp,List.map_cons]at h
   simpa using h
  ·refine cZ ss _ (fun s' h'=>h1 s' (.tail _ h')) (fun s' h'=>h2 s' (.tail _ h')) ?_;rw[List.filter_cons_of_neg (by rw[hp];decide)]at h
   exact h
theorem h7{α:Type}{f g:α→CV}{pe:PE}{frs:bp}{sg:Sg}{Q:CV→Sg→Prop}(ss:List α)(h2:∀s∈ss,∀K:CV→Sg→Prop,K (g s) sg→pe (some (f s)::frs) sg K)(h:Q (.lst (ss.map g)) sg):Ak lY d9 pe frs (ss.map f) [] sg Q:=
 cZ (p:=fun O=>true) ss [] (fun s O K hk=>hk) (fun s hs O=>h2 s hs) (by rw[List.filter_eq_self.mpr (fun O O=>rfl)];simpa using h)
theorem b7(d:dZ):d.spots.length=d.nums.length:=by
 have:∀(its:List pI),(its.flatMap (iN [2] d.rm)).length=(its.flatMap pI.nums).length:=by
  intro its;induction its with
  |nil=>rfl
  |cons i its ih=>
   simp only[List.flatMap_cons,List.length_append,ih]
   congr 1
   cases i<;>simp[iN,pI.nums]
 simp[dZ.spots,dZ.nums,this]
theorem EH{T:Tb}{R:Hd}{d:dZ}(h:iu T R d):∀s∈d.spots,DQ T s.l:=by
 intro s hs;rcases List.mem_cons.mp hs with rfl|hs
 ·exact h.ok
 ·refine el12 (List.mem_flatMap.mp hs) fun i hi hs=> ?_;have:=h.its i hi;cases i with
  |page p=>simp[iN]at hs;subst hs;exact this.2.2
  |node n l ps=>
   refine I2 this fun O O O h4 h5=> ?_;rcases List.mem_cons.mp hs with rfl|hs
   ·exact h4
   ·obtain⟨p,hp,rfl⟩:=List.mem_map.mp hs;exact(h5 p hp).2.2
section
variable {W:Wd}
theorem dN(kf:KF W.K):ax W 7 (.ref 510) eC:=by
 refine xg kf (cD kf) fun sg Q cs (h:iJ sg Q cs)=> ?_
 ·refine iJ.casesOn h @fun sh T R d hs hd hq=>⟨rfl,?_⟩;refine⟨T,R,d,hs,hd,trivial,?_,?_⟩
  ·have:=hd.sz;rw[←b7]at this;exact ay (by(show(List.map _ _).length≤_;rw[List.length_map]);exact Nat.le_trans (by assumption) (by decide))
  ·refine cZ (g:=aS.cv) (p:=(·.pg)) d.spots [] (fun s O K hk=> ?_) (fun s O O K hk=> ?_) (rs hq)
   ·exact⟨_,⟨rfl,rfl⟩,s.pg,rfl,hk⟩
   ·exact hk
theorem fB(kf:KF W.K):ax W 8 (.ref 515) iq:=by
 refine FG (N:=7) kf (dN kf) ((zV kf).upb rfl) ((fj kf).upb rfl) fun sg Q cs (h:uK sg Q cs)=> ?_
 ·refine uK.casesOn h @fun sh T R d hs hd hl hq=>⟨rfl,?_⟩;refine⟨T,R,d,hs,hd,trivial,?_,?_⟩
  ·have:=hd.sz;rw[←b7]at this;have h2:=List.length_filter_le (fun s:aS=>s.pg) d.spots;exact ay (by(show(List.map _ _).length≤_;rw[List.length_map]);exact Nat.le_trans (Nat.le_trans (by assumption) (by assumption)) (by decide))
  ·refine h7 (g:=nN) d.pages (fun s hs' K hk=> ?_) (rs hq);have hm:s∈d.spots:=(List.mem_filter.mp hs').1;refine⟨_,⟨rfl,rfl⟩,T,R,s.n,s.l,s.ab,s.m,s.pg,hs,rfl,EH hd s hm,hl s hm,rfl,fun a dx=>⟨_,_,.head,rfl,?_⟩⟩;exact hk
theorem nJ(kf:KF W.K):ax W 1 (.ref 529) nY:=by
 refine Ba kf fun sg Q cs (h:lI sg Q cs)=> ?_
 ·refine lI.casesOn h @fun O h=>⟨rfl,?_⟩;refine⟨_,true,rfl,rfl,true,rfl,.y ⟨_,false,rfl,rfl,?_⟩⟩;exact⟨false,rfl,true,rfl,.y (rs h)⟩
theorem kE(kf:KF W.K):ax W 5 (.ref 522) kL:=by
 refine xf (N:=4) kf ((aH kf).upb rfl) ((aP kf).upb rfl) ((b8 kf).upb rfl) (cK kf) ((nJ kf).upb rfl) fun sg Q cs (h:iI sg Q cs)=> ?_
 ·refine iI.casesOn h @fun sh T R d i hs hd hc h0 hq=>⟨rfl,?_⟩;refine el12 hd.root fun c hr hp=> ?_;refine⟨hs.inst _ fun O=>rfl,hs.inst _ fun O=>rfl,hs.inst _ fun O=>rfl,T,R,c,hs,hr,.inl ⟨c,rfl⟩,?_⟩;refine⟨c,rfl,?_⟩;rw[hp];refine⟨T,R,2,.sd d.l,hs,rfl,hd.t2,trivial,T,R,.sd d.l,hs,.inr ⟨2,rfl,hd.t2,trivial⟩,T,R,d.l,.int i,hs,rfl,.inl ⟨by rw[hc];exact trivial,by rw[hc];rfl⟩,?_⟩
  exact⟨true,(by exact(decide_eq_true h0).symm),.y (rs hq)⟩
theorem gH(kf:KF W.K):ax W 2 (.ref 564) jr:=by
 refine I8 kf (cw kf) fun sg Q cs (h:Di sg Q cs)=> ?_
 ·refine Di.casesOn h @fun O O O n pre post t T R z9 hs hz hq=>⟨rfl,?_⟩;subst z9;exact⟨hs.at.inst _ fun O=>rfl,_,⟨rfl,rfl⟩,_,⟨rfl,rfl⟩,pre,post,t,T,R,hs,hz,rs hq⟩
end
theorem aN{K V:Type}[DecidableEq K][BEq K][LawfulBEq K](k:K)(c:V):∀(l:List (K×V)) (n:K),(bk k c l).lookup n=if n=k then some c else l.lookup n
 |[],n=>by
  unfold bk;by_cases e:n=k
  ·rw[if_pos e,List.lookup_cons,beq_iff_eq.mpr e]
  ·rw[if_neg e,List.lookup_cons,beq_eq_false_iff_ne.mpr e]
 |p::r,n=>by
  unfold bk;by_cases h:p.1=k
  ·rw[if_pos h];by_cases e:n=k
   ·rw[if_pos e,List.lookup_cons,beq_iff_eq.mpr e]
   ·rw[if_neg e,List.lookup_cons,List.lookup_cons,beq_eq_false_iff_ne.mpr e,beq_eq_false_iff_ne.mpr (fun q=>e (q.trans h))]
  ·rw[if_neg h,List.lookup_cons,List.lookup_cons,aN k c r n];by_cases e:n=k
   ·have:(n==p.1)=false:=beq_eq_false_iff_ne.mpr fun q=>h (q.symm.trans e);rw[this,if_pos e]
   ·simp only[if_neg e]
theorem er{K V:Type}[DecidableEq K][BEq K][LawfulBEq K](k:K)(c:V):∀(l:List (K×V)),(l.lookup k).isSome=true→(bk k c l).length=l.length
 |[],h=>by simp at h
 |p::r,h=>by
  unfold bk;by_cases e:p.1=k
  ·rw[if_pos e];rfl
  ·rw[if_neg e];rw[List.lookup_cons,beq_eq_false_iff_ne.mpr (fun q=>e q.symm)]at h;simp[er k c r h]
theorem j0{K V:Type}[DecidableEq K][BEq K][LawfulBEq K](k:K):∀(l:List (K×V)) (n:K),(mB k l).lookup n=if n=k then none else l.lookup n
 |[],n=>by simp[mB]
 |p::r,n=>by
  unfold mB;by_cases h:p.1=k
  ·rw[List.filter_cons_of_neg (by simp[h])]
   have:=j0 k r n;unfold mB at this;rw[this,List.lookup_cons];by_cases e:n=k
   ·rw[if_pos e,if_pos e]
   ·rw[if_neg e,if_neg e,beq_eq_false_iff_ne.mpr (fun q=>e (q.trans h))]
  ·rw[List.filter_cons_of_pos (by simp[h])]
   have:=j0 k r n;unfold mB at this;rw[List.lookup_cons,List.lookup_cons,this];by_cases e:n=k
   ·have:(n==p.1)=false:=beq_eq_false_iff_ne.mpr fun q=>h (q.symm.trans e);rw[this,if_pos e]
   ·simp only[if_neg e]
abbrev CF:=Int→Option Int
noncomputable def CF.upd(f:CF)(k v:Int):CF:=fun n=>if n=k then some v else f n
def C9(C:Tb)(f:CF):Prop:=∀n,C.lookup n=(f n).map CV.int
theorem C9.upd{C:Tb}{f:CF}(h:C9 C f)(k v:Int):C9 (bk k (.int v) C) (f.upd k v):=fun n=>by
 rw[aN];unfold CF.upd;by_cases e:n=k
 ·rw[if_pos e,if_pos e];rfl
 ·rw[if_neg e,if_neg e];exact h n
noncomputable def Cf(f:CF):List aS→CF
 |[]=>f
 |s::ss=>Cf (f.upd s.n (if s.pg=true then 1 else 0)) ss
noncomputable def Bm(f:CF):List Int→CF
 |[]=>f
 |k::ks=>Bm (f.upd k ((f k).getD 0+1)) ks
noncomputable def D0(f:CF):List aS→CF
 |[]=>f
 |s::ss=>D0 (if s.pg=true then Bm f s.ab else f) ss
noncomputable def ki(ss:List aS):CF:=D0 (Cf (fun O=>none) ss) ss
inductive jN(sg:Sg)(Q:CV→Sg→Prop):List CV→Prop
 |mk {cvs:List CV} (ss:List aS):cvs=ss.map aS.cv→ss.length≤60→(∀s∈ss,s.ab.length≤20∧∀k∈s.ab,k∈ss.map (·.n))→(∀C,C9 C (ki ss)→Q (.nd C) sg)→jN sg Q [.lst cvs]
def eh:ao:=fun cs sg Q=>jN sg Q cs
def BB(l:Hd)(p:Option Int):Prop:=l.lookup aJ=p.map aG
noncomputable def qn(p:Option Int)(ab:List Int):Bool:=match p,ab.getLast? with
 |none,none=>true
 |some a,some b=>a==b
 |_,_=>false
inductive jP(sg:Sg)(Q:CV→Sg→Prop):List CV→Prop
 |mk {c:CV} (n l ab m pg p):c=f8 n l ab m pg→BB l p→ab.length≤20→Q (.bool (qn p ab)) sg→jP sg Q [c]
def gO:ao:=fun cs sg Q=>jP sg Q cs
inductive hW(sg:Sg)(Q:CV→Sg→Prop):List CV→Prop
 |mk {sh:CV} (T R d):d6 sg sh T R→iu T R d→((∀s∈d.spots,s.ab.length≤20∧(∀k∈s.ab,k∈d.spots.map (·.n))∧(∃p,BB s.l p∧qn p s.ab=true)∧(s.pg=false→∃i,s.l.lookup bb=some (.int i)∧ki d.spots s.n=some i)∧(ki d.spots s.n).isSome=true∧(s.pg=true→(s.m.lookup (Str.ofString "MediaBox")).isSome=true)))→Q (.lst []) sg→hW sg Q [sh]
def jt:ao:=fun cs sg Q=>hW sg Q cs
section
noncomputable def rP:List Str:=[Str.ofString "found"]
noncomputable def rA:List Str:=[Str.ofString "counts",Str.ofString "spot",Str.ofString "node"]
noncomputable def zx:List Str:=[]
def mL:PS:=(aj (dC (ak 1) (fld 273 (Str.ofString "number") (fld 452 (Str.ofString "reference") (ak 2))) (xY (aX (fld 452 (Str.ofString "is_page") (ak 2))) (aK (.int 1)) (aK (.int 0))))
 am)
def mN:PS:=(aj (dC (ak 1) (fld 273 (Str.ofString "number") (ak 3)) (bh dD (bh aR (ak 1) (fld 273 (Str.ofString "number") (ak 3))) (aK (.int 1))))
 am)
def mM:PS:=(aj (ew (aX (fld 452 (Str.ofString "is_page") (ak 2))) (aj (forS 3 (fld 452 (Str.ofString "above") (ak 2)) mN)
 am) am)
 am)
def AA:PS:=(aj (cS 1 (fW (.nd [])))
 (aj (forS 2 (ak 0) mL)
 (aj (forS 2 (ak 0) mM)
 (i9 1 (aj (bQ (ak 1))
 am)))))
theorem zk{W:Wd}(kf:KF W.K){N:Nat}{sp:ao}(hsp:gh rP rA (AA) sp):ax W (N+1) (.ref 536) sp:=by
 refine aO (ps:=rP) (more:=rA) (globs:=zx) (kf.f 28 rfl) rfl (by decide+kernel) (dI fun O O O O O O O O O O=> .of_eq rfl) (fun X hn hg hsc hnn hm=> ?_) hsp
 refine ag (ar 1 hn hm rfl (bl rfl) rfl (cU rfl)) ?_;refine ag (fY 2 hn hg hsc hnn hm rfl (bl rfl) (fun O=>rfl) (ad 0 hn rfl) (fun X hA hE hn hg hsc hnn hm=>(by {refine ag (bI rfl (ad 1 hn rfl) (aB (kf.b 3 rfl) rfl (aB (kf.b 36 rfl) rfl (ad 2 hn rfl))) (fZ (bj rfl (aB (kf.b 35 rfl) rfl (ad 2 hn rfl))) av av)) ?_;exact ai}))) ?_
 refine ag (fY 2 hn hg hsc hnn hm rfl (bl rfl) (fun O=>rfl) (ad 0 hn rfl) (fun X hA hE hn hg hsc hnn hm=>(by {refine ag (be (bj rfl (aB (kf.b 35 rfl) rfl (ad 2 hn rfl))) (by {refine ag (fY 3 hn hg hsc hnn hm rfl (bl rfl) (fun O=>rfl) (aB (kf.b 45 rfl) rfl (ad 2 hn rfl)) (fun X hA hE hn hg hsc hnn hm=>(by {refine ag (bI rfl (ad 1 hn rfl) (aB (kf.b 3 rfl) rfl (ad 3 hn rfl)) (bH bG (aU (fun O O=>rfl) aD (ad 1 hn rfl) (aB (kf.b 3 rfl) rfl (ad 3 hn rfl))) av)) ?_;exact ai}))) ?_;exact ai}) ai) ?_;exact ai}))) ?_
 refine cV 1 ?_;refine ag (aL (ad 1 hn rfl)) ?_;exact ai
noncomputable def rR:List Str:=[Str.ofString "spot"]
noncomputable def rC:List Str:=[Str.ofString "parent"]
noncomputable def zz:List Str:=[Str.ofString "isinstance",Str.ofString "Reference"]
def AC:PS:=(aj (cS 1 (cq Ew pG (fld 452 (Str.ofString "head") (ak 0)) (ah (aK (.str (Str.ofString "Parent"))) aq)))
 (aj (ew (aX (bh eG (fld 452 (Str.ofString "above") (ak 0)) (dK aq))) (aj (bQ (bh rZ (ak 1) (aK .none)))
 am) am)
 (aj (bQ (EL (isi (eY (.ref 273)) (ak 1)) (bh eG (bA 273 (Str.ofString "pair") aF (ak 1) aq) (bA 273 (Str.ofString "pair") aF (bh aR (fld 452 (Str.ofString "above") (ak 0)) (un wC (aK (.int 1)))) aq))))
 am)))
theorem zm{W:Wd}(kf:KF W.K){N:Nat}(az:ax W N (.ref 270) aF){sp:ao}(hsp:gh rR rC (AC) sp):ax W (N+1) (.ref 543) sp:=by
 refine aO (ps:=rR) (more:=rC) (globs:=zz) (kf.f 29 rfl) rfl (by decide+kernel) (dI fun O O O O O O O O O O=> .of_eq rfl) (fun X hn hg hsc hnn hm=> ?_) hsp
 refine ag (ar 1 hn hm rfl (bl rfl) rfl (br iL gB rfl rfl rfl (aB (kf.b 38 rfl) rfl (ad 0 hn rfl)) (ae rfl aI af))) ?_;refine ag (be (aE rfl bt (aB (kf.b 45 rfl) rfl (ad 0 hn rfl)) (bB af)) (by {refine ag (aL (fX rfl e_ (ad 1 hn rfl) bE)) ?_;exact ai}) ai) ?_
 refine ag (aL (rj (fc 0 1 hg rfl (kf.n 0 rfl) rfl rfl (kf.n 9 rfl) (kf.a 8 rfl) rfl rfl rfl (ad 1 hn rfl)) (rk (fX rfl bt (bV (kf.b 12 rfl) az (bn hnn) rfl (ad 1 hn rfl)) (bV (kf.b 12 rfl) az (bn hnn) rfl (aU (fun O O=>rfl) aD (aB (kf.b 45 rfl) rfl (ad 0 hn rfl)) (vY nb av))))))) ?_;exact ai
noncomputable def nS:List Str:=[Str.ofString "shelf"]
noncomputable def nC:List Str:=[Str.ofString "found",Str.ofString "counts",Str.ofString "faults",Str.ofString "spot",Str.ofString "number"]
noncomputable def vT:List Str:=[Str.ofString "spots",Str.ofString "counts_of",Str.ofString "is_parent"]
def kQ:PS:=(aj (cS 5 (fld 273 (Str.ofString "number") (fld 452 (Str.ofString "reference") (ak 4))))
 (aj (ew (lz (aX (aA gO (ah (ak 4) aq)))) (aj (cB (cq wf dE (ak 3) (ah (dK (ah (ak 5) (ah (aK (.str (Str.ofString "Parent"))) aq))) aq)))
 am) am)
 (aj (ew (qw (lz (aX (fld 452 (Str.ofString "is_page") (ak 4)))) (qw (aX (bh lZ (bA 404 (Str.ofString "get") aQ (ak 0) (ah (fld 452 (Str.ofString "head") (ak 4)) (ah (aK (.str (Str.ofString "Count"))) aq))) (bh aR (ak 2) (ak 5)))) d9)) (aj (cB (cq wf dE (ak 3) (ah (dK (ah (ak 5) (ah (aK (.str (Str.ofString "Count"))) aq))) aq)))
 am) am)
 (aj (ew (qw (aX (fld 452 (Str.ofString "is_page") (ak 4))) (qw (aX (bh oB (aK (.str (Str.ofString "MediaBox"))) (fld 452 (Str.ofString "inherited") (ak 4)))) d9)) (aj (cB (cq wf dE (ak 3) (ah (dK (ah (ak 5) (ah (aK (.str (Str.ofString "MediaBox"))) aq))) aq)))
 am) am)
 am))))
def wU:PS:=(aj (cS 1 (aA dX (ah (ak 0) aq)))
 (aj (cS 2 (aA eh (ah (ak 1) aq)))
 (aj (cS 3 (cT aq))
 (aj (forS 4 (ak 1) kQ)
 (i9 3 (aj (bQ (ak 3))
 am))))))
theorem vN{W:Wd}(kf:KF W.K){N:Nat}(cD:ax W N (.ref 498) dX)(da:ax W N (.ref 536) eh)(fk:ax W N (.ref 543) gO)(aH:ax W N (.ref 347) aQ){sp:ao}(hsp:gh nS nC (wU) sp):ax W (N+1) (.ref 550) sp:=by
 refine aO (ps:=nS) (more:=nC) (globs:=vT) (kf.f 30 rfl) rfl (by decide+kernel) (dI fun O O O O O O O O O O=> .of_eq rfl) (fun X hn hg hsc hnn hm=> ?_) hsp
 refine ag (ar 1 hn hm rfl (bl rfl) rfl (au 0 hg rfl (kf.n 23 rfl) (kf.b 40 rfl) cD (bn hnn) rfl rfl (ae rfl (ad 0 hn rfl) af))) ?_;refine ag (ar 2 hn hm rfl (bl rfl) rfl (au 1 hg rfl (kf.n 28 rfl) (kf.b 46 rfl) da (bn hnn) rfl rfl (ae rfl (ad 1 hn rfl) af))) ?_;refine ag (ar 3 hn hm rfl (bl rfl) rfl (bD af)) ?_;refine ag (fY 4 hn hg hsc hnn hm rfl (bl rfl) (fun O=>rfl) (ad 1 hn rfl) (fun X hA hE hn hg hsc hnn hm=>(by {refine ag (ar 5 hn hm rfl (bl rfl) rfl (aB (kf.b 3 rfl) rfl (aB (kf.b 36 rfl) rfl (ad 4 hn rfl)))) ?_;refine ag (be (c9 (bj rfl (au 2 hg rfl (kf.n 29 rfl) (kf.b 47 rfl) fk (bn hnn) rfl rfl (ae rfl (ad 4 hn rfl) af)))) (by {refine ag (bq (aC X) rfl (br cG cc rfl rfl rfl (ad 3 hn rfl) (ae rfl (bB (ae rfl (ad 5 hn rfl) (ae rfl aI af))) af))) ?_;exact ai}) ai) ?_;refine ag (be (eJ (c9 (bj rfl (aB (kf.b 35 rfl) rfl (ad 4 hn rfl)))) (eJ (aE rfl dl (bi (kf.b 19 rfl) aH (bn hnn) rfl rfl rfl (ad 0 hn rfl) (ae rfl (aB (kf.b 38 rfl) rfl (ad 4 hn rfl)) (ae rfl aI af))) (aU (fun O O=>rfl) aD (ad 2 hn rfl) (ad 5 hn rfl))) jd)) (by {refine ag (bq (aC X) rfl (br cG cc rfl rfl rfl (ad 3 hn rfl) (ae rfl (bB (ae rfl (ad 5 hn rfl) (ae rfl aI af))) af))) ?_;exact ai}) ai) ?_;refine ag (be (eJ (bj rfl (aB (kf.b 35 rfl) rfl (ad 4 hn rfl))) (eJ (aE rfl i8 aI (aB (kf.b 37 rfl) rfl (ad 4 hn rfl))) jd)) (by {refine ag (bq (aC X) rfl (br cG cc rfl rfl rfl (ad 3 hn rfl) (ae rfl (bB (ae rfl (ad 5 hn rfl) (ae rfl aI af))) af))) ?_;exact ai}) ai) ?_;exact ai}))) ?_
 refine cV 3 ?_;refine ag (aL (ad 3 hn rfl)) ?_;exact ai
end
theorem wi(p q:Int):(pd (.tup [.int p,.int 0])).eqv (pd (.tup [.int q,.int 0]))=(p==q):=by
 simp[pd,GT,PyData.eqv,PyData.eqvAll]
section
variable {W:Wd}
theorem qX{sg:Sg}{ca:Addr}{v0:CV}{Q:Fl→bp→Sg→Prop}:∀(ss:List aS) (C:Tb) (f:CF) (x y:Option CV),C9 C f→C.length+ss.length≤100→
  (∀C x,C9 C (Cf f ss)→C.length≤100→Q .next [some v0,some (.ref ca),x,y] ((ca,.nd C)::sg))→
  dJ mL 2 (ss.map aS.cv) [some v0,some (.ref ca),x,y] ((ca,.nd C)::sg) Q
 |[],C,f,x,y,hc,hz,h=>h C x hc (by simpa using hz)
 |s::ss,C,f,x,y,hc,hz,h=>by
  simp only[List.length_cons]at hz;have ih:=fun C' hc' hz'=>qX (sg:=sg) (ca:=ca) (v0:=v0) (Q:=Q) ss C' (f.upd s.n (if s.pg=true then 1 else 0)) (some s.cv) y hc' hz' h
  rw[List.map_cons];have step:∀v:Int,(if s.pg=true then 1 else 0)=v→GC ((ca,MO.nd C)::sg) (.ref ca) (.int s.n) (.int v) (fun sg4=>dJ (aj (dC (ak 1) (fld 273 (Str.ofString "number") (fld 452 (Str.ofString "reference") (ak 2))) (xY (aX (fld 452 (Str.ofString "is_page") (ak 2))) (aK (.int 1)) (aK (.int 0)))) am) 2 (ss.map aS.cv) [some v0,some (.ref ca),some s.cv,y] sg4 Q):=by
   intro v hv;refine .inl ⟨C,_,.head,by exact Nat.le_trans (Nat.le_trans (Nat.le_add_right _ _) (by assumption)) (by decide),?_⟩
   refine ih _ ?_ (by have:=dg s.n (CV.int v) C;exact Nat.le_trans (Nat.add_le_add_right (by assumption) _) (Nat.le_trans (Nat.le_of_eq (Nat.succ_add_eq_add_succ _ _)) (by assumption)))
   rw[←hv];exact hc.upd _ _
  refine⟨_,⟨rfl,rfl⟩,s.pg,rfl,fun hp=>⟨_,⟨rfl,rfl⟩,_,⟨rfl,rfl⟩,step 1 (by rw[if_pos hp])⟩,fun hp=>⟨_,⟨rfl,rfl⟩,_,⟨rfl,rfl⟩,step 0 (by rw[hp];rfl)⟩⟩
theorem qZ{sg:Sg}{ca:Addr}{v0 v2:CV}{Q:Fl→bp→Sg→Prop}:∀(ab:List Int) (C:Tb) (f:CF) (y:Option CV),C9 C f→(∀k∈ab,(f k).isSome=true)→C.length≤100→
  (∀C y,C9 C (Bm f ab)→C.length≤100→Q .next [some v0,some (.ref ca),some v2,y] ((ca,.nd C)::sg))→
  dJ mN 3 (ab.map aG) [some v0,some (.ref ca),some v2,y] ((ca,.nd C)::sg) Q
 |[],C,f,y,hc,hs,hz,h=>h C y hc hz
 |k::ab,C,f,y,hc,hs,hz,h=>by
  obtain⟨i,hi⟩:=Option.isSome_iff_exists.mp (hs k (.head _));have hlk:C.lookup k=some (.int i):=by rw[hc k,hi];rfl
  have ih:=qZ (sg:=sg) (ca:=ca) (v0:=v0) (v2:=v2) (Q:=Q) ab (bk k (.int (i+1)) C) (f.upd k ((f k).getD 0+1)) (some (aG k)) (by rw[hi];exact hc.upd _ _) (fun k' h'=>by unfold CF.upd;split;rfl;exact hs k' (.tail _ h')) (by rw[er k _ C (by rw[hlk];rfl)];exact hz) h
  rw[List.map_cons];refine⟨_,⟨rfl,rfl⟩,?_⟩;exact⟨_,.inl ⟨C,.head _,hlk⟩,_,⟨rfl,rfl⟩,.inl ⟨C,_,.head,by exact Nat.le_trans (by assumption) (by decide),ih⟩⟩
theorem xZ:∀(ab:List Int) (f:CF) (n:Int),(f n).isSome=true→(Bm f ab n).isSome=true
 |[],f,n,h=>h
 |k::ab,f,n,h=>xZ ab _ n (by unfold CF.upd;split;rfl;exact h)
theorem qY{sg:Sg}{ca:Addr}{v0:CV}{Q:Fl→bp→Sg→Prop}:∀(ss:List aS) (C:Tb) (f:CF) (x y:Option CV),C9 C f→(∀s∈ss,s.ab.length≤20∧∀k∈s.ab,(f k).isSome=true)→C.length≤100→
  (∀C x y,C9 C (D0 f ss)→C.length≤100→Q .next [some v0,some (.ref ca),x,y] ((ca,.nd C)::sg))→
  dJ mM 2 (ss.map aS.cv) [some v0,some (.ref ca),x,y] ((ca,.nd C)::sg) Q
 |[],C,f,x,y,hc,hs,hz,h=>h C x y hc hz
 |s::ss,C,f,x,y,hc,hs,hz,h=>by
  have ih:=fun C' y' hc' hz'=>qY (sg:=sg) (ca:=ca) (v0:=v0) (Q:=Q) ss C' (if s.pg=true then Bm f s.ab else f) (some s.cv) y' hc' (fun s' h'=>⟨(hs s' (.tail _ h')).1,fun k hk=>by
   have:=(hs s' (.tail _ h')).2 k hk;split
   ·exact xZ _ _ _ this
   ·exact this⟩) hz' h
  rw[List.map_cons];refine⟨_,⟨rfl,rfl⟩,s.pg,rfl,fun hp=> ?_,fun hp=>ih C y (by rw[hp];exact hc) hz⟩
  refine⟨_,⟨rfl,rfl⟩,trivial,?_⟩;exact qZ s.ab C f y hc (hs s (.head _)).2 hz fun C' y' hc' hz'=>ih C' y' (by rw[if_pos hp];exact hc') hz'
theorem xO:∀(ss:List aS) (f:CF) (n:Int),((f n).isSome=true∨n∈ss.map (·.n))→(Cf f ss n).isSome=true
 |[],f,n,h=>by have:=h;simp at this;exact this
 |s::ss,f,n,h=>by
  refine xO ss _ n ?_;rcases h with h|h
  ·exact .inl (by unfold CF.upd;split;rfl;exact h)
  ·rcases List.mem_cons.mp (by simpa using h:n∈s.n::ss.map (·.n))with rfl|h
   ·exact .inl (by unfold CF.upd;rw[if_pos rfl];rfl)
   ·exact .inr h
theorem da(kf:KF W.K):ax W 1 (.ref 536) eh:=by
 refine zk kf fun sg Q cs (h:jN sg Q cs)=> ?_
 ·refine jN.casesOn h @fun O ss z2 hz hab hq=>⟨rfl,?_⟩;subst z2;intro a;refine⟨trivial,qX ss [] (fun O=>none) none none (fun n=>rfl) (by simpa using by exact Nat.le_trans (by assumption) (by decide)) fun C x hc hz1=> ?_⟩
  refine⟨trivial,qY ss C _ x none hc (fun s hs=>⟨(hab s hs).1,fun k hk=>xO ss _ k (.inr ((hab s hs).2 k hk))⟩) hz1 fun C' x' y' hc' hz'=> ?_⟩;exact⟨a,_,_,rfl,.head,rfl,rs (hq C' hc')⟩
theorem fk(kf:KF W.K):ax W 2 (.ref 543) gO:=by
 refine zm kf (az kf) fun sg Q cs (h:jP sg Q cs)=> ?_
 ·refine jP.casesOn h @fun O n l ab m pg p z7 hp hz hq=>⟨rfl,?_⟩;subst z7;refine⟨_,⟨rfl,rfl⟩,.inl ⟨l,rfl⟩,?_⟩;refine⟨l,rfl,_,⟨rfl,rfl⟩,ay (by simp),?_⟩
  rw[show Str.ofString "Parent"=aJ from rfl,hp]
  rcases List.eq_nil_or_concat ab with rfl|⟨ini,q,rfl⟩
  ·cases p with
   |none=>exact⟨true,rfl,.y (rs hq)⟩
   |some p=>exact⟨true,rfl,.y (rs hq)⟩
  ·refine⟨false,by(show _=_;simp[]),.n ?_⟩
   have hl:(ini++[q]).getLast? =some q:=by simp
   unfold qn at hq;rw[List.concat_eq_append]at hz ⊢;rw[List.concat_eq_append,hl]at hq;cases p with
   |none=>exact⟨_,false,rfl,rfl,false,rfl,.n (rs hq)⟩
   |some p=>
    refine⟨_,true,rfl,rfl,true,rfl,.y ⟨⟨rfl,rfl⟩,p,rfl,_,⟨rfl,rfl⟩,aG q,.inr (.inr ⟨_,ini.length,rfl,ay (by simp at hz ⊢;exact Nat.le_trans (by assumption) (by decide)),?_,?_⟩),⟨rfl,rfl⟩,q,rfl,?_⟩⟩
    ·simp[xX];lia
    ·simp
    ·exact⟨rfl,rfl,by rw[wi];exact rs hq⟩
theorem tH(kf:KF W.K){sg:Sg}{fa:Addr}{sh v1:CV}{C:Tb}{T:Tb}{R:Hd}{d:dZ}(hs:d6 sg sh T R)(hC:C9 C (ki d.spots)){Q:Fl→bp→Sg→Prop}:∀(ss:List aS) (x y:Option CV),(∀s∈ss,s.ab.length≤20∧(∃p,BB s.l p∧qn p s.ab=true)∧(s.pg=false→∃i,s.l.lookup bb=some (.int i)∧ki d.spots s.n=some i)∧(s.pg=true→(s.m.lookup (Str.ofString "MediaBox")).isSome=true))→
  (∀x y,Q .next [some sh,some v1,some (.nd C),some (.ref fa),x,y] ((fa,.lst [])::sg))→
  dJ kQ 4 (ss.map aS.cv) [some sh,some v1,some (.nd C),some (.ref fa),x,y] ((fa,.lst [])::sg) Q
 |[],x,y,hss,h=>h x y
 |s::ss,x,y,hss,h=>by
  refine dp fun C_ k_=> ?_;have ih:=fun x' y'=>tH kf (fa:=fa) (v1:=v1) hs hC (Q:=Q) ss x' y' (fun s' h'=>hss s' (.tail _ h')) h;obtain⟨h1,⟨p,hp,hb⟩,h3,h4⟩:=hss s (.head _);have hs':=hs.cons (fa,.lst []);refine k_ ?_;rw[List.map_cons];refine⟨_,⟨rfl,rfl⟩,_,⟨rfl,rfl⟩,_,_,_,_,_,p,rfl,hp,h1,?_⟩;rw[hb];refine⟨true,rfl,.n ⟨_,⟨rfl,rfl⟩,s.pg,rfl,?_⟩⟩;cases hpg:s.pg with
  |true=>
   refine⟨fun h=>(by exact ff h),fun O=>⟨fun h=>(by exact ff h),fun O=>⟨_,⟨rfl,rfl⟩,true,by rw[hpg];rfl,.y ⟨_,⟨rfl,rfl⟩,?_⟩⟩⟩⟩
   refine⟨_,.inl ⟨_,rfl,rfl⟩,false,by rw[h4 hpg];rfl,.n ⟨fun h=>(by exact ff h),fun O=>ih _ _⟩⟩
  |false=>
   refine el12 (h3 hpg) fun i e1 e2=> ?_;refine⟨fun O=>⟨hs'.inst _ fun O=>rfl,_,⟨rfl,rfl⟩,T,R,s.l,.int i,hs',rfl,.inl ⟨?_,?_⟩,?_⟩,fun h=>(by exact tf h)⟩
   ·rw[show Str.ofString "Count"=bb from rfl,e1];exact trivial
   ·rw[show Str.ofString "Count"=bb from rfl,e1];rfl
   refine⟨.int i,.inl ⟨C,rfl,by rw[hC s.n,e2];rfl⟩,?_⟩
   refine⟨false,by(show _=_;simp[]),.n ⟨fun h=>(by exact ff h),fun O=>⟨_,⟨rfl,rfl⟩,false,by rw[hpg];rfl,.n ⟨fun h=>(by exact ff h),fun O=>ih _ _⟩⟩⟩⟩
theorem jk(kf:KF W.K):ax W 7 (.ref 550) jt:=by
 refine vN (N:=6) kf (cD kf) ((da kf).upb rfl) ((fk kf).upb rfl) ((aH kf).upb rfl) fun sg Q cs (h:hW sg Q cs)=> ?_
 ·refine hW.casesOn h @fun sh T R d hs hd hok hq=>⟨rfl,?_⟩;have hz:=hd.sz;rw[←b7]at hz;refine⟨T,R,d,hs,hd,d.spots,rfl,hz,fun s hs'=>⟨(hok s hs').1,(hok s hs').2.1⟩,fun C hC=>⟨sm rfl,fun fa=> ?_⟩⟩;refine⟨trivial,tH kf hs hC d.spots none none (fun s hs'=> ?_) fun x y=> ?_⟩
  ·refine Km (hok s hs') fun a1 a2 a3 a4 a5 a6=> ?_;exact⟨a1,a3,a4,a6⟩
  ·try dsimp only[List.map_cons,List.map_nil,List.cons_append,List.nil_append,List.set_cons_zero,List.set_cons_succ]
   exact⟨fa,_,_,rfl,.head,rfl,rs hq⟩
end
noncomputable def Gu:CV→Option Int
 | .obj _ [(_,.int p),_]=>some p
 |_=>none
noncomputable def mj(l:Hd):Option Int:=(l.lookup aJ).bind Gu
noncomputable def uB(l:Hd):Int:=match l.lookup bb with
 |some (.int i)=>i
 |_=>0
noncomputable def o6(ab:List Int):CV:=match ab.getLast? with
 |none=> .none
 |some q=>aG q
noncomputable def uA(cf:CF)(s:aS):Hd:=(if qn (mj s.l) s.ab=true then[]else[(aJ,o6 s.ab)])++(if s.pg=true then[]else if cf s.n=some (uB s.l)then[]else[(bb,.int ((cf s.n).getD 0))])
noncomputable def xv(cf:CF)(s:aS):Hd:=cA s.l (uA cf s)
noncomputable def ie(cf:CF):List aS→Tb→Tb
 |[],T=>T
 |s::ss,T=>ie cf ss (if uA cf s=[]then T else bk s.n (cP (.sd (xv cf s))) T)
structure sk(cf:CF)(nums:List Int)(T:Tb)(s:aS):Prop where
 ab:s.ab.length≤20
 abn:∀k∈s.ab,k∈nums
 par:BB s.l (mj s.l)
 cnt:s.pg=false→s.l.lookup bb=some (.int (uB s.l))
 cf:s.pg=false→(cf s.n).isSome=true
 len:s.l.length≤100
 there:(T.lookup s.n).isSome=true
inductive qP(sg:Sg)(Q:CV→Sg→Prop):List CV→Prop
 |mk {a:Addr} (pre post t T R d):ud sg a T R pre post t→iu T R d→T.length≤900→(∀s∈d.spots,sk (ki d.spots) (d.spots.map (·.n)) T s)→Q .none (pre++(t,.nd (ie (ki d.spots) d.spots T))::post)→qP sg Q [.ref a]
def ly:ao:=fun cs sg Q=>qP sg Q cs
section
noncomputable def yo:List Str:=[Str.ofString "shelf"]
noncomputable def yf:List Str:=[Str.ofString "found",Str.ofString "counts",Str.ofString "spot",Str.ofString "changes"]
noncomputable def Eh:List Str:=[Str.ofString "spots",Str.ofString "counts_of",Str.ofString "is_parent",Str.ofString "lay",Str.ofString "turned"]
def tw:PS:=(i9 4 (aj (ew (aX (bh lZ (ak 4) (fv (fW (.sd []))))) (aj (cB (aA jr (ah (ak 0) (ah (fld 452 (Str.ofString "reference") (ak 3)) (ah (aA dY (ah (fld 452 (Str.ofString "head") (ak 3)) (ah (ak 4) aq))) aq)))))
 am) am)
 am))
def m5:PS:=(aj (ew (qw (lz (aX (fld 452 (Str.ofString "is_page") (ak 3)))) (qw (aX (bh lZ (bA 404 (Str.ofString "get") aQ (ak 0) (ah (fld 452 (Str.ofString "head") (ak 3)) (ah (aK (.str (Str.ofString "Count"))) aq))) (bh aR (ak 2) (fld 273 (Str.ofString "number") (fld 452 (Str.ofString "reference") (ak 3)))))) d9)) (aj (dC (ak 4) (aK (.str (Str.ofString "Count"))) (bh aR (ak 2) (fld 273 (Str.ofString "number") (fld 452 (Str.ofString "reference") (ak 3)))))
 am) am)
 tw)
def AK:PS:=(aj (ew (lz (aX (aA gO (ah (ak 3) aq)))) (aj (dC (ak 4) (aK (.str (Str.ofString "Parent"))) (xY (aX (bh eG (fld 452 (Str.ofString "above") (ak 3)) (dK aq))) (aK .none) (bh aR (fld 452 (Str.ofString "above") (ak 3)) (un wC (aK (.int 1))))))
 am) am)
 m5)
def ig:PS:=(aj (cS 4 (fW (.sd [])))
 AK)
def AL:PS:=(aj (forS 3 (ak 1) ig)
 am)
def AM:PS:=(aj (cS 2 (aA eh (ah (ak 1) aq)))
 AL)
def EX:PS:=(aj (cS 1 (aA dX (ah (ak 0) aq)))
 AM)
theorem Ee{W:Wd}(kf:KF W.K){N:Nat}(cD:ax W N (.ref 498) dX)(da:ax W N (.ref 536) eh)(fk:ax W N (.ref 543) gO)(aH:ax W N (.ref 347) aQ)(gH:ax W N (.ref 564) jr)(cX:ax W N (.ref 463) dY){sp:ao}(hsp:gh yo yf (EX) sp):ax W (N+1) (.ref 557) sp:=by
 refine aO (ps:=yo) (more:=yf) (globs:=Eh) (kf.f 31 rfl) rfl (by decide+kernel) (dI fun O O O O O O O O O O=> .of_eq rfl) (fun X hn hg hsc hnn hm=> ?_) hsp
 refine ag (ar 1 hn hm rfl (bl rfl) rfl (au 0 hg rfl (kf.n 23 rfl) (kf.b 40 rfl) cD (bn hnn) rfl rfl (ae rfl (ad 0 hn rfl) af))) ?_;refine ag (ar 2 hn hm rfl (bl rfl) rfl (au 1 hg rfl (kf.n 28 rfl) (kf.b 46 rfl) da (bn hnn) rfl rfl (ae rfl (ad 1 hn rfl) af))) ?_;refine ag (fY 3 hn hg hsc hnn hm rfl (bl rfl) (fun O=>rfl) (ad 1 hn rfl) (fun X hA hE hn hg hsc hnn hm=>(by {refine ag (ar 4 hn hm rfl (bl rfl) rfl (cU rfl)) ?_;refine ag (be (c9 (bj rfl (au 2 hg rfl (kf.n 29 rfl) (kf.b 47 rfl) fk (bn hnn) rfl rfl (ae rfl (ad 3 hn rfl) af)))) (by {refine ag (bI rfl (ad 4 hn rfl) aI (fZ (aE rfl bt (aB (kf.b 45 rfl) rfl (ad 3 hn rfl)) (bB af)) bE (aU (fun O O=>rfl) aD (aB (kf.b 45 rfl) rfl (ad 3 hn rfl)) (vY nb av)))) ?_;exact ai}) ai) ?_;refine ag (be (eJ (c9 (bj rfl (aB (kf.b 35 rfl) rfl (ad 3 hn rfl)))) (eJ (aE rfl dl (bi (kf.b 19 rfl) aH (bn hnn) rfl rfl rfl (ad 0 hn rfl) (ae rfl (aB (kf.b 38 rfl) rfl (ad 3 hn rfl)) (ae rfl aI af))) (aU (fun O O=>rfl) aD (ad 2 hn rfl) (aB (kf.b 3 rfl) rfl (aB (kf.b 36 rfl) rfl (ad 3 hn rfl))))) jd)) (by {refine ag (bI rfl (ad 4 hn rfl) aI (aU (fun O O=>rfl) aD (ad 2 hn rfl) (aB (kf.b 3 rfl) rfl (aB (kf.b 36 rfl) rfl (ad 3 hn rfl))))) ?_;exact ai}) ai) ?_;refine cV 4 ?_;refine ag (be (aE rfl dl (ad 4 hn rfl) (aT (cU rfl))) (by {refine ag (bq (aC X) rfl (au 3 hg rfl (kf.n 31 rfl) (kf.b 49 rfl) gH (bn hnn) rfl rfl (ae rfl (ad 0 hn rfl) (ae rfl (aB (kf.b 36 rfl) rfl (ad 3 hn rfl)) (ae rfl (au 4 hg rfl (kf.n 30 rfl) (kf.b 48 rfl) cX (bn hnn) rfl rfl (ae rfl (aB (kf.b 38 rfl) rfl (ad 3 hn rfl)) (ae rfl (ad 4 hn rfl) af))) af))))) ?_;exact ai}) ai) ?_;exact ai}))) ?_
 exact ai
end
section
variable {W:Wd}
theorem te{pre post:Sg}{t a ca:Addr}{v1:CV}{C T:Tb}{R:Hd}{s:aS}{ch:Hd}(hs:ud (pre++(t,.nd T)::post) a T R pre post t)(hz:T.length≤900)(hl:s.l.length≤100)(hn:(ch.map (·.1)).Nodup)(hch:ch.length≤10){Q:Fl→bp→Sg→Prop}
  (h:Q .next [some (.ref a),some v1,some (.nd C),some s.cv,some (.sd ch)] (pre++(t,.nd (if ch=[]then T else bk s.n (cP (.sd (cA s.l ch))) T))::post)):
  tw [some (.ref a),some v1,some (.nd C),some s.cv,some (.ref ca)] ((ca,.sd ch)::(pre++(t,.nd T)::post)) Q:=by
 refine⟨ca,_,_,rfl,.head,rfl,fun b=>⟨_,_,.head,rfl,?_⟩⟩;show Dh (kM _ (.bool (!ch.isEmpty))) _ _;refine⟨!ch.isEmpty,rfl,fun hb=>⟨_,⟨rfl,rfl⟩,_,⟨rfl,rfl⟩,hn,by exact Nat.le_trans (Nat.add_le_add (by assumption) (by assumption)) (by decide),s.n,pre,post,t,T,R,rfl,hs,hz,?_⟩,fun hb=> ?_⟩
 ·rw[if_neg (by intro e;rw[e]at hb;exact ff hb)]at h
  exact h
 ·rw[if_pos (by cases ch with
   |nil=>rfl
   |cons _ _=>exact tf hb)]at h
  exact h
theorem yz{pre post:Sg}{t a ca:Addr}{v1:CV}{C T:Tb}{R:Hd}{s:aS}{cf:CF}{nums:List Int}(hC:C9 C cf){ch:Hd}(hs:ud (pre++(t,.nd T)::post) a T R pre post t)(hz:T.length≤900)(ok:sk cf nums T s)(hch:ch=[]∨ch=[(aJ,o6 s.ab)]){Q:Fl→bp→Sg→Prop}
  (h:∀ch',ch'=ch++(if s.pg=true then[]else if cf s.n=some (uB s.l)then[]else[(bb,.int ((cf s.n).getD 0))])→Q .next [some (.ref a),some v1,some (.nd C),some s.cv,some (.sd ch')] (pre++(t,.nd (if ch'=[]then T else bk s.n (cP (.sd (cA s.l ch'))) T))::post)):
  m5 [some (.ref a),some v1,some (.nd C),some s.cv,some (.ref ca)] ((ca,.sd ch)::(pre++(t,.nd T)::post)) Q:=by
 have hat:=hs.at.cons (ca,.sd ch);have nd:∀l:Hd,(l=[]∨∃c,l=[(bb,c)])→((ch++l).map (·.1)).Nodup∧(ch++l).length≤10:=by
  intro l hl;rcases hch with rfl|rfl<;>rcases hl with rfl|⟨c,rfl⟩<;>refine⟨?_,by simp⟩<;>simp[bF]
 refine⟨_,⟨rfl,rfl⟩,s.pg,rfl,?_⟩;cases hp:s.pg with
 |true=>
  rw[hp]at h;have hn:=nd [] (.inl rfl);refine⟨fun h=>(by exact ff h),fun O=>⟨fun h=>(by exact ff h),fun O=>te hs hz ok.len (by simpa using hn.1) (by simpa using hn.2) (h _ (by simp))⟩⟩
 |false=>
  rw[hp]at h;have hc:=ok.cnt hp;obtain⟨i,hi⟩:=Option.isSome_iff_exists.mp (ok.cf hp);refine⟨fun O=>⟨hat.inst _ fun O=>rfl,_,⟨rfl,rfl⟩,T,R,s.l,.int (uB s.l),hat,rfl,.inl ⟨?_,?_⟩,_,⟨rfl,rfl⟩,_,⟨rfl,rfl⟩,?_⟩,fun h=>(by exact tf h)⟩
  ·rw[show Str.ofString "Count"=bb from rfl,hc];exact trivial
  ·rw[show Str.ofString "Count"=bb from rfl,hc];rfl
  refine⟨.int i,.inl ⟨C,rfl,by rw[hC s.n,hi];rfl⟩,?_⟩
  show Dh (kM _ (.bool (uB s.l !=i))) _ _;refine⟨uB s.l !=i,rfl,fun hb=>⟨fun O=>⟨_,⟨rfl,rfl⟩,_,⟨rfl,rfl⟩,.int i,.inl ⟨C,rfl,by rw[hC s.n,hi];rfl⟩,⟨ch,_,.head,?_,?_⟩⟩,fun h=>(by exact tf h)⟩,fun hb=>⟨fun h=>(by exact ff h),fun O=> ?_⟩⟩
  ·rcases hch with rfl|rfl<;>simp
  ·have hn:=nd [(bb,.int i)] (.inr ⟨_,rfl⟩);have e:bk (Str.ofString "Count") (CV.int i) ch=ch++[(bb,.int i)]:=by
    rcases hch with rfl|rfl
    ·rfl
    ·exact eQ (rfl)
   rw[e];refine te hs hz ok.len hn.1 hn.2 (h _ ?_);rw[hi];simp only[Option.some.injEq,Option.getD_some,Bool.false_eq_true,if_false];rw[if_neg (by intro e;rw[e]at hb;simp at hb)]
  ·have hn:=nd [] (.inl rfl);refine te hs hz ok.len (by simpa using hn.1) (by simpa using hn.2) (h _ ?_)
   rw[hi];simp only[Option.some.injEq,Bool.false_eq_true,if_false];have hb':uB s.l=i:=by simpa using hb
   rw[if_pos hb'.symm];simp
theorem nW(kf:KF W.K){pre post:Sg}{t a:Addr}{v1:CV}{C:Tb}{R:Hd}{cf:CF}{nums:List Int}(hC:C9 C cf){Q:Fl→bp→Sg→Prop}:∀(ss:List aS) (T:Tb) (x y:Option CV),ud (pre++(t,.nd T)::post) a T R pre post t→T.length≤900→(∀s∈ss,sk cf nums T s)→
  (∀x y,Q .next [some (.ref a),some v1,some (.nd C),x,y] (pre++(t,.nd (ie cf ss T))::post))→
  dJ ig 3 (ss.map aS.cv) [some (.ref a),some v1,some (.nd C),x,y] (pre++(t,.nd T)::post) Q
 |[],T,x,y,hs,hz,hss,h=>h x y
 |s::ss,T,x,y,hs,hz,hss,h=>by
  have ok:=hss s (.head _);have hlen:∀v,(bk s.n v T).length≤900:=fun v=>by rw[er _ _ _ ok.there];exact hz
  have hstep:∀v,∀s'∈ss,sk cf nums (bk s.n v T) s':=fun v s' h'=>
   let o:=hss s' (.tail _ h')
   {o with there:=by rw[aN];split;rfl;exact o.there}
  have nxt:∀ch',ch'=uA cf s→dJ ig 3 (ss.map aS.cv) [some (.ref a),some v1,some (.nd C),some s.cv,some (.sd ch')] (pre++(t,.nd (if ch'=[]then T else bk s.n (cP (.sd (cA s.l ch'))) T))::post) Q:=by
   intro ch' e;subst e;by_cases e:uA cf s=[]
   ·rw[if_pos e];exact nW kf hC ss T _ _ hs hz (fun s' h'=>hss s' (.tail _ h')) fun x y=>by
     have:=h x y;unfold ie at this;rw[if_pos e]at this;exact this
   ·rw[if_neg e];exact nW kf hC ss _ _ _ (hs.put _) (hlen _) (hstep _) fun x y=>by
     have:=h x y;unfold ie at this;rw[if_neg e]at this;exact this
  rw[List.map_cons];intro ca;refine⟨s.n,s.l,s.ab,s.m,s.pg,mj s.l,rfl,ok.par,ok.ab,?_⟩;cases hb:qn (mj s.l) s.ab with
  |true=>
   refine⟨true,rfl,.n (yz hC hs hz ok (.inl rfl) fun ch' e=>nxt ch' ?_)⟩;rw[e];unfold uA;rw[hb];rfl
  |false=>
   refine⟨false,rfl,.y ⟨_,⟨rfl,rfl⟩,ay (by simp),?_⟩⟩
   have fin:∀c,c=o6 s.ab→m5 [some (.ref a),some v1,some (.nd C),some s.cv,some (.ref ca)] ((ca,.sd [(aJ,c)])::(pre++(t,.nd T)::post)) (fun f rho1 sg1=>match f with
     | .next=>dJ ig 3 (ss.map aS.cv) rho1 sg1 Q
     | .cont=>dJ ig 3 (ss.map aS.cv) rho1 sg1 Q
     | .brk=>Q .next rho1 sg1
     | .ret c=>Q (.ret c) rho1 sg1):=by
    intro c e;subst e;refine yz hC hs hz ok (.inr rfl) fun ch' e=>nxt ch' ?_;rw[e];unfold uA;rw[hb];rfl
   show Dh (kM _ (.bool (s.ab.map aG).isEmpty)) _ _;rcases List.eq_nil_or_concat s.ab with hab|⟨ini,q,hab⟩
   ·rw[hab];exact⟨true,rfl,.y ⟨[],_,.head,by simp,fin .none (by rw[hab];rfl)⟩⟩
   ·rw[List.concat_eq_append]at hab;have hl:=ok.ab;rw[hab]at hl;refine⟨false,by rw[hab];(show _=_;simp[]),.n ⟨_,⟨rfl,rfl⟩,?_⟩⟩
    refine⟨aG q,.inr (.inr ⟨_,ini.length,rfl,?_,?_,?_⟩),[],_,.head,by simp,fin (aG q) (by rw[hab];simp[o6])⟩
    ·rw[hab];exact ay (by simp at hl ⊢;exact Nat.le_trans (by assumption) (by decide))
    ·rw[hab];simp[xX];lia
    ·rw[hab];simp
theorem iQ(kf:KF W.K):ax W 7 (.ref 557) ly:=by
 refine Ee (N:=6) kf (cD kf) ((da kf).upb rfl) ((fk kf).upb rfl) ((aH kf).upb rfl) ((gH kf).upb rfl) ((cX kf).upb rfl) fun sg Q cs (h:qP sg Q cs)=> ?_
 ·refine qP.casesOn h @fun O pre post t T R d hs hd hz hok hq=>⟨rfl,?_⟩;have hz':=hd.sz;rw[←b7]at hz';refine⟨T,R,d,hs.at,hd,d.spots,rfl,hz',fun s hs'=>⟨(hok s hs').ab,(hok s hs').abn⟩,fun C hC=> ?_⟩;refine⟨trivial,?_⟩;obtain⟨rfl,h2⟩:=hs;refine nW kf hC d.spots T none none ⟨rfl,h2⟩ hz hok fun x y=> ?_;exact rs hq
end
def K2(T:Tb)(k:Int):Prop:=∃v,T.lookup k=some (cP v)∧NR v
inductive jQ(sg:Sg)(Q:CV→Sg→Prop):List CV→Prop
 |mk {sh:CV} {c:CV} {e:CV} (T R n l ab m pg) (ks:List Int) (j:Nat) (k):d6 sg sh T R→c=f8 n l ab m pg→e=aG k→l.lookup dn=some (.lst (ks.map aG))→(∀x∈ks,K2 T x)→ks.length≤100→ks[j]? =some k→(∀m<j,ks[m]?≠some k)→Q (.int j) sg→jQ sg Q [sh,c,e]
def l4:ao:=fun cs sg Q=>jQ sg Q cs
structure II(T:Tb)(d:dZ)(at_:Int)(node:aS)(pos:Int)(b:aS)(ks:List Int)(j:Nat):Prop where
 hb:d.pages[(if(d.pages.length:Int)-1<at_ then(d.pages.length:Int)-1 else at_).toNat]? =some b
 hq:b.ab.getLast? =some node.n
 hab:b.ab.length≤20
 hf:(d.spots.filter fun s=>s.n==node.n).head? =some node
 hks:node.l.lookup dn=some (.lst (ks.map aG))
 hres:∀x∈ks,K2 T x
 hlen:ks.length≤100
 hj:ks[j]? =some b.n
 hno:∀m<j,ks[m]?≠some b.n
 hpos:pos=j+(if at_=d.pages.length then 1 else 0)
def qE(T:Tb)(d:dZ)(at_:Int)(node:aS)(pos:Int):Prop:=0≤at_∧at_≤d.pages.length∧((d.pages=[]∧node=⟨2,d.l,[],d.rm,false⟩∧pos=d.its.length)∨(d.pages≠[]∧∃b ks j,II T d at_ node pos b ks j))
inductive lM(sg:Sg)(Q:CV→Sg→Prop):List CV→Prop
 |mk {sh:CV} {a:Int} (T R d node pos):d6 sg sh T R→iu T R d→qE T d a node pos→Q (.tup [node.cv,.int pos]) sg→lM sg Q [sh,.int a]
def ir:ao:=fun cs sg Q=>lM sg Q cs
section
noncomputable def rS:List Str:=[Str.ofString "shelf",Str.ofString "node",Str.ofString "reference"]
noncomputable def rD:List Str:=[]
noncomputable def zA:List Str:=[Str.ofString "kids_of"]
def AD:PS:=(aj (bQ (cq wf Aa (d7 lY cu [0] (aA cz (ah (ak 0) (ah (fld 452 (Str.ofString "head") (ak 1)) aq))) d9 (bA 273 (Str.ofString "pair") aF (aA dj (ah (ak 1) (ah (ak 0) aq))) aq)) (ah (bA 273 (Str.ofString "pair") aF (ak 2) aq) aq)))
 am)
theorem zn{W:Wd}(kf:KF W.K){N:Nat}(bR:ax W N (.ref 484) cz)(az:ax W N (.ref 270) aF)(b8:ax W N (.ref 470) dj){sp:ao}(hsp:gh rS rD (AD) sp):ax W (N+1) (.ref 574) sp:=by
 refine aO (ps:=rS) (more:=rD) (globs:=zA) (kf.f 34 rfl) rfl (by decide+kernel) (gY fun O O O O O O O O O O O O=> .of_eq rfl) (fun X hn hg hsc hnn hm=> ?_) hsp
 refine ag (aL (br DZ Cl rfl rfl rfl (c8 (tgs:=[Str.ofString "kid"]) (frs:=[Str.ofString "shelf"]) (gs:=[Str.ofString "home_of"]) (fi:=[0]) (by decide+kernel) hsc hn cW bL cY (fun O=>rfl) (au 0 hg rfl (kf.n 22 rfl) (kf.b 39 rfl) bR (bn hnn) rfl rfl (ae rfl (ad 0 hn rfl) (ae rfl (aB (kf.b 38 rfl) rfl (ad 1 hn rfl)) af))) (fun Xc hn hg hnc=>have hnn:=hnc.trans hnn;fS) (fun Xc hn hg hnc=>have hnn:=hnc.trans hnn;(bV (kf.b 12 rfl) az (bn hnn) rfl (au 0 hg rfl (kf.n 18 rfl) (kf.b 30 rfl) b8 (bn hnn) rfl rfl (ae rfl (ad 1 hn rfl) (ae rfl (ad 0 hn rfl) af)))))) (ae rfl (bV (kf.b 12 rfl) az (bn hnn) rfl (ad 2 hn rfl)) af))) ?_
 exact ai
noncomputable def tW:List Str:=[Str.ofString "shelf",Str.ofString "at"]
noncomputable def tR:List Str:=[Str.ofString "found",Str.ofString "leaves",Str.ofString "beside",Str.ofString "node"]
noncomputable def Bi:List Str:=[Str.ofString "spots",Str.ofString "len",Str.ofString "TreeFault",Str.ofString "kids_of",Str.ofString "min",Str.ofString "kid_index"]
def w3:PS:=(aj (bQ (dK (ah (ak 5) (ah (bh dD (aA l4 (ah (ak 0) (ah (ak 5) (ah (fld 452 (Str.ofString "reference") (ak 4)) aq)))) (xY (aX (bh eG (ak 1) (aA fK (ah (ak 3) aq)))) (aK (.int 1)) (aK (.int 0)))) aq))))
 am)
def w4:PS:=(aj (cS 5 (bh aR (d7 lY cu [4] (ak 2) (aX (bh eG (bA 273 (Str.ofString "pair") aF (fld 452 (Str.ofString "reference") (ak 0)) aq) (bA 273 (Str.ofString "pair") aF (bh aR (fld 452 (Str.ofString "above") (ak 1)) (un wC (aK (.int 1)))) aq))) (ak 0)) (aK (.int 0))))
 w3)
def w5:PS:=(aj (cS 4 (bh aR (ak 3) (aA DL (ah (ak 1) (ah (bh IC (aA fK (ah (ak 3) aq)) (aK (.int 1))) aq)))))
 w4)
def w6:PS:=(aj (ew (aX (bh eG (ak 3) (fv (cT aq)))) (aj (bQ (dK (ah (bh aR (ak 2) (aK (.int 0))) (ah (aA fK (ah (aA cz (ah (ak 0) (ah (fld 452 (Str.ofString "head") (bh aR (ak 2) (aK (.int 0)))) aq))) aq)) aq))))
 am) am)
 w5)
def w7:PS:=(aj (ew (lz (qx CZ CZ (aK (.int 0)) (ak 1) (aA fK (ah (ak 3) aq)))) (aj m8
 am) am)
 w6)
def w8:PS:=(aj (cS 3 (d7 lY cu [] (ak 2) (aX (fld 452 (Str.ofString "is_page") (ak 0))) (ak 0)))
 w7)
def B4:PS:=(aj (cS 2 (aA dX (ah (ak 0) aq)))
 w8)
theorem Bd{W:Wd}(kf:KF W.K){N:Nat}(cD:ax W N (.ref 498) dX)(bR:ax W N (.ref 484) cz)(az:ax W N (.ref 270) aF)(lV:ax W N (.ref 574) l4){sp:ao}(hsp:gh tW tR (B4) sp):ax W (N+1) (.ref 569) sp:=by
 refine aO (ps:=tW) (more:=tR) (globs:=Bi) (kf.f 33 rfl) rfl (by decide+kernel) (cF fun O O O O O O O O O O O=> .of_eq rfl) (fun X hn hg hsc hnn hm=> ?_) hsp
 refine ag (ar 2 hn hm rfl (bl rfl) rfl (au 0 hg rfl (kf.n 23 rfl) (kf.b 40 rfl) cD (bn hnn) rfl rfl (ae rfl (ad 0 hn rfl) af))) ?_;refine ag (gZ 3 (yB hsc (by decide+kernel)) hm rfl (bl rfl) (tgs:=[Str.ofString "spot"]) (frs:=[]) (gs:=[]) (fi:=[]) (by decide+kernel) hsc hn cW bL cY (fun O=>rfl) (ad 2 hn rfl) (fun Xc hn hg hnc=>have hnn:=hnc.trans hnn;(h8 (bj rfl (aB (kf.b 35 rfl) rfl (ad 0 hn rfl))))) (fun Xc hn hg hnc=>have hnn:=hnc.trans hnn;(ad 0 hn rfl))) ?_
 refine ag (be (c9 (kY rfl ol ol av (ad 1 hn rfl) (bd 1 hg rfl (kf.n 32 rfl) rfl (by decide) (.inl ⟨_,rfl⟩) cg rfl rfl (ae rfl (ad 3 hn rfl) af)))) (by {refine ag fR ?_;exact ai}) ai) ?_
 refine ag (be (aE rfl bt (ad 3 hn rfl) (aT (bD af))) (by {refine ag (aL (bB (ae rfl (aU (fun O O=>rfl) aD (ad 2 hn rfl) av) (ae rfl (bd 1 hg rfl (kf.n 32 rfl) rfl (by decide) (.inl ⟨_,rfl⟩) cg rfl rfl (ae rfl (au 3 hg rfl (kf.n 22 rfl) (kf.b 39 rfl) bR (bn hnn) rfl rfl (ae rfl (ad 0 hn rfl) (ae rfl (aB (kf.b 38 rfl) rfl (aU (fun O O=>rfl) aD (ad 2 hn rfl) av)) af))) af)) af)))) ?_;exact ai}) ai) ?_
 refine ag (ar 4 hn hm rfl (bl rfl) rfl (aU (fun O O=>rfl) aD (ad 3 hn rfl) (bd 4 hg rfl (kf.n 33 rfl) rfl (by decide) (.inl ⟨_,rfl⟩) vD rfl rfl (ae rfl (ad 1 hn rfl) (ae rfl (bH Ft (bd 1 hg rfl (kf.n 32 rfl) rfl (by decide) (.inl ⟨_,rfl⟩) cg rfl rfl (ae rfl (ad 3 hn rfl) af)) av) af))))) ?_
 refine ag (ar 5 hn hm rfl (bl rfl) rfl (aU (fun O O=>rfl) aD (c8 (tgs:=[Str.ofString "spot"]) (frs:=[Str.ofString "beside"]) (gs:=[]) (fi:=[4]) (by decide+kernel) hsc hn cW bL cY (fun O=>rfl) (ad 2 hn rfl) (fun Xc hn hg hnc=>have hnn:=hnc.trans hnn;(h8 (aE rfl bt (bV (kf.b 12 rfl) az (bn hnn) rfl (aB (kf.b 36 rfl) rfl (ad 0 hn rfl))) (bV (kf.b 12 rfl) az (bn hnn) rfl (aU (fun O O=>rfl) aD (aB (kf.b 45 rfl) rfl (ad 1 hn rfl)) (vY nb av)))))) (fun Xc hn hg hnc=>have hnn:=hnc.trans hnn;(ad 0 hn rfl))) av)) ?_
 refine ag (aL (bB (ae rfl (ad 5 hn rfl) (ae rfl (bH bG (au 5 hg rfl (kf.n 34 rfl) (kf.b 51 rfl) lV (bn hnn) rfl rfl (ae rfl (ad 0 hn rfl) (ae rfl (ad 5 hn rfl) (ae rfl (aB (kf.b 36 rfl) rfl (ad 4 hn rfl)) af)))) (fZ (aE rfl bt (ad 1 hn rfl) (bd 1 hg rfl (kf.n 32 rfl) rfl (by decide) (.inl ⟨_,rfl⟩) cg rfl rfl (ae rfl (ad 3 hn rfl) af))) av av)) af)))) ?_
 exact ai
end
section
variable {W:Wd}
theorem lV(kf:KF W.K):ax W 5 (.ref 574) l4:=by
 refine zn (N:=4) kf (bR kf) ((az kf).upb rfl) ((b8 kf).upb rfl) fun sg Q cs (h:jQ sg Q cs)=> ?_
 ·refine jQ.casesOn h @fun sh c e T R n l ab m pg ks j k hs z14 z15 hk hr hz hj hno hq=>⟨rfl,?_⟩;subst z14;subst z15;refine⟨_,⟨rfl,rfl⟩,T,R,_,hs,hk,trivial,ay (by(show(List.map _ _).length≤_;rw[List.length_map]);exact Nat.le_trans (by assumption) (by decide)),h7 (f:=aG) (g:=fun k=> .tup [.int k,.int 0]) ks (fun x hx K hK=> ?_) ⟨⟨_,rfl⟩,⟨rfl,rfl⟩,k,rfl,?_⟩⟩
  ·refine el12 (hr x hx) fun v h1 h2=> ?_;exact⟨T,R,x,v,hs,rfl,h1,h2,⟨rfl,rfl⟩,x,rfl,hK⟩
  ·unfold Aa;refine⟨(k,0),ks.map fun k=>(k,0),j,rfl,by rw[List.map_map,List.map_map];rfl,by simp[hj],fun i hi e=> ?_,ay (by simp;exact Nat.le_trans (by assumption) (by decide)),rs hq⟩
   have:=hno i hi;simp only[List.getElem?_map]at e;cases q:ks[i]? with
   |none=>rw[q]at e;exact ns e
   |some x=>rw[q]at e;simp at e;rw[q,e]at this;exact this rfl
theorem gd(kf:KF W.K):ax W 7 (.ref 569) ir:=by
 refine Bd (N:=6) kf (cD kf) ((bR kf).upb rfl) ((az kf).upb rfl) ((lV kf).upb rfl) fun sg Q cs (h:lM sg Q cs)=> ?_
 ·refine lM.casesOn h @fun sh a T R d node pos hs hd z9 hq=>⟨rfl,?_⟩;obtain⟨h0,h1,hp⟩:=z9;have hz:=hd.sz;rw[←b7]at hz;have hpz:d.pages.length≤60:=Nat.le_trans (List.length_filter_le _ _) hz;refine⟨T,R,d,hs,hd,trivial,ay (by(show(List.map _ _).length≤_;rw[List.length_map]);exact Nat.le_trans (by assumption) (by decide)),cZ (g:=aS.cv) (p:=(·.pg)) d.spots [] (fun s O K hk=>⟨_,⟨rfl,rfl⟩,s.pg,rfl,hk⟩) (fun s O O K hk=>hk) ?_⟩
  have e1:decide (0≤a)=true:=decide_eq_true h0;have e2:decide (a≤(d.pages.length:Int))=true:=decide_eq_true h1;refine⟨true,by exact(decide_eq_true h0).symm,.y ⟨_,rfl,ay (by simp[dZ.pages]at hpz ⊢;exact Nat.le_trans (by assumption) (by decide)),true,?_,.n ?_⟩⟩
  ·simp only[List.nil_append,List.length_map];show true=_;rw[show(d.spots.filter fun s:aS=>s.pg).length=d.pages.length from rfl,e2]
  try dsimp only[List.map_cons,List.map_nil,List.cons_append,List.nil_append,List.set_cons_zero,List.set_cons_succ]
  refine⟨sm rfl,fun b=>⟨_,_,.head,rfl,?_⟩⟩;refine⟨by simp[dZ.pages]at hpz ⊢;exact Nat.le_trans (by assumption) (by decide),?_⟩
  rcases hp with⟨he,rfl,rfl⟩|⟨hne,b,ks,j,B⟩
  ·have hem:((d.spots.filter fun s:aS=>s.pg).map aS.cv).isEmpty=true:=by rw[show d.spots.filter (fun s:aS=>s.pg)=d.pages from rfl,he];rfl
   rw[hem];refine⟨true,rfl,.y ?_⟩;refine⟨_,.inr (.inl ⟨_,rfl,by decide,ay (by simp;exact Nat.le_trans (by assumption) (by decide)),rfl⟩),_,.inr (.inl ⟨_,rfl,by decide,ay (by simp;exact Nat.le_trans (by assumption) (by decide)),rfl⟩),_,⟨rfl,rfl⟩,T,R,_,hs,hd.ks,?_⟩
   have hil:d.its.length≤60:=by
    have h1:=rX (d.its.map fun i=>((i,[],[]):pJ));rw[oo]at h1;have:=hd.sz;simp only[dZ.nums,List.length_cons,List.length_map]at this h1;lia
   refine⟨_,rfl,ay (by simp;exact Nat.le_trans (by assumption) (by decide)),sm rfl,rs ?_⟩
   have:((List.map (fun i=>aG (pI.num i)) d.its).length:Int)=d.its.length:=by simp
   rw[this];exact hq
  ·have hem:((d.spots.filter fun s:aS=>s.pg).map aS.cv).isEmpty=false:=by
    rw[show d.spots.filter (fun s:aS=>s.pg)=d.pages from rfl]
    cases e:d.pages with
    |nil=>exact absurd e hne
    |cons _ _=>rfl
   rw[hem];refine⟨false,rfl,.n ?_⟩;refine⟨_,rfl,ay (by simp[dZ.pages]at hpz ⊢;exact Nat.le_trans (by assumption) (by decide)),b.cv,.inr (.inl ⟨_,rfl,?_,ay (by simp[dZ.pages]at hpz ⊢;exact Nat.le_trans (by assumption) (by decide)),?_⟩),?_⟩
   ·simp only[List.length_map];have:0<d.pages.length:=List.length_pos_iff.mpr hne;show 0≤(if(d.pages.length:Int)-1<a then(d.pages.length:Int)-1 else a)
    split<;>lia
   ·simp only[List.length_map,List.getElem?_map];show(d.pages[(if(d.pages.length:Int)-1<a then(d.pages.length:Int)-1 else a).toNat]?).map aS.cv=_
    rw[B.hb];rfl
   obtain⟨ini,hini⟩:∃ini,b.ab=ini++[node.n]:=by
    rcases List.eq_nil_or_concat b.ab with e|⟨ini,q,e⟩
    ·have:=B.hq;rw[e]at this;cases this
    ·rw[List.concat_eq_append]at e;have:=B.hq;rw[e]at this;simp at this;subst this;exact⟨ini,e⟩
   have hfl:=B.hf;refine⟨trivial,ay (by(show(List.map _ _).length≤_;rw[List.length_map]);exact Nat.le_trans (by assumption) (by decide)),cZ (g:=aS.cv) (p:=fun s=>s.n==node.n) d.spots [] (fun s O K hk=> ?_) (fun s O O K hk=>hk) ?_⟩
   ·refine⟨_,⟨rfl,rfl⟩,⟨rfl,rfl⟩,s.n,rfl,_,⟨rfl,rfl⟩,?_⟩;have hab:=B.hab;rw[hini]at hab;simp only[wC,aR];refine⟨aG node.n,.inr (.inr ⟨_,ini.length,rfl,?_,?_,?_⟩),⟨rfl,rfl⟩,node.n,rfl,?_⟩
    ·rw[hini];exact ay (by simp at hab ⊢;exact Nat.le_trans (by assumption) (by decide))
    ·rw[hini];simp[xX];lia
    ·rw[hini];simp
    ·show SeqAt.shaped _=true∧SeqAt.shaped _=true∧_;refine⟨rfl,rfl,?_⟩;rw[wi];exact⟨_,rfl,hk⟩
   simp only[aR];refine⟨node.cv,.inr (.inl ⟨_,rfl,by decide,?_,?_⟩),?_⟩
   ·exact ay (by simp;exact Nat.le_trans (List.length_filter_le _ _) (by exact Nat.le_trans (by assumption) (by decide)))
   ·simp only[List.nil_append,List.getElem?_map];cases e:d.spots.filter (fun s=>s.n==node.n)with
    |nil=>rw[e]at hfl;cases hfl
    |cons x r=>rw[e]at hfl;cases hfl;rfl
   refine⟨_,⟨rfl,rfl⟩,T,R,node.n,node.l,node.ab,node.m,node.pg,ks,j,b.n,hs,rfl,rfl,B.hks,B.hres,B.hlen,B.hj,B.hno,?_⟩;refine⟨_,rfl,ay (by simp[dZ.pages]at hpz ⊢;exact Nat.le_trans (by assumption) (by decide)),?_⟩
   show Dh (kM _ (.bool _)) _ _;have hpos:=B.hpos;have hlen:((List.map aS.cv (List.filter (fun x:aS=>x.pg) d.spots)).length:Int)=d.pages.length:=by simp[dZ.pages]
   refine⟨_,rfl,fun hb=> ?_,fun hb=> ?_⟩
   ·have:a=d.pages.length:=by simpa [dZ.pages] using hb
    rw[if_pos this]at hpos;rw[hpos]at hq;exact⟨sm rfl,rs hq⟩
   ·have:¬a=d.pages.length:=by simpa [dZ.pages] using hb
    rw[if_neg this]at hpos;rw[hpos]at hq;exact⟨sm rfl,rs hq⟩
end
def qH(T:Tb)(d:dZ):Prop:=T.length≤900∧∀s∈d.spots,sk (ki d.spots) (d.spots.map (·.n)) T s
noncomputable def GA(T:Tb)(d:dZ):Tb:=ie (ki d.spots) d.spots T
noncomputable def bW(n:Int)(l:Hd)(T:Tb):Tb:=bk n (cP (.sd l)) T
structure gW(T:Tb)(q:Int)(l:Hd)(ks:List Int):Prop where
 hat:T.lookup q=some (cP (.sd l))
 hks:l.lookup dn=some (.lst (ks.map aG))
 res:∀k∈ks,K2 T k
 len:l.length≤100
 klen:ks.length≤100
noncomputable def aM(l:Hd)(ks:List Int):Hd:=cA l [(dn,.lst (ks.map aG))]
structure IQ(T:Tb)(R:Hd)(d:dZ)(at_:Int)(k:Int)(T':Tb):Prop where
 doc:iu T R d
 len:T.length≤900
 put:∃node pos ks d1,qE T d at_ node pos∧0≤pos∧gW T node.n node.l ks∧iu (bW node.n (aM node.l (ks.take pos.toNat++[k]++ks.drop pos.toNat)) T) R d1∧qH (bW node.n (aM node.l (ks.take pos.toNat++[k]++ks.drop pos.toNat)) T) d1∧T'=GA (bW node.n (aM node.l (ks.take pos.toNat++[k]++ks.drop pos.toNat)) T) d1
inductive iy(sg:Sg)(Q:CV→Sg→Prop):List CV→Prop
 |mk {a:Addr} {at_:Int} {c:CV} (pre post t T R d k T'):c=aG k→ud sg a T R pre post t→IQ T R d at_ k T'→Q .none (pre++(t,.nd T')::post)→iy sg Q [.ref a,.int at_,c]
def g_:ao:=fun cs sg Q=>iy sg Q cs
class inductive wY(cf:CF):Tb→Int→List Int→Tb→Prop
 |nil {T:Tb} {g:Int}:wY cf T g [] T
 |stop {T:Tb} {g q:Int} {r:List Int} {l:Hd} {ks:List Int} {c:Int}:gW T q l ks→cf q=some c→1<c→wY cf T g (q::r) (bW q (aM l (ks.filter fun k=>k !=g)) T)
 |go {T T':Tb} {g q:Int} {r:List Int} {l:Hd} {ks:List Int} {c:Int}:gW T q l ks→cf q=some c→¬1<c→wY cf (bW q (aM l (ks.filter fun k=>k !=g)) T) q r T'→wY cf T g (q::r) T'
noncomputable def dS(s:aS):Hd:=cA (ko s.l s.m bM s.l) [(aJ,.none)]
structure G9(T:Tb)(R:Hd)(d:dZ)(at_:Int)(s:aS)(T':Tb):Prop where
 doc:iu T R d
 len:T.length≤900
 h0:0≤at_
 page:d.pages[at_.toNat]? =some s
 ab:∀s∈d.spots,s.ab.length≤20∧∀k∈s.ab,k∈d.spots.map (·.n)
 slen:s.l.length≤90
 there:(T.lookup s.n).isSome=true
 rem:∃T1 d2,wY (ki d.spots) T s.n s.ab.reverse T1∧DQ T1 s.l∧iu (bW s.n (dS s) T1) R d2∧qH (bW s.n (dS s) T1) d2∧T'=GA (bW s.n (dS s) T1) d2
inductive ke(sg:Sg)(Q:CV→Sg→Prop):List CV→Prop
 |mk {a:Addr} {at_:Int} (pre post t T R d s T'):ud sg a T R pre post t→G9 T R d at_ s T'→Q (aG s.n) (pre++(t,.nd T')::post)→ke sg Q [.ref a,.int at_]
def eV:ao:=fun cs sg Q=>ke sg Q cs
class inductive qF(key:Str)(c:CV):Tb→List Int→Tb→Prop
 |nil {T:Tb}:qF key c T [] T
 |has {T T':Tb} {k:Int} {ks:List Int} {l:Hd} {v r:CV}:T.lookup k=some (cP (.sd l))→l.lookup key=some v→km T v r→isNone r=false→qF key c T ks T'→qF key c T (k::ks) T'
 |gets {T T':Tb} {k:Int} {ks:List Int} {l:Hd}:T.lookup k=some (cP (.sd l))→l.lookup key=none→l.length≤100→qF key c (bW k (cA l [(key,c)]) T) ks T'→qF key c T (k::ks) T'
inductive uX(key:Str):Tb→Int→Tb→Prop
 |no {T:Tb} {q:Int} {l:Hd}:T.lookup q=some (cP (.sd l))→l.lookup key=none→uX key T q T
 |yes {T T':Tb} {q:Int} {l:Hd} {ks:List Int} {c r:CV}:gW T q l ks→l.lookup key=some c→km T c r→isNone r=false→qF key c T ks T'→(T'.lookup q).isSome=true→uX key T q (bW q (cA l [(key,.none)]) T')
inductive jS(sg:Sg)(Q:CV→Sg→Prop):List CV→Prop
 |mk {a:Addr} {c:CV} {key:Str} (pre post t T R q T'):c=aG q→ud sg a T R pre post t→T.length≤900→uX key T q T'→Q .none (pre++(t,.nd T')::post)→jS sg Q [.ref a,c,.str key]
def l6:ao:=fun cs sg Q=>jS sg Q cs
class inductive lF(key:Str):Tb→List Int→Tb→Prop
 |nil {T:Tb}:lF key T [] T
 |cons {T T1 T':Tb} {q:Int} {qs:List Int}:uX key T q T1→lF key T1 qs T'→lF key T (q::qs) T'
class inductive ii(k:Int)(qs:List Int):Tb→List Str→Tb→Prop
 |nil {T:Tb}:ii k qs T [] T
 |has {T T':Tb} {key:Str} {keys:List Str} {l:Hd} {v r:CV}:T.lookup k=some (cP (.sd l))→l.lookup key=some v→km T v r→isNone r=false→ii k qs T keys T'→ii k qs T (key::keys) T'
 |push {T T1 T':Tb} {key:Str} {keys:List Str} {l:Hd}:T.lookup k=some (cP (.sd l))→l.lookup key=none→lF key T qs T1→ii k qs T1 keys T'→ii k qs T (key::keys) T'
structure EW(T:Tb)(R:Hd)(d:dZ)(at_ to:Int)(T':Tb):Prop where
 doc:iu T R d
 h1:0≤at_
 h2:at_<d.pages.length
 h3:0≤to
 h4:to<d.pages.length
 mv:∃s T1 d1 node pos T2 d2,G9 T R d at_ s T1∧iu T1 R d1∧qE T1 d1 to node pos∧node.ab.length≤20∧T1.length≤900∧ii s.n (node.ab++[node.n]) T1 bM T2∧IQ T2 R d2 to s.n T'
inductive jR(sg:Sg)(Q:CV→Sg→Prop):List CV→Prop
 |mk {a:Addr} {at_:Int} {to:Int} (pre post t T R d T'):ud sg a T R pre post t→EW T R d at_ to T'→Q .none (pre++(t,.nd T')::post)→jR sg Q [.ref a,.int at_,.int to]
def l5:ao:=fun cs sg Q=>jR sg Q cs
section
noncomputable def lv:List Str:=[Str.ofString "shelf",Str.ofString "at",Str.ofString "reference"]
noncomputable def lh:List Str:=[Str.ofString "node",Str.ofString "spot",Str.ofString "kids"]
noncomputable def sU:List Str:=[Str.ofString "place_of",Str.ofString "kids_of",Str.ofString "lay",Str.ofString "turned",Str.ofString "settle"]
def pX:PS:=(aj (cB (aA ly (ah (ak 0) aq)))
 am)
def pY:PS:=(aj (cB (aA jr (ah (ak 0) (ah (fld 452 (Str.ofString "reference") (ak 3)) (ah (aA dY (ah (fld 452 (Str.ofString "head") (ak 3)) (ah (fv (ij (cn (aK (.str (Str.ofString "Kids"))) (bh dD (bh dD (kI (ak 5) (aK .none) (ak 4)) (fv (cT (ah (ak 2) aq)))) (kI (ak 5) (ak 4) (aK .none))) ik))) aq))) aq)))))
 pX)
def pZ:PS:=(aj (cS 5 (aA cz (ah (ak 0) (ah (fld 452 (Str.ofString "head") (ak 3)) aq))))
 pY)
def ua:PS:=(aj (gP [3,4] (aA ir (ah (ak 0) (ah (ak 1) aq))))
 pZ)
theorem sN{W:Wd}(kf:KF W.K){N:Nat}(gd:ax W N (.ref 569) ir)(bR:ax W N (.ref 484) cz)(gH:ax W N (.ref 564) jr)(cX:ax W N (.ref 463) dY)(iQ:ax W N (.ref 557) ly){sp:ao}(hsp:gh lv lh (ua) sp):ax W (N+1) (.ref 581) sp:=by
 refine aO (ps:=lv) (more:=lh) (globs:=sU) (kf.f 35 rfl) rfl (by decide+kernel) (gY fun O O O O O O O O O O O O=> .of_eq rfl) (fun X hn hg hsc hnn hm=> ?_) hsp
 refine ag (dL hn hm (.cons 3 rfl (by decide) rfl (.cons 4 rfl (by decide) rfl .nil)) rfl rfl (au 0 hg rfl (kf.n 35 rfl) (kf.b 52 rfl) gd (bn hnn) rfl rfl (ae rfl (ad 0 hn rfl) (ae rfl (ad 1 hn rfl) af)))) ?_
 refine ag (ar 5 hn hm rfl (bl rfl) rfl (au 1 hg rfl (kf.n 22 rfl) (kf.b 39 rfl) bR (bn hnn) rfl rfl (ae rfl (ad 0 hn rfl) (ae rfl (aB (kf.b 38 rfl) rfl (ad 3 hn rfl)) af)))) ?_;refine ag (bq (aC X) rfl (au 2 hg rfl (kf.n 31 rfl) (kf.b 49 rfl) gH (bn hnn) rfl rfl (ae rfl (ad 0 hn rfl) (ae rfl (aB (kf.b 36 rfl) rfl (ad 3 hn rfl)) (ae rfl (au 3 hg rfl (kf.n 30 rfl) (kf.b 48 rfl) cX (bn hnn) rfl rfl (ae rfl (aB (kf.b 38 rfl) rfl (ad 3 hn rfl)) (ae rfl (aT (jc rfl rfl (cC aI (bH bG (bH bG (gD (ad 5 hn rfl) fd (iM (ad 4 hn rfl))) (aT (bD (ae rfl (ad 2 hn rfl) af)))) (gD (ad 5 hn rfl) (iM (ad 4 hn rfl)) fd)) ee))) af))) af))))) ?_;refine ag (bq (aC X) rfl (au 4 hg rfl (kf.n 36 rfl) (kf.b 53 rfl) iQ (bn hnn) rfl rfl (ae rfl (ad 0 hn rfl) af))) ?_;exact ai
noncomputable def nT:List Str:=[Str.ofString "shelf",Str.ofString "at"]
noncomputable def nD:List Str:=[Str.ofString "found",Str.ofString "leaves",Str.ofString "spot",Str.ofString "counts",Str.ofString "gone",Str.ofString "node",Str.ofString "head",Str.ofString "kids"]
noncomputable def vU:List Str:=[Str.ofString "spots",Str.ofString "len",Str.ofString "TreeFault",Str.ofString "counts_of",Str.ofString "reversed",Str.ofString "kids_of",Str.ofString "lay",Str.ofString "turned",Str.ofString "fields_of",Str.ofString "settle"]
def su:PS:=(aj (cS 6 (ak 7))
 am)
def sv:PS:=(aj (ew (aX (bh BP (bh aR (ak 5) (fld 273 (Str.ofString "number") (ak 7))) (aK (.int 1)))) (aj IV
 am) am)
 su)
def sw:PS:=(aj (cB (aA jr (ah (ak 0) (ah (ak 7) (ah (aA dY (ah (ak 8) (ah (fv (ij (cn (aK (.str (Str.ofString "Kids"))) (ak 9) ik))) aq))) aq)))))
 sv)
def sx:PS:=(aj (cS 9 (d7 lY cu [0,6] (aA cz (ah (ak 0) (ah (ak 8) aq))) (aX (bh lZ (bA 273 (Str.ofString "pair") aF (aA dj (ah (ak 1) (ah (ak 0) aq))) aq) (bA 273 (Str.ofString "pair") aF (ak 2) aq))) (ak 0)))
 sw)
def gV:PS:=(aj (cS 8 (bA 404 (Str.ofString "fetch") bg (ak 0) (ah (ak 7) aq)))
 sx)
def sy:PS:=(aj (bQ (fld 452 (Str.ofString "reference") (ak 4)))
 am)
def sA:PS:=(aj (cB (aA ly (ah (ak 0) aq)))
 sy)
def sB:PS:=(aj (cB (aA jr (ah (ak 0) (ah (fld 452 (Str.ofString "reference") (ak 4)) (ah (aA dY (ah (aA gN (ah (ak 0) (ah (ak 4) aq))) (ah (fv (ij (cn (aK (.str (Str.ofString "Parent"))) (aK .none) ik))) aq))) aq)))))
 sA)
def sC:PS:=(aj (Iu 7 (fld 452 (Str.ofString "above") (ak 4)) gV)
 sB)
def sD:PS:=(aj (cS 6 (fld 452 (Str.ofString "reference") (ak 4)))
 sC)
def qI:PS:=(aj (cS 5 (aA eh (ah (ak 2) aq)))
 sD)
def qJ:PS:=(aj (cS 4 (bh aR (ak 3) (ak 1)))
 qI)
def qK:PS:=(aj (ew (lz (qx CZ Ab (aK (.int 0)) (ak 1) (aA fK (ah (ak 3) aq)))) (aj m8
 am) am)
 qJ)
def qL:PS:=(aj (cS 3 (d7 lY cu [] (ak 2) (aX (fld 452 (Str.ofString "is_page") (ak 0))) (ak 0)))
 qK)
def wV:PS:=(aj (cS 2 (aA dX (ah (ak 0) aq)))
 qL)
theorem vO{W:Wd}(kf:KF W.K){N:Nat}(cD:ax W N (.ref 498) dX)(da:ax W N (.ref 536) eh)(aP:ax W N (.ref 340) bg)(bR:ax W N (.ref 484) cz)(az:ax W N (.ref 270) aF)(b8:ax W N (.ref 470) dj)(gH:ax W N (.ref 564) jr)(cX:ax W N (.ref 463) dY)(fj:ax W N (.ref 505) gN)(iQ:ax W N (.ref 557) ly){sp:ao}(hsp:gh nT nD (wV) sp):ax W (N+1) (.ref 586) sp:=by
 refine aO (ps:=nT) (more:=nD) (globs:=vU) (kf.f 36 rfl) rfl (by decide+kernel) (cF fun O O O O O O O O O O O=> .of_eq rfl) (fun X hn hg hsc hnn hm=> ?_) hsp
 refine ag (ar 2 hn hm rfl (bl rfl) rfl (au 0 hg rfl (kf.n 23 rfl) (kf.b 40 rfl) cD (bn hnn) rfl rfl (ae rfl (ad 0 hn rfl) af))) ?_;refine ag (gZ 3 (yB hsc (by decide+kernel)) hm rfl (bl rfl) (tgs:=[Str.ofString "spot"]) (frs:=[]) (gs:=[]) (fi:=[]) (by decide+kernel) hsc hn cW bL cY (fun O=>rfl) (ad 2 hn rfl) (fun Xc hn hg hnc=>have hnn:=hnc.trans hnn;(h8 (bj rfl (aB (kf.b 35 rfl) rfl (ad 0 hn rfl))))) (fun Xc hn hg hnc=>have hnn:=hnc.trans hnn;(ad 0 hn rfl))) ?_
 refine ag (be (c9 (kY rfl ol jU av (ad 1 hn rfl) (bd 1 hg rfl (kf.n 32 rfl) rfl (by decide) (.inl ⟨_,rfl⟩) cg rfl rfl (ae rfl (ad 3 hn rfl) af)))) (by {refine ag fR ?_;exact ai}) ai) ?_
 refine ag (ar 4 hn hm rfl (bl rfl) rfl (aU (fun O O=>rfl) aD (ad 3 hn rfl) (ad 1 hn rfl))) ?_;refine ag (ar 5 hn hm rfl (bl rfl) rfl (au 3 hg rfl (kf.n 28 rfl) (kf.b 46 rfl) da (bn hnn) rfl rfl (ae rfl (ad 2 hn rfl) af))) ?_;refine ag (ar 6 hn hm rfl (bl rfl) rfl (aB (kf.b 36 rfl) rfl (ad 4 hn rfl))) ?_;refine ag (FR 7 4 hn hg hsc hnn hm rfl (bl rfl) rfl (kf.n 14 rfl) rfl rfl rfl (fun O=>rfl) (aB (kf.b 45 rfl) rfl (ad 4 hn rfl)) (fun X hA hE hn hg hsc hnn hm=>(by {refine ag (ar 8 hn hm rfl (bl rfl) rfl (bi (kf.b 18 rfl) aP (bn hnn) rfl rfl rfl (ad 0 hn rfl) (ae rfl (ad 7 hn rfl) af))) ?_;refine ag (gZ 9 (yB hsc (by decide+kernel)) hm rfl (bl rfl) (tgs:=[Str.ofString "kid"]) (frs:=[Str.ofString "shelf",Str.ofString "gone"]) (gs:=[Str.ofString "home_of"]) (fi:=[0,6]) (by decide+kernel) hsc hn cW bL cY (fun O=>rfl) (au 5 hg rfl (kf.n 22 rfl) (kf.b 39 rfl) bR (bn hnn) rfl rfl (ae rfl (ad 0 hn rfl) (ae rfl (ad 8 hn rfl) af))) (fun Xc hn hg hnc=>have hnn:=hnc.trans hnn;(h8 (aE rfl dl (bV (kf.b 12 rfl) az (bn hnn) rfl (au 0 hg rfl (kf.n 18 rfl) (kf.b 30 rfl) b8 (bn hnn) rfl rfl (ae rfl (ad 1 hn rfl) (ae rfl (ad 0 hn rfl) af)))) (bV (kf.b 12 rfl) az (bn hnn) rfl (ad 2 hn rfl))))) (fun Xc hn hg hnc=>have hnn:=hnc.trans hnn;(ad 0 hn rfl))) ?_;refine ag (bq (aC X) rfl (au 6 hg rfl (kf.n 31 rfl) (kf.b 49 rfl) gH (bn hnn) rfl rfl (ae rfl (ad 0 hn rfl) (ae rfl (ad 7 hn rfl) (ae rfl (au 7 hg rfl (kf.n 30 rfl) (kf.b 48 rfl) cX (bn hnn) rfl rfl (ae rfl (ad 8 hn rfl) (ae rfl (aT (jc rfl rfl (cC aI (ad 9 hn rfl) ee))) af))) af))))) ?_;refine ag (be (aE rfl q5 (aU (fun O O=>rfl) aD (ad 5 hn rfl) (aB (kf.b 3 rfl) rfl (ad 7 hn rfl))) av) (by {refine ag Bj ?_;exact ai}) ai) ?_;refine ag (ar 6 hn hm rfl (bl rfl) rfl (ad 7 hn rfl)) ?_;exact ai}))) ?_
 refine ag (bq (aC X) rfl (au 6 hg rfl (kf.n 31 rfl) (kf.b 49 rfl) gH (bn hnn) rfl rfl (ae rfl (ad 0 hn rfl) (ae rfl (aB (kf.b 36 rfl) rfl (ad 4 hn rfl)) (ae rfl (au 7 hg rfl (kf.n 30 rfl) (kf.b 48 rfl) cX (bn hnn) rfl rfl (ae rfl (au 8 hg rfl (kf.n 25 rfl) (kf.b 42 rfl) fj (bn hnn) rfl rfl (ae rfl (ad 0 hn rfl) (ae rfl (ad 4 hn rfl) af))) (ae rfl (aT (jc rfl rfl (cC aI bE ee))) af))) af))))) ?_;refine ag (bq (aC X) rfl (au 9 hg rfl (kf.n 36 rfl) (kf.b 53 rfl) iQ (bn hnn) rfl rfl (ae rfl (ad 0 hn rfl) af))) ?_;refine ag (aL (aB (kf.b 36 rfl) rfl (ad 4 hn rfl))) ?_;exact ai
noncomputable def rU:List Str:=[Str.ofString "shelf",Str.ofString "reference",Str.ofString "key"]
noncomputable def rF:List Str:=[Str.ofString "head",Str.ofString "worth",Str.ofString "kid",Str.ofString "home"]
noncomputable def zC:List Str:=[Str.ofString "kids_of",Str.ofString "home_of",Str.ofString "lay",Str.ofString "turned"]
def vq:PS:=(aj (ew (aX (bh rZ (bA 404 (Str.ofString "get") aQ (ak 0) (ah (bA 404 (Str.ofString "fetch") bg (ak 0) (ah (ak 6) aq)) (ah (ak 2) aq))) (aK .none))) (aj (cB (aA jr (ah (ak 0) (ah (ak 6) (ah (aA dY (ah (bA 404 (Str.ofString "fetch") bg (ak 0) (ah (ak 6) aq)) (ah (fv (ij (cn (ak 2) (ak 4) ik))) aq))) aq)))))
 am) am)
 am)
def mQ:PS:=(aj (cS 6 (aA dj (ah (ak 0) (ah (ak 5) aq))))
 vq)
def vr:PS:=(aj (cB (aA jr (ah (ak 0) (ah (ak 1) (ah (aA dY (ah (ak 3) (ah (fv (ij (cn (ak 2) (aK .none) ik))) aq))) aq)))))
 am)
def vt:PS:=(aj (forS 5 (aA cz (ah (ak 0) (ah (ak 3) aq))) mQ)
 vr)
def vu:PS:=(aj (ew (aX (bh rZ (bA 404 (Str.ofString "fetch") bg (ak 0) (ah (ak 4) aq)) (aK .none))) (aj Kz
 am) am)
 vt)
def vw:PS:=(aj (cS 4 (cq Ew pG (ak 3) (ah (ak 2) aq)))
 vu)
def AF:PS:=(aj (cS 3 (bA 404 (Str.ofString "fetch") bg (ak 0) (ah (ak 1) aq)))
 vw)
theorem zp{W:Wd}(kf:KF W.K){N:Nat}(aP:ax W N (.ref 340) bg)(b8:ax W N (.ref 470) dj)(aH:ax W N (.ref 347) aQ)(gH:ax W N (.ref 564) jr)(cX:ax W N (.ref 463) dY)(bR:ax W N (.ref 484) cz){sp:ao}(hsp:gh rU rF (AF) sp):ax W (N+1) (.ref 593) sp:=by
 refine aO (ps:=rU) (more:=rF) (globs:=zC) (kf.f 37 rfl) rfl (by decide+kernel) (gY fun O O O O O O O O O O O O=> .of_eq rfl) (fun X hn hg hsc hnn hm=> ?_) hsp
 refine ag (ar 3 hn hm rfl (bl rfl) rfl (bi (kf.b 18 rfl) aP (bn hnn) rfl rfl rfl (ad 0 hn rfl) (ae rfl (ad 1 hn rfl) af))) ?_;refine ag (ar 4 hn hm rfl (bl rfl) rfl (br iL gB rfl rfl rfl (ad 3 hn rfl) (ae rfl (ad 2 hn rfl) af))) ?_;refine ag (be (aE rfl e_ (bi (kf.b 18 rfl) aP (bn hnn) rfl rfl rfl (ad 0 hn rfl) (ae rfl (ad 4 hn rfl) af)) bE) (by {refine ag Hv ?_;exact ai}) ai) ?_
 refine ag (fY 5 hn hg hsc hnn hm rfl (bl rfl) (fun O=>rfl) (au 0 hg rfl (kf.n 22 rfl) (kf.b 39 rfl) bR (bn hnn) rfl rfl (ae rfl (ad 0 hn rfl) (ae rfl (ad 3 hn rfl) af))) (fun X hA hE hn hg hsc hnn hm=>(by {refine ag (ar 6 hn hm rfl (bl rfl) rfl (au 1 hg rfl (kf.n 18 rfl) (kf.b 30 rfl) b8 (bn hnn) rfl rfl (ae rfl (ad 0 hn rfl) (ae rfl (ad 5 hn rfl) af)))) ?_;refine ag (be (aE rfl e_ (bi (kf.b 19 rfl) aH (bn hnn) rfl rfl rfl (ad 0 hn rfl) (ae rfl (bi (kf.b 18 rfl) aP (bn hnn) rfl rfl rfl (ad 0 hn rfl) (ae rfl (ad 6 hn rfl) af)) (ae rfl (ad 2 hn rfl) af))) bE) (by {refine ag (bq (aC X) rfl (au 2 hg rfl (kf.n 31 rfl) (kf.b 49 rfl) gH (bn hnn) rfl rfl (ae rfl (ad 0 hn rfl) (ae rfl (ad 6 hn rfl) (ae rfl (au 3 hg rfl (kf.n 30 rfl) (kf.b 48 rfl) cX (bn hnn) rfl rfl (ae rfl (bi (kf.b 18 rfl) aP (bn hnn) rfl rfl rfl (ad 0 hn rfl) (ae rfl (ad 6 hn rfl) af)) (ae rfl (aT (jc rfl rfl (cC (ad 2 hn rfl) (ad 4 hn rfl) ee))) af))) af))))) ?_;exact ai}) ai) ?_;exact ai}))) ?_
 refine ag (bq (aC X) rfl (au 2 hg rfl (kf.n 31 rfl) (kf.b 49 rfl) gH (bn hnn) rfl rfl (ae rfl (ad 0 hn rfl) (ae rfl (ad 1 hn rfl) (ae rfl (au 3 hg rfl (kf.n 30 rfl) (kf.b 48 rfl) cX (bn hnn) rfl rfl (ae rfl (ad 3 hn rfl) (ae rfl (aT (jc rfl rfl (cC (ad 2 hn rfl) bE ee))) af))) af))))) ?_;exact ai
noncomputable def rT:List Str:=[Str.ofString "shelf",Str.ofString "at",Str.ofString "to"]
noncomputable def rE:List Str:=[Str.ofString "reference",Str.ofString "node",Str.ofString "key",Str.ofString "above"]
noncomputable def zB:List Str:=[Str.ofString "len",Str.ofString "page_spots",Str.ofString "TreeFault",Str.ofString "remove_page",Str.ofString "place_of",Str.ofString "INHERITED",Str.ofString "push_down",Str.ofString "put_reference"]
def iW:PS:=(aj (cB (aA l6 (ah (ak 0) (ah (ak 6) (ah (ak 5) aq)))))
 am)
def mP:PS:=(aj (ew (aX (bh rZ (bA 404 (Str.ofString "get") aQ (ak 0) (ah (bA 404 (Str.ofString "fetch") bg (ak 0) (ah (ak 3) aq)) (ah (ak 5) aq))) (aK .none))) (aj (forS 6 (bh dD (fld 452 (Str.ofString "above") (ak 4)) (dK (ah (fld 452 (Str.ofString "reference") (ak 4)) aq))) iW)
 am) am)
 am)
def vm:PS:=(aj (cB (aA g_ (ah (ak 0) (ah (ak 2) (ah (ak 3) aq)))))
 am)
def vn:PS:=(aj (forS 5 (aK (.tup Hw)) mP)
 vm)
def vo:PS:=(aj (cS 4 (bh aR (aA ir (ah (ak 0) (ah (ak 2) aq))) (aK (.int 0))))
 vn)
def vp:PS:=(aj (cS 3 (aA eV (ah (ak 0) (ah (ak 1) aq))))
 vo)
def AE:PS:=(aj (ew (yD (lz (qx CZ Ab (aK (.int 0)) (ak 1) (aA fK (ah (aA eC (ah (ak 0) aq)) aq)))) (yD (lz (qx CZ Ab (aK (.int 0)) (ak 2) (aA fK (ah (aA eC (ah (ak 0) aq)) aq)))) Ah)) (aj m8
 am) am)
 vp)
theorem zo{W:Wd}(kf:KF W.K){N:Nat}(dN:ax W N (.ref 510) eC)(dT:ax W N (.ref 586) eV)(gd:ax W N (.ref 569) ir)(aH:ax W N (.ref 347) aQ)(aP:ax W N (.ref 340) bg)(lX:ax W N (.ref 593) l6)(g7:ax W N (.ref 581) g_){sp:ao}(hsp:gh rT rE (AE) sp):ax W (N+1) (.ref 600) sp:=by
 refine aO (ps:=rT) (more:=rE) (globs:=zB) (kf.f 38 rfl) rfl (by decide+kernel) (gY fun O O O O O O O O O O O O=> .of_eq rfl) (fun X hn hg hsc hnn hm=> ?_) hsp
 refine ag (be (eg (c9 (kY rfl ol jU av (ad 1 hn rfl) (bd 0 hg rfl (kf.n 32 rfl) rfl (by decide) (.inl ⟨_,rfl⟩) cg rfl rfl (ae rfl (au 1 hg rfl (kf.n 24 rfl) (kf.b 41 rfl) dN (bn hnn) rfl rfl (ae rfl (ad 0 hn rfl) af)) af)))) (eg (c9 (kY rfl ol jU av (ad 2 hn rfl) (bd 0 hg rfl (kf.n 32 rfl) rfl (by decide) (.inl ⟨_,rfl⟩) cg rfl rfl (ae rfl (au 1 hg rfl (kf.n 24 rfl) (kf.b 41 rfl) dN (bn hnn) rfl rfl (ae rfl (ad 0 hn rfl) af)) af)))) jW)) (by {refine ag fR ?_;exact ai}) ai) ?_
 refine ag (ar 3 hn hm rfl (bl rfl) rfl (au 3 hg rfl (kf.n 37 rfl) (kf.b 54 rfl) dT (bn hnn) rfl rfl (ae rfl (ad 0 hn rfl) (ae rfl (ad 1 hn rfl) af)))) ?_;refine ag (ar 4 hn hm rfl (bl rfl) rfl (aU (fun O O=>rfl) aD (au 4 hg rfl (kf.n 35 rfl) (kf.b 52 rfl) gd (bn hnn) rfl rfl (ae rfl (ad 0 hn rfl) (ae rfl (ad 2 hn rfl) af))) av)) ?_;refine ag (fY 5 hn hg hsc hnn hm rfl (bl rfl) (fun O=>rfl) (CA kf 5 hg rfl) (fun X hA hE hn hg hsc hnn hm=>(by {refine ag (be (aE rfl e_ (bi (kf.b 19 rfl) aH (bn hnn) rfl rfl rfl (ad 0 hn rfl) (ae rfl (bi (kf.b 18 rfl) aP (bn hnn) rfl rfl rfl (ad 0 hn rfl) (ae rfl (ad 3 hn rfl) af)) (ae rfl (ad 5 hn rfl) af))) bE) (by {refine ag (fY 6 hn hg hsc hnn hm rfl (bl rfl) (fun O=>rfl) (bH bG (aB (kf.b 45 rfl) rfl (ad 4 hn rfl)) (bB (ae rfl (aB (kf.b 36 rfl) rfl (ad 4 hn rfl)) af))) (fun X hA hE hn hg hsc hnn hm=>(by {refine ag (bq (aC X) rfl (au 6 hg rfl (kf.n 38 rfl) (kf.b 55 rfl) lX (bn hnn) rfl rfl (ae rfl (ad 0 hn rfl) (ae rfl (ad 6 hn rfl) (ae rfl (ad 5 hn rfl) af))))) ?_;exact ai}))) ?_;exact ai}) ai) ?_;exact ai}))) ?_
 refine ag (bq (aC X) rfl (au 7 hg rfl (kf.n 39 rfl) (kf.b 56 rfl) g7 (bn hnn) rfl rfl (ae rfl (ad 0 hn rfl) (ae rfl (ad 2 hn rfl) (ae rfl (ad 3 hn rfl) af))))) ?_;exact ai
end
section
variable {W:Wd}
theorem kA{k:Str}{c:CV}:eE [] [(k,c)]=[(k,c)]:=rfl
theorem im{T:Tb}{n:Int}{l:Hd}(h:(T.lookup n).isSome=true):(bW n l T).length=T.length:=er _ _ _ h
theorem gW.some{T:Tb}{q:Int}{l:Hd}{ks:List Int}(h:gW T q l ks):(T.lookup q).isSome=true:=by rw[h.hat];rfl
theorem g7(kf:KF W.K):ax W 8 (.ref 581) g_:=by
 refine sN (N:=7) kf (gd kf) ((bR kf).upb rfl) ((gH kf).upb rfl) ((cX kf).upb rfl) (iQ kf) fun sg Q cs (h:iy sg Q cs)=> ?_
 ·obtain @⟨a,at_,c,pre,post,t,T,R,d,k,T',rfl,hs,hp,hq⟩:=h;refine dp fun C_ k_=> ?_;obtain⟨hdoc,hlen,node,pos,ks,d1,hpl,h0,hn,hd1,hso,rfl⟩:=hp;refine k_ ?_;refine⟨rfl,?_⟩;refine⟨T,R,d,node,pos,hs.at,hdoc,hpl,rfl,?_⟩;refine⟨_,⟨rfl,rfl⟩,T,R,_,hs.at,hn.hks,?_⟩;have hkl:=hn.klen;refine⟨_,⟨rfl,rfl⟩,_,⟨rfl,rfl⟩,fun b=>⟨ay (by simp;exact Nat.le_trans (by assumption) (by decide)),h0,sm rfl,fun e=>⟨_,_,.head,rfl,?_⟩⟩⟩
  refine⟨ay (by simp;omega),ay (by simp;exact Nat.le_trans (by assumption) (by decide)),rfl,h0,ay (by simp;omega),_,.head,_,_,.head,rfl,by rw[kA];simp,by rw[kA];have:=hn.len;simp;exact Nat.le_trans (by assumption) (by decide),node.n,pre,post,t,T,R,rfl,hs,hlen,?_⟩
  have e1:cA node.l (eE [] [(Str.ofString "Kids",CV.lst (List.take pos.toNat (List.map aG ks)++[aG k]++List.drop pos.toNat (List.map aG ks)))])=aM node.l (ks.take pos.toNat++[k]++ks.drop pos.toNat):=by
   unfold aM;simp[eE,bk,List.map_take,List.map_drop]
  simp only[List.append_assoc,List.cons_append,List.nil_append]at e1 hd1 hso hq ⊢;rw[e1];exact⟨pre,post,t,_,R,d1,hs.put _,hd1,hso.1,hso.2,rs hq⟩
theorem Gv(kf:KF W.K){pre post:Sg}{t a:Addr}{v1 v2 v3 v4:CV}{C:Tb}{R:Hd}{cf:CF}(hC:C9 C cf){Q:Fl→bp→Sg→Prop}{T T':Tb}{g:Int}{qs:List Int}(h:wY cf T g qs T'):∀(x7 x8 x9:Option CV),ud (pre++(t,.nd T)::post) a T R pre post t→T.length≤900→
  (∀g' x7 x8 x9,T'.length≤900→Q .next [some (.ref a),some v1,some v2,some v3,some v4,some (.nd C),some (aG g'),x7,x8,x9] (pre++(t,.nd T')::post))→
  dJ gV 7 (qs.map aG) [some (.ref a),some v1,some v2,some v3,some v4,some (.nd C),some (aG g),x7,x8,x9] (pre++(t,.nd T)::post) Q:=by
 have step:∀{T:Tb} {g q:Int} {l:Hd} {ks:List Int} {c:Int} {Q':Fl→bp→Sg→Prop} (x8 x9:Option CV),gW T q l ks→cf q=some c→ud (pre++(t,.nd T)::post) a T R pre post t→T.length≤900→
   (1<c→Q' .brk [some (.ref a),some v1,some v2,some v3,some v4,some (.nd C),some (aG g),some (aG q),some (.sd l),some (.lst ((ks.filter fun k=>k !=g).map aG))] (pre++(t,.nd (bW q (aM l (ks.filter fun k=>k !=g)) T))::post))→
   (¬1<c→Q' .next [some (.ref a),some v1,some v2,some v3,some v4,some (.nd C),some (aG q),some (aG q),some (.sd l),some (.lst ((ks.filter fun k=>k !=g).map aG))] (pre++(t,.nd (bW q (aM l (ks.filter fun k=>k !=g)) T))::post))→
   gV [some (.ref a),some v1,some v2,some v3,some v4,some (.nd C),some (aG g),some (aG q),x8,x9] (pre++(t,.nd T)::post) Q':=by
  intro T g q l ks c Q' x8 x9 hn hc hs hz hb hg;refine⟨hs.at.inst _ fun O=>rfl,T,R,.sd l,hs.at,.inr ⟨q,rfl,hn.hat,trivial⟩,?_⟩;have hkl:=hn.klen;refine⟨T,R,_,hs.at,hn.hks,trivial,ay (by(show(List.map _ _).length≤_;rw[List.length_map]);exact Nat.le_trans (by assumption) (by decide)),cZ (f:=aG) (g:=aG) (p:=fun k=>k !=g) ks [] (fun k hk K hK=> ?_) (fun k O O K hK=>hK) ?_⟩
  ·refine el12 (hn.res k hk) fun v h1 h2=> ?_;refine⟨T,R,k,v,hs.at,rfl,h1,h2,⟨rfl,rfl⟩,k,rfl,⟨rfl,rfl⟩,g,rfl,?_⟩;refine⟨rfl,rfl,?_⟩;rw[wi];exact⟨k !=g,rfl,hK⟩
  intro ka;refine⟨_,.head,_,_,.head,rfl,by rw[kA];simp,by rw[kA];have:=hn.len;simp;exact Nat.le_trans (by assumption) (by decide),q,pre,post,t,T,R,rfl,hs,hz,?_⟩
  have e1:cA l (eE [] [(Str.ofString "Kids",CV.lst ([]++(ks.filter fun k=>k !=g).map aG))])=aM l (ks.filter fun k=>k !=g):=rfl;refine⟨_,⟨rfl,rfl⟩,?_⟩;refine⟨.int c,.inl ⟨C,rfl,by rw[hC q,hc];rfl⟩,?_⟩
  show Dh (kM _ (.bool (decide (c>1)))) _ _;refine⟨_,rfl,fun hd=>hb (by simpa using hd),fun hd=> ?_⟩
  exact hg (by simpa using hd)
 induction h with
 |nil=>intro x7 x8 x9 hs hz hq;exact hq _ _ _ _ hz
 |stop hn hc h1=>
  intro x7 x8 x9 hs hz hq;rw[List.map_cons];exact step _ _ hn hc hs hz (fun O=>hq _ _ _ _ (by rw[im hn.some];exact hz)) (fun h=>absurd h1 h)
 |go hn hc h1 hr ih=>
  intro x7 x8 x9 hs hz hq;rw[List.map_cons];exact step _ _ hn hc hs hz (fun h=>absurd h h1) (fun O=>ih _ _ _ (hs.put _) (by rw[im hn.some];exact hz) hq)
set_option tactic.hygienic true in
theorem dT(kf:KF W.K):ax W 8 (.ref 586) eV:=by
 refine vO (N:=7) kf ((cD kf).upb rfl) ((da kf).upb rfl) ((aP kf).upb rfl) ((bR kf).upb rfl) ((az kf).upb rfl) ((b8 kf).upb rfl) ((gH kf).upb rfl) ((cX kf).upb rfl) ((fj kf).upb rfl) (iQ kf) fun sg Q cs (h:ke sg Q cs)=> ?_
 ·obtain @⟨a,at_,pre,post,t,T,R,d,s,T',hs,hr,hq⟩:=h;obtain⟨hdoc,hlen,h0,hpage,hab,hsl,hth,T1,d2,hrem,hok,hd2,hso,rfl⟩:=hr;refine⟨rfl,?_⟩;have hz:=hdoc.sz;rw[←b7]at hz;have hpz:d.pages.length≤60:=Nat.le_trans (List.length_filter_le _ _) hz;refine⟨T,R,d,hs.at,hdoc,?_⟩;refine⟨trivial,ay (by(show(List.map _ _).length≤_;rw[List.length_map]);exact Nat.le_trans (by assumption) (by decide)),cZ (g:=aS.cv) (p:=(·.pg)) d.spots [] (fun s O K hk=>⟨_,⟨rfl,rfl⟩,s.pg,rfl,hk⟩) (fun s O O K hk=>hk) ?_⟩
  try dsimp only[List.map_cons,List.map_nil,List.cons_append,List.nil_append,List.set_cons_zero,List.set_cons_succ]
  have hlt:at_.toNat<d.pages.length:=(List.getElem?_eq_some_iff.mp hpage).1;have hlt':at_<((List.map aS.cv (List.filter (fun x:aS=>x.pg) d.spots)).length:Int):=by
   rw[List.length_map];show at_<(d.pages.length:Int);exact(Int.toNat_lt h0).mp hlt
  refine⟨true,by exact(decide_eq_true h0).symm,fun O=>⟨_,rfl,ay (by rw[List.length_map];exact Nat.le_trans hpz (by decide)),true,by rw[decide_eq_true hlt'];rfl,fun h=>(by exact ff h),fun O=> ?_⟩,fun h=>(by exact tf h)⟩
  try dsimp only[List.map_cons,List.map_nil,List.cons_append,List.nil_append,List.set_cons_zero,List.set_cons_succ]
  refine⟨s.cv,.inr (.inl ⟨_,rfl,h0,ay (by rw[List.length_map];exact Nat.le_trans hpz (by decide)),?_⟩),?_⟩
  ·rw[List.getElem?_map];show(d.pages[at_.toNat]?).map aS.cv=_;rw[hpage];rfl
  refine⟨d.spots,rfl,hz,hab,fun C hC=> ?_⟩;refine⟨_,⟨rfl,rfl⟩,?_⟩;have hms:s∈d.spots:=(List.mem_filter.mp (List.mem_of_getElem? hpage)).1;refine⟨_,⟨rfl,rfl⟩,ay (by have:=(hab s hms).1;simp;exact Nat.le_trans (by assumption) (by decide)),?_⟩
  rw[←List.map_reverse];obtain⟨rfl,hsh⟩:=hs;refine Gv kf hC hrem _ _ _ ⟨rfl,hsh⟩ hlen fun g' x7 x8 x9 hl1=> ?_;have hs1:ud (pre++(t,.nd T1)::post) a T1 R pre post t:=⟨rfl,hsh⟩;refine⟨_,⟨rfl,rfl⟩,T1,R,s.n,s.l,s.ab,s.m,s.pg,hs1.at,rfl,hok,by exact Nat.le_trans (by assumption) (by decide),fun e=>⟨_,.head,_,_,.head,rfl,by rw[kA];simp,?_,s.n,pre,post,t,T1,R,rfl,hs1,hl1,?_⟩⟩
  ·rw[kA];have:∀(ks:List Str) (f:Hd),(ko s.l s.m ks f).length≤f.length+ks.length:=by
    intro ks;induction ks with
    |nil=>intro f;simp[ko]
    |cons k ks ih=>
     intro f;unfold ko;split
     ·rename_i c _ _
      have:=ih (bk k c f);have h2:=dg k c f;simp only[List.length_cons];lia
     ·have:=ih f;simp only[List.length_cons];exact Nat.le_succ_of_le (ih f)
   have:=this bM s.l;simp[bM]at this ⊢;lia
  refine⟨pre,post,t,bW s.n (dS s) T1,R,d2,⟨rfl,hsh⟩,hd2,hso.1,hso.2,?_⟩;exact⟨_,⟨rfl,rfl⟩,rs hq⟩
end
section
variable {W:Wd}
theorem EA(kf:KF W.K){pre post:Sg}{t a:Addr}{v1 v3 c:CV}{key:Str}{R:Hd}{Q:Fl→bp→Sg→Prop}{T T':Tb}{ks:List Int}(h:qF key c T ks T'):∀(x5 x6:Option CV),ud (pre++(t,.nd T)::post) a T R pre post t→T.length≤900→
  (∀x5 x6,T'.length≤900→Q .next [some (.ref a),some v1,some (.str key),some v3,some c,x5,x6] (pre++(t,.nd T')::post))→
  dJ mQ 5 (ks.map aG) [some (.ref a),some v1,some (.str key),some v3,some c,x5,x6] (pre++(t,.nd T)::post) Q:=by
 induction h with
 |nil=>intro x5 x6 hs hz hq;exact hq _ _ hz
 | @has T T' k ks l v r h1 h2 h3 h4 hr ih=>
  intro x5 x6 hs hz hq;rw[List.map_cons];refine⟨T,R,k,.sd l,hs.at,rfl,h1,trivial,?_⟩;refine⟨hs.at.inst _ fun O=>rfl,hs.at.inst _ fun O=>rfl,T,R,.sd l,hs.at,.inr ⟨k,rfl,h1,trivial⟩,T,R,l,r,hs.at,rfl,(by rw[h2];exact h3),?_⟩
  refine⟨false,h4.symm,.n ?_⟩;have:=ih (some (aG k)) (some (aG k)) hs hz hq;exact this
 | @gets T T' k ks l h1 h2 hl hr ih=>
  intro x5 x6 hs hz hq;rw[List.map_cons];refine⟨T,R,k,.sd l,hs.at,rfl,h1,trivial,?_⟩;refine⟨hs.at.inst _ fun O=>rfl,hs.at.inst _ fun O=>rfl,T,R,.sd l,hs.at,.inr ⟨k,rfl,h1,trivial⟩,T,R,l,.none,hs.at,rfl,(by rw[h2];exact .inl ⟨trivial,rfl⟩),?_⟩
  refine⟨true,rfl,.y ⟨hs.at.inst _ fun O=>rfl,T,R,.sd l,hs.at,.inr ⟨k,rfl,h1,trivial⟩,fun e=>⟨_,.head,_,_,.head,rfl,by rw[kA];simp,by rw[kA];simp;exact Nat.le_trans (by assumption) (by decide),k,pre,post,t,T,R,rfl,hs,hz,?_⟩⟩⟩
  have:=ih (some (aG k)) (some (aG k)) (hs.put _) (by rw[im (by rw[h1];rfl)];exact hz) hq
  exact this
set_option tactic.hygienic true in
theorem lX(kf:KF W.K):ax W 5 (.ref 593) l6:=by
 refine zp (N:=4) kf ((aP kf).upb rfl) ((b8 kf).upb rfl) ((aH kf).upb rfl) ((gH kf).upb rfl) ((cX kf).upb rfl) (bR kf) fun sg Q cs (h:jS sg Q cs)=> ?_
 ·refine jS.casesOn h @fun a c key pre post t T R q T' z10 hs hz hp hq=>⟨rfl,?_⟩;subst z10;cases hp with
  |no h1 h2=>
   rename_i l
   refine⟨hs.at.inst _ fun O=>rfl,T,R,.sd l,hs.at,.inr ⟨q,rfl,h1,trivial⟩,?_⟩;refine⟨.inl ⟨l,rfl⟩,l,rfl,?_⟩;rw[h2];refine⟨hs.at.inst _ fun O=>rfl,T,R,.none,hs.at,.inl ⟨trivial,rfl⟩,?_⟩;obtain⟨rfl,hsh⟩:=hs;exact⟨true,rfl,.y (rs hq)⟩
  |yes hn h2 h3 h4 hk hth=>
   rename_i T1 l ks c r
   refine⟨hs.at.inst _ fun O=>rfl,T,R,.sd l,hs.at,.inr ⟨q,rfl,hn.hat,trivial⟩,?_⟩;refine⟨.inl ⟨l,rfl⟩,l,rfl,?_⟩;rw[h2];refine⟨hs.at.inst _ fun O=>rfl,T,R,r,hs.at,h3,?_⟩;refine⟨false,h4.symm,.n ?_⟩;refine ?_;refine⟨T,R,_,hs.at,hn.hks,trivial,?_⟩;obtain⟨rfl,hsh⟩:=hs;refine EA kf hk _ _ ⟨rfl,hsh⟩ hz fun x5 x6 hz1=> ?_;have hs1:ud (pre++(t,.nd T1)::post) a T1 R pre post t:=⟨rfl,hsh⟩;exact fun e=>⟨_,.head,_,_,.head,rfl,by rw[kA];simp,by rw[kA];have:=hn.len;simp;exact Nat.le_trans (by assumption) (by decide),q,pre,post,t,T1,R,rfl,hs1,hz1,rs hq⟩
theorem Ez{key:Str}{c:CV}{T T':Tb}{ks:List Int}(h:qF key c T ks T'):T'.length=T.length:=by
 induction h with
 |nil=>rfl
 |has _ _ _ _ _ ih=>exact ih
 |gets h1 _ _ _ ih=>rw[ih,im (by rw[h1];rfl)]
theorem yq{key:Str}{T T':Tb}{q:Int}(h:uX key T q T'):T'.length=T.length:=by
 cases h with
 |no _ _=>rfl
 |yes _ _ _ _ hk hth=>rw[im hth,Ez hk]
theorem BH{key:Str}{T T':Tb}{qs:List Int}(h:lF key T qs T'):T'.length=T.length:=by
 induction h with
 |nil=>rfl
 |cons h _ ih=>rw[ih,yq h]
theorem xw(kf:KF W.K){pre post:Sg}{t a:Addr}{v1 v2 v3 v4:CV}{key:Str}{R:Hd}{Q:Fl→bp→Sg→Prop}{T T':Tb}{qs:List Int}(h:lF key T qs T'):∀(x6:Option CV),ud (pre++(t,.nd T)::post) a T R pre post t→T.length≤900→
  (∀x6,Q .next [some (.ref a),some v1,some v2,some v3,some v4,some (.str key),x6] (pre++(t,.nd T')::post))→
  dJ iW 6 (qs.map aG) [some (.ref a),some v1,some v2,some v3,some v4,some (.str key),x6] (pre++(t,.nd T)::post) Q:=by
 induction h with
 |nil=>intro x6 hs hz hq;exact hq _
 | @cons T T1 T' q qs h1 hr ih=>
  intro x6 hs hz hq;rw[List.map_cons];refine⟨pre,post,t,T,R,q,T1,rfl,hs,hz,h1,?_⟩;have:=ih (some (aG q)) (hs.put _) (by rw[yq h1];exact hz) hq
  exact this
theorem wq(kf:KF W.K){pre post:Sg}{t a:Addr}{v1 v2:CV}{k:Int}{node:aS}(hab:node.ab.length≤20){R:Hd}{Q:Fl→bp→Sg→Prop}{T T':Tb}{keys:List Str}(h:ii k (node.ab++[node.n]) T keys T'):∀(x5 x6:Option CV),ud (pre++(t,.nd T)::post) a T R pre post t→T.length≤900→
  (∀x5 x6,Q .next [some (.ref a),some v1,some v2,some (aG k),some node.cv,x5,x6] (pre++(t,.nd T')::post))→
  dJ mP 5 (keys.map .str) [some (.ref a),some v1,some v2,some (aG k),some node.cv,x5,x6] (pre++(t,.nd T)::post) Q:=by
 induction h with
 |nil=>intro x5 x6 hs hz hq;exact hq _ _
 | @has T T' key keys l v r h1 h2 h3 h4 hr ih=>
  intro x5 x6 hs hz hq;rw[List.map_cons];have:=ih (some (.str key)) x6 hs hz hq;refine⟨hs.at.inst _ fun O=>rfl,hs.at.inst _ fun O=>rfl,T,R,.sd l,hs.at,.inr ⟨k,rfl,h1,trivial⟩,T,R,l,r,hs.at,rfl,(by rw[h2];exact h3),?_⟩
  exact⟨false,h4.symm,.n this⟩
 | @push T T1 T' key keys l h1 h2 hp hr ih=>
  intro x5 x6 hs hz hq;rw[List.map_cons];have:=fun x6=>ih (some (.str key)) x6 (hs.put _) (by rw[BH hp];exact hz) hq
  refine⟨hs.at.inst _ fun O=>rfl,hs.at.inst _ fun O=>rfl,T,R,.sd l,hs.at,.inr ⟨k,rfl,h1,trivial⟩,T,R,l,.none,hs.at,rfl,(by rw[h2];exact .inl ⟨trivial,rfl⟩),?_⟩
  refine⟨true,rfl,.y ?_⟩;refine⟨_,⟨rfl,rfl⟩,_,⟨rfl,rfl⟩,sm rfl,?_⟩;refine⟨ay (by simp;exact Nat.le_trans (by assumption) (by decide)),trivial,?_⟩
  have e:node.ab.map aG++[aG node.n]=(node.ab++[node.n]).map aG:=by simp
  show dJ iW 6 (node.ab.map aG++[aG node.n]) _ _ _;rw[e];exact xw kf hp _ hs hz fun x6=>this x6
theorem lW(kf:KF W.K):ax W 9 (.ref 600) l5:=by
 refine zo (N:=8) kf ((dN kf).upb rfl) (dT kf) ((gd kf).upb rfl) ((aH kf).upb rfl) ((aP kf).upb rfl) ((lX kf).upb rfl) (g7 kf) fun sg Q cs (h:jR sg Q cs)=> ?_
 ·refine jR.casesOn h @fun a at_ to pre post t T R d T' hs z11 hq=>⟨rfl,?_⟩;obtain⟨hdoc,h1,h2,h3,h4,s,T1,d1,node,pos,T2,d2,hr,hd1,hpl,hab,hz1,hk,hput⟩:=z11;have hz:=hdoc.sz;rw[←b7]at hz;have hpz:d.pages.length≤60:=Nat.le_trans (List.length_filter_le _ _) hz;have e1:decide (0≤at_)=true:=decide_eq_true h1;have e2:decide (at_<((d.pages.map aS.cv).length:Int))=true:=decide_eq_true (by simpa using h2)
  have e3:decide (0≤to)=true:=decide_eq_true h3;have e4:decide (to<((d.pages.map aS.cv).length:Int))=true:=decide_eq_true (by simpa using h4)
  refine⟨true,e1.symm,.y ⟨T,R,d,hs.at,hdoc,_,rfl,ay (by simp;exact Nat.le_trans (by assumption) (by decide)),?_⟩⟩
  refine⟨true,e2.symm,.n ⟨true,e3.symm,.y ⟨T,R,d,hs.at,hdoc,_,rfl,ay (by simp;exact Nat.le_trans (by assumption) (by decide)),?_⟩⟩⟩
  refine⟨true,e4.symm,.n ⟨fun h=>(by exact ff h),fun O=> ?_⟩⟩
  refine⟨pre,post,t,T,R,d,s,T1,hs,hr,?_⟩;have hs1:=hs.put T1;refine⟨T1,R,d1,node,pos,hs1.at,hd1,hpl,?_⟩;refine⟨node.cv,.inr (.inr ⟨_,0,rfl,sm rfl,rfl,rfl⟩),?_⟩;refine ?_;refine⟨trivial,wq kf hab hk _ _ hs1 hz1 fun x5 x6=> ?_⟩;exact⟨pre,post,t,T2,R,d2,s.n,T',rfl,hs.put _,hput,rs hq⟩
end
noncomputable def PV:Nat→CV→Prop
 |0,_=>False
 |_+1,.none=>True
 |_+1,.int _=>True
 |_+1,.obj C _=>C=202∨C=273
 |d+1,.lst l=>l.length≤900∧∀x∈l,PV d x
 |d+1,.sd l=>l.length≤900∧(l.map (·.1)).Nodup∧∀p∈l,PV d p.2
 |_+1,_=>False
inductive iP(d:Nat)(sg:Sg)(Q:CV→Sg→Prop):List CV→Prop
 |mk {c:CV}:PV d c→Q c sg→iP d sg Q [c]
def g9(d:Nat):ao:=fun cs sg Q=>iP d sg Q cs
def oC:ao:=g9 4
def kR:CV→Prop
 | .int _=>True
 | .obj C fs=>C=202∧∃x,fs=[(Str.ofString "text",.str x)]
 |_=>False
inductive lL(sg:Sg)(Q:CV→Sg→Prop):List CV→Prop
 |mk {c:CV}:((∃l,c= .lst l∧l.length≤900∧Q (.lst l) sg)∨(∃l,c= .sd l∧l.length<64∧(l.map (·.1)).Nodup∧∀vs:List CV,vs.Perm (l.map (·.2))→Q (.lst vs) sg)∨(kR c∧Q (.lst []) sg))→lL sg Q [c]
def n7:ao:=fun cs sg Q=>lL sg Q cs
noncomputable def eK(n:Int):CV:= .tup [.int n,.int 0]
inductive sj(r:Int):CV→Prop
 |leaf {c:CV}:kR c→sj r c
 |nums {is:List Int}:is.length≤8→sj r (.lst (bZ is))
 |ref:sj r (aG r)
inductive fQ(sg:Sg)(Q:CV→Sg→Prop):List CV→Prop
 |mk {l:Hd} (r):l.length<64→(l.map (·.1)).Nodup→(∀p∈l,sj r p.2)→(((∃p∈l,p.2=aG r)→∀a,Q (.ref a) ((a,.lst [eK r])::sg)))→(((∀p∈l,p.2≠aG r)→∀a,Q (.ref a) ((a,.lst [])::sg)))→fQ sg Q [.sd l]
def fq:ao:=fun cs sg Q=>fQ sg Q cs
abbrev Pd:=List (List Int×CV)
noncomputable def oV(tab:Pd)(c:CV):CV:=match Gu c with
 |some n=>(match tab.lookup [n,0]with
  |some (.tup [.int m,_])=>aG m
  |_=> .none)
 |none=>c
def Dg(tab:Pd)(c:CV):Prop:=kR c∨(∃is,c= .lst (bZ is)∧is.length≤8)∨∃n m,c=aG n∧tab.lookup [n,0]=some (eK m)
inductive yX(sg:Sg)(Q:CV→Sg→Prop):List CV→Prop
 |mk {c:CV} {ta:Addr} (tab):(ta,MO.pd tab)∈sg→kR c→Q c sg→yX sg Q [c,.ref ta]
def H1:ao:=fun cs sg Q=>yX sg Q cs
inductive yY(sg:Sg)(Q:CV→Sg→Prop):List CV→Prop
 |mk {c:CV} {ta:Addr} (tab):(ta,MO.pd tab)∈sg→Dg tab c→Q (oV tab c) sg→yY sg Q [c,.ref ta]
def H4:ao:=fun cs sg Q=>yY sg Q cs
inductive iK(sg:Sg)(Q:CV→Sg→Prop):List CV→Prop
 |mk {l:Hd} {ta:Addr} (tab):(ta,MO.pd tab)∈sg→l.length≤100→(l.map (·.1)).Nodup→(∀p∈l,Dg tab p.2)→(∀a,Q (.ref a) ((a,.sd (l.map fun p=>(p.1,oV tab p.2)))::sg))→iK sg Q [.sd l,.ref ta]
def fN:ao:=fun cs sg Q=>iK sg Q cs
inductive eI(sg:Sg)(Q:CV→Sg→Prop):List CV→Prop
 |z {a:Addr} (dx sg1):sg=(a,.obj 404 dx [])::sg1→(∀t,Q .none ((t,.nd [])::(a,.obj 404 dx (jo (.ref t) []))::sg1))→eI sg Q [.ref a]
 |s {a:Addr} {c:CV} {R:Hd} (dx sg1):sg=(a,.obj 404 dx [])::sg1→isNone c=false→Q .none ((a,.obj 404 dx (jo c R))::sg1)→eI sg Q [.ref a,c,.sd R]
def qt:ao:=fun cs sg Q=>eI sg Q cs
def gK:ao:=fun cs sg Q=>match cs with
 |[]=>∀a dx t,Q (.ref a) ((t,.nd [])::(a,.obj 404 dx (jo (.ref t) []))::sg)
 |[c,.sd R]=>isNone c=false∧∀a dx,Q (.ref a) ((a,.obj 404 dx (jo c R))::sg)
 |_=>False
def An(T:Tb):Prop:=T.length≤900∧(T.map (·.1)).Nodup∧∀p∈T,∃v,p.2=cP v∧PV 4 v
inductive gy(sg:Sg)(Q:CV→Sg→Prop):List CV→Prop
 |mk {C:Addr} {fs:Hd} (T R):C=404→fs=jo (.nd T) R→An T→PV 4 (.sd R)→(∀a dx t,Q (.ref a) ((a,.obj 404 dx (jo (.ref t) R))::(t,.nd T)::sg))→gy sg Q [.obj C fs]
def ev:ao:=fun cs sg Q=>gy sg Q cs
inductive lJ(sg:Sg)(Q:CV→Sg→Prop):List CV→Prop
 |mk {sh:CV} {c:CV} (T R n v):d6 sg sh T R→c=eK n→T.lookup n=some (cP v)→Q (.bool true) sg→lJ sg Q [sh,c]
def nZ:ao:=fun cs sg Q=>lJ sg Q cs
inductive eX(sg:Sg)(Q:CV→Sg→Prop):List CV→Prop
 |mk {sh:CV} (T R d rt):d6 sg sh T R→iu T R d→R.lookup (Str.ofString "Root")=some (aG rt)→(∀B:Tb,(∀n,n∉d.nums→n≠rt→B.lookup n=none)→Q (.nd B) sg)→eX sg Q [sh]
def gM:ao:=fun cs sg Q=>eX sg Q cs
section
noncomputable def yn:List Str:=[Str.ofString "value"]
noncomputable def lg:List Str:=[Str.ofString "kind"]
noncomputable def Eg:List Str:=[Str.ofString "kind_of",Str.ofString "dict",Str.ofString "Stream",Str.ofString "copied"]
def qD(sp_self:ao):PS:=(aj (cS 1 (aA f7 (ah (ak 0) aq)))
 (aj (ew (aX (bh eG (ak 1) (aK (.str (Str.ofString "array"))))) (aj (bQ (d7 lY cu [] (ak 0) d9 (aA sp_self (ah (ak 0) aq))))
 am) am)
 (aj (ew (aX (bh eG (ak 1) (aK (.str (Str.ofString "dict"))))) (aj (bQ (fv (aA gg (ah (d7 lY cu [0] (ak 0) d9 (dK (ah (ak 0) (ah (aA sp_self (ah (bh aR (ak 1) (ak 0)) aq)) aq)))) aq))))
 am) am)
 (aj (ew (aX (bh eG (ak 1) (aK (.str (Str.ofString "stream"))))) m8 am)
 (aj (bQ (ak 0))
 am)))))
theorem Ed{W:Wd}(kf:KF W.K){N:Nat}{sp_self:ao}(di:ax W N (.ref 284) f7)(ok_self:ax W N (.ref 301) sp_self){sp:ao}(hsp:gh yn lg (qD sp_self) sp):ax W (N+1) (.ref 301) sp:=by
 refine aO (ps:=yn) (more:=lg) (globs:=Eg) (kf.f 4 rfl) rfl (by decide+kernel) (dI fun O O O O O O O O O O=> .of_eq rfl) (fun X hn hg hsc hnn hm=> ?_) hsp
 refine ag (ar 1 hn hm rfl (bl rfl) rfl (au 0 hg rfl (kf.n 10 rfl) (kf.b 10 rfl) di (bn hnn) rfl rfl (ae rfl (ad 0 hn rfl) af))) ?_;refine ag (be (aE rfl bt (ad 1 hn rfl) aI) (by {refine ag (aL (c8 (tgs:=[Str.ofString "part"]) (frs:=[]) (gs:=[Str.ofString "copied"]) (fi:=[]) (by decide+kernel) hsc hn cW bL cY (fun O=>rfl) (ad 0 hn rfl) (fun Xc hn hg hnc=>have hnn:=hnc.trans hnn;fS) (fun Xc hn hg hnc=>have hnn:=hnc.trans hnn;(au 0 hg rfl (kf.n 11 rfl) (kf.b 11 rfl) ok_self (bn hnn) rfl rfl (ae rfl (ad 0 hn rfl) af))))) ?_;exact ai}) ai) ?_
 refine ag (be (aE rfl bt (ad 1 hn rfl) aI) (by {refine ag (aL (aT (bd 1 hg rfl (kf.n 7 rfl) rfl (by decide) (.inr ⟨_,rfl⟩) gA rfl rfl (ae rfl (c8 (tgs:=[Str.ofString "key"]) (frs:=[Str.ofString "value"]) (gs:=[Str.ofString "copied"]) (fi:=[0]) (by decide+kernel) hsc hn cW bL cY (fun O=>rfl) (ad 0 hn rfl) (fun Xc hn hg hnc=>have hnn:=hnc.trans hnn;fS) (fun Xc hn hg hnc=>have hnn:=hnc.trans hnn;(bB (ae rfl (ad 0 hn rfl) (ae rfl (au 0 hg rfl (kf.n 11 rfl) (kf.b 11 rfl) ok_self (bn hnn) rfl rfl (ae rfl (aU (fun O O=>rfl) aD (ad 1 hn rfl) (ad 0 hn rfl)) af)) af))))) af)))) ?_;exact ai}) ai) ?_
 refine ag (be (aE rfl bt (ad 1 hn rfl) aI) vX ai) ?_;refine ag (aL (ad 0 hn rfl)) ?_;exact ai
noncomputable def tV:List Str:=[Str.ofString "value"]
noncomputable def j4:List Str:=[Str.ofString "kind"]
noncomputable def Bh:List Str:=[Str.ofString "kind_of",Str.ofString "list",Str.ofString "sorted",Str.ofString "parts_of"]
def pN:PS:=(aj (cS 1 (aA f7 (ah (ak 0) aq)))
 (aj (ew (aX (bh eG (ak 1) (aK (.str (Str.ofString "array"))))) (aj (bQ (aA wA (ah (ak 0) aq)))
 am) am)
 (aj (ew (aX (bh eG (ak 1) (aK (.str (Str.ofString "dict"))))) (aj (bQ (d7 lY cu [0] (aA BR (ah (ak 0) aq)) d9 (bh aR (ak 1) (ak 0))))
 am) am)
 (aj (ew (aX (bh eG (ak 1) (aK (.str (Str.ofString "stream"))))) m8 am)
 (aj (bQ (fv (cT aq)))
 am)))))
theorem Bc{W:Wd}(kf:KF W.K){N:Nat}(di:ax W N (.ref 284) f7){sp:ao}(hsp:gh tV j4 (pN) sp):ax W (N+1) (.ref 306) sp:=by
 refine aO (ps:=tV) (more:=j4) (globs:=Bh) (kf.f 5 rfl) rfl (by decide+kernel) (dI fun O O O O O O O O O O=> .of_eq rfl) (fun X hn hg hsc hnn hm=> ?_) hsp
 refine ag (ar 1 hn hm rfl (bl rfl) rfl (au 0 hg rfl (kf.n 10 rfl) (kf.b 10 rfl) di (bn hnn) rfl rfl (ae rfl (ad 0 hn rfl) af))) ?_;refine ag (be (aE rfl bt (ad 1 hn rfl) aI) (by {refine ag (aL (bd 1 hg rfl (kf.n 6 rfl) rfl (by decide) (.inr ⟨_,rfl⟩) tE rfl rfl (ae rfl (ad 0 hn rfl) af))) ?_;exact ai}) ai) ?_
 refine ag (be (aE rfl bt (ad 1 hn rfl) aI) (by {refine ag (aL (c8 (tgs:=[Str.ofString "key"]) (frs:=[Str.ofString "value"]) (gs:=[]) (fi:=[0]) (by decide+kernel) hsc hn cW bL cY (fun O=>rfl) (bd 2 hg rfl (kf.n 12 rfl) rfl (by decide) (.inl ⟨_,rfl⟩) AZ rfl rfl (ae rfl (ad 0 hn rfl) af)) (fun Xc hn hg hnc=>have hnn:=hnc.trans hnn;fS) (fun Xc hn hg hnc=>have hnn:=hnc.trans hnn;(aU (fun O O=>rfl) aD (ad 1 hn rfl) (ad 0 hn rfl))))) ?_;exact ai}) ai) ?_
 refine ag (be (aE rfl bt (ad 1 hn rfl) aI) vX ai) ?_;refine ag (aL (aT (bD af))) ?_;exact ai
noncomputable def lw:List Str:=[Str.ofString "value"]
noncomputable def li:List Str:=[Str.ofString "found",Str.ofString "seen",Str.ofString "line",Str.ofString "here"]
noncomputable def sV:List Str:=[Str.ofString "isinstance",Str.ofString "Reference",Str.ofString "reversed",Str.ofString "parts_of"]
def p7:PS:=(aj (cB (cq wf dE (ak 1) (ah (bA 273 (Str.ofString "pair") aF (ak 4) aq) aq)))
 am)
def p8:PS:=(aj (ew (aX (isi (eY (.ref 273)) (ak 4))) (aj (ew (aX (bh oB (bA 273 (Str.ofString "pair") aF (ak 4) aq) (ak 2))) (aj (dC (ak 2) (bA 273 (Str.ofString "pair") aF (ak 4) aq) (aK (.bool true)))
 p7) am)
 am) (aj (cB (FC (ak 3) (aA n7 (ah (ak 4) aq))))
 am))
 am)
def ec:PB:=(aX (ak 3))
def d_:PS:=(aj (cS 4 (cq wf GH (ak 3) aq))
 p8)
def fV:PS:=(aj (bQ (ak 1))
 am)
def p9:PS:=(aj (tn ec d_)
 fV)
def p_:PS:=(aj (cS 3 (cT (ah (ak 0) aq)))
 p9)
def qa:PS:=(aj (cS 2 (fW (.pd [])))
 p_)
def ub:PS:=(aj (cS 1 (cT aq))
 qa)
theorem sO{W:Wd}(kf:KF W.K){N:Nat}(az:ax W N (.ref 270) aF)(nL:ax W N (.ref 306) n7){sp:ao}(hsp:gh lw li (ub) sp):ax W (N+1) (.ref 313) sp:=by
 refine aO (ps:=lw) (more:=li) (globs:=sV) (kf.f 6 rfl) rfl (by decide+kernel) (dI fun O O O O O O O O O O=> .of_eq rfl) (fun X hn hg hsc hnn hm=> ?_) hsp
 refine ag (ar 1 hn hm rfl (bl rfl) rfl (bD af)) ?_;refine ag (ar 2 hn hm rfl (bl rfl) rfl (cU rfl)) ?_;refine ag (ar 3 hn hm rfl (bl rfl) rfl (bD (ae rfl (ad 0 hn rfl) af))) ?_;refine ag (nq (bj rfl (ad 3 hn rfl)) (by {refine ag (ar 4 hn hm rfl (bl rfl) rfl (vW Do AY rfl (ad 3 hn rfl))) ?_;refine ag (be (bj rfl (fc 0 1 hg rfl (kf.n 0 rfl) rfl rfl (kf.n 9 rfl) (kf.a 8 rfl) rfl rfl rfl (ad 4 hn rfl))) (by {refine ag (be (aE rfl i8 (bV (kf.b 12 rfl) az (bn hnn) rfl (ad 4 hn rfl)) (ad 2 hn rfl)) (by {refine ag (bI rfl (ad 2 hn rfl) (bV (kf.b 12 rfl) az (bn hnn) rfl (ad 4 hn rfl)) gC) ?_;refine ag (bq (aC X) rfl (br cG cc rfl rfl rfl (ad 1 hn rfl) (ae rfl (bV (kf.b 12 rfl) az (bn hnn) rfl (ad 4 hn rfl)) af))) ?_;exact ai}) ai) ?_;exact ai}) (by {refine ag (bq (aC X) rfl (Ek 2 hg rfl (kf.n 14 rfl) rfl rfl rfl rfl rfl rfl (ad 3 hn rfl) (au 3 hg rfl (kf.n 13 rfl) (kf.b 13 rfl) nL (bn hnn) rfl rfl (ae rfl (ad 4 hn rfl) af)))) ?_;exact ai})) ?_;exact ai})) ?_
 refine ag (aL (ad 1 hn rfl)) ?_;exact ai
noncomputable def pE:List Str:=[Str.ofString "value",Str.ofString "table"]
noncomputable def ey:List Str:=[Str.ofString "kind",Str.ofString "number",Str.ofString "generation",Str.ofString "found"]
noncomputable def xo:List Str:=[Str.ofString "kind_of",Str.ofString "Reference",Str.ofString "dict",Str.ofString "Stream",Str.ofString "renumbered"]
def uq(sp_self:ao):PS:=(aj (bQ (fv (aA bY (ah (ak 3) (ah (ak 4) aq)))))
 am)
def ur(sp_self:ao):PS:=(aj (gP [3,4] (bh aR (ak 1) (bA 273 (Str.ofString "pair") aF (ak 0) aq)))
 (uq sp_self))
def l8(sp_self:ao):PS:=(aj (bQ (aA gg (ah (d7 lY cu [] (ak 5) (aX (bh oA (bh aR (ak 0) (aK (.int 1))) (aK .none))) (ak 0)) aq)))
 am)
def ut(sp_self:ao):PS:=(aj (bQ (ak 0))
 am)
def uu(sp_self:ao):PS:=(aj (ew (aX (bh eG (ak 2) (aK (.str (Str.ofString "stream"))))) m8 am)
 (ut sp_self))
def uv(sp_self:ao):PS:=(aj (ew (aX (bh eG (ak 2) (aK (.str (Str.ofString "dict"))))) (aj (cS 5 (d7 lY cu [0,1] (ak 0) d9 (dK (ah (ak 0) (ah (aA sp_self (ah (bh aR (ak 1) (ak 0)) (ah (ak 2) aq))) aq)))))
 (l8 sp_self)) am)
 (uu sp_self))
def uw(sp_self:ao):PS:=(aj (ew (aX (bh eG (ak 2) (aK (.str (Str.ofString "array"))))) (aj (bQ (d7 lY cu [1] (ak 0) d9 (aA sp_self (ah (ak 0) (ah (ak 1) aq)))))
 am) am)
 (uv sp_self))
def ux(sp_self:ao):PS:=(aj (ew (aX (bh eG (ak 2) (aK (.str (Str.ofString "ref"))))) (aj (ew (aX (bh oB (bA 273 (Str.ofString "pair") aF (ak 0) aq) (ak 1))) (aj (bQ (aK .none))
 am) am)
 (ur sp_self)) am)
 (uw sp_self))
def gn(sp_self:ao):PS:=(aj (cS 2 (aA f7 (ah (ak 0) aq)))
 (ux sp_self))
theorem fp_renumbered{W:Wd}(kf:KF W.K){N:Nat}{sp_self:ao}(di:ax W N (.ref 284) f7)(az:ax W N (.ref 270) aF)(bx:ax W N (.ref 273) bY)(ok_self:ax W N (.ref 318) sp_self){sp:ao}(hsp:gh pE ey (gn sp_self) sp):ax W (N+1) (.ref 318) sp:=by
 refine aO (ps:=pE) (more:=ey) (globs:=xo) (kf.f 7 rfl) rfl (by decide+kernel) (cF fun O O O O O O O O O O O=> .of_eq rfl) (fun X hn hg hsc hnn hm=> ?_) hsp
 refine ag (ar 2 hn hm rfl (bl rfl) rfl (au 0 hg rfl (kf.n 10 rfl) (kf.b 10 rfl) di (bn hnn) rfl rfl (ae rfl (ad 0 hn rfl) af))) ?_;refine ag (be (aE rfl bt (ad 2 hn rfl) aI) (by {refine ag (be (aE rfl i8 (bV (kf.b 12 rfl) az (bn hnn) rfl (ad 0 hn rfl)) (ad 1 hn rfl)) (by {refine ag (aL bE) ?_;exact ai}) ai) ?_;refine ag (dL hn hm (.cons 3 rfl (by decide) rfl (.cons 4 rfl (by decide) rfl .nil)) rfl rfl (aU (fun O O=>rfl) aD (ad 1 hn rfl) (bV (kf.b 12 rfl) az (bn hnn) rfl (ad 0 hn rfl)))) ?_;refine ag (aL (aT (au 1 hg rfl (kf.n 9 rfl) (kf.b 9 rfl) bx (bn hnn) rfl rfl (ae rfl (ad 3 hn rfl) (ae rfl (ad 4 hn rfl) af))))) ?_;exact ai}) ai) ?_
 refine ag (be (aE rfl bt (ad 2 hn rfl) aI) (by {refine ag (aL (c8 (tgs:=[Str.ofString "part"]) (frs:=[Str.ofString "table"]) (gs:=[Str.ofString "renumbered"]) (fi:=[1]) (by decide+kernel) hsc hn cW bL cY (fun O=>rfl) (ad 0 hn rfl) (fun Xc hn hg hnc=>have hnn:=hnc.trans hnn;fS) (fun Xc hn hg hnc=>have hnn:=hnc.trans hnn;(au 0 hg rfl (kf.n 15 rfl) (kf.b 14 rfl) ok_self (bn hnn) rfl rfl (ae rfl (ad 0 hn rfl) (ae rfl (ad 1 hn rfl) af)))))) ?_;exact ai}) ai) ?_
 refine ag (be (aE rfl bt (ad 2 hn rfl) aI) (by {refine ag (gZ 5 (yB hsc (by decide+kernel)) hm rfl (bl rfl) (tgs:=[Str.ofString "key"]) (frs:=[Str.ofString "value",Str.ofString "table"]) (gs:=[Str.ofString "renumbered"]) (fi:=[0,1]) (by decide+kernel) hsc hn cW bL cY (fun O=>rfl) (ad 0 hn rfl) (fun Xc hn hg hnc=>have hnn:=hnc.trans hnn;fS) (fun Xc hn hg hnc=>have hnn:=hnc.trans hnn;(bB (ae rfl (ad 0 hn rfl) (ae rfl (au 0 hg rfl (kf.n 15 rfl) (kf.b 14 rfl) ok_self (bn hnn) rfl rfl (ae rfl (aU (fun O O=>rfl) aD (ad 1 hn rfl) (ad 0 hn rfl)) (ae rfl (ad 2 hn rfl) af))) af))))) ?_;refine ag (aL (bd 2 hg rfl (kf.n 7 rfl) rfl (by decide) (.inr ⟨_,rfl⟩) gA rfl rfl (ae rfl (c8 (tgs:=[Str.ofString "pair"]) (frs:=[]) (gs:=[]) (fi:=[]) (by decide+kernel) hsc hn cW bL cY (fun O=>rfl) (ad 5 hn rfl) (fun Xc hn hg hnc=>have hnn:=hnc.trans hnn;(h8 (aE rfl lP (aU (fun O O=>rfl) aD (ad 0 hn rfl) av) bE))) (fun Xc hn hg hnc=>have hnn:=hnc.trans hnn;(ad 0 hn rfl))) af))) ?_;exact ai}) ai) ?_
 refine ag (be (aE rfl bt (ad 2 hn rfl) aI) vX ai) ?_;refine ag (aL (ad 0 hn rfl)) ?_;exact ai
noncomputable def qk:List Str:=[Str.ofString "self",Str.ofString "table",Str.ofString "trailer"]
noncomputable def jb:List Str:=[]
def gm:PS:=(aj (fG 404 (Str.ofString "table") (ak 0) (xY (aX (bh rZ (ak 1) (aK .none))) (fW (.nd [])) (ak 1)))
 (aj (fG 404 (Str.ofString "trailer") (ak 0) (xY (aX (bh rZ (ak 2) (aK .none))) (fv (fW (.sd []))) (ak 2)))
 am))
theorem qg{W:Wd}(kf:KF W.K){N:Nat}{X:FX}(hn:X.names=qk)(hg:X.globs=jb)(hsc:X.env.scope=jG)(hnn:X.n=N)(hm:X.m=3):ix W X jC (gm):=
 by
 refine ag (cj (kf.b 15 rfl) rfl (ad 0 hn rfl) (fZ (aE rfl e_ (ad 1 hn rfl) bE) (cU rfl) (ad 1 hn rfl))) ?_;refine ag (cj (kf.b 16 rfl) rfl (ad 0 hn rfl) (fZ (aE rfl e_ (ad 2 hn rfl) bE) (aT (cU rfl)) (ad 2 hn rfl))) ?_;exact ai
noncomputable def mu:List Str:=[Str.ofString "shelf"]
noncomputable def mi:List Str:=[Str.ofString "table",Str.ofString "number",Str.ofString "generation",Str.ofString "value"]
noncomputable def uH:List Str:=[Str.ofString "copied",Str.ofString "Shelf"]
def qM:PS:=(aj (dC (ak 1) (ak 2) (dK (ah (ak 3) (ah (aA oC (ah (ak 4) aq)) aq))))
 am)
def jF:PS:=(aj (gP [3,4] (bh aR (fld 404 (Str.ofString "table") (ak 0)) (ak 2)))
 qM)
def qN:PS:=(aj (bQ (aA gK (ah (ak 1) (ah (aA oC (ah (fld 404 (Str.ofString "trailer") (ak 0)) aq)) aq))))
 am)
def qO:PS:=(aj (forS 2 (fld 404 (Str.ofString "table") (ak 0)) jF)
 qN)
def uV:PS:=(aj (cS 1 (fW (.nd [])))
 qO)
theorem uE{W:Wd}(kf:KF W.K){N:Nat}(ou:ax W N (.ref 301) oC)(el:ax W N (.ref 404) gK){sp:ao}(hsp:gh mu mi (uV) sp):ax W (N+1) (.ref 413) sp:=by
 refine aO (ps:=mu) (more:=mi) (globs:=uH) (kf.f 14 rfl) rfl (by decide+kernel) (dI fun O O O O O O O O O O=> .of_eq rfl) (fun X hn hg hsc hnn hm=> ?_) hsp
 refine ag (ar 1 hn hm rfl (bl rfl) rfl (cU rfl)) ?_;refine ag (fY 2 hn hg hsc hnn hm rfl (bl rfl) (fun O=>rfl) (aB (kf.b 17 rfl) rfl (ad 0 hn rfl)) (fun X hA hE hn hg hsc hnn hm=>(by {refine ag (dL hn hm (.cons 3 rfl (by decide) rfl (.cons 4 rfl (by decide) rfl .nil)) rfl rfl (aU (fun O O=>rfl) aD (aB (kf.b 17 rfl) rfl (ad 0 hn rfl)) (ad 2 hn rfl))) ?_;refine ag (bI rfl (ad 1 hn rfl) (ad 2 hn rfl) (bB (ae rfl (ad 3 hn rfl) (ae rfl (au 0 hg rfl (kf.n 11 rfl) (kf.b 11 rfl) ou (bn hnn) rfl rfl (ae rfl (ad 4 hn rfl) af)) af)))) ?_;exact ai}))) ?_
 refine ag (aL (au 1 hg rfl (kf.n 17 rfl) (kf.b 21 rfl) el (bn hnn) rfl rfl (ae rfl (ad 1 hn rfl) (ae rfl (au 0 hg rfl (kf.n 11 rfl) (kf.b 11 rfl) ou (bn hnn) rfl rfl (ae rfl (aB (kf.b 20 rfl) rfl (ad 0 hn rfl)) af)) af)))) ?_;exact ai
noncomputable def tU:List Str:=[Str.ofString "shelf",Str.ofString "pair"]
noncomputable def tQ:List Str:=[Str.ofString "number",Str.ofString "generation"]
noncomputable def Bg:List Str:=[]
def B3:PS:=(aj (gP [2,3] (ak 1))
 (aj (bQ (EL (bh BQ (ak 2) (fld 404 (Str.ofString "table") (ak 0))) (bh eG (bh aR (bh aR (fld 404 (Str.ofString "table") (ak 0)) (ak 2)) (aK (.int 0))) (ak 3))))
 am))
theorem Bb{W:Wd}(kf:KF W.K){N:Nat}{sp:ao}(hsp:gh tU tQ (B3) sp):ax W (N+1) (.ref 607) sp:=by
 refine aO (ps:=tU) (more:=tQ) (globs:=Bg) (kf.f 39 rfl) rfl (by decide+kernel) (cF fun O O O O O O O O O O O=> .of_eq rfl) (fun X hn hg hsc hnn hm=> ?_) hsp
 refine ag (dL hn hm (.cons 2 rfl (by decide) rfl (.cons 3 rfl (by decide) rfl .nil)) rfl rfl (ad 1 hn rfl)) ?_
 refine ag (aL (rj (fX rfl lO (ad 2 hn rfl) (aB (kf.b 17 rfl) rfl (ad 0 hn rfl))) (rk (fX rfl bt (aU (fun O O=>rfl) aD (aU (fun O O=>rfl) aD (aB (kf.b 17 rfl) rfl (ad 0 hn rfl)) (ad 2 hn rfl)) av) (ad 3 hn rfl))))) ?_;exact ai
noncomputable def j8:List Str:=[Str.ofString "shelf"]
noncomputable def j3:List Str:=[Str.ofString "found",Str.ofString "root"]
noncomputable def rh:List Str:=[Str.ofString "dict",Str.ofString "spots",Str.ofString "isinstance",Str.ofString "Reference"]
def iz:PS:=(i9 1 (aj (bQ (ak 1))
 am))
def oR:PS:=(aj (ew (aX (isi (eY (.ref 273)) (ak 2))) (aj (dC (ak 1) (fld 273 (Str.ofString "number") (ak 2)) (aK (.bool true)))
 am) am)
 iz)
def oS:PS:=(aj (cS 2 (cq Ew pG (fld 404 (Str.ofString "trailer") (ak 0)) (ah (aK (.str (Str.ofString "Root"))) aq)))
 oR)
def si:PS:=(aj (cS 1 (aA gg (ah (d7 lY cu [] (aA dX (ah (ak 0) aq)) d9 (dK (ah (fld 273 (Str.ofString "number") (fld 452 (Str.ofString "reference") (ak 0))) (ah (aK (.bool true)) aq)))) aq)))
 oS)
theorem rc{W:Wd}(kf:KF W.K){N:Nat}(cD:ax W N (.ref 498) dX){sp:ao}(hsp:gh j8 j3 (si) sp):ax W (N+1) (.ref 612) sp:=by
 refine aO (ps:=j8) (more:=j3) (globs:=rh) (kf.f 40 rfl) rfl (by decide+kernel) (dI fun O O O O O O O O O O=> .of_eq rfl) (fun X hn hg hsc hnn hm=> ?_) hsp
 refine ag (ar 1 hn hm rfl (bl rfl) rfl (bd 0 hg rfl (kf.n 7 rfl) rfl (by decide) (.inr ⟨_,rfl⟩) gA rfl rfl (ae rfl (c8 (tgs:=[Str.ofString "spot"]) (frs:=[]) (gs:=[]) (fi:=[]) (by decide+kernel) hsc hn cW bL cY (fun O=>rfl) (au 1 hg rfl (kf.n 23 rfl) (kf.b 40 rfl) cD (bn hnn) rfl rfl (ae rfl (ad 0 hn rfl) af)) (fun Xc hn hg hnc=>have hnn:=hnc.trans hnn;fS) (fun Xc hn hg hnc=>have hnn:=hnc.trans hnn;(bB (ae rfl (aB (kf.b 3 rfl) rfl (aB (kf.b 36 rfl) rfl (ad 0 hn rfl))) (ae rfl gC af))))) af))) ?_
 refine ag (ar 2 hn hm rfl (bl rfl) rfl (br iL gB rfl rfl rfl (aB (kf.b 20 rfl) rfl (ad 0 hn rfl)) (ae rfl aI af))) ?_;refine ag (be (bj rfl (fc 2 3 hg rfl (kf.n 0 rfl) rfl rfl (kf.n 9 rfl) (kf.a 8 rfl) rfl rfl rfl (ad 2 hn rfl))) (by {refine ag (bI rfl (ad 1 hn rfl) (aB (kf.b 3 rfl) rfl (ad 2 hn rfl)) gC) ?_;exact ai}) ai) ?_
 refine cV 1 ?_;refine ag (aL (ad 1 hn rfl)) ?_;exact ai
end
section
variable {W:Wd}
theorem kZ{K V:Type}[DecidableEq K]:∀(l acc:List (K×V)),((acc++l).map (·.1)).Nodup→eE acc l=acc++l
 |[],acc,_=>by simp[eE]
 |(k,v)::l,acc,h=>by
  have hk:acc.lookup k=none:=by
   rw[List.lookup_eq_none_iff];intro p hp;rw[List.map_append,List.nodup_append]at h;exact bne_iff_ne.mpr fun e=>h.2.2 p.1 (List.mem_map.mpr ⟨p,hp,rfl⟩) k (by simp) e.symm
  show eE (bk k v acc) l=_;rw[eQ hk,kZ l (acc++[(k,v)]) (by simpa using h)]
  simp
theorem Iw{n:Nat}{f:Value}:ax W n f (fun O O O=>False):=fun A kept F vs cs sg s Q K E hh hd hu C hv hq=>hq.elim
theorem jT{d:Nat}{c:CV}{sg:Sg}{Q:CV→Sg→Prop}(x:String)(hx:Dx c=some (Str.ofString x))(h1:x≠"array")(h2:x≠"dict")(h3:x≠"stream")(hq:Q c sg):qD (g9 d) (List.map some [c]++List.map (fun O=>none) lg) sg (jn Q):=
 ⟨_,hx,false,jw h1,.n ⟨false,jw h2,.n ⟨false,jw h3,.n (rs hq)⟩⟩⟩
theorem Cj{d:Nat}{l:List CV}{sg:Sg}{Q:CV→Sg→Prop}(hl:l.length≤1000)(hx:∀x∈l,PV d x)(hq:Q (.lst l) sg):qD (g9 d) (List.map some [.lst l]++List.map (fun O=>none) lg) sg (jn Q):=by
 refine⟨_,rfl,true,wF _,.y ⟨trivial,hl,?_⟩⟩;have:=h7 (f:=id) (g:=id) (sg:=sg) (Q:=B6 Q) (frs:=[]) (pe:=aA (g9 d) (ah (ak 0) aq)) l (fun s hs K hK=>⟨hx s hs,hK⟩) ((List.map_id l).symm▸rs hq);rw[List.map_id]at this;exact this
theorem D5{d:Nat}{l:Hd}{sg:Sg}{Q:CV→Sg→Prop}(hl:l.length≤1000)(hnd:(l.map (·.1)).Nodup)(hx:∀p∈l,PV d p.2)(hq:Q (.sd l) sg):qD (g9 d) (List.map some [.sd l]++List.map (fun O=>none) lg) sg (jn Q):=by
 refine⟨_,rfl,false,jw (by decide),.n ⟨true,wF _,.y ⟨trivial,Nat.le_trans (Nat.le_of_eq (List.length_map (as:=l) fun p:Str×CV=>CV.str p.1)) hl,?_⟩⟩⟩
 refine h7 (f:=fun p:Str×CV=>CV.str p.1) (g:=fun p:Str×CV=>CV.tup [.str p.1,p.2]) l (fun p hp K hK=>⟨p.2,⟨l,rfl,cH hnd hp⟩,hx p hp,sm rfl,hK⟩) ?_;refine .inl ⟨l,rfl,hl,fun a=> ?_⟩;have e:=kZ l [] hnd;exact⟨_,_,.head,rfl,e.symm▸rs hq⟩
theorem CM(kf:KF W.K):∀d,ax W (d+2) (.ref 301) (g9 d):=by
 intro d;induction d with
 |zero=>exact Iw.weaken fun cs sg Q (h:iP 0 sg Q cs)=>iP.casesOn h @fun c hp O=>hp
 |succ d ih=>
  refine Ed (N:=d+2) kf ((di kf).up (Nat.succ_le_succ (Nat.zero_le _))) ih fun sg Q cs (h:iP (d+1) sg Q cs)=>iP.casesOn h @fun c hp hq=>⟨rfl,?_⟩;cases c with
  |none=>exact jT "null" rfl (by decide) (by decide) (by decide) hq
  |int i=>exact jT "int" rfl (by decide) (by decide) (by decide) hq
  |obj C fs=>
   rcases hp with rfl|rfl
   ·exact jT "name" rfl (by decide) (by decide) (by decide) hq
   ·exact jT "ref" rfl (by decide) (by decide) (by decide) hq
  |lst l=>exact Cj (Nat.le_trans hp.1 (by decide)) hp.2 hq
  |sd l=>exact D5 (Nat.le_trans hp.1 (by decide)) hp.2.1 hp.2.2 hq
  |_=>exact hp.elim
theorem ou(kf:KF W.K):ax W 6 (.ref 301) oC:=CM kf 4
theorem wj{c:CV}{sg:Sg}{Q:CV→Sg→Prop}(x:String)(hx:Dx c=some (Str.ofString x))(h1:x≠"array")(h2:x≠"dict")(h3:x≠"stream")(hq:Q (.lst []) sg):pN (List.map some [c]++List.map (fun O=>none) j4) sg (jn Q):=
 ⟨_,hx,false,jw h1,.n ⟨false,jw h2,.n ⟨false,jw h3,.n ⟨sm rfl,fun a=>⟨_,_,.head,rfl,rs hq⟩⟩⟩⟩⟩
theorem Gn{l:Hd}{sg:Sg}{Q:CV→Sg→Prop}(hl:l.length<64)(hnd:(l.map (·.1)).Nodup)(hq:∀vs:List CV,vs.Perm (l.map (·.2))→Q (.lst vs) sg):pN (List.map some [.sd l]++List.map (fun O=>none) j4) sg (jn Q):=by
 refine⟨_,rfl,false,jw (by decide),.n ⟨true,wF _,.y ⟨hl,fun ks hp=>⟨trivial,?_,?_⟩⟩⟩⟩
 ·show(ks.map CV.str).length≤1000;rw[List.length_map,hp.length_eq,List.length_map];exact Nat.le_trans (Nat.le_of_lt hl) (by decide)
 ·refine h7 (f:=CV.str) (g:=fun k=>(l.lookup k).getD .none) ks (fun k hk K hK=> ?_) (rs (hq _ ?_))
  ·obtain⟨p,hp',rfl⟩:=List.mem_map.mp (hp.mem_iff.mp hk);have e:=cH hnd hp';rw[e]at hK;exact⟨p.2,⟨l,rfl,e⟩,hK⟩
  ·refine(hp.map _).trans ?_;rw[List.map_map];exact List.Perm.of_eq (List.map_congr_left fun p hp'=>congrArg (fun x:Option CV=>x.getD .none) (cH hnd hp'))
theorem nL(kf:KF W.K):ax W 3 (.ref 306) n7:=by
 refine Bc (N:=2) kf ((di kf).upb rfl) fun sg Q cs (h:lL sg Q cs)=>lL.casesOn h @fun c h=>⟨rfl,?_⟩;rcases h with⟨l,rfl,hl,hq⟩|⟨l,rfl,hl,hnd,hq⟩|⟨hl,hq⟩
 ·exact⟨_,rfl,true,wF _,.y ⟨l,rfl,Nat.le_trans hl (by decide),rs hq⟩⟩
 ·exact Gn hl hnd hq
 ·cases c with
  |int i=>exact wj "int" rfl (by decide) (by decide) (by decide) hq
  |obj C fs=>
   obtain⟨rfl,x,rfl⟩:=hl;exact wj "name" rfl (by decide) (by decide) (by decide) hq
  |_=>exact hl.elim
end
section
variable {W:Wd}
noncomputable def KW:CV→Nat
 | .lst l=>1+l.length
 |_=>1
noncomputable def Al(us:List CV):Nat:=(us.map KW).sum
theorem oF:∀us:List CV,us.length≤Al us
 |[]=>Nat.le_refl _
 |c::us=>by
  have:=oF us;have h1:1≤KW c:=by cases c<;>first|exact Nat.le_refl 1|exact Nat.le_add_right 1 _
  exact Nat.le_trans (Nat.le_of_eq (Nat.add_comm _ 1)) (Nat.add_le_add h1 this)
theorem kR.isi{c:CV}(h:kR c):∃t,C7 c=some t∧(eY (.ref 273)).lookup t=some false:=by
 cases c with
 |int i=>exact⟨_,rfl,rfl⟩
 |obj C fs=>obtain⟨rfl,x,rfl⟩:=h;exact⟨_,rfl,rfl⟩
 |_=>exact h.elim
theorem kR.ne{c:CV}(h:kR c)(r:Int):c≠aG r:=by
 rintro rfl;have h:(273:Nat)=202:=h.1;lia
noncomputable def K5(b:Bool)(r:Int):List CV:=if b=true then[eK r]else[]
noncomputable def Jt(b:Bool)(r:Int):Pd:=if b=true then[([r,0],.bool true)]else[]
theorem EB{rest:Sg}{fa sa la:Addr}{v0:CV}{r:Int}{Q:Fl→bp→Sg→Prop}:∀(fuel:Nat) (us:List CV) (b:Bool) (here:Option CV),Al us<fuel→Al us≤800→(∀c∈us,sj r c)→((b=true∨∃c∈us,c=aG r)→∀h,Q .next [some v0,some (.ref fa),some (.ref sa),some (.ref la),h] ((la,.lst [])::(sa,.pd (Jt true r))::(fa,.lst [eK r])::rest))→
  ((b=false∧∀c∈us,c≠aG r)→∀h,Q .next [some v0,some (.ref fa),some (.ref sa),some (.ref la),h] ((la,.lst [])::(sa,.pd (Jt false r))::(fa,.lst [])::rest))→
  kj ec d_ fuel [some v0,some (.ref fa),some (.ref sa),some (.ref la),here] ((la,.lst us.reverse)::(sa,.pd (Jt b r))::(fa,.lst (K5 b r))::rest) Q:=by
 intro fuel;induction fuel with
 |zero=>intro us b here h;exact absurd (by assumption) (Nat.not_lt_zero _)
 |succ fuel ih=>
  intro us b here hfu hz hs h1 h2;have hl:=oF us;cases us with
  |nil=>
   refine⟨false,⟨[],.head _,by simp,rfl⟩,.n ?_⟩
   cases b with
   |true=>exact h1 (.inl rfl) _
   |false=>exact h2 ⟨rfl,fun O h=>(by exact mn h)⟩ _
  |cons c us=>
   simp only[Al,List.map_cons,List.sum_cons]at hfu hz;refine⟨true,⟨_,.head _,by simp at hl ⊢;have:=oF us;simp only[Al]at this;lia,by simp⟩,.y ?_⟩
   rw[List.reverse_cons];refine⟨⟨_,.head _⟩,?_⟩;refine⟨us.reverse,c,_,.head,ay (by have:=oF us;simp only[Al]at this;simp;lia),?_⟩
   have hs':∀c'∈us,sj r c':=fun c' h'=>hs c' (.tail _ h');have step:∀ps:List CV,(∀c∈ps,sj r c)→c≠aG r→((∀p∈ps,p≠aG r)→True)→(∀p∈ps,kR p)→Al ps+1≤KW c→kj ec d_ fuel [some v0,some (.ref fa),some (.ref sa),some (.ref la),some c] ((la,.lst (us.reverse++ps.reverse))::(sa,.pd (Jt b r))::(fa,.lst (K5 b r))::rest) Q:=by
    intro ps hps hc _ hlf hw;have:=ih (ps++us) b (some c) (by simp only[Al,List.map_append,List.sum_append]at hw ⊢;lia) (by simp only[Al,List.map_append,List.sum_append]at hw ⊢;lia) (fun c' h'=>(List.mem_append.mp h').elim (hps c') (hs' c')) (fun h=>h1 (h.imp_right fun⟨c',h',e⟩=>(List.mem_append.mp h').elim (fun h'=>absurd e ((hlf c' h').ne r)) fun h'=>⟨c',.tail _ h',e⟩)) (fun⟨hb,hn⟩=>h2 ⟨hb,fun c' h'=>by
     rcases List.mem_cons.mp h' with rfl|h'
     ·exact hc
     ·exact hn c' (List.mem_append_right _ h')⟩)
    rw[List.reverse_append]at this;exact this
   cases hs c (.head _)with
   |leaf hlf=>
    obtain⟨t,e1,e2⟩:=hlf.isi;refine⟨t,false,e1,e2,false,rfl,.n ?_⟩;refine⟨⟨_,.head _⟩,⟨.inr (.inr ⟨hlf,?_⟩)⟩⟩;refine⟨[],la,_,_,rfl,rfl,.head,ay (by have:=oF us;simp only[Al]at this;simp;lia),?_⟩
    exact step [] (fun O h=>(by exact mn h)) (hlf.ne r) (fun O=>trivial) (fun O h=>(by exact mn h)) (by cases c<;>first|exact Nat.le_refl 1|exact Nat.le_add_right 1 _)
   | @nums is his=>
    refine⟨_,false,rfl,rfl,false,rfl,.n ?_⟩;refine⟨⟨_,.head _⟩,⟨.inl ⟨_,rfl,by simp[bZ];exact Nat.le_trans (by assumption) (by decide),?_⟩⟩⟩
    refine⟨_,la,_,_,rfl,rfl,.head,ay (by have:=oF us;simp only[Al]at this;simp[bZ];lia),?_⟩
    have hlf:∀p∈bZ is,kR p:=fun p hp=>by
     obtain⟨i,_,rfl⟩:=List.mem_map.mp hp;trivial
    refine step (bZ is) (fun c hc=> .leaf (hlf c hc)) (fun h=>(by cases h)) (fun O=>trivial) hlf ?_
    have:∀is:List Int,Al (bZ is)=(bZ is).length:=fun is=>by
     induction is with
     |nil=>rfl
     |cons i is ih=>simp only[Al,bZ,List.map_cons,List.sum_cons,List.length_cons]at ih ⊢;rw[ih];exact Nat.add_comm 1 _
    rw[this,Nat.add_comm];exact Nat.le_refl _
   |ref=>
    refine⟨_,true,rfl,rfl,true,rfl,.y ?_⟩;refine⟨⟨rfl,rfl⟩,r,rfl,?_⟩;refine⟨b,⟨[r,0],_,rfl,.tail _ (.head _),by cases b<;>simp[Jt]⟩,!b,rfl,?_⟩
    have fin:∀b',b'=true→kj ec d_ fuel [some v0,some (.ref fa),some (.ref sa),some (.ref la),some (aG r)] ((la,.lst us.reverse)::(sa,.pd (Jt b' r))::(fa,.lst (K5 b' r))::rest) Q:=fun b' hb'=>ih us b' _ (by have:KW (aG r)=1:=rfl;simp only[Al]at hfu ⊢;lia) (by simp only[Al]at hz ⊢;exact Nat.le_trans (Nat.le_trans (Nat.le_add_left _ _) (by assumption)) (by decide)) hs' (fun O=>h1 (.inr ⟨_,.head _,rfl⟩)) (fun⟨hb,_⟩=>by rw[hb']at hb;exact tf hb)
    cases b with
    |true=>
     refine⟨fun h=>(by exact ff h),fun O=> ?_⟩
     exact fin true rfl
    |false=>
     refine⟨fun O=>⟨⟨rfl,rfl⟩,r,rfl,[r,0],_,_,rfl,.tail .head,by simp[Jt],?_⟩,fun h=>(by exact tf h)⟩
     refine⟨⟨_,.tail _ (.tail _ (.head _))⟩,⟨rfl,rfl⟩,r,rfl,?_⟩;refine⟨_,_,.tail (.tail .head),ay (by simp[K5]),?_⟩
     exact fin true rfl
theorem fm(kf:KF W.K):ax W 4 (.ref 313) fq:=by
 refine sO (N:=3) kf ((az kf).upb rfl) (nL kf) fun sg Q cs (h:fQ sg Q cs)=> ?_
 ·refine fQ.casesOn h @fun l r hl hnd hs hq1 hq2=>⟨rfl,?_⟩;refine⟨sm rfl,fun fa=> ?_⟩;intro sa;refine⟨sm rfl,fun la=> ?_⟩;refine⟨801,?_⟩;refine⟨true,⟨_,.head _,by simp,rfl⟩,.y ?_⟩
  refine⟨⟨_,.head _⟩,?_⟩;refine⟨[],_,_,.head,sm rfl,?_⟩;refine⟨_,false,rfl,rfl,false,rfl,.n ?_⟩;refine⟨⟨_,.head _⟩,⟨.inr (.inl ⟨l,rfl,hl,hnd,fun vs hvs=> ?_⟩)⟩⟩;have hlen:vs.length<64:=by rw[hvs.length_eq,List.length_map];exact hl
  refine⟨_,la,_,_,rfl,rfl,.head,ay (by simp;exact Nat.le_trans (Nat.le_of_lt (by assumption)) (by decide)),?_⟩
  have hvs':∀c∈vs,sj r c:=fun c hc=>by
   obtain⟨p,hp,rfl⟩:=List.mem_map.mp (hvs.mem_iff.mp hc);exact hs p hp
  have hw:∀vs:List CV,(∀c∈vs,sj r c)→Al vs≤9*vs.length:=by
   intro vs;induction vs with
   |nil=>intro _;simp[Al]
   |cons c vs ih=>
    intro h;have h1:=ih fun c' h'=>h c' (.tail _ h');have h2:KW c≤9:=by
     cases h c (.head _)with
     |leaf hl=>cases c<;>first|exact hl.elim|exact Nat.le_of_ble_eq_true rfl
     |nums hi=>exact Nat.le_trans (Nat.add_le_add_left (Nat.le_trans (Nat.le_of_eq (List.length_map ..)) hi) 1) (by decide)
     |ref=>exact Nat.le_of_ble_eq_true rfl
    simp only[Al,List.map_cons,List.sum_cons,List.length_cons]at h1 ⊢;lia
  have hw:=hw vs hvs';refine EB (r:=r) 800 vs false _ (by lia) (by lia) hvs' (fun hx h=> ?_) (fun⟨_,hn⟩ h=> ?_)
  ·unfold fV;refine⟨_,List.Sublist.cons _ (List.Sublist.cons _ (List.Sublist.refl _)),hq1 ?_ fa⟩;rcases hx with hx|⟨c,hc,rfl⟩
   ·exact ff hx
   ·refine el12 (List.mem_map.mp (hvs.mem_iff.mp hc)) fun p hp e=> ?_;exact⟨p,hp,e⟩
  ·unfold fV;refine⟨_,List.Sublist.cons _ (List.Sublist.cons _ (List.Sublist.refl _)),hq2 (fun p hp=> ?_) fa⟩;exact hn p.2 (hvs.mem_iff.mpr (List.mem_map.mpr ⟨p,hp,rfl⟩))
theorem tv{self:ao}{c:CV}{ta:Addr}{sg:Sg}{Q:CV→Sg→Prop}(x:String)(hx:Dx c=some (Str.ofString x))(h1:x≠"array")(h2:x≠"dict")(h3:x≠"stream")(h4:x≠"ref")(hq:Q c sg):gn self (List.map some [c,.ref ta]++List.map (fun O=>none) ey) sg (jn Q):=
 ⟨_,hx,false,jw h4,.n ⟨false,jw h1,.n ⟨false,jw h2,.n ⟨false,jw h3,.n (rs hq)⟩⟩⟩⟩
theorem uU{self:ao}{c:CV}{ta:Addr}{sg:Sg}{Q:CV→Sg→Prop}(hl:kR c)(hq:Q c sg):gn self (List.map some [c,.ref ta]++List.map (fun O=>none) ey) sg (jn Q):=by
 cases c with
 |int i=>exact tv "int" rfl (by decide) (by decide) (by decide) (by decide) hq
 |obj C fs=>
  obtain⟨rfl,x,rfl⟩:=hl;exact tv "name" rfl (by decide) (by decide) (by decide) (by decide) hq
 |_=>exact hl.elim
theorem HL(kf:KF W.K):ax W 4 (.ref 318) H1:=
 fp_renumbered (N:=3) kf ((di kf).upb rfl) ((az kf).upb rfl) ((bx kf).upb rfl) Iw fun sg Q cs (h:yX sg Q cs)=>yX.casesOn h @fun O O tab htab hl hq=>⟨rfl,uU hl hq⟩
theorem oz{tab:Pd}{c:CV}(h:kR c):oV tab c=c:=by
 cases c with
 |int i=>rfl
 |obj C fs=>obtain⟨rfl,x,rfl⟩:=h;rfl
 |_=>exact h.elim
theorem Gz{self:ao}{is:List Int}{ta:Addr}{sg:Sg}{Q:CV→Sg→Prop}(hi:∀k∈is,∀K:CV→Sg→Prop,K (.int k) sg→self [.int k,.ref ta] sg K)(his:is.length≤1000)(hq:Q (.lst (bZ is)) sg):gn self (List.map some [.lst (bZ is),.ref ta]++List.map (fun O=>none) ey) sg (jn Q):=by
 refine⟨_,rfl,false,jw (by decide),.n ⟨true,wF _,.y ⟨trivial,Nat.le_trans (Nat.le_of_eq (List.length_map ..)) his,?_⟩⟩⟩
 exact h7 (f:=CV.int) (g:=CV.int) is (fun k hk K hK=>hi k hk K hK) (rs hq)
theorem HU{self:ao}{n m:Int}{z:CV}{ta:Addr}{tab:Pd}{sg:Sg}{Q:CV→Sg→Prop}(htab:(ta,MO.pd tab)∈sg)(hl:tab.lookup [n,0]=some (.tup [.int m,z]))(hz:z= .int 0)(hq:Q (aG m) sg):gn self (List.map some [aG n,.ref ta]++List.map (fun O=>none) ey) sg (jn Q):=by
 subst hz;refine⟨_,rfl,true,wF _,.y ⟨⟨rfl,rfl⟩,n,rfl,true,⟨[n,0],_,rfl,htab,by rw[hl];rfl⟩,false,rfl,.n ⟨⟨rfl,rfl⟩,n,rfl,_,⟨[n,0],_,rfl,htab,hl⟩,rfl,?_⟩⟩⟩
 exact⟨rfl,fun a dx=>⟨_,_,.head,rfl,rs hq⟩⟩
theorem Gy{tab:Pd}{n m:Int}{z:CV}(hl:tab.lookup [n,0]=some (.tup [.int m,z])):oV tab (aG n)=aG m:=by
 show(match tab.lookup [n,0]with
  |some (.tup [.int m,_])=>aG m
  |_=> .none)=_
 rw[hl]
theorem HM(kf:KF W.K):ax W 5 (.ref 318) H4:=by
 refine fp_renumbered (N:=4) kf ((di kf).upb rfl) ((az kf).upb rfl) ((bx kf).upb rfl) (HL kf) fun sg Q cs (h:yY sg Q cs)=>yY.casesOn h @fun c ta tab htab hl hq=>⟨rfl,?_⟩;rcases hl with hl|⟨is,rfl,his⟩|⟨n,m,rfl,hl⟩
 ·exact uU hl (oz hl▸hq)
 ·exact Gz (fun k hk K hK=>⟨tab,htab,trivial,hK⟩) (Nat.le_trans his (by decide)) hq
 ·exact HU htab hl rfl (Gy hl▸hq)
theorem ED{tab:Pd}{c:CV}(h:Dg tab c):isNone (oV tab c)=false:=by
 rcases h with hl|⟨is,rfl,his⟩|⟨n,m,rfl,hl⟩
 ·refine(oz hl).symm▸?_;cases c with
  |none=>exact hl.elim
  |_=>rfl
 ·rfl
 ·show isNone (match tab.lookup [n,0]with
   |some (.tup [.int m,_])=>aG m
   |_=> .none)=_
  rw[hl];rfl
theorem eB(kf:KF W.K):ax W 6 (.ref 318) fN:=by
 refine fp_renumbered (N:=5) kf ((di kf).upb rfl) ((az kf).upb rfl) ((bx kf).upb rfl) (HM kf) fun sg Q cs (h:iK sg Q cs)=> ?_
 ·refine iK.casesOn h @fun l ta tab htab hlen hnd hl hq=>⟨rfl,?_⟩;refine⟨_,rfl,?_⟩;refine⟨false,jw (by decide),.n ?_⟩
  refine⟨false,jw (by decide),.n ?_⟩
  refine⟨true,wF _,.y ⟨trivial,ay (by show(l.map fun p:Str×CV=>CV.str p.1).length≤1000;rw[List.length_map];exact Nat.le_trans (by assumption) (by decide)),?_⟩⟩
  show Ak lY d9 _ _ (l.map fun p:Str×CV=>CV.str p.1) [] sg _;refine h7 (f:=fun p:Str×CV=>CV.str p.1) (g:=fun p:Str×CV=>CV.tup [.str p.1,oV tab p.2]) l (fun p hp K hK=> ?_) ?_
  ·try dsimp only[List.map_cons,List.map_nil,List.cons_append,List.nil_append,List.set_cons_zero,List.set_cons_succ]
   exact⟨p.2,⟨l,rfl,cH hnd hp⟩,tab,htab,hl p hp,sm rfl,hK⟩
  ·unfold l8 d7;refine⟨trivial,ay (by show(l.map fun p:Str×CV=>CV.tup [.str p.1,oV tab p.2]).length≤1000;rw[List.length_map];exact Nat.le_trans (by assumption) (by decide)),?_⟩
   show Ak lY _ _ _ (l.map fun p:Str×CV=>CV.tup [.str p.1,oV tab p.2]) [] sg _;refine cZ (f:=fun p:Str×CV=>CV.tup [.str p.1,oV tab p.2]) (g:=fun p:Str×CV=>CV.tup [.str p.1,oV tab p.2]) (p:=fun O=>true) l [] (fun p hp K hK=> ?_) (fun p hp O K hK=> ?_) ?_
   ·try dsimp only[List.map_cons,List.map_nil,List.cons_append,List.nil_append,List.set_cons_zero,List.set_cons_succ]
    refine⟨_,.inr (.inr ⟨_,1,rfl,sm rfl,rfl,rfl⟩),true,?_,hK⟩
    (show _=_;simp[oA,ED (hl p hp)])
   ·try dsimp only[List.map_cons,List.map_nil,List.cons_append,List.nil_append,List.set_cons_zero,List.set_cons_succ]
    exact hK
   ·have e0:(l.filter fun O=>true)=l:=List.filter_eq_self.mpr fun O O=>rfl;rw[e0,List.nil_append];refine .inl ⟨l.map fun p=>(p.1,oV tab p.2),by simp,by simp;exact Nat.le_trans (by assumption) (by decide),fun a=> ?_⟩
    have e:=kZ (l.map fun p=>(p.1,oV tab p.2)) [] (by simpa [List.map_map,Function.comp_def] using hnd)
    rw[e,List.nil_append];exact rs (hq a)
theorem Kt{vs:List Value}{F:Fz}{a:Addr}{sg:Sg}{Q:CV→Sg→Prop}{dx:Addr}{sg1:Sg}(he:sg=(a,.obj 404 dx [])::sg1)(hq:∀t,Q .none ((t,.nd [])::(a,.obj 404 dx (jo (.ref t) []))::sg1))(hv:b6 W F vs [.ref a]):
  ∃v,vs=[v]∧b6 W F [v,.none,.none] [.ref a,.none,.none]∧gm [some (.ref a),some .none,some .none] sg (jn Q):=by
 refine hv.onCons fun v r v1 hv=> ?_;refine hv.onNil ?_;subst he;exact⟨_,rfl,.cons v1 (.cons .none (.cons .none .nil)),true,rfl,.y fun t=>⟨a,dx,_,_,rfl,.tail .head,ej rfl,true,rfl,.y fun e=>⟨_,_,.head,rfl,a,dx,_,_,rfl,.tail .head,ej rfl,rs (hq t)⟩⟩⟩
theorem Ks{vs:List Value}{F:Fz}{a:Addr}{c:CV}{R:Hd}{sg:Sg}{Q:CV→Sg→Prop}{dx:Addr}{sg1:Sg}(he:sg=(a,.obj 404 dx [])::sg1)(hc:isNone c=false)(hq:Q .none ((a,.obj 404 dx (jo c R))::sg1))(hv:b6 W F vs [.ref a,c,.sd R]):
  (∃v w u,vs=[v,w,u])∧gm [some (.ref a),some c,some (.sd R)] sg (jn Q):=by
 refine hv.onCons fun v r v1 hv=> ?_;refine hv.onCons fun w r v2 hv=> ?_;refine hv.onCons fun u r v3 hv=> ?_;refine hv.onNil ?_;subst he;exact⟨⟨_,_,_,rfl⟩,false,hc.symm,.n ⟨a,dx,_,_,rfl,.head,ej rfl,false,rfl,.n ⟨a,dx,_,_,rfl,.head,ej rfl,rs hq⟩⟩⟩
theorem ql(kf:KF W.K):ax W 1 (.ref 333) qt:=by
 refine dp fun C_ k_=> ?_;obtain⟨T,o,n,⟨name,qual,kV,doc,pm,an,cdv,ct,oc,od,osl,h1,h2⟩,h3,h4⟩:=kf.dfl;refine k_ ?_;refine Iq [Str.ofString "self",Str.ofString "table",Str.ofString "trailer"] [] jb h1 h2 (by decide+kernel) (fun X hn hg hsc hnn hm=>qg kf hn hg hsc hnn hm) fun F s vs cs sg Q hbase hv (h:eI sg Q cs)=> ?_
 cases h with
 |z dx sg1 he hq=>
  refine dp fun C_ k_=> ?_;obtain⟨v,e,hv',hp⟩:=Kt he hq hv;refine k_ ?_;subst e;exact⟨[v,.none,.none],_,BindsTo.of_defaults rfl (W.kin.keeps hbase _ _ h3) h4 rfl rfl,hv',rfl,hp⟩
 |s dx sg1 he hc hq=>
  obtain⟨⟨v,w,u,e⟩,hp⟩:=Ks he hc hq hv;subst e;exact⟨[v,w,u],_,BindsTo.of_defaults rfl (W.kin.keeps hbase _ _ h3) h4 rfl rfl,hv,rfl,hp⟩
theorem el(kf:KF W.K):ax W 2 (.ref 404) gK:=by
 refine(Ce (kf.c 2 rfl) (ql kf)).weaken fun cs sg Q h a dx=> ?_;cases cs with
 |nil=>exact .z dx sg rfl fun t=>⟨rfl,h a dx t⟩
 |cons c l=>cases l with
  |nil=>exact h.elim
  |cons d l=>cases d with
   |sd R=>cases l with
    |nil=>exact .s dx sg rfl h.1 ⟨rfl,h.2 a dx⟩
    |cons _ _=>exact h.elim
   |_=>exact h.elim
end
section
variable {W:Wd}
theorem xS{sg:Sg}{t:Addr}{C:Addr}{T:Tb}{R:Hd}(hT:An T){Q:Fl→bp→Sg→Prop}:∀(rest done:Tb) (x3 x4 x5:Option CV),T=done++rest→
  (∀x3 x4 x5,Q .next [some (.obj 404 (jo (.nd T) R)),some (.ref t),x3,x4,x5] ((t,.nd T)::sg))→
  dJ jF 2 (rest.map fun p=> .int p.1) [some (.obj 404 (jo (.nd T) R)),some (.ref t),x3,x4,x5] ((t,.nd done)::sg) Q
 |[],done,x3,x4,x5,e,h=>by rw[List.append_nil]at e;subst e;exact h _ _ _
 |(n,c)::rest,done,x3,x4,x5,e,h=>by
  refine mC hT fun hz hnd hv=> ?_;have hm:(n,c)∈T:=by rw[e];simp
  refine el12 (hv _ hm) fun v e1 hp=> ?_;have e1:c=cP v:=e1;subst e1;have ih:=xS (sg:=sg) (t:=t) (C:=C) (R:=R) ⟨hz,hnd,hv⟩ (Q:=Q) rest (done++[(n,cP v)]) (some (.int n)) (some (.int 0)) (some v) (by rw[e];simp) h
  rw[List.map_cons];refine⟨_,⟨rfl,rfl⟩,?_⟩;refine⟨cP v,.inl ⟨T,rfl,cH hnd hm⟩,?_⟩;refine⟨rfl,?_⟩;have hd:done.lookup n=none:=by
   rw[List.lookup_eq_none_iff];intro p hp;rw[e,List.map_append,List.nodup_append]at hnd;exact bne_iff_ne.mpr fun q=>hnd.2.2 p.1 (List.mem_map.mpr ⟨p,hp,rfl⟩) n (by simp) q.symm
  refine⟨hp,sm rfl,.inl ⟨done,_,.head,?_,?_⟩⟩
  ·rw[e]at hz;simp at hz;exact Nat.le_trans (Nat.le_trans (Nat.le_add_right _ _) (by assumption)) (by decide)
  ·have e3:bk n (CV.tup [CV.int 0,v]) done=done++[(n,cP v)]:=eQ hd;rw[e3];exact ih
theorem du(kf:KF W.K):ax W 7 (.ref 413) ev:=by
 refine uE (N:=6) kf (ou kf) ((el kf).upb rfl) fun sg Q cs (h:gy sg Q cs)=> ?_
 ·refine gy.casesOn h @fun C fs T R z4 z5 hT hR hq=>⟨rfl,?_⟩;subst z4;subst z5;intro t;refine ?_;refine⟨_,⟨rfl,rfl⟩,trivial,?_⟩;refine xS (C:=404) hT T [] _ _ _ rfl fun x3 x4 x5=> ?_;exact⟨_,⟨rfl,rfl⟩,hR,rfl,fun a dx=>rs (hq a dx t)⟩
theorem nK(kf:KF W.K):ax W 1 (.ref 607) nZ:=by
 refine Bb kf fun sg Q cs (h:lJ sg Q cs)=> ?_
 ·refine lJ.casesOn h @fun sh c T R n v hs z7 hl hq=>⟨rfl,?_⟩;subst z7;refine⟨rfl,?_⟩;refine el12 hs.table fun c1 f1 f2=> ?_;refine⟨c1,f1,true,⟨T,f2,by rw[hl];rfl⟩,true,rfl,.y ⟨c1,f1,cP v,.inl ⟨T,f2,hl⟩,.int 0,.inr (.inr ⟨_,0,rfl,sm rfl,rfl,rfl⟩),?_⟩⟩
  exact rs hq
theorem wE(d:dZ):d.spots.map (·.n)=d.nums:=by
 have h:∀(its:List pI) (ab:List Int) (m:Hd),(its.flatMap (iN ab m)).map (·.n)=its.flatMap pI.nums:=by
  intro its ab m;induction its with
  |nil=>rfl
  |cons i its ih=>
   simp only[List.flatMap_cons,List.map_append,ih]
   congr 1
   cases i with
   |page p=>rfl
   |node n l ps=>simp[iN,pI.nums,s8]
 simp[dZ.spots,dZ.nums,h]
theorem h_{K V:Type}[BEq K][LawfulBEq K]{n:K}{l:List (K×V)}(h:n∉l.map (·.1)):l.lookup n=none:=by
 rw[List.lookup_eq_none_iff];exact fun p hp=>bne_iff_ne.mpr fun e=>h (List.mem_map.mpr ⟨p,hp,e.symm⟩)
theorem gG(kf:KF W.K):ax W 7 (.ref 612) gM:=by
 refine rc (N:=6) kf (cD kf) fun sg Q cs (h:eX sg Q cs)=> ?_
 ·refine eX.casesOn h @fun sh T R d rt hs hd hr hq=>⟨rfl,?_⟩;have hz:=hd.sz;rw[←b7]at hz;refine⟨T,R,d,hs,hd,trivial,ay (by(show(List.map _ _).length≤_;rw[List.length_map]);exact Nat.le_trans (by assumption) (by decide)),?_⟩
  show Ak lY d9 _ _ (d.spots.map aS.cv) [] sg _;refine h7 (f:=aS.cv) (g:=fun s=>CV.tup [.int s.n,.bool true]) d.spots (fun s hs' K hK=> ?_) ?_
  ·try dsimp only[List.map_cons,List.map_nil,List.cons_append,List.nil_append,List.set_cons_zero,List.set_cons_succ]
   exact⟨_,⟨rfl,rfl⟩,_,⟨rfl,rfl⟩,sm rfl,hK⟩
  ·unfold gg;refine .inr ⟨d.spots.map fun s=>(s.n,CV.bool true),by simp,by simp;exact Nat.le_trans (by assumption) (by decide),fun a=> ?_⟩
   have e0:=kZ (d.spots.map fun s=>(s.n,CV.bool true)) [] (by simpa [List.map_map,Function.comp_def,wE] using hd.nd)
   rw[List.nil_append]at e0;rw[e0];refine⟨_,hs.cons _ |>.trailer,.inl ⟨R,rfl⟩,?_⟩;refine⟨R,rfl,?_⟩;rw[hr];refine⟨_,true,rfl,rfl,true,rfl,.y ?_⟩;refine⟨_,⟨rfl,rfl⟩,.inl ⟨_,_,.head,?_,?_⟩⟩
   ·rw[List.length_map];exact Nat.le_trans (by assumption) (by decide)
   ·unfold iz;refine⟨a,_,_,rfl,.head,rfl,rs (hq _ fun n hn hn'=> ?_)⟩;rw[aN,if_neg hn'];refine h_ ?_
    simpa [List.map_map,Function.comp_def,wE] using hn
end
noncomputable def qy(T:Tb)(R:Hd):CV:= .obj 404 (jo (.nd T) R)
noncomputable def xP(sh:CV)(ma ct:Addr)(B:Tb):Hd:=[(Str.ofString "shelf",sh),(Str.ofString "made",.ref ma),(Str.ofString "table",.ref ct),(Str.ofString "barred",.nd B)]
structure CW where
 ct:Addr
 ca:Addr
 cdx:Addr
 T:Tb
 R:Hd
 B:Tb
 mt:Addr
 ma:Addr
 mdx:Addr
 Rm:Hd
 rest:Sg
noncomputable def CW.sg(c:CW)(tab:Pd)(M:Tb):Sg:=(c.ct,.pd tab)::(c.ca,.obj 650 c.cdx (xP (qy c.T c.R) c.ma c.ct c.B))::(c.mt,.nd M)::(c.ma,.obj 404 c.mdx (jo (.ref c.mt) c.Rm))::c.rest
structure BX(M:Tb)(k:Nat):Prop where
 len:M.length=k
 low:∀i:Nat,1≤i→i≤k→(M.lookup (i:Int)).isSome=true
 high:∀i:Int,(k:Int)<i→M.lookup i=none
 nd:(M.map (·.1)).Nodup
 k900:k≤800
inductive dw(sg:Sg)(Q:CV→Sg→Prop):List CV→Prop
 |mk {a:Addr} {sh:CV} {ma:Addr} (dx sg1 T R d rt):sg=(a,.obj 650 dx [])::sg1→sh=qy T R→iu T R d→R.lookup (Str.ofString "Root")=some (aG rt)→(∀t B,(∀n,n∉d.nums→n≠rt→B.lookup n=none)→Q .none ((t,.pd [])::(a,.obj 650 dx (xP sh ma t B))::sg1))→dw sg Q [.ref a,sh,.ref ma]
def mJ:ao:=fun cs sg Q=>dw sg Q cs
inductive tA(sg:Sg)(Q:CV→Sg→Prop):List CV→Prop
 |mk {sh:CV} {ma:Addr} (T R d rt):sh=qy T R→iu T R d→R.lookup (Str.ofString "Root")=some (aG rt)→(∀a dx t B,(∀n,n∉d.nums→n≠rt→B.lookup n=none)→Q (.ref a) ((t,.pd [])::(a,.obj 650 dx (xP sh ma t B))::sg))→tA sg Q [sh,.ref ma]
def l0:ao:=fun cs sg Q=>tA sg Q cs
noncomputable def HQ(n:Int)(l:Hd):CV:= .obj 431 [(Str.ofString "reference",aG n),(Str.ofString "fields",.sd l)]
noncomputable def qo(tab:Pd)(p:Int)(k:Nat):Pd:=if(tab.lookup [p,0]).isSome=true then tab else bk [p,0] (eK (k+1)) tab
inductive dQ(sg:Sg)(Q:CV→Sg→Prop):List CV→Prop
 |mk {ca:Addr} {c:CV} (w:CW) (tab:Pd) (M:Tb) (k:Nat) (p:Int) (l:Hd):c=HQ p l→ca=w.ca→sg=w.sg tab M→BX M k→tab.length≤900→Q (aG (k+1)) (w.sg (qo tab p k) (bk ((k:Int)+1) (cP .none) M))→dQ sg Q [.ref ca,c]
def dG:ao:=fun cs sg Q=>dQ sg Q cs
structure E1(r:Int)(l:Hd):Prop where
 len:l.length<64
 nd:(l.map (·.1)).Nodup
 sim:∀p∈l,sj r p.2
structure mS(v:Hd):Prop where
 len:v.length<64
 nd:(v.map (·.1)).Nodup
 leaf:∀p∈v,kR p.2
inductive cR(sg:Sg)(Q:CV→Sg→Prop):List CV→Prop
 |mk {ca:Addr} {l:Hd} (w:CW) (tab:Pd) (M:Tb) (k:Nat) (r:Int) (v:Hd):ca=w.ca→sg=w.sg tab M→BX M k→tab.length≤900→E1 r l→(∃p∈l,p.2=aG r)→w.T.lookup r=some (cP (.sd v))→mS v→w.B.lookup r=none→(((tab.lookup [r,0]).isSome=true→Q (.lst []) (w.sg tab M)))→((tab.lookup [r,0]=none→Q (.lst [eK r]) (w.sg (bk [r,0] (eK (k+1)) tab) (bk ((k:Int)+1) (cP .none) M))))→cR sg Q [.ref ca,.sd l]
def cM:ao:=fun cs sg Q=>cR sg Q cs
inductive fO(sg:Sg)(Q:CV→Sg→Prop):List CV→Prop
 |mk {ca:Addr} {fresh:List CV} (w:CW) (tab:Pd) (M:Tb) (k:Nat) (r m:Int) (v:Hd):ca=w.ca→sg=w.sg tab M→BX M k→(((fresh=[]∧Q .none (w.sg tab M))∨(fresh=[eK r]∧tab.lookup [r,0]=some (eK m)∧w.T.lookup r=some (cP (.sd v))∧mS v∧Q .none (w.sg tab (bk m (cP (.sd v)) M)))))→fO sg Q [.ref ca,.lst fresh]
def fo:ao:=fun cs sg Q=>fO sg Q cs
noncomputable def kg(l:Hd):Hd:=bk dB (l_ (Str.ofString "Page")) (l.filter fun p=>p.1 !=aJ)
inductive jM(sg:Sg)(Q:CV→Sg→Prop):List CV→Prop
 |mk {c:CV} (p l):c=HQ p l→l.length≤100→(l.map (·.1)).Nodup→Q (.sd (kg l)) sg→jM sg Q [c]
def l3:ao:=fun cs sg Q=>jM sg Q cs
section
noncomputable def gT:List Str:=[Str.ofString "self",Str.ofString "shelf",Str.ofString "made"]
noncomputable def gR:List Str:=[]
noncomputable def mF:List Str:=[Str.ofString "barred_numbers"]
def kT:PS:=(aj (fG 650 (Str.ofString "barred") (ak 0) (aA gM (ah (ak 1) aq)))
 am)
def kU:PS:=(aj (fG 650 (Str.ofString "table") (ak 0) (fW (.pd [])))
 kT)
def kW:PS:=(aj (fG 650 (Str.ofString "made") (ak 0) (ak 2))
 kU)
def mT:PS:=(aj (fG 650 (Str.ofString "shelf") (ak 0) (ak 1))
 kW)
theorem mD{W:Wd}(kf:KF W.K){N:Nat}(gG:ax W N (.ref 612) gM){sp:ao}(hsp:gh gT gR (mT) sp):ax W (N+1) (.ref 626) sp:=by
 refine aO (ps:=gT) (more:=gR) (globs:=mF) (kf.f 41 rfl) rfl (by decide+kernel) (gY fun O O O O O O O O O O O O=> .of_eq rfl) (fun X hn hg hsc hnn hm=> ?_) hsp
 refine ag (cj (kf.b 57 rfl) rfl (ad 0 hn rfl) (ad 1 hn rfl)) ?_;refine ag (cj (kf.b 58 rfl) rfl (ad 0 hn rfl) (ad 2 hn rfl)) ?_;refine ag (cj (kf.b 59 rfl) rfl (ad 0 hn rfl) (cU rfl)) ?_;refine ag (cj (kf.b 61 rfl) rfl (ad 0 hn rfl) (au 0 hg rfl (kf.n 40 rfl) (kf.b 60 rfl) gG (bn hnn) rfl rfl (ae rfl (ad 1 hn rfl) af))) ?_;exact ai
noncomputable def ip:List Str:=[Str.ofString "self",Str.ofString "page"]
noncomputable def io:List Str:=[Str.ofString "reference"]
noncomputable def nj:List Str:=[]
def oG:PS:=(aj (cS 2 (bA 404 (Str.ofString "add") dH (fld 650 (Str.ofString "made") (ak 0)) (ah (aK .none) aq)))
 (aj (ew (aX (bh oB (bA 273 (Str.ofString "pair") aF (fld 431 (Str.ofString "reference") (ak 1)) aq) (fld 650 (Str.ofString "table") (ak 0)))) (aj (dC (fld 650 (Str.ofString "table") (ak 0)) (bA 273 (Str.ofString "pair") aF (fld 431 (Str.ofString "reference") (ak 1)) aq) (bA 273 (Str.ofString "pair") aF (ak 2) aq))
 am) am)
 (aj (bQ (ak 2))
 am)))
theorem ni{W:Wd}(kf:KF W.K){N:Nat}(cJ:ax W N (.ref 375) dH)(az:ax W N (.ref 270) aF){sp:ao}(hsp:gh ip io (oG) sp):ax W (N+1) (.ref 633) sp:=by
 refine aO (ps:=ip) (more:=io) (globs:=nj) (kf.f 42 rfl) rfl (by decide+kernel) (cF fun O O O O O O O O O O O=> .of_eq rfl) (fun X hn hg hsc hnn hm=> ?_) hsp
 refine ag (ar 2 hn hm rfl (bl rfl) rfl (bi (kf.b 62 rfl) cJ (bn hnn) rfl rfl rfl (aB (kf.b 63 rfl) rfl (ad 0 hn rfl)) (ae rfl bE af))) ?_;refine ag (be (aE rfl i8 (bV (kf.b 12 rfl) az (bn hnn) rfl (aB (kf.b 64 rfl) rfl (ad 1 hn rfl))) (aB (kf.b 65 rfl) rfl (ad 0 hn rfl))) (by {refine ag (bI rfl (aB (kf.b 65 rfl) rfl (ad 0 hn rfl)) (bV (kf.b 12 rfl) az (bn hnn) rfl (aB (kf.b 64 rfl) rfl (ad 1 hn rfl))) (bV (kf.b 12 rfl) az (bn hnn) rfl (ad 2 hn rfl))) ?_;exact ai}) ai) ?_
 refine ag (aL (ad 2 hn rfl)) ?_;exact ai
noncomputable def fF:List Str:=[Str.ofString "self",Str.ofString "value"]
noncomputable def fx:List Str:=[Str.ofString "line",Str.ofString "fresh",Str.ofString "at",Str.ofString "pair"]
noncomputable def ky:List Str:=[Str.ofString "references_in",Str.ofString "len",Str.ofString "is_there"]
def iX:PS:=(aj (cB (cq wf BO (ak 2) (ah (fv (aA fq (ah (bh aR (bh aR (fld 404 (Str.ofString "table") (fld 650 (Str.ofString "shelf") (ak 0))) (bh aR (ak 5) (aK (.int 0)))) (aK (.int 1))) aq))) aq)))
 am)
def iY:PS:=(aj (cB (cq wf dE (ak 3) (ah (ak 5) aq)))
 iX)
def iZ:PS:=(aj (dC (fld 650 (Str.ofString "table") (ak 0)) (ak 5) (bA 273 (Str.ofString "pair") aF (bA 404 (Str.ofString "add") dH (fld 650 (Str.ofString "made") (ak 0)) (ah (aK .none) aq)) aq))
 iY)
def i0:PS:=(aj (ew (aX (bh BQ (bh aR (ak 5) (aK (.int 0))) (fld 650 (Str.ofString "barred") (ak 0)))) (aj Fj
 am) am)
 iZ)
def i4:PS:=(aj (ew (yD (aX (bh BQ (ak 5) (fld 650 (Str.ofString "table") (ak 0)))) (yD (lz (aX (aA nZ (ah (fld 650 (Str.ofString "shelf") (ak 0)) (ah (ak 5) aq))))) Ah)) (aj Fj
 am) am)
 i0)
def i5:PS:=(aj (cS 4 (bh dD (ak 4) (aK (.int 1))))
 i4)
def eM:PB:=(aX (bh Ab (ak 4) (aA fK (ah (ak 2) aq))))
def eL:PS:=(aj (cS 5 (bh aR (ak 2) (ak 4)))
 i5)
def dh:PS:=(i9 3 (aj (bQ (ak 3))
 am))
def i6:PS:=(aj (tn eM eL)
 dh)
def i7:PS:=(aj (cS 4 (aK (.int 0)))
 i6)
def eH:PS:=(aj (cS 3 (cT aq))
 i7)
def kS:PS:=(aj (cS 2 (aA fq (ah (ak 1) aq)))
 eH)
theorem kq{W:Wd}(kf:KF W.K){N:Nat}(fm:ax W N (.ref 313) fq)(nK:ax W N (.ref 607) nZ)(az:ax W N (.ref 270) aF)(cJ:ax W N (.ref 375) dH){sp:ao}(hsp:gh fF fx (kS) sp):ax W (N+1) (.ref 640) sp:=by
 refine aO (ps:=fF) (more:=fx) (globs:=ky) (kf.f 43 rfl) rfl (by decide+kernel) (cF fun O O O O O O O O O O O=> .of_eq rfl) (fun X hn hg hsc hnn hm=> ?_) hsp
 refine ag (ar 2 hn hm rfl (bl rfl) rfl (au 0 hg rfl (kf.n 41 rfl) (kf.b 66 rfl) fm (bn hnn) rfl rfl (ae rfl (ad 1 hn rfl) af))) ?_;refine ag (ar 3 hn hm rfl (bl rfl) rfl (bD af)) ?_;refine ag (ar 4 hn hm rfl (bl rfl) rfl av) ?_;refine ag (nq (aE rfl jU (ad 4 hn rfl) (bd 1 hg rfl (kf.n 32 rfl) rfl (by decide) (.inl ⟨_,rfl⟩) cg rfl rfl (ae rfl (ad 2 hn rfl) af))) (by {refine ag (ar 5 hn hm rfl (bl rfl) rfl (aU (fun O O=>rfl) aD (ad 2 hn rfl) (ad 4 hn rfl))) ?_;refine ag (ar 4 hn hm rfl (bl rfl) rfl (bH bG (ad 4 hn rfl) av)) ?_;refine ag (be (eg (aE rfl lO (ad 5 hn rfl) (aB (kf.b 65 rfl) rfl (ad 0 hn rfl))) (eg (c9 (bj rfl (au 2 hg rfl (kf.n 42 rfl) (kf.b 68 rfl) nK (bn hnn) rfl rfl (ae rfl (aB (kf.b 67 rfl) rfl (ad 0 hn rfl)) (ae rfl (ad 5 hn rfl) af))))) jW)) (by {refine ag tL ?_;exact ai}) ai) ?_;refine ag (be (aE rfl lO (aU (fun O O=>rfl) aD (ad 5 hn rfl) av) (aB (kf.b 69 rfl) rfl (ad 0 hn rfl))) (by {refine ag tL ?_;exact ai}) ai) ?_;refine ag (bI rfl (aB (kf.b 65 rfl) rfl (ad 0 hn rfl)) (ad 5 hn rfl) (bV (kf.b 12 rfl) az (bn hnn) rfl (bi (kf.b 62 rfl) cJ (bn hnn) rfl rfl rfl (aB (kf.b 63 rfl) rfl (ad 0 hn rfl)) (ae rfl bE af)))) ?_;refine ag (bq (aC X) rfl (br cG cc rfl rfl rfl (ad 3 hn rfl) (ae rfl (ad 5 hn rfl) af))) ?_;refine ag (bq (aC X) rfl (br vy AV rfl rfl rfl (ad 2 hn rfl) (ae rfl (aT (au 0 hg rfl (kf.n 41 rfl) (kf.b 66 rfl) fm (bn hnn) rfl rfl (ae rfl (aU (fun O O=>rfl) aD (aU (fun O O=>rfl) aD (aB (kf.b 17 rfl) rfl (aB (kf.b 67 rfl) rfl (ad 0 hn rfl))) (aU (fun O O=>rfl) aD (ad 5 hn rfl) av)) av) af))) af))) ?_;exact ai})) ?_
 refine cV 3 ?_;refine ag (aL (ad 3 hn rfl)) ?_;exact ai
noncomputable def lo:List Str:=[Str.ofString "self",Str.ofString "fresh"]
noncomputable def k9:List Str:=[Str.ofString "pair"]
noncomputable def sP:List Str:=[Str.ofString "renumbered"]
def pK:PS:=(aj (cB (bA 404 (Str.ofString "put") db (fld 650 (Str.ofString "made") (ak 0)) (ah (bh aR (bh aR (fld 650 (Str.ofString "table") (ak 0)) (ak 2)) (aK (.int 0))) (ah (aK (.int 0)) (ah (fv (aA fN (ah (bh aR (bh aR (fld 404 (Str.ofString "table") (fld 650 (Str.ofString "shelf") (ak 0))) (bh aR (ak 2) (aK (.int 0)))) (aK (.int 1))) (ah (fld 650 (Str.ofString "table") (ak 0)) aq)))) aq)))))
 am)
def t6:PS:=(aj (forS 2 (ak 1) pK)
 am)
theorem sI{W:Wd}(kf:KF W.K){N:Nat}(cw:ax W N (.ref 368) db)(eB:ax W N (.ref 318) fN){sp:ao}(hsp:gh lo k9 (t6) sp):ax W (N+1) (.ref 647) sp:=by
 refine aO (ps:=lo) (more:=k9) (globs:=sP) (kf.f 44 rfl) rfl (by decide+kernel) (cF fun O O O O O O O O O O O=> .of_eq rfl) (fun X hn hg hsc hnn hm=> ?_) hsp
 refine ag (fY 2 hn hg hsc hnn hm rfl (bl rfl) (fun O=>rfl) (ad 1 hn rfl) (fun X hA hE hn hg hsc hnn hm=>(by {refine ag (bq (aC X) rfl (bi (kf.b 50 rfl) cw (bn hnn) rfl rfl rfl (aB (kf.b 63 rfl) rfl (ad 0 hn rfl)) (ae rfl (aU (fun O O=>rfl) aD (aU (fun O O=>rfl) aD (aB (kf.b 65 rfl) rfl (ad 0 hn rfl)) (ad 2 hn rfl)) av) (ae rfl av (ae rfl (aT (au 0 hg rfl (kf.n 15 rfl) (kf.b 14 rfl) eB (bn hnn) rfl rfl (ae rfl (aU (fun O O=>rfl) aD (aU (fun O O=>rfl) aD (aB (kf.b 17 rfl) rfl (aB (kf.b 67 rfl) rfl (ad 0 hn rfl))) (aU (fun O O=>rfl) aD (ad 2 hn rfl) av)) av) (ae rfl (aB (kf.b 65 rfl) rfl (ad 0 hn rfl)) af)))) af))))) ?_;exact ai}))) ?_
 exact ai
noncomputable def rO:List Str:=[Str.ofString "page"]
noncomputable def rz:List Str:=[Str.ofString "fields"]
noncomputable def zw:List Str:=[Str.ofString "dict",Str.ofString "Name"]
def vk:PS:=(i9 1 (aj (bQ (ak 1))
 am))
def vl:PS:=(aj (dC (ak 1) (aK (.str (Str.ofString "Type"))) (fv (aA gJ (ah (aK (.str (Str.ofString "Page"))) aq))))
 vk)
def Az:PS:=(aj (cS 1 (aA gg (ah (d7 lY cu [0] (fld 431 (Str.ofString "fields") (ak 0)) (aX (bh lZ (ak 0) (aK (.str (Str.ofString "Parent"))))) (dK (ah (ak 0) (ah (bh aR (fld 431 (Str.ofString "fields") (ak 1)) (ak 0)) aq)))) aq)))
 vl)
theorem zj{W:Wd}(kf:KF W.K){N:Nat}(fg:ax W N (.ref 202) gJ){sp:ao}(hsp:gh rO rz (Az) sp):ax W (N+1) (.ref 659) sp:=by
 refine aO (ps:=rO) (more:=rz) (globs:=zw) (kf.f 45 rfl) rfl (by decide+kernel) (dI fun O O O O O O O O O O=> .of_eq rfl) (fun X hn hg hsc hnn hm=> ?_) hsp
 refine ag (ar 1 hn hm rfl (bl rfl) rfl (bd 0 hg rfl (kf.n 7 rfl) rfl (by decide) (.inr ⟨_,rfl⟩) gA rfl rfl (ae rfl (c8 (tgs:=[Str.ofString "key"]) (frs:=[Str.ofString "page"]) (gs:=[]) (fi:=[0]) (by decide+kernel) hsc hn cW bL cY (fun O=>rfl) (aB (kf.b 70 rfl) rfl (ad 0 hn rfl)) (fun Xc hn hg hnc=>have hnn:=hnc.trans hnn;(h8 (aE rfl dl (ad 0 hn rfl) aI))) (fun Xc hn hg hnc=>have hnn:=hnc.trans hnn;(bB (ae rfl (ad 0 hn rfl) (ae rfl (aU (fun O O=>rfl) aD (aB (kf.b 70 rfl) rfl (ad 1 hn rfl)) (ad 0 hn rfl)) af))))) af))) ?_
 refine ag (bI rfl (ad 1 hn rfl) aI (aT (au 1 hg rfl (kf.n 4 rfl) (kf.b 6 rfl) fg (bn hnn) rfl rfl (ae rfl aI af)))) ?_;refine cV 1 ?_;refine ag (aL (ad 1 hn rfl)) ?_;exact ai
end
section
variable {W:Wd}
theorem CW.shp(w:CW)(tab:Pd)(M:Tb)(pre:Sg):ud (pre++w.sg tab M) w.ma M w.Rm (pre++[(w.ct,.pd tab),(w.ca,.obj 650 w.cdx (xP (qy w.T w.R) w.ma w.ct w.B))]) ((w.ma,.obj 404 w.mdx (jo (.ref w.mt) w.Rm))::w.rest) w.mt:=by
 refine⟨by simp[CW.sg],w.mdx,by simp⟩
theorem CW.put(w:CW)(tab:Pd)(M:Tb)(pre:Sg):(pre++[(w.ct,MO.pd tab),(w.ca,MO.obj 650 w.cdx (xP (qy w.T w.R) w.ma w.ct w.B))])++(w.mt,MO.nd M)::(w.ma,MO.obj 404 w.mdx (jo (.ref w.mt) w.Rm))::w.rest=pre++w.sg tab M:=by simp[CW.sg]
theorem CW.col(w:CW)(tab:Pd)(M:Tb)(pre:Sg):(w.ca,MO.obj 650 w.cdx (xP (qy w.T w.R) w.ma w.ct w.B))∈pre++w.sg tab M:=by simp[CW.sg]
theorem CW.tab(w:CW)(tab:Pd)(M:Tb)(pre:Sg):(w.ct,MO.pd tab)∈pre++w.sg tab M:=by simp[CW.sg]
theorem CW.made(w:CW)(tab:Pd)(M:Tb)(pre:Sg):(w.ma,MO.obj 404 w.mdx (jo (.ref w.mt) w.Rm))∈pre++w.sg tab M:=by simp[CW.sg]
theorem CW.updT(w:CW)(tab tab':Pd)(M:Tb):∀pre:Sg,gv w.ct (.pd tab) (.pd tab') (pre++w.sg tab M) (pre++w.sg tab' M):=fun pre=>lA pre
theorem BX.setNew{M:Tb}{k:Nat}(h:BX M k)(hk:k<800)(v:CV):BX (bk ((k:Int)+1) v M) (k+1):=by
 have hn:=h.high (k+1) (by exact Int.lt_succ ↑k)
 refine⟨by rw[eQ hn];simp[h.len],fun i h1 h2=> ?_,fun i hi=> ?_,?_,by exact Nat.succ_le_of_lt hk⟩
 ·rw[aN];split
  ·rfl
  ·exact h.low i h1 (by lia)
 ·rw[aN,if_neg (by exact Int.ne_of_gt hi)]
  exact h.high i (by exact Int.le_of_lt (by assumption))
 ·rw[eQ hn,List.map_append,List.nodup_append];refine⟨h.nd,by simp,fun a ha b hb e=> ?_⟩
  have hb:b=(k:Int)+1:=by simpa using hb
  subst hb;subst e;refine el12 (List.mem_map.mp ha) fun p hp e=> ?_;rw[cH h.nd (show((k:Int)+1,p.2)∈M by rw[←e];exact hp)]at hn
  exact sn hn
theorem cI{K V:Type}[DecidableEq K][BEq K][LawfulBEq K]{k:K}{v:V}:∀{l:List (K×V)},(l.lookup k).isSome=true→(bk k v l).map (·.1)=l.map (·.1)
 |[],h=>by simp at h
 |p::r,h=>by
  unfold bk;by_cases e:p.1=k
  ·rw[if_pos e,←e];rfl
  ·rw[if_neg e];rw[List.lookup_cons,beq_eq_false_iff_ne.mpr (fun q=>e q.symm)]at h;simp[cI (l:=r) h]
theorem BX.setOld{M:Tb}{k:Nat}(h:BX M k){m:Int}(h1:1≤m)(h2:m≤k)(v:CV):BX (bk m v M) k:=by
 have hs:(M.lookup m).isSome=true:=by
  have:=h.low m.toNat (by lia) (by exact Int.toNat_le.mpr h2)
  rwa [show((m.toNat:Nat):Int)=m by lia]at this
 refine⟨by rw[er _ _ _ hs];exact h.len,fun i h1 h2=> ?_,fun i hi=> ?_,by rw[cI hs];exact h.nd,h.k900⟩
 ·rw[aN];split
  ·rfl
  ·exact h.low i h1 h2
 ·rw[aN,if_neg (by lia)]
  exact h.high i hi
theorem mH(kf:KF W.K):ax W 8 (.ref 626) mJ:=by
 refine mD (N:=7) kf (gG kf) fun sg Q cs (h:dw sg Q cs)=> ?_
 ·refine dw.casesOn h @fun a sh ma dx sg1 T R d rt z9 z10 hd hr hq=>⟨rfl,?_⟩;subst z9;subst z10;refine⟨a,dx,_,_,rfl,.head,by simp,?_⟩
  refine⟨a,dx,_,_,rfl,.head,ej rfl,?_⟩;intro t;refine⟨a,dx,_,_,rfl,.tail .head,ej rfl,?_⟩;refine⟨T,R,d,rt,⟨rfl,rfl⟩,hd,hr,fun B hB=>⟨a,dx,_,_,rfl,.tail .head,ej rfl,rs (hq t B hB)⟩⟩
theorem lS(kf:KF W.K):ax W 9 (.ref 650) l0:=by
 refine(Ce (kf.c 5 rfl) (mH kf)).weaken fun cs sg Q h a dx=> ?_
 ·obtain @⟨_,_,T,R,d,rt,rfl,hd,hr,hq⟩:=h;exact⟨dx,sg,T,R,d,rt,rfl,rfl,hd,hr,fun t B hB=>⟨rfl,hq a dx t B hB⟩⟩
theorem eO(kf:KF W.K):ax W 4 (.ref 633) dG:=by
 refine ni (N:=3) kf (cJ kf) ((az kf).upb rfl) fun sg Q cs (h:dQ sg Q cs)=> ?_
 ·refine dQ.casesOn h @fun ca c w tab M k p l z8 z9 z10 hM hz hq=>⟨rfl,?_⟩;subst z8;subst z9;subst z10;refine⟨.ref w.ma,⟨w.cdx,_,w.col tab M [],rfl⟩,⟨w.mdx,_,w.made tab M [],rfl⟩,_,_,w.mt,M,w.Rm,k,w.shp tab M [],by have:=hM.len;have:=hM.k900;lia,hM.low,hM.high _ (by exact Int.lt_succ ↑k),?_⟩
  rw[w.put,List.nil_append];refine⟨_,⟨rfl,rfl⟩,⟨rfl,rfl⟩,p,rfl,.ref w.ct,⟨w.cdx,_,w.col tab _ [],rfl⟩,?_⟩;refine⟨_,⟨[p,0],tab,rfl,w.tab tab _ [],rfl⟩,_,rfl,fun hb=> ?_,fun hb=> ?_⟩
  ·refine⟨⟨rfl,rfl⟩,(k:Int)+1,rfl,.ref w.ct,⟨w.cdx,_,w.col tab _ [],rfl⟩,_,⟨rfl,rfl⟩,⟨rfl,rfl⟩,p,rfl,?_⟩;have hb:(tab.lookup [p,0]).isSome=false:=by simpa using hb
   refine⟨[p,0],tab,_,rfl,w.updT tab _ _ [],by exact Nat.le_trans (by assumption) (by decide),?_⟩
   unfold qo at hq;rw[hb]at hq;exact rs hq
  ·have hb:(tab.lookup [p,0]).isSome=true:=by simpa using hb
   unfold qo at hq;rw[if_pos hb]at hq;exact rs hq
theorem EI{w:CW}{la fa:Addr}{tab:Pd}{M:Tb}{r:Int}{v:Hd}{k:Nat}{c1:CV}(hv:w.T.lookup r=some (cP (.sd v)))(hlv:mS v)(hB:w.B.lookup r=none)(hM:BX M k)(htab:tab.length≤900)
  {Q:Fl→bp→Sg→Prop}
  (h1:(tab.lookup [r,0]).isSome=true→∀x,Q .next [some (.ref w.ca),some c1,some (.ref la),some (.ref fa),some (.int 1),x] ((fa,.lst [])::(la,.lst [eK r])::w.sg tab M))
  (h2:tab.lookup [r,0]=none→∀x,Q .next [some (.ref w.ca),some c1,some (.ref la),some (.ref fa),some (.int 1),x] ((fa,.lst [eK r])::(la,.lst ([eK r]++[]))::w.sg (bk [r,0] (eK (k+1)) tab) (bk ((k:Int)+1) (cP .none) M))):
  kj eM eL 2 [some (.ref w.ca),some c1,some (.ref la),some (.ref fa),some (.int 0),none] ((fa,.lst [])::(la,.lst [eK r])::w.sg tab M) Q:=by
 refine⟨_,.tail _ (.head _),sm rfl,?_⟩;refine⟨true,rfl,.y ?_⟩;refine⟨eK r,.inr (.inl ⟨_,.tail _ (.head _),by decide,sm rfl,rfl⟩),?_⟩
 have hpre:∀tb m,(fa,MO.lst [])::(la,MO.lst [eK r])::w.sg tb m=[(fa,MO.lst []),(la,MO.lst [eK r])]++w.sg tb m:=fun O O=>rfl;refine⟨.ref w.ct,⟨w.cdx,_,by rw[hpre];exact w.col _ _ _,rfl⟩,?_⟩
 refine⟨_,⟨[r,0],tab,rfl,by rw[hpre];exact w.tab _ _ _,rfl⟩,_,rfl,fun hb=> ?_,fun hb=>⟨qy w.T w.R,⟨w.cdx,_,by rw[hpre];exact w.col _ _ _,rfl⟩,w.T,w.R,r,_,⟨rfl,rfl⟩,rfl,hv,true,rfl,?_⟩⟩
 ·refine⟨fun O=> ?_,fun h=>(by exact tf h)⟩
  refine⟨_,.tail _ (.head _),sm rfl,?_⟩;exact⟨false,rfl,.n (h1 hb _)⟩
 ·have hb:tab.lookup [r,0]=none:=by simpa using hb
  refine⟨fun h=>absurd h (by decide),fun O=>⟨fun h=>(by exact ff h),fun O=> ?_⟩⟩
  refine⟨.int r,.inr (.inr ⟨_,0,rfl,sm rfl,rfl,rfl⟩),_,⟨w.cdx,_,by rw[hpre];exact w.col _ _ _,rfl⟩,?_⟩
  refine⟨false,⟨w.B,rfl,by rw[hB];rfl⟩,false,rfl,.n ?_⟩
  rw[hpre];refine⟨.ref w.ma,⟨w.cdx,_,w.col tab M _,rfl⟩,⟨w.mdx,_,w.made tab M _,rfl⟩,_,_,w.mt,M,w.Rm,k,w.shp tab M _,by have:=hM.len;have:=hM.k900;lia,hM.low,hM.high _ (by exact Int.lt_succ ↑k),?_⟩
  rw[w.put];refine⟨⟨rfl,rfl⟩,_,rfl,.ref w.ct,⟨w.cdx,_,w.col tab _ _,rfl⟩,?_⟩;refine⟨[r,0],tab,_,rfl,w.updT tab _ _ _,by exact Nat.le_trans (by assumption) (by decide),?_⟩
  refine⟨⟨_,.head _⟩,?_⟩;refine⟨_,_,.head,sm rfl,?_⟩;refine⟨⟨_,.tail _ (.head _)⟩,qy w.T w.R,⟨w.cdx,_,.tail _ (.tail _ (.tail _ (.head _))),rfl⟩,_,⟨rfl,rfl⟩,?_⟩;refine⟨.int r,.inr (.inr ⟨_,0,rfl,sm rfl,rfl,rfl⟩),_,.inl ⟨w.T,rfl,hv⟩,.sd v,.inr (.inr ⟨_,1,rfl,sm rfl,rfl,rfl⟩),r,hlv.len,hlv.nd,fun p hp=> .leaf (hlv.leaf p hp),fun⟨p,hp,e⟩=>absurd e ((hlv.leaf p hp).ne r),fun O e=>⟨_,_,.head,rfl,?_⟩⟩;refine⟨[eK r],[],_,rfl,.tail .head,sm rfl,?_⟩;refine⟨_,.tail _ (.head _),sm rfl,?_⟩;exact⟨false,rfl,.n (h2 hb _)⟩
theorem dM(kf:KF W.K):ax W 5 (.ref 640) cM:=by
 refine kq (N:=4) kf (fm kf) ((nK kf).upb rfl) ((az kf).upb rfl) ((cJ kf).upb rfl) fun sg Q cs (h:cR sg Q cs)=> ?_
 ·refine cR.casesOn h @fun ca l w tab M k r v z8 z9 hM htab hl hex hv hlv hB hq1 hq2=>⟨rfl,?_⟩;subst z8;subst z9;refine⟨r,hl.len,hl.nd,hl.sim,fun O la=> ?_,fun hno=> ?_⟩
  ·unfold eH;refine⟨sm rfl,fun fa=> ?_⟩;refine⟨2,EI hv hlv hB hM htab (fun h x=> ?_) (fun h x=> ?_)⟩
   ·unfold dh;exact⟨fa,_,_,rfl,.head,rfl,_,List.sublist_cons_self _ _,hq1 h⟩
   ·unfold dh;exact⟨fa,_,_,rfl,.head,rfl,_,List.sublist_cons_self _ _,hq2 h⟩
  ·refine el12 hex fun p hp e=> ?_;exact absurd e (hno p hp)
theorem g5(kf:KF W.K):ax W 7 (.ref 647) fo:=by
 refine sI (N:=6) kf ((cw kf).upb rfl) (eB kf) fun sg Q cs (h:fO sg Q cs)=> ?_
 ·refine fO.casesOn h @fun ca fresh w tab M k r m v z9 z10 hM hz=>⟨rfl,?_⟩;subst z9;subst z10;refine ?_;refine⟨trivial,?_⟩;rcases hz with⟨rfl,hq⟩|⟨rfl,ht,hv,hlv,hq⟩
  ·exact rs hq
  ·show dJ _ 2 [eK r] _ _ _;refine⟨.ref w.ma,⟨w.cdx,_,w.col tab M [],rfl⟩,⟨w.mdx,_,w.made tab M [],rfl⟩,.ref w.ct,⟨w.cdx,_,w.col tab M [],rfl⟩,?_⟩;refine⟨eK m,⟨[r,0],tab,rfl,w.tab tab M [],ht⟩,.int m,.inr (.inr ⟨_,0,rfl,sm rfl,rfl,rfl⟩),qy w.T w.R,⟨w.cdx,_,w.col tab M [],rfl⟩,_,⟨rfl,rfl⟩,.int r,.inr (.inr ⟨_,0,rfl,sm rfl,rfl,rfl⟩),_,.inl ⟨w.T,rfl,hv⟩,.sd v,.inr (.inr ⟨_,1,rfl,sm rfl,rfl,rfl⟩),.ref w.ct,⟨w.cdx,_,w.col tab M [],rfl⟩,?_⟩;refine⟨tab,w.tab tab M [],by have:=hlv.len;exact Nat.le_trans (Nat.le_of_lt (by assumption)) (by decide),hlv.nd,fun p hp=> .inl (hlv.leaf p hp),fun a=>⟨_,_,.head,rfl,?_⟩⟩
   have e:(v.map fun p=>(p.1,oV tab p.2))=v:=by
    have:(v.map fun p=>(p.1,oV tab p.2))=v.map id:=List.map_congr_left fun p hp=>by rw[oz (hlv.leaf p hp)];rfl
    rw[this,List.map_id]
   rw[e];refine⟨_,_,w.mt,M,w.Rm,w.shp tab M [],by have:=hM.len;have:=hM.k900;lia,?_⟩
   rw[w.put];exact rs hq
theorem lU(kf:KF W.K):ax W 3 (.ref 659) l3:=by
 refine zj (N:=2) kf (fg kf) fun sg Q cs (h:jM sg Q cs)=> ?_
 ·refine jM.casesOn h @fun c p l z3 hl hnd hq=>⟨rfl,?_⟩;subst z3;refine⟨_,⟨rfl,rfl⟩,trivial,ay (by show(l.map fun p:Str×CV=>CV.str p.1).length≤1000;rw[List.length_map];exact Nat.le_trans (by assumption) (by decide)),?_⟩
  show Ak lY _ _ _ (l.map fun p:Str×CV=>CV.str p.1) [] sg _;refine cZ (f:=fun p:Str×CV=>CV.str p.1) (g:=fun p:Str×CV=>CV.tup [.str p.1,p.2]) (p:=fun p=>p.1 !=aJ) l [] (fun q hq K hK=> ?_) (fun q hq O K hK=> ?_) ?_
  ·try dsimp only[List.map_cons,List.map_nil,List.cons_append,List.nil_append,List.set_cons_zero,List.set_cons_succ]
   exact⟨_,rfl,hK⟩
  ·try dsimp only[List.map_cons,List.map_nil,List.cons_append,List.nil_append,List.set_cons_zero,List.set_cons_succ]
   exact⟨_,⟨rfl,rfl⟩,q.2,⟨l,rfl,cH hnd hq⟩,sm rfl,hK⟩
  ·rw[List.nil_append];have hfl:(l.filter fun p=>p.1 !=aJ).length≤l.length:=List.length_filter_le _ _;refine .inl ⟨l.filter fun p=>p.1 !=aJ,rfl,by exact Nat.le_trans (Nat.le_trans (by assumption) (by assumption)) (by decide),fun a=> ?_⟩
   have e:=kZ (l.filter fun p=>p.1 !=aJ) [] (by rw[List.nil_append];exact hnd.sublist (List.filter_sublist.map _))
   rw[List.nil_append]at e;rw[e];refine⟨rfl,fun b dx=>⟨_,_,.head,rfl,_,_,.head,by exact Nat.le_trans (Nat.le_trans (by assumption) (by assumption)) (by decide),?_⟩⟩
   exact⟨a,_,_,rfl,.head,rfl,rs hq⟩
end
structure DW(r:Int)(s:Int×Hd):Prop where
 ne:s.1≠r
 len:s.2.length≤60
 nd:(s.2.map (·.1)).Nodup
 sim:∀p∈s.2,p.1≠aJ→sj r p.2
 has:∃p∈s.2,p.1≠aJ∧p.1≠dB∧p.2=aG r
noncomputable def JL(m:Int)(c:CV):CV:=match Gu c with
 |some _=>aG m
 |none=>c
noncomputable def sW(m:Int)(l:Hd):Hd:=bk aJ (aG 2) ((kg l).map fun p=>(p.1,JL m p.2))
noncomputable def bS:Int→Nat→List Int
 |_,0=>[]
 |k,n+1=>k::bS (k+1) n
noncomputable def gz:Hd:=[(dB,l_ (Str.ofString "Catalog")),(Str.ofString "Pages",aG 2)]
noncomputable def n8(n:Nat):Hd:=[(dB,l_ (Str.ofString "Pages")),(dn,.lst ((bS 3 n).map aG)),(bb,.int n)]
structure C8(M:Tb)(ps:List (Int×Hd))(v:Hd):Prop where
 ok:BX M (ps.length+3)
 one:M.lookup 1=some (cP (.sd gz))
 two:M.lookup 2=some (cP (.sd (n8 ps.length)))
 pg:∀(i:Nat) (s:Int×Hd),ps[i]? =some s→M.lookup (3+(i:Int))=some (cP (.sd (sW (3+(ps.length:Int)) s.2)))
 res:M.lookup (3+(ps.length:Int))=some (cP (.sd v))
inductive jL(sg:Sg)(Q:CV→Sg→Prop):List CV→Prop
 |mk {sh:CV} {places:List CV} (T R d rt r v) (ps:List (Int×Hd)):sh=qy T R→iu T R d→R.lookup (Str.ofString "Root")=some (aG rt)→r∉d.nums→r≠rt→T.lookup r=some (cP (.sd v))→mS v→places=ps.map (fun s=> .tup [.int 0,HQ s.1 s.2])→0<ps.length→ps.length≤50→(∀s∈ps,DW r s)→(∀M,C8 M ps v→Q (qy M [(Str.ofString "Root",aG 1)]) sg)→jL sg Q [.lst [sh],.lst places]
def l2:ao:=fun cs sg Q=>jL sg Q cs
noncomputable def tY:aS:=⟨0,[],[],[],true⟩
noncomputable def GU(s:aS):Int×Hd:=(s.n,ko s.l s.m bM s.l)
inductive hZ(sg:Sg)(Q:CV→Sg→Prop):List CV→Prop
 |mk {sh:CV} {idx:List CV} (T R d rt r v) (is:List Nat):sh=qy T R→iu T R d→R.lookup (Str.ofString "Root")=some (aG rt)→r∉d.nums→r≠rt→T.lookup r=some (cP (.sd v))→mS v→idx=bZ (is.map fun(i:Nat)=>(i:Int))→0<is.length→is.length≤50→(∀i∈is,i<d.pages.length)→(∀s∈d.spots,s.l.length≤50)→(∀s∈d.pages,DW r (GU s))→(∀M,C8 M (is.map fun i=>GU (d.pages.getD i tY)) v→Q (qy M [(Str.ofString "Root",aG 1)]) sg)→hZ sg Q [sh,.lst idx]
def ju:ao:=fun cs sg Q=>hZ sg Q cs
section
noncomputable def rN:List Str:=[Str.ofString "shelves",Str.ofString "places"]
noncomputable def ry:List Str:=[Str.ofString "made",Str.ofString "root",Str.ofString "parent",Str.ofString "collectors",Str.ofString "kids",Str.ofString "spot",Str.ofString "at",Str.ofString "page",Str.ofString "collector",Str.ofString "fields",Str.ofString "laid"]
noncomputable def zv:List Str:=[Str.ofString "Shelf",Str.ofString "range",Str.ofString "len",Str.ofString "bare_page",Str.ofString "renumbered",Str.ofString "Name",Str.ofString "list"]
def vb:PS:=(i9 12 (aj (cB (bA 404 (Str.ofString "put") db (ak 2) (ah (fld 273 (Str.ofString "number") (bh aR (ak 6) (ak 7))) (ah (aK (.int 0)) (ah (ak 12) aq)))))
 am))
def vc:PS:=(aj (dC (ak 12) (aK (.str (Str.ofString "Parent"))) (ak 4))
 vb)
def vd:PS:=(aj (cS 12 (aA fN (ah (ak 11) (ah (fld 650 (Str.ofString "table") (ak 10)) aq))))
 vc)
def ve:PS:=(aj (cB (bA 650 (Str.ofString "lay") fo (ak 10) (ah (bA 650 (Str.ofString "take_needed") cM (ak 10) (ah (ak 11) aq)) aq)))
 vd)
def vf:PS:=(aj (cS 11 (aA l3 (ah (ak 9) aq)))
 ve)
def vg:PS:=(aj (cS 10 (bh aR (ak 5) (ak 8)))
 vf)
def mK:PS:=(aj (gP [8,9] (bh aR (ak 1) (ak 7)))
 vg)
def vh:PS:=(Ho 2 404 (Str.ofString "table") (i9 2 (aj (bQ (ak 2))
 am)))
def vi:PS:=(aj (fG 404 (Str.ofString "trailer") (ak 2) (fv (ij (cn (aK (.str (Str.ofString "Root"))) (ak 3) ik))))
 vh)
def vj:PS:=(aj (cB (bA 404 (Str.ofString "put") db (ak 2) (ah (fld 273 (Str.ofString "number") (ak 3)) (ah (aK (.int 0)) (ah (fv (ij (cn (aK (.str (Str.ofString "Type"))) (fv (aA gJ (ah (aK (.str (Str.ofString "Catalog"))) aq))) (cn (aK (.str (Str.ofString "Pages"))) (ak 4) ik)))) aq)))))
 vi)
def ue:PS:=(aj (cB (bA 404 (Str.ofString "put") db (ak 2) (ah (fld 273 (Str.ofString "number") (ak 4)) (ah (aK (.int 0)) (ah (fv (ij (cn (aK (.str (Str.ofString "Type"))) (fv (aA gJ (ah (aK (.str (Str.ofString "Pages"))) aq))) (cn (aK (.str (Str.ofString "Kids"))) (aA wA (ah (ak 6) aq)) (cn (aK (.str (Str.ofString "Count"))) (aA fK (ah (ak 6) aq)) ik))))) aq)))))
 vj)
def uf:PS:=(aj (Cr 7 (aA fK (ah (ak 1) aq)) mK)
 ue)
def ug:PS:=(aj (cS 6 (d7 xz FV [5] (ak 1) d9 (bA 650 (Str.ofString "reserve") dG (bh aR (ak 2) (ak 0)) (ah (ak 1) aq))))
 uf)
def uh:PS:=(aj (cS 5 (d7 lY cu [2] (ak 0) d9 (aA l0 (ah (ak 0) (ah (ak 1) aq)))))
 ug)
def ui:PS:=(aj (cS 4 (bA 404 (Str.ofString "add") dH (ak 2) (ah (aK .none) aq)))
 uh)
def uj:PS:=(aj (cS 3 (bA 404 (Str.ofString "add") dH (ak 2) (ah (aK .none) aq)))
 ui)
def Ay:PS:=(aj (cS 2 (aA gK aq))
 uj)
theorem zi{W:Wd}(kf:KF W.K){N:Nat}(el:ax W N (.ref 404) gK)(cJ:ax W N (.ref 375) dH)(lS:ax W N (.ref 650) l0)(eO:ax W N (.ref 633) dG)(lU:ax W N (.ref 659) l3)(g5:ax W N (.ref 647) fo)(dM:ax W N (.ref 640) cM)(eB:ax W N (.ref 318) fN)(cw:ax W N (.ref 368) db)(fg:ax W N (.ref 202) gJ){sp:ao}(hsp:gh rN ry (Ay) sp):ax W (N+1) (.ref 664) sp:=by
 refine aO (ps:=rN) (more:=ry) (globs:=zv) (kf.f 46 rfl) rfl (by decide+kernel) (cF fun O O O O O O O O O O O=> .of_eq rfl) (fun X hn hg hsc hnn hm=> ?_) hsp
 refine ag (ar 2 hn hm rfl (bl rfl) rfl (Bl 0 hg rfl (kf.n 17 rfl) (kf.b 21 rfl) el (bn hnn))) ?_;refine ag (ar 3 hn hm rfl (bl rfl) rfl (bi (kf.b 62 rfl) cJ (bn hnn) rfl rfl rfl (ad 2 hn rfl) (ae rfl bE af))) ?_;refine ag (ar 4 hn hm rfl (bl rfl) rfl (bi (kf.b 62 rfl) cJ (bn hnn) rfl rfl rfl (ad 2 hn rfl) (ae rfl bE af))) ?_;refine ag (ar 5 hn hm rfl (bl rfl) (KJ hsc rfl) (c8 (tgs:=[Str.ofString "shelf"]) (frs:=[Str.ofString "made"]) (gs:=[Str.ofString "Collector"]) (fi:=[2]) (by decide+kernel) hsc hn cW bL cY (fun O=>rfl) (ad 0 hn rfl) (fun Xc hn hg hnc=>have hnn:=hnc.trans hnn;fS) (fun Xc hn hg hnc=>have hnn:=hnc.trans hnn;(au 0 hg rfl (kf.n 43 rfl) (kf.b 71 rfl) lS (bn hnn) rfl rfl (ae rfl (ad 0 hn rfl) (ae rfl (ad 1 hn rfl) af)))))) ?_
 refine ag (gZ 6 (yB hsc (by decide+kernel)) hm rfl (bl rfl) (tgs:=[Str.ofString "at",Str.ofString "page"]) (frs:=[Str.ofString "collectors"]) (gs:=[]) (fi:=[5]) (by decide+kernel) hsc hn Dv wG DJ (fun O=>rfl) (ad 1 hn rfl) (fun Xc hn hg hnc=>have hnn:=hnc.trans hnn;fS) (fun Xc hn hg hnc=>have hnn:=hnc.trans hnn;(bi (kf.b 72 rfl) eO (bn hnn) rfl rfl rfl (aU (fun O O=>rfl) aD (ad 2 hn rfl) (ad 0 hn rfl)) (ae rfl (ad 1 hn rfl) af)))) ?_
 refine ag (om 7 1 hn hg hsc hnn hm rfl (bl rfl) rfl (kf.n 16 rfl) rfl rfl rfl (fun O=>rfl) (bd 2 hg rfl (kf.n 32 rfl) rfl (by decide) (.inl ⟨_,rfl⟩) cg rfl rfl (ae rfl (ad 1 hn rfl) af)) (fun X hA hE hn hg hsc hnn hm=>(by {refine ag (dL hn hm (.cons 8 rfl (by decide) rfl (.cons 9 rfl (by decide) rfl .nil)) rfl rfl (aU (fun O O=>rfl) aD (ad 1 hn rfl) (ad 7 hn rfl))) ?_;refine ag (ar 10 hn hm rfl (bl rfl) rfl (aU (fun O O=>rfl) aD (ad 5 hn rfl) (ad 8 hn rfl))) ?_;refine ag (ar 11 hn hm rfl (bl rfl) rfl (au 3 hg rfl (kf.n 44 rfl) (kf.b 73 rfl) lU (bn hnn) rfl rfl (ae rfl (ad 9 hn rfl) af))) ?_;refine ag (bq (aC X) rfl (bi (kf.b 74 rfl) g5 (bn hnn) rfl rfl rfl (ad 10 hn rfl) (ae rfl (bi (kf.b 75 rfl) dM (bn hnn) rfl rfl rfl (ad 10 hn rfl) (ae rfl (ad 11 hn rfl) af)) af))) ?_;refine ag (ar 12 hn hm rfl (bl rfl) rfl (au 4 hg rfl (kf.n 15 rfl) (kf.b 14 rfl) eB (bn hnn) rfl rfl (ae rfl (ad 11 hn rfl) (ae rfl (aB (kf.b 65 rfl) rfl (ad 10 hn rfl)) af)))) ?_;refine ag (bI rfl (ad 12 hn rfl) aI (ad 4 hn rfl)) ?_;refine cV 12 ?_;refine ag (bq (aC X) rfl (bi (kf.b 50 rfl) cw (bn hnn) rfl rfl rfl (ad 2 hn rfl) (ae rfl (aB (kf.b 3 rfl) rfl (aU (fun O O=>rfl) aD (ad 6 hn rfl) (ad 7 hn rfl))) (ae rfl av (ae rfl (ad 12 hn rfl) af))))) ?_;exact ai}))) ?_
 refine ag (bq (aC X) rfl (bi (kf.b 50 rfl) cw (bn hnn) rfl rfl rfl (ad 2 hn rfl) (ae rfl (aB (kf.b 3 rfl) rfl (ad 4 hn rfl)) (ae rfl av (ae rfl (aT (jc rfl rfl (cC aI (aT (au 5 hg rfl (kf.n 4 rfl) (kf.b 6 rfl) fg (bn hnn) rfl rfl (ae rfl aI af))) (cC aI (bd 6 hg rfl (kf.n 6 rfl) rfl (by decide) (.inr ⟨_,rfl⟩) tE rfl rfl (ae rfl (ad 6 hn rfl) af)) (cC aI (bd 2 hg rfl (kf.n 32 rfl) rfl (by decide) (.inl ⟨_,rfl⟩) cg rfl rfl (ae rfl (ad 6 hn rfl) af)) ee))))) af))))) ?_
 refine ag (bq (aC X) rfl (bi (kf.b 50 rfl) cw (bn hnn) rfl rfl rfl (ad 2 hn rfl) (ae rfl (aB (kf.b 3 rfl) rfl (ad 3 hn rfl)) (ae rfl av (ae rfl (aT (jc rfl rfl (cC aI (aT (au 5 hg rfl (kf.n 4 rfl) (kf.b 6 rfl) fg (bn hnn) rfl rfl (ae rfl aI af))) (cC aI (ad 4 hn rfl) ee)))) af))))) ?_;refine ag (cj (kf.b 16 rfl) rfl (ad 2 hn rfl) (aT (jc rfl rfl (cC aI (ad 3 hn rfl) ee)))) ?_;refine zE 2 404 (Str.ofString "table") ?_;refine cV 2 ?_;refine ag (aL (ad 2 hn rfl)) ?_;exact ai
noncomputable def nU:List Str:=[Str.ofString "shelf",Str.ofString "indexes"]
noncomputable def nF:List Str:=[Str.ofString "row"]
noncomputable def vV:List Str:=[Str.ofString "pages",Str.ofString "TreeFault",Str.ofString "assembled"]
def sE:PS:=(aj (bQ (aA l2 (ah (fv (cT (ah (ak 0) aq))) (ah (d7 lY cu [2] (ak 1) d9 (dK (ah (aK (.int 0)) (ah (bh aR (ak 1) (ak 0)) aq)))) aq))))
 am)
def sF:PS:=(aj (ew (aX (bh lZ (d7 lY cu [2] (ak 1) (lz (qx CZ Ab (aK (.int 0)) (ak 0) (aA fK (ah (ak 1) aq)))) (ak 0)) (fv (cT aq)))) (aj m8
 am) am)
 sE)
def wW:PS:=(aj (cS 2 (aA iq (ah (ak 0) aq)))
 sF)
theorem vP{W:Wd}(kf:KF W.K){N:Nat}(fB:ax W N (.ref 515) iq)(lT:ax W N (.ref 664) l2){sp:ao}(hsp:gh nU nF (wW) sp):ax W (N+1) (.ref 669) sp:=by
 refine aO (ps:=nU) (more:=nF) (globs:=vV) (kf.f 47 rfl) rfl (by decide+kernel) (cF fun O O O O O O O O O O O=> .of_eq rfl) (fun X hn hg hsc hnn hm=> ?_) hsp
 refine ag (ar 2 hn hm rfl (bl rfl) rfl (au 0 hg rfl (kf.n 45 rfl) (kf.b 76 rfl) fB (bn hnn) rfl rfl (ae rfl (ad 0 hn rfl) af))) ?_;refine ag (be (aE rfl dl (c8 (tgs:=[Str.ofString "index"]) (frs:=[Str.ofString "row"]) (gs:=[Str.ofString "len"]) (fi:=[2]) (by decide+kernel) hsc hn cW bL cY (fun O=>rfl) (ad 1 hn rfl) (fun Xc hn hg hnc=>have hnn:=hnc.trans hnn;(h8 (c9 (kY rfl ol jU av (ad 0 hn rfl) (bd 0 hg rfl (kf.n 32 rfl) rfl (by decide) (.inl ⟨_,rfl⟩) cg rfl rfl (ae rfl (ad 1 hn rfl) af)))))) (fun Xc hn hg hnc=>have hnn:=hnc.trans hnn;(ad 0 hn rfl))) (aT (bD af))) (by {refine ag fR ?_;exact ai}) ai) ?_
 refine ag (aL (au 2 hg rfl (kf.n 46 rfl) (kf.b 77 rfl) lT (bn hnn) rfl rfl (ae rfl (aT (bD (ae rfl (ad 0 hn rfl) af))) (ae rfl (c8 (tgs:=[Str.ofString "index"]) (frs:=[Str.ofString "row"]) (gs:=[]) (fi:=[2]) (by decide+kernel) hsc hn cW bL cY (fun O=>rfl) (ad 1 hn rfl) (fun Xc hn hg hnc=>have hnn:=hnc.trans hnn;fS) (fun Xc hn hg hnc=>have hnn:=hnc.trans hnn;(bB (ae rfl av (ae rfl (aU (fun O O=>rfl) aD (ad 1 hn rfl) (ad 0 hn rfl)) af))))) af)))) ?_
 exact ai
end
section
variable {W:Wd}
theorem gb:∀(n:Nat) (k:Int),(bS k n).length=n
 |0,_=>rfl
 |n+1,k=>by simp[bS,gb n]
theorem yd:∀(n:Nat) (k:Int) (i:Nat),i<n→(bS k n)[i]? =some (k+i)
 |n+1,k,0,_=>by simp[bS]
 |n+1,k,i+1,h=>by
  simp only[bS,List.getElem?_cons_succ];rw[yd n (k+1) i (by exact Nat.succ_lt_succ_iff.mp h)]
  simp;lia
theorem GB(tab:Pd)(p:Int)(k:Nat):(qo tab p k).length≤tab.length+1:=by
 unfold qo;split
 ·exact Nat.le_add_right (List.length tab) 1
 ·exact dg _ _ _
theorem z_{tab:Pd}{p r:Int}{k:Nat}(h:tab.lookup [r,0]=none)(hne:p≠r):(qo tab p k).lookup [r,0]=none:=by
 unfold qo;split
 ·exact h
 ·rw[aN,if_neg]
  ·exact h
  ·simp;exact fun e=>hne e.symm
theorem BJ{w:CW}{r:Int}{Q:CV→Sg→Prop}:∀(ps:List (Int×Hd)) (ys:List CV) (k:Nat) (tab:Pd) (M:Tb),BX M k→k+ps.length≤700→tab.length+ps.length≤700→tab.lookup [r,0]=none→(∀s∈ps,s.1≠r)→
  (∀tab' M',BX M' (k+ps.length)→tab'.length≤tab.length+ps.length→tab'.lookup [r,0]=none→Q (.lst (ys++(bS (k+1) ps.length).map aG)) (w.sg tab' M'))→
  Ak xz d9 (bA 650 (Str.ofString "reserve") dG (bh aR (ak 2) (ak 0)) (ah (ak 1) aq)) [some (.lst [.ref w.ca])] (ps.map fun s=> .tup [.int 0,HQ s.1 s.2]) ys (w.sg tab M) Q
 |[],ys,k,tab,M,hM,hk,ht,hr,hne,h=>by
  have:=h tab M hM (by simp) hr
  exact(show ys++(bS (k+1) ([]:List (Int×Hd)).length).map aG=ys from List.append_nil ys)▸this
 |s::ps,ys,k,tab,M,hM,hk,ht,hr,hne,h=>by
  simp only[List.length_cons]at hk ht h;rw[List.map_cons];refine⟨_,rfl,?_⟩;refine⟨fun O=> ?_,fun h=>(by exact tf h)⟩
  refine⟨.ref w.ca,.inr (.inl ⟨_,rfl,by decide,sm rfl,rfl⟩),⟨w.cdx,_,w.col tab M [],rfl⟩,w,tab,M,k,s.1,s.2,rfl,rfl,rfl,hM,by exact Nat.le_trans (Nat.le_trans (Nat.le_add_right _ _) (by assumption)) (by decide),?_⟩
  have hl:=GB tab s.1 k;refine BJ ps _ (k+1) _ _ (hM.setNew (by lia) _) (by exact Nat.le_trans (Nat.le_of_eq (Nat.succ_add_eq_add_succ _ _)) (by assumption)) (by exact Nat.le_trans (Nat.add_le_add_right (by assumption) _) (Nat.le_trans (Nat.le_of_eq (Nat.succ_add_eq_add_succ _ _)) (by assumption))) (z_ hr (hne s (.head _))) (fun s' h'=>hne s' (.tail _ h')) fun tab' M' h1 h2 h3=> ?_
  have:=h tab' M' (by rw[show k+(ps.length+1)=k+1+ps.length by exact Eq.symm (Nat.succ_add_eq_add_succ k ps.length)];exact h1) (by lia) h3
  rw[List.append_assoc];exact this
theorem HV{r m:Int}{tab:Pd}(ht:tab.lookup [r,0]=some (eK m)){c:CV}(h:sj r c):Dg tab c∧oV tab c=JL m c:=by
 cases h with
 |leaf h=>
  refine⟨.inl h,?_⟩;rw[oz h];cases c with
  |int i=>rfl
  |obj C fs=>obtain⟨rfl,x,rfl⟩:=h;rfl
  |_=>exact h.elim
 | @nums is h=>exact⟨.inr (.inl ⟨is,rfl,h⟩),rfl⟩
 |ref=>
  refine⟨.inr (.inr ⟨r,m,rfl,ht⟩),?_⟩;show(match tab.lookup [r,0]with
   |some (.tup [.int m,_])=>aG m
   |_=> .none)=_
  rw[ht];rfl
theorem fH{K V:Type}[DecidableEq K]{k:K}{v:V}:∀{l:List (K×V)} {p:K×V},p∈bk k v l→p=(k,v)∨p∈l
 |[],p,h=>by simp[bk]at h;exact .inl h
 |q::r,p,h=>by
  unfold bk at h;split at h
  ·rcases List.mem_cons.mp h with h|h
   ·exact .inl h
   ·exact .inr (.tail _ h)
  ·rcases List.mem_cons.mp h with rfl|h
   ·exact .inr (.head _)
   ·exact(fH h).imp_right (.tail _)
theorem rW{K V:Type}[DecidableEq K]{k:K}{v:V}:∀{l:List (K×V)} {p:K×V},p∈l→p.1≠k→p∈bk k v l
 |q::r,p,h,hne=>by
  unfold bk;rcases List.mem_cons.mp h with rfl|h
  ·rw[if_neg hne];exact .head _
  ·split
   ·exact .tail _ h
   ·exact .tail _ (rW h hne)
set_option tactic.hygienic true in
theorem qp{K V:Type}[DecidableEq K]{k:K}{v:V}:∀{l:List (K×V)},(l.map (·.1)).Nodup→((bk k v l).map (·.1)).Nodup
 |[],_=>by simp[bk]
 |q::r,h=>by
  unfold bk;rw[List.map_cons,List.nodup_cons]at h;split
  ·rename_i e
   rw[List.map_cons,List.nodup_cons,←e];exact h
  ·rename_i e
   rw[List.map_cons,List.nodup_cons];refine⟨fun hm=> ?_,qp h.2⟩;refine el12 (List.mem_map.mp hm) fun p hp e2=> ?_;rcases fH hp with rfl|hp
   ·exact e e2.symm
   ·exact h.1 (List.mem_map.mpr ⟨p,hp,e2⟩)
theorem DW.bare{r:Int}{s:Int×Hd}(h:DW r s):E1 r (kg s.2)∧∃p∈kg s.2,p.2=aG r:=by
 have hl:=List.length_filter_le (fun p:Str×CV=>p.1 !=aJ) s.2;have h2:=dg dB (l_ (Str.ofString "Page")) (s.2.filter fun p=>p.1 !=aJ);have h3:=h.len;refine⟨⟨by unfold kg;lia,qp (h.nd.sublist (List.filter_sublist.map _)),fun p hp=> ?_⟩,?_⟩
 ·rcases fH hp with rfl|hp
  ·exact .leaf ⟨rfl,_,rfl⟩
  ·obtain⟨h1,h2⟩:=List.mem_filter.mp hp;exact h.sim p h1 (by simpa using h2)
 ·refine el14 h.has fun p h1 h2 h3 h4=> ?_;exact⟨p,rW (List.mem_filter.mpr ⟨h1,by simpa using h2⟩) h3,h4⟩
structure Lb(ps:List (Int×Hd))(v:Hd)(r:Int)(i:Nat)(tab:Pd)(M:Tb):Prop where
 ok:BX M (ps.length+3)
 tb:tab.lookup [r,0]=some (eK (ps.length+3))
 res:M.lookup (3+(ps.length:Int))=some (cP (.sd v))
 pg:∀(j:Nat) (s:Int×Hd),j<i→ps[j]? =some s→M.lookup (3+(j:Int))=some (cP (.sd (sW (3+(ps.length:Int)) s.2)))
def IH(ps:List (Int×Hd))(v:Hd)(r:Int)(i:Nat)(tab:Pd)(M:Tb):Prop:=(i=0∧BX M (ps.length+2)∧tab.lookup [r,0]=none∧tab.length≤800)∨(Lb ps v r i tab M∧tab.length≤801)
theorem Fc{w:CW}{ps:List (Int×Hd)}{v:Hd}{r:Int}{i:Nat}{tab:Pd}{M:Tb}(h:IH ps v r i tab M)(hz:ps.length≤50){l:Hd}(hl:E1 r l)(hex:∃p∈l,p.2=aG r)(hv:w.T.lookup r=some (cP (.sd v)))(hlv:mS v)(hB:w.B.lookup r=none){Q:CV→Sg→Prop}
  (hq:∀tab' M',tab'.length≤801→Lb ps v r i tab' M'→Q .none (w.sg tab' M')):cM [.ref w.ca,.sd l] (w.sg tab M) fun c sg1=>fo [.ref w.ca,c] sg1 Q:=by
 rcases h with⟨rfl,hM,hn,ht⟩|⟨hm,ht⟩
 ·refine⟨w,tab,M,_,r,v,rfl,rfl,hM,by exact Nat.le_trans (by assumption) (by decide),hl,hex,hv,hlv,hB,fun h=>(by rw[hn]at h;exact ff h),fun O=> ?_⟩
  have hM1:=hM.setNew (by lia) (cP .none)
  have e1:((ps.length+2:Nat):Int)+1=3+(ps.length:Int):=by exact Eq.symm (Int.add_comm 3 ↑ps.length)
  rw[e1]at hM1 ⊢;refine⟨w,_,_,_,r,3+(ps.length:Int),v,rfl,rfl,hM1,.inr ⟨rfl,?_,hv,hlv,hq _ _ ?_ ⟨?_,?_,?_,fun j s hj=>absurd hj (Nat.not_lt_zero _)⟩⟩⟩
  ·rw[aN,if_pos rfl]
  ·have:=dg [r,0] (eK (3+(ps.length:Int))) tab;lia
  ·exact hM1.setOld (by lia) (by exact Int.le_of_eq (id (Eq.symm e1))) _
  ·rw[aN,if_pos rfl,show 3+(ps.length:Int)=ps.length+3 by exact Int.add_comm 3 ↑ps.length]
  ·rw[aN,if_pos rfl]
 ·refine⟨w,tab,M,_,r,v,rfl,rfl,hm.ok,by exact Nat.le_trans (by assumption) (by decide),hl,hex,hv,hlv,hB,fun O=> ?_,fun h=>(by rw[hm.tb]at h;exact sn h)⟩
  exact⟨w,_,_,_,r,0,v,rfl,rfl,hm.ok,.inl ⟨rfl,hq _ _ (by exact String.Pos.Raw.mk_le_mk.mp ht) hm⟩⟩
theorem AN{w:CW}{ps:List (Int×Hd)}{v:Hd}{r:Int}{v0:CV}(hps:∀s∈ps,DW r s)(hz:ps.length≤50)(hv:w.T.lookup r=some (cP (.sd v)))(hlv:mS v)(hB:w.B.lookup r=none){Q:Fl→bp→Sg→Prop}:∀(m i:Nat) (tab:Pd) (M:Tb) (x7 x8 x9 x10 x11 x12:Option CV),i+m=ps.length→IH ps v r i tab M→
  (∀tab M x7 x8 x9 x10 x11 x12,IH ps v r ps.length tab M→Q .next [some v0,some (.lst (ps.map fun s=> .tup [.int 0,HQ s.1 s.2])),some (.ref w.ma),some (aG 1),some (aG 2),some (.lst [.ref w.ca]),some (.lst ((bS 3 ps.length).map aG)),x7,x8,x9,x10,x11,x12] (w.sg tab M))→
  dJ mK 7 ((List.range' i m).map fun(i:Nat)=> .int (i:Int)) [some v0,some (.lst (ps.map fun s=> .tup [.int 0,HQ s.1 s.2])),some (.ref w.ma),some (aG 1),some (aG 2),some (.lst [.ref w.ca]),some (.lst ((bS 3 ps.length).map aG)),x7,x8,x9,x10,x11,x12] (w.sg tab M) Q
 |0,i,tab,M,x7,x8,x9,x10,x11,x12,hi,hI,h=>by
  have hi:i=ps.length:=by exact Nat.add_right_cancel hi
  subst hi;exact h _ _ _ _ _ _ _ _ hI
 |m+1,i,tab,M,x7,x8,x9,x10,x11,x12,hi,hI,h=>by
  have ih:=AN (v0:=v0) hps hz hv hlv hB (Q:=Q) m (i+1);have hlt:i<ps.length:=by lia
  obtain⟨s,hs⟩:∃s,ps[i]? =some s:=⟨ps[i],List.getElem?_eq_getElem hlt⟩;have hin:=hps s (List.mem_of_getElem? hs);obtain⟨hrh,hex⟩:=hin.bare;rw[List.range'_succ,List.map_cons];refine⟨.tup [.int 0,HQ s.1 s.2],.inr (.inl ⟨_,rfl,by exact Int.natCast_nonneg i,ay (by rw[List.length_map];exact Nat.le_trans (by assumption) (by decide)),by rw[List.getElem?_map,show((i:Int).toNat)=i by exact Int.toNat_natCast i,hs];rfl⟩),rfl,?_⟩
  refine⟨.ref w.ca,.inr (.inl ⟨_,rfl,by decide,sm rfl,rfl⟩),?_⟩
  refine⟨s.1,s.2,rfl,by have:=hin.len;exact Nat.le_trans (by assumption) (by decide),hin.nd,?_⟩
  refine⟨⟨w.cdx,_,w.col tab M [],rfl⟩,⟨w.cdx,_,w.col tab M [],rfl⟩,?_⟩;refine Fc hI hz hrh hex hv hlv hB fun tab1 M1 ht1 hm=> ?_;have hren:=fun p hp=>HV hm.tb (hrh.sim p hp);refine⟨.ref w.ct,⟨w.cdx,_,w.col tab1 M1 [],rfl⟩,tab1,w.tab tab1 M1 [],by have:=hrh.len;exact Nat.le_trans (Nat.le_of_lt (by assumption)) (by decide),hrh.nd,fun p hp=>(hren p hp).1,fun e=> ?_⟩
  have e2:((kg s.2).map fun p=>(p.1,oV tab1 p.2))=((kg s.2).map fun p=>(p.1,JL (ps.length+3) p.2)):=List.map_congr_left fun p hp=>by rw[(hren p hp).2]
  rw[e2];refine⟨_,_,.head,by rw[List.length_map];have:=hrh.len;exact Nat.le_trans (Nat.le_of_lt (by assumption)) (by decide),?_⟩
  refine⟨e,_,_,rfl,.head,rfl,?_⟩;refine⟨⟨w.mdx,_,w.made tab1 M1 [],rfl⟩,aG (3+i),.inr (.inl ⟨_,rfl,by exact Int.natCast_nonneg i,ay (by rw[List.length_map,gb];exact Nat.le_trans (by assumption) (by decide)),by rw[List.getElem?_map,show((i:Int).toNat)=i by exact Int.toNat_natCast i,yd _ _ _ hlt];rfl⟩),_,⟨rfl,rfl⟩,?_⟩
  refine⟨_,_,w.mt,M1,w.Rm,w.shp tab1 M1 [],by have:=hm.ok.len;lia,?_⟩
  rw[w.put,List.nil_append];have hs3:∀c:CV,BX (bk (3+(i:Int)) c M1) (ps.length+3):=fun c=>hm.ok.setOld (by lia) (by lia) _
  refine ih _ _ _ _ _ _ _ _ (by lia) (.inr ⟨⟨hs3 _,hm.tb,?_,fun j s' hj hs'=> ?_⟩,ht1⟩) h
  ·rw[aN,if_neg (by lia)];exact hm.res
  ·rw[aN];by_cases e3:j=i
   ·obtain rfl:=e3.symm;rw[if_pos rfl];rw[hs]at hs';cases hs';rw[show(3+(ps.length:Int))=ps.length+3 by lia]
    rfl
   ·rw[if_neg (by lia)]
    exact hm.pg j s' (by exact Nat.lt_of_le_of_ne (Nat.le_of_lt_succ (by assumption)) (by assumption)) hs'
theorem lT(kf:KF W.K):ax W 10 (.ref 664) l2:=by
 refine zi (N:=9) kf ((el kf).upb rfl) ((cJ kf).upb rfl) (lS kf) ((eO kf).upb rfl) ((lU kf).upb rfl) ((g5 kf).upb rfl) ((dM kf).upb rfl) ((eB kf).upb rfl) ((cw kf).upb rfl) ((fg kf).upb rfl) fun sg Q cs (h:jL sg Q cs)=> ?_
 ·refine jL.casesOn h @fun sh places T R d rt r v ps z9 hd hR hr1 hr2 hv hlv z16 h0 hz hps hq=>⟨rfl,?_⟩;subst z9;subst z16;intro ma mdx mt;have hs0:∀M:Tb,ud ((mt,MO.nd M)::(ma,MO.obj 404 mdx (jo (.ref mt) []))::sg) ma M [] [] ((ma,MO.obj 404 mdx (jo (.ref mt) []))::sg) mt:=fun M=>⟨rfl,mdx,.head _⟩;refine⟨⟨mdx,_,.tail _ (.head _),rfl⟩,[],_,mt,[],[],0,hs0 _,by simp,fun i h1 h2=>by exact absurd (by assumption) (Nat.not_lt_of_le (by assumption)),rfl,?_⟩
  refine⟨⟨mdx,_,.tail _ (.head _),rfl⟩,[],_,mt,_,[],1,hs0 _,by simp[bk],fun i h1 h2=> ?_,rfl,?_⟩
  ·have:i=1:=by exact Eq.symm (Nat.le_antisymm h1 h2)
   subst this;rfl
  refine⟨trivial,ay (by exact Nat.le_of_ble_eq_true rfl),?_⟩
  show Ak lY d9 _ _ [qy T R] [] _ _;refine⟨_,rfl,?_⟩;refine⟨fun O=>⟨T,R,d,rt,rfl,hd,hR,fun ca cdx ct B hB=> ?_⟩,fun h=>(by exact tf h)⟩
  refine⟨trivial,ay (by(show(List.map _ _).length≤_;rw[List.length_map]);exact Nat.le_trans (by assumption) (by decide)),?_⟩
  let w:CW:=⟨ct,ca,cdx,T,R,B,mt,ma,mdx,[],sg⟩
  refine BJ (w:=w) (r:=r) ps [] 2 [] _ ⟨rfl,fun i h1 h2=> ?_,fun i hi=> ?_,?_,by decide⟩ (by lia) (by simp;exact Nat.le_trans (by assumption) (by decide)) rfl (fun s hs=>(hps s hs).ne) fun tab M hM ht htn=> ?_
  ·rcases(show i=1∨i=2 by lia)with rfl|rfl<;>rfl
  ·rw[aN,if_neg (by exact Int.ne_of_gt hi),aN,if_neg (by lia)];rfl
  ·decide
  refine⟨_,rfl,ay (by rw[List.length_map];exact Nat.le_trans (by assumption) (by decide)),by exact Int.natCast_nonneg (List.map (fun s=>CV.tup [CV.int 0,HQ s.fst s.snd]) ps).length,by rw[List.length_map];lia,?_⟩
  have e0:oW ((ps.map fun s=>CV.tup [.int 0,HQ s.1 s.2]).length:Int)=(List.range' 0 ps.length).map fun(i:Nat)=> .int (i:Int):=by
   unfold oW;rw[List.length_map,Int.toNat_natCast,List.range_eq_range']
  rw[e0];refine AN (w:=w) hps hz hv hlv (hB r hr1 hr2) _ 0 tab M _ _ _ _ _ _ (by lia) (.inl ⟨rfl,by rw[show ps.length+2=2+ps.length by lia];exact hM,htn,by simp at ht;exact Nat.le_trans (Nat.le_trans (by assumption) (by assumption)) (by decide)⟩) fun tab M x7 x8 x9 x10 x11 x12 hI=> ?_
  have hm:Lb ps v r ps.length tab M:=by
   rcases hI with⟨h,_⟩|⟨h,_⟩
   ·lia
   ·exact h
  have hk:=gb ps.length 3;refine⟨⟨mdx,_,w.made tab M [],rfl⟩,_,⟨rfl,rfl⟩,?_⟩;intro e;refine⟨rfl,fun f fdx=>⟨_,_,.head,rfl,_,rfl,ay (by rw[List.length_map];lia),_,rfl,ay (by rw[List.length_map];lia),_,.head,_,_,.head,rfl,?_⟩⟩
  refine⟨_,_,mt,M,[],w.shp tab M [],by have:=hm.ok.len;lia,?_⟩
  rw[w.put,List.nil_append];have e1:eE [] [(Str.ofString "Type",MO.tree (MO.obj 202 fdx ([Str.ofString "text"].zip [CV.str (Str.ofString "Pages")]))),(Str.ofString "Kids",CV.lst ((bS 3 ps.length).map aG)),(Str.ofString "Count",CV.int (((bS 3 ps.length).map aG).length:Int))]=n8 ps.length:=by
   rw[List.length_map,hk];rfl
  show Io _ _ _ (w.sg tab (bk 2 (cP (.sd (eE [] [(Str.ofString "Type",MO.tree (MO.obj 202 fdx ([Str.ofString "text"].zip [CV.str (Str.ofString "Pages")]))),(Str.ofString "Kids",CV.lst ((bS 3 ps.length).map aG)),(Str.ofString "Count",CV.int (((bS 3 ps.length).map aG).length:Int))]))) M));rw[e1];have hM1:=hm.ok.setOld (m:=2) (by decide) (by lia) (cP (.sd (n8 ps.length)))
  refine⟨⟨mdx,_,w.made tab _ [],rfl⟩,_,⟨rfl,rfl⟩,?_⟩;intro e;refine⟨rfl,fun f fdx=>⟨_,_,.head,rfl,_,.head,_,_,.head,rfl,?_⟩⟩;refine⟨_,_,mt,_,[],w.shp tab _ [],by have:=hM1.len;lia,?_⟩
  rw[w.put,List.nil_append];have hM2:=hM1.setOld (m:=1) (by decide) (by lia) (cP (.sd gz))
  intro g;refine⟨_,.head,_,_,.head,rfl,ma,mdx,_,_,rfl,.tail (.tail (.tail .head)),ej rfl,?_⟩;refine⟨ma,mdx,_,mt,_,_,_,rfl,rfl,.tail (.tail .head),rfl,.tail (.tail .head),ma,_,_,rfl,.tail (.tail .head),rfl,?_⟩;refine⟨sg,List.Sublist.cons _ (List.Sublist.cons _ (List.Sublist.refl _)),hq _ ⟨hM2,?_,?_,fun i s hs=> ?_,?_⟩⟩
  ·show(bk (1:Int) (cP (.sd gz)) _).lookup 1=_;rw[aN,if_pos rfl]
  ·show(bk (1:Int) (cP (.sd gz)) (bk (2:Int) _ M)).lookup 2=_;rw[aN,if_neg (by decide),aN,if_pos rfl]
  ·have hlt:i<ps.length:=(List.getElem?_eq_some_iff.mp hs).1;show(bk (1:Int) (cP (.sd gz)) (bk (2:Int) _ M)).lookup _=_;rw[aN,if_neg (by lia),aN,if_neg (by lia)]
   exact hm.pg i s hlt hs
  ·show(bk (1:Int) (cP (.sd gz)) (bk (2:Int) _ M)).lookup _=_;rw[aN,if_neg (by lia),aN,if_neg (by lia)]
   exact hm.res
theorem jl(kf:KF W.K):ax W 11 (.ref 669) ju:=by
 refine vP (N:=10) kf ((fB kf).upb rfl) (lT kf) fun sg Q cs (h:hZ sg Q cs)=> ?_
 ·refine hZ.casesOn h @fun sh idx T R d rt r v is z9 hd hR hr1 hr2 hv hlv z16 h0 hz hlt hlen hps hq=>⟨rfl,?_⟩;subst z9;subst z16;have hpz:d.pages.length≤60:=Nat.le_trans (List.length_filter_le _ _) (by rw[b7];exact hd.sz)
  refine⟨T,R,d,⟨rfl,rfl⟩,hd,fun s hs=>Nat.le_trans (hlen s hs) (by exact Nat.le_of_ble_eq_true rfl),?_⟩
  have hil:(bZ (is.map fun(i:Nat)=>(i:Int))).length=is.length:=by simp[bZ]
  refine⟨trivial,ay (by show(bZ (is.map fun(i:Nat)=>(i:Int))).length≤1000;lia),?_⟩
  have ei:jY (.lst (bZ (is.map fun(i:Nat)=>(i:Int))))=is.map fun(i:Nat)=> .int (i:Int):=by show List.map _ (List.map _ _)=_;rw[List.map_map];rfl
  rw[ei];refine cZ (f:=fun(i:Nat)=>CV.int (i:Int)) (g:=fun(i:Nat)=>CV.int (i:Int)) (p:=fun O=>false) is [] (fun i hi K hK=> ?_) (fun i hi h=>(by exact ff h)) ?_
  ·unfold qx;refine⟨_,rfl,fun O=>⟨_,rfl,ay (by rw[List.length_map];exact Nat.le_trans (by assumption) (by decide)),?_⟩,fun h=> ?_⟩
   ·have:=hlt i hi;exact⟨true,(decide_eq_true (by rw[List.length_map];exact Int.ofNat_lt.mpr (hlt i hi))).symm,hK⟩
   ·simp at h
  ·have ef:(is.filter fun O=>false)=[]:=by simp
   rw[ef];refine⟨sm rfl,fun a=>⟨_,_,.head,rfl,?_⟩⟩;refine⟨rfl,rfl,false,rfl,.n ?_⟩;refine⟨sm rfl,fun b=>⟨_,_,.head,rfl,trivial,ay (by show(bZ (is.map fun(i:Nat)=>(i:Int))).length≤1000;lia),?_⟩⟩
   rw[ei];refine h7 (f:=fun(i:Nat)=>CV.int (i:Int)) (g:=fun(i:Nat)=>CV.tup [.int 0,nN (d.pages.getD i tY)]) is (fun i hi K hK=> ?_) ?_
   ·have h1:=hlt i hi;have e2:d.pages.getD i tY=d.pages[i]:=by simp[List.getD,h1]
    refine⟨nN d.pages[i],.inr (.inl ⟨_,rfl,by exact Int.natCast_nonneg i,ay (by rw[List.length_map];exact Nat.le_trans (by assumption) (by decide)),?_⟩),sm rfl,?_⟩
    ·rw[List.getElem?_map,show((i:Int).toNat)=i by exact Int.toNat_natCast i,List.getElem?_eq_getElem h1];rfl
    ·rw[←e2];exact hK
   ·refine⟨T,R,d,rt,r,v,is.map fun i=>GU (d.pages.getD i tY),rfl,hd,hR,hr1,hr2,hv,hlv,?_,by rw[List.length_map];exact h0,by rw[List.length_map];exact hz,fun s hs=> ?_,fun M hM=>rs (hq M hM)⟩
    ·rw[List.map_map];rfl
    ·obtain⟨i,hi,rfl⟩:=List.mem_map.mp hs;have e2:d.pages.getD i tY=d.pages[i]'(hlt i hi):=by simp[List.getD,hlt i hi]
     rw[e2];exact hps _ (List.getElem_mem _)
end
noncomputable def bO(dt:Array UInt8)(bs sh:CV):CV:= .obj 686 [(Str.ofString "data",.byt dt),(Str.ofString "base",bs),(Str.ofString "shelf",sh)]
noncomputable abbrev rV:=Str.ofString "Root"
inductive gx(sg:Sg)(Q:CV→Sg→Prop):List CV→Prop
 |mk {b:CV} {sh:CV} (dt bs sh0 T R rt c):b=bO dt bs sh0→sh=qy T R→R.lookup rV=some (aG rt)→T.lookup rt=some (cP (.sd c))→c≠[]→Q (bO dt bs sh) sg→gx sg Q [b,sh]
def eu:ao:=fun cs sg Q=>gx sg Q cs
noncomputable def dU(p c:Int):MO:= .lst [.int p,.int c]
inductive lH(sg:Sg)(Q:CV→Sg→Prop):List CV→Prop
 |mk {l:List CV} (is):l=bZ is→is.length≤63→(∀a p,0≤p→Q (.ref a) ((a,dU p 0)::sg))→lH sg Q [.lst l]
def nX:ao:=fun cs sg Q=>lH sg Q cs
inductive jJ(sg:Sg)(Q:CV→Sg→Prop):List CV→Prop
 |mk {pa:Addr} {many:Int} (pre post p c):sg=pre++(pa,dU p c)::post→0≤p→0≤c→c≤900→1≤many→many≤1000→(∀d p',0≤d→d<many→0≤p'→Q (.int d) (pre++(pa,dU p' (c+1))::post))→jJ sg Q [.ref pa,.int many]
def bU:ao:=fun cs sg Q=>jJ sg Q cs
noncomputable abbrev cx:=Str.ofString "Rotate"
noncomputable def jz(l:Hd)(t:Int):Hd:=if 0<t then bk cx (.int (90*t.fmod 3)) l else l
inductive hJ(sg:Sg)(Q:CV→Sg→Prop):List CV→Prop
 |mk {a:Addr} {t:Int} (l rest):sg=(a,.sd l)::rest→l.length≤900→Q (.ref a) ((a,.sd (jz l t))::rest)→hJ sg Q [.ref a,.int t]
def eR:ao:=fun cs sg Q=>hJ sg Q cs
abbrev gX:=Int×Int×Int
noncomputable def b9(r:gX):CV:= .tup [.int r.1,.int r.2.1,.int r.2.2]
noncomputable abbrev fu:Hd:=[(Str.ofString "Font",.int 5)]
noncomputable abbrev iB:=Str.ofString "Mark"
noncomputable abbrev td:=Str.ofString "Resources"
noncomputable abbrev ww:=Str.ofString "MediaBox"
noncomputable abbrev iA:=Str.ofString "CropBox"
structure Ih(T:Tb)(F:Hd)(row:gX):Prop where
 mrk:F.lookup iB=some (.int row.1)
 rot:(F.lookup cx=none∧row.2.1=0)∨∃t,F.lookup cx=some (.int t)∧row.2.1=t.fdiv 90
 res:∃r,F.lookup td=some (aG r)∧T.lookup r=some (cP (.sd fu))
 box:F.lookup ww=some (.lst [.int 0,.int 0,.int 7,.int 9])
 crop:(F.lookup iA=none∧row.2.2=0)∨∃a b c,F.lookup iA=some (.lst [a,b,c,.int row.2.2])
noncomputable def ed(s:aS):Hd:=ko s.l s.m bM s.l
class inductive gq(T:Tb):List aS→List gX→Prop
 |nil:gq T [] []
 |cons {s:aS} {ss:List aS} {r:gX} {rs:List gX}:Ih T (ed s) r→gq T ss rs→gq T (s::ss) (r::rs)
inductive jK(sg:Sg)(Q:CV→Sg→Prop):List CV→Prop
 |mk {sh:CV} (T R d rows):sh=qy T R→iu T R d→(∀s∈d.spots,s.l.length≤100)→gq T d.pages rows→Q (.lst (rows.map b9)) sg→jK sg Q [sh]
def gL:ao:=fun cs sg Q=>jK sg Q cs
def qA(d:dZ):Prop:=∀s∈d.spots,s.ab.length≤20∧(∀k∈s.ab,k∈d.spots.map (·.n))∧(∃p,BB s.l p∧qn p s.ab=true)∧(s.pg=false→∃i,s.l.lookup bb=some (.int i)∧ki d.spots s.n=some i)∧(ki d.spots s.n).isSome=true∧(s.pg=true→(s.m.lookup (Str.ofString "MediaBox")).isSome=true)
inductive iG(sg:Sg)(Q:CV→Sg→Prop):List CV→Prop
 |mk {b:CV} {l:List CV} (dt bs T R d rows):b=bO dt bs (qy T R)→l=rows.map b9→iu T R d→(∀s∈d.spots,s.l.length≤100)→gq T d.pages rows→d.l.lookup bb=some (.int rows.length)→qA d→Q (.bool true) sg→iG sg Q [b,.lst l]
def fL:ao:=fun cs sg Q=>iG sg Q cs
noncomputable def jf{α:Type}(l:List α)(a b:Nat)(x:α):List α:=(l.take a++l.drop (a+1)).take b++[x]++(l.take a++l.drop (a+1)).drop b
inductive iF(sg:Sg)(Q:CV→Sg→Prop):List CV→Prop
 |mk {l:List CV} {i:Int} {j:Int} (a b:Nat) (x:CV):i=a→j=b→l[a]? =some x→l.length≤900→Q (.lst (jf l a b x)) sg→iF sg Q [.lst l,.int i,.int j]
def kK:ao:=fun cs sg Q=>iF sg Q cs
section
noncomputable def ms:List Str:=[Str.ofString "bench",Str.ofString "shelf"]
noncomputable def mh:List Str:=[]
noncomputable def uG:List Str:=[Str.ofString "DeskFault",Str.ofString "Bench"]
def uT:PS:=(aj (ew (aX (bh eG (bA 404 (Str.ofString "root") dO (ak 1) aq) (fv (fW (.sd []))))) (aj m8
 am) am)
 (aj (bQ (fv (aA jp (ah (fld 686 (Str.ofString "data") (ak 0)) (ah (fld 686 (Str.ofString "base") (ak 0)) (ah (ak 1) aq))))))
 am))
theorem uD{W:Wd}(kf:KF W.K){N:Nat}(cK:ax W N (.ref 396) dO)(gF:ax W N (.ref 686) jp){sp:ao}(hsp:gh ms mh (uT) sp):ax W (N+1) (.ref 697) sp:=by
 refine aO (ps:=ms) (more:=mh) (globs:=uG) (kf.f 49 rfl) rfl (by decide+kernel) (cF fun O O O O O O O O O O O=> .of_eq rfl) (fun X hn hg hsc hnn hm=> ?_) hsp
 refine ag (be (aE rfl bt (bV (kf.b 33 rfl) cK (bn hnn) rfl (ad 1 hn rfl)) (aT (cU rfl))) (by {refine ag fR ?_;exact ai}) ai) ?_
 refine ag (aL (aT (au 1 hg rfl (kf.n 47 rfl) (kf.b 83 rfl) gF (bn hnn) rfl rfl (ae rfl (aB (kf.b 81 rfl) rfl (ad 0 hn rfl)) (ae rfl (aB (kf.b 82 rfl) rfl (ad 0 hn rfl)) (ae rfl (ad 1 hn rfl) af)))))) ?_;exact ai
noncomputable def tS:List Str:=[Str.ofString "script"]
noncomputable def tO:List Str:=[Str.ofString "number",Str.ofString "cell"]
noncomputable def Be:List Str:=[Str.ofString "abs"]
def oY:PS:=(aj (cS 1 (bh dD (bh dD (bh wB (ak 1) (aK (.int 1000003))) (bh wB (aK (.int 2)) (aA Iz (ah (ak 2) aq)))) (xY (aX (bh Ab (ak 2) (aK (.int 0)))) (aK (.int 1)) (aK (.int 0)))))
 am)
def wZ:PS:=(aj (bQ (cT (ah (ak 1) (ah (aK (.int 0)) aq))))
 am)
def w0:PS:=(aj (forS 2 (kI (ak 0) (aK .none) (aK (.int 12))) oY)
 wZ)
def B1:PS:=(aj (cS 1 (aK (.int 0)))
 w0)
theorem A_{W:Wd}(kf:KF W.K){N:Nat}{sp:ao}(hsp:gh tS tO (B1) sp):ax W (N+1) (.ref 732) sp:=by
 refine aO (ps:=tS) (more:=tO) (globs:=Be) (kf.f 54 rfl) rfl (by decide+kernel) (dI fun O O O O O O O O O O=> .of_eq rfl) (fun X hn hg hsc hnn hm=> ?_) hsp
 refine ag (ar 1 hn hm rfl (bl rfl) rfl av) ?_;refine ag (fY 2 hn hg hsc hnn hm rfl (bl rfl) (fun O=>rfl) (gD (ad 0 hn rfl) fd (iM av)) (fun X hA hE hn hg hsc hnn hm=>(by {refine ag (ar 1 hn hm rfl (bl rfl) rfl (bH bG (bH bG (bH kX (ad 1 hn rfl) av) (bH kX av (bd 0 hg rfl (kf.n 54 rfl) rfl (by decide) (.inl ⟨_,rfl⟩) Fs rfl rfl (ae rfl (ad 2 hn rfl) af)))) (fZ (aE rfl jU (ad 2 hn rfl) av) av av))) ?_;exact ai}))) ?_
 refine ag (aL (bD (ae rfl (ad 1 hn rfl) (ae rfl av af)))) ?_;exact ai
noncomputable def rL:List Str:=[Str.ofString "pen",Str.ofString "many"]
noncomputable def rq:List Str:=[Str.ofString "digit"]
noncomputable def zt:List Str:=[]
def u4:PS:=(aj (bQ (ak 2))
 am)
def mZ:PS:=(aj (dC (ak 0) (aK (.int 0)) (bh DK (bh aR (ak 0) (aK (.int 0))) (ak 1)))
 u4)
def m3:PS:=(aj (bQ (bh yA (bh DK (bh dD (bh dD (bh wB (bh wB (aK (.int 7)) (bh aR (ak 0) (aK (.int 1)))) (bh aR (ak 0) (aK (.int 1)))) (bh wB (aK (.int 3)) (bh aR (ak 0) (aK (.int 1))))) (aK (.int 2))) (aK (.int 5))) (ak 1)))
 am)
def m4:PS:=(aj (ew (aX (bh BP (bh aR (ak 0) (aK (.int 0))) (aK (.int 0)))) (aj (cS 2 (bh yA (bh aR (ak 0) (aK (.int 0))) (ak 1)))
 mZ) am)
 m3)
def Aw:PS:=(aj (dC (ak 0) (aK (.int 1)) (bh dD (bh aR (ak 0) (aK (.int 1))) (aK (.int 1))))
 m4)
theorem zg{W:Wd}(kf:KF W.K){N:Nat}{sp:ao}(hsp:gh rL rq (Aw) sp):ax W (N+1) (.ref 739) sp:=by
 refine aO (ps:=rL) (more:=rq) (globs:=zt) (kf.f 55 rfl) rfl (by decide+kernel) (cF fun O O O O O O O O O O O=> .of_eq rfl) (fun X hn hg hsc hnn hm=> ?_) hsp
 refine ag (bI rfl (ad 0 hn rfl) av (bH bG (aU (fun O O=>rfl) aD (ad 0 hn rfl) av) av)) ?_;refine ag (be (aE rfl q5 (aU (fun O O=>rfl) aD (ad 0 hn rfl) av) av) (by {refine ag (ar 2 hn hm rfl (bl rfl) rfl (bH q6 (aU (fun O O=>rfl) aD (ad 0 hn rfl) av) (ad 1 hn rfl))) ?_;refine ag (bI rfl (ad 0 hn rfl) av (bH vC (aU (fun O O=>rfl) aD (ad 0 hn rfl) av) (ad 1 hn rfl))) ?_;refine ag (aL (ad 2 hn rfl)) ?_;exact ai}) ai) ?_
 refine ag (aL (bH q6 (bH vC (bH bG (bH bG (bH kX (bH kX av (aU (fun O O=>rfl) aD (ad 0 hn rfl) av)) (aU (fun O O=>rfl) aD (ad 0 hn rfl) av)) (bH kX av (aU (fun O O=>rfl) aD (ad 0 hn rfl) av))) av) av) (ad 1 hn rfl))) ?_;exact ai
noncomputable def nP:List Str:=[Str.ofString "head",Str.ofString "turn"]
noncomputable def nz:List Str:=[]
noncomputable def vS:List Str:=[]
def wR:PS:=(aj (ew (aX (bh BP (ak 1) (aK (.int 0)))) (aj (dC (ak 0) (aK (.str (Str.ofString "Rotate"))) (bh wB (aK (.int 90)) (bh yA (ak 1) (aK (.int 3)))))
 am) am)
 (aj (bQ (ak 0))
 am))
theorem vK{W:Wd}(kf:KF W.K){N:Nat}{sp:ao}(hsp:gh nP nz (wR) sp):ax W (N+1) (.ref 746) sp:=by
 refine aO (ps:=nP) (more:=nz) (globs:=vS) (kf.f 56 rfl) rfl (by decide+kernel) (cF fun O O O O O O O O O O O=> .of_eq rfl) (fun X hn hg hsc hnn hm=> ?_) hsp
 refine ag (be (aE rfl q5 (ad 1 hn rfl) av) (by {refine ag (bI rfl (ad 0 hn rfl) aI (bH kX av (bH q6 (ad 1 hn rfl) av))) ?_;exact ai}) ai) ?_
 refine ag (aL (ad 0 hn rfl)) ?_;exact ai
noncomputable def rM:List Str:=[Str.ofString "shelf"]
noncomputable def rx:List Str:=[Str.ofString "rows",Str.ofString "page",Str.ofString "turn",Str.ofString "worth",Str.ofString "crop"]
noncomputable def zu:List Str:=[Str.ofString "pages",Str.ofString "isinstance",Str.ofString "dict"]
def u5:PS:=(aj (cB (cq wf dE (ak 1) (ah (dK (ah (bh aR (fld 431 (Str.ofString "fields") (ak 2)) (aK (.str (Str.ofString "Mark")))) (ah (xY (aX (bh rZ (ak 3) (aK .none))) (aK (.int 0)) (bh DK (ak 3) (aK (.int 90)))) (ah (xY (aX (bh rZ (ak 5) (aK .none))) (aK (.int 0)) (bh aR (ak 5) (aK (.int 3)))) aq)))) aq)))
 am)
def u6:PS:=(aj (cS 5 (cq Ew pG (fld 431 (Str.ofString "fields") (ak 2)) (ah (aK (.str (Str.ofString "CropBox"))) aq)))
 u5)
def u7:PS:=(aj (ew (yD (aX (bh lZ (bh aR (fld 431 (Str.ofString "fields") (ak 2)) (aK (.str (Str.ofString "MediaBox")))) (fv (cT (ah (aK (.int 0)) (ah (aK (.int 0)) (ah (aK (.int 7)) (ah (aK (.int 9)) aq)))))))) (yD (lz (aX (isi (eY (.type "dict")) (ak 4)))) (yD (aX (bh lZ (ak 4) (fv (ij (cn (aK (.str (Str.ofString "Font"))) (aK (.int 5)) ik))))) Ah))) (aj (bQ (aK .none))
 am) am)
 u6)
def u8:PS:=(aj (cS 4 (bA 404 (Str.ofString "get") aQ (ak 0) (ah (fld 431 (Str.ofString "fields") (ak 2)) (ah (aK (.str (Str.ofString "Resources"))) aq))))
 u7)
def iV:PS:=(aj (cS 3 (bA 404 (Str.ofString "get") aQ (ak 0) (ah (fld 431 (Str.ofString "fields") (ak 2)) (ah (aK (.str (Str.ofString "Rotate"))) aq))))
 u8)
def u9:PS:=(i9 1 (aj (bQ (ak 1))
 am))
def u_:PS:=(aj (forS 2 (aA iq (ah (ak 0) aq)) iV)
 u9)
def Ax:PS:=(aj (cS 1 (cT aq))
 u_)
theorem zh{W:Wd}(kf:KF W.K){N:Nat}(aH:ax W N (.ref 347) aQ)(fB:ax W N (.ref 515) iq){sp:ao}(hsp:gh rM rx (Ax) sp):ax W (N+1) (.ref 760) sp:=by
 refine aO (ps:=rM) (more:=rx) (globs:=zu) (kf.f 58 rfl) rfl (by decide+kernel) (dI fun O O O O O O O O O O=> .of_eq rfl) (fun X hn hg hsc hnn hm=> ?_) hsp
 refine ag (ar 1 hn hm rfl (bl rfl) rfl (bD af)) ?_;refine ag (fY 2 hn hg hsc hnn hm rfl (bl rfl) (fun O=>rfl) (au 0 hg rfl (kf.n 45 rfl) (kf.b 76 rfl) fB (bn hnn) rfl rfl (ae rfl (ad 0 hn rfl) af)) (fun X hA hE hn hg hsc hnn hm=>(by {refine ag (ar 3 hn hm rfl (bl rfl) rfl (bi (kf.b 19 rfl) aH (bn hnn) rfl rfl rfl (ad 0 hn rfl) (ae rfl (aB (kf.b 70 rfl) rfl (ad 2 hn rfl)) (ae rfl aI af)))) ?_;refine ag (ar 4 hn hm rfl (bl rfl) rfl (bi (kf.b 19 rfl) aH (bn hnn) rfl rfl rfl (ad 0 hn rfl) (ae rfl (aB (kf.b 70 rfl) rfl (ad 2 hn rfl)) (ae rfl aI af)))) ?_;refine ag (be (eg (aE rfl dl (aU (fun O O=>rfl) aD (aB (kf.b 70 rfl) rfl (ad 2 hn rfl)) aI) (aT (bD (ae rfl av (ae rfl av (ae rfl av (ae rfl av af))))))) (eg (c9 (bj rfl (h9 1 2 hg rfl (kf.n 0 rfl) rfl rfl (kf.n 7 rfl) rfl (by decide) (kf.a 6 rfl) rfl rfl rfl (ad 4 hn rfl)))) (eg (aE rfl dl (ad 4 hn rfl) (aT (jc rfl rfl (cC aI av ee)))) jW))) (by {refine ag (aL bE) ?_;exact ai}) ai) ?_;refine ag (ar 5 hn hm rfl (bl rfl) rfl (br iL gB rfl rfl rfl (aB (kf.b 70 rfl) rfl (ad 2 hn rfl)) (ae rfl aI af))) ?_;refine ag (bq (aC X) rfl (br cG cc rfl rfl rfl (ad 1 hn rfl) (ae rfl (bB (ae rfl (aU (fun O O=>rfl) aD (aB (kf.b 70 rfl) rfl (ad 2 hn rfl)) aI) (ae rfl (fZ (aE rfl e_ (ad 3 hn rfl) bE) av (bH vC (ad 3 hn rfl) av)) (ae rfl (fZ (aE rfl e_ (ad 5 hn rfl) bE) av (aU (fun O O=>rfl) aD (ad 5 hn rfl) av)) af)))) af))) ?_;exact ai}))) ?_
 refine cV 1 ?_;refine ag (aL (ad 1 hn rfl)) ?_;exact ai
noncomputable def pA:List Str:=[Str.ofString "bench",Str.ofString "rows"]
noncomputable def pc:List Str:=[]
noncomputable def xl:List Str:=[Str.ofString "_law_seen",Str.ofString "page_count",Str.ofString "len",Str.ofString "page_faults"]
def yO:PS:=(aj (ew (yD (aX (bh lZ (aA gL (ah (fld 686 (Str.ofString "shelf") (ak 0)) aq)) (ak 1))) (yD (aX (bh lZ (aA kL (ah (fld 686 (Str.ofString "shelf") (ak 0)) aq)) (aA fK (ah (ak 1) aq)))) Ah)) (aj (bQ (aK (.bool false)))
 am) am)
 (aj (bQ (bh eG (aA jt (ah (fld 686 (Str.ofString "shelf") (ak 0)) aq)) (fv (cT aq))))
 am))
theorem xc{W:Wd}(kf:KF W.K){N:Nat}(kE:ax W N (.ref 522) kL)(fh:ax W N (.ref 760) gL)(jk:ax W N (.ref 550) jt){sp:ao}(hsp:gh pA pc (yO) sp):ax W (N+1) (.ref 767) sp:=by
 refine aO (ps:=pA) (more:=pc) (globs:=xl) (kf.f 59 rfl) rfl (by decide+kernel) (cF fun O O O O O O O O O O O=> .of_eq rfl) (fun X hn hg hsc hnn hm=> ?_) hsp
 refine ag (be (eg (aE rfl dl (au 0 hg rfl (kf.n 58 rfl) (kf.b 93 rfl) fh (bn hnn) rfl rfl (ae rfl (aB (kf.b 84 rfl) rfl (ad 0 hn rfl)) af)) (ad 1 hn rfl)) (eg (aE rfl dl (au 1 hg rfl (kf.n 57 rfl) (kf.b 92 rfl) kE (bn hnn) rfl rfl (ae rfl (aB (kf.b 84 rfl) rfl (ad 0 hn rfl)) af)) (bd 2 hg rfl (kf.n 32 rfl) rfl (by decide) (.inl ⟨_,rfl⟩) cg rfl rfl (ae rfl (ad 1 hn rfl) af))) jW)) (by {refine ag (aL gC) ?_;exact ai}) ai) ?_
 refine ag (aL (fX rfl bt (au 3 hg rfl (kf.n 59 rfl) (kf.b 94 rfl) jk (bn hnn) rfl rfl (ae rfl (aB (kf.b 84 rfl) rfl (ad 0 hn rfl)) af)) (aT (bD af)))) ?_;exact ai
noncomputable def pw:List Str:=[Str.ofString "rows",Str.ofString "first",Str.ofString "behind"]
noncomputable def o_:List Str:=[Str.ofString "left"]
noncomputable def xk:List Str:=[]
def yN:PS:=(aj (cS 3 (bh dD (kI (ak 0) (aK .none) (ak 1)) (kI (ak 0) (bh dD (ak 1) (aK (.int 1))) (aK .none))))
 (aj (bQ (bh dD (bh dD (kI (ak 3) (aK .none) (ak 2)) (fv (cT (ah (bh aR (ak 0) (ak 1)) aq)))) (kI (ak 3) (ak 2) (aK .none))))
 am))
theorem xb{W:Wd}(kf:KF W.K){N:Nat}{sp:ao}(hsp:gh pw o_ (yN) sp):ax W (N+1) (.ref 774) sp:=by
 refine aO (ps:=pw) (more:=o_) (globs:=xk) (kf.f 60 rfl) rfl (by decide+kernel) (gY fun O O O O O O O O O O O O=> .of_eq rfl) (fun X hn hg hsc hnn hm=> ?_) hsp
 refine ag (ar 3 hn hm rfl (bl rfl) rfl (bH bG (gD (ad 0 hn rfl) fd (iM (ad 1 hn rfl))) (gD (ad 0 hn rfl) (iM (bH bG (ad 1 hn rfl) av)) fd))) ?_;refine ag (aL (bH bG (bH bG (gD (ad 3 hn rfl) fd (iM (ad 2 hn rfl))) (aT (bD (ae rfl (aU (fun O O=>rfl) aD (ad 0 hn rfl) (ad 1 hn rfl)) af)))) (gD (ad 3 hn rfl) (iM (ad 2 hn rfl)) fd))) ?_;exact ai
end
section
variable {W:Wd}
theorem dr(kf:KF W.K):ax W 5 (.ref 697) eu:=by
 refine uD (N:=4) kf (cK kf) ((gF kf).upb rfl) fun sg Q cs (h:gx sg Q cs)=> ?_
 ·refine gx.casesOn h @fun O O dt bs sh0 T R rt c z9 z10 hR hT hc hq=>⟨rfl,?_⟩;subst z9;subst z10;refine⟨⟨rfl,rfl⟩,T,R,c,⟨rfl,rfl⟩,.inr ⟨rt,by rw[show Str.ofString "Root"=rV from rfl,hR];rfl,hT,trivial⟩,fun a=>⟨_,_,.head,rfl,?_⟩⟩
  have e:c.isEmpty=false:=by cases c with
   |nil=>exact absurd rfl hc
   |cons _ _=>rfl
  refine⟨false,e.symm,.n ⟨_,⟨rfl,rfl⟩,_,⟨rfl,rfl⟩,rfl,fun a dx=>⟨_,_,.head,rfl,rs hq⟩⟩⟩
theorem BC{sg:Sg}{v0:CV}{Q:Fl→bp→Sg→Prop}:∀(is:List Int) (p:Int) (x:Option CV),0≤p→(∀p x,0≤p→Q .next [some v0,some (.int p),x] sg)→dJ oY 2 (bZ is) [some v0,some (.int p),x] sg Q
 |[],p,x,hp,h=>h p x hp
 |i::is,p,x,hp,h=>by
  have ih:=fun p' hp'=>BC (v0:=v0) (sg:=sg) (Q:=Q) is p' (some (.int i)) hp' h;show dJ _ 2 (.int i::bZ is) _ _ _;refine⟨.inr (by decide),.inl (by decide),_,rfl,fun O=> ?_,fun O=> ?_⟩
  ·exact ih _ (by lia)
  ·exact ih _ (by lia)
theorem nI(kf:KF W.K):ax W 1 (.ref 732) nX:=by
 refine A_ kf fun sg Q cs (h:lH sg Q cs)=> ?_
 ·refine lH.casesOn h @fun O is z2 hl hq=>⟨rfl,?_⟩;subst z2;refine ?_;refine⟨ay (by simp[bZ];exact Nat.le_trans (by assumption) (by decide)),by decide,trivial,?_⟩
  have e:(bZ is).take ((12:Int).toNat)=bZ (is.take 12):=by simp[bZ,List.map_take]
  show dJ _ 2 ((bZ is).take ((12:Int).toNat)) _ _ _;rw[e];refine BC _ 0 _ (by decide) fun p x hp=> ?_
  exact⟨sm rfl,fun a=>rs (hq a p hp)⟩
theorem sX{x y:Int}(h0:0≤y)(h:y≤1000):Builtin.divisionGoesByPylong x y=false:=by
 have h1:y.natAbs.log2≤y.natAbs:=Nat.log2_le_self _;have h2:y.natAbs≤1000:=by lia
 unfold Builtin.divisionGoesByPylong;simp only[Bool.and_eq_false_imp,decide_eq_true_eq];intro h3;split at h3<;>lia
theorem bT(kf:KF W.K):ax W 1 (.ref 739) bU:=by
 refine zg kf fun sg Q cs (h:jJ sg Q cs)=> ?_
 ·refine jJ.casesOn h @fun pa many pre post p c z6 hp hc hc9 hm1 hm2 hq=>⟨rfl,?_⟩;subst z6;have hin:∀x y:Int,(pa,dU x y)∈pre++(pa,dU x y)::post:=fun x y=>List.mem_append_right _ (.head _);have g0:∀x y:Int,lR (pre++(pa,dU x y)::post) (.ref pa) (.int 0) (.int x):=fun x y=> .inr (.inl ⟨_,hin x y,by decide,sm rfl,rfl⟩)
  have g1:∀x y:Int,lR (pre++(pa,dU x y)::post) (.ref pa) (.int 1) (.int y):=fun x y=> .inr (.inl ⟨_,hin x y,by decide,sm rfl,rfl⟩)
  refine⟨_,g1 p c,.inr ⟨[.int p,.int c],_,lA pre,by decide,by simp,sm rfl,?_⟩⟩
  show m4 _ (pre++(pa,dU p (c+1))::post) _;refine⟨_,g0 _ _,_,rfl,fun O=>⟨_,g0 _ _,by exact Int.ne_of_gt (by assumption),?_⟩,fun O=> ?_⟩
  ·unfold mZ;refine⟨_,g0 _ _,by exact Int.ne_of_gt (by assumption),sX (by exact Int.le_of_lt (by assumption)) hm2,.inr ⟨[.int p,.int (c+1)],_,lA pre,by decide,by simp,sm rfl,?_⟩⟩
   refine rs (hq _ _ ?_ ?_ ?_)
   ·exact Int.fmod_nonneg hp (by exact Int.le_of_lt (by assumption))
   ·exact Int.fmod_lt_of_pos _ (by assumption)
   ·rw[Int.fdiv_eq_ediv_of_nonneg _ (by exact Int.le_of_lt (by assumption))]
    exact Int.ediv_nonneg hp (by exact Int.le_of_lt (by assumption))
  ·unfold m3;refine⟨_,g1 _ _,.inl (by decide),_,g1 _ _,.inr (intBits_le_64 (by lia) (by lia)),_,g1 _ _,.inl (by decide),by decide,sX (by decide) (by decide),by exact Int.ne_of_gt (by assumption),rs (hq _ _ ?_ ?_ hp)⟩
   ·exact Int.fmod_nonneg_of_pos _ (by assumption)
   ·exact Int.fmod_lt_of_pos _ (by assumption)
theorem eP(kf:KF W.K):ax W 1 (.ref 746) eR:=by
 refine vK kf fun sg Q cs (h:hJ sg Q cs)=> ?_
 ·refine hJ.casesOn h @fun a t l rest z4 hl hq=>⟨rfl,?_⟩;subst z4;unfold jz at hq;refine⟨_,rfl,fun h=> ?_,fun h=> ?_⟩
  ·have h:0<t:=by simpa using h
   rw[if_pos h]at hq;exact⟨by decide,.inl (by decide),l,_,.head,by exact Nat.le_trans (by assumption) (by decide),rs hq⟩
  ·have h:¬0<t:=by simpa using h
   rw[if_neg h]at hq;exact rs hq
theorem kC(kf:KF W.K):ax W 1 (.ref 774) kK:=by
 refine xb kf fun sg Q cs (h:iF sg Q cs)=> ?_
 ·refine iF.casesOn h @fun l i j a b x z6 z7 hx hl hq=>⟨rfl,?_⟩;subst z6;subst z7;have s:∀{n:Nat},n≤l.length→small n:=fun h=>ay (Nat.le_trans h (Nat.le_trans hl (by decide)))
  have s':∀{n:Nat},n≤l.length+1→small n:=fun h=>ay (Nat.le_trans h (Nat.le_trans (Nat.succ_le_succ hl) (by decide)))
  have h3:=zM l a;refine⟨s (Nat.le_refl _),Int.natCast_nonneg a,?_⟩;refine⟨s (Nat.le_refl _),rfl,Int.natCast_nonneg (a+1),?_⟩;rw[Int.toNat_natCast_add_one,Int.toNat_natCast];refine⟨s (List.length_append▸h3),s h3,Int.natCast_nonneg b,x,.inr (.inl ⟨l,rfl,Int.natCast_nonneg a,s (Nat.le_refl _),hx⟩),sm rfl,fun e=>⟨_,_,.head,rfl,?_⟩⟩;have h6:=v5 (l.take a++l.drop (a+1)) b x;rw[Int.toNat_natCast];refine⟨s' (Nat.add_le_add_right (Nat.le_trans (Jk _ b) h3) 1),s h3,rfl,Int.natCast_nonneg b,?_⟩;rw[Int.toNat_natCast];exact⟨s' (List.length_append▸h6▸Nat.succ_le_succ h3),rs hq⟩
theorem nV(rows:List gX):SeqAt.shaped (pd (.lst (rows.map b9)))=true∧PyData.eqv (pd (.lst (rows.map b9))) (pd (.lst (rows.map b9)))=true:=by
 have h1:∀rows:List gX,PyData.canLayAll0 (GT (rows.map b9))=true∧PyData.depthAll (GT (rows.map b9))≤1:=by
  intro rows;induction rows with
  |nil=>exact⟨rfl,Nat.zero_le _⟩
  |cons r rs ih=>
   refine⟨?_,?_⟩
   ·show(PyData.canLay0 (pd (b9 r))&&PyData.canLayAll0 (GT (rs.map b9)))=true;rw[ih.1,Bool.and_true];rfl
   ·show PyData.depthAll (pd (b9 r)::GT (rs.map b9))≤1;rw[PyData.depthAll,show PyData.depth (pd (b9 r))=1 from rfl]
    exact Nat.max_le.mpr ⟨Nat.le_refl _,ih.2⟩
 have hc:(pd (.lst (rows.map b9))).canLay0=true:=(h1 rows).1;refine⟨?_,SeqAt.eqv_refl _ hc⟩;unfold SeqAt.shaped;rw[hc,Bool.true_and,decide_eq_true_eq];show PyData.depthAll (GT (rows.map b9))+1≤64;have:=(h1 rows).2;exact Nat.lt_of_le_of_lt (by assumption) (by decide)
theorem EF{sg:Sg}{T:Tb}{R:Hd}{ra:Addr}{Q:Fl→bp→Sg→Prop}{ss:List aS}{rows:List gX}(h:gq T ss rows):∀(done:List gX) (x2 x3 x4 x5:Option CV),done.length+rows.length≤100→
  (∀x2 x3 x4 x5,Q .next [some (qy T R),some (.ref ra),x2,x3,x4,x5] ((ra,.lst ((done++rows).map b9))::sg))→
  dJ iV 2 (ss.map nN) [some (qy T R),some (.ref ra),x2,x3,x4,x5] ((ra,.lst (done.map b9))::sg) Q:=by
 induction h with
 |nil=>intro done x2 x3 x4 x5 hz h;rw[List.append_nil]at h;exact h _ _ _ _
 | @cons s ss r rs hr _ ih=>
  intro done x2 x3 x4 x5 hz h;simp only[List.length_cons]at hz;rw[List.map_cons];refine dp fun C_ k_=> ?_;have hsh:d6 ((ra,MO.lst (done.map b9))::sg) (qy T R) T R:=⟨rfl,rfl⟩;obtain⟨t,ht1,ht2⟩:∃t:CV,km T (((ed s).lookup cx).getD .none) t∧((isNone t=true∧r.2.1=0)∨∃i,t= .int i∧r.2.1=i.fdiv 90):=by
   rcases hr.rot with⟨h1,h2⟩|⟨i,h1,h2⟩
   ·exact⟨.none,by rw[h1];exact .inl ⟨trivial,rfl⟩,.inl ⟨rfl,h2⟩⟩
   ·exact⟨.int i,by rw[h1];exact .inl ⟨trivial,rfl⟩,.inr ⟨i,rfl,h2⟩⟩
  refine k_ ?_;refine⟨⟨rfl,rfl⟩,_,⟨rfl,rfl⟩,T,R,ed s,t,hsh,rfl,ht1,?_⟩;refine el12 hr.res fun rr hr1 hr2=> ?_;refine⟨⟨rfl,rfl⟩,_,⟨rfl,rfl⟩,T,R,ed s,.sd fu,hsh,rfl,.inr ⟨rr,by rw[show Str.ofString "Resources"=td from rfl,hr1];rfl,hr2,trivial⟩,?_⟩
  refine⟨_,⟨rfl,rfl⟩,?_⟩;refine⟨_,⟨ed s,rfl,hr.box⟩,sm rfl,fun a=>⟨_,_,.head,rfl,?_⟩⟩;simp only[MO.tree];refine⟨rfl,rfl,false,rfl,.n ⟨_,true,rfl,rfl,true,rfl,?_⟩⟩;refine⟨fun h=>absurd h (by decide),fun O=>fun a=>⟨_,.head,_,_,.head,rfl,rfl,_,rfl,false,rfl,.n (.n ?_)⟩⟩
  refine⟨_,⟨rfl,rfl⟩,.inl ⟨_,rfl⟩,?_⟩;refine⟨_,rfl,?_⟩;have ih':=fun x5=>ih (done++[r]) (some (nN s)) (some t) (some (.sd fu)) x5 (by simp;exact Nat.le_trans (Nat.le_of_eq (Nat.succ_add_eq_add_succ _ _)) (by assumption)) (by rw[List.append_assoc];exact h)
  rw[List.map_append]at ih';have row:∀t' c':Int,t'=r.2.1→c'=r.2.2→b9 r= .tup [.int r.1,.int t',.int c']:=by rintro _ _ rfl rfl;rfl
  have hcr:∃c,((ko s.l s.m bM s.l).lookup (Str.ofString "CropBox")).getD CV.none=c∧((isNone c=true∧r.2.2=0)∨∃a b e,c= .lst [a,b,e,.int r.2.2]):=by
   rcases hr.crop with⟨h1,h2⟩|⟨a,b,e,h1⟩
   ·exact⟨.none,by rw[show(ko s.l s.m bM s.l).lookup (Str.ofString "CropBox")=none from h1];rfl,.inl ⟨rfl,h2⟩⟩
   ·exact⟨_,by rw[show(ko s.l s.m bM s.l).lookup (Str.ofString "CropBox")=_ from h1];rfl,.inr ⟨a,b,e,rfl⟩⟩
  refine el12 hcr fun cr hc1 hc2=> ?_;rw[hc1];refine⟨⟨_,.head _⟩,_,⟨rfl,rfl⟩,?_⟩;refine⟨_,⟨ed s,rfl,hr.mrk⟩,?_⟩;have fin:∀t' c':Int,t'=r.2.1→c'=r.2.2→small 3∧GW (.tup [.int r.1,.int t',.int c']) ((ra,MO.lst (done.map b9))::sg) (fun O sg2=>dJ iV 2 (ss.map nN) [some (qy T R),some (.ref ra),some (nN s),some t,some (.sd fu),some cr] sg2 Q) ra:=by
   intro t' c' h1 h2;refine⟨ay (by decide),_,_,.head,ay (by rw[List.length_map];exact Nat.le_trans (Nat.le_trans (Nat.le_add_right _ _) (by assumption)) (by decide)),?_⟩
   have:=ih' (some cr);rw[←row t' c' h1 h2];exact this
  rcases ht2 with⟨ht,hr2⟩|⟨i,rfl,hr2⟩
  ·refine⟨true,ht.symm,.y ?_⟩;rcases hc2 with⟨hc,hr3⟩|⟨a,b,e,rfl⟩
   ·exact⟨true,hc.symm,.y (fin 0 0 hr2.symm hr3.symm)⟩
   ·exact⟨false,rfl,.n ⟨.int r.2.2,.inr (.inl ⟨_,rfl,by decide,sm rfl,rfl⟩),fin 0 _ hr2.symm rfl⟩⟩
  ·refine⟨false,rfl,.n ⟨by decide,sX (by decide) (by decide),?_⟩⟩
   rcases hc2 with⟨hc,hr3⟩|⟨a,b,e,rfl⟩
   ·exact⟨true,hc.symm,.y (fin _ 0 hr2.symm hr3.symm)⟩
   ·exact⟨false,rfl,.n ⟨.int r.2.2,.inr (.inl ⟨_,rfl,by decide,sm rfl,rfl⟩),fin _ _ hr2.symm rfl⟩⟩
theorem gq.len{T:Tb}{ss:List aS}{rs:List gX}(h:gq T ss rs):ss.length=rs.length:=by
 induction h with
 |nil=>rfl
 |cons _ _ ih=>simp[ih]
theorem fh(kf:KF W.K):ax W 9 (.ref 760) gL:=by
 refine zh (N:=8) kf ((aH kf).upb rfl) (fB kf) fun sg Q cs (h:jK sg Q cs)=> ?_
 ·refine jK.casesOn h @fun O T R d rows z5 hd hl hr hq=>⟨rfl,?_⟩;subst z5;have hpz:d.pages.length≤60:=Nat.le_trans (List.length_filter_le _ _) (by rw[b7];exact hd.sz)
  have hrl:=hr.len;refine⟨sm rfl,fun ra=> ?_⟩;refine ?_;refine⟨T,R,d,⟨rfl,rfl⟩,hd,hl,trivial,?_⟩;refine EF hr [] _ _ _ _ (by simp;lia) fun x2 x3 x4 x5=> ?_
  exact⟨ra,_,_,rfl,.head,rfl,rs hq⟩
theorem ez(kf:KF W.K):ax W 10 (.ref 767) fL:=by
 refine xc (N:=9) kf ((kE kf).upb rfl) (fh kf) ((jk kf).upb rfl) fun sg Q cs (h:iG sg Q cs)=> ?_
 ·refine iG.casesOn h @fun O O dt bs T R d rows z8 z9 hd hl hr hc hf hq=>⟨rfl,?_⟩;subst z8;subst z9;have hpz:d.pages.length≤60:=Nat.le_trans (List.length_filter_le _ _) (by rw[b7];exact hd.sz)
  have hrl:=hr.len;obtain⟨hsh,heq⟩:=nV rows;refine⟨_,⟨rfl,rfl⟩,T,R,d,rows,rfl,hd,hl,hr,hsh,hsh,?_⟩;rw[heq];refine⟨false,rfl,.n ⟨_,⟨rfl,rfl⟩,T,R,d,rows.length,⟨rfl,rfl⟩,hd,hc,by exact Int.natCast_nonneg _,_,rfl,ay (by rw[List.length_map];lia),?_⟩⟩
  refine⟨false,by rw[List.length_map];exact(bne_self_eq_false _).symm,.n ⟨nofun,fun O=> ?_⟩⟩
  refine⟨_,⟨rfl,rfl⟩,T,R,d,⟨rfl,rfl⟩,hd,hf,ay (by simp),fun a=>⟨_,_,.head,rfl,?_⟩⟩
  exact⟨by decide,rs hq⟩
end
structure ND where
 i:Int
 own:Int
 crop:Int
 ps:List (Int×Int)
noncomputable abbrev xL:=l_ (Str.ofString "Page")
noncomputable abbrev lN:=l_ (Str.ofString "Pages")
noncomputable def j5(i:Int)(p:Int×Int):Hd:=jz [(dB,xL),(aJ,aG i),(iB,.int p.1)] p.2
noncomputable def ib(nd:ND):Hd:=jz (if nd.crop=1 then bk iA (.lst [.int 1,.int 1,.int 5,.int nd.i]) [(dB,lN),(aJ,aG 2),(dn,.lst (nd.ps.map fun p=>aG p.1)),(bb,.int nd.ps.length)]else[(dB,lN),(aJ,aG 2),(dn,.lst (nd.ps.map fun p=>aG p.1)),(bb,.int nd.ps.length)]) nd.own
noncomputable def BL(top:Int)(nd:ND)(p:Int×Int):gX:=(p.1,(if 0<p.2 then p.2.fmod 3 else if 0<nd.own then nd.own else top),if nd.crop=1 then nd.i else 0)
noncomputable def gf(top:Int)(nds:List ND):List gX:=nds.flatMap fun nd=>nd.ps.map (BL top nd)
noncomputable def DY:CV:= .lst [.int 0,.int 0,.int 7,.int 9]
noncomputable def ti(top:Int)(nds:List ND):Hd:=jz [(dB,lN),(dn,.lst (nds.map fun nd=>aG nd.i)),(bb,.int (gf top nds).length),(ww,DY),(td,aG 9)] top
noncomputable def tG(nd:ND):Tb:=nd.ps.map (fun p=>(p.1,cP (.sd (j5 nd.i p))))++[(nd.i,cP (.sd (ib nd)))]
noncomputable def dy(top:Int)(nds:List ND):Tb:=[(1,cP (.sd gz)),(9,cP (.sd fu))]++nds.flatMap tG++[(2,cP (.sd (ti top nds)))]
structure IP(nd:ND):Prop where
 own:0≤nd.own∧nd.own<3
 crop:0≤nd.crop∧nd.crop<2
 len:nd.ps.length≤2
 turn:∀p∈nd.ps,0≤p.2∧p.2<4
structure kd(top:Int)(nds:List ND):Prop where
 top:0≤top∧top<3
 ids:nds.map (·.i)=bS 3 nds.length
 len:1≤nds.length∧nds.length≤2
 nums:(nds.flatMap fun nd=>nd.ps.map (·.1))=bS 10 (nds.flatMap fun nd=>nd.ps.map (·.1)).length
 nd:∀nd∈nds,IP nd
inductive fP(sg:Sg)(Q:CV→Sg→Prop):List CV→Prop
 |mk {pa:Addr} (pre post p c):sg=pre++(pa,dU p c)::post→0≤p→0≤c→c≤800→(∀top nds p' c',kd top nds→0≤p'→0≤c'→c'≤c+20→Q (.tup [qy (dy top nds) [(rV,aG 1)],.lst ((gf top nds).map b9)]) (pre++(pa,dU p' c')::post))→fP sg Q [.ref pa]
def g8:ao:=fun cs sg Q=>fP sg Q cs
section
noncomputable def lu:List Str:=[Str.ofString "pen"]
noncomputable def lf:List Str:=[Str.ofString "table",Str.ofString "rows",Str.ofString "kids",Str.ofString "top",Str.ofString "number",Str.ofString "node",Str.ofString "own",Str.ofString "has_crop",Str.ofString "below",Str.ofString "place",Str.ofString "turn",Str.ofString "head"]
noncomputable def sT:List Str:=[Str.ofString "Name",Str.ofString "Reference",Str.ofString "_law_draw",Str.ofString "range",Str.ofString "_law_turned",Str.ofString "len",Str.ofString "Shelf"]
def pO:PS:=(aj (cS 5 (bh dD (ak 5) (aK (.int 1))))
 am)
def pP:PS:=(aj (cB (cq wf dE (ak 2) (ah (dK (ah (ak 5) (ah (xY (aX (bh BP (ak 11) (aK (.int 0)))) (bh yA (ak 11) (aK (.int 3))) (xY (aX (bh BP (ak 7) (aK (.int 0)))) (ak 7) (ak 4))) (ah (xY (aX (bh eG (ak 8) (aK (.int 1)))) (bh dD (aK (.int 3)) (ak 6)) (aK (.int 0))) aq)))) aq)))
 pO)
def pQ:PS:=(aj (cB (cq wf dE (ak 9) (ah (fv (aA bY (ah (ak 5) (ah (aK (.int 0)) aq)))) aq)))
 pP)
def pR:PS:=(aj (dC (ak 1) (ak 5) (dK (ah (aK (.int 0)) (ah (fv (aA eR (ah (ak 12) (ah (ak 11) aq)))) aq))))
 pQ)
def pS:PS:=(aj (cS 12 (ij (cn (aK (.str (Str.ofString "Type"))) (fv (aA gJ (ah (aK (.str (Str.ofString "Page"))) aq))) (cn (aK (.str (Str.ofString "Parent"))) (fv (aA bY (ah (bh dD (aK (.int 3)) (ak 6)) (ah (aK (.int 0)) aq)))) (cn (aK (.str (Str.ofString "Mark"))) (ak 5) ik)))))
 pR)
def iU:PS:=(aj (cS 11 (aA bU (ah (ak 0) (ah (aK (.int 4)) aq))))
 pS)
def pT:PS:=(aj (cB (cq wf dE (ak 3) (ah (fv (aA bY (ah (bh dD (aK (.int 3)) (ak 6)) (ah (aK (.int 0)) aq)))) aq)))
 am)
def pU:PS:=(aj (dC (ak 1) (bh dD (aK (.int 3)) (ak 6)) (dK (ah (aK (.int 0)) (ah (fv (aA eR (ah (ak 12) (ah (ak 7) aq)))) aq))))
 pT)
def pV:PS:=(aj (ew (aX (bh eG (ak 8) (aK (.int 1)))) (aj (dC (ak 12) (aK (.str (Str.ofString "CropBox"))) (fv (cT (ah (aK (.int 1)) (ah (aK (.int 1)) (ah (aK (.int 5)) (ah (bh dD (aK (.int 3)) (ak 6)) aq)))))))
 am) am)
 pU)
def pW:PS:=(i9 9 (aj (cS 12 (ij (cn (aK (.str (Str.ofString "Type"))) (fv (aA gJ (ah (aK (.str (Str.ofString "Pages"))) aq))) (cn (aK (.str (Str.ofString "Parent"))) (fv (aA bY (ah (aK (.int 2)) (ah (aK (.int 0)) aq)))) (cn (aK (.str (Str.ofString "Kids"))) (ak 9) (cn (aK (.str (Str.ofString "Count"))) (aA fK (ah (ak 9) aq)) ik))))))
 pV))
def oJ:PS:=(aj (Cr 10 (aA bU (ah (ak 0) (ah (aK (.int 3)) aq))) iU)
 pW)
def iT:PS:=(aj (BT [7,8,9] (dK (ah (aA bU (ah (ak 0) (ah (aK (.int 3)) aq))) (ah (aA bU (ah (ak 0) (ah (aK (.int 2)) aq))) (ah (cT aq) aq)))))
 oJ)
def oK:PS:=(i9 1 (i9 2 (aj (bQ (dK (ah (fv (aA gK (ah (ak 1) (ah (fv (ij (cn (aK (.str (Str.ofString "Root"))) (fv (aA bY (ah (aK (.int 1)) (ah (aK (.int 0)) aq)))) ik))) aq)))) (ah (ak 2) aq))))
 am)))
def oL:PS:=(aj (dC (ak 1) (aK (.int 2)) (dK (ah (aK (.int 0)) (ah (fv (aA eR (ah (ak 12) (ah (ak 4) aq)))) aq))))
 oK)
def oM:PS:=(i9 3 (aj (cS 12 (ij (cn (aK (.str (Str.ofString "Type"))) (fv (aA gJ (ah (aK (.str (Str.ofString "Pages"))) aq))) (cn (aK (.str (Str.ofString "Kids"))) (ak 3) (cn (aK (.str (Str.ofString "Count"))) (aA fK (ah (ak 2) aq)) (cn (aK (.str (Str.ofString "MediaBox"))) (fv (cT (ah (aK (.int 0)) (ah (aK (.int 0)) (ah (aK (.int 7)) (ah (aK (.int 9)) aq)))))) (cn (aK (.str (Str.ofString "Resources"))) (fv (aA bY (ah (aK (.int 9)) (ah (aK (.int 0)) aq)))) ik)))))))
 oL))
def oN:PS:=(aj (Cr 6 (bh dD (aK (.int 1)) (aA bU (ah (ak 0) (ah (aK (.int 2)) aq)))) iT)
 oM)
def oO:PS:=(aj (BT [4,5] (dK (ah (aA bU (ah (ak 0) (ah (aK (.int 3)) aq))) (ah (aK (.int 10)) aq))))
 oN)
def oP:PS:=(aj (dC (ak 1) (aK (.int 9)) (dK (ah (aK (.int 0)) (ah (fv (ij (cn (aK (.str (Str.ofString "Font"))) (aK (.int 5)) ik))) aq))))
 oO)
def oQ:PS:=(aj (dC (ak 1) (aK (.int 1)) (dK (ah (aK (.int 0)) (ah (fv (ij (cn (aK (.str (Str.ofString "Type"))) (fv (aA gJ (ah (aK (.str (Str.ofString "Catalog"))) aq))) (cn (aK (.str (Str.ofString "Pages"))) (fv (aA bY (ah (aK (.int 2)) (ah (aK (.int 0)) aq)))) ik)))) aq))))
 oP)
def t_:PS:=(aj (BT [1,2,3] (dK (ah (fW (.nd [])) (ah (cT aq) (ah (cT aq) aq)))))
 oQ)
theorem sM{W:Wd}(kf:KF W.K){N:Nat}(bx:ax W N (.ref 273) bY)(fg:ax W N (.ref 202) gJ)(bT:ax W N (.ref 739) bU)(eP:ax W N (.ref 746) eR)(el:ax W N (.ref 404) gK){sp:ao}(hsp:gh lu lf (t_) sp):ax W (N+1) (.ref 753) sp:=by
 refine aO (ps:=lu) (more:=lf) (globs:=sT) (kf.f 57 rfl) rfl (by decide+kernel) (dI fun O O O O O O O O O O=> .of_eq rfl) (fun X hn hg hsc hnn hm=> ?_) hsp
 refine ag (ri [Str.ofString "table",Str.ofString "rows",Str.ofString "kids"] hn hm (GV rfl (bl rfl) (GV rfl (bl rfl) (GV rfl (bl rfl) K8))) rfl rfl (DM hsc (by decide+kernel)) (bB (ae rfl (cU rfl) (ae rfl (bD af) (ae rfl (bD af) af))))) ?_
 refine ag (bI rfl (ad 1 hn rfl) av (bB (ae rfl av (ae rfl (aT (jc rfl rfl (cC aI (aT (au 0 hg rfl (kf.n 4 rfl) (kf.b 6 rfl) fg (bn hnn) rfl rfl (ae rfl aI af))) (cC aI (aT (au 1 hg rfl (kf.n 9 rfl) (kf.b 9 rfl) bx (bn hnn) rfl rfl (ae rfl av (ae rfl av af)))) ee)))) af)))) ?_;refine ag (bI rfl (ad 1 hn rfl) av (bB (ae rfl av (ae rfl (aT (jc rfl rfl (cC aI av ee))) af)))) ?_;refine ag (ri [Str.ofString "top",Str.ofString "number"] hn hm (GV rfl (bl rfl) (GV rfl (bl rfl) K8)) rfl rfl (DM hsc (by decide+kernel)) (bB (ae rfl (au 2 hg rfl (kf.n 55 rfl) (kf.b 90 rfl) bT (bn hnn) rfl rfl (ae rfl (ad 0 hn rfl) (ae rfl av af))) (ae rfl av af)))) ?_
 refine ag (om 6 3 hn hg hsc hnn hm rfl (bl rfl) rfl (kf.n 16 rfl) rfl rfl rfl (fun O=>rfl) (bH bG av (au 2 hg rfl (kf.n 55 rfl) (kf.b 90 rfl) bT (bn hnn) rfl rfl (ae rfl (ad 0 hn rfl) (ae rfl av af)))) (fun X hA hE hn hg hsc hnn hm=>(by {refine ag (ri [Str.ofString "own",Str.ofString "has_crop",Str.ofString "below"] hn hm (GV rfl (bl rfl) (GV rfl (bl rfl) (GV rfl (bl rfl) K8))) rfl rfl (DM hsc (by decide+kernel)) (bB (ae rfl (au 2 hg rfl (kf.n 55 rfl) (kf.b 90 rfl) bT (bn hnn) rfl rfl (ae rfl (ad 0 hn rfl) (ae rfl av af))) (ae rfl (au 2 hg rfl (kf.n 55 rfl) (kf.b 90 rfl) bT (bn hnn) rfl rfl (ae rfl (ad 0 hn rfl) (ae rfl av af))) (ae rfl (bD af) af))))) ?_;refine ag (om 10 3 hn hg hsc hnn hm rfl (bl rfl) rfl (kf.n 16 rfl) rfl rfl rfl (fun O=>rfl) (au 2 hg rfl (kf.n 55 rfl) (kf.b 90 rfl) bT (bn hnn) rfl rfl (ae rfl (ad 0 hn rfl) (ae rfl av af))) (fun X hA hE hn hg hsc hnn hm=>(by {refine ag (ar 11 hn hm rfl (bl rfl) rfl (au 2 hg rfl (kf.n 55 rfl) (kf.b 90 rfl) bT (bn hnn) rfl rfl (ae rfl (ad 0 hn rfl) (ae rfl av af)))) ?_;refine ag (ar 12 hn hm rfl (bl rfl) rfl (jc rfl rfl (cC aI (aT (au 0 hg rfl (kf.n 4 rfl) (kf.b 6 rfl) fg (bn hnn) rfl rfl (ae rfl aI af))) (cC aI (aT (au 1 hg rfl (kf.n 9 rfl) (kf.b 9 rfl) bx (bn hnn) rfl rfl (ae rfl (bH bG av (ad 6 hn rfl)) (ae rfl av af)))) (cC aI (ad 5 hn rfl) ee))))) ?_;refine ag (bI rfl (ad 1 hn rfl) (ad 5 hn rfl) (bB (ae rfl av (ae rfl (aT (au 4 hg rfl (kf.n 56 rfl) (kf.b 91 rfl) eP (bn hnn) rfl rfl (ae rfl (ad 12 hn rfl) (ae rfl (ad 11 hn rfl) af)))) af)))) ?_;refine ag (bq (aC X) rfl (br cG cc rfl rfl rfl (ad 9 hn rfl) (ae rfl (aT (au 1 hg rfl (kf.n 9 rfl) (kf.b 9 rfl) bx (bn hnn) rfl rfl (ae rfl (ad 5 hn rfl) (ae rfl av af)))) af))) ?_;refine ag (bq (aC X) rfl (br cG cc rfl rfl rfl (ad 2 hn rfl) (ae rfl (bB (ae rfl (ad 5 hn rfl) (ae rfl (fZ (aE rfl q5 (ad 11 hn rfl) av) (bH q6 (ad 11 hn rfl) av) (fZ (aE rfl q5 (ad 7 hn rfl) av) (ad 7 hn rfl) (ad 4 hn rfl))) (ae rfl (fZ (aE rfl bt (ad 8 hn rfl) av) (bH bG av (ad 6 hn rfl)) av) af)))) af))) ?_;refine ag (ar 5 hn hm rfl (bl rfl) rfl (bH bG (ad 5 hn rfl) av)) ?_;exact ai}))) ?_;refine cV 9 ?_;refine ag (ar 12 hn hm rfl (bl rfl) rfl (jc rfl rfl (cC aI (aT (au 0 hg rfl (kf.n 4 rfl) (kf.b 6 rfl) fg (bn hnn) rfl rfl (ae rfl aI af))) (cC aI (aT (au 1 hg rfl (kf.n 9 rfl) (kf.b 9 rfl) bx (bn hnn) rfl rfl (ae rfl av (ae rfl av af)))) (cC aI (ad 9 hn rfl) (cC aI (bd 5 hg rfl (kf.n 32 rfl) rfl (by decide) (.inl ⟨_,rfl⟩) cg rfl rfl (ae rfl (ad 9 hn rfl) af)) ee)))))) ?_;refine ag (be (aE rfl bt (ad 8 hn rfl) av) (by {refine ag (bI rfl (ad 12 hn rfl) aI (aT (bD (ae rfl av (ae rfl av (ae rfl av (ae rfl (bH bG av (ad 6 hn rfl)) af))))))) ?_;exact ai}) ai) ?_;refine ag (bI rfl (ad 1 hn rfl) (bH bG av (ad 6 hn rfl)) (bB (ae rfl av (ae rfl (aT (au 4 hg rfl (kf.n 56 rfl) (kf.b 91 rfl) eP (bn hnn) rfl rfl (ae rfl (ad 12 hn rfl) (ae rfl (ad 7 hn rfl) af)))) af)))) ?_;refine ag (bq (aC X) rfl (br cG cc rfl rfl rfl (ad 3 hn rfl) (ae rfl (aT (au 1 hg rfl (kf.n 9 rfl) (kf.b 9 rfl) bx (bn hnn) rfl rfl (ae rfl (bH bG av (ad 6 hn rfl)) (ae rfl av af)))) af))) ?_;exact ai}))) ?_
 refine cV 3 ?_;refine ag (ar 12 hn hm rfl (bl rfl) rfl (jc rfl rfl (cC aI (aT (au 0 hg rfl (kf.n 4 rfl) (kf.b 6 rfl) fg (bn hnn) rfl rfl (ae rfl aI af))) (cC aI (ad 3 hn rfl) (cC aI (bd 5 hg rfl (kf.n 32 rfl) rfl (by decide) (.inl ⟨_,rfl⟩) cg rfl rfl (ae rfl (ad 2 hn rfl) af)) (cC aI (aT (bD (ae rfl av (ae rfl av (ae rfl av (ae rfl av af)))))) (cC aI (aT (au 1 hg rfl (kf.n 9 rfl) (kf.b 9 rfl) bx (bn hnn) rfl rfl (ae rfl av (ae rfl av af)))) ee))))))) ?_
 refine ag (bI rfl (ad 1 hn rfl) av (bB (ae rfl av (ae rfl (aT (au 4 hg rfl (kf.n 56 rfl) (kf.b 91 rfl) eP (bn hnn) rfl rfl (ae rfl (ad 12 hn rfl) (ae rfl (ad 4 hn rfl) af)))) af)))) ?_;refine cV 1 ?_;refine cV 2 ?_;refine ag (aL (bB (ae rfl (aT (au 6 hg rfl (kf.n 17 rfl) (kf.b 21 rfl) el (bn hnn) rfl rfl (ae rfl (ad 1 hn rfl) (ae rfl (aT (jc rfl rfl (cC aI (aT (au 1 hg rfl (kf.n 9 rfl) (kf.b 9 rfl) bx (bn hnn) rfl rfl (ae rfl av (ae rfl av af)))) ee))) af)))) (ae rfl (ad 2 hn rfl) af)))) ?_;exact ai
end
section
variable {W:Wd}
noncomputable def kF(i:Int)(ps:List (Int×Int)):Tb:=ps.map fun p=>(p.1,cP (.sd (j5 i p)))
theorem B_{T:Tb}{n:Int}(h:∀p∈T,p.1<n):T.lookup n=none:=h_ fun hm=>by
 refine el12 (List.mem_map.mp hm) fun p hp e=> ?_;have:=h p hp;lia
section
variable {a0 a1 a2 a3 a4 a5 a6 a7 a8 a9 a10 a11 a12:Option CV}{top own t crop jj:Int}{sg:Sg}{K:CV→Sg→Prop}
theorem Fr(h:K (.int (if 0<t then t.fmod 3 else if 0<own then own else top)) sg):
  xY (aX (bh BP (ak 11) (aK (.int 0)))) (bh yA (ak 11) (aK (.int 3))) (xY (aX (bh BP (ak 7) (aK (.int 0)))) (ak 7) (ak 4)) [a0,a1,a2,a3,some (.int top),a5,a6,some (.int own),a8,a9,a10,some (.int t),a12] sg K:=by
 by_cases h1:0<t
 ·rw[if_pos h1]at h;exact⟨true,(decide_eq_true h1).symm,.y ⟨by decide,h⟩⟩
 ·rw[if_neg h1]at h;refine⟨false,(decide_eq_false h1).symm,.n ?_⟩;by_cases h2:0<own
  ·rw[if_pos h2]at h;exact⟨true,(decide_eq_true h2).symm,.y h⟩
  ·rw[if_neg h2]at h;exact⟨false,(decide_eq_false h2).symm,.n h⟩
theorem Fq(h:K (.int (if crop=1 then 3+jj else 0)) sg):
  xY (aX (bh eG (ak 8) (aK (.int 1)))) (bh dD (aK (.int 3)) (ak 6)) (aK (.int 0)) [a0,a1,a2,a3,a4,a5,some (.int jj),a7,some (.int crop),a9,a10,a11,a12] sg K:=by
 by_cases h1:crop=1
 ·rw[if_pos h1]at h;exact⟨true,(decide_eq_true h1).symm,.y h⟩
 ·rw[if_neg h1]at h;exact⟨false,(decide_eq_false h1).symm,.n h⟩
end
theorem D7{pre post:Sg}{pa ba ka ra ta:Addr}{top jj own crop:Int}{kl:List CV}{Q:Fl→bp→Sg→Prop}(m:Nat):∀(j:Nat) (ps:List (Int×Int)) (rl:List CV) (T:Tb) (n p c:Int) (x10 x11 x12:Option CV),0≤p→0≤c→c+m≤850→(∀p∈T,p.1<n)→T.length+m≤100→ps.length+m≤100→rl.length+m≤100→
  (∀qs p' x10 x11 x12,qs.map (·.1)=bS n m→(∀q∈qs,0≤q.2∧q.2<4)→0≤p'→Q .next [some (.ref pa),some (.ref ta),some (.ref ra),some (.ref ka),some (.int top),some (.int (n+m)),some (.int jj),some (.int own),some (.int crop),some (.ref ba),x10,x11,x12]
   ((ba,.lst ((ps++qs).map fun p=>aG p.1))::(ka,.lst kl)::(ra,.lst (rl++qs.map fun q=>b9 (BL top ⟨3+jj,own,crop,[]⟩ q)))::(ta,.nd (T++kF (3+jj) qs))::(pre++(pa,dU p' (c+m))::post)))→
  dJ iU 10 ((List.range' j m).map fun(k:Nat)=> .int (k:Int)) [some (.ref pa),some (.ref ta),some (.ref ra),some (.ref ka),some (.int top),some (.int n),some (.int jj),some (.int own),some (.int crop),some (.ref ba),x10,x11,x12]
   ((ba,.lst (ps.map fun p=>aG p.1))::(ka,.lst kl)::(ra,.lst rl)::(ta,.nd T)::(pre++(pa,dU p c)::post)) Q:=by
 induction m with
 |zero=>
  intro j ps rl T n p c x10 x11 x12 hp hc hc9 hT hz1 hz2 hz3 h;have:=h [] p x10 x11 x12 rfl (fun O h=>(by exact mn h)) hp
  simp only[List.append_nil,List.map_nil,Int.natCast_zero,Int.add_zero,kF]at this;exact this
 |succ m ih=>
  intro j ps rl T n p c x10 x11 x12 hp hc hc9 hT hz1 hz2 hz3 h;rw[List.range'_succ,List.map_cons];refine⟨(ba,_)::(ka,_)::(ra,_)::(ta,_)::pre,post,p,c,rfl,hp,hc,by lia,by decide,by decide,fun t p' ht1 ht2 hp'=> ?_⟩
  intro ha;refine⟨rfl,fun f fdx=>⟨_,_,.head,rfl,?_⟩⟩;refine⟨rfl,fun g gdx=>⟨_,_,.head,rfl,_,.head,?_⟩⟩;refine⟨_,_,rfl,ej rfl,⟨_,_,.head,rfl,sm rfl,?_⟩⟩;refine .inl ⟨T,_,.tail (.tail (.tail .head)),by exact Nat.le_trans (Nat.le_trans (Nat.le_add_right _ _) (by assumption)) (by decide),?_⟩
  have hTn:=B_ hT;have e1:bk n (CV.tup [.int 0,MO.tree (.sd (jz (eE [] [(Str.ofString "Type",MO.tree (.obj 202 fdx ([Str.ofString "text"].zip [CV.str (Str.ofString "Page")]))),(Str.ofString "Parent",MO.tree (.obj 273 gdx ([Str.ofString "number",Str.ofString "generation"].zip [CV.int (3+jj),CV.int 0]))),(Str.ofString "Mark",CV.int n)]) t))]) T=T++[(n,cP (.sd (j5 (3+jj) (n,t))))]:=eQ hTn;rw[e1];refine⟨⟨_,.head _⟩,rfl,fun f2 f2dx=>⟨_,_,.head,rfl,?_⟩⟩;refine⟨_,_,.head,ay (by rw[List.length_map];exact Nat.le_trans (Nat.le_trans (Nat.le_add_right _ _) (by assumption)) (by decide)),?_⟩
  have e2:(ps.map fun p=>aG p.1)++[MO.tree (.obj 273 f2dx ([Str.ofString "number",Str.ofString "generation"].zip [CV.int n,CV.int 0]))]=(ps++[(n,t)]).map fun p=>aG p.1:=by rw[List.map_append];rfl
  rw[e2];refine⟨⟨_,.tail _ (.tail _ (.head _))⟩,?_⟩;have ih':=ih (j+1) (ps++[(n,t)]) (rl++[b9 (BL top ⟨3+jj,own,crop,[]⟩ (n,t))]) (T++[(n,cP (.sd (j5 (3+jj) (n,t))))]) (n+1) p' (c+1) (some (.int j)) (some (.int t)) (some (.ref ha)) hp' (by exact Int.le_add_one hc) (by lia) (fun q hq=>by
   rcases List.mem_append.mp hq with hq|hq
   ·have:=hT q hq;exact Int.le_add_one (by assumption)
   ·rcases List.mem_singleton.mp hq with rfl;show n<n+1;exact Int.lt_succ n) (by simp;exact Nat.le_trans (Nat.le_of_eq (Nat.succ_add_eq_add_succ _ _)) (by assumption)) (by simp;exact Nat.le_trans (Nat.le_of_eq (Nat.succ_add_eq_add_succ _ _)) (by assumption)) (by simp;exact Nat.le_trans (Nat.le_of_eq (Nat.succ_add_eq_add_succ _ _)) (by assumption)) (fun qs p'' y10 y11 y12 hq1 hq2 hp''=>by
   have:=h ((n,t)::qs) p'' y10 y11 y12 (by rw[List.map_cons,hq1];rfl) (fun q hq=>by
    rcases List.mem_cons.mp hq with rfl|hq
    ·exact⟨ht1,ht2⟩
    ·exact hq2 q hq) hp''
   simp only[kF,List.map_cons,List.append_assoc,List.cons_append,List.nil_append]at this ⊢;rw[show n+1+(m:Int)=n+((m+1:Nat):Int) by lia,show c+1+(m:Int)=c+((m+1:Nat):Int) by lia]
   exact this)
  exact Fr (Fq ⟨sm rfl,_,_,.tail (.tail .head),ay (Nat.le_trans (Nat.le_of_add_right_le hz3) (by decide)),ih'⟩)
noncomputable def ny(nds:List ND):Tb:=[(1,cP (.sd gz)),(9,cP (.sd fu))]++nds.flatMap tG
noncomputable def jA(nds:List ND):Nat:=(nds.flatMap fun nd=>nd.ps.map (·.1)).length
structure GZ(nds:List ND)(j:Nat):Prop where
 len:nds.length=j
 ids:nds.map (·.i)=bS 3 nds.length
 nums:(nds.flatMap fun nd=>nd.ps.map (·.1))=bS 10 (jA nds)
 nd:∀nd∈nds,IP nd
theorem oq:∀(n:Nat) (k x:Int),x∈bS k n→k≤x∧x<k+n
 |0,k,x,h=>by cases h
 |n+1,k,x,h=>by
  rcases List.mem_cons.mp h with rfl|h
  ·lia
  ·have:=oq n (k+1) x h;lia
theorem vZ:∀(n:Nat) (k:Int),bS k n++[k+n]=bS k (n+1)
 |0,k=>by simp[bS]
 |n+1,k=>by
  show k::(bS (k+1) n++[k+((n+1:Nat):Int)])=k::bS (k+1) (n+1);rw[show k+((n+1:Nat):Int)=(k+1)+n by lia,vZ n (k+1)]
theorem yc:∀(n m:Nat) (k:Int),bS k n++bS (k+n) m=bS k (n+m)
 |0,m,k=>by simp[bS]
 |n+1,m,k=>by
  show k::(bS (k+1) n++bS (k+((n+1:Nat):Int)) m)=_;rw[show k+((n+1:Nat):Int)=(k+1)+n by lia,yc n m (k+1),show n+1+m=(n+m)+1 by exact Nat.add_right_comm n 1 m]
  rfl
theorem AT(nds:List ND)(nd:ND):jA (nds++[nd])=jA nds+nd.ps.length:=by simp[jA]
theorem Fy{nd:ND}{p:Int×CV}(h:p∈tG nd):p.1=nd.i∨p.1∈nd.ps.map (·.1):=by
 rcases List.mem_append.mp h with h|h
 ·obtain⟨q,hq,rfl⟩:=List.mem_map.mp h;exact .inr (List.mem_map.mpr ⟨q,hq,rfl⟩)
 ·rcases List.mem_singleton.mp h with rfl;exact .inl rfl
theorem zP{nds:List ND}{j:Nat}(h:GZ nds j){p:Int×CV}(hp:p∈ny nds):p.1=1∨p.1=9∨(3≤p.1∧p.1<3+j)∨(10≤p.1∧p.1<10+jA nds):=by
 rcases List.mem_append.mp hp with hp|hp
 ·rcases List.mem_cons.mp hp with rfl|hp
  ·exact .inl rfl
  ·rcases List.mem_singleton.mp hp with rfl;exact .inr (.inl rfl)
 ·refine el12 (List.mem_flatMap.mp hp) fun nd hnd hp=> ?_;rcases Fy hp with e|e
  ·have:nd.i∈nds.map (·.i):=List.mem_map.mpr ⟨nd,hnd,rfl⟩;rw[h.ids]at this;have:=oq _ _ _ this;rw[←e,h.len]at this;exact .inr (.inr (.inl this))
  ·have:p.1∈nds.flatMap fun nd=>nd.ps.map (·.1):=List.mem_flatMap.mpr ⟨nd,hnd,e⟩;rw[h.nums]at this;exact .inr (.inr (.inr (oq _ _ _ this)))
theorem Jf{x:Int}{j k:Nat}(hj:(3:Int)+j≤4)(h:x=1∨x=9∨(3≤x∧x<3+j)∨(10≤x∧x<10+k)):x<10+k:=by
 have a:(10:Int)≤10+k:=Int.le_add_of_nonneg_right (Int.natCast_nonneg k);rcases h with rfl|rfl|h|h
 ·exact Int.lt_of_lt_of_le (by decide) a
 ·exact Int.lt_of_lt_of_le (by decide) a
 ·exact Int.lt_of_lt_of_le h.2 (Int.le_trans hj (Int.le_trans (by decide) a))
 ·exact h.2
theorem Jg{x:Int}{j k:Nat}(hj:(3:Int)+j≤4)(h:x=1∨x=9∨(3≤x∧x<3+j)∨(10≤x∧x<10+k))(e:x=3+j):False:=by
 rcases h with h|h|h|h
 ·exact absurd (h.symm.trans e) (Int.ne_of_lt (Int.lt_of_lt_of_le (by decide:(1:Int)<3) (Int.le_add_of_nonneg_right (Int.natCast_nonneg j))))
 ·exact absurd (e.symm.trans h) (Int.ne_of_lt (Int.lt_of_le_of_lt hj (by decide)))
 ·exact absurd e (Int.ne_of_lt h.2)
 ·exact absurd e.symm (Int.ne_of_lt (Int.lt_of_le_of_lt hj (Int.lt_of_lt_of_le (by decide) h.1)))
theorem HD{x:Int}{j k:Nat}(h:x=1∨x=9∨(3≤x∧x<3+j)∨(10≤x∧x<10+k))(e:x=2):False:=by
 subst e;rcases h with h|h|h|h
 ·exact absurd h (by decide)
 ·exact absurd h (by decide)
 ·exact absurd h.1 (by decide)
 ·exact absurd h.1 (by decide)
theorem BM(top:Int)(nds:List ND):(gf top nds).length=jA nds:=by simp[gf,jA]
theorem DA:∀(nds:List ND),(ny nds).length=2+jA nds+nds.length:=by
 intro nds;have:∀nds:List ND,(nds.flatMap tG).length=jA nds+nds.length:=by
  intro nds;induction nds with
  |nil=>rfl
  |cons nd nds ih=>
   simp only[List.flatMap_cons,List.length_append,ih,List.length_cons,jA,tG,List.length_map];simp;lia
 simp[ny,this];lia
theorem Fe{nds:List ND}(h:∀nd∈nds,IP nd):jA nds≤2*nds.length:=by
 induction nds with
 |nil=>simp[jA]
 |cons nd nds ih=>
  have h1:=ih fun nd' h'=>h nd' (.tail _ h');have h2:=(h nd (.head _)).len;simp only[jA,List.flatMap_cons,List.length_append,List.length_map,List.length_cons]at h1 ⊢;lia
theorem CL{f g fdx gdx:Addr}(nd:ND):eE [] [(Str.ofString "Type",MO.tree (.obj 202 fdx ([Str.ofString "text"].zip [CV.str (Str.ofString "Pages")]))),(Str.ofString "Parent",MO.tree (.obj 273 gdx ([Str.ofString "number",Str.ofString "generation"].zip [CV.int 2,CV.int 0]))),(Str.ofString "Kids",CV.lst (nd.ps.map fun p=>aG p.1)),(Str.ofString "Count",CV.int (nd.ps.map fun p=>aG p.1).length)]=[(dB,lN),(aJ,aG 2),(dn,.lst (nd.ps.map fun p=>aG p.1)),(bb,.int nd.ps.length)]:=by
 rw[List.length_map];rfl
theorem D8{pre post:Sg}{pa ka ra ta:Addr}{top:Int}{Q:Fl→bp→Sg→Prop}(m:Nat):∀(j:Nat) (nds:List ND) (p c:Int) (x6 x7 x8 x9 x10 x11 x12:Option CV),j+m≤2→GZ nds j→0≤p→0≤c→c+5*m≤830→
  (∀nds p' c' x6 x7 x8 x9 x10 x11 x12,GZ nds (j+m)→0≤p'→0≤c'→c'≤c+5*m→Q .next [some (.ref pa),some (.ref ta),some (.ref ra),some (.ref ka),some (.int top),some (.int (10+jA nds)),x6,x7,x8,x9,x10,x11,x12]
   ((ka,.lst (nds.map fun nd=>aG nd.i))::(ra,.lst ((gf top nds).map b9))::(ta,.nd (ny nds))::(pre++(pa,dU p' c')::post)))→
  dJ iT 6 ((List.range' j m).map fun(k:Nat)=> .int (k:Int)) [some (.ref pa),some (.ref ta),some (.ref ra),some (.ref ka),some (.int top),some (.int (10+jA nds)),x6,x7,x8,x9,x10,x11,x12]
   ((ka,.lst (nds.map fun nd=>aG nd.i))::(ra,.lst ((gf top nds).map b9))::(ta,.nd (ny nds))::(pre++(pa,dU p c)::post)) Q:=by
 induction m with
 |zero=>
  intro j nds p c x6 x7 x8 x9 x10 x11 x12 hj hD hp hc hz h;exact h nds p c x6 x7 x8 x9 x10 x11 x12 hD hp hc (by exact Int.le.intro (5*0) rfl)
 |succ m ih=>
  intro j nds p c x6 x7 x8 x9 x10 x11 x12 hj hD hp hc hz h;have hcl:=Fe hD.nd;have hDl:=hD.len;have hrl:=BM top nds;have hj1:j≤1:=Nat.le_of_succ_le_succ (Nat.le_trans (Nat.add_le_add_left (Nat.succ_le_succ (Nat.zero_le m)) j) hj);have hj3:(3:Int)+j≤4:=Int.add_le_add_left (Int.ofNat_le.mpr hj1) 3;have hcn2:jA nds≤2:=Nat.le_trans hcl (hDl.symm▸Nat.mul_le_mul_left 2 hj1);have hmz:(ny nds).length≤5:=DA nds▸Nat.add_le_add (Nat.add_le_add_left hcn2 2) (hDl.symm▸hj1);have e6:c+5*((m+1:Nat):Int)=c+5+5*m:=by lia
  rw[e6]at hz;have hcz:c+5≤830:=Int.le_trans (Int.le_add_of_nonneg_right (Int.mul_nonneg (by decide) (Int.natCast_nonneg m))) hz
  have hc9:c≤825:=Int.le_of_add_le_add_right hcz;rw[List.range'_succ,List.map_cons];refine⟨(ka,_)::(ra,_)::(ta,_)::pre,post,p,c,rfl,hp,hc,Int.le_trans hc9 (by decide),by decide,by decide,fun own p1 ho1 ho2 hp1=> ?_⟩
  refine⟨(ka,_)::(ra,_)::(ta,_)::pre,post,p1,c+1,rfl,hp1,Int.le_add_one hc,Int.le_trans (Int.add_le_add_right hc9 1) (by decide),by decide,by decide,fun crop p2 hc1 hc2 hp2=> ?_⟩
  refine⟨sm rfl,fun ba=>⟨sm rfl,rfl,?_⟩⟩;refine⟨(ba,_)::(ka,_)::(ra,_)::(ta,_)::pre,post,p2,c+1+1,rfl,hp2,Int.le_add_one (Int.le_add_one hc),Int.le_trans (Int.add_le_add_right (Int.add_le_add_right hc9 1) 1) (by decide),by decide,by decide,fun cnt p3 hn1 hn2 hp3=>⟨hn1,Int.le_trans (Int.le_of_lt hn2) (by decide),?_⟩⟩
  have hct:cnt.toNat≤2:=Int.toNat_le.mpr (Int.le_of_lt_add_one hn2);have hc3:0≤c+1+1+1:=Int.le_add_one (Int.le_add_one (Int.le_add_one hc));have e5:c+1+1+1+(cnt.toNat:Int)≤c+5:=by lia
  unfold oW;rw[List.range_eq_range'];refine D7 (jj:=j) cnt.toNat 0 [] _ (ny nds) (10+jA nds) p3 (c+1+1+1) _ _ _ hp3 hc3 (Int.le_trans e5 (Int.le_trans hcz (by decide))) (fun q hq=>Jf hj3 (zP hD hq)) (Nat.le_trans (Nat.add_le_add hmz hct) (by decide)) (Nat.le_trans (Nat.add_le_add_left hct 0) (by decide)) (by rw[List.length_map,hrl];exact Nat.le_trans (Nat.add_le_add hcn2 hct) (by decide)) fun qs p4 y10 y11 y12 hq1 hq2 hp4=> ?_
  have hql:qs.length=cnt.toNat:=by
   have:=congrArg List.length hq1
   rwa [List.length_map,gb]at this
  try dsimp only[List.map_cons,List.map_nil,List.cons_append,List.nil_append,List.set_cons_zero,List.set_cons_succ]
  refine⟨ba,_,_,rfl,.head,rfl,?_⟩;intro ha;refine⟨rfl,fun f fdx=>⟨_,_,.head,rfl,?_⟩⟩;refine⟨rfl,fun g gdx=>⟨_,_,.head,rfl,_,rfl,ay (by rw[List.length_map,hql];exact Nat.le_trans hct (by decide)),_,.head,?_⟩⟩
  generalize hL:eE (K:=Str) (V:=CV) [] _=L;have hL2:L=_:=hL.symm.trans (CL (f:=f) (g:=g) (fdx:=fdx) (gdx:=gdx) ⟨3+j,own,crop,qs⟩);subst hL2;clear hL;have hfr:(ny nds++kF (3+(j:Int)) qs).lookup (3+(j:Int))=none:=h_ fun hm=>by
   rw[List.map_append]at hm;rcases List.mem_append.mp hm with hm|hm
   ·exact el12 (List.mem_map.mp hm) fun q hq e=>Jg hj3 (zP hD hq) e
   ·refine el12 (List.mem_map.mp hm) fun q hq e=> ?_;obtain⟨q',hq',rfl⟩:=List.mem_map.mp hq;have h1:q'.1∈qs.map (·.1):=List.mem_map.mpr ⟨q',hq',rfl⟩;rw[hq1]at h1;exact absurd e.symm (Int.ne_of_lt (Int.lt_of_le_of_lt hj3 (Int.lt_of_lt_of_le (by decide:(4:Int)<10) (Int.le_trans (Int.le_add_of_nonneg_right (Int.natCast_nonneg _)) (oq _ _ _ h1).1))))
  have hD':GZ (nds++[⟨3+j,own,crop,qs⟩]) (j+1):=by
   refine⟨by simp[hDl],?_,?_,fun nd hnd=> ?_⟩
   ·rw[List.map_append,hD.ids,List.length_append,hDl];show bS 3 j++[3+(j:Int)]=bS 3 (j+1);exact vZ j 3
   ·rw[AT,List.flatMap_append,hD.nums,List.flatMap_singleton];show bS 10 (jA nds)++qs.map (·.1)=bS 10 (jA nds+qs.length);rw[hq1,hql];exact yc _ _ _
   ·rcases List.mem_append.mp hnd with h|h
    ·exact hD.nd nd h
    ·rcases List.mem_singleton.mp h with rfl;exact⟨⟨ho1,ho2⟩,⟨hc1,hc2⟩,hql.symm▸hct,hq2⟩
  have hrow:(gf top (nds++[⟨3+j,own,crop,qs⟩])).map b9=(gf top nds).map b9++qs.map fun q=>b9 (BL top ⟨3+j,own,crop,[]⟩ q):=by
   simp only[gf,List.flatMap_append,List.flatMap_singleton,List.map_append,List.map_map];rfl
  have hcn:jA (nds++[⟨3+j,own,crop,qs⟩])=jA nds+qs.length:=AT _ _;have ih':=ih (j+1) (nds++[⟨3+j,own,crop,qs⟩]) p4 (c+1+1+1+cnt.toNat) (some (.int j)) (some (.int own)) (some (.int crop)) (some (.lst (qs.map fun p=>aG p.1))) y10 y11 (some (.ref ha)) (Nat.le_trans (Nat.le_of_eq (Nat.succ_add_eq_add_succ j m)) hj) hD' hp4 (Int.add_nonneg hc3 (Int.natCast_nonneg _)) (Int.le_trans (Int.add_le_add_right e5 _) hz) (fun nds' p' c' x6 x7 x8 x9 x10 x11 x12 hD2 hp' hc' hz'=>h nds' p' c' x6 x7 x8 x9 x10 x11 x12 ((Nat.succ_add_eq_add_succ j m)▸hD2) hp' hc' (Int.le_trans hz' (Int.le_trans (Int.add_le_add_right e5 _) (Int.le_of_eq e6.symm))));rw[hrow,hcn]at ih';rw[hql,Int.natCast_add,←Int.add_assoc]at ih';by_cases hcr:crop=1
  ·refine⟨true,by exact(decide_eq_true hcr).symm,.y ⟨sm rfl,fun ca=>⟨_,_,.head,rfl,_,_,.head,by simp,?_⟩⟩⟩
   have e5:∀l:Hd,bk (Str.ofString "CropBox") (MO.tree (.lst [CV.int 1,CV.int 1,CV.int 5,CV.int (3+j)])) l=bk iA (.lst [.int 1,.int 1,.int 5,.int (3+j)]) l:=fun O=>rfl;refine⟨_,_,rfl,ej rfl,_,_,.head,rfl,sm rfl,.inl ⟨_,_,.tail (.tail .head),by rw[List.length_append,kF,List.length_map,hql];exact Nat.le_trans (Nat.add_le_add hmz hct) (by decide),?_⟩⟩
   have e3:∀v:CV,v=cP (.sd (ib ⟨3+j,own,crop,qs⟩))→bk (3+(j:Int)) v (ny nds++kF (3+j) qs)=ny (nds++[⟨3+j,own,crop,qs⟩]):=by
    rintro _ rfl;rw[eQ hfr];simp[ny,tG,kF]
   rw[e3 _ (by unfold ib;rw[if_pos (show(⟨3+j,own,crop,qs⟩:ND).crop=1 from hcr)];rfl)]
   refine⟨⟨_,.head _⟩,rfl,fun f2 f2dx=>⟨_,_,.head,rfl,_,_,.head,ay (by rw[List.length_map,hDl];exact Nat.le_trans hj1 (by decide)),?_⟩⟩
   have e4:((nds.map fun nd=>aG nd.i)++[MO.tree (.obj 273 f2dx ([Str.ofString "number",Str.ofString "generation"].zip [CV.int (3+j),CV.int 0]))])=((nds++[(⟨3+j,own,crop,qs⟩:ND)]).map fun nd:ND=>aG nd.i):=by rw[List.map_append];rfl
   rw[e4];exact ih'
  ·refine⟨false,by exact(decide_eq_false hcr).symm,.n ?_⟩
   refine⟨_,_,rfl,ej rfl,_,_,.head,rfl,sm rfl,.inl ⟨_,_,.tail (.tail .head),by rw[List.length_append,kF,List.length_map,hql];exact Nat.le_trans (Nat.add_le_add hmz hct) (by decide),?_⟩⟩
   have e3:∀v:CV,v=cP (.sd (ib ⟨3+j,own,crop,qs⟩))→bk (3+(j:Int)) v (ny nds++kF (3+j) qs)=ny (nds++[⟨3+j,own,crop,qs⟩]):=by
    rintro _ rfl;rw[eQ hfr];simp[ny,tG,kF]
   rw[e3 _ (by unfold ib;rw[if_neg (show ¬(⟨3+j,own,crop,qs⟩:ND).crop=1 from hcr)];rfl)]
   refine⟨⟨_,.head _⟩,rfl,fun f2 f2dx=>⟨_,_,.head,rfl,_,_,.head,ay (by rw[List.length_map,hDl];exact Nat.le_trans hj1 (by decide)),?_⟩⟩
   have e4:((nds.map fun nd=>aG nd.i)++[MO.tree (.obj 273 f2dx ([Str.ofString "number",Str.ofString "generation"].zip [CV.int (3+j),CV.int 0]))])=((nds++[(⟨3+j,own,crop,qs⟩:ND)]).map fun nd:ND=>aG nd.i):=by rw[List.map_append];rfl
   rw[e4];exact ih'
theorem g6(kf:KF W.K):ax W 3 (.ref 753) g8:=by
 refine sM (N:=2) kf (bx kf) (fg kf) ((bT kf).upb rfl) ((eP kf).upb rfl) (el kf) fun sg Q cs (h:fP sg Q cs)=> ?_
 ·refine fP.casesOn h @fun pa pre post p c z5 hp hc hc8 hq=>⟨rfl,?_⟩;subst z5;intro ta;refine⟨sm rfl,fun ra=>⟨sm rfl,fun ka=>⟨sm rfl,rfl,?_⟩⟩⟩;intro ha;refine⟨rfl,fun f fdx=>⟨_,_,.head,rfl,?_⟩⟩;refine⟨rfl,fun g gdx=>⟨_,_,.head,rfl,_,.head,_,_,.head,rfl,sm rfl,.inl ⟨_,_,.tail (.tail .head),by simp,?_⟩⟩⟩
  intro ha2;refine⟨_,.head,_,_,.head,rfl,sm rfl,.inl ⟨_,_,.tail (.tail .head),by simp[bk],?_⟩⟩
  refine⟨(ka,_)::(ra,_)::(ta,_)::pre,post,p,c,rfl,hp,hc,Int.le_trans hc8 (by decide),by decide,by decide,fun top p1 ht1 ht2 hp1=> ?_⟩
  refine⟨sm rfl,rfl,?_⟩;refine⟨(ka,_)::(ra,_)::(ta,_)::pre,post,p1,c+1,rfl,hp1,Int.le_add_one hc,Int.le_trans (Int.add_le_add_right hc8 1) (by decide),by decide,by decide,fun cnt p2 hn1 hn2 hp2=>⟨Int.add_nonneg (by decide) hn1,Int.le_trans (Int.add_le_add_left (Int.le_of_lt hn2) 1) (by decide),?_⟩⟩
  have hk:(1+cnt).toNat≤2:=Int.toNat_le.mpr (show 1+cnt≤1+1 from Int.add_le_add_left (Int.le_of_lt_add_one (show cnt<1+1 from hn2)) 1)
  have hk0:0+(1+cnt).toNat≤2:=(Nat.zero_add _).symm▸hk;unfold oW;rw[List.range_eq_range'];refine D8 (pre:=pre) (post:=post) (pa:=pa) (ka:=ka) (ra:=ra) (ta:=ta) (top:=top) (1+cnt).toNat 0 [] p2 (c+1+1) _ _ _ _ _ _ _ hk0 ⟨rfl,rfl,rfl,fun O h=>(by exact mn h)⟩ hp2 (Int.le_add_one (Int.le_add_one hc)) (Int.le_trans (Int.add_le_add (Int.add_le_add_right (Int.add_le_add_right hc8 1) 1) (Int.mul_le_mul_of_nonneg_left (Int.ofNat_le.mpr hk) (by decide))) (by decide)) fun nds p3 c3 y6 y7 y8 y9 y10 y11 y12 hD hp3 hc3 hz3=> ?_
  have hDl:=hD.len;have hnl:nds.length≤2:=hDl.symm▸hk0;have hcn4:jA nds≤4:=Nat.le_trans (Fe hD.nd) (Nat.mul_le_mul_left 2 hnl);have hrl:=BM top nds;have hmz:(ny nds).length≤8:=DA nds▸Nat.add_le_add (Nat.add_le_add_left hcn4 2) hnl;refine⟨ka,_,_,rfl,.head,rfl,?_⟩;intro hb;refine⟨rfl,fun f2 f2dx=>⟨_,_,.head,rfl,_,.tail _ (.head _),ay (by rw[List.length_map,hrl];exact Nat.le_trans hcn4 (by decide)),sm rfl,fun ba=>⟨_,_,.head,rfl,rfl,fun g2 g2dx=>⟨_,_,.head,rfl,_,.head,?_⟩⟩⟩⟩
  refine⟨_,_,rfl,ej rfl,_,_,.head,rfl,sm rfl,.inl ⟨_,_,.tail .head,Nat.le_trans hmz (by decide),?_⟩⟩
  refine⟨ta,_,_,rfl,.tail .head,rfl,ra,_,_,rfl,.head,rfl,?_⟩;intro hc2;refine⟨rfl,fun g3 g3dx=>⟨_,_,.head,rfl,_,.head,_,_,.head,rfl,rfl,fun sa sdx=>⟨_,_,.head,rfl,sm rfl,?_⟩⟩⟩;have hfr:(ny nds).lookup 2=none:=h_ fun hm=>by
   exact el12 (List.mem_map.mp hm) fun q hq e=>HD (zP hD hq) e
  have hI:kd top nds:=⟨⟨ht1,ht2⟩,hD.ids,⟨hDl.symm▸(Nat.zero_add _).symm▸Int.lt_toNat.mpr (Int.lt_of_lt_of_le (by decide:(0:Int)<1) (Int.le_add_of_nonneg_right hn1)),hnl⟩,hD.nums,hD.nd⟩
  refine rs ?_;have:=hq top nds p3 c3 hI hp3 hc3 (by lia)
  have e3:∀v:CV,v=cP (.sd (ti top nds))→bk (2:Int) v (ny nds)=dy top nds:=by
   rintro _ rfl;rw[eQ hfr];rfl
  rw[←e3 (CV.tup [.int 0,.sd (jz (eE [] [(dB,lN),(dn,.lst (nds.map fun nd=>aG nd.i)),(bb,.int (((gf top nds).map b9).length:Nat)),(ww,DY),(td,aG 9)]) top)]) (by rw[List.length_map];rfl)]at this
  exact this
end
def qB(kept:Fz)(l:List Env):Prop:=∀env∈l,env.scope.kind≠.module∧∃L o,env.frame=some L∧kept L=some o∧∀vs,o.data≠.fields vs
noncomputable def d0(l:List Env):List Addr:=l.filterMap (·.frame)
def wO(kept F:Fz)(sg:Sg)(b:Addr):Prop:=F b=none∧kept b=none∧b∉adrs sg
inductive Kg(kept F:Fz)(sg:Sg)(ea:Addr)(fl:Value)(h:Heap)(vs:Array Value):Prop
 |mk (T oT ts):vs[1]? =some (.ref T)→T≠ea→h.get? T=some oT→oT.data= .fields ts→ts[3]? =some fl→wO kept F sg T→Kg kept F sg ea fl h vs
inductive EP(kept F:Fz)(sg:Sg)(C ea:Addr)(fl:Value)(h:Heap):Prop
 |mk (oe vs a0):h.get? ea=some oe→oe.cls= .ref C→oe.data= .fields vs→vs[0]? =some a0→wO kept F sg ea→vs[1]? =some .none∨Kg kept F sg ea fl h vs→EP kept F sg C ea fl h
structure uy(W:Wd)(kept F:Fz)(sg:Sg)(l:List Env)(C ea:Addr)(fl:Value)(s:Shared):Prop where
 fz:∀a o,F a=some o→s.heap.get? a=some o
 kp:∀a o,kept a=some o→(a∉d0 l→s.heap.get? a=some o)∧∃sl,s.heap.get? a=some {o with slots:=sl}
 bs:∀a o,W.base.get? a=some o→F a=some o
 mo:∀p∈sg,p.2.Is W F s.heap p.1
 nd:(adrs sg).Nodup
 ds:∀a,a∈adrs sg→F a=none∧kept a=none
 dk:∀a o,kept a=some o→F a=none
 gens:s.gens= #[]
 os:s.os=W.os
 fr:qB kept l
 ex:EP kept F sg C ea fl s.heap
abbrev B9(W:Wd)(kept F:Fz)(sg:Sg)(l:List Env)(C ea:Addr)(s:Shared):Prop:=uy W kept F sg l C ea .none s
section
variable {W:Wd}{kept F:Fz}{sg:Sg}{l:List Env}{C ea:Addr}{s:Shared}
theorem qB.loc{kept:Fz}{l:List Env}(h:qB kept l){b:Addr}(hb:b∈d0 l):∃o,kept b=some o∧∀vs,o.data≠.fields vs:=by
 refine el12 (List.mem_filterMap.mp hb) fun env he hf=> ?_;refine dp fun C_ k_=> ?_;obtain⟨_,L,o,h1,h2,h3⟩:=h env he;refine k_ ?_;rw[hf]at h1;cases h1;exact⟨o,h2,h3⟩
theorem fb{h:Heap}{hid:List Addr}:∀{l:List Env},qB kept l→(∀a o,kept a=some o→∃sl,h.get? a=some {o with slots:=sl})→(∀b∈d0 l,b∈hid)→h.FunFrames (hideAll h hid) l
 |[],_,_,_=>trivial
 |env::l,hf,hk,hh=>by
  refine dp fun C_ k_=> ?_;obtain⟨h1,L,o,h2,h3,h4⟩:=hf env (.head _);obtain⟨sl,e⟩:=hk L o h3;refine k_ ?_;refine⟨h1,⟨L,_,h2,hideAll_none _ (hh L (by unfold d0;rw[List.filterMap_cons,h2];exact .head _)),e,h4⟩,fb (fun e' h'=>hf e' (.tail _ h')) hk fun b hb=>hh b ?_⟩
  unfold d0 at hb ⊢;rw[List.filterMap_cons,h2];exact .tail _ hb
theorem uy.after{fl fl':Value}{hid:List Addr}(x:uy W kept F sg l C ea fl s)(hid1:∀b∈hid,b∈d0 l∨wO kept F sg b){h':Heap}(k:(hideAll s.heap hid).StaysIn h')(up:∀b o,s.heap.get? b=some o→(∀vs,o.data≠.fields vs)→∃sl,h'.get? b=some {o with slots:=sl})
  (ex:(∀b o,F b=some o→(hideAll s.heap hid).get? b=some o)→(∀b∈adrs sg,∃o,(hideAll s.heap hid).get? b=some o)→(∀b o,kept b=some o→b∉d0 l→(hideAll s.heap hid).get? b=some o)→EP kept F sg C ea fl' h'):uy W kept F sg l C ea fl' {s with heap:=h'}:=by
 have hF:∀b o,F b=some o→(hideAll s.heap hid).get? b=some o:=fun b o e=>hideAll_get _ (x.fz b o e) fun hb=>by
  rcases hid1 b hb with h|h
  ·obtain⟨o',e',_⟩:=x.fr.loc h;rw[x.dk b o' e']at e;exact ns e
  ·rw[h.1]at e;exact ns e
 have hS:∀b∈adrs sg,b∉hid:=fun b hb hm=>by
  rcases hid1 b hm with h|h
  ·obtain⟨o',e',_⟩:=x.fr.loc h;rw[(x.ds b hb).2]at e';cases e'
  ·exact h.2.2 hb
 have hK:∀b o,kept b=some o→b∉d0 l→(hideAll s.heap hid).get? b=some o:=fun b o e hn=>hideAll_get _ ((x.kp b o e).1 hn) fun hb=>by
  rcases hid1 b hb with h|h
  ·exact hn h
  ·rw[h.2.1]at e;exact ns e
 refine⟨fun a o e=>k a o (hF a o e),fun a o e=>⟨fun hn=>k a o (hK a o e hn),?_⟩,x.bs,fun p hp=>(x.mo p hp).keep (.refl F) (fun b o e=>k b o (hF b o e)) fun b hb o e=>k b o (hideAll_get _ e (hS b (dR hp hb))),x.nd,x.ds,x.dk,x.gens,x.os,x.fr,ex hF ?_ hK⟩
 ·by_cases hm:a∈d0 l
  ·obtain⟨o',e',hd⟩:=x.fr.loc hm;rw[e]at e';cases e';obtain⟨sl,e1⟩:=(x.kp a o e).2;obtain⟨sl2,e2⟩:=up a _ e1 hd;exact⟨sl2,e2⟩
  ·exact⟨o.slots,k a o (hK a o e hm)⟩
 ·intro b hb;refine dp fun C_ k_=> ?_;obtain⟨p,hp,hb'⟩:=List.mem_flatMap.mp hb;obtain⟨o,e⟩:=(x.mo p hp).there b hb';refine k_ ?_;exact⟨o,hideAll_get _ e (hS b hb)⟩
theorem qR{hid:List Addr}{h h':Heap}{l:List Env}{T:Addr}{oT:Obj}{ts:Array Value}(hn:(hideAll h hid).get? T=none)(hT:h'.get? T=some oT)(hd:oT.data= .fields ts)(fr:qB kept l)
  (hF:∀b o,F b=some o→(hideAll h hid).get? b=some o) (hS:∀b∈adrs sg,∃o,(hideAll h hid).get? b=some o) (hK:∀b o,kept b=some o→b∉d0 l→(hideAll h hid).get? b=some o)
  (hkl:∀b∈d0 l,∃o,h'.get? b=some o∧∀vs,o.data≠.fields vs):wO kept F sg T:=by
 refine⟨?_,?_,fun hm=> ?_⟩
 ·cases e:F T with
  |none=>rfl
  |some o=>rw[hF T o e]at hn;exact sn hn
 ·cases e:kept T with
  |none=>rfl
  |some o=>
   by_cases hm:T∈d0 l
   ·obtain⟨o',e',hd'⟩:=hkl T hm;rw[hT]at e';cases e';exact absurd hd (hd' ts)
   ·rw[hK T o e hm]at hn;exact sn hn
 ·obtain⟨o,e⟩:=hS T hm;rw[e]at hn;exact sn hn
theorem uy.kl{fl:Value}(x:uy W kept F sg l C ea fl s):∀a o,kept a=some o→∃sl,s.heap.get? a=some {o with slots:=sl}:=fun a o e=>(x.kp a o e).2
theorem r7{fl:Value}{h':Heap}(x:uy W kept F sg l C ea fl s)(up:∀b o,s.heap.get? b=some o→(∀vs,o.data≠.fields vs)→∃sl,h'.get? b=some {o with slots:=sl}):∀b∈d0 l,∃o,h'.get? b=some o∧∀vs,o.data≠.fields vs:=fun b hb=>by
 refine el12 (x.fr.loc hb) fun o e hd=> ?_;obtain⟨sl,e1⟩:=x.kl b o e;obtain⟨sl2,e2⟩:=up b _ e1 hd;exact⟨_,e2,hd⟩
theorem B9.leave{M:Model}{A:Around}{E:Value→Shared→Prop}{Q:Unit→Shared→Prop}{env:Env}{L:Addr}(x:B9 W kept F sg (env::l) C ea s)(hfr:A.frames=some (env::l))(hf:env.frame=some L)
  (h:∀h',B9 W kept F sg (env::l) C ea {s with heap:=h'}→Q () {s with heap:=h'}):wpAny M A (leaving env (.ref ea)) Q E s:=by
 obtain⟨oe,vs,a0,he,hc,hd,h0,haw,h1|⟨T,oT,ts,h1,hTe,hT,bm,h3,hawT⟩⟩:=x.ex
 ·have hfun:=fb (hid:=ea::d0 (env::l)) x.fr x.kl fun b hb=> .tail _ hb;refine wpAny_leaving_firstW (base:=hideAll s.heap (ea::d0 (env::l))) hfr hfun hf he (fun b o e=>of_hideAll _ e) (hideAll_none _ (.head _)) hd h1 h0 fun h' ⟨k1,k2,k3,k4⟩=>h h' ?_;refine x.after (hid:=ea::d0 (env::l)) (fun b hb=> ?_) k1 k4 fun hF hS hK=> ?_
  ·rcases List.mem_cons.mp hb with rfl|hb
   ·exact .inr haw
   ·exact .inl hb
  ·obtain⟨oe',vs',T,oT,ts,e1,⟨e2,e3⟩,e4,e5,e6,e7,e8,e9,e10⟩:=k3;exact⟨oe',vs',a0,e1,e2.trans hc,e4,e3,haw,.inr ⟨T,oT,ts,e5,e7,e8,e9,e10,qR e6 e8 e9 x.fr hF hS hK (r7 x k4)⟩⟩
 ·have hfun:=fb (hid:=ea::T::d0 (env::l)) x.fr x.kl fun b hb=> .tail _ (.tail _ hb);refine wpAny_leaving_nextW (base:=hideAll s.heap (ea::T::d0 (env::l))) (cls:= .ref C) (a0:=a0) hfr hfun hf ⟨oe,vs,T,oT,ts,he,⟨hc,h0⟩,hd,h1,hideAll_none _ (.tail _ (.head _)),hTe,hT,bm,h3⟩ (fun b o e=>of_hideAll _ e) (hideAll_none _ (.head _)) fun h' ⟨k1,k2,k3,k4⟩=>h h' ?_;refine x.after (hid:=ea::T::d0 (env::l)) (fun b hb=> ?_) k1 k4 fun hF hS hK=> ?_
  ·rcases List.mem_cons.mp hb with rfl|hb
   ·exact .inr haw
   ·rcases List.mem_cons.mp hb with rfl|hb
    ·exact .inr hawT
    ·exact .inl hb
  ·obtain⟨oe',vs',T',oT',ts',e1,⟨e2,e3⟩,e4,e5,e6,e7,e8,e9,e10⟩:=k3;exact⟨oe',vs',a0,e1,e2,e4,e3,haw,.inr ⟨T',oT',ts',e5,e7,e8,e9,e10,qR e6 e8 e9 x.fr hF hS hK (r7 x k4)⟩⟩
theorem B9.note{M:Model}{A:Around}{E:Value→Shared→Prop}{Q:Unit→Shared→Prop}{env:Env}{L:Addr}(x:B9 W kept F sg (env::l) C ea s)(hfr:A.frames=some (env::l))(hf:env.frame=some L)
  (h:∀h',uy W kept F sg (env::l) C ea (rawInt L) {s with heap:=h'}→Q () {s with heap:=h'}):wpAny M A (noteFrame (.ref ea) env) Q E s:=by
 obtain⟨oe,vs,a0,he,hc,hd,h0,haw,h1|⟨T,oT,ts,h1,hTe,hT,bm,h3,hawT⟩⟩:=x.ex
 ·have hfun:=fb (hid:=ea::d0 (env::l)) x.fr x.kl fun b hb=> .tail _ hb;unfold noteFrame;simp only[hf];refine wpAny_bind (wpAny_field he hd h1 ?_);rw[if_neg (by decide)]
  refine wpAny_entryW (base:=hideAll s.heap (ea::d0 (env::l))) hfr hfun hf he (fun b o e=>of_hideAll _ e) (hideAll_none _ (.head _)) hd (Array.getElem?_eq_some_iff.mp h1).1 h0 fun h' ⟨k1,k2,k3,k4⟩=>h h' ?_;refine x.after (hid:=ea::d0 (env::l)) (fun b hb=> ?_) k1 k4 fun hF hS hK=> ?_
  ·rcases List.mem_cons.mp hb with rfl|hb
   ·exact .inr haw
   ·exact .inl hb
  ·obtain⟨oe',vs',T,oT,ts,e1,⟨e2,e3⟩,e4,e5,e6,e7,e8,e9,e10⟩:=k3;exact⟨oe',vs',a0,e1,e2.trans hc,e4,e3,haw,.inr ⟨T,oT,ts,e5,e7,e8,e9,e10,qR e6 e8 e9 x.fr hF hS hK (r7 x k4)⟩⟩
 ·have hfun:=fb (hid:=ea::T::d0 (env::l)) x.fr x.kl fun b hb=> .tail _ (.tail _ hb);refine wpAny_noteFrame_onW (base:=hideAll s.heap (ea::T::d0 (env::l))) (cls:= .ref C) (a0:=a0) hfr hfun hf ⟨oe,vs,T,oT,ts,he,⟨hc,h0⟩,hd,h1,hideAll_none _ (.tail _ (.head _)),hTe,hT,bm,h3⟩ (fun b o e=>of_hideAll _ e) (hideAll_none _ (.head _)) fun h' ⟨k1,k2,k3,k4⟩=>h h' ?_;refine x.after (hid:=ea::T::d0 (env::l)) (fun b hb=> ?_) k1 k4 fun hF hS hK=> ?_
  ·rcases List.mem_cons.mp hb with rfl|hb
   ·exact .inr haw
   ·rcases List.mem_cons.mp hb with rfl|hb
    ·exact .inr hawT
    ·exact .inl hb
  ·obtain⟨oe',vs',T',oT',ts',e1,⟨e2,e3⟩,e4,e5,e6,e7,e8,e9,e10⟩:=k3;exact⟨oe',vs',a0,e1,e2,e4,e3,haw,.inr ⟨T',oT',ts',e5,e7,e8,e9,e10,qR e6 e8 e9 x.fr hF hS hK (r7 x k4)⟩⟩
theorem uy.flight{M:Model}{A:Around}{E:Value→Shared→Prop}{Q:Unit→Shared→Prop}{fl:Value}(x:uy W kept F sg l C ea fl s)(h:∀h',B9 W kept F sg l C ea {s with heap:=h'}→Q () {s with heap:=h'}):wpAny M A (setFlight (.ref ea) none) Q E s:=by
 obtain⟨oe,vs,a0,he,hc,hd,h0,haw,h1|⟨T,oT,ts,h1,hTe,hT,bm,h3,hawT⟩⟩:=x.ex
 ·unfold setFlight;refine wpAny_bind (wpAny_field he hd h1 ?_);rw[if_neg (by decide)]
  exact wpAny_pure (h s.heap {x with ex:=⟨oe,vs,a0,he,hc,hd,h0,haw,.inl h1⟩})
 ·have hfun:=fb (hid:=ea::T::d0 l) x.fr x.kl fun b hb=> .tail _ (.tail _ hb);refine wpAny_setFlight_noneW (base:=hideAll s.heap (ea::T::d0 l)) (cls:= .ref C) (a0:=a0) (fl:=fl) (fun b o e=>of_hideAll _ e) hfun ⟨oe,vs,T,oT,ts,he,⟨hc,h0⟩,hd,h1,hideAll_none _ (.tail _ (.head _)),hTe,hT,bm,h3⟩ fun h' k1 k2 k3 k4'=>h h' ?_;have k4:∀b o,s.heap.get? b=some o→(∀vs,o.data≠.fields vs)→∃sl,h'.get? b=some {o with slots:=sl}:=fun b o e hn=>⟨o.slots,k4' b o e hn⟩;refine x.after (hid:=ea::T::d0 l) (fun b hb=> ?_) k1 k4 fun hF hS hK=> ?_
  ·rcases List.mem_cons.mp hb with rfl|hb
   ·exact .inr haw
   ·rcases List.mem_cons.mp hb with rfl|hb
    ·exact .inr hawT
    ·exact .inl hb
  ·obtain⟨oe',vs',T',oT',ts',e1,⟨e2,e3⟩,e4,e5,e6,e7,e8,e9,e10⟩:=k3;exact⟨oe',vs',a0,e1,e2,e4,e3,haw,.inr ⟨T',oT',ts',e5,e7,e8,e9,e10,qR e6 e8 e9 x.fr hF hS hK (r7 x k4)⟩⟩
end
abbrev PR:=bp→Sg→(bp→Sg→Prop)→Prop
def IR{α:Type}(W:Wd)(X:FX)(C:Addr)(t:Sem α)(rho:bp)(sg:Sg)(Z:bp→Sg→Prop):Prop:=
 ∀F s (K:α→Shared→Prop) (E:Value→Shared→Prop) (l:List Env),X.A.frames=some (X.env::l)→qB X.kept l→X.env.frame=some X.env.locals→bc W X F rho sg s→
  (∀G G' rho' sg' s0 ea s',F.le G→G.le G'→bc W X G rho' sg' s0→B9 W (X.keptAll s0) G' sg' (X.env::l) C ea s'→Z rho' sg'→E (.ref ea) s')→wpAny (model W.prog W.w) X.A t K E s
def ET(W:Wd)(X:FX)(C:Addr)(st:Stmt)(q:PR):Prop:=∀rho sg Z,q rho sg Z→IR W X C (exec st X.env) rho sg Z
def oX(W:Wd)(X:FX)(C:Addr)(sts:List Stmt)(q:PR):Prop:=∀rho sg Z,q rho sg Z→IR W X C (execs sts X.env) rho sg Z
def DP(W:Wd)(n:Nat)(f:Value)(C:Addr)(pre:List CV→Sg→Prop):Prop:=
 ∀(A:Around) (kept F:Fz) (vs:List Value) (cs:List CV) (sg:Sg) (s:Shared) (K E:Value→Shared→Prop) (l:List Env),A.handled=none→A.depth+3*n≤900→A.units+30*n≤9000→A.frames=some l→qB kept l→
  kO W kept F sg s→b6 W F vs cs→pre cs sg→(∀G ea s',F.le G→B9 W kept G sg l C ea s'→E (.ref ea) s')→
  codeAny (model W.prog W.w) A (.call f ⟨vs,[]⟩) (B5 K E) s
section
variable {W:Wd}{X:FX}{F:Fz}{rho:bp}{sg sg':Sg}{s s':Shared}{C:Addr}
theorem B9.sub{kept:Fz}{l:List Env}{ea:Addr}(x:B9 W kept F sg l C ea s)(h:sg'.Sublist sg):B9 W kept F sg' l C ea s:=by
 have hs:=m6 h;have aw:∀b,wO kept F sg b→wO kept F sg' b:=fun b y=>⟨y.1,y.2.1,fun hm=>y.2.2 (hs.subset hm)⟩;refine⟨x.fz,x.kp,x.bs,fun p hp=>x.mo p (h.subset hp),x.nd.sublist hs,fun a ha=>x.ds a (hs.subset ha),x.dk,x.gens,x.os,x.fr,?_⟩;obtain⟨oe,vs,a0,h1,h2,h3,h4,h5,h6⟩:=x.ex;refine⟨oe,vs,a0,h1,h2,h3,h4,aw _ h5,h6.imp_right ?_⟩;rintro⟨T,oT,ts,k1,k2,k3,k4,k5,k6⟩;exact⟨T,oT,ts,k1,k2,k3,k4,k5,aw _ k6⟩
theorem B9.pop{l:List Env}{ea:Addr}{s0:Shared}{F0:Fz}{sg0:Sg}(R:bc W X F0 rho sg0 s0)(hf:X.env.frame=some X.env.locals)(fr:qB X.kept l)(x:B9 W (X.keptAll s0) F sg (X.env::l) C ea s):B9 W X.kept F sg l C ea s:=by
 have kk:∀a o,X.kept a=some o→X.keptAll s0 a=some o:=fun a o e=>by rw[bu (R.kept_not_own e)];exact e
 have aw:∀b,wO (X.keptAll s0) F sg b→wO X.kept F sg b:=fun b y=>⟨y.1,(by
  cases e:X.kept b with
  |none=>rfl
  |some o=>have:=y.2.1;rw[kk b o e]at this;exact sn this),y.2.2⟩
 refine⟨x.fz,fun a o e=>⟨fun hn=>(x.kp a o (kk a o e)).1 fun hm=> ?_,(x.kp a o (kk a o e)).2⟩,x.bs,x.mo,x.nd,fun a ha=>⟨(x.ds a ha).1,?_⟩,fun a o e=>x.dk a o (kk a o e),x.gens,x.os,fr,?_⟩
 ·unfold d0 at hm hn;rw[List.filterMap_cons,hf]at hm;rcases List.mem_cons.mp hm with rfl|hm
  ·exact R.kept_not_own e X.hL
  ·exact hn hm
 ·cases e:X.kept a with
  |none=>rfl
  |some o=>have:=(x.ds a ha).2;rw[kk a o e]at this;exact sn this
 ·obtain⟨oe,vs,a0,h1,h2,h3,h4,h5,h6⟩:=x.ex;refine⟨oe,vs,a0,h1,h2,h3,h4,aw _ h5,h6.imp_right ?_⟩;rintro⟨T,oT,ts,k1,k2,k3,k4,k5,k6⟩;exact⟨T,oT,ts,k1,k2,k3,k4,k5,aw _ k6⟩
theorem vQ{l:List Env}(R:bc W X F rho sg s)(hf:X.env.frame=some X.env.locals)(fr:qB X.kept l):qB (X.keptAll s) (X.env::l):=by
 intro env he;rcases List.mem_cons.mp he with rfl|he
 ·refine el43 R.ns fun m o es ep ho hd O=> ?_;exact⟨by rw[X.hk];decide,_,o,hf,by rw[bX X.hL];exact ho,fun vs q=>by rw[hd]at q;cases q⟩
 ·obtain⟨h1,L,o,h2,h3,h4⟩:=fr env he;exact⟨h1,L,o,h2,by rw[bu (R.kept_not_own h3)];exact h3,h4⟩
theorem Ky{st:Stmt}{rest:List Stmt}{p:PS}{q:PR}(h1:r_ W X st p)(h2:oX W X C rest q):oX W X C (st::rest) (fun rho sg Z=>p rho sg fun f rho' sg'=>f= .next∧q rho' sg' Z):=fun rho sg Z hp F s K E l hfr fr hf R hE=>
 wpAny_execs_cons (h1.go hp R fun G f g rho1 sg1 s1 le1 R1 hf' hg=>by
  obtain⟨rfl,hq⟩:=hg;rw[show f= .next from hf']
  exact h2 _ _ _ hq G s1 K E l hfr fr hf R1 fun G2 G3 rho' sg' s0 ea s' le2 le3 R2 x hz=>hE G2 G3 rho' sg' s0 ea s' (le1.trans le2) le3 R2 x hz)
theorem kJ{st:Stmt}{rest:List Stmt}{q:PR}(h:ET W X C st q):oX W X C (st::rest) q:=fun rho sg Z hp F s K E l hfr fr hf R hE=>
 wpAny_execs_cons (h _ _ _ hp F s _ E l hfr fr hf R hE)
theorem Jq{test:Expr}{body orelse:List Stmt}{pos:Pos}{pt:PB}{q q2:PR}(ht:uI W X test pt)(hb:oX W X C body q)(ho:oX W X C orelse q2):ET W X C (.If test body orelse pos) (fun rho sg Z=>pt rho sg fun b sg1=>(b=true→q rho sg1 Z)∧(b=false→q2 rho sg1 Z)):=fun rho sg Z hp F s K E l hfr fr hf R hE=>
 wpAny_If (ht.go hp R fun G b b' sg1 s1 le1 R1 r1 h1=>by
  subst r1;cases b with
  |true=>exact hb _ _ _ (h1.1 rfl) G s1 K E l hfr fr hf R1 fun G2 G3 rho' sg' s0 ea s' le2 le3 R2 x hz=>hE G2 G3 rho' sg' s0 ea s' (le1.trans le2) le3 R2 x hz
  |false=>exact ho _ _ _ (h1.2 rfl) G s1 K E l hfr fr hf R1 fun G2 G3 rho' sg' s0 ea s' le2 le3 R2 x hz=>hE G2 G3 rho' sg' s0 ea s' (le1.trans le2) le3 R2 x hz)
theorem Jr{sts:List Stmt}:oX W X C sts (fun O O O=>False):=fun rho sg Z hp=>hp.elim
def IN(W:Wd)(X:FX)(C:Addr)(e:Expr)(q:PR):Prop:=∀rho sg Z,q rho sg Z→IR W X C (eval e X.env) rho sg Z
theorem s_{gs:List Str}{x:Str}{pos np:Pos}{e:Expr}{es:List Expr}{ps:t5}{f:Value}{pre:List CV→Sg→Prop}{n:Nat}(j:Nat)(hgs:X.globs=gs)(hj:gs[j]? =some x)(hv:nsIn W.K mainGlobals x=some (some f))(hkp:keepIn W.K f=true)(ok:DP W n f C pre)(hn:n≤X.n)
  (he:starEach (e::es) X.env=(false,eval e X.env)::starEach es X.env) (hpl:(backTo pos (starEach es X.env)).any (·.1)=false) (ha:lC W X pos (e::es) ps):
  IN W X C (.Call (.Name x np) (e::es) [] pos) (fun rho sg Z=>ps rho sg fun cs sg1=>pre cs sg1∧Z rho sg1):=fun rho sg Z hp F s K E l hfr fr hf R hE=>by
 refine Call_ (fe j hgs hj hv R ?_);refine callWith_K (h₀:=W.base) W.kin hkp (ha.go hp R fun G vs cs sg1 s1 le1 R1 r1 h'=>⟨R1.kin,?_⟩) he hpl;have h1:=X.hd;have h2:=X.hu;exact wpAny_call (codeAny_mono (ok X.A (X.keptAll s1) G vs cs sg1 s1 K E (X.env::l) X.hh (GQ hn X.hd) (GQ hn X.hu) hfr (vQ R1 hf fr) R1.toC r1 h'.1 fun G2 ea s' le x=>hE G G2 rho sg1 s1 ea s' le1 le R1 x h'.2) fun r s' h=>by
  rcases r with e|(_|_|_|v)<;>exact h)
theorem CT{e:Expr}{pos:Pos}{q:PR}(hi:interactive X.env=false)(hs:swapsWith e none pos.line X.env=pure false)(h:IN W X C e q):ET W X C (.Expr e pos) q:=fun rho sg Z hp F s K E l hfr fr hf R hE=>
 wpAny_Expr_any (h _ _ _ hp F s _ E l hfr fr hf R hE) hi hs
theorem wu{x:Str}{pos' pos:Pos}{value:Expr}{q:PR}(hs:swapsWith value (some (.Name x pos')) pos.line X.env=pure false)(h:IN W X C value q):ET W X C (.Assign [.Name x pos'] value pos) q:=fun rho sg Z hp F s K E l hfr fr hf R hE=>
 wpAny_Assign_Name (h _ _ _ hp F s _ E l hfr fr hf R hE) hs
theorem I6{n:Nat}{fa:Addr}{pre:List CV→Sg→Prop}{name qual:Str}{params:Arguments}{body:List Stmt}{scope:Scope}{dV kV doc pm cdv ct oc:Value}{an od:Option Addr}{osl:Array (Option Value)}{q:PR}
  (ps more globs:List Str) (hK:W.K.lookup fa=some ⟨oc,od,.func (fnOf name qual params body scope dV kV doc pm an cdv ct),osl⟩) (hcd:codeIn W.K cdv qual=true) (hchk:qV scope (ps++more) globs=true)
  (him:∀X:FX,X.names=ps++more→X.globs=globs→X.env.scope=scope→X.n=n→X.m=(ps++more).length→oX W X C body q)
  (hb:∀(s:Shared) (vs:List Value),vs.length=ps.length→BindsTo s (fnOf name qual params body scope dV kV doc pm an cdv ct) ⟨vs,[]⟩ (ps.zip vs))
  (hsp:∀(cs:List CV) (sg:Sg),pre cs sg→cs.length=ps.length∧q (cs.map some++more.map fun O=>none) sg (fun O sg'=>sg.Sublist sg')):DP W (n+1) (.ref fa) C pre:=by
 intro A kept F vs cs sg s K E l hh hd hu hfr fr R0 hv hpre hE;obtain⟨hlen,hq⟩:=hsp cs sg hpre;refine nh ps more globs hK hcd hchk hh hd hu R0 (hb s vs (hv.length.trans hlen)) hv hlen fun Xf s1 e1 e2 e3 e4 e5 ek eA ef keep hown hcw O R=> ?_;refine him Xf e1 e2 e3 e4 e5 _ _ _ hq F s1 _ _ l (by rw[eA];exact Around.frames_deeper hfr) (by rw[ek];exact fr) ef R fun G G' rho' sg' s0 ea s' le le2 R2 x hz=> ?_
 refine x.leave (by rw[eA];exact Around.frames_deeper hfr) ef fun h' x'=> ?_
 have x2:=(x'.pop R2 ef (by rw[ek];exact fr)).sub hz
 rw[ek]at x2;exact hE G' ea _ (le.trans le2) x2
end
noncomputable abbrev qc:List Value:=[.ref 46,.type "Exception",.type "BaseException",.type "object"]
inductive EQ(K:Frag):Prop
 |mk (nm q bs hdct sn sub ab col dd k0 k1 k2 k3 k5):K.lookup 71=some (excClassObj nm q 71 70 bs qc hdct sn sub ab col dd k0 k1 k2 k3 k5 "Exception.__new__")→EQ K
structure KX(K:Frag):Prop where
 cls:EQ K
 ini:findIn K (.ref 71) "__init__"=some (some (.ref 36))
 tyI:typeIn K (.ref 36)=some (.type "function")
 glob:nsIn K mainGlobals (Str.ofString "DeskFault")=some (some (.ref 71))
 fn:∃t n o,Dc K 36 mw gQ mz (.ref 29)∧K.lookup 29=some o∧o.data= .seq #[Value.int (-1) t] n
 sets:findIn K (.ref 71) "__setattr__"=some (some (.builtin "object.__setattr__"))
 tk1:findIn K (.ref 71) (Str.ofString "what")=some none
 tk2:findIn K (.ref 71) (Str.ofString "at")=some none
 hd:hasDictIn K 71=true
 keep:keepIn K (.ref 71)=true
 bExc:nsIn K mainGlobals (Str.ofString "Exception")=some none
section
variable {prog:Program}{w:World}{A:Around}{E:Value→Shared→Prop}{R:Result→Shared→Prop}{h:Heap}{g:Array GenState}{d:Drawn}{t:Nat}{os:OsState}
variable {nm q:Str}{N:Addr}{bs:List Value}{hdct:Bool}{sn:List Str}{sub:List Value}{ab:Bool}{col:Option Bool}{dd:Option Addr}{k0 k1 k2 k3 k5:Option Value}
theorem BV(b:String)(hb:[Value.type "Exception",.type "BaseException",.type "object"].contains (.type b)=r):(Value.ref 71::qc).contains (.type b)=r:=by
 rw[List.contains_cons,List.contains_cons,hb];rfl
theorem KY{rest:List Value}(hC:h.get? 71=some (excClassObj nm q 71 N bs qc hdct sn sub ab col dd k0 k1 k2 k3 k5 "Exception.__new__"))
  (hq:R (.ok (.ret (.ref (h.objs.size+1)))) ⟨(h.push {cls:= .type "tuple",data:= .seq rest.toArray}).push {cls:= .ref 71,data:= .fields #[.ref h.objs.size,.none,.none,.none,.bool false,.none]},g,d,t,os⟩) (hrest:rest.length≤sizeLine):
  codeAny (model prog w) A (.builtin "Exception.__new__" ⟨.ref 71::rest,[]⟩) R ⟨h,g,d,t,os⟩:=by
 have F:=PySem.F.excBase_Exception;have hends:=F.ends;have hcB:=BV "Exception" F.hasB;have hcA:=BV "AttributeError" F.noAttr;have hcN:=BV "NameError" F.noName;refine codeAny_builtinAt F.entry ?_;unfold Builtin.«BaseException.__new__»;refine PySem.wpAt_bind ?_;show PySem.wpAt _ _ _ (stack >>= _) _ _ _;refine PySem.wpAt_bind (PySem.wpAt_stack fun p below=>PySem.wpAt_of_wpAny ?_)
 wp_walk
 refine PySem.wpAt_of_wpAny ?_;rw[F.owner]
 repeat (first|with_reducible refine wpAny_madeHere_exc F.canon hC ?_|with_reducible refine wpAny_loadPart_at hC ?_|(with_reducible refine wpAny_isSubtype_exc hC ?_;first|rw[hcB]|rw[hcA]|rw[hcN])|wp_step)
 show R _ _;rw[Heap.size_push];exact hq
end
theorem Ll{α β γ:Type}{A B C:α→β→γ→Prop}{G:Prop}(h:∃x y z,A x y z∧B x y z∧C x y z)(k:∀x y z,A x y z→B x y z→C x y z→G):G:=let⟨x,y,z,a,b,c⟩:=h;k x y z a b c
section
variable {W:Wd}{A:Around}{E:Value→Shared→Prop}{h:Heap}{g:Array GenState}{d:Drawn}{t:Nat}{os:OsState}
theorem JC(kx:KX W.K){rest:List Value}{Q:Value→Shared→Prop}(kin:W.K.In h)
  (hq:∀h' e,Heap.MadeExcOf h h' e (.ref 71) rest→wpAny (model W.prog W.w) (A.under (.builtin "type.__call__" ⟨.ref 71::rest,[]⟩)) (call (.ref 36) (.ref e::rest)) (fun r s'=>r= .none∧Q (.ref e) s') E ⟨h',g,d,t,os⟩) (hrest:rest.length≤sizeLine):
  wpAny (model W.prog W.w) A (call (.ref 71) rest) Q E ⟨h,g,d,t,os⟩:=by
 have F:=PySem.F.excBase_Exception;obtain⟨nm,q,bs,hdct,sn,sub,ab,col,dd,k0,k1,k2,k3,k5,hcl⟩:=kx.cls;have hC:=kin _ _ hcl;have f1:=tc_lookup;have f2:=tc_bind (.ref 71);have hT:(⟨h,g,d,t,os⟩:Shared).TypeIs (.ref 71) "type":=⟨_,hC,rfl⟩;refine wpAny_call (codeAny_of_tree ?_);show wpAny _ _ (callAny (.ref 71) _) _ _ _
 repeat (any_goals (first|assumption|with_reducible refine wpAny_loadPart_at hC ?_|wp_step))
 refine⟨rfl,?_⟩;refine codeAny_call_builtin_at (Code.quiet_builtin _ (by decide+kernel)) entry_typeCall (wpAny_check_type_call_sub hC ?_)
 repeat (first|with_reducible refine wpAny_loadPart_at hC ?_|with_reducible refine wpAny_madeBy_exc hC ?_|wp_step)
 refine codeAny_call_builtin_code (Code.quiet_builtin _ F.quiet) (wpAny_check_new_subU F (bmB:=qc) rfl .base hC ?_);refine KY hC ?_ hrest;show wpAny _ _ _ _ _ _;have keep:∀b o,h.get? b=some o→((h.push {cls:= .type "tuple",data:= .seq rest.toArray}).push {cls:= .ref 71,data:= .fields #[.ref h.objs.size,.none,.none,.none,.bool false,.none]}).get? b=some o:=fun b o e=>Heap.get?_push_of_some _ (Heap.get?_push_of_some _ e);have hC₁:=keep _ _ hC;have kin₁:=kin.keeps keep;have hget:((h.push {cls:= .type "tuple",data:= .seq rest.toArray}).push {cls:= .ref 71,data:= .fields #[.ref h.objs.size,.none,.none,.none,.bool false,.none]}).get? (h.objs.size+1)=some
   {cls:= .ref 71,data:= .fields #[.ref h.objs.size,.none,.none,.none,.bool false,.none]}:=by heap_get
 have hcC:(Value.ref 71::qc).contains (.ref 71)=true:=by simp
 unfold isInstance
 repeat (first|with_reducible refine wpAny_loadPart_at hget ?_|wp_step)
 refine wpAny_isSubtype_exc (C:=71) hC₁ ?_;rw[hcC]
 repeat (first|with_reducible refine wpAny_loadPart_at hget ?_|wp_step)
 show wpAny _ _ (typeLookup (.ref 71) _) _ _ _;refine(looks_findIn kin₁ kx.ini).here ?_;refine wpAny_holding (wpAny_bind ?_);refine(bind_fn kin₁ _ kx.tyI).here ?_;refine wpAny_bind (wpAny_mono (hq _ (h.objs.size+1) ⟨keep,Heap.get?_none_of_le (Nat.le_succ _),h.objs.size,hget,Heap.get?_none_of_le (Nat.le_refl _),?_⟩) (fun r s' hr=> ?_) fun O O x=>x)
 ·exact Heap.get?_push_of_some _ (Heap.get?_push_at rfl rfl)
 ·obtain⟨rfl,hQ⟩:=hr
  wp_walk
  exact hQ
set_option tactic.hygienic true in
theorem HA{h:Heap}{x:Addr}{mA:Str→Option Value}(I:h.Inst x 71 mA):∃ox od,InstAt h x ox 71 od:=by
 obtain⟨o,hx,hc,hnc,hd⟩:=I;have hno:notCls o=true:=by
  unfold notCls;split
  ·rename_i c hcd;exact absurd hcd (hnc c)
  ·rfl
 rcases hd with⟨hdn,_⟩|⟨dx,hdx,hne,hns⟩
 ·exact⟨o,none,hx,hc,hno,by rw[hdn];trivial⟩
 ·obtain⟨od,es,ep,hod,_⟩:=hns;exact⟨o,some od,hx,hc,hno,by rw[hdx];exact hod⟩
theorem JD(kx:KX W.K):∃cd,clsIn W.K 71=some cd∧cd.mro= .ref 71::qc∧cd.hasDict=true:=by
 obtain⟨nm,q,bs,hdct,sn,sub,ab,col,dd,k0,k1,k2,k3,k5,hcl⟩:=kx.cls;have hh:=kx.hd;unfold hasDictIn at hh;obtain⟨cd,h1,h2⟩:=any_some hh;refine⟨cd,h1,?_,h2⟩;unfold clsIn at h1;rw[hcl]at h1;cases h1;rfl
section
open PySem.Builtin PySem.Builtin.ObjectAttr
variable {x dx:Addr}{m:Str→Option Value}{ns:List Str}{name:Str}{tk:Tok}{v:Value}{b:Bool}{Q:Fin→Shared→Prop}{oda:Data}{osl:Array (Option Value)}
theorem DO{M:Model}(hns:h.Ns1 dx m)(hw:Within m ns)(hsz:ns.length≤100)
  (hq:∀h',h'.Ns1 dx (fun y=>if y=name then some v else m y)→Heap.SameBut dx h h'→Q (.done (.ret .none)) ⟨h',g,d,t+1,os⟩):wpAny M A (storeInDict dx (.str name tk) name v) Q E ⟨h,g,d,t,os⟩:=by
 unfold storeInDict newKeyGuard;refine wpAny_bind (wpAny_pure (wpAny_bind (wpAny_nsSet1 hns fun h' hn' hs=> ?_)));refine Ll (hn'.count (Within.cons name v hw)) fun oD esD epD hoD hdD hcD=> ?_;exact wpAny_bind (wpAny_lookBehind hoD (by rw[hdD];exact pastItsLine_dict (Nat.le_trans hcD (Nat.le_trans (Nat.succ_le_succ hsz) (by decide)))) (wpAny_pure (hq h' hn' hs)))
theorem IG(kx:KX W.K)(kin:W.K.In h)(hfa:findIn W.K (.ref 71) name=some none){ox:Obj}{od:Option Obj}{R:Result→Shared→Prop}(I:InstAt h x ox 71 od)
  (hq:∀b,wpAny (model W.prog W.w) A.in1 (storeInOwnDict (.ref x) (.ref 71) (.str name tk) name v b) (fun fin s'=>match fin with| .done f=>R (.ok f) s'| .again c'=>c'.quiet=true∧codeAny (model W.prog W.w) A c' R s') (fun e s'=>R (.error e) s') ⟨h,g,d,t,os⟩):
  codeAny (model W.prog W.w) A (.call (.builtin "object.__setattr__") ⟨[.ref x,.str name tk,v],[]⟩) R ⟨h,g,d,t,os⟩:=by
 refine el13 (JD kx) fun cd hcd hmro O=> ?_;have SF:=PySem.F.store_object;refine codeAny_call_builtin SF.slot.plain SF.entry (@check_slot (model W.prog W.w) _ _ _ "object.__setattr__" "object" "__setattr__" (.ref x) [.str name tk,v] [] _ SF.kind SF.split (I.type.andThen (looks_mroIn kin (by unfold mroIn;rw[hcd,Option.bind_some,hmro];rfl))) (SF.args (.ref x) (.str name tk) v) ?_)
 have hm:Looks (model W.prog W.w) h (mroOf (.ref 71)) cd.mro:=(looks_clsIn kin hcd).andThen .now;rw[osa_eq,refuse_eq];refine wpAny_bind (wpAny_bind (I.type.here (wpAny_bind (hm.here ?_))));rw[hmro,refuseLoop_ref,refuseLoop_ref,PySem.F.store_Exception.passes];refine wpAny_pure (wpAny_bind (I.type.here (wpAny_bind ((looks_findIn kin hfa).here (wpAny_bind (wpAny_pure ?_))))));exact hq _
theorem JH(kx:KX W.K)(kin:W.K.In h)(hx:h.get? x=some ⟨.ref 71,some dx,oda,osl⟩)(hq:wpAny (model W.prog W.w) A (storeInDict dx (.str name tk) name v) Q E ⟨h,g,d,t,os⟩):
  wpAny (model W.prog W.w) A (storeInOwnDict (.ref x) (.ref 71) (.str name tk) name v b) Q E ⟨h,g,d,t,os⟩:=by
 refine el13 (JD kx) fun cd hcd O hdict=> ?_;refine wpAny_bind (wpAny_pure (wpAny_bind (wpAny_bind (wpAny_loadPart hx (wpAny_bind ((looks_clsIn kin hcd).at ?_))))));rw[hdict];exact wpAny_pure hq
theorem JG(kx:KX W.K)(kin:W.K.In h)(hx:h.get? x=some ⟨.ref 71,none,oda,osl⟩)(hnc:∀c,oda≠.cls c){h1:Heap}(e1:h1=((h.push {cls:= .type "dict",data:= .dict #[]}).update x fun o=>{cls:=o.cls,dict:=some h.objs.size,data:=o.data,slots:=o.slots}))(hq:wpAny (model W.prog W.w) A (storeInDict h.objs.size (.str name tk) name v) Q E ⟨h1,g,d,t,os⟩):
  wpAny (model W.prog W.w) A (storeInOwnDict (.ref x) (.ref 71) (.str name tk) name v b) Q E ⟨h,g,d,t,os⟩:=by
 refine el13 (JD kx) fun cd hcd O hdict=> ?_;refine wpAny_bind (wpAny_pure (wpAny_bind (wpAny_bind (wpAny_loadPart hx (wpAny_bind ((looks_clsIn kin hcd).at ?_))))));rw[hdict];subst e1;cases oda with
 |cls c=>exact absurd rfl (hnc c)
 |_=>exact wpAny_bind (wpAny_alloc' (wpAny_bind (wpAny_update' (Heap.get?_push_of_some _ hx) (wpAny_pure hq))))
end
theorem KZ(kx:KX W.K){x:Addr}{mA:Str→Option Value}{ns:List Str}{name:Str}{v:Value}{Q:Unit→Shared→Prop}(kin:W.K.In h)(hfa:findIn W.K (.ref 71) name=some none)(I:h.Inst x 71 mA)
  (hq:∀h' tk',h'.Inst x 71 (fun y=>if y=name then some v else mA y)→
   (∀b o,b≠x→(∀o₀ dx,h.get? x=some o₀→o₀.dict=some dx→b≠dx)→h.get? b=some o→h'.get? b=some o)→
   (∀o₀,h.get? x=some o₀→∃o₁,h'.get? x=some o₁∧o₁.cls=o₀.cls∧o₁.data=o₀.data∧(∀dx,o₁.dict=some dx→o₀.dict=some dx∨h.get? dx=none))→Q () ⟨h',g,d,tk',os⟩) (hw:Within mA ns) (hsz:ns.length≤100):
  wpAny (model W.prog W.w) A (setAttr (.ref x) name v) Q E ⟨h,g,d,t,os⟩:=by
 obtain⟨ox,od,IA⟩:=HA I;obtain⟨⟨oc,odi,oda,osl⟩,hx,hc,hnc,hd⟩:=I;dsimp only at hc hd hnc;subst hc;rcases hd with⟨rfl,hmA⟩|⟨dx,rfl,hne,hns⟩
 ·have hx₁:(h.push {cls:= .type "dict",data:= .dict #[]}).get? x=some ⟨.ref 71,none,oda,osl⟩:=Heap.get?_push_of_some _ hx;have hxs:x≠h.objs.size:=Nat.ne_of_lt (Heap.lt_size hx);generalize e1:((h.push {cls:= .type "dict",data:= .dict #[]}).update x fun o=>{cls:=o.cls,dict:=some h.objs.size,data:=o.data,slots:=o.slots})=h1;have hgd:h1.get? h.objs.size=some {cls:= .type "dict",data:= .dict #[]}:=e1▸(Heap.get?_update_ne _ _ _ _ hxs.symm).trans (Heap.get?_push_at rfl rfl);have hnd:h1.Ns h.objs.size (fun O=>none):=⟨_,#[],_,hgd,rfl,fun e he=>absurd he (by simp),fun O=>rfl⟩
  refine set_plain kin IA kx.sets (IG kx kin hfa IA fun b=>JG kx kin hx hnc e1.symm (DO (Heap.Ns1.of_empty hnd) Within.nil (Nat.zero_le _) fun h' hn' hs=> ?_));have hx':h'.get? x=some {cls:= .ref 71,dict:=some h.objs.size,data:=oda,slots:=osl}:=by
   refine(hs.2 x hxs).trans (e1▸Heap.get?_update_self _ hx₁ ?_);have hfr:=(Heap.get?_some_iff.mp hx).2;cases oda<;>first|rfl|exact hfr
  refine hq h' _ ⟨_,hx',rfl,hnc,.inr ⟨h.objs.size,rfl,hxs.symm,?_⟩⟩ (fun b ob hbx O hb=> ?_)
   (fun o₀ h₀=>⟨_,hx',?_⟩)
  ·rw[show mA=fun O=>none from funext hmA];exact hn'
  ·exact(hs.2 b (Nat.ne_of_lt (Heap.lt_size hb))).trans (e1▸(Heap.get?_update_ne _ _ _ _ hbx).trans (Heap.get?_push_of_some _ hb))
  ·rw[hx]at h₀;cases h₀;exact⟨rfl,rfl,fun dx e=>by cases e;exact .inr bJ⟩
 ·refine set_plain kin IA kx.sets (IG kx kin hfa IA fun b=>JH kx kin hx (DO hns hw hsz fun h' hn' hs=> ?_));refine hq h' _ ⟨_,(hs.2 x hne.symm).trans hx,rfl,hnc,.inr ⟨dx,rfl,hne,hn'⟩⟩ (fun b ob O hbd hb=>(hs.2 b (hbd _ dx hx rfl)).trans hb)
   (fun o₀ h₀=>⟨o₀,(hs.2 x hne.symm).trans h₀,rfl,rfl,fun O e=> .inl e⟩)
end
section
variable {W:Wd}{A:Around}{E:Value→Shared→Prop}{h:Heap}{g:Array GenState}{d:Drawn}{t:Nat}{os:OsState}
theorem GP{T name:String}{id:String}{pl:Sem Bool}{Q:Value×List Value→Shared→Prop}{s:Shared}(X:W.K.In s.heap)(ht:typeOf (.type T)=pure (.type "type"))(hs:Manifest.isStub T=false)
  (e:findCls W.K (.type T) (.type "type") (Str.ofString name)=some (.val (.builtin id))) (hh:handedIn (.builtin id)=true) (hk:Q (.builtin id,[]) {s with toks:=s.toks+1}):wpAny (model W.prog W.w) A (getMethod (.type T) (Str.ofString name) pl) Q E s:=by
 have hstub:opaqueClassAbove (.type T)=pure none:=by unfold opaqueClassAbove;dsimp only;rw[hs];rfl
 have L0:Looks (model W.prog W.w) s.heap (typeOf (.type T)) (.type "type"):=Looks.of_pure ht;have hg:findIn W.K (.type "type") "__getattribute__"=some (some (.builtin "type.__getattribute__")):=type_tga;refine wpAny_bind (wpAny_bind (L0.here ((looks_findIn X hg).here ?_)));dsimp only;refine(if_pos canon_tga)▸?_;refine wpAny_bind (wpAny_mono (Q:=fun v=>Q (v,[])) (E:=E) ?_ (fun O O z=>wpAny_pure z) fun O O z=>z);have LO:Looks (model W.prog W.w) s.heap (opaqueClassAbove (.type T)) none:=Looks.of_pure hstub;refine cls_open X LO L0 hg (looks_hook X (r:=none) (by rfl)) (by show subIn W.K _ _=_;rfl) e
  (wpAny_pure (by show wpAny _ _ (handedOut _) _ _ _;rw[handedOut_of hh];exact wpAny_pure hk))
theorem Aj{nm q:Str}{N:Addr}{bs:List Value}{hdct:Bool}{sn:List Str}{sub:List Value}{ab:Bool}{col:Option Bool}{dd:Option Addr}{k0 k1 k2 k3 k5:Option Value}{M:Model}{e:Addr}{oe:Obj}{rest:List Value}{Q:Unit→Shared→Prop}
  (hC:h.get? 71=some (excClassObj nm q 71 N bs qc hdct sn sub ab col dd k0 k1 k2 k3 k5 "Exception.__new__")) (he:h.get? e=some oe) (hcls:oe.cls= .ref 71) (hq:Q () ⟨h,g,d,t,os⟩):
  wpAny M A (checkBuiltinCall "Exception.__init__" ⟨.ref e::rest,[]⟩) Q E ⟨h,g,d,t,os⟩:=by
 have F:=PySem.F.excBase_Exception;have hcB:=BV "Exception" F.hasB;have hshort:=F.noStar;simp only[checkBuiltinCall,F.initKind,F.initSplit,F.initRow]
 repeat (first|(with_reducible refine wpAny_loadPart_at he ?_;rw[hcls])|with_reducible refine wpAny_loadPart_at hC ?_|(with_reducible refine wpAny_isSubtype_exc hC ?_;rw[hcB])|wp_step)
 refine wpAny_onRaise ?_;rw[show ∀(a b:String) (n:Nat),Bind.check ⟨.positional,"*","Exception",.self,[⟨"args",.varPos,false⟩]⟩ a b n (List.map (fun x=>x.fst) ({pos:=Value.ref e::rest}:Args).kw)=pure ()from
  fun a b n=>check_star_args _ _ _ _ _ _]
 exact wpAny_pure hq
theorem H8(kx:KX W.K){e t0:Addr}{rest:List Value}{Q:Value→Shared→Prop}(kin:W.K.In h)(he:h.get? e=some {cls:= .ref 71,data:= .fields #[.ref t0,.none,.none,.none,.bool false,.none]})
  (hq:∀h' t',h'.get? e=some {cls:= .ref 71,data:= .fields #[.ref t',.none,.none,.none,.bool false,.none]}→(∀b o,b≠e→h.get? b=some o→h'.get? b=some o)→Q .none ⟨h',g,d,t,os⟩) (hrest:rest.length≤sizeLine):
  wpAny (model W.prog W.w) A (call (.builtin "Exception.__init__") (.ref e::rest)) Q E ⟨h,g,d,t,os⟩:=by
 have F:=PySem.F.excBase_Exception;obtain⟨nm,q,bs,hdct,sn,sub,ab,col,dd,k0,k1,k2,k3,k5,hcl⟩:=kx.cls;have hC:=kin _ _ hcl;refine wpAny_call (codeAny_call_builtin F.init.plain F.initEntry (Aj hC he rfl ?_))
 wp_walk
 have hlt:=Heap.lt_size he;refine hq _ h.objs.size ?_ fun b o hb hbo=> ?_
 ·rw[Heap.get?_update_self _ (Heap.get?_push_of_some _ he) rfl];rfl
 ·rw[Heap.get?_update_other _ _ (Ne.symm hb)];exact Heap.get?_push_of_some _ hbo
end
section
variable {W:Wd}{X:FX}{F:Fz}{rho:bp}{sg:Sg}{s:Shared}
theorem bc.freeStepP(R:bc W X F rho sg s){L:Addr→Prop}(hL:∀b,L b→iw X F sg b){h':Heap}{tk:Nat}(hk:∀b o,¬L b→s.heap.get? b=some o→h'.get? b=some o):bc W X F rho sg {s with heap:=h',toks:=tk}:=
 R.keepF (.refl F) (fun a o e=>hk a o (fun z=>by rw[(hL a z).f]at e;exact Mine.ns e) (R.fz a o e)) (fun a ha=>(R.ds a ha).1) R.dk fun b o e hb=>hk b o (fun z=>hb.elim (hL b z).o fun⟨p,hp⟩=>by rw[(hL b z).k]at hp;exact Mine.ns hp) e
def uQ(oe:Obj):Prop:=oe.cls= .ref 71∧∃t,oe.data= .fields #[.ref t,.none,.none,.none,.bool false,.none]
structure JO(W:Wd)(X:FX)(F:Fz)(rho:bp)(sg:Sg)(ea:Addr)(mA:Str→Option Value)(s:Shared):Prop where
 R:bc W X F rho sg s
 fr:iw X F sg ea
 o:∃oe,s.heap.get? ea=some oe∧uQ oe
 i:s.heap.Inst ea 71 mA
 dx:∀o dx,s.heap.get? ea=some o→o.dict=some dx→iw X F sg dx
theorem JO.set(kx:KX W.K){ea:Addr}{mA:Str→Option Value}{ns:List Str}(x:JO W X F rho sg ea mA s)(hw:Within mA ns)(hsz:ns.length≤100){name:Str}{v:Value}{Q:Unit→Shared→Prop}{E:Value→Shared→Prop}(hfa:findIn W.K (.ref 71) name=some none)
  (hq:∀s' mA',JO W X F rho sg ea mA' s'→Within mA' (name::ns)→Q () s'):wpAny (model W.prog W.w) X.A (setAttr (.ref ea) name v) Q E s:=by
 refine el12 x.o fun oe he ho=> ?_;refine KZ kx (h:=s.heap) (g:=s.gens) (d:=s.drawn) (os:=s.os) x.R.kin hfa x.i (fun h' tk' I' hk hs=> ?_) hw hsz;obtain⟨o',he',hc,hd,hx⟩:=hs _ he;refine hq {s with heap:=h',toks:=tk'} _ ⟨x.R.freeStepP (L:=fun b=>b=ea∨∃o dx,s.heap.get? ea=some o∧o.dict=some dx∧b=dx) (fun b hb=> ?_) (fun b o hb e=>hk b o (fun z=>hb (.inl z)) (fun o₀ dx e1 e2 z=>hb (.inr ⟨o₀,dx,e1,e2,z⟩)) e),x.fr,⟨o',he',hc.trans ho.1,ho.2.imp fun O e=>hd.trans e⟩,I',fun o dx e1 e2=> ?_⟩ (PySem.Within.cons _ _ hw)
 ·rcases hb with z|⟨o,dx,e1,e2,z⟩
  ·exact z▸x.fr
  ·exact z▸x.dx o dx e1 e2
 ·rw[he']at e1;exact(hx dx (Option.some.inj e1▸e2)).elim (x.dx _ dx he) x.R.fresh
theorem FB(kx:KX W.K){ea:Addr}{mA:Str→Option Value}{ns:List Str}(x:JO W X F rho sg ea mA s)(hw:Within mA ns)(hsz:ns.length≤100){name y z:Str}{p1 p2 p3 p4:Pos}{i j:Nat}{c:CV}{sts:List Stmt}{Q:Flow→Shared→Prop}{E:Value→Shared→Prop}(hfa:findIn W.K (.ref 71) name=some none)
  (hy:X.names[i]? =some y) (hz:X.names[j]? =some z) (hi:rho[i]? =some (some (.ref ea))) (hj:rho[j]? =some (some c)) (hs:swapsWith (.Name z p3) (some (.Attribute (.Name y p1) name p2)) p4.line X.env=pure false)
  (hq:∀s' mA',JO W X F rho sg ea mA' s'→Within mA' (name::ns)→wpAny (model W.prog W.w) X.A (execs sts X.env) Q E s'):wpAny (model W.prog W.w) X.A (execs (.Assign [.Attribute (.Name y p1) name p2] (.Name z p3) p4::sts) X.env) Q E s:=
 wpAny_execs_cons (plainObj_wpAny_Assign_Attribute (wL hz x.R hj fun v O=>wL hy x.R hi fun u r=>by
  refine(show u= .ref ea from r.inv)▸?_
  exact x.set kx hw hsz hfa hq) hs)
theorem CP(kx:KX W.K){ea t0:Addr}{m:Str}{Q:Flow→Shared→Prop}{E:Value→Shared→Prop}(hn:X.names=[Str.ofString "self",Str.ofString "what",Str.ofString "at"])(hg:X.globs=[Str.ofString "Exception"])
  (R:bc W X F [some (.ref ea),some (.str m),some (.int (-1))] sg s) (he:s.heap.get? ea=some {cls:= .ref 71,data:= .fields #[.ref t0,.none,.none,.none,.bool false,.none]}) (hfr:iw X F sg ea)
  (hQ:∀s' oe',bc W X F [some (.ref ea),some (.str m),some (.int (-1))] sg s'→s'.heap.get? ea=some oe'→uQ oe'→Q .next s'):
  wpAny (model W.prog W.w) X.A (execs gQ X.env) Q E s:=by
 have hty:typeOf (.type "Exception")=pure (.type "type"):=by kernel_rfl
 have hst:Manifest.isStub "Exception"=false:=by decide+kernel
 have h0:X.names[0]? =some (Str.ofString "self"):=by rw[hn];rfl
 have h1:X.names[1]? =some (Str.ofString "what"):=by rw[hn];rfl
 have h2:X.names[2]? =some (Str.ofString "at"):=by rw[hn];rfl
 refine wpAny_execs_cons (wpAny_Expr_any (MethodCall_ (gE 0 hg rfl kx.bExc (by rfl) (by decide) R ?_) rfl) (aC X) rfl)
 refine GP (T:="Exception") (name:="__init__") (id:="Exception.__init__") R.kin hty hst (by rfl) rfl ?_
 have R1:=R.tok (tk:=s.toks+1);refine callWith_builtin1 (args_cons (wL h0 R1 rfl fun v r=>args_cons (wL h1 R1 rfl fun u r'=>args_nil ?_) (by rfl)) (by rfl)) rfl rfl
 refine(show v= .ref ea from r.inv)▸?_
 refine H8 kx (h:=s.heap) R.kin he (fun h' t' he4 hk4=> ?_) (by show 1≤sizeLine;rw[sizeLine_eq];decide)
 refine FB kx (mA:=fun O=>none) (ns:=[]) ⟨R.freeStep (tk:=s.toks+1) hfr hk4,hfr,⟨_,he4,rfl,t',rfl⟩,⟨_,he4,rfl,fun c q=>Data.noConfusion q,.inl ⟨rfl,fun O=>rfl⟩⟩,fun o dx e1 e2=> ?_⟩ Within.nil (by decide) kx.tk1 h0 h1 rfl rfl (by rfl) fun s1 m1 x1 w1=> ?_
 ·rw[he4]at e1;rw[←Option.some.inj e1]at e2;exact ns e2
 refine FB kx x1 w1 (by decide) kx.tk2 h0 h2 rfl rfl (by rfl) fun s2 m2 x2 w2=> ?_
 refine el12 x2.o fun oe e ho=> ?_;exact wpAny_execs_nil (hQ s2 oe x2.R e ho)
theorem CQ(kx:KX W.K){A:Around}{kept:Fz}{ea t0:Addr}{m:Str}{tm:Tok}{K E:Value→Shared→Prop}(hh:A.handled=none)(hd:A.depth+3≤900)(hu:A.units+30≤9000)(C:kO W kept F sg s)
  (he:s.heap.get? ea=some {cls:= .ref 71,data:= .fields #[.ref t0,.none,.none,.none,.bool false,.none]}) (aw:wO kept F sg ea)
  (hK:∀G s' oe,F.le G→kO W kept G sg s'→s'.heap.get? ea=some oe→uQ oe→wO kept G sg ea→K .none s'):codeAny (model W.prog W.w) A (.call (.ref 36) ⟨[.ref ea,.str m tm],[]⟩) (B5 K E) s:=by
 refine dp fun C_ k_=> ?_;obtain⟨t,n,o,⟨name,qual,kV,doc,pm,an,cdv,ct,oc,od,osl,h1,h2⟩,h3,h4⟩:=kx.fn;have hbase:∀b o,W.base.get? b=some o→s.heap.get? b=some o:=fun b o e=>C.fz b o (C.bs b o e);refine k_ ?_;refine nh (n:=0) (F:=F) (sg:=sg) (vs':=[.ref ea,.str m tm,.int (-1) t]) (cs':=[.ref ea,.str m,.int (-1)]) [Str.ofString "self",Str.ofString "what",Str.ofString "at"] [] [Str.ofString "Exception"] h1 h2 (by decide+kernel) hh (by exact Nat.succ_le_of_lt hd) (by exact Nat.succ_le_of_lt hu) C
  (BindsTo.of_defaults rfl (W.kin.keeps hbase _ _ h3) h4 rfl rfl) (.cons (.ref _) (.cons (.str _ _) (.cons (.int _ _) .nil))) rfl fun Xf s1 e1 e2 e3 e4 e5 ek eA ef keep hown hcw O R=> ?_
 have hfr:iw Xf F sg ea:=⟨aw.1,ek▸aw.2.1,fun hm=>by
  rcases List.mem_append.mp hm with h|h
  ·exact hown _ _ he h
  ·exact aw.2.2 h⟩
 refine CP kx e1 e2 R (keep _ _ he) hfr fun s' oe' R' he' ho'=> ?_;have CR:=R'.leave;rw[ek]at CR;exact hK F s' oe' (.refl F) CR he' ho' ⟨hfr.f,by rw[←ek];exact hfr.k,fun hm=>hfr.o (List.mem_append_right _ hm)⟩
theorem BW(kx:KX W.K){A:Around}{env:Env}{E:Value→Shared→Prop}{x:Sem Value}{Q:Flow→Shared→Prop}(hh:A.handled=none)
  (h:wpAny (model W.prog W.w) A x (fun v s₁=>∃e oe,v= .ref e∧W.K.In s₁.heap∧s₁.heap.get? e=some oe∧uQ oe∧E (.ref e) s₁) E s):
  wpAny (model W.prog W.w) A (raiseStmt env (some x) none) Q E s:=by
 have hcB:=BV "BaseException" PySem.F.excBase_Exception.hasBase;refine wpAny_bind (wpAny_mono h (fun v s₁ h₁=> ?_) fun O O x=>x);refine dp fun C_ k_=> ?_;obtain⟨e,oe,rfl,kin,he,⟨hcls,t0,hdat⟩,hE⟩:=h₁;obtain⟨nm,q,bs,hdct,sn,sub,ab,col,dd,k0,k1,k2,k3,k5,hcl⟩:=kx.cls;have hC:=kin _ _ hcl;obtain⟨hp,g,d,tk,os⟩:=s₁;obtain⟨oc,odi,oda,osl⟩:=oe;refine k_ ?_;dsimp only at hcls hdat;subst hcls hdat
 repeat (first|with_reducible refine wpAny_loadPart_at he ?_|with_reducible refine wpAny_loadPart_at hC ?_|(with_reducible refine wpAny_isSubtype_exc hC ?_;rw[hcB])|wp_step)
 exact wpAny_raiseNew_none hh hE
end
section
variable {W:Wd}{X:FX}{F:Fz}{rho:bp}{sg:Sg}{s s':Shared}
theorem zL(R:bc W X F rho sg s){G:Fz}{sg':Sg}(C:kO W (X.keptAll s) G sg' s'):X.keptAll s'=X.keptAll s:=by
 funext a
 by_cases h:a∈X.own
 ·rw[bX h,bX h];obtain⟨o,e⟩:=R.th a h;rw[e];exact C.kp a o (by rw[bX h];exact e)
 ·rw[bu h,bu h]
theorem JF(kx:KX W.K)(hn:2≤X.n){m:Str}{tm:Tok}{l:List Env}{Q:Value→Shared→Prop}{E:Value→Shared→Prop}(R:bc W X F rho sg s)(hf:X.env.frame=some X.env.locals)(fr:qB X.kept l)
  (hQ:∀G ea s' oe,F.le G→bc W X G rho sg s'→s'.heap.get? ea=some oe→uQ oe→B9 W (X.keptAll s') G sg (X.env::l) 71 ea s'→Q (.ref ea) s'):wpAny (model W.prog W.w) X.A (call (.ref 71) [.str m tm]) Q E s:=by
 obtain⟨h,g,d,t,os⟩:=s;refine mC (BU X.A 71 [.str m tm]) fun u1 u2 u3=> ?_;have hd1:=X.hd;have hu1:=X.hu;refine JC kx R.kin (fun h' e hm=> ?_) (by simp[sizeLine_eq])
 refine el13 hm.there fun t0 he hnt htt=> ?_;have R1:bc W X F rho sg ⟨h',g,d,t,os⟩:=R.grow hm.keeps;have fre:=R.fresh hm.new;have hke:X.keptAll ⟨h',g,d,t,os⟩ e=none:=by
  rw[bu fun hm=>fre.o (List.mem_append_left _ hm)];exact fre.k
 refine wpAny_call (codeAny_mono (CQ kx (K:=fun r s'=>r= .none∧Q (.ref e) s') (E:=E) (by rw[u3];exact X.hh) (by rw[u1];exact Nat.le_trans (Nat.add_le_add_left (by decide:4≤3*2) _) (GQ hn hd1)) (Nat.le_trans (Nat.add_le_add_right u2 _) (Nat.le_trans (Nat.le_of_eq (Nat.add_assoc _ 30 30)) (GQ hn hu1))) R1.toC he ⟨fre.f,hke,fun hm=>fre.o (List.mem_append_right _ hm)⟩ fun G s' oe le CR he' ho' aw'=>⟨rfl,?_⟩) fun r s' h=>by
  rcases r with e|(_|_|_|v)<;>exact h)
 have R2:=R1.back le CR;have hk:=zL R1 CR;refine hQ G e s' oe le R2 he' ho' ?_;obtain⟨hcls,t1,hdat⟩:=ho';refine⟨CR.fz,fun a o q=>⟨fun O=>CR.kp a o (by rw[←hk];exact q),o.slots,CR.kp a o (by rw[←hk];exact q)⟩,CR.bs,CR.mo,CR.nd,fun a ha=>⟨(CR.ds a ha).1,by rw[hk];exact(CR.ds a ha).2⟩,fun a o q=>CR.dk a o (by rw[←hk];exact q),CR.gens,CR.os,vQ R2 hf fr,?_⟩
 exact⟨oe,_,.ref t1,he',hcls,hdat,rfl,⟨aw'.1,by rw[hk];exact aw'.2.1,aw'.2.2⟩,.inl rfl⟩
theorem HT(kx:KX W.K)(hn:2≤X.n){gs:List Str}(j:Nat)(hgs:X.globs=gs)(hj:gs[j]? =some (Str.ofString "DeskFault")){m:Str}{k:Nat}{np cp cpos pos:Pos}:
  ET W X 71 (.Raise (some (.Call (.Name (Str.ofString "DeskFault") np) [.Constant (.str m) k cp] [] cpos)) none pos) (fun rho sg Z=>Z rho sg):=fun rho sg Z hz F s K E l hfr fr hf R hE=>by
 rw[arm_exec_Raise];refine wpAny_bind (wpAny_standAt (BW kx X.hh ?_));refine wpAny_bind ?_;refine Call_ (fe j hgs hj kx.glob R ?_);have ha:lC W X cpos [.Constant (.str m) k cp] (ah (aK (.str m)) aq):=ae (by rfl) aI af
 refine callWith_K (h₀:=W.base) W.kin kx.keep (ha.go (Q:=fun cs sg1=>cs=[.str m]∧sg1=sg) (by exact⟨rfl,rfl⟩) R fun G vs cs sg1 s1 le1 R1 r1 h1=>⟨R1.kin,?_⟩) (by rfl) (by rfl)
 obtain⟨rfl,rfl⟩:=h1;refine r1.onCons fun v r v1 r1=> ?_;refine r1.onNil ?_;apply v1.onStr;intro tm;refine JF kx hn R1 hf fr fun G2 ea s2 oe le2 R2 he ho x=> ?_;refine wpAny_bind (wpAny_standAt (wpAny_pure ⟨ea,oe,rfl,R2.kin,he,ho,?_⟩));exact hE G2 G2 rho sg1 s2 ea s2 (le1.trans le2) (.refl _) R2 x hz
end
def Il(L:List Addr)(k k':Fz):Prop:=(∀a,k a=none→k' a=none)∧∀a o,k a=some o→∃sl,k' a=some {o with slots:=sl}∧(a∉L→k' a=some o)
theorem Il.refl(L:List Addr)(k:Fz):Il L k k:=⟨fun O e=>e,fun a o e=>⟨o.slots,e,fun O=>e⟩⟩
noncomputable def FX.re(X:FX)(k:Fz)(h:∀a o,X.kept a=some o→∃o',k a=some o'):FX:={X with kept:=k,hce:=fun x c e=>⟨(X.hce x c e).1,(X.hce x c e).2.imp_right fun⟨o,q⟩=>h c o q⟩}
open Classical in
noncomputable def sY(k:Fz)(h:Heap):Fz:=fun a=>match k a with
 |none=>none
 |some _=>h.get? a
section
variable {W:Wd}{X:FX}{F:Fz}{rho:bp}{sg sg':Sg}{s s':Shared}
theorem uy.toRel{C ea:Addr}{fl:Value}{G:Fz}{l:List Env}(R:bc W X F rho sg s)(hf:X.env.frame=some X.env.locals)(fr:qB X.kept l)(hcw:∀y c,X.env.cells.lookup y=some c→c∈X.own)(le:F.le G)(x:uy W (X.keptAll s) G sg (X.env::l) C ea fl s'):
  ∃k h,Il (d0 l) X.kept k∧bc W (X.re k h) G rho sg s':=by
 have kk:∀a o,X.kept a=some o→X.keptAll s a=some o:=fun a o e=>by rw[bu (R.kept_not_own e)];exact e
 have hlo:∀a o,X.kept a=some o→a∉d0 l→a∉d0 (X.env::l):=fun a o e hn hm=>by
  unfold d0 at hm hn;rw[List.filterMap_cons,hf]at hm;rcases List.mem_cons.mp hm with rfl|hm
  ·exact R.kept_not_own e X.hL
  ·exact hn hm
 have hk:∀a o,X.kept a=some o→∃o',sY X.kept s'.heap a=some o':=fun a o e=>by
  obtain⟨sl,e1⟩:=(x.kp a o (kk a o e)).2;exact⟨_,by unfold sY;rw[e];exact e1⟩
 have hU:Il (d0 l) X.kept (sY X.kept s'.heap):=⟨fun a e=>by unfold sY;rw[e],fun a o e=>by
  obtain⟨h1,sl,h2⟩:=x.kp a o (kk a o e);exact⟨sl,by unfold sY;rw[e];exact h2,fun hn=>by unfold sY;rw[e];exact h1 (hlo a o e hn)⟩⟩
 have hcell:∀y c,X.env.cells.lookup y=some c→∀o,s.heap.get? c=some o→s'.heap.get? c=some o:=fun y c hc o e=>by
  have hco:=hcw y c hc;refine(x.kp c o (by rw[bX hco];exact e)).1 fun hm=> ?_
  unfold d0 at hm;rw[List.filterMap_cons,hf]at hm;rcases List.mem_cons.mp hm with h|hm
  ·exact(X.hce y c hc).1 h
  ·obtain⟨o',e',_⟩:=fr.loc hm;exact R.kept_not_own e' hco
 have hns:∀m,s.heap.Ns X.env.locals m→s'.heap.Ns X.env.locals m:=fun m ⟨o,es,ep,ho,hd,r⟩=>by
  obtain⟨sl,e⟩:=(x.kp X.env.locals o (by rw[bX X.hL];exact ho)).2
  exact⟨_,es,ep,e,hd,r⟩
 refine⟨sY X.kept s'.heap,hk,hU,?_⟩;exact {
  fz:=x.fz
  kp:=fun a o e=>by
   have e:sY X.kept s'.heap a=some o:=e;unfold sY at e;cases q:X.kept a with
   |none=>rw[q]at e;exact ns e
   |some o'=>rw[q]at e;exact e
  bs:=x.bs
  va:=fun i y c hx hc=>by
   refine el12 (R.va i y c hx hc) fun v hv r=> ?_;refine⟨v,?_,r.mono le⟩;rcases hv with⟨hk,m,hn,hv⟩|⟨hk,c',hc',o,ho,hd⟩
   ·exact .inl ⟨hk,m,hns m hn,hv⟩
   ·exact .inr ⟨hk,c',hc',o,hcell y c' hc' o ho,hd⟩
  ns:=let⟨m,hn⟩:=R.ns;⟨m,hns m hn⟩
  ce:=fun y c hc=>let⟨v,o,e,r⟩:=R.ce y c hc;⟨v,o,hcell y c hc o e,r⟩
  mo:=x.mo
  nd:=R.nd
  th:=fun a ha=>by
   refine dp fun C_ k_=> ?_;obtain⟨o,e⟩:=R.th a ha;obtain⟨sl,e1⟩:=(x.kp a o (by rw[bX (X:=X) (show a∈X.own from ha)];exact e)).2
   refine k_ ?_;exact⟨_,e1⟩
  ds:=fun a ha=>by
   have hkn:sY X.kept s'.heap a=none:=by unfold sY;rw[(R.ds a ha).2]
   refine⟨?_,hkn⟩;rcases List.mem_append.mp ha with h|h
   ·obtain⟨o,e⟩:=R.th a h;exact x.dk a o (by rw[bX (X:=X) (show a∈X.own from h)];exact e)
   ·exact(x.ds a h).1
  dk:=fun a o e=>by
   have e:sY X.kept s'.heap a=some o:=e;unfold sY at e;cases q:X.kept a with
   |none=>rw[q]at e;exact ns e
   |some o'=>exact x.dk a o' (kk a o' q)
  gens:=x.gens
  os:=x.os}
theorem JE(kx:KX W.K){A:Around}{E:Value→Shared→Prop}{ea:Addr}{oe:Obj}{Q:Bool→Shared→Prop}(kin:W.K.In s.heap)(he:s.heap.get? ea=some oe)(hcls:oe.cls= .ref 71)(hq:Q true s):wpAny (model W.prog W.w) A (excMatches (.ref ea) (.ref 71)) Q E s:=by
 refine dp fun C_ k_=> ?_;obtain⟨nm,q,bs,hdct,sn,sub,ab,col,dd,k0,k1,k2,k3,k5,hcl⟩:=kx.cls;obtain⟨h,g,d,t,os⟩:=s;refine k_ ?_;exact wpAny_excMatches_sub_self (kin _ _ hcl) he hcls (by rfl) hq
def J_(W:Wd)(X:FX)(t:Sem Flow)(rho:bp)(sg:Sg)(Q:Fl→bp→Sg→Prop):Prop:=
 ∀F s (K:Flow→Shared→Prop) (E:Value→Shared→Prop) (l:List Env),X.A.frames=some (X.env::l)→qB X.kept l→X.env.frame=some X.env.locals→(∀y c,X.env.cells.lookup y=some c→c∈X.own)→bc W X F rho sg s→
  (∀k h G f g rho' sg' s',Il (d0 l) X.kept k→F.le G→bc W (X.re k h) G rho' sg' s'→BZ W G f g→Q g rho' sg'→K f s')→wpAny (model W.prog W.w) X.A t K E s
def JX(W:Wd)(X:FX)(st:Stmt)(p:PS):Prop:=∀rho sg Q,p rho sg Q→J_ W X (exec st X.env) rho sg Q
def tq(W:Wd)(X:FX)(sts:List Stmt)(p:PS):Prop:=∀rho sg Q,p rho sg Q→J_ W X (execs sts X.env) rho sg Q
theorem DN{st:Stmt}{rest:List Stmt}{p q:PS}(h1:r_ W X st p)(h2:tq W X rest q):tq W X (st::rest) (aj p q):=fun rho sg Q hp F s K E l hfr fr hf hcw R hK=>
 wpAny_execs_cons (h1.go hp R fun G f g rho1 sg1 s1 le1 R1 hf' hg=>by
  have fin:∀g,BZ W G f g→Q g rho1 sg1→K f s1:=fun g a b=>hK X.kept (fun a o e=>⟨o,e⟩) G f g rho1 sg1 s1 (Il.refl _ _) le1 R1 a b;cases g with
  |next=>
   rw[show f= .next from hf']
   exact h2 _ _ _ hg G s1 K E l hfr fr hf hcw R1 fun k h G2 f g rho' sg' s' hU le2 R2 a b=>hK k h G2 f g rho' sg' s' hU (le1.trans le2) R2 a b
  |brk=>obtain rfl:f= .brk:=hf';exact fin .brk rfl hg
  |cont=>obtain rfl:f= .cont:=hf';exact fin .cont rfl hg
  |ret c=>obtain⟨v,rfl,r⟩:=hf';exact fin (.ret c) ⟨v,rfl,r⟩ hg)
theorem JA{st:Stmt}{rest:List Stmt}{p q:PS}(h1:JX W X st p)(h2:∀k h,ix W (X.re k h) rest q):tq W X (st::rest) (aj p q):=fun rho sg Q hp F s K E l hfr fr hf hcw R hK=>
 wpAny_execs_cons (h1 _ _ _ hp F s _ E l hfr fr hf hcw R fun k h G f g rho1 sg1 s1 hU le1 R1 hf' hg=>by
  cases g with
  |next=>
   rw[show f= .next from hf']
   exact(h2 k h).go (E:=E) hg R1 fun G2 f g rho' sg' s' le2 R2 a b=>hK k h G2 f g rho' sg' s' hU (le1.trans le2) R2 a b
  |brk=>rw[show f= .brk from hf'];exact hK k h G .brk .brk rho1 sg1 s1 hU le1 R1 rfl hg
  |cont=>rw[show f= .cont from hf'];exact hK k h G .cont .cont rho1 sg1 s1 hU le1 R1 rfl hg
  |ret c=>obtain⟨v,rfl,r⟩:=hf';exact hK k h G (.ret v) (.ret c) rho1 sg1 s1 hU le1 R1 ⟨v,rfl,r⟩ hg)
def KR(i:Nat)(pb:PS)(q:PR):PS:=fun rho sg Q=>pb rho sg Q∨q rho sg fun rho' sg'=>Q .next (rho'.set i (some .none)) sg'
theorem KU(kx:KX W.K){gs ns:List Str}{m:Nat}{body:List Stmt}{pb:PS}{q:PR}{x:Str}{np cp xp ap hp' pos:Pos}{kc:Nat}(i j:Nat)(hgs:X.globs=gs)(hj:gs[j]? =some (Str.ofString "DeskFault"))(hns:X.names=ns)(hm:X.m=m)(hx:ns[i]? =some x)(hi:i<m)
  (hb:ix W X body pb) (hr:oX W X 71 body q):
  JX W X (.Try body [.ExceptHandler (some (.Name (Str.ofString "DeskFault") np)) none [.Assign [.Name x xp] (.Constant .none kc cp) ap] hp'] [] [] pos) (KR i pb q):=fun rho sg Q hp F s K E l hfr fr hf hcw R hK=>by
 refine wpAny_Try_except ?_;rcases hp with hp|hp
 ·refine hb.go hp R fun G f g rho' sg' s' le R' a b=> ?_;have fin:=hK X.kept (fun a o e=>⟨o,e⟩) G f g rho' sg' s' (Il.refl _ _) le R' a b;cases g with
  |next=>obtain rfl:f= .next:=a;exact wpAny_execs_nil fin
  |brk=>obtain rfl:f= .brk:=a;exact fin
  |cont=>obtain rfl:f= .cont:=a;exact fin
  |ret c=>obtain⟨v,rfl,r⟩:=a;exact fin
 ·refine hr _ _ _ hp F s _ _ l hfr fr hf R fun G G' rho' sg' s0 ea s1 le le2 R1 x1 hz=> ?_;refine x1.note hfr hf fun h2 x2=> ?_;refine x2.flight fun h3 x3=> ?_;have kin3:W.K.In h3:=W.kin.keeps fun b o e=>x3.fz b o (x3.bs b o e);refine wpAny_handleBy_cons (codeAny_handlers_test ?_) (by intro q;cases q)
  refine dp fun C_ k_=> ?_;obtain⟨k,hk,hU,R3⟩:=x3.toRel R1 hf fr hcw le2;refine k_ ?_;refine fe (X:=X.re k hk) j hgs hj kx.glob R3 ?_;obtain⟨oe,vs,a0,he,hc,-⟩:=x3.ex;refine JE kx (s:={s1 with heap:=h3}) kin3 he hc ?_;refine codeAny_handlers_suite ?_;refine x3.flight fun h4 x4=> ?_;refine dp fun C_ k_=> ?_;obtain⟨k4,hk4,hU4,R4⟩:=x4.toRel R1 hf fr hcw le2;refine k_ ?_;refine wpAny_execs_cons (wpAny_Assign_Name ?_ (by rfl))
  rw[eval_Constant];refine wpAny_pure ?_;refine jx (X:=X.re k4 hk4) i hns hm hx hi R4 .none fun s5 R5=> ?_;refine wpAny_execs_nil ?_;exact hK k4 hk4 G' .next .next _ _ s5 hU4 (le.trans le2) R5 rfl hz
structure xC(W:Wd)(L:List Addr)(kept F:Fz)(sg:Sg)(s:Shared):Prop where
 fz:∀a o,F a=some o→s.heap.get? a=some o
 kp:∀a o,kept a=some o→(a∉L→s.heap.get? a=some o)∧∃sl,s.heap.get? a=some {o with slots:=sl}
 bs:∀a o,W.base.get? a=some o→F a=some o
 mo:∀p∈sg,p.2.Is W F s.heap p.1
 nd:(adrs sg).Nodup
 ds:∀a,a∈adrs sg→F a=none∧kept a=none
 dk:∀a o,kept a=some o→F a=none
 gens:s.gens= #[]
 os:s.os=W.os
def Ap(W:Wd)(n:Nat)(f:Value)(sp:ao):Prop:=
 ∀(A:Around) (kept F:Fz) (vs:List Value) (cs:List CV) (sg:Sg) (s:Shared) (Q:CV→Sg→Prop) (K E:Value→Shared→Prop) (l:List Env),A.handled=none→A.depth+3*n≤900→A.units+30*n≤9000→A.frames=some l→qB kept l→
  kO W kept F sg s→b6 W F vs cs→sp cs sg Q→(∀G v c sg' s',F.le G→xC W (d0 l) kept G sg' s'→bC W G v c→Q c sg'→K v s')→
  codeAny (model W.prog W.w) A (.call f ⟨vs,[]⟩) (B5 K E) s
theorem bc.leaveU{L:List Addr}{k:Fz}{h}(R:bc W (X.re k h) F rho sg s)(hU:Il L X.kept k):xC W L X.kept F sg s where
 fz:=R.fz
 kp:=fun a o e=>by
  refine el12 (hU.2 a o e) fun sl h1 h2=> ?_;exact⟨fun hn=>R.kp a o (h2 hn),sl,R.kp a _ h1⟩
 bs:=R.bs
 mo:=R.mo
 nd:=(List.nodup_append.mp R.nd).2.1
 ds:=fun a ha=>by
  have h1:=R.ds a (List.mem_append_right _ ha);refine⟨h1.1,?_⟩;cases e:X.kept a with
  |none=>rfl
  |some o=>
   refine el12 (hU.2 a o e) fun sl h2 O=> ?_;have:k a=none:=h1.2;rw[h2]at this;exact sn this
 dk:=fun a o e=>by
  refine el12 (hU.2 a o e) fun sl h2 O=> ?_;exact R.dk a _ h2
 gens:=R.gens
 os:=R.os
theorem xC.sub{L:List Addr}{kept:Fz}(R:xC W L kept F sg s)(h:sg'.Sublist sg):xC W L kept F sg' s:=
 {R with mo:=fun p hp=>R.mo p (h.subset hp),nd:=R.nd.sublist (m6 h),ds:=fun a ha=>R.ds a ((m6 h).subset ha)}
theorem I5{n:Nat}{fa:Addr}{sp:ao}{name qual:Str}{params:Arguments}{body:List Stmt}{scope:Scope}{dV kV doc pm cdv ct oc:Value}{an od:Option Addr}{osl:Array (Option Value)}{p:PS}
  (ps more globs:List Str) (hK:W.K.lookup fa=some ⟨oc,od,.func (fnOf name qual params body scope dV kV doc pm an cdv ct),osl⟩) (hcd:codeIn W.K cdv qual=true) (hchk:qV scope (ps++more) globs=true)
  (hb:∀(s:Shared) (vs:List Value),vs.length=ps.length→BindsTo s (fnOf name qual params body scope dV kV doc pm an cdv ct) ⟨vs,[]⟩ (ps.zip vs))
  (him:∀X:FX,X.names=ps++more→X.globs=globs→X.env.scope=scope→X.n=n→X.m=(ps++more).length→tq W X body p)
  (hsp:∀(cs:List CV) (sg:Sg) (Q:CV→Sg→Prop),sp cs sg Q→cs.length=ps.length∧p (cs.map some++more.map fun O=>none) sg (jn Q)):Ap W (n+1) (.ref fa) sp:=by
 intro A kept F vs cs sg s Q K E l hh hd hu hfr fr C hv hq hK';obtain⟨hlen,hp⟩:=hsp cs sg Q hq;refine nh ps more globs hK hcd hchk hh hd hu C (hb s vs (hv.length.trans hlen)) hv hlen fun Xf s1 e1 e2 e3 e4 e5 ek eA ef keep hown hcw O R=> ?_;refine him Xf e1 e2 e3 e4 e5 _ _ _ hp F s1 _ _ l (by rw[eA];exact Around.frames_deeper hfr) (by rw[ek];exact fr) ef hcw R fun k h G f g rho' sg' s2 hU le R2 hf hg=> ?_
 have CU:=R2.leaveU hU;rw[ek]at CU;have done:∀v c,bC W G v c→B6 Q c sg'→B5 K E (.ok (.ret v)) s2:=fun v c r ⟨sg2,hsub,hq⟩=>hK' G v c sg2 s2 le (CU.sub hsub) r hq;cases g with
 |next=>rw[show f= .next from hf];exact done _ _ .none hg
 |brk=>exact hg.elim
 |cont=>exact hg.elim
 |ret c=>obtain⟨v,rfl,r⟩:=hf;exact done v c r hg
theorem bc.backU(R:bc W X F rho sg s)(hf:X.env.frame=some X.env.locals)(hcw:∀y c,X.env.cells.lookup y=some c→c∈X.own){G:Fz}(le:F.le G)(C:xC W (d0 [X.env]) (X.keptAll s) G sg' s'):bc W X G rho sg' s':=by
 have hL:∀a,a≠X.env.locals→a∉d0 [X.env]:=fun a hn hm=>by
  unfold d0 at hm;rw[List.filterMap_cons,hf,List.filterMap_nil]at hm;exact hn (List.mem_singleton.mp hm)
 have hcell:∀y c,X.env.cells.lookup y=some c→∀o,s.heap.get? c=some o→s'.heap.get? c=some o:=fun y c hc o e=>
  (C.kp c o (by rw[bX (hcw y c hc)];exact e)).1 (hL c (X.hce y c hc).1)
 have hns:∀m,s.heap.Ns X.env.locals m→s'.heap.Ns X.env.locals m:=fun m ⟨o,es,ep,ho,hd,r⟩=>by
  obtain⟨sl,e⟩:=(C.kp X.env.locals o (by rw[bX X.hL];exact ho)).2
  exact⟨_,es,ep,e,hd,r⟩
 have some_:∀a∈X.own,∃o,X.keptAll s a=some o:=fun a ha=>by rw[bX ha];exact R.th a ha
 exact {
  fz:=C.fz
  kp:=fun a o e=>(C.kp a o (by rw[bu (R.kept_not_own e)];exact e)).1 (hL a fun q=>R.kept_not_own e (q▸X.hL))
  bs:=C.bs
  va:=fun i y c hx hc=>by
   refine el12 (R.va i y c hx hc) fun v hv r=> ?_;refine⟨v,?_,r.mono le⟩;rcases hv with⟨hk,m,hn,hv⟩|⟨hk,c',hc',o,ho,hd⟩
   ·exact .inl ⟨hk,m,hns m hn,hv⟩
   ·exact .inr ⟨hk,c',hc',o,hcell y c' hc' o ho,hd⟩
  ns:=let⟨m,hn⟩:=R.ns;⟨m,hns m hn⟩
  ce:=fun y c hc=>let⟨v,o,e,r⟩:=R.ce y c hc;⟨v,o,hcell y c hc o e,r⟩
  mo:=C.mo
  nd:=by
   rw[List.nodup_append];refine⟨(List.nodup_append.mp R.nd).1,C.nd,fun a ha b hb e=> ?_⟩;subst e;obtain⟨o,q⟩:=some_ a ha;have:=(C.ds a hb).2;rw[q]at this;exact sn this
  th:=fun a ha=>by
   refine dp fun C_ k_=> ?_;obtain⟨o,q⟩:=some_ a ha;obtain⟨sl,e⟩:=(C.kp a o q).2;refine k_ ?_;exact⟨_,e⟩
  ds:=fun a ha=>by
   rcases List.mem_append.mp ha with h|h
   ·obtain⟨o,q⟩:=some_ a h;exact⟨C.dk a o q,(R.ds a (List.mem_append_left _ h)).2⟩
   ·refine⟨(C.ds a h).1,?_⟩;cases e:X.kept a with
    |none=>rfl
    |some o=>
     have:=(C.ds a h).2;rw[bu (R.kept_not_own e),e]at this;exact sn this
  dk:=fun a o e=>C.dk a o (by rw[bu (R.kept_not_own e)];exact e)
  gens:=C.gens
  os:=C.os}
theorem FP{gs:List Str}{x:Str}{pos np:Pos}{e:Expr}{es:List Expr}{ps:t5}{f:Value}{sp:ao}{n:Nat}(j:Nat)(hfr:X.A.frames=some [X.env])(hf:X.env.frame=some X.env.locals)(hcw:∀y c,X.env.cells.lookup y=some c→c∈X.own)
  (hgs:X.globs=gs) (hj:gs[j]? =some x) (hv:nsIn W.K mainGlobals x=some (some f)) (hkp:keepIn W.K f=true) (ok:Ap W n f sp) (hn:n≤X.n)
  (he:starEach (e::es) X.env=(false,eval e X.env)::starEach es X.env) (hpl:(backTo pos (starEach es X.env)).any (·.1)=false) (ha:lC W X pos (e::es) ps):
  cQ W X (.Call (.Name x np) (e::es) [] pos) (aA sp ps):= .of fun rho sg Q E hp F s K R hK=>by
 refine Call_ (fe j hgs hj hv R ?_);refine callWith_K (h₀:=W.base) W.kin hkp (ha.go hp R fun G vs cs sg1 s1 le1 R1 r1 h'=>⟨R1.kin,?_⟩) he hpl;have h1:=X.hd;have h2:=X.hu;exact wpAny_call (codeAny_mono (ok X.A (X.keptAll s1) G vs cs sg1 s1 Q K E [X.env] X.hh (by lia) (by lia) hfr (vQ R1 hf fun O h=>(by exact mn h)) R1.toC r1 h' fun G2 v c sg2 s2 le C r hq=>hK _ _ _ _ _ (le1.trans le) (R1.backU hf hcw le C) r hq) fun r s' h=>by
  rcases r with e|(_|_|_|v)<;>exact h)
theorem Jz{sts:List Stmt}{p:PS}(i:Nat)(h:tq W X sts p):tq W X sts (i9 i p):=fun rho sg Q ⟨a,m,sg1,hi,P,hm,hq⟩ F s K E l hfr fr hf hcw R hK=>by
 refine el13 (R.freeze P hm) fun G le R2 hv=> ?_;have va:∀(j:Nat) (x:Str) (c:CV),X.names[j]? =some x→(rho.set i (some m.tree))[j]? =some (some c)→∃v,tz X.env s.heap x v∧bC W G v c:=by
  intro j x c hx hc;rcases BN hc with⟨rfl,rfl⟩|⟨hne,hc⟩
  ·refine el12 (R2.va j x (.ref a) hx hi) fun v h1 h2=> ?_;cases h2;exact⟨_,h1,hv⟩
  ·exact R2.va j x c hx hc
 have R3:bc W X G (rho.set i (some m.tree)) sg1 s:={R2 with va:=va};exact h _ _ _ hq G s K E l hfr fr hf hcw R3 fun k h2 G2 f g rho' sg' s' hU le2 R' a b=>hK k h2 G2 f g rho' sg' s' hU (le.trans le2) R' a b
def Lw(pt:PB)(q q2:PR):PR:=fun rho sg Z=>pt rho sg fun b sg1=>(b=true→q rho sg1 Z)∧(b=false→q2 rho sg1 Z)
def xN(pre:List CV→Sg→Prop)(ps:t5):PR:=fun rho sg Z=>ps rho sg fun cs sg1=>pre cs sg1∧Z rho sg1
inductive JR(C:Addr)(name:Str)(Q:CV→Sg→Prop)(c:CV)(sg1:Sg):Prop
 |mk (a dx fs t m sg2 sg3 sg4):c= .ref a→fs.lookup name=some (.ref t)→oH t m sg1 sg2→m.solid=true→gv a (.obj C dx fs) (.obj C dx (qr name m.tree fs)) sg2 sg3→oH a (.obj C dx (qr name m.tree fs)) sg3 sg4→MO.solid (.obj C dx (qr name m.tree fs))=true→Q (.obj C (qr name m.tree fs)) sg4→JR C name Q c sg1
def Kp(C:Addr)(name:Str)(p:PE):PE:=fun rho sg Q=>p rho sg (JR C name Q)
theorem Hu{e:Expr}{p:PE}(C:Addr)(name:Str)(h:cQ W X e p):cQ W X e (Kp C name p):= .of fun rho sg Q E hp F s K R hK=>h.go hp R fun G v c sg1 s1 le1 R1 r1 h=>by
 obtain⟨a,dx,fs,t,m,sg2,sg3,sg4,hc,hl,P,hm,U,P2,hm2,hq⟩:=h;have r1:v= .ref a:=(hc▸r1:bC W G v (.ref a)).inv;obtain⟨G2,le,R2,hv⟩:=R1.freeze P hm;obtain⟨e1,es,n,e2,r⟩:=R2.mo _ U.sublistMem;have R3:bc W X G2 rho sg3 s1:=R2.updK (h':=s1.heap) (tk:=s1.toks) U rfl (d:=a) (.head _) (fun b o O e=>e) ⟨e1,es,n,e2,r.set hv hl⟩;obtain⟨G3,le3,R4,V4⟩:=R3.freeze P2 hm2;exact hK _ _ _ _ _ ((le1.trans le).trans le3) R4 (r1▸V4) hq
end
noncomputable def b0(is:List Nat):List CV:=bZ (is.map fun(i:Nat)=>(i:Int))
structure gj(b:CV)(dt:Array UInt8)(bs:CV)(T:Tb)(R:Hd)(d:dZ):Prop where
 eq:b=bO dt bs (qy T R)
 doc:iu T R d
 sm:∀s∈d.spots,s.l.length≤50
inductive lK(sg:Sg)(Q:CV→Sg→Prop):List CV→Prop
 |mk {b:CV} {c:CV} (dt bs T R d is):gj b dt bs T R d→c= .lst (b0 is)→is≠[]→is.length≤50→(∀i∈is,i<d.pages.length)→Q .none sg→lK sg Q [b,c]
def dP:ao:=fun cs sg Q=>lK sg Q cs
inductive AH:List CV→Prop
 |mk {b c:CV} (dt bs T R d is):gj b dt bs T R d→c= .lst (b0 is)→is.length≤50→(is=[]∨∃i∈is,d.pages.length≤i)→AH [b,c]
def ln(cs:List CV)(sg:Sg):Prop:=AH cs
inductive hV(sg:Sg)(Q:CV→Sg→Prop):List CV→Prop
 |mk {b:CV} {c:CV} (dt bs T R d is rt r v):gj b dt bs T R d→c= .lst (b0 is)→R.lookup rV=some (aG rt)→r∉d.nums→r≠rt→T.lookup r=some (cP (.sd v))→mS v→is≠[]→is.length≤50→(∀i∈is,i<d.pages.length)→(∀s∈d.pages,DW r (GU s))→(∀M,C8 M (is.map fun i=>GU (d.pages.getD i tY)) v→Q (bO dt .none (qy M [(rV,aG 1)])) sg)→hV sg Q [b,c]
def eU:ao:=fun cs sg Q=>hV sg Q cs
inductive iH(sg:Sg)(Q:CV→Sg→Prop):List CV→Prop
 |mk {b:CV} {i:Int} (dt bs T R d s T' rt c) (n:Nat):gj b dt bs T R d→i=n→An T→PV 4 (.sd R)→G9 T R d i s T'→R.lookup rV=some (aG rt)→T'.lookup rt=some (cP (.sd c))→c≠[]→Q (bO dt bs (qy T' R)) sg→iH sg Q [b,.int i]
def fM:ao:=fun cs sg Q=>iH sg Q cs
inductive AG:List CV→Prop
 |mk {b:CV} (dt bs T R d) (n:Nat):gj b dt bs T R d→d.pages.length≤n→AG [b,.int n]
def BE(cs:List CV)(sg:Sg):Prop:=AG cs
inductive hO(sg:Sg)(Q:CV→Sg→Prop):List CV→Prop
 |mk {b:CV} {i:Int} {j:Int} (dt bs T R d T' rt c) (n m:Nat):gj b dt bs T R d→i=n→j=m→An T→PV 4 (.sd R)→EW T R d i j T'→R.lookup rV=some (aG rt)→T'.lookup rt=some (cP (.sd c))→c≠[]→Q (bO dt bs (qy T' R)) sg→hO sg Q [b,.int i,.int j]
def eS:ao:=fun cs sg Q=>hO sg Q cs
inductive xF:List CV→Prop
 |mk {b:CV} (dt bs T R d) (n m:Nat):gj b dt bs T R d→(d.pages.length≤n∨d.pages.length≤m)→xF [b,.int n,.int m]
def ym(cs:List CV)(sg:Sg):Prop:=xF cs
section
noncomputable def kH:List Str:=[Str.ofString "bench",Str.ofString "indexes"]
noncomputable def kB:List Str:=[Str.ofString "count"]
noncomputable def kz:List Str:=[Str.ofString "len",Str.ofString "pages",Str.ofString "min",Str.ofString "max",Str.ofString "DeskFault"]
def uo:PS:=(aj (ew (yD (aX (bh eG (aA fK (ah (ak 1) aq)) (aK (.int 0)))) (yD (aX (bh Ab (aA DL (ah (ak 1) aq)) (aK (.int 0)))) (yD (aX (bh GE (aA GF (ah (ak 1) aq)) (ak 2))) Ah))) (aj m8
 am) am)
 am)
def yQ:PS:=(aj (cS 2 (aA fK (ah (aA iq (ah (fld 686 (Str.ofString "shelf") (ak 0)) aq)) aq)))
 uo)
theorem xe{W:Wd}(kf:KF W.K){N:Nat}(fB:ax W N (.ref 515) iq){sp:ao}(hsp:gh kH kB (yQ) sp):ax W (N+1) (.ref 704) sp:=by
 refine aO (ps:=kH) (more:=kB) (globs:=kz) (kf.f 50 rfl) rfl (by decide+kernel) (cF fun O O O O O O O O O O O=> .of_eq rfl) (fun X hn hg hsc hnn hm=> ?_) hsp
 refine ag (ar 2 hn hm rfl (bl rfl) rfl (bd 0 hg rfl (kf.n 32 rfl) rfl (by decide) (.inl ⟨_,rfl⟩) cg rfl rfl (ae rfl (au 1 hg rfl (kf.n 45 rfl) (kf.b 76 rfl) fB (bn hnn) rfl rfl (ae rfl (aB (kf.b 84 rfl) rfl (ad 0 hn rfl)) af)) af))) ?_
 refine ag (be (eg (aE rfl bt (bd 0 hg rfl (kf.n 32 rfl) rfl (by decide) (.inl ⟨_,rfl⟩) cg rfl rfl (ae rfl (ad 1 hn rfl) af)) av) (eg (aE rfl jU (bd 2 hg rfl (kf.n 33 rfl) rfl (by decide) (.inl ⟨_,rfl⟩) vD rfl rfl (ae rfl (ad 1 hn rfl) af)) av) (eg (aE rfl uN (bd 3 hg rfl (kf.n 48 rfl) rfl (by decide) (.inl ⟨_,rfl⟩) AW rfl rfl (ae rfl (ad 1 hn rfl) af)) (ad 2 hn rfl)) jW))) (by {refine ag fR ?_;exact ai}) ai) ?_
 exact ai
noncomputable def nR:List Str:=[Str.ofString "bench",Str.ofString "indexes"]
noncomputable def nB:List Str:=[]
noncomputable def nn:List Str:=[Str.ofString "need_pages",Str.ofString "Bench",Str.ofString "split_pages"]
def wT:PS:=(aj (cB (aA dP (ah (ak 0) (ah (ak 1) aq))))
 (aj (bQ (fv (aA jp (ah (fld 686 (Str.ofString "data") (ak 0)) (ah (aK .none) (ah (aA ju (ah (fld 686 (Str.ofString "shelf") (ak 0)) (ah (ak 1) aq))) aq))))))
 am))
theorem vM{W:Wd}(kf:KF W.K){N:Nat}(cL:ax W N (.ref 704) dP)(gF:ax W N (.ref 686) jp)(jl:ax W N (.ref 669) ju){sp:ao}(hsp:gh nR nB (wT) sp):ax W (N+1) (.ref 711) sp:=by
 refine aO (ps:=nR) (more:=nB) (globs:=nn) (kf.f 51 rfl) rfl (by decide+kernel) (cF fun O O O O O O O O O O O=> .of_eq rfl) (fun X hn hg hsc hnn hm=> ?_) hsp
 refine ag (bq (aC X) rfl (au 0 hg rfl (kf.n 49 rfl) (kf.b 85 rfl) cL (bn hnn) rfl rfl (ae rfl (ad 0 hn rfl) (ae rfl (ad 1 hn rfl) af)))) ?_;refine ag (aL (aT (au 1 hg rfl (kf.n 47 rfl) (kf.b 83 rfl) gF (bn hnn) rfl rfl (ae rfl (aB (kf.b 81 rfl) rfl (ad 0 hn rfl)) (ae rfl bE (ae rfl (au 2 hg rfl (kf.n 50 rfl) (kf.b 86 rfl) jl (bn hnn) rfl rfl (ae rfl (aB (kf.b 84 rfl) rfl (ad 0 hn rfl)) (ae rfl (ad 1 hn rfl) af))) af)))))) ?_;exact ai
noncomputable def pB:List Str:=[Str.ofString "bench",Str.ofString "index"]
noncomputable def ph:List Str:=[Str.ofString "shelf"]
noncomputable def o4:List Str:=[Str.ofString "need_pages",Str.ofString "shelf_copied",Str.ofString "remove_page",Str.ofString "bench_turned"]
def uk:PS:=(Ho 2 404 (Str.ofString "table") (i9 2 (aj (bQ (aA eu (ah (ak 0) (ah (ak 2) aq))))
 am)))
def ul:PS:=(aj (cB (aA eV (ah (ak 2) (ah (ak 1) aq))))
 uk)
def um:PS:=(aj (cS 2 (aA ev (ah (fld 686 (Str.ofString "shelf") (ak 0)) aq)))
 ul)
def yP:PS:=(aj (cB (aA dP (ah (ak 0) (ah (fv (cT (ah (ak 1) aq))) aq))))
 um)
theorem xd{W:Wd}(kf:KF W.K){N:Nat}(cL:ax W N (.ref 704) dP)(du:ax W N (.ref 413) ev)(dT:ax W N (.ref 586) eV)(dr:ax W N (.ref 697) eu){sp:ao}(hsp:gh pB ph (yP) sp):ax W (N+1) (.ref 718) sp:=by
 refine aO (ps:=pB) (more:=ph) (globs:=o4) (kf.f 52 rfl) rfl (by decide+kernel) (cF fun O O O O O O O O O O O=> .of_eq rfl) (fun X hn hg hsc hnn hm=> ?_) hsp
 refine ag (bq (aC X) rfl (au 0 hg rfl (kf.n 49 rfl) (kf.b 85 rfl) cL (bn hnn) rfl rfl (ae rfl (ad 0 hn rfl) (ae rfl (aT (bD (ae rfl (ad 1 hn rfl) af))) af)))) ?_;refine ag (ar 2 hn hm rfl (bl rfl) rfl (au 1 hg rfl (kf.n 51 rfl) (kf.b 87 rfl) du (bn hnn) rfl rfl (ae rfl (aB (kf.b 84 rfl) rfl (ad 0 hn rfl)) af))) ?_;refine ag (bq (aC X) rfl (au 2 hg rfl (kf.n 37 rfl) (kf.b 54 rfl) dT (bn hnn) rfl rfl (ae rfl (ad 2 hn rfl) (ae rfl (ad 1 hn rfl) af)))) ?_;refine zE 2 404 (Str.ofString "table") ?_;refine cV 2 ?_;refine ag (aL (au 3 hg rfl (kf.n 52 rfl) (kf.b 88 rfl) dr (bn hnn) rfl rfl (ae rfl (ad 0 hn rfl) (ae rfl (ad 2 hn rfl) af)))) ?_;exact ai
noncomputable def nQ:List Str:=[Str.ofString "bench",Str.ofString "index",Str.ofString "place"]
noncomputable def nA:List Str:=[Str.ofString "shelf"]
noncomputable def nl:List Str:=[Str.ofString "need_pages",Str.ofString "shelf_copied",Str.ofString "move_page",Str.ofString "bench_turned"]
def so:PS:=(Ho 3 404 (Str.ofString "table") (i9 3 (aj (bQ (aA eu (ah (ak 0) (ah (ak 3) aq))))
 am)))
def sq:PS:=(aj (cB (aA l5 (ah (ak 3) (ah (ak 1) (ah (ak 2) aq)))))
 so)
def sr:PS:=(aj (cS 3 (aA ev (ah (fld 686 (Str.ofString "shelf") (ak 0)) aq)))
 sq)
def wS:PS:=(aj (cB (aA dP (ah (ak 0) (ah (fv (cT (ah (ak 1) (ah (ak 2) aq)))) aq))))
 sr)
theorem vL{W:Wd}(kf:KF W.K){N:Nat}(cL:ax W N (.ref 704) dP)(du:ax W N (.ref 413) ev)(lW:ax W N (.ref 600) l5)(dr:ax W N (.ref 697) eu){sp:ao}(hsp:gh nQ nA (wS) sp):ax W (N+1) (.ref 725) sp:=by
 refine aO (ps:=nQ) (more:=nA) (globs:=nl) (kf.f 53 rfl) rfl (by decide+kernel) (gY fun O O O O O O O O O O O O=> .of_eq rfl) (fun X hn hg hsc hnn hm=> ?_) hsp
 refine ag (bq (aC X) rfl (au 0 hg rfl (kf.n 49 rfl) (kf.b 85 rfl) cL (bn hnn) rfl rfl (ae rfl (ad 0 hn rfl) (ae rfl (aT (bD (ae rfl (ad 1 hn rfl) (ae rfl (ad 2 hn rfl) af)))) af)))) ?_;refine ag (ar 3 hn hm rfl (bl rfl) rfl (au 1 hg rfl (kf.n 51 rfl) (kf.b 87 rfl) du (bn hnn) rfl rfl (ae rfl (aB (kf.b 84 rfl) rfl (ad 0 hn rfl)) af))) ?_;refine ag (bq (aC X) rfl (au 2 hg rfl (kf.n 53 rfl) (kf.b 89 rfl) lW (bn hnn) rfl rfl (ae rfl (ad 3 hn rfl) (ae rfl (ad 1 hn rfl) (ae rfl (ad 2 hn rfl) af))))) ?_;refine zE 3 404 (Str.ofString "table") ?_;refine cV 3 ?_;refine ag (aL (au 3 hg rfl (kf.n 52 rfl) (kf.b 88 rfl) dr (bn hnn) rfl rfl (ae rfl (ad 0 hn rfl) (ae rfl (ad 3 hn rfl) af)))) ?_;exact ai
end
section
variable {W:Wd}
theorem gj.pz{b:CV}{dt:Array UInt8}{bs:CV}{T:Tb}{R:Hd}{d:dZ}(h:gj b dt bs T R d):d.pages.length≤60:=Nat.le_trans (List.length_filter_le _ _) (by rw[b7];exact h.doc.sz)
theorem lj(is:List Nat):(b0 is).length=is.length:=by simp[b0,bZ]
abbrev Gh:PB:=yD (aX (bh eG (aA fK (ah (ak 1) aq)) (aK (.int 0)))) (yD (aX (bh Ab (aA DL (ah (ak 1) aq)) (aK (.int 0)))) (yD (aX (bh GE (aA GF (ah (ak 1) aq)) (ak 2))) Ah))
theorem Et{b:CV}{is:List Nat}{N:Nat}{sg:Sg}{Q:Bool→Sg→Prop}(h0:is≠[])(hz:is.length≤50)(hlt:∀i∈is,i<N)(hq:Q false sg):Gh [some b,some (.lst (b0 is)),some (.int N)] sg Q:=by
 have hl:=lj is;have hn:(is.map fun(i:Nat)=>(i:Int))≠[]:=fun e=>h0 (List.map_eq_nil_iff.mp e);have hp:0<is.length:=List.length_pos_iff.mpr h0;refine⟨_,rfl,ay (by lia),false,?_,.n ⟨_,rfl,hn,ay (by lia),fun m hm O=>⟨false,?_,.n ⟨_,rfl,hn,ay (by lia),fun m hm O=>⟨false,?_,.n hq⟩⟩⟩⟩⟩
 ·show _=_;rw[eq_comm,beq_eq_false_iff_ne];lia
 ·obtain⟨i,hi,rfl⟩:=List.mem_map.mp hm;show _=_;rw[eq_comm,decide_eq_false_iff_not];exact Int.not_ofNat_neg i
 ·obtain⟨i,hi,rfl⟩:=List.mem_map.mp hm;have:=hlt i hi;show _=_;rw[eq_comm,decide_eq_false_iff_not];lia
theorem Gi{b:CV}{is:List Nat}{N:Nat}{sg:Sg}{Q:Bool→Sg→Prop}(hz:is.length≤50)(hbad:is=[]∨∃i∈is,N≤i)(hq:Q true sg):Gh [some b,some (.lst (b0 is)),some (.int N)] sg Q:=by
 have hl:=lj is;rcases hbad with rfl|⟨i,hi,hN⟩
 ·try dsimp only[List.map_cons,List.map_nil,List.cons_append,List.nil_append,List.set_cons_zero,List.set_cons_succ]
  exact⟨_,rfl,ay (by exact List.getElem?_eq_none_iff.mp rfl),true,rfl,.y hq⟩
 have h0:is≠[]:=fun e=>by rw[e]at hi;cases hi
 have hn:(is.map fun(i:Nat)=>(i:Int))≠[]:=fun e=>h0 (List.map_eq_nil_iff.mp e);have hp:0<is.length:=List.length_pos_iff.mpr h0;refine⟨_,rfl,ay (by lia),false,?_,.n ⟨_,rfl,hn,ay (by lia),fun m hm O=>⟨false,?_,.n ⟨_,rfl,hn,ay (by lia),fun m hm hmx=>⟨true,?_,.y hq⟩⟩⟩⟩⟩
 ·show _=_;rw[eq_comm,beq_eq_false_iff_ne];lia
 ·obtain⟨i,hi,rfl⟩:=List.mem_map.mp hm;show _=_;rw[eq_comm,decide_eq_false_iff_not];exact Int.not_ofNat_neg i
 ·have:=hmx _ (List.mem_map_of_mem hi);show _=_;rw[eq_comm,decide_eq_true_eq];lia
theorem cL(kf:KF W.K):ax W 9 (.ref 704) dP:=by
 refine xe (N:=8) kf (fB kf) fun sg Q cs (h:lK sg Q cs)=> ?_
 ·obtain @⟨_,_,dt,bs,T,R,d,is,hb,rfl,h0,hz,hlt,hq⟩:=h;have hp:=hb.pz;obtain⟨rfl,hd,hs⟩:=hb;refine⟨rfl,?_⟩;refine⟨_,⟨rfl,rfl⟩,T,R,d,⟨rfl,rfl⟩,hd,fun s h=>Nat.le_trans (hs s h) (by exact Nat.le_of_ble_eq_true rfl),?_⟩
  refine⟨_,rfl,ay (by rw[List.length_map];exact Nat.le_trans (by assumption) (by decide)),?_⟩
  rw[List.length_map];refine Et h0 hz hlt ⟨fun h=>(by exact ff h),fun O=> ?_⟩
  exact rs hq
theorem uO{n:Nat}{fa C:Addr}{pre:List CV→Sg→Prop}{params:Arguments}{body:List Stmt}{scope:Scope}{q:PR}(ps more globs:List Str)(hK:B0 W.K fa params body scope)(h333:fa≠333)
  (hchk:qV scope (ps++more) globs=true) (hb:∀(name qual:Str) (kV doc pm:Value) (an:Option Addr) (cdv ct:Value) (s:Shared) (vs:List Value),vs.length=ps.length→BindsTo s (fnOf name qual params body scope .none kV doc pm an cdv ct) ⟨vs,[]⟩ (ps.zip vs))
  (him:∀X:FX,X.names=ps++more→X.globs=globs→X.env.scope=scope→X.n=n→X.m=(ps++more).length→oX W X C body q)
  (hsp:∀(cs:List CV) (sg:Sg),pre cs sg→cs.length=ps.length∧q (cs.map some++more.map fun O=>none) sg (fun O sg'=>sg.Sublist sg')):DP W (n+1) (.ref fa) C pre:=by
 refine dp fun C_ k_=> ?_;obtain⟨dV,hd,name,qual,kV,doc,pm,an,cdv,ct,oc,od,osl,h1,h2⟩:=hK;have hd:=hd.resolve_right h333;refine k_ ?_;subst hd;exact I6 ps more globs h1 h2 hchk him (fun s vs hl=>hb _ _ _ _ _ _ _ _ s vs hl) hsp
def LM(p:PS)(q:PR):PR:=fun rho sg Z=>p rho sg fun f rho' sg'=>f= .next∧q rho' sg' Z
def Kq:PR:=fun rho sg Z=>Z rho sg
def Ku:PR:=fun O O O=>False
def wX:PR:=Lw Gh Kq Ku
def qG:PR:=LM (cS 2 (aA fK (ah (aA iq (ah (fld 686 (Str.ofString "shelf") (ak 0)) aq)) aq))) wX
theorem wM(kf:KF W.K)(kx:KX W.K){X:FX}(hn:X.names=(kH++kB))(hg:X.globs=kz)(hsc:X.env.scope=yV)(hnn:X.n=8)(hm:X.m=3):oX W X 71 yF qG:=
 Ky (ar 2 hn hm rfl (bl rfl) rfl (bd 0 hg rfl (kf.n 32 rfl) rfl (by decide) (.inl ⟨_,rfl⟩) cg rfl rfl (ae rfl (au 1 hg rfl (kf.n 45 rfl) (kf.b 76 rfl) (fB kf) (bn hnn) rfl rfl (ae rfl (aB (kf.b 84 rfl) rfl (ad 0 hn rfl)) af)) af)))
  (kJ (Jq (eg (aE rfl bt (bd 0 hg rfl (kf.n 32 rfl) rfl (by decide) (.inl ⟨_,rfl⟩) cg rfl rfl (ae rfl (ad 1 hn rfl) af)) av) (eg (aE rfl jU (bd 2 hg rfl (kf.n 33 rfl) rfl (by decide) (.inl ⟨_,rfl⟩) vD rfl rfl (ae rfl (ad 1 hn rfl) af)) av) (eg (aE rfl uN (bd 3 hg rfl (kf.n 48 rfl) rfl (by decide) (.inl ⟨_,rfl⟩) AW rfl rfl (ae rfl (ad 1 hn rfl) af)) (ad 2 hn rfl)) jW))) (kJ (HT kx (by rw[hnn];decide) 4 hg rfl)) Jr))
theorem ku(kf:KF W.K)(kx:KX W.K):DP W 9 (.ref 704) 71 ln:=by
 refine uO (n:=8) (q:=qG) [Str.ofString "bench",Str.ofString "indexes"] [Str.ofString "count"] kz (kf.f 50 rfl) (by decide) (by decide+kernel) (cF fun O O O O O O O O O O O=> .of_eq rfl) (fun X hn hg hsc hnn hm=>wM kf kx hn hg hsc hnn hm) fun cs sg h=> ?_
 ·obtain⟨dt,bs,T,R,d,is,hb,rfl,hz,hbad⟩:=h;have hp:=hb.pz;obtain⟨rfl,hd,hs⟩:=hb;refine⟨rfl,?_⟩;refine⟨_,⟨rfl,rfl⟩,T,R,d,⟨rfl,rfl⟩,hd,fun s h=>Nat.le_trans (hs s h) (by exact Nat.le_of_ble_eq_true rfl),?_⟩
  refine⟨_,rfl,ay (by rw[List.length_map];exact Nat.le_trans (by assumption) (by decide)),rfl,?_⟩
  rw[List.length_map];refine Gi hz hbad ?_;exact⟨fun O=> .refl _,fun h=>(by exact tf h)⟩
theorem ji(kf:KF W.K):ax W 12 (.ref 711) eU:=by
 refine vM (N:=11) kf ((cL kf).upb rfl) ((gF kf).upb rfl) (jl kf) fun sg Q cs (h:hV sg Q cs)=> ?_
 ·refine hV.casesOn h @fun O O dt bs T R d is rt r v hb z12 hR h1 h2 h3 h4 h0 hz hlt hpg hq=>⟨rfl,?_⟩;subst z12;refine⟨dt,bs,T,R,d,is,hb,rfl,h0,hz,hlt,?_⟩;obtain⟨rfl,hd,hs⟩:=hb;refine⟨_,⟨rfl,rfl⟩,_,⟨rfl,rfl⟩,T,R,d,rt,r,v,is,rfl,hd,hR,h1,h2,h3,h4,rfl,List.length_pos_iff.mpr h0,hz,hlt,hs,hpg,fun M hM=>⟨rfl,fun a dx=>⟨_,_,.head,rfl,rs (hq M hM)⟩⟩⟩
theorem kD(kf:KF W.K):ax W 10 (.ref 718) fM:=by
 refine xd (N:=9) kf ((cL kf).upb rfl) ((du kf).upb rfl) ((dT kf).upb rfl) ((dr kf).upb rfl) fun sg Q cs (h:iH sg Q cs)=> ?_
 ·refine iH.casesOn h @fun O O dt bs T R d s T' rt c n hb z13 hc hpv hrem hR hT' hcne hq=>⟨rfl,?_⟩;subst z13;have hp:=hb.pz;have hn:n<d.pages.length:=by
   have h:=hrem.page;rw[Int.toNat_natCast]at h;exact(List.getElem?_eq_some_iff.mp h).1
  refine⟨sm rfl,fun a=>⟨_,_,.head,rfl,dt,bs,T,R,d,[n],hb,rfl,(by simp),by simp,by simpa using hn,?_⟩⟩
  obtain⟨rfl,hd,hs⟩:=hb;refine⟨_,⟨rfl,rfl⟩,T,R,rfl,rfl,hc,hpv,fun b dx t=> ?_⟩;refine⟨[(b,_)],sg,t,T,R,d,s,T',⟨rfl,dx,.head _⟩,hrem,?_⟩;refine⟨b,dx,_,t,_,_,_,rfl,rfl,.tail .head,rfl,.head,b,_,_,rfl,.head,rfl,?_⟩;refine⟨dt,bs,_,T',R,rt,c,rfl,rfl,hR,hT',hcne,rs hq⟩
theorem jh(kf:KF W.K):ax W 11 (.ref 725) eS:=by
 refine vL (N:=10) kf ((cL kf).upb rfl) ((du kf).upb rfl) ((lW kf).upb rfl) ((dr kf).upb rfl) fun sg Q cs (h:hO sg Q cs)=> ?_
 ·refine hO.casesOn h @fun O O O dt bs T R d T' rt c n m hb z14 z15 hc hpv hmv hR hT' hcne hq=>⟨rfl,?_⟩;subst z14;subst z15;have hp:=hb.pz;have hn:=hmv.h2;have hm:=hmv.h4;refine⟨sm rfl,fun a=>⟨_,_,.head,rfl,dt,bs,T,R,d,[n,m],hb,rfl,(by simp),by simp,(fun i hi=>by simp at hi;lia),?_⟩⟩
  obtain⟨rfl,hd,hs⟩:=hb;refine⟨_,⟨rfl,rfl⟩,T,R,rfl,rfl,hc,hpv,fun b dx t=> ?_⟩;refine⟨[(b,_)],sg,t,T,R,d,T',⟨rfl,dx,.head _⟩,hmv,?_⟩;refine⟨b,dx,_,t,_,_,_,rfl,rfl,.tail .head,rfl,.head,b,_,_,rfl,.head,rfl,?_⟩;refine⟨dt,bs,_,T',R,rt,c,rfl,rfl,hR,hT',hcne,rs hq⟩
end
section
variable {W:Wd}
theorem ja(kf:KF W.K)(kx:KX W.K):DP W 10 (.ref 711) 71 ln:=by
 refine uO (n:=9) (q:=xN ln (ah (ak 0) (ah (ak 1) aq))) [Str.ofString "bench",Str.ofString "indexes"] [] nn (kf.f 51 rfl) (by decide) (by decide+kernel) (cF fun O O O O O O O O O O O=> .of_eq rfl)
  (fun X hn hg hsc hnn hm=>kJ (CT (aC X) rfl (s_ 0 hg rfl (kf.n 49 rfl) (kf.b 85 rfl) (ku kf kx) (bn hnn) rfl rfl (ae rfl (ad 0 hn rfl) (ae rfl (ad 1 hn rfl) af))))) fun cs sg h=> ?_
 have h0:=h
 ·obtain⟨dt,bs,T,R,d,is,hb,z,hz,hbad⟩:=h;exact⟨rfl,h0,.refl _⟩
theorem kt(kf:KF W.K)(kx:KX W.K):DP W 10 (.ref 718) 71 BE:=by
 refine uO (n:=9) (q:=xN ln (ah (ak 0) (ah (fv (cT (ah (ak 1) aq))) aq))) [Str.ofString "bench",Str.ofString "index"] [Str.ofString "shelf"] o4 (kf.f 52 rfl) (by decide) (by decide+kernel) (cF fun O O O O O O O O O O O=> .of_eq rfl)
  (fun X hn hg hsc hnn hm=>kJ (CT (aC X) rfl (s_ 0 hg rfl (kf.n 49 rfl) (kf.b 85 rfl) (ku kf kx) (bn hnn) rfl rfl (ae rfl (ad 0 hn rfl) (ae rfl (aT (bD (ae rfl (ad 1 hn rfl) af))) af))))) fun cs sg h=> ?_
 ·obtain⟨dt,bs,T,R,d,n,hb,hn⟩:=h;refine⟨rfl,?_⟩;exact⟨sm rfl,fun a=>⟨_,_,.head,rfl,⟨dt,bs,T,R,d,[n],hb,rfl,by simp,.inr ⟨n,by simp,hn⟩⟩,.refl _⟩⟩
theorem i_(kf:KF W.K)(kx:KX W.K):DP W 10 (.ref 725) 71 ym:=by
 refine uO (n:=9) (q:=xN ln (ah (ak 0) (ah (fv (cT (ah (ak 1) (ah (ak 2) aq)))) aq))) [Str.ofString "bench",Str.ofString "index",Str.ofString "place"] [Str.ofString "shelf"] nl (kf.f 53 rfl) (by decide) (by decide+kernel) (gY fun O O O O O O O O O O O O=> .of_eq rfl)
  (fun X hn hg hsc hnn hm=>kJ (CT (aC X) rfl (s_ 0 hg rfl (kf.n 49 rfl) (kf.b 85 rfl) (ku kf kx) (bn hnn) rfl rfl (ae rfl (ad 0 hn rfl) (ae rfl (aT (bD (ae rfl (ad 1 hn rfl) (ae rfl (ad 2 hn rfl) af)))) af))))) fun cs sg h=> ?_
 ·obtain⟨dt,bs,T,R,d,n,m,hb,hn⟩:=h;refine⟨rfl,?_⟩;refine⟨sm rfl,fun a=>⟨_,_,.head,rfl,⟨dt,bs,T,R,d,[n,m],hb,rfl,by simp,.inr ?_⟩,.refl _⟩⟩
  rcases hn with hn|hn
  ·exact⟨n,by simp,hn⟩
  ·exact⟨m,by simp,hn⟩
theorem DP.up{n m:Nat}{f:Value}{C:Addr}{pre:List CV→Sg→Prop}(h:DP W n f C pre)(hm:n≤m):DP W m f C pre:=fun A kept F vs cs sg s K E l hh hd hu=>h A kept F vs cs sg s K E l hh (GQ hm hd) (GQ hm hu)
theorem Hn{n:Nat}{fa:Addr}{sp:ao}{params:Arguments}{body:List Stmt}{scope:Scope}{p:PS}(ps more globs:List Str)(hK:B0 W.K fa params body scope)(h333:fa≠333)
  (hchk:qV scope (ps++more) globs=true) (hb:∀(name qual:Str) (kV doc pm:Value) (an:Option Addr) (cdv ct:Value) (s:Shared) (vs:List Value),vs.length=ps.length→BindsTo s (fnOf name qual params body scope .none kV doc pm an cdv ct) ⟨vs,[]⟩ (ps.zip vs))
  (him:∀X:FX,X.names=ps++more→X.globs=globs→X.env.scope=scope→X.n=n→X.m=(ps++more).length→tq W X body p)
  (hsp:∀(cs:List CV) (sg:Sg) (Q:CV→Sg→Prop),sp cs sg Q→cs.length=ps.length∧p (cs.map some++more.map fun O=>none) sg (jn Q)):Ap W (n+1) (.ref fa) sp:=by
 refine dp fun C_ k_=> ?_;obtain⟨dV,hd,name,qual,kV,doc,pm,an,cdv,ct,oc,od,osl,h1,h2⟩:=hK;have hd:=hd.resolve_right h333;refine k_ ?_;subst hd;exact I5 ps more globs h1 h2 hchk (fun s vs hl=>hb _ _ _ _ _ _ _ _ s vs hl) him hsp
end
noncomputable abbrev dq:Array UInt8:= #[113]
abbrev mq:=ln
abbrev nO:=BE
abbrev ml:=ym
structure wQ(G:CV→List gX→Prop):Prop where
 at_:∀{sh:CV} {rows:List gX},G sh rows→∃T R d,sh=qy T R∧iu T R d∧(∀s∈d.spots,s.l.length≤50)∧gq T d.pages rows∧d.l.lookup bb=some (.int rows.length)∧qA d
 len:∀{sh:CV} {rows:List gX},G sh rows→rows.length≤8
 split:∀{sh:CV} {rows:List gX} {is:List Nat},G sh rows→is≠[]→is.length≤8→(∀i∈is,i<rows.length)→∀bs sg Q,(∀sh',G sh' (is.map fun i=>rows.getD i (0,0,0))→Q (bO dq .none sh') sg)→eU [bO dq bs sh,.lst (b0 is)] sg Q
 less:∀{sh:CV} {rows:List gX} {n:Nat},G sh rows→n<rows.length→∀bs sg Q,(∀sh',G sh' (rows.take n++rows.drop (n+1))→Q (bO dq bs sh') sg)→fM [bO dq bs sh,.int n] sg Q
 moved:∀{sh:CV} {rows:List gX} {n m:Nat} {x:gX},G sh rows→rows[n]? =some x→m<rows.length→∀bs sg Q,(∀sh',G sh' (jf rows n m x)→Q (bO dq bs sh') sg)→eS [bO dq bs sh,.int n,.int m] sg Q
 init:∀{top:Int} {nds:List ND},kd top nds→G (qy (dy top nds) [(rV,aG 1)]) (gf top nds)
inductive tB(G:CV→List gX→Prop)(sg:Sg)(Q:CV→Sg→Prop):List CV→Prop
 |mk {pa:Addr} {b:CV} {l:List CV} (pre post p c bs sh rows):sg=pre++(pa,dU p c)::post→0≤p→0≤c→c≤850→b=bO dq bs sh→l=rows.map b9→G sh rows→(∀bs' sh' rows' p' c',G sh' rows'→0≤p'→0≤c'→c'≤c+20→Q (.tup [.bool true,bO dq bs' sh',.lst (rows'.map b9)]) (pre++(pa,dU p' c')::post))→tB G sg Q [.ref pa,b,.lst l]
def iO(G:CV→List gX→Prop):ao:=fun cs sg Q=>tB G sg Q cs
section
noncomputable def zT:List Str:=[Str.ofString "pen",Str.ofString "bench",Str.ofString "rows",Str.ofString "way",Str.ofString "indexes",Str.ofString "turn",Str.ofString "is_let",Str.ofString "fresh",Str.ofString "due"]
noncomputable def rg:List Str:=[Str.ofString "_law_draw",Str.ofString "range",Str.ofString "len",Str.ofString "bench_split",Str.ofString "bench_less",Str.ofString "bench_moved",Str.ofString "DeskFault",Str.ofString "_law_moved",Str.ofString "_law_right"]
def iS:PS:=(aj (cB (cq wf dE (ak 4) (ah (xY (aX (bh lZ (ak 2) (fv (cT aq)))) (aA bU (ah (ak 0) (ah (bh dD (aA fK (ah (ak 2) aq)) (xY (aX (bh eG (aA bU (ah (ak 0) (ah (aK (.int 8)) aq))) (aK (.int 7)))) (aK (.int 1)) (aK (.int 0)))) aq))) (aK (.int 0))) aq)))
 am)
def mV:PS:=(aj (bQ (dK (ah (aA fL (ah (ak 7) (ah (ak 8) aq))) (ah (ak 7) (ah (ak 8) aq)))))
 am)
def mW:PS:=(aj (ew (yD (aX (bh lZ (bh rZ (fld 686 (Str.ofString "base") (ak 7)) (aK .none)) (L2 (bh eG (ak 3) (aK (.int 0))) (bh rZ (fld 686 (Str.ofString "base") (ak 1)) (aK .none))))) (yD (aX (bh lZ (fld 686 (Str.ofString "data") (ak 7)) (aK (.byt #[113])))) Ah)) (aj (bQ (dK (ah (aK (.bool false)) (ah (ak 7) (ah (ak 8) aq)))))
 am) am)
 mV)
def uY:PS:=(aj (ew (aX (bh eG (ak 3) (aK (.int 0)))) (aj (cS 8 (d7 lY cu [2] (ak 4) d9 (bh aR (ak 1) (ak 0))))
 am) (aj (ew (aX (bh eG (ak 3) (aK (.int 1)))) (aj (cS 8 (bh dD (kI (ak 2) (aK .none) (bh aR (ak 4) (aK (.int 0)))) (kI (ak 2) (bh dD (bh aR (ak 4) (aK (.int 0))) (aK (.int 1))) (aK .none))))
 am) (aj (cS 8 (aA kK (ah (ak 2) (ah (bh aR (ak 4) (aK (.int 0))) (ah (bh aR (ak 4) (aK (.int 1))) aq)))))
 am))
 am))
 mW)
def uZ:PS:=(aj (ew (lz (aX (ak 6))) (aj (bQ (dK (ah (aK (.bool true)) (ah (ak 1) (ah (ak 2) aq)))))
 am) am)
 uY)
def eN:PS:=(aj (ew (aX (bh lZ (bh oA (ak 7) (aK .none)) (ak 6))) (aj (bQ (dK (ah (aK (.bool false)) (ah (ak 1) (ah (ak 2) aq)))))
 am) am)
 uZ)
def mX:PS:=(aj (KR 7 (aj (ew (aX (bh eG (ak 3) (aK (.int 0)))) (aj (cS 7 (aA eU (ah (ak 1) (ah (ak 4) aq))))
 am) (aj (ew (aX (bh eG (ak 3) (aK (.int 1)))) (aj (cS 7 (aA fM (ah (ak 1) (ah (bh aR (ak 4) (aK (.int 0))) aq))))
 am) (aj (cS 7 (aA eS (ah (ak 1) (ah (bh aR (ak 4) (aK (.int 0))) (ah (bh aR (ak 4) (aK (.int 1))) aq)))))
 am))
 am))
 am) (Lw (aX (bh eG (ak 3) (aK (.int 0)))) (xN mq (ah (ak 1) (ah (ak 4) aq))) (Lw (aX (bh eG (ak 3) (aK (.int 1)))) (xN nO (ah (ak 1) (ah (bh aR (ak 4) (aK (.int 0))) aq))) (xN ml (ah (ak 1) (ah (bh aR (ak 4) (aK (.int 0))) (ah (bh aR (ak 4) (aK (.int 1))) aq)))))))
 eN)
def gr:PS:=(aj (cS 7 (aK .none))
 mX)
def gu:PS:=(i9 4 (aj (cS 6 (EL (bh lZ (ak 4) (fv (cT aq))) (bh eG (d7 lY cu [2] (ak 4) (aX (bh GE (ak 0) (aA fK (ah (ak 1) aq)))) (ak 0)) (fv (cT aq)))))
 gr))
def mY:PS:=(aj (Cr 5 (bh aR (fv (cT (ah (aA bU (ah (ak 0) (ah (aK (.int 5)) aq))) (ah (aK (.int 1)) (ah (aK (.int 2)) aq))))) (ak 3)) iS)
 gu)
def Av:PS:=(aj (BT [3,4] (dK (ah (aA bU (ah (ak 0) (ah (aK (.int 3)) aq))) (ah (cT aq) aq))))
 mY)
theorem zD{W:Wd}(kf:KF W.K){N:Nat}(kx:KX W.K)(bT:ax W N (.ref 739) bU)(ji:ax W N (.ref 711) eU)(kD:ax W N (.ref 718) fM)(jh:ax W N (.ref 725) eS)(kC:ax W N (.ref 774) kK)(ez:ax W N (.ref 767) fL)(ja:DP W N (.ref 711) 71 mq)(kt:DP W N (.ref 718) 71 nO)(i_:DP W N (.ref 725) 71 ml){X:FX}(hn:X.names=zT)(hg:X.globs=rg)(hsc:X.env.scope=AI)(hnn:X.n=N)(hm:X.m=9):tq W X Am (Av):=
 by
 refine DN (ri [Str.ofString "way",Str.ofString "indexes"] hn hm (GV rfl (bl rfl) (GV rfl (bl rfl) K8)) rfl rfl (DM hsc (by decide+kernel)) (bB (ae rfl (au 0 hg rfl (kf.n 55 rfl) (kf.b 90 rfl) bT (bn hnn) rfl rfl (ae rfl (ad 0 hn rfl) (ae rfl av af))) (ae rfl (bD af) af)))) ?_
 refine DN (om 5 1 hn hg hsc hnn hm rfl (bl rfl) rfl (kf.n 16 rfl) rfl rfl rfl (fun O=>rfl) (aU (fun O O=>rfl) aD (aT (bD (ae rfl (au 0 hg rfl (kf.n 55 rfl) (kf.b 90 rfl) bT (bn hnn) rfl rfl (ae rfl (ad 0 hn rfl) (ae rfl av af))) (ae rfl av (ae rfl av af))))) (ad 3 hn rfl)) (fun X hA hE hn hg hsc hnn hm=>(by {refine ag (bq (aC X) rfl (br cG cc rfl rfl rfl (ad 4 hn rfl) (ae rfl (fZ (aE rfl dl (ad 2 hn rfl) (aT (bD af))) (au 0 hg rfl (kf.n 55 rfl) (kf.b 90 rfl) bT (bn hnn) rfl rfl (ae rfl (ad 0 hn rfl) (ae rfl (bH bG (bd 2 hg rfl (kf.n 32 rfl) rfl (by decide) (.inl ⟨_,rfl⟩) cg rfl rfl (ae rfl (ad 2 hn rfl) af)) (fZ (aE rfl bt (au 0 hg rfl (kf.n 55 rfl) (kf.b 90 rfl) bT (bn hnn) rfl rfl (ae rfl (ad 0 hn rfl) (ae rfl av af))) av) av av)) af))) av) af))) ?_;exact ai}))) ?_
 refine Jz 4 ?_;refine DN (ar 6 hn hm rfl (bl rfl) rfl (rj (fX rfl dl (ad 4 hn rfl) (aT (bD af))) (rk (fX rfl bt (c8 (tgs:=[Str.ofString "index"]) (frs:=[Str.ofString "rows"]) (gs:=[Str.ofString "len"]) (fi:=[2]) (by decide+kernel) hsc hn cW bL cY (fun O=>rfl) (ad 4 hn rfl) (fun Xc hn hg hnc=>have hnn:=hnc.trans hnn;(h8 (aE rfl uN (ad 0 hn rfl) (bd 0 hg rfl (kf.n 32 rfl) rfl (by decide) (.inl ⟨_,rfl⟩) cg rfl rfl (ae rfl (ad 1 hn rfl) af))))) (fun Xc hn hg hnc=>have hnn:=hnc.trans hnn;(ad 0 hn rfl))) (aT (bD af)))))) ?_
 refine DN (ar 7 hn hm rfl (bl rfl) rfl bE) ?_;refine JA (KU kx 7 6 hg rfl hn hm rfl (bl rfl) (by {refine ag (be (aE rfl bt (ad 3 hn rfl) av) (by {refine ag (ar 7 hn hm rfl (bl rfl) rfl (au 3 hg rfl (kf.n 60 rfl) (kf.b 95 rfl) ji (bn hnn) rfl rfl (ae rfl (ad 1 hn rfl) (ae rfl (ad 4 hn rfl) af)))) ?_;exact ai}) (by {refine ag (be (aE rfl bt (ad 3 hn rfl) av) (by {refine ag (ar 7 hn hm rfl (bl rfl) rfl (au 4 hg rfl (kf.n 61 rfl) (kf.b 96 rfl) kD (bn hnn) rfl rfl (ae rfl (ad 1 hn rfl) (ae rfl (aU (fun O O=>rfl) aD (ad 4 hn rfl) av) af)))) ?_;exact ai}) (by {refine ag (ar 7 hn hm rfl (bl rfl) rfl (au 5 hg rfl (kf.n 62 rfl) (kf.b 97 rfl) jh (bn hnn) rfl rfl (ae rfl (ad 1 hn rfl) (ae rfl (aU (fun O O=>rfl) aD (ad 4 hn rfl) av) (ae rfl (aU (fun O O=>rfl) aD (ad 4 hn rfl) av) af))))) ?_;exact ai})) ?_;exact ai})) ?_;exact ai}) (kJ (Jq (aE rfl bt (ad 3 hn rfl) av) (kJ (wu rfl (s_ 3 hg rfl (kf.n 60 rfl) (kf.b 95 rfl) ja (bn hnn) rfl rfl (ae rfl (ad 1 hn rfl) (ae rfl (ad 4 hn rfl) af))))) (kJ (Jq (aE rfl bt (ad 3 hn rfl) av) (kJ (wu rfl (s_ 4 hg rfl (kf.n 61 rfl) (kf.b 96 rfl) kt (bn hnn) rfl rfl (ae rfl (ad 1 hn rfl) (ae rfl (aU (fun O O=>rfl) aD (ad 4 hn rfl) av) af))))) (kJ (wu rfl (s_ 5 hg rfl (kf.n 62 rfl) (kf.b 97 rfl) i_ (bn hnn) rfl rfl (ae rfl (ad 1 hn rfl) (ae rfl (aU (fun O O=>rfl) aD (ad 4 hn rfl) av) (ae rfl (aU (fun O O=>rfl) aD (ad 4 hn rfl) av) af))))))))))) (fun k h=> ?_)
 refine ag (be (aE rfl dl (fX rfl lP (ad 7 hn rfl) bE) (ad 6 hn rfl)) (by {refine ag (aL (bB (ae rfl gC (ae rfl (ad 1 hn rfl) (ae rfl (ad 2 hn rfl) af))))) ?_;exact ai}) ai) ?_
 refine ag (be (c9 (bj rfl (ad 6 hn rfl))) (by {refine ag (aL (bB (ae rfl gC (ae rfl (ad 1 hn rfl) (ae rfl (ad 2 hn rfl) af))))) ?_;exact ai}) ai) ?_
 refine ag (be (aE rfl bt (ad 3 hn rfl) av) (by {refine ag (gZ 8 (yB hsc (by decide+kernel)) hm rfl (bl rfl) (tgs:=[Str.ofString "index"]) (frs:=[Str.ofString "rows"]) (gs:=[]) (fi:=[2]) (by decide+kernel) hsc hn cW bL cY (fun O=>rfl) (ad 4 hn rfl) (fun Xc hn hg hnc=>have hnn:=hnc.trans hnn;fS) (fun Xc hn hg hnc=>have hnn:=hnc.trans hnn;(aU (fun O O=>rfl) aD (ad 1 hn rfl) (ad 0 hn rfl)))) ?_;exact ai}) (by {refine ag (be (aE rfl bt (ad 3 hn rfl) av) (by {refine ag (ar 8 hn hm rfl (bl rfl) rfl (bH bG (gD (ad 2 hn rfl) fd (iM (aU (fun O O=>rfl) aD (ad 4 hn rfl) av))) (gD (ad 2 hn rfl) (iM (bH bG (aU (fun O O=>rfl) aD (ad 4 hn rfl) av) av)) fd))) ?_;exact ai}) (by {refine ag (ar 8 hn hm rfl (bl rfl) rfl (au 7 hg rfl (kf.n 63 rfl) (kf.b 98 rfl) kC (bn hnn) rfl rfl (ae rfl (ad 2 hn rfl) (ae rfl (aU (fun O O=>rfl) aD (ad 4 hn rfl) av) (ae rfl (aU (fun O O=>rfl) aD (ad 4 hn rfl) av) af))))) ?_;exact ai})) ?_;exact ai})) ?_
 refine ag (be (eg (aE rfl dl (fX rfl e_ (aB (kf.b 82 rfl) rfl (ad 7 hn rfl)) bE) (Je (fX rfl bt (ad 3 hn rfl) av) (rk (fX rfl e_ (aB (kf.b 82 rfl) rfl (ad 1 hn rfl)) bE)))) (eg (aE rfl dl (aB (kf.b 81 rfl) rfl (ad 7 hn rfl)) Bk) jW)) (by {refine ag (aL (bB (ae rfl gC (ae rfl (ad 7 hn rfl) (ae rfl (ad 8 hn rfl) af))))) ?_;exact ai}) ai) ?_
 refine ag (aL (bB (ae rfl (au 8 hg rfl (kf.n 64 rfl) (kf.b 99 rfl) ez (bn hnn) rfl rfl (ae rfl (ad 7 hn rfl) (ae rfl (ad 8 hn rfl) af))) (ae rfl (ad 7 hn rfl) (ae rfl (ad 8 hn rfl) af))))) ?_;exact ai
end
section
noncomputable def Jl:List Str:=[Str.ofString "script",Str.ofString "pen",Str.ofString "shelf",Str.ofString "rows",Str.ofString "bench",Str.ofString "line",Str.ofString "turn",Str.ofString "is_right"]
noncomputable def FK:List Str:=[Str.ofString "_law_pen",Str.ofString "_law_document",Str.ofString "Bench",Str.ofString "Shelf",Str.ofString "_law_right",Str.ofString "range",Str.ofString "_law_deed"]
def E3(sp_self:ao):PS:=(aj (cB (cq wf dE (ak 5) (ah (dK (ah (ak 4) (ah (ak 3) aq))) aq)))
 am)
def E4(sp_self:ao):PS:=(aj (ew (lz (aX (ak 7))) (aj (bQ (aK (.bool false)))
 am) am)
 (E3 sp_self))
def Aq(sp_self:ao):PS:=(aj (gP [7,4,3] (aA sp_self (ah (ak 1) (ah (ak 4) (ah (ak 3) aq)))))
 (E4 sp_self))
def AJ(sp_self:ao):PS:=(i9 5 (aj (bQ (bh eG (d7 xz FV [] (ak 5) (aX (bh lZ (aA gL (ah (fld 686 (Str.ofString "shelf") (ak 0)) aq)) (ak 1))) (ak 0)) (fv (cT aq))))
 am))
def E5(sp_self:ao):PS:=(aj (Cr 6 (aK (.int 3)) (Aq sp_self))
 (AJ sp_self))
def E6(sp_self:ao):PS:=(aj (cS 5 (cT (ah (dK (ah (ak 4) (ah (ak 3) aq))) aq)))
 (E5 sp_self))
def E7(sp_self:ao):PS:=(aj (ew (lz (aX (aA fL (ah (ak 4) (ah (ak 3) aq))))) (aj (bQ (aK (.bool false)))
 am) am)
 (E6 sp_self))
def E8(sp_self:ao):PS:=(aj (cS 4 (fv (aA jp (ah (aK (.byt #[113])) (ah (Kp 404 (Str.ofString "table") (aA gK aq)) (ah (ak 2) aq))))))
 (E7 sp_self))
def E9(sp_self:ao):PS:=(aj (gP [2,3] (aA g8 (ah (ak 1) aq)))
 (E8 sp_self))
def Ig(sp_self:ao):PS:=(aj (cS 1 (aA nX (ah (ak 0) aq)))
 (E9 sp_self))
theorem Jd{W:Wd}(kf:KF W.K){N:Nat}{sp_self:ao}(nI:ax W N (.ref 732) nX)(g6:ax W N (.ref 753) g8)(gF:ax W N (.ref 686) jp)(el:ax W N (.ref 404) gK)(ez:ax W N (.ref 767) fL)(ok_self:Ap W N (.ref 779) sp_self)(fh:ax W N (.ref 760) gL){X:FX}(hn:X.names=Jl)(hg:X.globs=FK)(hsc:X.env.scope=Ik)(hnn:X.n=N)(hm:X.m=8)(hfr:X.A.frames=some [X.env])(hf:X.env.frame=some X.env.locals)(hcn:∀y c,X.env.cells.lookup y=some c→False):ix W X JN (Ig sp_self):=
 by
 refine ag (ar 1 hn hm rfl (bl rfl) rfl (au 0 hg rfl (kf.n 65 rfl) (kf.b 100 rfl) nI (bn hnn) rfl rfl (ae rfl (ad 0 hn rfl) af))) ?_;refine ag (dL hn hm (.cons 2 rfl (by decide) rfl (.cons 3 rfl (by decide) rfl .nil)) rfl rfl (au 1 hg rfl (kf.n 66 rfl) (kf.b 101 rfl) g6 (bn hnn) rfl rfl (ae rfl (ad 1 hn rfl) af))) ?_
 refine ag (ar 4 hn hm rfl (bl rfl) rfl (aT (au 2 hg rfl (kf.n 47 rfl) (kf.b 83 rfl) gF (bn hnn) rfl rfl (ae rfl Bk (ae rfl (Hu 404 (Str.ofString "table") (Bl 3 hg rfl (kf.n 17 rfl) (kf.b 21 rfl) el (bn hnn))) (ae rfl (ad 2 hn rfl) af)))))) ?_;refine ag (be (c9 (bj rfl (au 4 hg rfl (kf.n 64 rfl) (kf.b 99 rfl) ez (bn hnn) rfl rfl (ae rfl (ad 4 hn rfl) (ae rfl (ad 3 hn rfl) af))))) (by {refine ag (aL gC) ?_;exact ai}) ai) ?_
 refine ag (ar 5 hn hm rfl (bl rfl) rfl (bD (ae rfl (bB (ae rfl (ad 4 hn rfl) (ae rfl (ad 3 hn rfl) af))) af))) ?_;refine ag (om 6 5 hn hg hsc hnn hm rfl (bl rfl) rfl (kf.n 16 rfl) rfl rfl rfl (fun O=>rfl) av (fun X hA hE hn hg hsc hnn hm=>(by {refine ag (dL hn hm (.cons 7 rfl (by decide) rfl (.cons 4 rfl (by decide) rfl (.cons 3 rfl (by decide) rfl .nil))) rfl rfl (FP 6 (by rw[hA,hE];exact hfr) (by rw[hE];exact hf) (fun y c e=>(hcn y c (by rw[←hE];exact e)).elim) hg rfl (kf.n 67 rfl) (kf.b 102 rfl) ok_self (bn hnn) rfl rfl (ae rfl (ad 1 hn rfl) (ae rfl (ad 4 hn rfl) (ae rfl (ad 3 hn rfl) af))))) ?_;refine ag (be (c9 (bj rfl (ad 7 hn rfl))) (by {refine ag (aL gC) ?_;exact ai}) ai) ?_;refine ag (bq (aC X) rfl (br cG cc rfl rfl rfl (ad 5 hn rfl) (ae rfl (bB (ae rfl (ad 4 hn rfl) (ae rfl (ad 3 hn rfl) af))) af))) ?_;exact ai}))) ?_
 refine cV 5 ?_;refine ag (aL (fX rfl bt (c8 (tgs:=[Str.ofString "elder",Str.ofString "due"]) (frs:=[]) (gs:=[Str.ofString "_law_seen"]) (fi:=[]) (by decide+kernel) hsc hn Dv wG DJ (fun O=>rfl) (ad 5 hn rfl) (fun Xc hn hg hnc=>have hnn:=hnc.trans hnn;(h8 (aE rfl dl (au 0 hg rfl (kf.n 58 rfl) (kf.b 93 rfl) fh (bn hnn) rfl rfl (ae rfl (aB (kf.b 84 rfl) rfl (ad 0 hn rfl)) af)) (ad 1 hn rfl)))) (fun Xc hn hg hnc=>have hnn:=hnc.trans hnn;(ad 0 hn rfl))) (aT (bD af)))) ?_
 exact ai
end
section
variable {W:Wd}{G:CV→List gX→Prop}
theorem HW(rows:List gX):(!PyData.eqv (pd (.lst (rows.map b9))) (pd (.lst [])))= !rows.isEmpty:=by
 cases rows with
 |nil=>rfl
 |cons r rs=>rfl
def J5(N:Nat)(is:List Nat):Prop:=∀i∈is,i≤N
theorem xT{pre post:Sg}{pa ia:Addr}{b w:CV}{rows:List gX}{Q:Fl→bp→Sg→Prop}(hz:rows.length≤8):∀(vs:List CV) (is:List Nat) (p c:Int) (x5:Option CV),J5 rows.length is→is.length+vs.length≤8→0≤p→0≤c→c+2*vs.length≤880→
  (∀is' p' c' x5,J5 rows.length is'→is'.length=is.length+vs.length→0≤p'→0≤c'→c'≤c+2*vs.length→Q .next [some (.ref pa),some b,some (.lst (rows.map b9)),some w,some (.ref ia),x5,none,none,none] ((ia,.lst (b0 is'))::pre++(pa,dU p' c')::post))→
  dJ iS 5 vs [some (.ref pa),some b,some (.lst (rows.map b9)),some w,some (.ref ia),x5,none,none,none] ((ia,.lst (b0 is))::pre++(pa,dU p c)::post) Q
 |[],is,p,c,x5,hI,hl,hp,hc,hm,h=>h is p c x5 hI rfl hp hc (by exact Int.le.intro (2*[].length) rfl)
 |v::vs,is,p,c,x5,hI,hl,hp,hc,hm,h=>by
  simp only[List.length_cons]at hl hm h;have e2:c+2*((vs.length+1:Nat):Int)=c+2+2*vs.length:=by
   show c+2*((vs.length:Int)+1)=_;rw[Int.mul_add,Int.mul_one,Int.add_comm (2*_) 2,Int.add_assoc]
  rw[e2]at hm;have hc8:c≤878:=Int.le_of_add_le_add_right (Int.le_trans (Int.le_add_of_nonneg_right (Int.mul_nonneg (by decide) (Int.natCast_nonneg vs.length))) hm:c+2≤878+2)
  have ih:=fun i p' c' (hi:i≤rows.length) (hp':0≤p') (hc':0≤c') (hcc:c'≤c+2)=>xT (pre:=pre) (post:=post) (pa:=pa) (ia:=ia) (b:=b) (w:=w) (Q:=Q) hz vs (is++[i]) p' c' (some v) (fun k hk=>by
   rcases List.mem_append.mp hk with hk|hk
   ·exact hI k hk
   ·rw[List.mem_singleton.mp hk];exact hi) (Nat.le_trans (Nat.le_of_eq (by rw[List.length_append];exact Nat.succ_add_eq_add_succ _ _)) hl) hp' hc' (Int.le_trans (Int.add_le_add_right hcc _) hm) fun is' p'' c'' x5 h1 h2 h3 h4 h5=>h is' p'' c'' x5 h1 (by rw[h2];simp;exact Nat.succ_add_eq_add_succ is.length vs.length) h3 h4 (Int.le_trans h5 (Int.le_trans (Int.add_le_add_right hcc _) (Int.le_of_eq e2.symm)))
  refine⟨⟨_,.head _⟩,ay (by simp),fun a=>⟨_,_,.head,rfl,(nV rows).1,rfl,?_⟩⟩
  show yE _ (.bool (!PyData.eqv (pd (.lst (rows.map b9))) (pd (.lst [])))) _;rw[HW];have nat_app:∀i:Nat,b0 is++[CV.int (i:Int)]=b0 (is++[i]):=fun i=>by simp[b0,bZ]
  cases hr:rows with
  |nil=>
   refine⟨false,rfl,.n ⟨_,_,.head,ay (by rw[lj];exact Nat.le_trans (I0 hl) (by decide)),?_⟩⟩
   rw[show b0 is++[CV.int 0]=b0 (is++[0])from nat_app 0]
   subst hr;exact ih 0 p c (by exact Nat.zero_le [].length) hp hc (by exact Int.le.intro 2 rfl)
  |cons r rs=>
   refine⟨true,rfl,.y ⟨_,rfl,ay (by rw[←hr,List.length_map];exact Nat.le_trans hz (by decide)),?_⟩⟩
   rw[←hr];refine⟨(ia,_)::pre,post,p,c,rfl,hp,hc,Int.le_trans hc8 (by decide),by decide,by decide,fun d8 p1 h81 h82 hp1=> ?_⟩
   have fin:∀(many:Int),many=rows.length∨many=rows.length+1→bU [CV.ref pa,CV.int many] ((ia,MO.lst (b0 is))::pre++(pa,dU p1 (c+1))::post) fun c sg1=>GW c sg1 (fun O sg2=>dJ iS 5 vs [some (CV.ref pa),some b,some (CV.lst (List.map b9 rows)),some w,some (CV.ref ia),some v,none,none,none] sg2 Q) ia:=by
    intro many hmany;have hpos:1≤rows.length:=by rw[hr];exact Nat.succ_le_succ (Nat.zero_le _)
    have hm1:many≤(rows.length:Int)+1:=hmany.elim (fun e=>e▸Int.le_of_lt (Int.lt_succ _)) Int.le_of_eq;refine⟨(ia,_)::pre,post,p1,c+1,rfl,hp1,Int.le_add_one hc,Int.le_trans (Int.add_le_add_right hc8 1) (by decide),hmany.elim (fun e=>e▸Int.ofNat_le.mpr hpos) (fun e=>e▸Int.le_add_one (Int.ofNat_le.mpr hpos)),Int.le_trans hm1 (Int.le_trans (Int.add_le_add_right (Int.ofNat_le.mpr hz) 1) (by decide)),fun d p2 hd1 hd2 hp2=>⟨_,_,.head,ay (by rw[lj];exact Nat.le_trans (I0 hl) (by decide)),?_⟩⟩
    have:=nat_app d.toNat;rw[show((d.toNat:Nat):Int)=d by exact Int.toNat_of_nonneg hd1]at this
    rw[this];exact ih d.toNat p2 (c+1+1) (Int.toNat_le.mpr (Int.le_of_lt_add_one (Int.lt_of_lt_of_le hd2 hm1))) hp2 (Int.le_add_one (Int.le_add_one hc)) (Int.le_of_eq (Int.add_assoc c 1 1))
   have hlr:((rows.map b9).length:Int)=rows.length:=by rw[List.length_map]
   by_cases e7:d8=7
   ·exact⟨true,by exact(decide_eq_true e7).symm,.y (fin _ (.inr (congrArg (·+1) hlr)))⟩
   ·exact⟨false,by exact(decide_eq_false e7).symm,.n (fin _ (.inl ((Int.add_zero _).trans hlr)))⟩
end
section
variable {W:Wd}{G:CV→List gX→Prop}
theorem LD{α:Type}{l:List α}(h:l.length=1):∃a,l=[a]:=oU h fun a O h=>Er h ⟨a,rfl⟩
theorem LE{α:Type}{l:List α}(h:l.length=2):∃a b,l=[a,b]:=oU h fun a O h=>oU h fun b O h=>Er h ⟨a,b,rfl⟩
theorem Bw(is:List Nat):SeqAt.shaped (pd (.lst (b0 is)))=true∧True:=by
 refine⟨?_,trivial⟩;have h1:∀is:List Nat,PyData.canLayAll0 (GT (b0 is))=true∧PyData.depthAll (GT (b0 is))=0:=by
  intro is;induction is with
  |nil=>exact⟨rfl,rfl⟩
  |cons r rs ih=>exact⟨ih.1,(Nat.zero_max _).trans ih.2⟩
 unfold SeqAt.shaped;rw[show(pd (.lst (b0 is))).canLay0=true from(h1 is).1,Bool.true_and,decide_eq_true_eq]
 show PyData.depthAll (GT (b0 is))+1≤64;rw[(h1 is).2];exact Nat.le_of_ble_eq_true rfl
theorem HK(is:List Nat):(!PyData.eqv (pd (.lst (b0 is))) (pd (.lst [])))= !is.isEmpty:=by
 cases is with
 |nil=>rfl
 |cons r rs=>rfl
noncomputable def nv(N:Nat)(is:List Nat):Bool:= !is.isEmpty&&is.all fun i=>decide (i<N)
theorem Fm{pre post:Sg}{pa ia:Addr}{b w:CV}{rows:List gX}{p c:Int}{x5:Option CV}{is:List Nat}{Q:Fl→bp→Sg→Prop}(hz:rows.length≤8)(hi:is.length≤8)
  (h:gr [some (.ref pa),some b,some (.lst (rows.map b9)),some w,some (.lst (b0 is)),x5,some (.bool (nv rows.length is)),none,none] (pre++(pa,dU p c)::post) Q):
  gu [some (.ref pa),some b,some (.lst (rows.map b9)),some w,some (.ref ia),x5,none,none,none] ((ia,.lst (b0 is))::pre++(pa,dU p c)::post) Q:=by
 show gu _ _ _;refine⟨_,_,_,rfl,.head,rfl,?_⟩;refine⟨ay (by simp),fun a=>⟨_,_,.head,rfl,(Bw is).1,rfl,?_⟩⟩
 show IF _ _ _ (.bool (!PyData.eqv (pd (.lst (b0 is))) (pd (.lst [])))) _;rw[HK];have ei:jY (MO.lst (b0 is)).tree=is.map fun(i:Nat)=> .int (i:Int):=by show b0 is=_;simp[b0,bZ]
 cases h0:is.isEmpty with
 |true=>
  refine⟨false,rfl,.n ?_⟩;rw[show nv rows.length is=false by unfold nv;rw[h0];rfl]at h
  exact h
 |false=>
  refine⟨true,rfl,.y ?_⟩;refine⟨trivial,ay (by rw[ei,List.length_map];exact Nat.le_trans (by assumption) (by decide)),?_⟩
  rw[ei];refine cZ (f:=fun(i:Nat)=>CV.int (i:Int)) (g:=fun(i:Nat)=>CV.int (i:Int)) (p:=fun i=>decide (rows.length≤i)) is [] (fun i hi K hK=> ?_) (fun i hi h K hK=> ?_) ?_
  ·try dsimp only[List.map_cons,List.map_nil,List.cons_append,List.nil_append,List.set_cons_zero,List.set_cons_succ]
   refine⟨_,rfl,ay (by rw[List.length_map];exact Nat.le_trans (by assumption) (by decide)),decide (rows.length≤i),?_,hK⟩
   show _=_;rw[List.length_map]
   congr 1
   simp
  ·try dsimp only[List.map_cons,List.map_nil,List.cons_append,List.nil_append,List.set_cons_zero,List.set_cons_succ]
   exact hK
  ·refine⟨ay (by simp),fun a=>⟨_,_,.head,rfl,?_⟩⟩
   have hl:(is.filter fun i=>decide (rows.length≤i)).length≤is.length:=List.length_filter_le _ _;rw[List.nil_append];refine⟨by rw[List.length_map];exact Nat.le_trans (Nat.le_trans (by assumption) (by assumption)) (by decide),?_⟩
   have e:((is.filter fun i=>decide (rows.length≤i)).map fun(i:Nat)=>CV.int (i:Int)).isEmpty=nv rows.length is:=by
    unfold nv;rw[h0,Bool.eq_iff_iff];simp
   rw[e];exact h
theorem zN{N:Nat}{is:List Nat}(hb:nv N is=true):is≠[]∧∀i∈is,i<N:=by
 unfold nv at hb
 simpa using hb
theorem CI{N:Nat}{is:List Nat}(hb:nv N is=false):is=[]∨∃i∈is,N≤i:=by
 unfold nv at hb;cases is with
 |nil=>exact .inl rfl
 |cons i r=>
  simp only[List.isEmpty_cons,Bool.not_false,Bool.true_and,List.all_eq_false,decide_eq_true_eq,Nat.not_lt]at hb;exact .inr hb
theorem Fo{sg:Sg}{pa:Addr}{bs sh:CV}{rows:List gX}{way:Int}{is:List Nat}{x5:Option CV}{Q:Fl→bp→Sg→Prop}(hG:wQ G)(hg:G sh rows)(hi:is.length≤8)(hw:way=0∨(way=1∧is.length=1)∨(way=2∧is.length=2))
  (h0:nv rows.length is=false→eN [some (.ref pa),some (bO dq bs sh),some (.lst (rows.map b9)),some (.int way),some (.lst (b0 is)),x5,some (.bool false),some .none,none] sg Q)
  (h1:nv rows.length is=true→∀sh' bs',(way=0→bs'= .none∧G sh' (is.map fun i=>rows.getD i (0,0,0)))→(way=1→bs'=bs∧∃n,is=[n]∧n<rows.length∧G sh' (rows.take n++rows.drop (n+1)))→
   (way=2→bs'=bs∧∃n m x,is=[n,m]∧rows[n]? =some x∧G sh' (jf rows n m x))→eN [some (.ref pa),some (bO dq bs sh),some (.lst (rows.map b9)),some (.int way),some (.lst (b0 is)),x5,some (.bool true),some (bO dq bs' sh'),none] sg Q):
  gr [some (.ref pa),some (bO dq bs sh),some (.lst (rows.map b9)),some (.int way),some (.lst (b0 is)),x5,some (.bool (nv rows.length is)),none,none] sg Q:=by
 show gr _ _ _;show mX _ _ _;refine el36 (hG.at_ hg) fun T R d e hd hsm hr O O=> ?_;have hrl:=hr.len;have hB:gj (bO dq bs sh) dq bs T R d:=⟨by rw[e],hd,hsm⟩
 have it:∀{sg:Sg} {x:Nat} {i:Nat} {l:List Nat},l.length≤8→l[i]? =some x→lR sg (.lst (b0 l)) (.int i) (.int x):=fun hl h=> .inr (.inl ⟨_,rfl,Int.natCast_nonneg _,ay (by rw[lj];exact Nat.le_trans hl (by decide)),by show(List.map _ (List.map _ _))[_]? =_;rw[List.map_map,List.getElem?_map,Int.toNat_natCast,h];rfl⟩)
 rcases hw with rfl|⟨rfl,hl⟩|⟨rfl,hl⟩
 ·cases hb:nv rows.length is with
  |true=>
   have hb':=zN hb;exact .inl ⟨true,rfl,.y (by
    exact hG.split hg hb'.1 hi hb'.2 bs sg _ fun sh' hs=>h1 hb sh' .none (fun O=>⟨rfl,hs⟩) (fun h=>(by exact absurd h (by decide))) fun h=>(by exact absurd h (by decide)))⟩
  |false=>exact .inr ⟨true,rfl,fun O=>⟨⟨dq,bs,T,R,d,is,hB,rfl,Nat.le_trans hi (by decide),by rw[hrl];exact CI hb⟩,h0 hb⟩,fun h=>(by exact tf h)⟩
 ·obtain⟨n,rfl⟩:=LD hl;cases hb:nv rows.length [n]with
  |true=>
   have hn:=(zN hb).2 n (.head _);exact .inl ⟨false,rfl,fun h=>(by exact ff h),fun O=>⟨true,rfl,fun O=>⟨.int n,it (i:=0) hi rfl,(by
    exact hG.less hg hn bs sg _ fun sh' hs=>h1 hb sh' bs (fun h=>(by exact absurd h (by decide))) (fun O=>⟨rfl,n,rfl,hn,hs⟩) fun h=>(by exact absurd h (by decide)))⟩,fun h=>(by exact tf h)⟩⟩
  |false=>
   have hn:d.pages.length≤n:=by
    rcases CI hb with h|⟨i,hi,h⟩
    ·cases h
    ·rw[List.mem_singleton.mp hi]at h;exact le_of_eq_of_le hrl h
   exact .inr ⟨false,rfl,fun h=>(by exact ff h),fun O=>⟨true,rfl,fun O=>⟨.int n,it (i:=0) hi rfl,⟨dq,bs,T,R,d,n,hB,hn⟩,h0 hb⟩,fun h=>(by exact tf h)⟩⟩
 ·obtain⟨n,m,rfl⟩:=LE hl;cases hb:nv rows.length [n,m]with
  |true=>
   have hn:=(zN hb).2 n (.head _);have hm:=(zN hb).2 m (.tail _ (.head _));have hx:=List.getElem?_eq_getElem hn;exact .inl ⟨false,rfl,.n ⟨false,rfl,.n ⟨.int n,it (i:=0) hi rfl,.int m,it (i:=1) hi rfl,(by
    exact hG.moved hg hx hm bs sg _ fun sh' hs=>h1 hb sh' bs (fun h=>(by exact absurd h (by decide))) (fun h=>(by exact absurd h (by decide))) fun O=>⟨rfl,n,m,_,rfl,hx,hs⟩)⟩⟩⟩
  |false=>
   have hn:d.pages.length≤n∨d.pages.length≤m:=by
    rcases CI hb with h|⟨i,hi,h⟩
    ·cases h
    ·rcases List.mem_cons.mp hi with e|hi
     ·exact .inl (e▸le_of_eq_of_le hrl h)
     ·exact .inr (List.mem_singleton.mp hi▸le_of_eq_of_le hrl h)
   exact .inr ⟨false,rfl,fun h=>(by exact ff h),fun O=>⟨false,rfl,fun h=>(by exact ff h),fun O=>⟨.int n,it (i:=0) hi rfl,.int m,it (i:=1) hi rfl,⟨dq,bs,T,R,d,n,m,hB,hn⟩,h0 hb⟩⟩⟩
end
section
variable {W:Wd}{G:CV→List gX→Prop}
theorem Fn{sg:Sg}{pa:Addr}{b r w i:CV}{x5:Option CV}{Q:CV→Sg→Prop}(h:Q (.tup [.bool true,b,r]) sg):
  eN [some (.ref pa),some b,some r,some w,some i,x5,some (.bool false),some .none,none] sg (jn Q):=by
 refine⟨false,rfl,.n ?_⟩;exact⟨false,rfl,.y ⟨sm rfl,rs h⟩⟩
theorem vB{sg:Sg}{pa:Addr}{bs bs' sh sh':CV}{r i:CV}{x5:Option CV}{way:Int}{rows:List gX}{Q:CV→Sg→Prop}(hG:wQ G)(hg:G sh' rows)(hb:isNone bs'=((way==0)||isNone bs))(h:Q (.tup [.bool true,bO dq bs' sh',.lst (rows.map b9)]) sg):
  mW [some (.ref pa),some (bO dq bs sh),some r,some (.int way),some i,x5,some (.bool true),some (bO dq bs' sh'),some (.lst (rows.map b9))] sg (jn Q):=by
 have e1:∀x:Bool,(isNone bs' !=x)=false↔x=isNone bs':=fun x=>by cases x<;>cases isNone bs'<;>decide
 have fin:mV [some (.ref pa),some (bO dq bs sh),some r,some (.int way),some i,x5,some (.bool true),some (bO dq bs' sh'),some (.lst (rows.map b9))] sg (jn Q):=by
  obtain⟨T,R,d,rfl,hd,hsm,hr,hc,hf⟩:=hG.at_ hg;exact⟨dq,bs',T,R,d,rows,rfl,rfl,hd,fun s hs=>Nat.le_trans (hsm s hs) (by decide),hr,hc,hf,sm rfl,rs h⟩
 refine⟨_,⟨rfl,rfl⟩,(way==0),rfl,fun hw=>⟨false,?_,.n ⟨_,⟨rfl,rfl⟩,_,rfl,false,rfl,.n (.n fin)⟩⟩,fun hw=>⟨_,⟨rfl,rfl⟩,false,?_,.n ⟨_,⟨rfl,rfl⟩,_,rfl,false,rfl,.n (.n fin)⟩⟩⟩
 ·show _=_;rw[eq_comm,e1,hb,hw];rfl
 ·show _=_;rw[eq_comm,e1,hb,hw];rfl
theorem Fk{sg:Sg}{pa:Addr}{bs bs' sh sh':CV}{x5:Option CV}{way:Int}{is:List Nat}{rows:List gX}{Q:CV→Sg→Prop}(hG:wQ G)(hg:G sh rows)(hi:is.length≤8)(hlt:nv rows.length is=true)(hw:way=0∨way=1∨way=2)
  (k0:way=0→bs'= .none∧G sh' (is.map fun i=>rows.getD i (0,0,0))) (k1:way=1→bs'=bs∧∃n,is=[n]∧n<rows.length∧G sh' (rows.take n++rows.drop (n+1))) (k2:way=2→bs'=bs∧∃n m x,is=[n,m]∧rows[n]? =some x∧G sh' (jf rows n m x))
  (h:∀rows',G sh' rows'→Q (.tup [.bool true,bO dq bs' sh',.lst (rows'.map b9)]) sg):
  eN [some (.ref pa),some (bO dq bs sh),some (.lst (rows.map b9)),some (.int way),some (.lst (b0 is)),x5,some (.bool true),some (bO dq bs' sh'),none] sg (jn Q):=by
 have hz:=hG.len hg;refine⟨false,rfl,.n ?_⟩;refine⟨true,rfl,.n ?_⟩;rcases hw with rfl|rfl|rfl
 ·obtain⟨rfl,hg'⟩:=k0 rfl;have hb':is≠[]∧∀i∈is,i<rows.length:=by
   unfold nv at hlt
   simpa using hlt
  refine⟨true,rfl,.y ?_⟩;have ei:jY (.lst (b0 is))=is.map fun(i:Nat)=> .int (i:Int):=by show List.map _ (List.map _ _)=_;rw[List.map_map];rfl
  refine⟨trivial,ay (by rw[ei,List.length_map];exact Nat.le_trans hi (by decide)),?_⟩
  rw[ei];refine h7 (f:=fun(i:Nat)=>CV.int (i:Int)) (g:=fun(i:Nat)=>b9 (rows.getD i (0,0,0))) is (fun i hi K hK=> ?_) ?_
  ·have h1:=hb'.2 i hi;refine⟨b9 (rows.getD i (0,0,0)),.inr (.inl ⟨_,rfl,Int.natCast_nonneg i,ay (by rw[List.length_map];exact Nat.le_trans hz (by decide)),?_⟩),hK⟩
   rw[List.getElem?_map,Int.toNat_natCast,List.getElem?_eq_getElem h1];simp[List.getD,h1]
  ·have:=vB (x5:=x5) (pa:=pa) (bs:=bs) (sh:=sh) (r:= .lst (rows.map b9)) (way:=0) (i:= .lst (b0 is)) hG hg' rfl (h _ hg');rw[List.map_map]at this;exact this
 ·obtain⟨rfl,n,rfl,hn,hg'⟩:=k1 rfl;refine⟨false,rfl,.n ⟨true,rfl,.y ?_⟩⟩;have e0:lR sg (CV.lst (b0 [n])) (CV.int 0) (.int n):= .inr (.inl ⟨_,rfl,by decide,ay (by simp[b0,bZ]),rfl⟩)
  refine⟨_,e0,?_⟩;have hm:(rows.map b9).length=rows.length:=List.length_map _;have s:∀{n:Nat},n≤(rows.map b9).length→small n:=fun h=>ay (Nat.le_trans h (hm.symm▸Nat.le_trans hz (by decide)))
  refine⟨s (Nat.le_refl _),Int.natCast_nonneg n,_,e0,s (Nat.le_refl _),rfl,Int.natCast_nonneg (n+1),s ?_,?_⟩
  ·rw[←List.length_append];exact zM (rows.map b9) n
  ·have:=vB (x5:=x5) (pa:=pa) (bs:=bs') (sh:=sh) (r:= .lst (rows.map b9)) (way:=1) (i:= .lst (b0 [n])) hG hg' rfl (h _ hg');rw[List.map_append,List.map_take,List.map_drop]at this;rw[←Int.toNat_natCast_add_one (n:=n),←Int.toNat_natCast n]at this;exact this
 ·obtain⟨rfl,n,m,x,rfl,hx,hg'⟩:=k2 rfl;refine⟨false,rfl,.n ⟨false,rfl,.n ?_⟩⟩;have e0:lR sg (CV.lst (b0 [n,m])) (CV.int 0) (.int n):= .inr (.inl ⟨_,rfl,by decide,ay (by simp[b0,bZ]),rfl⟩)
  have e1:lR sg (CV.lst (b0 [n,m])) (CV.int 1) (.int m):= .inr (.inl ⟨_,rfl,by decide,ay (by simp[b0,bZ]),rfl⟩)
  refine⟨_,e0,_,e1,n,m,b9 x,rfl,rfl,by rw[List.getElem?_map,hx];rfl,by rw[List.length_map];exact Nat.le_trans hz (by decide),?_⟩
  have:=vB (x5:=x5) (pa:=pa) (bs:=bs') (sh:=sh) (r:= .lst (rows.map b9)) (way:=2) (i:= .lst (b0 [n,m])) hG hg' rfl (h _ hg');have e:(jf rows n m x).map b9=jf (rows.map b9) n m (b9 x):=by simp[jf,List.map_take,List.map_drop]
  rw[e]at this;exact this
end
section
variable {W:Wd}{G:CV→List gX→Prop}
theorem zX(kf:KF W.K)(kx:KX W.K)(hG:wQ G):Ap W 13 (.ref 779) (iO G):=by
 refine Hn [Str.ofString "pen",Str.ofString "bench",Str.ofString "rows"] [Str.ofString "way",Str.ofString "indexes",Str.ofString "turn",Str.ofString "is_let",Str.ofString "fresh",Str.ofString "due"] rg (kf.f 61 rfl) (by decide) (by decide+kernel) (gY fun O O O O O O O O O O O O=> .of_eq rfl)
  (fun X hn hg hsc hnn hm=>zD (N:=12) kf kx ((bT kf).upb rfl) (ji kf) ((kD kf).upb rfl) ((jh kf).upb rfl) ((kC kf).upb rfl) ((ez kf).upb rfl) ((ja kf kx).up (by decide)) ((kt kf kx).up (by decide)) ((i_ kf kx).up (by decide)) hn hg hsc hnn hm) fun cs sg Q h=> ?_
 ·obtain @⟨pa,b,l,pre,post,p,c,bs,sh,rows,rfl,hp,hc,hc8,rfl,rfl,hg,hq⟩:=h;refine⟨rfl,?_⟩;have hz:=hG.len hg;refine⟨pre,post,p,c,rfl,hp,hc,Int.le_trans hc8 (by decide),by decide,by decide,fun way p1 hw1 hw2 hp1=>⟨sm rfl,fun ia=>⟨sm rfl,rfl,?_⟩⟩⟩
  have tail:∀(is:List Nat) (p2 c2:Int) (x5:Option CV),is.length≤8→(way=0∨(way=1∧is.length=1)∨(way=2∧is.length=2))→0≤p2→0≤c2→c2≤c+18→gu [some (.ref pa),some (bO dq bs sh),some (.lst (rows.map b9)),some (.int way),some (.ref ia),x5,none,none,none] ((ia,.lst (b0 is))::pre++(pa,dU p2 c2)::post) (jn Q):=by
   intro is p2 c2 x5 hi hw hp2 hc2 hc3;refine Fm hz hi (Fo hG hg hi hw (fun O=> ?_) fun hl sh' bs' k0 k1 k2=> ?_)
   ·exact Fn (hq bs sh rows p2 c2 hg hp2 hc2 (Int.le_trans hc3 (Int.add_le_add_left (by decide) c)))
   ·exact Fk hG hg hi hl (hw.imp id (Or.imp And.left And.left)) k0 k1 k2 fun rows' hg'=>hq bs' sh' rows' p2 c2 hg' hp2 hc2 (Int.le_trans hc3 (Int.add_le_add_left (by decide) c))
  show mY _ _ _;refine⟨(ia,_)::pre,post,p1,c+1,rfl,hp1,Int.le_add_one hc,Int.le_trans (Int.add_le_add_right hc8 1) (by decide),by decide,by decide,fun d5 p2 hd1 hd2 hp2=>⟨sm rfl,fun a=>⟨_,_,.head,rfl,?_⟩⟩⟩
  have hway:way=0∨way=1∨way=2:=by lia
  have item:∀sg',∃k:Int,lR sg' (.lst [.int d5,.int 1,.int 2]) (.int way) (.int k)∧0≤k∧k≤4∧(way=1→k=1)∧(way=2→k=2):=by
   intro sg';rcases hway with rfl|rfl|rfl
   ·exact⟨d5,.inr (.inl ⟨_,rfl,by decide,sm rfl,rfl⟩),hd1,Int.le_of_lt_add_one hd2,fun e=>absurd e (by decide),fun e=>absurd e (by decide)⟩
   ·exact⟨1,.inr (.inl ⟨_,rfl,by decide,sm rfl,rfl⟩),by decide,by decide,fun O=>rfl,fun e=>absurd e (by decide)⟩
   ·exact⟨2,.inr (.inl ⟨_,rfl,by decide,sm rfl,rfl⟩),by decide,by decide,fun e=>absurd e (by decide),fun O=>rfl⟩
  refine el15 (item ((ia,MO.lst [])::pre++(pa,dU p2 (c+1+1))::post)) fun k hk hk0 hk4 hk1 hk2=> ?_;refine⟨_,hk,hk0,Int.le_trans hk4 (by decide),?_⟩
  have hu:(oW k).length=k.toNat:=by simp[oW]
  have hu4:(oW k).length≤4:=hu.symm▸Int.toNat_le.mpr hk4;have hc6:c+1+1+2*((oW k).length:Int)≤c+1+1+8:=Int.add_le_add_left (Int.mul_le_mul_of_nonneg_left (Int.ofNat_le.mpr hu4) (by decide)) _
  refine xT hz (oW k) [] p2 (c+1+1) _ (fun i h=>by cases h) (Nat.le_trans (Nat.le_of_eq (Nat.zero_add _)) (Nat.le_trans hu4 (by decide))) hp2 (Int.le_add_one (Int.le_add_one hc)) (Int.le_trans hc6 (Int.le_trans (Int.add_le_add_right (Int.add_le_add_right (Int.add_le_add_right hc8 1) 1) 8) (by decide))) fun is' p3 c3 x5 h1 h2 h3 h4 h5=> ?_
  simp only[List.length_nil,Nat.zero_add]at h2;refine tail is' p3 c3 x5 (h2.symm▸Nat.le_trans hu4 (by decide)) ?_ h3 h4 (Int.le_trans h5 (Int.le_trans hc6 (by rw[Int.add_assoc,Int.add_assoc];exact Int.add_le_add_left (by decide) c)))
  rcases hway with h|h|h
  ·exact .inl h
  ·exact .inr (.inl ⟨h,h2.trans (hu.trans (by rw[hk1 h];rfl))⟩)
  ·exact .inr (.inr ⟨h,h2.trans (hu.trans (by rw[hk2 h];rfl))⟩)
end
section
variable {W:Wd}{G:CV→List gX→Prop}
structure EM where
 bs:CV
 sh:CV
 rows:List gX
noncomputable def EM.cv(e:EM):CV:= .tup [bO dq e.bs e.sh,.lst (e.rows.map b9)]
theorem Bp{pa la:Addr}{script:CV}{x2:Option CV}{Q:Fl→bp→Sg→Prop}:∀(vs:List CV) (es:List EM) (e:EM) (p c:Int) (x6 x7:Option CV),(∀e∈es,G e.sh e.rows)→G e.sh e.rows→es.length+vs.length≤20→0≤p→0≤c→c+20*vs.length≤850→
  (∀(es':List EM) (e':EM) (p' c':Int) (x6 x7:Option CV),(∀e∈es',G e.sh e.rows)→es'.length≤20→Q .next [some script,some (.ref pa),x2,some (.lst (e'.rows.map b9)),some (bO dq e'.bs e'.sh),some (.ref la),x6,x7] [(la,.lst (es'.map EM.cv)),(pa,dU p' c')])→
  dJ (Aq (iO G)) 6 vs [some script,some (.ref pa),x2,some (.lst (e.rows.map b9)),some (bO dq e.bs e.sh),some (.ref la),x6,x7] [(la,.lst (es.map EM.cv)),(pa,dU p c)] Q
 |[],es,e,p,c,x6,x7,hes,he,hz,hp,hc,hc8,h=>h es e p c x6 x7 hes (by simpa using hz)
 |v::vs,es,e,p,c,x6,x7,hes,he,hz,hp,hc,hc8,h=>by
  simp only[List.length_cons]at hz hc8;refine⟨[(la,_)],[],p,c,e.bs,e.sh,e.rows,rfl,hp,hc,by lia,rfl,rfl,he,fun bs' sh' rows' p' c' hg hp' hc' hcc=> ?_⟩
  have ih:=Bp (pa:=pa) (la:=la) (script:=script) (x2:=x2) (Q:=Q) vs (es++[⟨bs',sh',rows'⟩]) ⟨bs',sh',rows'⟩ p' c' (some v) (some (.bool true)) (fun d hd=>by
   rcases List.mem_append.mp hd with hd|hd
   ·exact hes d hd
   ·rw[List.mem_singleton.mp hd];exact hg) hg (by simp;exact Nat.le_trans (Nat.le_of_eq (Nat.succ_add_eq_add_succ _ _)) (by assumption)) hp' hc' (by lia) h
  refine⟨rfl,?_⟩;refine⟨true,rfl,.n ?_⟩;refine⟨⟨_,.head _⟩,sm rfl,_,_,.head,ay (by rw[List.length_map];exact Nat.le_trans (Nat.le_trans (Nat.le_add_right _ _) (by assumption)) (by decide)),?_⟩
  rw[List.map_append]at ih;exact ih
theorem AS{α:Type}{f:α→CV}{a b:α→CV}{pt:PB}{pe:PE}{frs:bp}{sg:Sg}{Q:CV→Sg→Prop}:∀(ss:List α),(∀s∈ss,f s= .tup [a s,b s]∧∀K:Bool→Sg→Prop,K false sg→pt (some (a s)::some (b s)::frs) sg K)→Q (.lst []) sg→Ak xz pt pe frs (ss.map f) [] sg Q
 |[],_,h=>h
 |s::ss,h1,h=>by
  rw[List.map_cons];obtain⟨e,hp⟩:=h1 s (.head _);rw[e];exact⟨_,rfl,hp _ ⟨fun h=>(by exact ff h),fun O=>AS ss (fun t ht=>h1 t (.tail _ ht)) h⟩⟩
theorem F6{pa:Addr}{x0 x2 x3 x4 x6 x7:Option CV}{la:Addr}{p c:Int}(hG:wQ G)(es:List EM)(hes:∀e∈es,G e.sh e.rows)(hz:es.length≤20){Q:CV→Sg→Prop}(h:Q (.bool true) [(pa,dU p c)]):
  AJ (iO G) [x0,some (.ref pa),x2,x3,x4,some (.ref la),x6,x7] [(la,.lst (es.map EM.cv)),(pa,dU p c)] (jn Q):=by
 refine⟨_,_,_,rfl,.head,rfl,trivial,ay (by show(es.map EM.cv).length≤1000;rw[List.length_map];exact Nat.le_trans (by assumption) (by decide)),?_⟩
 show Ak xz _ _ [] (es.map EM.cv) [] _ _;refine AS (a:=fun e=>bO dq e.bs e.sh) (b:=fun e=> .lst (e.rows.map b9)) es (fun e he=>⟨rfl,fun K hK=> ?_⟩) ?_
 ·refine el36 (hG.at_ (hes e he)) fun T R d hsh hd hsm hr hc hf=> ?_;rw[hsh];refine⟨_,⟨rfl,rfl⟩,T,R,d,e.rows,rfl,hd,fun s hs=>Nat.le_trans (hsm s hs) (by exact Nat.le_of_ble_eq_true rfl),hr,?_⟩
  have hs:=nV e.rows;refine⟨hs.1,hs.1,false,?_,hK⟩;show false= !_;rw[hs.2];rfl
 ·refine⟨ay (by simp),fun a=>⟨_,_,.head,rfl,?_⟩⟩
  exact⟨by simp,rs h⟩
theorem HF(hG:wQ G){is:List Int}(hl:is.length≤63){Q:CV→Sg→Prop}(h:∀sg,Q (.bool true) sg):Ig (iO G) [some (.lst (bZ is)),none,none,none,none,none,none,none] [] (jn Q):=by
 refine⟨is,rfl,hl,fun pa p hp=> ?_⟩;refine⟨[],[],p,0,rfl,hp,by decide,by decide,fun top nds p' c' hI hp' hc' hcc=>⟨rfl,?_⟩⟩
 intro a dx t;refine⟨a,dx,_,t,_,_,_,_,rfl,rfl,.head,rfl,.head,.head,rfl,rfl,fun b bdx=>⟨_,_,.head,rfl,?_⟩⟩;have hg:=hG.init hI;refine el36 (hG.at_ hg) fun T R d hsh hd hsm hr hc hf=> ?_;have hz:=hG.len hg;refine⟨dq,_,T,R,d,gf top nds,by rw[←hsh];rfl,rfl,hd,fun s hs=>Nat.le_trans (hsm s hs) (by exact Nat.le_of_ble_eq_true rfl),hr,hc,hf,true,rfl,.n ?_⟩
 refine⟨sm rfl,sm rfl,fun la=> ?_⟩;refine⟨by decide,by decide,?_⟩
 refine Bp (oW 3) [⟨_,_,gf top nds⟩] ⟨_,_,gf top nds⟩ p' c' _ _ (fun e he=>by rw[List.mem_singleton.mp he];exact hg) hg (by simp[oW]) hp' hc' (by simp[oW];lia) fun es' e' p2 c2 x6 x7 h1 h2=> ?_
 exact F6 hG es' h1 h2 (h _)
end
section
variable {W:Wd}{G:CV→List gX→Prop}
theorem Ji(kf:KF W.K)(kx:KX W.K)(hG:wQ G){A:Around}{F:Fz}{v:Value}{is:List Int}{s:Shared}{K E:Value→Shared→Prop}(hh:A.handled=none)(hd:A.depth+3*14≤900)(hu:A.units+30*14≤9000)(hfr:A.frames=some [])
  (C:kO W (fun O=>none) F [] s) (hv:bC W F v (.lst (bZ is))) (hl:is.length≤63) (hK:∀s',(∀a o,F a=some o→s'.heap.get? a=some o)→s'.gens= #[]→s'.os=W.os→K (.bool true) s'):codeAny (model W.prog W.w) A (.call (.ref 784) ⟨[v],[]⟩) (B5 K E) s:=by
 obtain⟨dV,hd',name,qual,kV,doc,pm,an,cdv,ct,oc,od,osl,h1,h2⟩:=(kf.f 62 rfl);have hd':=hd'.resolve_right (by decide)
 subst hd';refine nh (n:=13) (vs':=[v]) (cs':=[.lst (bZ is)]) [Str.ofString "script"] [Str.ofString "pen",Str.ofString "shelf",Str.ofString "rows",Str.ofString "bench",Str.ofString "line",Str.ofString "turn",Str.ofString "is_right"] FK h1 h2 (by decide+kernel) hh (by exact Nat.succ_le_of_lt hd) (by exact Nat.succ_le_of_lt hu) C (BindsTo.of_eq rfl) (.cons hv .nil) rfl fun Xf s1 e1 e2 e3 e4 e5 ek eA ef keep hown hcw hcl R=> ?_
 have hfr':Xf.A.frames=some [Xf.env]:=by rw[eA];exact Around.frames_deeper hfr
 have hcn:∀y c,Xf.env.cells.lookup y=some c→False:=fun y c e=>by
  obtain⟨k,hk⟩:=hcl;rw[hk]at e;have:cellsFrom k Ik.names []=[]:=by rfl
  rw[this]at e;exact ns e
 have him:=Jd (N:=13) kf ((nI kf).upb rfl) ((g6 kf).upb rfl) ((gF kf).upb rfl) ((el kf).upb rfl) ((ez kf).upb rfl) (zX kf kx hG) ((fh kf).upb rfl) e1 e2 e3 e4 e5 hfr' ef hcn;refine him.go (HF hG hl (Q:=fun c O=>c= .bool true) fun O=>rfl) R fun G f g rho' sg' s' le R' hf hg=> ?_;cases g with
 |next=>obtain⟨_,_,h⟩:=hg;cases h
 |ret c=>
  obtain⟨v,rfl,r⟩:=hf;refine el12 hg fun O O h=> ?_;have h:c= .bool true:=h;subst h;cases r;exact hK s' (fun a o e=>R'.fz a o (le a o e)) R'.gens R'.os
 |_=>exact hg.elim
theorem HG(kf:KF W.K)(kx:KX W.K)(hG:wQ G){A:Around}{F:Fz}{v:Value}{is:List Int}{s:Shared}{R:Result→Shared→Prop}(hh:A.handled=none)(hd:A.depth+3*14≤900)(hu:A.units+30*14≤9000)(hfr:A.frames=some [])
  (C:kO W (fun O=>none) F [] s) (hv:bC W F v (.lst (bZ is))) (hl:is.length≤63) (hK:∀s',(∀a o,F a=some o→s'.heap.get? a=some o)→s'.gens= #[]→s'.os=W.os→R (.ok (.ret (.bool true))) s'):codeAny (model W.prog W.w) A (.call (.ref 784) ⟨[v],[]⟩) R s:=
 codeAny_mono (Ji (K:=fun v s'=>R (.ok (.ret v)) s') (E:=fun O O=>False) kf kx hG hh hd hu hfr C hv hl hK) fun r s' h=>by
  rcases r with e|(_|_|_|v)
  ·exact h.elim
  ·exact h.elim
  ·exact h.elim
  ·exact h.elim
  ·exact h
end
theorem nH{α:Type}[BEq α][LawfulBEq α]:∀(l K:List α),l.Nodup→(∀x∈l,x∈K)→l.length≤K.length
 |[],K,_,_=>by simp
 |x::l,K,hn,h=>by
  have hx:x∈K:=h x (.head _);have h1:=List.length_erase_of_mem hx;have h2:0<K.length:=List.length_pos_of_mem hx;have:=nH l (K.erase x) (List.nodup_cons.mp hn).2 fun y hy=>(List.mem_erase_of_ne (fun e=>(List.nodup_cons.mp hn).1 (by rw[←e];exact hy))).mpr (h y (.tail _ hy))
  exact Nat.le_trans (Nat.succ_le_succ (h1▸this)) (Nat.le_of_eq (Nat.sub_add_cancel h2))
theorem cN{l:Hd}{k:Str}{v:CV}(x:Str):(cA l [(k,v)]).lookup x=if x=k then(if isNone v=true then none else some v)else l.lookup x:=by
 show(if isNone v=true then mB k l else bk k v l).lookup x=_
 by_cases h:isNone v=true
 ·simp only[h,if_true];rw[j0]
 ·simp only[h];rw[show(if false=true then mB k l else bk k v l)=bk k v l from rfl,aN];rfl
theorem tM{l:Hd}(x:Str):∀(ks:List Str) (m:Hd),(gi l m ks).lookup x=if x∈ks then(l.lookup x).or (m.lookup x)else m.lookup x
 |[],m=>rfl
 |k::ks,m=>by
  unfold gi;rw[tM x ks];by_cases e:x=k
  ·obtain rfl:=e.symm;cases h:l.lookup k with
   |none=>simp
   |some c=>simp[aN]
  ·have:(x∈k::ks)↔x∈ks:=by simp[e]
   simp only[this];cases h:l.lookup k with
   |none=>rfl
   |some c=>simp only[aN,if_neg e]
theorem tK{l m:Hd}(x:Str):∀(ks:List Str) (f:Hd),(∀k∈ks,f.lookup k=l.lookup k∨((f.lookup k)=m.lookup k∧l.lookup k=none))→(ko l m ks f).lookup x=if x∈ks then(l.lookup x).or (m.lookup x)else f.lookup x
 |[],f,_=>rfl
 |k::ks,f,hf=>by
  have hk:=hf k (.head _);have step:∀f':Hd,(∀y,f'.lookup y=if y=k then(l.lookup k).or (m.lookup k)else f.lookup y)→(ko l m ks f').lookup x=if x∈k::ks then(l.lookup x).or (m.lookup x)else f.lookup x:=by
   intro f' h';rw[tK x ks f' fun y hy=> ?_]
   ·by_cases e:x=k
    ·obtain rfl:=e.symm;by_cases h2:k∈ks<;>simp[h2,h']
    ·simp[e,h']
   ·rw[h'];by_cases e:y=k
    ·obtain rfl:=e.symm;rw[if_pos rfl];cases l.lookup k<;>simp
    ·rw[if_neg e];exact hf y (.tail _ hy)
  refine step _ fun y=> ?_;cases h1:m.lookup k with
  |none=>
   cases h2:l.lookup k with
   |none=>
    by_cases e:y=k
    ·obtain rfl:=e.symm;rw[h1,h2]at hk;simpa using hk
    ·rw[if_neg e]
   |some c=>
    by_cases e:y=k
    ·obtain rfl:=e.symm;rw[h2]at hk;rw[if_pos rfl];simpa using hk
    ·rw[if_neg e]
  |some c=>
   cases h2:l.lookup k with
   |none=>simp only[aN];by_cases e:y=k<;>simp[e]
   |some d=>
    by_cases e:y=k
    ·obtain rfl:=e.symm;rw[h2]at hk;rw[if_pos rfl];simpa using hk
    ·simp[if_neg e]
theorem vJ{l m:Hd}(x:Str):(ko l m bM l).lookup x=if x∈bM then(l.lookup x).or (m.lookup x)else l.lookup x:=tK x bM l fun O O=> .inl rfl
noncomputable abbrev Ds(x:Int):CV:= .lst [.int 1,.int 1,.int 5,.int x]
def wN(r:Int)(pg:Bool)(k:Str)(v:CV):Prop:=
 (k=dB∧v=if pg=true then xL else lN)∨(k=aJ∧∃q,v=aG q)∨(k=iB∧∃i,v= .int i)∨(k=cx∧∃i,v= .int i)∨(k=ww∧v=DY)∨(k=td∧v=aG r)∨(k=iA∧∃x,v=Ds x)∨
  (pg=false∧((k=dn∧∃ks:List Int,v= .lst (ks.map aG)∧ks.length≤60)∨(k=bb∧∃i,v= .int i)))
structure ck(r:Int)(pg:Bool)(l:Hd):Prop where
 nd:(l.map (·.1)).Nodup
 sh:∀p∈l,wN r pg p.1 p.2
noncomputable def Hg:List Str:=[dB,aJ,iB,cx,ww,td,iA,dn,bb]
theorem wN.key{r:Int}{pg:Bool}{k:Str}{v:CV}(h:wN r pg k v):k∈Hg:=by
 rcases h with⟨rfl,_⟩|⟨rfl,_⟩|⟨rfl,_⟩|⟨rfl,_⟩|⟨rfl,_⟩|⟨rfl,_⟩|⟨rfl,_⟩|⟨_,⟨rfl,_⟩|⟨rfl,_⟩⟩<;>simp[Hg]
theorem ck.len{r:Int}{pg:Bool}{l:Hd}(h:ck r pg l):l.length≤9:=by
 have:=nH (l.map (·.1)) Hg h.nd fun x hx=>by
  obtain⟨p,hp,rfl⟩:=List.mem_map.mp hx;exact(h.sh p hp).key
 simpa [Hg] using this
theorem ck.set{r:Int}{pg:Bool}{l:Hd}(h:ck r pg l){k:Str}{v:CV}(hv:wN r pg k v):ck r pg (bk k v l):=
 ⟨qp h.nd,fun p hp=>by
  rcases fH hp with rfl|hp
  ·exact hv
  ·exact h.sh p hp⟩
theorem ck.del{r:Int}{pg:Bool}{l:Hd}(h:ck r pg l)(k:Str):ck r pg (mB k l):=
 ⟨h.nd.sublist (List.filter_sublist.map _),fun p hp=>h.sh p (List.mem_filter.mp hp).1⟩
theorem ck.turn{r:Int}{pg:Bool}:∀{ch l:Hd},ck r pg l→(∀p∈ch,isNone p.2=true∨wN r pg p.1 p.2)→ck r pg (cA l ch)
 |[],l,h,_=>h
 |(k,v)::ch,l,h,hc=>by
  show ck r pg (cA (if isNone v=true then mB k l else bk k v l) ch)
  refine ck.turn ?_ fun p hp=>hc p (.tail _ hp);split
  ·exact h.del k
  ·exact h.set ((hc (k,v) (.head _)).resolve_left ‹_›)
set_option tactic.hygienic true in
theorem ot{K V:Type}[BEq K][LawfulBEq K]{k:K}{c:V}:∀{l:List (K×V)},l.lookup k=some c→(k,c)∈l
 |p::r,h=>by
  rw[List.lookup_cons]at h;split at h
  ·rename_i e;cases h;rw[eq_of_beq e];exact .head _
  ·exact .tail _ (ot h)
theorem ck.at_{r:Int}{pg:Bool}{l:Hd}(h:ck r pg l){k:Str}{c:CV}(e:l.lookup k=some c):wN r pg k c:=h.sh _ (ot e)
theorem wN.inh{r:Int}{pg pg':Bool}{k:Str}{v:CV}(h:wN r pg k v)(hk:k∈bM):wN r pg' k v:=by
 unfold bM at hk;rcases h with⟨rfl,_⟩|⟨rfl,_⟩|⟨rfl,_⟩|h|h|h|h|⟨_,⟨rfl,_⟩|⟨rfl,_⟩⟩
 ·exact absurd hk (by decide)
 ·exact absurd hk (by decide)
 ·exact absurd hk (by decide)
 ·exact .inr (.inr (.inr (.inl h)))
 ·exact .inr (.inr (.inr (.inr (.inl h))))
 ·exact .inr (.inr (.inr (.inr (.inr (.inl h)))))
 ·exact .inr (.inr (.inr (.inr (.inr (.inr (.inl h))))))
 ·exact absurd hk (by decide)
 ·exact absurd hk (by decide)
theorem ck.inh{r:Int}{pg pg':Bool}{l:Hd}(h:ck r pg l):∀{ks:List Str} {m:Hd},ck r pg' m→(∀k∈ks,k∈bM)→ck r pg' (gi l m ks)
 |[],m,hm,_=>hm
 |k::ks,m,hm,hk=>by
  unfold gi;refine ck.inh h ?_ fun k hk'=>hk k (.tail _ hk');cases e:l.lookup k with
  |none=>exact hm
  |some c=>exact hm.set ((h.at_ e).inh (hk k (.head _)))
theorem ck.fld{r:Int}{pg pg':Bool}{l m:Hd}(hm:ck r pg' m):∀{ks:List Str} {f:Hd},ck r pg f→(∀k∈ks,k∈bM)→ck r pg (ko l m ks f)
 |[],f,hf,_=>hf
 |k::ks,f,hf,hk=>by
  unfold ko;refine ck.fld hm ?_ fun k hk'=>hk k (.tail _ hk');cases e:m.lookup k with
  |none=>exact hf
  |some c=>
   cases l.lookup k with
   |none=>exact hf.set ((hm.at_ e).inh (hk k (.head _)))
   |some d=>exact hf
theorem Hr{r:Int}{pg:Bool}:ck r pg []:=⟨.nil,fun p hp=>by cases hp⟩
theorem ck.fetch{r:Int}{pg:Bool}{l:Hd}(h:ck r pg l){T:Tb}(hT:T.lookup r=some (cP (.sd fu))):DQ T l:=fun k hk c e=>by
 rcases(h.at_ e).inh (pg':=true) hk with⟨rfl,_⟩|⟨rfl,_⟩|⟨rfl,_⟩|⟨_,i,rfl⟩|⟨_,rfl⟩|⟨_,rfl⟩|⟨_,x,rfl⟩|⟨h,_⟩
 ·exact absurd hk (by decide)
 ·exact absurd hk (by decide)
 ·exact absurd hk (by decide)
 ·exact⟨_,.inl ⟨trivial,rfl⟩,rfl⟩
 ·exact⟨_,.inl ⟨trivial,rfl⟩,rfl⟩
 ·exact⟨_,.inr ⟨r,rfl,hT,trivial⟩,rfl⟩
 ·exact⟨_,.inl ⟨trivial,rfl⟩,rfl⟩
 ·exact tf h
noncomputable abbrev R0:Hd:=[(rV,aG 1)]
noncomputable def bm(T:Tb)(n:Int):Hd:=match T.lookup n with
 |some (.tup [_,.sd l])=>l
 |_=>[]
theorem bz{T:Tb}{n:Int}{l:Hd}(h:T.lookup n=some (cP (.sd l))):bm T n=l:=by unfold bm;rw[h];rfl
theorem bw{T:Tb}{n m:Int}{l:Hd}:(bW n l T).lookup m=if m=n then some (cP (.sd l))else T.lookup m:=aN _ _ _ _
theorem jV{T:Tb}{n m:Int}{l:Hd}:bm (bW n l T) m=if m=n then l else bm T m:=by
 unfold bm;rw[bw];by_cases e:m=n
 ·rw[if_pos e,if_pos e];rfl
 ·rw[if_neg e,if_neg e]
inductive SI where
 |page (n:Int)
 |node (n:Int) (ps:List Int)
noncomputable def SI.num:SI→Int
 | .page n=>n
 | .node n _=>n
noncomputable def SI.nums:SI→List Int
 | .page n=>[n]
 | .node n ps=>n::ps
noncomputable def aZ(S:List SI):List Int:=2::S.flatMap SI.nums
noncomputable def Bn(T:Tb):SI→pI
 | .page n=> .page ⟨n,bm T n⟩
 | .node n ps=> .node n (bm T n) (ps.map fun p=>⟨p,bm T p⟩)
noncomputable def bP(T:Tb)(S:List SI):dZ:=⟨bm T 2,S.map (Bn T)⟩
structure gl(T:Tb)(r:Int)(pg:Bool)(n:Int):Prop where
 hat:T.lookup n=some (cP (.sd (bm T n)))
 ok:ck r pg (bm T n)
 ty:(bm T n).lookup dB=some (if pg=true then xL else lN)
structure iC(T:Tb)(r:Int)(n:Int)(ks:List Int):Prop where
 hd:gl T r false n
 ks:(bm T n).lookup dn=some (.lst (ks.map aG))
 ct:∃i,(bm T n).lookup bb=some (.int i)
def B7(T:Tb)(r:Int):SI→Prop
 | .page n=>gl T r true n
 | .node n ps=>iC T r n ps∧∀p∈ps,gl T r true p
structure bN(T:Tb)(r:Int)(S:List SI):Prop where
 len:T.length≤30
 knd:(T.map (·.1)).Nodup
 any:∀p∈T,p.1=1∨p.1=r∨∃pg l,p.2=cP (.sd l)∧ck r pg l
 one:T.lookup 1=some (cP (.sd gz))
 fnt:T.lookup r=some (cP (.sd fu))
 nd:(aZ S).Nodup
 n1:1∉aZ S
 nr:r∉aZ S
 r1:r≠1
 top:iC T r 2 (S.map SI.num)
 its:∀i∈S,B7 T r i
theorem FY(T:Tb)(i:SI):(Bn T i).num=i.num:=by cases i<;>rfl
theorem Eo(T:Tb)(i:SI):(Bn T i).nums=i.nums:=by
 cases i with
 |page n=>rfl
 |node n ps=>
  show n::((ps.map fun p=>(⟨p,bm T p⟩:EZ)).map (·.n))=n::ps;rw[List.map_map,show((fun p:EZ=>p.n)∘fun p=>(⟨p,bm T p⟩:EZ))=id from rfl,List.map_id]
theorem qd(T:Tb)(S:List SI):(bP T S).nums=aZ S:=by
 show 2::((S.map (Bn T)).flatMap pI.nums)=_;rw[List.flatMap_map]
 congr 1
 exact congrArg (List.flatMap · S) (funext fun i=>Eo T i)
theorem ic{S:List SI}{i:SI}(h:i∈S):∀n∈i.nums,n∈aZ S:=fun n hn=>List.mem_cons_of_mem _ (List.mem_flatMap.mpr ⟨i,h,hn⟩)
theorem lm(i:SI):i.num∈i.nums:=by cases i<;>exact .head _
theorem me{K V:Type}[BEq K][LawfulBEq K]{k:K}{l:List (K×V)}{c:V}(h:l.lookup k=some c):k∈l.map (·.1):=List.mem_map.mpr ⟨_,ot h,rfl⟩
theorem bN.there{T:Tb}{r:Int}{S:List SI}(h:bN T r S){n:Int}(hn:n∈aZ S):∃pg,gl T r pg n:=by
 rcases List.mem_cons.mp hn with rfl|hn
 ·exact⟨_,h.top.hd⟩
 ·refine el12 (List.mem_flatMap.mp hn) fun i hi hn=> ?_;have:=h.its i hi;cases i with
  |page m=>rw[List.mem_singleton.mp hn];exact⟨_,this⟩
  |node m ps=>
   rcases List.mem_cons.mp hn with rfl|hn
   ·exact⟨_,this.1.hd⟩
   ·exact⟨_,this.2 _ hn⟩
theorem bN.size{T:Tb}{r:Int}{S:List SI}(h:bN T r S):(aZ S).length≤30:=by
 have:=nH (aZ S) (T.map (·.1)) h.nd fun n hn=>let⟨pg,hh⟩:=h.there hn;me hh.hat;rw[List.length_map]at this;have:=h.len;exact Nat.le_trans (Nat.le_trans (by assumption) (by assumption)) (by decide)
theorem E0{T:Tb}{r:Int}{n:Int}(hf:T.lookup r=some (cP (.sd fu)))(h:gl T r true n):Lc T ⟨n,bm T n⟩:=⟨h.hat,h.ty,h.ok.fetch hf⟩
theorem HI(S:List SI)(T:Tb):((S.map (Bn T)).map fun i=>aG i.num)=(S.map SI.num).map aG:=by
 rw[List.map_map,List.map_map];exact List.map_congr_left fun i O=>by show aG (Bn T i).num=_;rw[FY];rfl
theorem bN.doc{T:Tb}{r:Int}{S:List SI}(h:bN T r S):iu T R0 (bP T S) where
 root:=⟨gz,.inr ⟨1,rfl,h.one,trivial⟩,rfl⟩
 t2:=h.top.hd.hat
 ty:=h.top.hd.ty
 ks:=by rw[show((bP T S).its.map fun i=>aG i.num)=(S.map SI.num).map aG from HI S T];exact h.top.ks
 ok:=h.top.hd.ok.fetch h.fnt
 its:=fun i hi=>by
  obtain⟨j,hj,rfl⟩:=List.mem_map.mp hi;have hh:=h.its j hj;cases j with
  |page n=>exact E0 h.fnt hh
  |node n ps=>
   refine⟨hh.1.hd.hat,hh.1.hd.ty,?_,hh.1.hd.ok.fetch h.fnt,fun p hp=> ?_⟩
   ·rw[List.map_map];exact hh.1.ks
   ·obtain⟨q,hq,rfl⟩:=List.mem_map.mp hp;exact E0 h.fnt (hh.2 q hq)
 nd:=by rw[qd];exact h.nd
 sz:=by rw[qd];exact Nat.le_trans h.size (by decide)
structure En where
 n:Int
 ab:List Int
 pg:Bool
noncomputable def vG:SI→List En
 | .page n=>[⟨n,[2],true⟩]
 | .node n ps=>⟨n,[2],false⟩::ps.map fun p=>⟨p,[2,n],true⟩
noncomputable def c7(S:List SI):List En:=⟨2,[],false⟩::S.flatMap vG
noncomputable def F9(T:Tb)(m:Hd):List Int→Hd
 |[]=>m
 |q::qs=>F9 T (gi (bm T q) m bM) qs
noncomputable def aW(T:Tb)(e:En):aS:=⟨e.n,bm T e.n,e.ab,F9 T [] (e.ab++[e.n]),e.pg⟩
theorem cO(T:Tb)(S:List SI):(bP T S).spots=(c7 S).map (aW T):=by
 show(⟨2,bm T 2,[],_,false⟩:aS)::((S.map (Bn T)).flatMap (iN [2] _))=aW T ⟨2,[],false⟩::(S.flatMap vG).map (aW T);rw[List.flatMap_map,List.map_flatMap]
 congr 1
 refine congrArg (List.flatMap · S) (funext fun i=> ?_);cases i with
 |page n=>rfl
 |node n ps=>
  show(⟨n,bm T n,[2],_,false⟩:aS)::((ps.map fun p=>(⟨p,bm T p⟩:EZ)).map (s8 ([2]++[n]) _))=aW T ⟨n,[2],false⟩::(ps.map fun p=>(⟨p,[2,n],true⟩:En)).map (aW T);rw[List.map_map,List.map_map];rfl
noncomputable def aV(S:List SI):List En:=(c7 S).filter (·.pg)
theorem df(T:Tb)(S:List SI):(bP T S).pages=(aV S).map (aW T):=by
 unfold dZ.pages aV;rw[cO,List.filter_map];rfl
theorem Co(i:SI):(vG i).map (·.n)=i.nums:=by
 cases i with
 |page n=>rfl
 |node n ps=>
  show n::((ps.map fun p=>(⟨p,[2,n],true⟩:En)).map (·.n))=n::ps;rw[List.map_map,show((fun e:En=>e.n)∘fun p=>(⟨p,[2,n],true⟩:En))=id from rfl,List.map_id]
theorem ga(S:List SI):(c7 S).map (·.n)=aZ S:=by
 show 2::(S.flatMap vG).map (·.n)=_;rw[List.map_flatMap]
 congr 1
 exact congrArg (List.flatMap · S) (funext fun i=>Co i)
theorem j9(T:Tb)(S:List SI):(bP T S).spots.map (·.n)=aZ S:=by
 rw[cO,List.map_map,←ga];exact List.map_congr_left fun e O=>rfl
theorem En.mem_n{S:List SI}{e:En}(h:e∈c7 S):e.n∈aZ S:=by rw[←ga];exact List.mem_map_of_mem h
theorem En.cases{S:List SI}{e:En}(h:e∈c7 S):e=⟨2,[],false⟩∨(∃n,SI.page n∈S∧e=⟨n,[2],true⟩)∨(∃n ps,SI.node n ps∈S∧e=⟨n,[2],false⟩)∨(∃n ps p,SI.node n ps∈S∧p∈ps∧e=⟨p,[2,n],true⟩):=by
 rcases List.mem_cons.mp h with rfl|h
 ·exact .inl rfl
 ·refine el12 (List.mem_flatMap.mp h) fun i hi h=> ?_;cases i with
  |page n=>exact .inr (.inl ⟨n,hi,List.mem_singleton.mp h⟩)
  |node n ps=>
   rcases List.mem_cons.mp h with rfl|h
   ·exact .inr (.inr (.inl ⟨n,ps,hi,rfl⟩))
   ·obtain⟨p,hp,rfl⟩:=List.mem_map.mp h;exact .inr (.inr (.inr ⟨n,ps,p,hi,hp,rfl⟩))
theorem fU(S:List SI):(2:Int)∈aZ S:= .head _
theorem nG{S:List SI}{n:Int}{ps:List Int}(h:SI.node n ps∈S):n∈aZ S:=ic h _ (.head _)
theorem En.ab_mem{S:List SI}{e:En}(h:e∈c7 S):∀k∈e.ab,k∈aZ S:=by
 rcases En.cases h with rfl|⟨n,hi,rfl⟩|⟨n,ps,hi,rfl⟩|⟨n,ps,p,hi,hp,rfl⟩<;>intro k hk
 ·cases hk
 ·rw[List.mem_singleton.mp hk];exact fU S
 ·rw[List.mem_singleton.mp hk];exact fU S
 ·rcases List.mem_cons.mp hk with rfl|hk
  ·exact fU S
  ·rw[List.mem_singleton.mp hk];exact nG hi
theorem En.ab_len{S:List SI}{e:En}(h:e∈c7 S):e.ab.length≤2:=by
 rcases En.cases h with rfl|⟨n,hi,rfl⟩|⟨n,ps,hi,rfl⟩|⟨n,ps,p,hi,hp,rfl⟩<;>simp
theorem eF{S:List SI}(h:(aZ S).Nodup){i:SI}(hi:i∈S):∀n∈i.nums,n≠2:=fun n hn e=>by
 subst e;exact(List.nodup_cons.mp h).1 (List.mem_flatMap.mpr ⟨i,hi,hn⟩)
theorem En.ab_nd{S:List SI}(hd:(aZ S).Nodup){e:En}(h:e∈c7 S):e.ab.Nodup:=by
 rcases En.cases h with rfl|⟨n,hi,rfl⟩|⟨n,ps,hi,rfl⟩|⟨n,ps,p,hi,hp,rfl⟩
 ·exact .nil
 ·exact List.nodup_cons.mpr ⟨by simp,.nil⟩
 ·exact List.nodup_cons.mpr ⟨by simp,.nil⟩
 ·refine List.nodup_cons.mpr ⟨?_,List.nodup_cons.mpr ⟨by simp,.nil⟩⟩
  simp only[List.mem_singleton];exact fun e=>eF hd hi n (.head _) e.symm
theorem Dp:∀(ss:List aS) (f:CF) (n:Int),(ss.map (·.n)).Nodup→(∀s∈ss,s.n=n→Cf f ss n=some (if s.pg=true then 1 else 0))∧(n∉ss.map (·.n)→Cf f ss n=f n)
 |[],f,n,_=>⟨fun s h=>(by exact mn h),fun O=>rfl⟩
 |s::ss,f,n,hn=>by
  simp only[List.map_cons]at hn;have hn:=List.nodup_cons.mp hn;have ih:=Dp ss (f.upd s.n (if s.pg=true then 1 else 0)) n hn.2
  refine⟨fun t ht e=> ?_,fun h=> ?_⟩
  ·rcases List.mem_cons.mp ht with rfl|ht
   ·subst e;refine(ih.2 hn.1).trans ?_;unfold CF.upd;rw[if_pos rfl]
   ·exact ih.1 t ht e
  ·simp only[List.map_cons,List.mem_cons,not_or]at h;refine(ih.2 h.2).trans ?_;unfold CF.upd;rw[if_neg h.1]
theorem zI:∀(ks:List Int) (f:CF) (n:Int),ks.Nodup→(∀k∈ks,(f k).isSome=true)→Bm f ks n=(f n).map fun i=>i+(if n∈ks then 1 else 0)
 |[],f,n,_,_=>by simp[Bm]
 |k::ks,f,n,hn,hs=>by
  have hn:=List.nodup_cons.mp hn;unfold Bm;rw[zI ks _ n hn.2 fun j hj=> ?_]
  ·unfold CF.upd;by_cases e:n=k
   ·obtain rfl:=e.symm;rw[if_pos rfl];obtain⟨v,hv⟩:=Option.isSome_iff_exists.mp (hs k (.head _));simp[hv,hn.1]
   ·rw[if_neg e];simp[e]
  ·unfold CF.upd;by_cases e:j=k
   ·rw[if_pos e];rfl
   ·rw[if_neg e];exact hs j (.tail _ hj)
theorem za:∀(ss:List aS) (f:CF) (n:Int),(∀s∈ss,s.ab.Nodup∧∀k∈s.ab,(f k).isSome=true)→D0 f ss n=(f n).map fun i=>i+((ss.countP fun s=>s.pg&&decide (n∈s.ab):Nat):Int)
 |[],f,n,_=>by simp[D0]
 |s::ss,f,n,h=>by
  unfold D0;obtain⟨h1,h2⟩:=h s (.head _);by_cases hp:s.pg=true
  ·rw[if_pos hp,za ss _ n fun t ht=>⟨(h t (.tail _ ht)).1,fun k hk=> ?_⟩,zI _ _ _ h1 h2,List.countP_cons]
   ·cases f n with
    |none=>rfl
    |some v=>
     simp only[Option.map_some,Option.some.injEq,hp,Bool.true_and,decide_eq_true_eq];by_cases hm:n∈s.ab
     ·simp[hm];lia
     ·simp[hm]
   ·rw[zI _ _ _ h1 h2];obtain⟨v,hv⟩:=Option.isSome_iff_exists.mp ((h t (.tail _ ht)).2 k hk);rw[hv];rfl
  ·rw[if_neg hp,za ss _ n fun t ht=>h t (.tail _ ht),List.countP_cons];simp[hp]
noncomputable def w9(S:List SI)(e:En):Int:=(if e.pg=true then 1 else 0)+(((c7 S).countP fun t=>t.pg&&decide (e.n∈t.ab):Nat):Int)
theorem qb{T:Tb}{S:List SI}(hd:(aZ S).Nodup){e:En}(he:e∈c7 S):ki (bP T S).spots e.n=some (w9 S e):=by
 have hn:((bP T S).spots.map (·.n)).Nodup:=by rw[j9];exact hd
 have c1:∀e∈c7 S,Cf (fun O=>none) (bP T S).spots e.n=some (if e.pg=true then 1 else 0):=fun e he=>
  (Dp _ _ e.n hn).1 (aW T e) (by rw[cO];exact List.mem_map_of_mem he) rfl
 unfold ki;rw[za _ _ _ fun s hs=> ?_,c1 e he,cO,List.countP_map]
 ·rfl
 ·rw[cO]at hs;obtain⟨t,ht,rfl⟩:=List.mem_map.mp hs;refine⟨En.ab_nd hd ht,fun k hk=> ?_⟩;have:=En.ab_mem ht k hk;rw[←ga]at this;obtain⟨u,hu,rfl⟩:=List.mem_map.mp this;rw[c1 u hu];rfl
theorem vA{S:List SI}:w9 S ⟨2,[],false⟩=(aV S).length:=by
 unfold w9 aV;rw[if_neg (by simp),Int.zero_add,←List.countP_eq_length_filter]
 congr 1
 refine List.countP_congr fun t ht=> ?_;have:t.pg=true→(2:Int)∈t.ab:=by
  rcases En.cases ht with rfl|⟨n,hi,rfl⟩|⟨n,ps,hi,rfl⟩|⟨n,ps,p,hi,hp,rfl⟩<;>simp
 cases hp:t.pg with
 |true=>simp[this hp]
 |false=>simp
theorem qW{S:List SI}{q:Int}(h2:q≠2)(hq:∀i∈S,q∉i.nums):(S.flatMap vG).countP (fun t=>t.pg&&decide (q∈t.ab))=0:=by
 rw[List.countP_eq_zero];intro t ht;refine el12 (List.mem_flatMap.mp ht) fun i hi ht=> ?_;have:=hq i hi;cases i with
 |page n=>rw[List.mem_singleton.mp ht];simp[h2]
 |node n ps=>
  have hn:q≠n:=fun e=>this (e▸.head _);rcases List.mem_cons.mp ht with rfl|ht
  ·simp
  ·obtain⟨p,hp,rfl⟩:=List.mem_map.mp ht;simp[h2,hn]
theorem fy{A B:List SI}{i:SI}(h:(aZ (A++i::B)).Nodup):(∀j∈A,∀n∈i.nums,n∉j.nums)∧(∀j∈B,∀n∈i.nums,n∉j.nums)∧(∀n∈i.nums,n≠2)∧i.nums.Nodup:=by
 have h0:=List.nodup_cons.mp h;rw[List.flatMap_append,List.flatMap_cons]at h0;obtain⟨h1,h2⟩:=h0;have h3:=List.nodup_append.mp h2;have h4:=List.nodup_append.mp h3.2.1;refine⟨fun j hj n hn hn'=> ?_,fun j hj n hn hn'=> ?_,fun n hn e=> ?_,h4.1⟩
 ·exact h3.2.2 n (List.mem_flatMap.mpr ⟨j,hj,hn'⟩) n (List.mem_append_left _ hn) rfl
 ·exact h4.2.2 n hn n (List.mem_flatMap.mpr ⟨j,hj,hn'⟩) rfl
 ·subst e;exact h1 (List.mem_append_right _ (List.mem_append_left _ hn))
theorem rG{S:List SI}(h:(aZ S).Nodup){i j:SI}(hi:i∈S)(hj:j∈S)(hne:i≠j){x:Int}(hx:x∈i.nums)(hx':x∈j.nums):False:=by
 obtain⟨A,B,rfl⟩:=List.append_of_mem hj;rcases List.mem_append.mp hi with hi|hi
 ·exact(fy h).1 _ hi x hx' hx
 ·rcases List.mem_cons.mp hi with hi|hi
  ·exact hne hi
  ·exact(fy h).2.1 _ hi x hx' hx
theorem zQ{S:List SI}(h:(aZ S).Nodup){i:SI}(hi:i∈S):i.nums.Nodup:=by
 obtain⟨A,B,rfl⟩:=List.append_of_mem hi;exact(fy h).2.2.2
theorem vz{A B:List SI}{q:Int}{ps:List Int}(h:(aZ (A++ .node q ps::B)).Nodup):w9 (A++ .node q ps::B) ⟨q,[2],false⟩=ps.length:=by
 refine Fu (fy h) fun h1 h2 h3 O=> ?_;have hq2:=h3 q (.head _);unfold w9 c7;rw[if_neg (by simp),Int.zero_add,List.countP_cons,List.flatMap_append,List.countP_append,List.flatMap_cons,List.countP_append,
  qW hq2 (fun i hi=>h1 i hi q (.head _)),qW hq2 (fun i hi=>h2 i hi q (.head _))]
 have:(vG (.node q ps)).countP (fun t=>t.pg&&decide (q∈t.ab))=ps.length:=by
  show(⟨q,[2],false⟩::ps.map fun p=>(⟨p,[2,q],true⟩:En)).countP _=_;rw[List.countP_cons,List.countP_map];simp only[Bool.false_and,Bool.false_eq_true,if_false,Nat.add_zero];have:(fun t:En=>t.pg&&decide (q∈t.ab))∘(fun p=>(⟨p,[2,q],true⟩:En))=fun O=>true:=by
   funext p;simp
  rw[this];simp
 rw[this];simp
noncomputable def A6(T:Tb)(k:Str)(acc:Option CV)(qs:List Int):Option CV:=qs.foldl (fun a q=>((bm T q).lookup k).or a) acc
noncomputable def Cm(T:Tb)(e:En)(k:Str):Option CV:=A6 T k none (e.ab++[e.n])
theorem tN{T:Tb}{k:Str}(hk:k∈bM):∀(qs:List Int) (m:Hd),(F9 T m qs).lookup k=A6 T k (m.lookup k) qs
 |[],m=>rfl
 |q::qs,m=>by
  unfold F9;rw[tN hk qs,tM,if_pos hk];rfl
theorem A7{T:Tb}{e:En}{k:Str}:Cm T e k=((bm T e.n).lookup k).or (A6 T k none e.ab):=by
 unfold Cm A6;rw[List.foldl_append];rfl
theorem GJ{T:Tb}{e:En}{k:Str}(hk:k∈bM):(aW T e).m.lookup k=Cm T e k:=tN hk _ _
theorem lQ{T:Tb}{e:En}{k:Str}(hk:k∈bM):(ed (aW T e)).lookup k=Cm T e k:=by
 unfold ed;rw[vJ,if_pos hk,GJ hk,A7];show((bm T e.n).lookup k).or (((bm T e.n).lookup k).or _)=_;cases (bm T e.n).lookup k<;>rfl
theorem q9{T:Tb}{e:En}{k:Str}(hk:k∉bM):(ed (aW T e)).lookup k=(bm T e.n).lookup k:=by
 unfold ed;rw[vJ,if_neg hk];rfl
theorem CD:cx∈bM:=by simp[bM]
theorem zH:td∈bM:=by simp[bM]
theorem zF:ww∈bM:=by simp[bM]
theorem zG:iA∈bM:=by simp[bM]
theorem rI:iB∉bM:=by decide
theorem nM:dB∉bM:=by decide
theorem wh:aJ∉bM:=by decide
theorem Bz:dn∉bM:=by decide
theorem yj:bb∉bM:=by decide
structure E2(r:Int)(mk:Option CV)(ef:Str→Option CV)(row:gX):Prop where
 mrk:mk=some (.int row.1)
 rot:(ef cx=none∧row.2.1=0)∨∃t,ef cx=some (.int t)∧row.2.1=t.fdiv 90
 res:ef td=some (aG r)
 box:ef ww=some DY
 crop:(ef iA=none∧row.2.2=0)∨ef iA=some (Ds row.2.2)
def my(T:Tb)(r:Int)(e:En)(row:gX):Prop:=E2 r ((bm T e.n).lookup iB) (Cm T e) row
theorem E2.congr{r:Int}{mk:Option CV}{ef ef':Str→Option CV}{row:gX}(h:E2 r mk ef row)(he:∀k∈bM,ef' k=ef k):E2 r mk ef' row:=
 ⟨h.mrk,by rw[he _ CD];exact h.rot,by rw[he _ zH];exact h.res,by rw[he _ zF];exact h.box,by rw[he _ zG];exact h.crop⟩
theorem my.is{T:Tb}{r:Int}{e:En}{row:gX}(hT:T.lookup r=some (cP (.sd fu)))(h:my T r e row):Ih T (ed (aW T e)) row where
 mrk:=by rw[q9 rI];exact h.mrk
 rot:=by rw[lQ CD];exact h.rot
 res:=⟨r,by rw[lQ zH];exact h.res,hT⟩
 box:=by rw[lQ zF];exact h.box
 crop:=by
  rw[lQ zG];rcases h.crop with h|h
  ·exact .inl h
  ·exact .inr ⟨_,_,_,h⟩
class inductive eD{α β:Type}(P:α→β→Prop):List α→List β→Prop
 |nil:eD P [] []
 |cons {a:α} {b:β} {as:List α} {bs:List β}:P a b→eD P as bs→eD P (a::as) (b::bs)
section
variable {α β:Type}{P Q:α→β→Prop}
theorem eD.len{as:List α}{bs:List β}(h:eD P as bs):as.length=bs.length:=by
 induction h with
 |nil=>rfl
 |cons _ _ ih=>simp[ih]
theorem eD.imp{as:List α}{bs:List β}(h:eD P as bs)(hi:∀a∈as,∀b,P a b→Q a b):eD Q as bs:=by
 induction h with
 |nil=>exact .nil
 |cons h1 _ ih=>exact .cons (hi _ (.head _) _ h1) (ih fun a ha=>hi a (.tail _ ha))
theorem eD.append{as as':List α}{bs bs':List β}(h:eD P as bs)(h':eD P as' bs'):eD P (as++as') (bs++bs'):=by
 induction h with
 |nil=>exact h'
 |cons h1 _ ih=>exact .cons h1 ih
theorem eD.at{as:List α}{bs:List β}(h:eD P as bs):∀{i:Nat} {a:α},as[i]? =some a→∃b,bs[i]? =some b∧P a b:=by
 induction h with
 |nil=>intro i a e;exact ns e
 |cons h1 _ ih=>
  intro i a e;cases i with
  |zero=>cases e;exact⟨_,rfl,h1⟩
  |succ i=>exact ih e
theorem eD.take{as:List α}{bs:List β}(h:eD P as bs):∀n,eD P (as.take n) (bs.take n):=by
 induction h with
 |nil=>intro n;simp;exact .nil
 |cons h1 _ ih=>intro n;cases n with
  |zero=>exact .nil
  |succ n=>exact .cons h1 (ih n)
theorem eD.drop{as:List α}{bs:List β}(h:eD P as bs):∀n,eD P (as.drop n) (bs.drop n):=by
 induction h with
 |nil=>intro n;simp;exact .nil
 |cons h1 h2 ih=>intro n;cases n with
  |zero=>exact .cons h1 h2
  |succ n=>exact ih n
theorem eD.left{as:List α}{bs:List β}(h:eD P as bs){a:α}(ha:a∈as):∃b,P a b:=by
 obtain⟨i,hi,e⟩:=List.mem_iff_getElem.mp ha;refine el12 (h.at (show as[i]? =some a by rw[List.getElem?_eq_getElem hi,e])) fun b O hb=> ?_
 exact⟨b,hb⟩
end
structure uJ(T:Tb)(S:List SI):Prop where
 par:∀e∈c7 S,(bm T e.n).lookup aJ=e.ab.getLast?.map aG
 cnt:∀e∈c7 S,e.pg=false→(bm T e.n).lookup bb=some (.int (w9 S e))
structure GS(T:Tb)(r:Int)(S:List SI)(rows:List gX):Prop where
 sh:bN T r S
 st:uJ T S
 rw:eD (my T r) (aV S) rows
 len:rows.length≤8
theorem CX{T:Tb}{r:Int}(hT:T.lookup r=some (cP (.sd fu))){es:List En}{rows:List gX}(h:eD (my T r) es rows):gq T (es.map (aW T)) rows:=by
 induction h with
 |nil=>exact .nil
 |cons h1 _ ih=>exact .cons (h1.is hT) ih
theorem bN.small{T:Tb}{r:Int}{S:List SI}(h:bN T r S):∀s∈(bP T S).spots,s.l.length≤9:=by
 rw[cO];intro s hs;obtain⟨e,he,rfl⟩:=List.mem_map.mp hs;obtain⟨pg,hh⟩:=h.there (En.mem_n he);exact hh.ok.len
theorem fE{S:List SI}{e:En}(h:e∈aV S):e∈c7 S∧e.pg=true:=List.mem_filter.mp h
theorem GS.faults{T:Tb}{r:Int}{S:List SI}{rows:List gX}(h:GS T r S rows):qA (bP T S):=by
 intro s hs;rw[cO]at hs;obtain⟨e,he,rfl⟩:=List.mem_map.mp hs;refine⟨Nat.le_trans (En.ab_len he) (by decide),fun k hk=> ?_,⟨e.ab.getLast?,h.st.par e he,?_⟩,fun hp=>⟨_,h.st.cnt e he hp,qb h.sh.nd he⟩,?_,fun hp=> ?_⟩
 ·rw[j9];exact En.ab_mem he k hk
 ·show qn e.ab.getLast? e.ab=true;unfold qn;cases e.ab.getLast? <;>simp
 ·rw[show(aW T e).n=e.n from rfl,qb h.sh.nd he];rfl
 ·have hm:e∈aV S:=List.mem_filter.mpr ⟨he,hp⟩;obtain⟨row,hrow⟩:=h.rw.left hm;rw[GJ zF,hrow.box];rfl
theorem GS.right{T:Tb}{r:Int}{S:List SI}{rows:List gX}(h:GS T r S rows):iu T R0 (bP T S)∧(∀s∈(bP T S).spots,s.l.length≤50)∧gq T (bP T S).pages rows∧(bP T S).l.lookup bb=some (.int rows.length)∧qA (bP T S):=by
 refine⟨h.sh.doc,fun s hs=>Nat.le_trans (h.sh.small s hs) (by decide),?_,?_,h.faults⟩
 ·rw[df];exact CX h.sh.fnt h.rw
 ·have:=h.st.cnt ⟨2,[],false⟩ (.head _) rfl;rw[vA,h.rw.len]at this;exact this
def Gd(sh:CV)(rows:List gX):Prop:=∃T r S,sh=qy T R0∧GS T r S rows
theorem xV{T T':Tb}{e:En}{k:Str}(h:∀n∈e.ab++[e.n],(bm T' n).lookup k=(bm T n).lookup k):Cm T' e k=Cm T e k:=by
 unfold Cm;generalize e.ab++[e.n]=qs at h;generalize(none:Option CV)=acc;induction qs generalizing acc with
 |nil=>rfl
 |cons q qs ih=>
  unfold A6;rw[List.foldl_cons,List.foldl_cons,h q (.head _)];exact ih (fun n hn=>h n (.tail _ hn)) _
theorem Gg:aJ≠bb:=by decide
theorem ck.par{r:Int}{pg:Bool}{l:Hd}(h:ck r pg l):BB l (mj l):=by
 unfold BB mj;cases e:l.lookup aJ with
 |none=>rfl
 |some c=>
  have:=h.at_ e;unfold wN at this;simp only[bF]at this;simp at this;obtain⟨q,rfl⟩:=this;rfl
theorem HO{p:Option Int}{ab:List Int}:qn p ab=true↔p=ab.getLast? :=by
 unfold qn;cases p<;>cases ab.getLast? <;>simp
theorem DB(cf:CF)(s:aS):xv cf s=cA (cA s.l (if qn (mj s.l) s.ab=true then[]else[(aJ,o6 s.ab)])) (if s.pg=true then[]else if cf s.n=some (uB s.l)then[]else[(bb,.int ((cf s.n).getD 0))]):=by
 unfold xv uA;by_cases h1:qn (mj s.l) s.ab=true
 ·simp only[h1,if_true,List.nil_append];rfl
 ·simp only[h1];rfl
theorem Bx{cf:CF}{s:aS}(hp:BB s.l (mj s.l))(hc:s.pg=false→s.l.lookup bb=some (.int (uB s.l)))(hs:s.pg=false→(cf s.n).isSome=true)(k:Str):
  (xv cf s).lookup k=if k=aJ then s.ab.getLast?.map aG else if k=bb∧s.pg=false then some (.int ((cf s.n).getD 0))else s.l.lookup k:=by
 have h1:∀k,(cA s.l (if qn (mj s.l) s.ab=true then[]else[(aJ,o6 s.ab)])).lookup k=if k=aJ then s.ab.getLast?.map aG else s.l.lookup k:=by
  intro k;by_cases hb:qn (mj s.l) s.ab=true
  ·rw[if_pos hb];show s.l.lookup k=_;by_cases e:k=aJ
   ·rw[if_pos e,e];have hp':s.l.lookup aJ=(mj s.l).map aG:=hp;rw[hp',HO.mp hb]
   ·rw[if_neg e]
  ·rw[if_neg hb,cN];by_cases e:k=aJ
   ·rw[if_pos e,if_pos e];unfold o6;cases s.ab.getLast? <;>rfl
   ·rw[if_neg e,if_neg e]
 rw[DB];cases hpg:s.pg with
 |true=>
  simp only[if_true];show(cA s.l _).lookup k=_;rw[h1];simp
 |false=>
  have hc:=hc hpg;obtain⟨c,hcs⟩:=Option.isSome_iff_exists.mp (hs hpg);simp only[Bool.false_eq_true,if_false];by_cases hb:cf s.n=some (uB s.l)
  ·rw[if_pos hb];show(cA s.l _).lookup k=_;rw[h1];by_cases e:k=aJ
   ·rw[if_pos e,if_pos e]
   ·rw[if_neg e,if_neg e];by_cases e2:k=bb
    ·rw[if_pos ⟨e2,trivial⟩,hb,e2,hc];rfl
    ·rw[if_neg fun h=>e2 h.1]
  ·rw[if_neg hb,cN,h1];by_cases e:k=aJ
   ·rw[if_neg (by rw[e];exact Gg),if_pos e,if_pos e]
   ·rw[if_neg e,if_neg e];by_cases e2:k=bb
    ·rw[if_pos e2];have h2:(k=bb∧True):=⟨e2,trivial⟩;rw[if_pos h2];rfl
    ·rw[if_neg e2,if_neg fun h=>e2 h.1]
theorem yx{cf:CF}{T0:Tb}:∀(es:List En) (T:Tb),(es.map (·.n)).Nodup→(∀e∈es,T.lookup e.n=some (cP (.sd (bm T0 e.n))))→
  (∀e∈es,(ie cf (es.map (aW T0)) T).lookup e.n=some (cP (.sd (xv cf (aW T0 e)))))∧(∀m,m∉es.map (·.n)→(ie cf (es.map (aW T0)) T).lookup m=T.lookup m)∧
  (ie cf (es.map (aW T0)) T).map (·.1)=T.map (·.1)
 |[],T,_,_=>⟨fun e h=>(by exact mn h),fun O O=>rfl,rfl⟩
 |e::es,T,hn,hT=>by
  rw[List.map_cons]at hn;have hn:=List.nodup_cons.mp hn;rw[List.map_cons];have hte:=hT e (.head _)
  let T1:Tb:=if uA cf (aW T0 e)=[]then T else bk (aW T0 e).n (cP (.sd (xv cf (aW T0 e)))) T
  have hT1:∀m,T1.lookup m=if m=e.n then some (cP (.sd (xv cf (aW T0 e))))else T.lookup m:=by
   intro m;show(if uA cf (aW T0 e)=[]then T else bk (aW T0 e).n (cP (.sd (xv cf (aW T0 e)))) T).lookup m=_
   by_cases hc:uA cf (aW T0 e)=[]
   ·rw[if_pos hc];by_cases em:m=e.n
    ·rw[if_pos em,em,hte];unfold xv;rw[hc];rfl
    ·rw[if_neg em]
   ·rw[if_neg hc,aN];rfl
  have hk:T1.map (·.1)=T.map (·.1):=by
   show(if uA cf (aW T0 e)=[]then T else bk (aW T0 e).n (cP (.sd (xv cf (aW T0 e)))) T).map (·.1)=_
   by_cases hc:uA cf (aW T0 e)=[]
   ·rw[if_pos hc]
   ·rw[if_neg hc];exact cI (by rw[show(aW T0 e).n=e.n from rfl,hte];rfl)
  have hne:∀f∈es,f.n≠e.n:=fun f hf q=>hn.1 (by rw[←q];exact List.mem_map_of_mem (f:=fun x:En=>x.n) hf)
  refine mC (yx (cf:=cf) (T0:=T0) es T1 hn.2 fun f hf=>by rw[hT1,if_neg (hne f hf)];exact hT f (.tail _ hf)) fun i1 i2 i3=> ?_
  refine⟨fun f hf=> ?_,fun m hm=> ?_,i3.trans hk⟩
  ·rcases List.mem_cons.mp hf with rfl|hf
   ·refine(i2 f.n hn.1).trans ?_;rw[hT1,if_pos rfl]
   ·exact i1 f hf
  ·simp only[List.map_cons,List.mem_cons,not_or]at hm;refine(i2 m hm.2).trans ?_;rw[hT1,if_neg hm.1]
theorem yZ{T:Tb}(hn:(T.map (·.1)).Nodup){n:Int}{v:CV}(h:(n,v)∈T):T.lookup n=some v:=cH hn h
theorem En.hd{T:Tb}{r:Int}{S:List SI}(h:bN T r S){e:En}(he:e∈c7 S):gl T r e.pg e.n∧(e.pg=false→∃i,(bm T e.n).lookup bb=some (.int i)):=by
 rcases En.cases he with rfl|⟨n,hi,rfl⟩|⟨n,ps,hi,rfl⟩|⟨n,ps,p,hi,hp,rfl⟩
 ·exact⟨h.top.hd,fun O=>h.top.ct⟩
 ·exact⟨h.its _ hi,fun h=>(by exact tf h)⟩
 ·exact⟨(h.its _ hi).1.hd,fun O=>(h.its _ hi).1.ct⟩
 ·exact⟨(h.its _ hi).2 p hp,fun h=>(by exact tf h)⟩
def SameBut(K:List Str)(T T':Tb):Prop:=∀n k,k∉K→(bm T' n).lookup k=(bm T n).lookup k
theorem bN.upd{T T':Tb}{r:Int}{S S':List SI}(h:bN T r S)(hk:T'.map (·.1)=T.map (·.1))(hnd:(aZ S').Nodup)(hsub:∀n∈aZ S',n∈aZ S)
  (hlk:∀n,T'.lookup n=T.lookup n∨(n≠1∧n≠r∧∃pg,gl T' r pg n)) (htop:iC T' r 2 (S'.map SI.num)) (hits:∀i∈S',B7 T' r i):bN T' r S' where
 len:=by rw[←List.length_map (f:=(·.1)),hk,List.length_map];exact h.len
 knd:=by rw[hk];exact h.knd
 any:=fun p hp=>by
  have hp':T'.lookup p.1=some p.2:=yZ (by rw[hk];exact h.knd) hp
  rcases hlk p.1 with e|⟨_,_,pg,hh⟩
  ·rw[e]at hp';exact h.any p (ot hp')
  ·refine .inr (.inr ⟨pg,_,?_,hh.ok⟩);rw[hh.hat]at hp';exact(Option.some.inj hp').symm
 one:=by
  rcases hlk 1 with e|⟨e,_⟩
  ·rw[e];exact h.one
  ·exact absurd rfl e
 fnt:=by
  rcases hlk r with e|⟨_,e,_⟩
  ·rw[e];exact h.fnt
  ·exact absurd rfl e
 nd:=hnd
 n1:=fun hm=>h.n1 (hsub 1 hm)
 nr:=fun hm=>h.nr (hsub r hm)
 r1:=h.r1
 top:=htop
 its:=hits
theorem bN.ne{T:Tb}{r:Int}{S:List SI}(h:bN T r S){n:Int}(hn:n∈aZ S):n≠1∧n≠r:=⟨fun e=>h.n1 (e▸hn),fun e=>h.nr (e▸hn)⟩
set_option tactic.hygienic true in
theorem yy{T:Tb}{r:Int}{S:List SI}(h:bN T r S):qH T (bP T S)∧bN (GA T (bP T S)) r S∧uJ (GA T (bP T S)) S∧SameBut [aJ,bb] T (GA T (bP T S))∧(∀n,n∉aZ S→(GA T (bP T S)).lookup n=T.lookup n):=by
 have hcf:=fun e he=>qb (T:=T) h.nd (e:=e) he;have hok:∀e∈c7 S,sk (ki (bP T S).spots) ((bP T S).spots.map (·.n)) T (aW T e):=by
  intro e he;obtain⟨hh,hc⟩:=En.hd h he;refine⟨Nat.le_trans (En.ab_len he) (by decide),fun k hk=>by rw[j9];exact En.ab_mem he k hk,hh.ok.par,fun hp=> ?_,fun hp=>by rw[show(aW T e).n=e.n from rfl,hcf e he];rfl,Nat.le_trans hh.ok.len (by decide),by rw[show(aW T e).n=e.n from rfl,hh.hat];rfl⟩
  obtain⟨i,hi⟩:=hc hp;show(bm T e.n).lookup bb=some (.int (uB (bm T e.n)));unfold uB;rw[hi]
 have hS:qH T (bP T S):=⟨Nat.le_trans h.len (by decide),fun s hs=>by
  rw[cO]at hs;obtain⟨e,he,rfl⟩:=List.mem_map.mp hs;exact hok e he⟩
 have hnn:((c7 S).map (·.n)).Nodup:=by rw[ga];exact h.nd
 refine mC (yx (cf:=ki (bP T S).spots) (T0:=T) (c7 S) T hnn fun e he=>(En.hd h he).1.hat) fun k1 k2 k3=> ?_;have eT:ie (ki (bP T S).spots) ((c7 S).map (aW T)) T=GA T (bP T S):=by unfold GA;rw[cO]
 rw[eT]at k1 k2 k3;rw[ga]at k2;generalize hT':GA T (bP T S)=T' at k1 k2 k3;have lk:∀e∈c7 S,∀k,(bm T' e.n).lookup k=if k=aJ then e.ab.getLast?.map aG else if k=bb∧e.pg=false then some (.int (w9 S e))else(bm T e.n).lookup k:=by
  intro e he k;rw[bz (k1 e he),Bx (hok e he).par (hok e he).cnt (hok e he).cf];rw[show(aW T e).n=e.n from rfl,hcf e he]
  rfl
 have hd':∀e∈c7 S,gl T' r e.pg e.n:=by
  intro e he;obtain⟨hh,hc⟩:=En.hd h he;refine⟨by rw[bz (k1 e he)];exact k1 e he,?_,?_⟩
  ·rw[bz (k1 e he),DB];refine ck.turn (ck.turn hh.ok fun p hp=> ?_) fun p hp=> ?_
   ·split at hp
    ·cases hp
    ·rw[List.mem_singleton.mp hp];show isNone (o6 e.ab)=true∨wN r e.pg aJ (o6 e.ab);unfold o6;cases e.ab.getLast? with
     |none=>exact .inl rfl
     |some q=>exact .inr (.inr (.inl ⟨rfl,q,rfl⟩))
   ·split at hp
    ·cases hp
    ·rename_i hpg
     split at hp
     ·cases hp
     ·rw[List.mem_singleton.mp hp];have hpg:e.pg=false:=by
       have q:¬e.pg=true:=hpg
       simpa using q
      rw[hpg];exact .inr (.inr (.inr (.inr (.inr (.inr (.inr (.inr ⟨rfl,.inr ⟨rfl,_,rfl⟩⟩)))))))
  ·rw[lk e he,if_neg (by decide),if_neg (by simp[bF])]
   exact hh.ty
 have same:SameBut [aJ,bb] T T':=fun n k hk=>by
  simp only[List.mem_cons,List.not_mem_nil,or_false,not_or]at hk;by_cases hn:n∈aZ S
  ·rw[←ga]at hn;obtain⟨e,he,rfl⟩:=List.mem_map.mp hn;rw[lk e he,if_neg hk.1,if_neg fun q=>hk.2 q.1]
  ·unfold bm;rw[k2 n hn]
 refine⟨hS,?_,⟨fun e he=> ?_,fun e he hp=> ?_⟩,same,k2⟩
 ·have nd':∀e∈c7 S,e.pg=false→∀ks,iC T r e.n ks→iC T' r e.n ks:=fun e he hp ks hk=>⟨by have:=hd' e he;rw[hp]at this;exact this,by rw[same _ _ (by decide)];exact hk.ks,⟨w9 S e,by rw[lk e he,if_neg (Ne.symm Gg),if_pos ⟨rfl,hp⟩]⟩⟩
  refine h.upd k3 h.nd (fun n hn=>hn) (fun n=> ?_) (nd' ⟨2,[],false⟩ (.head _) rfl _ h.top) fun i hi=> ?_
  ·by_cases hn:n∈aZ S
   ·have hn0:=hn;rw[←ga]at hn;obtain⟨e,he,rfl⟩:=List.mem_map.mp hn;exact .inr ⟨(h.ne hn0).1,(h.ne hn0).2,_,hd' e he⟩
   ·exact .inl (k2 n hn)
  ·have hm:∀e∈vG i,e∈c7 S:=fun e he=>List.mem_cons_of_mem _ (List.mem_flatMap.mpr ⟨i,hi,he⟩);have ho:=h.its i hi;cases i with
   |page n=>exact hd' ⟨n,[2],true⟩ (hm _ (.head _))
   |node n ps=>exact⟨nd' ⟨n,[2],false⟩ (hm _ (.head _)) rfl _ ho.1,fun p hp=>hd' ⟨p,[2,n],true⟩ (hm _ (List.mem_cons_of_mem _ (List.mem_map_of_mem hp)))⟩
 ·rw[lk e he,if_pos rfl]
 ·rw[lk e he,if_neg (Ne.symm Gg),if_pos ⟨rfl,hp⟩]
noncomputable def DD:SI→List En
 | .page n=>[⟨n,[2],true⟩]
 | .node n ps=>ps.map fun p=>⟨p,[2,n],true⟩
theorem kG(S:List SI):aV S=S.flatMap DD:=by
 unfold aV c7;rw[List.filter_cons_of_neg (by simp),List.filter_flatMap]
 refine congrArg (List.flatMap · S) (funext fun i=> ?_);cases i with
 |page n=>rfl
 |node n ps=>
  show(⟨n,[2],false⟩::ps.map fun p=>(⟨p,[2,n],true⟩:En)).filter (·.pg)=_;rw[List.filter_cons_of_neg (by simp),List.filter_eq_self.mpr]
  ·rfl
  ·intro e he;obtain⟨p,_,rfl⟩:=List.mem_map.mp he;rfl
theorem fT(A B:List SI):aV (A++B)=aV A++aV B:=by rw[kG,kG,kG,List.flatMap_append]
theorem dW(i:SI)(B:List SI):aV (i::B)=DD i++aV B:=by rw[kG,kG,List.flatMap_cons]
theorem xW{α:Type}:∀{l:List α} {i:Nat} {x:α},l[i]? =some x→∃a b,l=a++x::b∧a.length=i
 |y::l,0,x,h=>by cases h;exact⟨[],l,rfl,rfl⟩
 |y::l,i+1,x,h=>by
  refine el22 (xW (l:=l) (i:=i) h) fun a b e hl=> ?_;exact⟨y::a,b,by rw[e];rfl,by simp[hl]⟩
theorem ow:∀{S:List SI} {i:Nat} {e:En},(aV S)[i]? =some e→(∃A B p,S=A++ .page p::B∧e=⟨p,[2],true⟩∧(aV A).length=i)∨(∃A B q a b p,S=A++ .node q (a++p::b)::B∧e=⟨p,[2,q],true⟩∧(aV A).length+a.length=i)
 |[],i,e,h=>by rw[kG]at h;simp at h
 |s::S,i,e,h=>by
  rw[dW]at h;by_cases hi:i<(DD s).length
  ·rw[List.getElem?_append_left hi]at h;cases s with
   |page p=>
    have:i=0:=by simp[DD]at hi;exact Eq.symm (Nat.add_right_cancel (congrFun (congrArg HAdd.hAdd (id (Eq.symm hi))) i))
    subst this;cases h;exact .inl ⟨[],S,p,rfl,rfl,by rw[kG];rfl⟩
   |node q ps=>
    unfold DD at h;rw[List.getElem?_map]at h;refine dp fun C_ k_=> ?_;obtain⟨p,hp,rfl⟩:=Option.map_eq_some_iff.mp h;obtain⟨a,b,rfl,hl⟩:=xW hp;refine k_ ?_;exact .inr ⟨[],S,q,a,b,p,rfl,rfl,by rw[kG];simp[hl]⟩
  ·rw[List.getElem?_append_right (by exact Nat.le_of_not_lt hi)]at h
   rcases ow h with⟨A,B,p,rfl,rfl,hl⟩|⟨A,B,q,a,b,p,rfl,rfl,hl⟩
   ·exact .inl ⟨s::A,B,p,rfl,rfl,by rw[dW,List.length_append,hl];exact Nat.add_sub_of_le (Nat.not_lt.mp hi)⟩
   ·exact .inr ⟨s::A,B,q,a,b,p,rfl,rfl,by rw[dW,List.length_append,Nat.add_assoc,hl];exact Nat.add_sub_of_le (Nat.not_lt.mp hi)⟩
theorem B7.congr{T T':Tb}{r:Int}{i:SI}(h:B7 T r i)(hl:∀n∈i.nums,T'.lookup n=T.lookup n):B7 T' r i:=by
 have hh:∀n∈i.nums,∀pg,gl T r pg n→gl T' r pg n:=fun n hn pg h=>by
  have e:bm T' n=bm T n:=by unfold bm;rw[hl n hn]
  exact⟨by rw[e,hl n hn];exact h.hat,by rw[e];exact h.ok,by rw[e];exact h.ty⟩
 cases i with
 |page n=>exact hh n (.head _) _ h
 |node n ps=>
  have e:bm T' n=bm T n:=by unfold bm;rw[hl n (.head _)]
  exact⟨⟨hh n (.head _) _ h.1.hd,by rw[e];exact h.1.ks,by rw[e];exact h.1.ct⟩,fun p hp=>hh p (.tail _ hp) _ (h.2 p hp)⟩
theorem g4{r:Int}{n:Int}{T:Tb}{ks ks':List Int}(h:iC T r n ks)(hz:ks'.length≤60):
  ck r false (aM (bm T n) ks')∧(aM (bm T n) ks').lookup dn=some (.lst (ks'.map aG))∧∀k,k≠dn→(aM (bm T n) ks').lookup k=(bm T n).lookup k:=by
 refine⟨ck.turn h.hd.ok fun p hp=> ?_,?_,fun k hk=> ?_⟩
 ·rw[List.mem_singleton.mp hp];exact .inr (.inr (.inr (.inr (.inr (.inr (.inr (.inr ⟨rfl,.inl ⟨rfl,ks',rfl,hz⟩⟩)))))))
 ·unfold aM;rw[cN,if_pos rfl];rfl
 ·unfold aM;rw[cN,if_neg hk]
theorem iC.kids{r:Int}{n:Int}{T T':Tb}{ks ks':List Int}(h:iC T r n ks)(hz:ks'.length≤60)(hl:T'.lookup n=some (cP (.sd (aM (bm T n) ks')))):iC T' r n ks':=by
 refine mC (g4 h hz) fun h1 h2 h3=> ?_;have e:=bz hl;exact⟨⟨by rw[e];exact hl,by rw[e];exact h1,by rw[e,h3 _ (by decide)];exact h.hd.ty⟩,by rw[e];exact h2,by rw[e,h3 _ (by decide)];exact h.ct⟩
theorem iC.congr{r:Int}{n:Int}{T T':Tb}{ks:List Int}(h:iC T r n ks)(hl:T'.lookup n=T.lookup n):iC T' r n ks:=by
 have e:bm T' n=bm T n:=by unfold bm;rw[hl]
 exact⟨⟨by rw[e,hl];exact h.hd.hat,by rw[e];exact h.hd.ok,by rw[e];exact h.hd.ty⟩,by rw[e];exact h.ks,by rw[e];exact h.ct⟩
theorem BS:∀(S:List SI),(S.map SI.num).Sublist (S.flatMap SI.nums)
 |[]=> .slnil
 |i::S=>by
  rw[List.map_cons,List.flatMap_cons];refine List.Sublist.append (l₁:=[i.num]) ?_ (BS S);exact List.singleton_sublist.mpr (lm i)
theorem bN.tops{T:Tb}{r:Int}{S:List SI}(h:bN T r S):(S.map SI.num).length≤29∧(S.map SI.num).Nodup:=by
 have hs:=BS S;have hz:=h.size;have hl:=hs.length_le;have hn:=(List.nodup_cons.mp h.nd).2;unfold aZ at hz;simp only[List.length_cons]at hz;exact⟨by lia,hn.sublist hs⟩
theorem bN.isRes{T:Tb}{r:Int}{S:List SI}(h:bN T r S){n:Int}(hn:n∈aZ S):K2 T n:=let⟨pg,hh⟩:=h.there hn;⟨_,hh.hat,trivial⟩
theorem bN.nodeAt2{T:Tb}{r:Int}{S:List SI}(h:bN T r S):gW T 2 (bm T 2) (S.map SI.num):=
 ⟨h.top.hd.hat,h.top.ks,fun k hk=>by
  obtain⟨i,hi,rfl⟩:=List.mem_map.mp hk;exact h.isRes (ic hi _ (lm i)),Nat.le_trans h.top.hd.ok.len (by decide),Nat.le_trans h.tops.1 (by decide)⟩
theorem bN.nodeAt{T:Tb}{r:Int}{S:List SI}(h:bN T r S){q:Int}{ps:List Int}(hi:SI.node q ps∈S):gW T q (bm T q) ps∧ps.length≤29∧ps.Nodup:=by
 refine dp fun C_ k_=> ?_;have hh:=h.its _ hi;have hsub:∀p∈ps,p∈aZ S:=fun p hp=>ic hi p (.tail _ hp);have hn:=(List.nodup_cons.mp (zQ h.nd hi)).2;have hl:ps.length≤29:=by
  have:=nH (2::ps) (aZ S) (List.nodup_cons.mpr ⟨fun hm=>eF h.nd hi 2 (.tail _ hm) rfl,hn⟩) fun x hx=>by
   rcases List.mem_cons.mp hx with rfl|hx
   ·exact fU S
   ·exact hsub x hx
  exact Nat.le_of_succ_le_succ (Nat.le_trans this h.size)
 refine k_ ?_;exact⟨⟨hh.1.hd.hat,hh.1.ks,fun k hk=>h.isRes (hsub k hk),Nat.le_trans hh.1.hd.ok.len (by decide),Nat.le_trans hl (by decide)⟩,hl,hn⟩
structure lG(T:Tb)(r:Int)(S:List SI)(i:Nat)(e:En)(T':Tb)(S':List SI):Prop where
 rem:G9 T R0 (bP T S) i (aW T e) T'
 sh:bN T' r S'
 st:uJ T' S'
 pgs:aV S'=(aV S).take i++(aV S).drop (i+1)
 same:∀n,n≠e.n→∀k,k∉[aJ,bb,dn]→(bm T' n).lookup k=(bm T n).lookup k
 out:e.n∉aZ S'
 hd:gl T' r true e.n
 own:∀k,(bm T' e.n).lookup k=if k=aJ then none else(ed (aW T e)).lookup k
theorem Dy{T:Tb}{r:Int}:∀(qs:List Int) {m:Hd},ck r true m→(∀q∈qs,∃pg,ck r pg (bm T q))→ck r true (F9 T m qs)
 |[],m,hm,_=>hm
 |q::qs,m,hm,h=>by
  obtain⟨pg,hq⟩:=h q (.head _);exact Dy qs (hq.inh hm fun k hk=>hk) fun q hq=>h q (.tail _ hq)
theorem bN.flds{T:Tb}{r:Int}{S:List SI}(h:bN T r S){e:En}(he:e∈aV S):ck r true (ed (aW T e)):=by
 obtain⟨h1,h2⟩:=fE he;have hh:=(En.hd h h1).1;rw[h2]at hh;refine ck.fld (Dy _ Hr fun q hq=> ?_) hh.ok fun k hk=>hk;rcases List.mem_append.mp hq with hq|hq
 ·obtain⟨pg,hh⟩:=h.there (En.ab_mem h1 q hq);exact⟨pg,hh.ok⟩
 ·rw[List.mem_singleton.mp hq];exact⟨_,hh.ok⟩
theorem zU{T:Tb}{r:Int}{S:List SI}(h:bN T r S){e:En}(he:e∈aV S):ck r true (dS (aW T e))∧(dS (aW T e)).lookup dB=some xL∧∀k,(dS (aW T e)).lookup k=if k=aJ then none else(ed (aW T e)).lookup k:=by
 have lk:∀k,(dS (aW T e)).lookup k=if k=aJ then none else(ed (aW T e)).lookup k:=fun k=>cN k
 refine⟨ck.turn (h.flds he) fun p hp=>by rw[List.mem_singleton.mp hp];exact .inl rfl,?_,lk⟩
 rw[lk,if_neg (by decide),q9 nM]
 obtain⟨h1,h2⟩:=fE he;have hh:=(En.hd h h1).1;rw[h2]at hh;exact hh.ty
theorem z0{T T1:Tb}{r:Int}{S S':List SI}{i:Nat}{e:En}(h:bN T r S)(hi:(aV S)[i]? =some e)(hr:wY (ki (bP T S).spots) T e.n e.ab.reverse T1)(hk:T1.map (·.1)=T.map (·.1))(hlr:T1.lookup r=T.lookup r)
  (hS:bN (bW e.n (dS (aW T e)) T1) r S') (hp:aV S'=(aV S).take i++(aV S).drop (i+1)) (ho:e.n∉aZ S') (hsame:∀n,n≠e.n→∀k,k≠dn→(bm T1 n).lookup k=(bm T n).lookup k):
  ∃T',lG T r S i e T' S':=by
 refine dp fun C_ k_=> ?_;have he:e∈aV S:=List.mem_of_getElem? hi;obtain⟨h1,h2⟩:=fE he;obtain⟨hd1,_⟩:=En.hd h h1;refine k_ ?_;rw[h2]at hd1;refine I2 (yy hS) fun s1 s2 s3 s4 s5=> ?_;refine mC (zU h he) fun o1 o2 o3=> ?_;have hout:(GA (bW e.n (dS (aW T e)) T1) (bP (bW e.n (dS (aW T e)) T1) S')).lookup e.n=some (cP (.sd (dS (aW T e)))):=by
  rw[s5 _ ho,bw,if_pos rfl]
 refine⟨GA (bW e.n (dS (aW T e)) T1) (bP (bW e.n (dS (aW T e)) T1) S'),⟨⟨h.doc,Nat.le_trans h.len (by decide),by exact Int.natCast_nonneg i,?_,?_,Nat.le_trans hd1.ok.len (by decide),?_,⟨T1,bP (bW e.n (dS (aW T e)) T1) S',hr,?_,hS.doc,s1,rfl⟩⟩,s2,s3,hp,?_,ho,?_,?_⟩⟩
 ·rw[df,List.getElem?_map,Int.toNat_natCast,hi];rfl
 ·intro s hs;rw[cO]at hs;obtain⟨f,hf,rfl⟩:=List.mem_map.mp hs;exact⟨Nat.le_trans (En.ab_len hf) (by decide),fun k hk=>by rw[j9];exact En.ab_mem hf k hk⟩
 ·rw[show(aW T e).n=e.n from rfl,hd1.hat];rfl
 ·exact hd1.ok.fetch (by rw[hlr];exact h.fnt)
 ·intro n hn k hk;simp only[List.mem_cons,List.not_mem_nil,or_false,not_or]at hk;rw[s4 n k (by simp only[List.mem_cons,List.not_mem_nil,or_false,not_or];exact⟨hk.1,hk.2.1⟩),jV,if_neg hn]
  exact hsame n hn k hk.2.2
 ·exact⟨by rw[bz hout];exact hout,by rw[bz hout];exact o1,by rw[bz hout];exact o2⟩
 ·intro k;rw[bz hout];exact o3 k
theorem A8{p:Int}{X:List Int}(h:p∉X):X.filter (fun k=>k !=p)=X:=by
 rw[List.filter_eq_self];intro k hk;rw[bne_iff_ne];exact fun e=>h (e▸hk)
theorem vH{p:Int}{X Y:List Int}(h:(X++p::Y).Nodup):(X++p::Y).filter (fun k=>k !=p)=X++Y:=by
 have h1:=List.nodup_append.mp h;have h2:=List.nodup_cons.mp h1.2.1;rw[List.filter_append,List.filter_cons_of_neg (by simp),A8 h2.1,A8]
 exact fun hm=>h1.2.2 p hm p (.head _) rfl
theorem je{T:Tb}{n:Int}{l:Hd}{pg:Bool}{r:Int}(h:gl T r pg n):(bW n l T).map (·.1)=T.map (·.1):=cI (by rw[h.hat];rfl)
theorem wc(A B:List SI)(i:SI):(aZ (A++B)).Sublist (aZ (A++i::B)):=by
 unfold aZ;refine List.Sublist.cons₂ _ ?_;rw[List.flatMap_append,List.flatMap_append,List.flatMap_cons];exact List.Sublist.append (.refl _) (List.sublist_append_right _ _)
theorem gc{A B:List SI}{i:SI}(h:(aZ (A++i::B)).Nodup):∀j∈A++B,∀n∈j.nums,n∉i.nums∧n≠2:=fun j hj n hn=>by
 obtain⟨h1,h2,_,_⟩:=fy h;refine⟨fun hm=> ?_,eF h (show j∈A++i::B from ?_) n hn⟩
 ·rcases List.mem_append.mp hj with hj|hj
  ·exact h1 j hj n hm hn
  ·exact h2 j hj n hm hn
 ·rcases List.mem_append.mp hj with hj|hj
  ·exact List.mem_append_left _ hj
  ·exact List.mem_append_right _ (.tail _ hj)
theorem v6{A B:List SI}{i j:SI}(hj:j∈A++B):j∈A++i::B:=by
 rcases List.mem_append.mp hj with hj|hj
 ·exact List.mem_append_left _ hj
 ·exact List.mem_append_right _ (.tail _ hj)
theorem HR(A B:List SI)(p:Int){i:Nat}(h:(aV A).length=i):aV (A++B)=(aV (A++ .page p::B)).take i++(aV (A++ .page p::B)).drop (i+1):=by
 rw[fT,fT,dW];subst h;rw[List.take_left,←List.drop_drop,List.drop_left];rfl
theorem Gx{T:Tb}{r:Int}{A B:List SI}{p:Int}{i:Nat}(h:bN T r (A++ .page p::B))(hl:(aV A).length=i)(hi:(aV (A++ .page p::B))[i]? =some ⟨p,[2],true⟩):
  ∃T',lG T r (A++ .page p::B) i ⟨p,[2],true⟩ T' (A++B):=by
 have hpm:SI.page p∈A++ .page p::B:=List.mem_append_right _ (.head _);have hpn:p∈aZ (A++ .page p::B):=ic hpm p (.head _);have hp2:p≠2:=eF h.nd hpm p (.head _);have hp:=h.its _ hpm;have hf:((A++ .page p::B).map SI.num).filter (fun k=>k !=p)=(A++B).map SI.num:=by
  have:=h.tops.2;rw[List.map_append,List.map_cons]at this ⊢;rw[List.map_append];exact vH this
 have hz:((A++B).map SI.num).length≤60:=by
  rw[←hf];exact Nat.le_trans (List.length_filter_le _ _) (Nat.le_trans h.tops.1 (by decide))
 have hrt:wY (ki (bP T (A++ .page p::B)).spots) T p [2] (bW 2 (aM (bm T 2) ((A++B).map SI.num)) T):=by
  rw[←hf];have hc:=qb (T:=T) h.nd (e:=⟨2,[],false⟩) (.head _);by_cases h1:1<w9 (A++ .page p::B) ⟨2,[],false⟩
  ·exact .stop h.nodeAt2 hc h1
  ·exact .go h.nodeAt2 hc h1 .nil
 have hlk:∀n,(bW p (dS (aW T ⟨p,[2],true⟩)) (bW 2 (aM (bm T 2) ((A++B).map SI.num)) T)).lookup n=if n=p then some (cP (.sd (dS (aW T ⟨p,[2],true⟩))))else if n=2 then some (cP (.sd (aM (bm T 2) ((A++B).map SI.num))))else T.lookup n:=fun n=>by rw[bw,bw]
 have htop:iC (bW p (dS (aW T ⟨p,[2],true⟩)) (bW 2 (aM (bm T 2) ((A++B).map SI.num)) T)) r 2 ((A++B).map SI.num):=h.top.kids hz (by rw[hlk,if_neg (Ne.symm hp2),if_pos rfl])
 obtain⟨o1,o2,o3⟩:=zU h (List.mem_of_getElem? hi);have ho:p∉aZ (A++B):=fun hm=>by
  rcases List.mem_cons.mp hm with hm|hm
  ·exact hp2 hm
  ·obtain⟨j,hj,hm⟩:=List.mem_flatMap.mp hm;exact(gc h.nd j hj p hm).1 (.head _)
 refine z0 h hi hrt (je h.top.hd) (by rw[bw,if_neg (Ne.symm (h.ne (fU _)).2)]) ?_ (HR A B p hl) ho fun n hn k hk=> ?_
 ·refine h.upd ?_ (h.nd.sublist (wc A B _)) (fun n hn=>(wc A B _).subset hn) (fun n=> ?_) htop fun j hj=> ?_
  ·have e1:(bW 2 (aM (bm T 2) ((A++B).map SI.num)) T).map (·.1)=T.map (·.1):=je h.top.hd;refine Eq.trans (cI ?_) e1;rw[bw,if_neg hp2,hp.hat];rfl
  ·by_cases e:n=p
   ·obtain rfl:=e.symm;have e1:=(hlk p).trans (if_pos rfl);exact .inr ⟨(h.ne hpn).1,(h.ne hpn).2,true,by rw[bz e1];exact e1,by rw[bz e1];exact o1,by rw[bz e1];exact o2⟩
   ·by_cases e2:n=2
    ·obtain rfl:=e2.symm;exact .inr ⟨(h.ne (fU _)).1,(h.ne (fU _)).2,_,htop.hd⟩
    ·exact .inl (by rw[hlk,if_neg e,if_neg e2])
  ·refine(h.its j (v6 hj)).congr fun n hn=> ?_;obtain⟨n1,n2⟩:=gc h.nd j hj n hn;rw[hlk,if_neg (fun e=>n1 (by rw[e];exact .head _)),if_neg n2]
 ·rw[jV];by_cases e2:n=2
  ·rw[if_pos e2,e2];exact(g4 h.top hz).2.2 k hk
  ·rw[if_neg e2]
theorem fw{T T':Tb}{n:Int}(h:T'.lookup n=T.lookup n):bm T' n=bm T n:=by unfold bm;rw[h]
theorem gl.congr{T T':Tb}{r:Int}{pg:Bool}{n:Int}(h:gl T r pg n)(hl:T'.lookup n=T.lookup n):gl T' r pg n:=⟨by rw[fw hl,hl];exact h.hat,by rw[fw hl];exact h.ok,by rw[fw hl];exact h.ty⟩
theorem Go(A B:List SI)(q p:Int)(a b:List Int){i:Nat}(h:(aV A).length+a.length=i):aV (A++ .node q (a++b)::B)=(aV (A++ .node q (a++p::b)::B)).take i++(aV (A++ .node q (a++p::b)::B)).drop (i+1):=by
 rw[fT,fT,dW,dW];subst h;show aV A++((a++b).map _++aV B)=(aV A++((a++p::b).map _++aV B)).take _++(aV A++((a++p::b).map _++aV B)).drop _;rw[List.map_append,List.map_append,List.map_cons];generalize hX:aV A=X;generalize hY:a.map (fun p=>(⟨p,[2,q],true⟩:En))=Y;have hl:a.length=Y.length:=by rw[←hY,List.length_map]
 rw[hl,List.append_assoc,List.append_assoc,←List.append_assoc X Y,←List.append_assoc X Y,←List.length_append,List.take_left,←List.drop_drop,List.drop_left];rfl
theorem Ey(A B:List SI)(q p:Int){i:Nat}(h:(aV A).length=i):aV (A++B)=(aV (A++ .node q [p]::B)).take i++(aV (A++ .node q [p]::B)).drop (i+1):=by
 rw[fT,fT,dW];subst h;rw[List.take_left,←List.drop_drop,List.drop_left];rfl
theorem Ev(A B:List SI)(q p:Int)(a b:List Int):(aZ (A++ .node q (a++b)::B)).Sublist (aZ (A++ .node q (a++p::b)::B)):=by
 refine List.Sublist.cons₂ _ ?_;rw[List.flatMap_append,List.flatMap_append,List.flatMap_cons,List.flatMap_cons];refine List.Sublist.append (.refl _) (List.Sublist.append ?_ (.refl _));exact List.Sublist.cons₂ _ (List.Sublist.append (.refl _) (List.sublist_cons_self _ _))
theorem Gw{T:Tb}{r:Int}{A B:List SI}{q p:Int}{a b:List Int}{i:Nat}(h:bN T r (A++ .node q (a++p::b)::B))(hl:(aV A).length+a.length=i)(hab:a++b≠[])(hi:(aV (A++ .node q (a++p::b)::B))[i]? =some ⟨p,[2,q],true⟩):
  ∃T',lG T r (A++ .node q (a++p::b)::B) i ⟨p,[2,q],true⟩ T' (A++ .node q (a++b)::B):=by
 have hqm:SI.node q (a++p::b)∈A++ .node q (a++p::b)::B:=List.mem_append_right _ (.head _);have hpq:p∈SI.nums (.node q (a++p::b)):= .tail _ (List.mem_append_right _ (.head _));have hqn:q∈aZ (A++ .node q (a++p::b)::B):=nG hqm;have hpn:p∈aZ (A++ .node q (a++p::b)::B):=ic hqm p hpq;have hp2:p≠2:=eF h.nd hqm p hpq;have hq2:q≠2:=eF h.nd hqm q (.head _);have hnn:(q::(a++p::b)).Nodup:=(fy (i:= .node q (a++p::b)) h.nd).2.2.2;have hqp:p≠q:=fun e=>(List.nodup_cons.mp hnn).1 (by rw[←e];exact List.mem_append_right _ (.head _))
 have hN:=h.its _ hqm;have hp:=hN.2 p (List.mem_append_right _ (.head _));have hf:(a++p::b).filter (fun k=>k !=p)=a++b:=vH (List.nodup_cons.mp hnn).2;refine mC (h.nodeAt hqm) fun na hz0 O=> ?_;have hz:(a++b).length≤60:=by
  rw[←hf];exact Nat.le_trans (List.length_filter_le _ _) (Nat.le_trans hz0 (by decide))
 have hrt:wY (ki (bP T (A++ .node q (a++p::b)::B)).spots) T p [q,2] (bW q (aM (bm T q) (a++b)) T):=by
  rw[←hf];have hc:=qb (T:=T) h.nd (e:=⟨q,[2],false⟩) (List.mem_cons_of_mem _ (List.mem_flatMap.mpr ⟨_,hqm,.head _⟩));rw[vz h.nd]at hc;refine .stop na hc ?_;have:0<(a++b).length:=List.length_pos_iff.mpr hab;simp only[List.length_append,List.length_cons]at this ⊢;lia
 have hlk:∀n,(bW p (dS (aW T ⟨p,[2,q],true⟩)) (bW q (aM (bm T q) (a++b)) T)).lookup n=if n=p then some (cP (.sd (dS (aW T ⟨p,[2,q],true⟩))))else if n=q then some (cP (.sd (aM (bm T q) (a++b))))else T.lookup n:=fun n=>by rw[bw,bw]
 have hnd':iC (bW p (dS (aW T ⟨p,[2,q],true⟩)) (bW q (aM (bm T q) (a++b)) T)) r q (a++b):=hN.1.kids hz (by rw[hlk,if_neg (Ne.symm hqp),if_pos rfl])
 refine mC (zU h (List.mem_of_getElem? hi)) fun o1 o2 o3=> ?_;have hsub:=Ev A B q p a b;have hdn:=h.nd.sublist hsub;have ho:p∉aZ (A++ .node q (a++b)::B):=fun hm=>by
  rcases List.mem_cons.mp hm with hm|hm
  ·exact hp2 hm
  ·rw[List.flatMap_append,List.flatMap_cons]at hm;have hr:p∈(A++B).flatMap SI.nums∨p∈q::(a++b):=by
    rw[List.flatMap_append];rcases List.mem_append.mp hm with hm|hm
    ·exact .inl (List.mem_append_left _ hm)
    ·rcases List.mem_append.mp hm with hm|hm
     ·exact .inr hm
     ·exact .inl (List.mem_append_right _ hm)
   rcases hr with hm|hm
   ·obtain⟨j,hj,hm⟩:=List.mem_flatMap.mp hm;exact(gc h.nd j hj p hm).1 hpq
   ·rcases List.mem_cons.mp hm with hm|hm
    ·exact hqp hm
    ·rw[←hf]at hm;have:=(List.mem_filter.mp hm).2;simp at this
 have tops:(A++SI.node q (a++b)::B).map SI.num=(A++SI.node q (a++p::b)::B).map SI.num:=by rw[List.map_append,List.map_append];rfl
 refine z0 h hi hrt (je hN.1.hd) (by rw[bw,if_neg (Ne.symm (h.ne hqn).2)]) ?_ (Go A B q p a b hl) ho fun n hn k hk=> ?_
 ·refine h.upd ?_ hdn (fun n hn=>hsub.subset hn) (fun n=> ?_) ?_ fun j hj=> ?_
  ·have e1:(bW q (aM (bm T q) (a++b)) T).map (·.1)=T.map (·.1):=je hN.1.hd;refine Eq.trans (cI ?_) e1;rw[bw,if_neg hqp,hp.hat];rfl
  ·by_cases e:n=p
   ·obtain rfl:=e.symm;have e1:=(hlk p).trans (if_pos rfl);exact .inr ⟨(h.ne hpn).1,(h.ne hpn).2,true,by rw[bz e1];exact e1,by rw[bz e1];exact o1,by rw[bz e1];exact o2⟩
   ·by_cases e2:n=q
    ·obtain rfl:=e2.symm;exact .inr ⟨(h.ne hqn).1,(h.ne hqn).2,_,hnd'.hd⟩
    ·exact .inl (by rw[hlk,if_neg e,if_neg e2])
  ·rw[tops];exact h.top.congr (by rw[hlk,if_neg (Ne.symm hp2),if_neg (Ne.symm hq2)])
  ·have rest:∀j∈A++B,B7 (bW p (dS (aW T ⟨p,[2,q],true⟩)) (bW q (aM (bm T q) (a++b)) T)) r j:=fun j hj=>(h.its j (v6 hj)).congr fun n hn=>by
    obtain⟨n1,n2⟩:=gc h.nd j hj n hn;rw[hlk,if_neg (fun e=>n1 (by rw[e];exact hpq)),if_neg (fun e=>n1 (by rw[e];exact .head _))]
   rcases List.mem_append.mp hj with hj|hj
   ·exact rest j (List.mem_append_left _ hj)
   ·rcases List.mem_cons.mp hj with rfl|hj
    ·refine⟨hnd',fun x hx=> ?_⟩;have hx':x∈a++p::b:=by
      rcases List.mem_append.mp hx with hx|hx
      ·exact List.mem_append_left _ hx
      ·exact List.mem_append_right _ (.tail _ hx)
     have xp:x≠p:=fun e=>by
      rw[←hf]at hx;have:=(List.mem_filter.mp hx).2;rw[e]at this;simp at this
     have xq:x≠q:=fun e=>(List.nodup_cons.mp hnn).1 (by rw[←e];exact hx')
     have e1:(bW p (dS (aW T ⟨p,[2,q],true⟩)) (bW q (aM (bm T q) (a++b)) T)).lookup x=T.lookup x:=by rw[hlk,if_neg xp,if_neg xq]
     have hh:=hN.2 x hx';exact hh.congr e1
    ·exact rest j (List.mem_append_right _ hj)
 ·rw[jV];by_cases e2:n=q
  ·rw[if_pos e2,e2];exact(g4 hN.1 hz).2.2 k hk
  ·rw[if_neg e2]
theorem EC{T:Tb}{r:Int}{A B:List SI}{q p:Int}{i:Nat}(h:bN T r (A++ .node q [p]::B))(hl:(aV A).length=i)(hi:(aV (A++ .node q [p]::B))[i]? =some ⟨p,[2,q],true⟩):
  ∃T',lG T r (A++ .node q [p]::B) i ⟨p,[2,q],true⟩ T' (A++B):=by
 have hqm:SI.node q [p]∈A++ .node q [p]::B:=List.mem_append_right _ (.head _);have hpq:p∈SI.nums (.node q [p]):= .tail _ (.head _);have hqn:q∈aZ (A++ .node q [p]::B):=nG hqm;have hpn:p∈aZ (A++ .node q [p]::B):=ic hqm p hpq;have hp2:p≠2:=eF h.nd hqm p hpq;have hq2:q≠2:=eF h.nd hqm q (.head _);have hnn:(q::[p]).Nodup:=(fy (i:= .node q [p]) h.nd).2.2.2;have hqp:p≠q:=fun e=>(List.nodup_cons.mp hnn).1 (by rw[←e];exact .head _)
 have hN:=h.its _ hqm;have hp:=hN.2 p (.head _);have hf:[p].filter (fun k=>k !=p)=[]:=by simp
 have hf2:((A++ .node q [p]::B).map SI.num).filter (fun k=>k !=q)=(A++B).map SI.num:=by
  have:=h.tops.2;rw[List.map_append,List.map_cons]at this ⊢;rw[List.map_append];exact vH this
 refine mC (h.nodeAt hqm) fun na hz0 O=> ?_;have hz:((A++B).map SI.num).length≤60:=by
  rw[←hf2];exact Nat.le_trans (List.length_filter_le _ _) (Nat.le_trans h.tops.1 (by decide))
 have n2a:=h.nodeAt2;have hla:∀n,(bW q (aM (bm T q) []) T).lookup n=if n=q then some (cP (.sd (aM (bm T q) [])))else T.lookup n:=fun n=>bw
 have hrt:wY (ki (bP T (A++ .node q [p]::B)).spots) T p [q,2] (bW 2 (aM (bm T 2) ((A++B).map SI.num)) (bW q (aM (bm T q) []) T)):=by
  rw[←hf2];have hc:=qb (T:=T) h.nd (e:=⟨q,[2],false⟩) (List.mem_cons_of_mem _ (List.mem_flatMap.mpr ⟨_,hqm,.head _⟩));rw[vz h.nd]at hc;have hc2:=qb (T:=T) h.nd (e:=⟨2,[],false⟩) (.head _);have n2:gW (bW q (aM (bm T q) []) T) 2 (bm T 2) ((A++ .node q [p]::B).map SI.num):=⟨by rw[hla,if_neg (Ne.symm hq2)];exact n2a.hat,n2a.hks,fun k hk=>by
   by_cases e:k=q
   ·exact⟨.sd (aM (bm T q) []),by rw[hla,if_pos e],trivial⟩
   ·refine el12 (n2a.res k hk) fun v h1 h2=> ?_;exact⟨v,by rw[hla,if_neg e];exact h1,h2⟩,n2a.len,n2a.klen⟩
  refine .go na hc (by simp) ?_
  rw[hf];by_cases h1:1<w9 (A++ .node q [p]::B) ⟨2,[],false⟩
  ·exact .stop n2 hc2 h1
  ·exact .go n2 hc2 h1 .nil
 have hlk:∀n,(bW p (dS (aW T ⟨p,[2,q],true⟩)) (bW 2 (aM (bm T 2) ((A++B).map SI.num)) (bW q (aM (bm T q) []) T))).lookup n=if n=p then some (cP (.sd (dS (aW T ⟨p,[2,q],true⟩))))else if n=2 then some (cP (.sd (aM (bm T 2) ((A++B).map SI.num))))else if n=q then some (cP (.sd (aM (bm T q) [])))else T.lookup n:=fun n=>by rw[bw,bw,bw]
 have htop:iC (bW p (dS (aW T ⟨p,[2,q],true⟩)) (bW 2 (aM (bm T 2) ((A++B).map SI.num)) (bW q (aM (bm T q) []) T))) r 2 ((A++B).map SI.num):=h.top.kids hz (by rw[hlk,if_neg (Ne.symm hp2),if_pos rfl])
 have hnq:iC (bW p (dS (aW T ⟨p,[2,q],true⟩)) (bW 2 (aM (bm T 2) ((A++B).map SI.num)) (bW q (aM (bm T q) []) T))) r q []:=hN.1.kids (by simp) (by rw[hlk,if_neg (Ne.symm hqp),if_neg hq2,if_pos rfl])
 refine mC (zU h (List.mem_of_getElem? hi)) fun o1 o2 o3=> ?_;have hsub:=wc A B (.node q [p]);have ho:p∉aZ (A++B):=fun hm=>by
  rcases List.mem_cons.mp hm with hm|hm
  ·exact hp2 hm
  ·refine el12 (List.mem_flatMap.mp hm) fun j hj hm=> ?_;exact(gc h.nd j hj p hm).1 hpq
 have k1:(bW q (aM (bm T q) []) T).map (·.1)=T.map (·.1):=je hN.1.hd;have k2:(bW 2 (aM (bm T 2) ((A++B).map SI.num)) (bW q (aM (bm T q) []) T)).map (·.1)=T.map (·.1):=by
  refine Eq.trans (cI ?_) k1;rw[hla,if_neg (Ne.symm hq2),h.top.hd.hat];rfl
 refine z0 h hi hrt k2 (by rw[bw,if_neg (Ne.symm (h.ne (fU _)).2),hla,if_neg (Ne.symm (h.ne hqn).2)]) ?_ (Ey A B q p hl) ho fun n hn k hk=> ?_
 ·refine h.upd ?_ (h.nd.sublist hsub) (fun n hn=>hsub.subset hn) (fun n=> ?_) htop fun j hj=> ?_
  ·refine Eq.trans (cI ?_) k2;rw[bw,if_neg hp2,hla,if_neg hqp,hp.hat];rfl
  ·by_cases e:n=p
   ·obtain rfl:=e.symm;have e1:=(hlk p).trans (if_pos rfl);exact .inr ⟨(h.ne hpn).1,(h.ne hpn).2,true,by rw[bz e1];exact e1,by rw[bz e1];exact o1,by rw[bz e1];exact o2⟩
   ·by_cases e2:n=2
    ·obtain rfl:=e2.symm;exact .inr ⟨(h.ne (fU _)).1,(h.ne (fU _)).2,_,htop.hd⟩
    ·by_cases e3:n=q
     ·obtain rfl:=e3.symm;exact .inr ⟨(h.ne hqn).1,(h.ne hqn).2,_,hnq.hd⟩
     ·exact .inl (by rw[hlk,if_neg e,if_neg e2,if_neg e3])
  ·refine(h.its j (v6 hj)).congr fun n hn=> ?_;obtain⟨n1,n2⟩:=gc h.nd j hj n hn;rw[hlk,if_neg (fun e=>n1 (by rw[e];exact hpq)),if_neg n2,if_neg (fun e=>n1 (by rw[e];exact .head _))]
 ·rw[jV];by_cases e2:n=2
  ·rw[if_pos e2,e2];exact(g4 h.top hz).2.2 k hk
  ·rw[if_neg e2,jV];by_cases e3:n=q
   ·rw[if_pos e3,e3];exact(g4 hN.1 (by simp)).2.2 k hk
   ·rw[if_neg e3]
theorem yt{T:Tb}{r:Int}{S:List SI}{i:Nat}{e:En}(h:bN T r S)(hi:(aV S)[i]? =some e):∃T' S',lG T r S i e T' S':=by
 rcases ow hi with⟨A,B,p,rfl,rfl,hl⟩|⟨A,B,q,a,b,p,rfl,rfl,hl⟩
 ·obtain⟨T',hR⟩:=Gx h hl hi;exact⟨T',_,hR⟩
 ·by_cases hab:a++b=[]
  ·obtain⟨rfl,rfl⟩:=List.append_eq_nil_iff.mp hab;obtain⟨T',hR⟩:=EC h (by simpa using hl) hi
   exact⟨T',_,hR⟩
  ·obtain⟨T',hR⟩:=Gw h hl hab hi;exact⟨T',_,hR⟩
theorem wN.pv{r:Int}{pg:Bool}{k:Str}{v:CV}(h:wN r pg k v):PV 3 v:=by
 rcases h with⟨_,rfl⟩|⟨_,q,rfl⟩|⟨_,i,rfl⟩|⟨_,i,rfl⟩|⟨_,rfl⟩|⟨_,rfl⟩|⟨_,x,rfl⟩|⟨_,⟨_,ks,rfl,hz⟩|⟨_,i,rfl⟩⟩
 ·cases pg<;>exact .inl rfl
 ·exact .inr rfl
 ·trivial
 ·trivial
 ·refine⟨by simp,fun x hx=> ?_⟩
  simp only[List.mem_cons,List.not_mem_nil,or_false]at hx;rcases hx with rfl|rfl|rfl|rfl<;>trivial
 ·exact .inr rfl
 ·refine⟨by simp,fun x hx=> ?_⟩
  simp only[List.mem_cons,List.not_mem_nil,or_false]at hx;rcases hx with rfl|rfl|rfl|rfl<;>trivial
 ·refine⟨by rw[List.length_map];exact Nat.le_trans (by assumption) (by decide),fun x hx=> ?_⟩
  obtain⟨q,_,rfl⟩:=List.mem_map.mp hx;exact .inr rfl
 ·trivial
theorem ck.pv{r:Int}{pg:Bool}{l:Hd}(h:ck r pg l):PV 4 (.sd l):=⟨Nat.le_trans h.len (by decide),h.nd,fun p hp=>(h.sh p hp).pv⟩
theorem Jp:PV 4 (.sd gz):=⟨by simp[gz],by simp[gz,bF],fun p hp=>by
 simp only[gz,List.mem_cons,List.not_mem_nil,or_false]at hp;rcases hp with rfl|rfl
 ·exact .inl rfl
 ·exact .inr rfl⟩
theorem HS:PV 4 (.sd fu):=⟨by simp,by simp,fun p hp=>by
 simp only[List.mem_cons,List.not_mem_nil,or_false]at hp;subst hp;trivial⟩
theorem Ix:PV 4 (.sd R0):=⟨by simp,by simp,fun p hp=>by
 simp only[List.mem_cons,List.not_mem_nil,or_false]at hp;subst hp;exact .inr rfl⟩
theorem bN.copy{T:Tb}{r:Int}{S:List SI}(h:bN T r S):An T:=by
 refine⟨Nat.le_trans h.len (by decide),h.knd,fun p hp=> ?_⟩
 have hp':=yZ h.knd (show(p.1,p.2)∈T from hp)
 rcases h.any p hp with e|e|⟨pg,l,e,hl⟩
 ·rw[e,h.one]at hp';exact⟨_,(Option.some.inj hp').symm,Jp⟩
 ·rw[e,h.fnt]at hp';exact⟨_,(Option.some.inj hp').symm,HS⟩
 ·exact⟨_,e,hl.pv⟩
theorem Hy{k:Str}(hk:k∈bM):k∉[aJ,bb,dn]:=by
 simp only[bM,List.mem_cons,List.not_mem_nil,or_false]at hk ⊢;rcases hk with rfl|rfl|rfl|rfl<;>simp[bF]
theorem En.path_mem{S:List SI}{e:En}(h:e∈c7 S):∀n∈e.ab++[e.n],n∈aZ S:=fun n hn=>by
 rcases List.mem_append.mp hn with hn|hn
 ·exact En.ab_mem h n hn
 ·rw[List.mem_singleton.mp hn];exact En.mem_n h
theorem yu{T T':Tb}{r:Int}{S:List SI}{es:List En}{rows:List gX}(he:∀e∈es,e∈aV S)(h:eD (my T r) es rows)(hs:∀n∈aZ S,∀k,k∈iB::bM→(bm T' n).lookup k=(bm T n).lookup k):eD (my T' r) es rows:=
 h.imp fun e hm row hr=>by
  have h1:=(fE (he e hm)).1;unfold my at hr ⊢;rw[hs e.n (En.mem_n h1) iB (.head _)];exact hr.congr fun k hk=>xV fun n hn=>hs n (En.path_mem h1 n hn) k (.tail _ hk)
theorem F_:iB∉[aJ,bb,dn]:=by simp[bF]
theorem Ga{k:Str}(hk:k∈iB::bM):k∉[aJ,bb,dn]:=by
 rcases List.mem_cons.mp hk with rfl|hk
 ·exact F_
 ·exact Hy hk
theorem lG.rows{T T':Tb}{r:Int}{S S':List SI}{i:Nat}{e:En}{rows:List gX}(h:lG T r S i e T' S')(hr:eD (my T r) (aV S) rows):eD (my T' r) (aV S') (rows.take i++rows.drop (i+1)):=by
 have h2:eD (my T r) (aV S') (rows.take i++rows.drop (i+1)):=by
  rw[h.pgs];exact(hr.take i).append (hr.drop (i+1))
 exact yu (fun f hf=>hf) h2 fun n hn k hk=>h.same n (fun e=>h.out (e▸hn)) k (Ga hk)
theorem DE{T:Tb}{r:Int}{S:List SI}{rows:List gX}(h:GS T r S rows){n:Nat}(hn:n<rows.length):∃e,(aV S)[n]? =some e:=by
 have:=h.rw.len;exact⟨_,List.getElem?_eq_getElem (this.symm▸hn)⟩
theorem GS.at_{sh:CV}{T:Tb}{r:Int}{S:List SI}{rows:List gX}(e:sh=qy T R0)(h:GS T r S rows)(bs:CV):gj (bO dq bs sh) dq bs T R0 (bP T S):=⟨by rw[e],h.sh.doc,fun s hs=>Nat.le_trans (h.sh.small s hs) (by decide)⟩
theorem Hp{sh:CV}{rows:List gX}{n:Nat}(hg:Gd sh rows)(hn:n<rows.length)(bs:CV)(sg:Sg)(Q:CV→Sg→Prop)(h:∀sh',Gd sh' (rows.take n++rows.drop (n+1))→Q (bO dq bs sh') sg):fM [bO dq bs sh,.int n] sg Q:=by
 refine dp fun C_ k_=> ?_;obtain⟨T,r,S,rfl,hG⟩:=hg;obtain⟨e,he⟩:=DE hG hn;obtain⟨T',S',hR⟩:=yt hG.sh he;refine k_ ?_;refine⟨dq,bs,T,R0,bP T S,aW T e,T',1,gz,n,hG.at_ rfl bs,rfl,hG.sh.copy,Ix,hR.rem,rfl,hR.sh.one,by simp[gz],h _ ⟨T',r,S',rfl,hR.sh,hR.st,hR.rows hG.rw,?_⟩⟩
 exact Nat.le_trans (zM rows n) hG.len
theorem bN.upd2{T T':Tb}{r:Int}{S S':List SI}(h:bN T r S)(hk:T'.map (·.1)=T.map (·.1))(hnd:(aZ S').Nodup)(hn1:1∉aZ S')(hnr:r∉aZ S')
  (hlk:∀n,T'.lookup n=T.lookup n∨(n≠1∧n≠r∧∃pg,gl T' r pg n)) (htop:iC T' r 2 (S'.map SI.num)) (hits:∀i∈S',B7 T' r i):bN T' r S' where
 len:=by rw[←List.length_map (f:=(·.1)),hk,List.length_map];exact h.len
 knd:=by rw[hk];exact h.knd
 any:=fun p hp=>by
  have hp':T'.lookup p.1=some p.2:=yZ (by rw[hk];exact h.knd) hp
  rcases hlk p.1 with e|⟨_,_,pg,hh⟩
  ·rw[e]at hp';exact h.any p (ot hp')
  ·refine .inr (.inr ⟨pg,_,?_,hh.ok⟩);rw[hh.hat]at hp';exact(Option.some.inj hp').symm
 one:=by
  rcases hlk 1 with e|⟨e,_⟩
  ·rw[e];exact h.one
  ·exact absurd rfl e
 fnt:=by
  rcases hlk r with e|⟨_,e,_⟩
  ·rw[e];exact h.fnt
  ·exact absurd rfl e
 nd:=hnd
 n1:=hn1
 nr:=hnr
 r1:=h.r1
 top:=htop
 its:=hits
theorem jg{k key:Str}(ho:k∉bM)(hk:key∈bM):k≠key:=fun z=>ho (by rw[z];exact hk)
theorem wN.some{r:Int}{pg:Bool}{k:Str}{v:CV}(h:wN r pg k v):isNone v=false:=by
 rcases h with⟨_,rfl⟩|⟨_,q,rfl⟩|⟨_,i,rfl⟩|⟨_,i,rfl⟩|⟨_,rfl⟩|⟨_,rfl⟩|⟨_,x,rfl⟩|⟨_,⟨_,ks,rfl,hz⟩|⟨_,i,rfl⟩⟩<;>first|rfl|(cases pg<;>rfl)
theorem ws{r:Int}{key:Str}{c:CV}(hkey:key∈bM)(hc:wN r true key c):∀(ks:List Int) (T:Tb),ks.Nodup→T.lookup r=some (cP (.sd fu))→r∉ks→(∀n∈ks,∃pg,gl T r pg n)→
  ∃T',qF key c T ks T'∧T'.map (·.1)=T.map (·.1)∧(∀n,n∉ks→T'.lookup n=T.lookup n)∧(∀n∈ks,∀pg,gl T r pg n→gl T' r pg n)∧(∀n k,k≠key→(bm T' n).lookup k=(bm T n).lookup k)∧∀n∈ks,(bm T' n).lookup key=((bm T n).lookup key).or (some c)
 |[],T,_,_,_,_=>⟨T,.nil,rfl,fun O O=>rfl,fun n h=>(by exact mn h),fun O O O=>rfl,fun n h=>(by exact mn h)⟩
 |n::ks,T,hn,hr,hrk,hh=>by
  have hn:=List.nodup_cons.mp hn;obtain⟨pg,h1⟩:=hh n (.head _);have hrn:r≠n:=fun e=>hrk (e▸.head _);have hrk':r∉ks:=fun e=>hrk (.tail _ e);cases e:(bm T n).lookup key with
  |some v=>
   obtain⟨T',p1,p2,p3,p4,p5,p6⟩:=ws hkey hc ks T hn.2 hr hrk' fun m hm=>hh m (.tail _ hm);refine el12 (h1.ok.fetch hr key hkey v e) fun w hw1 hw2=> ?_;refine⟨T',.has h1.hat e hw1 hw2 p1,p2,fun m hm=>p3 m fun q=>hm (.tail _ q),fun m hm pg hp=> ?_,p5,fun m hm=> ?_⟩
   ·rcases List.mem_cons.mp hm with rfl|hm
    ·exact hp.congr (p3 m hn.1)
    ·exact p4 m hm pg hp
   ·rcases List.mem_cons.mp hm with rfl|hm
    ·rw[fw (p3 m hn.1),e];rfl
    ·exact p6 m hm
  |none=>
   have lk:∀m,(bW n (cA (bm T n) [(key,c)]) T).lookup m=if m=n then some (cP (.sd (cA (bm T n) [(key,c)])))else T.lookup m:=fun m=>bw
   have hd1:∀m,bm (bW n (cA (bm T n) [(key,c)]) T) m=if m=n then cA (bm T n) [(key,c)]else bm T m:=fun m=>jV
   have hne:∀m∈ks,m≠n:=fun m hm q=>hn.1 (q▸hm);have hnn:∀pg,gl T r pg n→gl (bW n (cA (bm T n) [(key,c)]) T) r pg n:=fun pg hp=>by
    refine⟨by rw[hd1,if_pos rfl,lk,if_pos rfl],?_,?_⟩
    ·rw[hd1,if_pos rfl];exact ck.turn hp.ok fun q hq=>by rw[List.mem_singleton.mp hq];exact .inr (hc.inh hkey)
    ·rw[hd1,if_pos rfl,cN,if_neg (jg nM hkey)];exact hp.ty
   obtain⟨T',p1,p2,p3,p4,p5,p6⟩:=ws hkey hc ks (bW n (cA (bm T n) [(key,c)]) T) hn.2 (by rw[lk,if_neg hrn];exact hr) hrk' fun m hm=>by
    obtain⟨pg,hp⟩:=hh m (.tail _ hm);exact⟨pg,hp.congr (by rw[lk,if_neg (hne m hm)])⟩
   refine⟨T',.gets h1.hat e (Nat.le_trans h1.ok.len (by decide)) p1,p2.trans (je h1),fun m hm=> ?_,fun m hm pg hp=> ?_,fun m k hk=> ?_,fun m hm=> ?_⟩
   ·simp only[List.mem_cons,not_or]at hm;rw[p3 m hm.2,lk,if_neg hm.1]
   ·rcases List.mem_cons.mp hm with rfl|hm
    ·exact(hnn pg hp).congr (p3 m hn.1)
    ·exact p4 m hm pg (hp.congr (by rw[lk,if_neg (hne m hm)]))
   ·rw[p5 m k hk,hd1];by_cases q:m=n
    ·rw[if_pos q,cN,if_neg hk,q]
    ·rw[if_neg q]
   ·rcases List.mem_cons.mp hm with rfl|hm
    ·rw[fw (p3 m hn.1),hd1,if_pos rfl,cN,if_pos rfl,e,hc.some];rfl
    ·rw[p6 m hm,hd1,if_neg (hne m hm)]
structure yI(T:Tb)(r:Int)(S:List SI)(T':Tb):Prop where
 sh:bN T' r S
 ef:∀e∈aV S,∀k∈bM,Cm T' e k=Cm T e k
 out:∀n,n∉aZ S→T'.lookup n=T.lookup n
 oth:∀n k,k∉bM→(bm T' n).lookup k=(bm T n).lookup k
theorem yI.refl{T:Tb}{r:Int}{S:List SI}(h:bN T r S):yI T r S T:=⟨h,fun O O O O=>rfl,fun O O=>rfl,fun O O O=>rfl⟩
theorem yI.trans{T T' T'':Tb}{r:Int}{S:List SI}(h:yI T r S T')(h':yI T' r S T''):yI T r S T'':=
 ⟨h'.sh,fun e he k hk=>(h'.ef e he k hk).trans (h.ef e he k hk),fun n hn=>(h'.out n hn).trans (h.out n hn),fun n k hk=>(h'.oth n k hk).trans (h.oth n k hk)⟩
theorem DG{T:Tb}{r:Int}{S:List SI}{q:Int}{ks:List Int}{key:Str}(h:bN T r S)(hkey:key∈bM)(hq:(q=2∧ks=S.map SI.num)∨SI.node q ks∈S):
  ∃T',uX key T q T'∧yI T r S T'∧(∀n k,k≠key→(bm T' n).lookup k=(bm T n).lookup k)∧(bm T' q).lookup key=none∧∀n,n∉ks→n≠q→T'.lookup n=T.lookup n:=by
 have hN:iC T r q ks∧gW T q (bm T q) ks∧ks.Nodup∧q∈aZ S∧(∀k∈ks,k∈aZ S)∧q∉ks:=by
  rcases hq with⟨rfl,rfl⟩|hm
  ·refine⟨h.top,h.nodeAt2,h.tops.2,fU S,fun k hk=> ?_,fun hk=> ?_⟩
   ·obtain⟨i,hi,rfl⟩:=List.mem_map.mp hk;exact ic hi _ (lm i)
   ·refine el12 (List.mem_map.mp hk) fun i hi e=> ?_;exact eF h.nd hi _ (lm i) e
  ·have hn:=h.nodeAt hm;refine⟨(h.its _ hm).1,hn.1,hn.2.2,nG hm,fun k hk=>ic hm k (.tail _ hk),fun hk=> ?_⟩;exact(List.nodup_cons.mp (zQ h.nd hm)).1 hk
 obtain⟨n1,n2,n3,n4,n5,n6⟩:=hN;cases e:(bm T q).lookup key with
 |none=>exact⟨T,.no n1.hd.hat e,.refl h,fun O O O=>rfl,e,fun O O O=>rfl⟩
 |some c=>
  have hc:wN r true key c:=(n1.hd.ok.at_ e).inh hkey;have hrk:r∉ks:=fun hm=>(h.ne (n5 r hm)).2 rfl;refine el16 (ws hkey hc ks T n3 h.fnt hrk fun n hn=>h.there (n5 n hn)) fun T1 p1 p2 p3 p4 p5 p6=> ?_;refine el12 (n1.hd.ok.fetch h.fnt key hkey c e) fun w hw1 hw2=> ?_;have q1:T1.lookup q=T.lookup q:=p3 q n6;have lk:∀m,(bW q (cA (bm T q) [(key,.none)]) T1).lookup m=if m=q then some (cP (.sd (cA (bm T q) [(key,.none)])))else T1.lookup m:=fun m=>bw
  have hd1:∀m,bm (bW q (cA (bm T q) [(key,.none)]) T1) m=if m=q then cA (bm T q) [(key,.none)]else bm T1 m:=fun m=>jV
  have hpt:uX key T q (bW q (cA (bm T q) [(key,.none)]) T1):= .yes n2 e hw1 hw2 p1 (by rw[q1,n1.hd.hat];rfl)
  have oth:∀n k,k≠key→(bm (bW q (cA (bm T q) [(key,.none)]) T1) n).lookup k=(bm T n).lookup k:=fun n k hk=>by
   rw[hd1];by_cases z:n=q
   ·rw[if_pos z,cN,if_neg hk,z]
   ·rw[if_neg z];exact p5 n k hk
  have hq0:(bm (bW q (cA (bm T q) [(key,.none)]) T1) q).lookup key=none:=by rw[hd1,if_pos rfl,cN,if_pos rfl];rfl
  have hout:∀n,n∉ks→n≠q→(bW q (cA (bm T q) [(key,.none)]) T1).lookup n=T.lookup n:=fun n h1 h2=>by rw[lk,if_neg h2];exact p3 n h1
  have hkid:∀n∈ks,(bm (bW q (cA (bm T q) [(key,.none)]) T1) n).lookup key=((bm T n).lookup key).or (some c):=fun n hn=>by
   rw[hd1,if_neg (show n≠q from fun z=>n6 (by rw[←z];exact hn))];exact p6 n hn
  refine⟨_,hpt,?_,oth,hq0,hout⟩;generalize hT2:bW q (cA (bm T q) [(key,.none)]) T1=T2 at*;have hhd:∀n pg,gl T r pg n→gl T2 r pg n:=fun n pg hp=>by
   by_cases z:n=q
   ·obtain rfl:=z.symm;refine⟨by rw[hd1,if_pos rfl,lk,if_pos rfl],?_,?_⟩
    ·rw[hd1,if_pos rfl];exact ck.turn hp.ok fun q hq=>by rw[List.mem_singleton.mp hq];exact .inl rfl
    ·rw[oth _ _ (jg nM hkey)];exact hp.ty
   ·by_cases z2:n∈ks
    ·exact(p4 n z2 pg hp).congr (by rw[lk,if_neg z])
    ·exact hp.congr (hout n z2 z)
  have hnd:∀n ks,iC T r n ks→iC T2 r n ks:=fun n ks hp=>⟨hhd n _ hp.hd,by rw[oth _ _ (jg Bz hkey)];exact hp.ks,by rw[oth _ _ (jg yj hkey)];exact hp.ct⟩
  have hsh:bN T2 r S:=by
   refine h.upd ?_ h.nd (fun n hn=>hn) (fun n=> ?_) (hnd _ _ h.top) fun i hi=> ?_
   ·rw[←hT2];refine Eq.trans (cI ?_) p2;rw[q1,n1.hd.hat];rfl
   ·by_cases z:n=q
    ·obtain rfl:=z.symm;exact .inr ⟨(h.ne n4).1,(h.ne n4).2,_,hhd _ _ n1.hd⟩
    ·by_cases z2:n∈ks
     ·obtain⟨pg,hp⟩:=h.there (n5 n z2);exact .inr ⟨(h.ne (n5 n z2)).1,(h.ne (n5 n z2)).2,pg,hhd _ _ hp⟩
     ·exact .inl (hout n z2 z)
   ·have:=h.its i hi;cases i with
    |page n=>exact hhd _ _ this
    |node n ps=>exact⟨hnd _ _ this.1,fun p hp=>hhd _ _ (this.2 p hp)⟩
  refine⟨hsh,fun e' he k hk=> ?_,fun n hn=>hout n (fun z=>hn (n5 n z)) (fun z=>hn (z▸n4)),fun n k hk=>oth n k (jg hk hkey)⟩;by_cases z:k=key
  ·obtain rfl:=z.symm;have ho:∀n,n∉ks→n≠q→(bm T2 n).lookup key=(bm T n).lookup key:=fun n h1 h2=>by rw[fw (hout n h1 h2)]
   rcases En.cases (fE he).1 with rfl|⟨p,hi,rfl⟩|⟨n,ps,hi,rfl⟩|⟨n,ps,p,hi,hp,rfl⟩
   ·exact absurd (fE he).2 (by simp)
   ·show((bm T2 p).lookup key).or (((bm T2 2).lookup key).or none)=((bm T p).lookup key).or (((bm T 2).lookup key).or none);rcases hq with⟨rfl,rfl⟩|hm
    ·rw[hkid p (List.mem_map.mpr ⟨_,hi,rfl⟩),hq0,e];cases (bm T p).lookup key<;>rfl
    ·rw[ho p (fun hp=>rG h.nd hi hm nofun (.head _) (.tail _ hp)) (fun hp=>rG h.nd hi hm nofun (.head _) (hp▸.head _)),ho 2 (fun z=>eF h.nd hm 2 (.tail _ z) rfl) (fun z=>eF h.nd hm q (.head _) z.symm)]
   ·exact absurd (fE he).2 (by simp)
   ·show((bm T2 p).lookup key).or (((bm T2 n).lookup key).or (((bm T2 2).lookup key).or none))=((bm T p).lookup key).or (((bm T n).lookup key).or (((bm T 2).lookup key).or none));rcases hq with⟨rfl,rfl⟩|hm
    ·have d1:p∉S.map SI.num:=fun hm=>by
      refine el12 (List.mem_map.mp hm) fun j hj e1=> ?_;by_cases hjn:j= .node n ps
      ·have e1:n=p:=(congrArg SI.num hjn).symm.trans e1;exact(List.nodup_cons.mp (zQ h.nd hi)).1 (e1▸hp)
      ·exact rG h.nd hj hi hjn (e1▸lm j) (.tail _ hp)
     rw[ho p d1 (eF h.nd hi p (.tail _ hp)),hkid n (List.mem_map.mpr ⟨_,hi,rfl⟩),hq0,e];cases (bm T n).lookup key<;>rfl
    ·have h2:=ho 2 (fun z=>eF h.nd hm 2 (.tail _ z) rfl) (fun z=>eF h.nd hm q (.head _) z.symm);by_cases hnq:SI.node n ps=SI.node q ks
     ·cases hnq;rw[hkid p hp,hq0,h2,e];cases (bm T p).lookup key<;>rfl
     ·have ap:=fun {x:Int} (hx:x∈SI.nums (.node n ps))=>rG h.nd hi hm hnq hx;rw[h2,ho p (fun z=>ap (.tail _ hp) (.tail _ z)) (fun z=>ap (.tail _ hp) (z▸.head _)),ho n (fun z=>ap (.head _) (.tail _ z)) (fun z=>ap (.head _) (z▸.head _))]
  ·exact xV fun n O=>oth n k z
def Lg(S:List SI)(qs:List Int):Prop:=qs=[2]∨∃q ps,SI.node q ps∈S∧qs=[2,q]
theorem GO{T:Tb}{r:Int}{S:List SI}{qs:List Int}{key:Str}(h:bN T r S)(hw:Lg S qs)(hkey:key∈bM):
  ∃T',lF key T qs T'∧yI T r S T'∧(∀n k,k≠key→(bm T' n).lookup k=(bm T n).lookup k)∧∀q∈qs,(bm T' q).lookup key=none:=by
 refine el15 (DG h hkey (.inl ⟨rfl,rfl⟩)) fun T1 a1 a2 a3 a4 a5=> ?_;rcases hw with rfl|⟨q,ps,hm,rfl⟩
 ·exact⟨T1,.cons a1 .nil,a2,a3,fun q hq=>by rw[List.mem_singleton.mp hq];exact a4⟩
 ·refine el15 (DG a2.sh hkey (.inr hm)) fun T2 b1 b2 b3 b4 b5=> ?_;refine⟨T2,.cons a1 (.cons b1 .nil),a2.trans b2,fun n k hk=>(b3 n k hk).trans (a3 n k hk),fun x hx=> ?_⟩;simp only[List.mem_cons,List.not_mem_nil,or_false]at hx;rcases hx with rfl|rfl
  ·rw[fw (b5 2 (fun z=>eF h.nd hm 2 (.tail _ z) rfl) (fun z=>eF h.nd hm q (.head _) z.symm))];exact a4
  ·exact b4
theorem s9{r:Int}{S:List SI}{qs:List Int}{p:Int}(hw:Lg S qs)(hp:p∉aZ S):∀(keys:List Str) (T:Tb),keys.Nodup→(∀k∈keys,k∈bM)→bN T r S→gl T r true p→
  ∃T',ii p qs T keys T'∧yI T r S T'∧(∀n k,k∉keys→(bm T' n).lookup k=(bm T n).lookup k)∧∀key∈keys,(bm T p).lookup key=none→∀q∈qs,(bm T' q).lookup key=none
 |[],T,_,_,h,_=>⟨T,.nil,.refl h,fun O O O=>rfl,fun k hk=>by cases hk⟩
 |key::keys,T,hn,hk,h,hh=>by
  have hn:=List.nodup_cons.mp hn;have hkey:=hk key (.head _);have hk':∀k∈keys,k∈bM:=fun k hm=>hk k (.tail _ hm);cases e:(bm T p).lookup key with
  |some v=>
   refine dp fun C_ k_=> ?_;obtain⟨T',a1,a2,a3,a4⟩:=s9 hw hp keys T hn.2 hk' h hh;refine k_ ?_;refine el12 (hh.ok.fetch h.fnt key hkey v e) fun w hw1 hw2=> ?_;refine⟨T',.has hh.hat e hw1 hw2 a1,a2,fun n k hm=>a3 n k fun z=>hm (.tail _ z),fun k hm hz=> ?_⟩;rcases List.mem_cons.mp hm with rfl|hm
   ·rw[e]at hz;exact sn hz
   ·exact a4 k hm hz
  |none=>
   refine el14 (GO h hw hkey) fun T1 b1 b2 b3 b4=> ?_;have ep:T1.lookup p=T.lookup p:=b2.out p hp;obtain⟨T',a1,a2,a3,a4⟩:=s9 hw hp keys T1 hn.2 hk' b2.sh (hh.congr ep);refine⟨T',.push hh.hat e b1 a1,b2.trans a2,fun n k hm=> ?_,fun k hm hz q hq=> ?_⟩
   ·simp only[List.mem_cons,not_or]at hm;rw[a3 n k hm.2,b3 n k hm.1]
   ·rcases List.mem_cons.mp hm with rfl|hm
    ·rw[a3 q k hn.1];exact b4 q hq
    ·exact a4 k hm (by rw[fw ep];exact hz) q hq
theorem FD{es:List En}{T:Tb}{e:En}(hn:(es.map (·.n)).Nodup)(he:e∈es):((es.map (aW T)).filter fun s=>s.n==e.n)=[aW T e]:=by
 induction es with
 |nil=>cases he
 |cons f es ih=>
  rw[List.map_cons]at hn ⊢;have hn:=List.nodup_cons.mp hn;rcases List.mem_cons.mp he with rfl|he
  ·rw[List.filter_cons_of_pos (by exact beq_self_eq_true _),List.filter_eq_nil_iff.mpr]
   intro s hs;obtain⟨g,hg,rfl⟩:=List.mem_map.mp hs;intro z;have z:g.n=e.n:=by simpa [aW] using z
   exact hn.1 (by rw[←z];exact List.mem_map_of_mem (f:=fun x:En=>x.n) hg)
  ·have hne:f.n≠e.n:=fun z=>hn.1 (by rw[z];exact List.mem_map_of_mem (f:=fun x:En=>x.n) he)
   rw[List.filter_cons_of_neg (by simpa [aW] using hne)]
   exact ih hn.2 he
theorem FE{α:Type}{a b:List α}{x:α}(h:(a++x::b).Nodup):(a++x::b)[a.length]? =some x∧∀m<a.length,(a++x::b)[m]?≠some x:=by
 refine⟨by simp,fun m hm e=> ?_⟩
 rw[List.getElem?_append_left hm]at e;exact(List.nodup_append.mp h).2.2 x (List.mem_of_getElem? e) x (.head _) rfl
structure uW(S:List SI)(to:Nat)(p:Int)(en:En)(pos:Nat)(ks:List Int)(S2:List SI):Prop where
 mem:en∈c7 S
 pg:en.pg=false
 way:Lg S (en.ab++[en.n])
 place:∀T r,bN T r S→qE T (bP T S) to (aW T en) pos
 kids:(en.n=2∧ks=S.map SI.num)∨SI.node en.n ks∈S
 shp:(en.n=2∧S2.map SI.num=ks.take pos++[p]++ks.drop pos∧∀i∈S2,i= .page p∨i∈S)∨(en.n≠2∧S2.map SI.num=S.map SI.num∧∀i∈S2,i= .node en.n (ks.take pos++[p]++ks.drop pos)∨(i∈S∧en.n∉i.nums))
 nums:(aZ S2).Perm (p::aZ S)
 pgs:aV S2=(aV S).take to++[⟨p,en.ab++[en.n],true⟩]++(aV S).drop to
theorem BD{a b c:List Int}{p:Int}(h:b.Perm (p::c)):(a++b).Perm (p::(a++c)):=(List.Perm.append_left a h).trans List.perm_middle
theorem r6{α:Type}{X Y:List α}:(X++Y).take X.length=X:=List.take_left
theorem oy(A B:List SI)(p:Int):aV (A++ .page p::B)=aV A++([⟨p,[2],true⟩]++aV B):=by rw[fT,dW];rfl
theorem wd(A B:List SI)(p:Int):(aZ (A++ .page p::B)).Perm (p::aZ (A++B)):=by
 unfold aZ;rw[List.flatMap_append,List.flatMap_cons,List.flatMap_append];refine(List.Perm.cons 2 ?_).trans (List.Perm.swap p 2 _);exact BD (.refl _)
theorem CS{S:List SI}{p:Int}(h0:aV S=[]):uW S 0 p ⟨2,[],false⟩ S.length (S.map SI.num) (S++[.page p]) where
 mem:= .head _
 pg:=rfl
 way:= .inl rfl
 place:=fun T r h=>by
  have:(bP T S).pages=[]:=by rw[df,h0];rfl
  refine⟨by decide,by simp,.inl ⟨this,rfl,?_⟩⟩
  show(S.length:Int)=((S.map (Bn T)).length:Int);rw[List.length_map]
 kids:= .inl ⟨rfl,rfl⟩
 shp:= .inl ⟨rfl,by
  rw[←List.length_map (f:=SI.num) (as:=S),List.take_length,List.drop_length,List.map_append];simp[SI.num],fun i hi=>by
  rcases List.mem_append.mp hi with hi|hi
  ·exact .inr hi
  ·exact .inl (List.mem_singleton.mp hi)⟩
 nums:=by
  have:=wd S [] p;rw[List.append_nil]at this;exact this
 pgs:=by rw[oy,h0,kG];rfl
theorem oi{T:Tb}{r:Int}{S:List SI}{to idx:Nat}{eb en:En}{ks X Y:List Int}(h:bN T r S)(hidx:(aV S)[idx]? =some eb)(hto:(to=idx∧to<(aV S).length)∨(to=(aV S).length∧idx+1=to))(hen:en∈c7 S)
  (hab:eb.ab.getLast? =some en.n) (hN:gW T en.n (bm T en.n) ks) (hks:ks=X++eb.n::Y) (hnd:ks.Nodup):qE T (bP T S) to (aW T en) ((X.length:Int)+(if to=(aV S).length then 1 else 0)):=by
 have hl:(bP T S).pages.length=(aV S).length:=by rw[df,List.length_map]
 have hlt:idx<(aV S).length:=(List.getElem?_eq_some_iff.mp hidx).1;have hle:to≤(aV S).length:=hto.elim (fun h=>Nat.le_of_lt h.2) fun h=>Nat.le_of_eq h.1;have heb:=(fE (List.mem_of_getElem? hidx)).1;refine⟨by exact Int.natCast_nonneg to,by rw[hl];exact Int.ofNat_le.mpr hle,.inr ⟨fun e=> ?_,aW T eb,ks,X.length,?_⟩⟩
 ·rw[e]at hl;exact absurd (Nat.lt_of_lt_of_eq hlt hl.symm) (Nat.not_lt_zero idx)
 subst hks;obtain⟨f1,f2⟩:=FE hnd;refine⟨?_,hab,Nat.le_trans (En.ab_len heb) (by decide),?_,hN.hks,hN.res,hN.klen,f1,f2,?_⟩
 ·rw[hl];have e:(if((aV S).length:Int)-1<(to:Int)then((aV S).length:Int)-1 else(to:Int)).toNat=idx:=by
   rcases hto with⟨h1,h2⟩|⟨h1,h2⟩
   ·rw[if_neg (Int.not_lt.mpr (Int.le_sub_one_of_lt (Int.ofNat_lt.mpr h2)))];exact h1
   ·rw[if_pos (by rw[h1];exact Int.sub_lt_self _ (by decide)),←h1,←h2]
    show((idx:Int)+1-1).toNat=idx;rw[Int.add_sub_cancel];rfl
  rw[e,df,List.getElem?_map,hidx];rfl
 ·rw[cO];show(((c7 S).map (aW T)).filter fun s=>s.n==en.n).head? =_;rw[FD (by rw[ga];exact h.nd) hen]
  rfl
 ·rw[hl];by_cases e:to=(aV S).length
  ·rw[if_pos e,if_pos (by exact Int.ofNat_inj.mpr e)]
  ·rw[if_neg e,if_neg (by exact Nat.ToInt.of_diseq rfl rfl e)]
theorem q7{α:Type}{X Y:List α}:(X++Y).drop X.length=Y:=List.drop_left
theorem BA(A B:List SI)(b:Int):(aV (A++ .page b::B)).length=(aV A).length+1+(aV B).length:=by rw[oy];simp;exact(Nat.succ_add_eq_add_succ (aV A).length (aV B).length).symm
theorem By(A B:List SI)(q b:Int)(X Y:List Int):(aV (A++ .node q (X++b::Y)::B)).length=(aV A).length+X.length+1+(Y.length+(aV B).length):=by
 rw[fT,dW,List.length_append,List.length_append];simp only[DD,List.length_map,List.length_append,List.length_cons];rw[Nat.add_assoc,Nat.add_assoc,Nat.add_assoc,Nat.add_left_comm 1,Nat.add_assoc]
theorem zO{a b n:Nat}(h:n=a+1+b):a<n:=h▸Nat.lt_of_lt_of_le (Nat.lt_succ_self a) (Nat.le_add_right _ _)
theorem wl{A B:List SI}{b p:Int}{to:Nat}(hto:(to=(aV A).length)∨(to=(aV A).length+1∧aV B=[])):
  ∃pos S2,uW (A++ .page b::B) to p ⟨2,[],false⟩ pos ((A++ .page b::B).map SI.num) S2:=by
 have hlen:=BA A B b;have hidx:(aV (A++ .page b::B))[(aV A).length]? =some ⟨b,[2],true⟩:=by rw[oy];simp
 have hks:(A++ .page b::B).map SI.num=A.map SI.num++b::B.map SI.num:=by rw[List.map_append];rfl
 rcases hto with hto|⟨hto,hB⟩
 ·refine⟨A.length,A++ .page p:: .page b::B,.head _,rfl,.inl rfl,fun T r h=> ?_,.inl ⟨rfl,rfl⟩,.inl ⟨rfl,?_,fun i hi=> ?_⟩,wd A _ p,?_⟩
  ·have:=oi (to:=to) (en:=⟨2,[],false⟩) h hidx (.inl ⟨hto,hto.symm▸zO hlen⟩) (.head _) rfl h.nodeAt2 hks h.tops.2;rw[if_neg (Nat.ne_of_lt (hto.symm▸zO hlen)),List.length_map]at this
   simpa using this
  ·rw[hks,←List.length_map (f:=SI.num) (as:=A),r6,q7,List.map_append];simp[SI.num]
  ·rcases List.mem_append.mp hi with hi|hi
   ·exact .inr (List.mem_append_left _ hi)
   ·rcases List.mem_cons.mp hi with rfl|hi
    ·exact .inl rfl
    ·exact .inr (List.mem_append_right _ hi)
  ·rw[oy A,fT A,hto,r6,q7];simp
 ·have e9:to=(aV (A++ .page b::B)).length:=by rw[hto,hlen,hB];rfl
  refine⟨A.length+1,A++ .page b:: .page p::B,.head _,rfl,.inl rfl,fun T r h=> ?_,.inl ⟨rfl,rfl⟩,.inl ⟨rfl,?_,fun i hi=> ?_⟩,?_,?_⟩
  ·have:=oi (to:=to) (en:=⟨2,[],false⟩) h hidx (.inr ⟨e9,hto.symm⟩) (.head _) rfl h.nodeAt2 hks h.tops.2;rw[if_pos e9,List.length_map]at this;exact this
  ·have e1:A.map SI.num++b::B.map SI.num=(A.map SI.num++[b])++B.map SI.num:=by simp
   have e2:A.length+1=(A.map SI.num++[b]).length:=by simp
   rw[hks,e1,e2,r6,q7,List.map_append];simp[SI.num]
  ·rcases List.mem_append.mp hi with hi|hi
   ·exact .inr (List.mem_append_left _ hi)
   ·rcases List.mem_cons.mp hi with rfl|hi
    ·exact .inr (List.mem_append_right _ (.head _))
    ·rcases List.mem_cons.mp hi with rfl|hi
     ·exact .inl rfl
     ·exact .inr (List.mem_append_right _ (.tail _ hi))
  ·have:=wd (A++[.page b]) B p
   simpa using this
  ·rw[oy A,dW,hB,List.append_nil,oy A,hB,hto];have e2:(aV A).length+1=(aV A++(([⟨b,[2],true⟩]:List En)++[])).length:=by simp
   rw[e2,List.take_length,List.drop_length];simp[DD]
theorem yi(A B:List SI)(q p:Int)(X Y:List Int):(aZ (A++ .node q (X++p::Y)::B)).Perm (p::aZ (A++ .node q (X++Y)::B)):=by
 unfold aZ;rw[List.flatMap_append,List.flatMap_cons,List.flatMap_append,List.flatMap_cons];refine(List.Perm.cons 2 ?_).trans (List.Perm.swap p 2 _);refine BD ?_;show(q::(X++p::Y)++B.flatMap SI.nums).Perm (p::(q::(X++Y)++B.flatMap SI.nums));have e1:q::(X++p::Y)++B.flatMap SI.nums=(q::X)++p::(Y++B.flatMap SI.nums):=by simp
 have e2:q::(X++Y)++B.flatMap SI.nums=(q::X)++(Y++B.flatMap SI.nums):=by simp
 rw[e1,e2];exact List.perm_middle
theorem wk{A B:List SI}{q b p:Int}{X Y:List Int}{to:Nat}(hnd:(aZ (A++ .node q (X++b::Y)::B)).Nodup)(hto:(to=(aV A).length+X.length)∨(to=(aV A).length+X.length+1∧Y=[]∧aV B=[])):
  ∃pos S2,uW (A++ .node q (X++b::Y)::B) to p ⟨q,[2],false⟩ pos (X++b::Y) S2:=by
 have hqm:SI.node q (X++b::Y)∈A++ .node q (X++b::Y)::B:=List.mem_append_right _ (.head _);have hq2:q≠2:=eF hnd hqm q (.head _);have hen:(⟨q,[2],false⟩:En)∈c7 (A++ .node q (X++b::Y)::B):=List.mem_cons_of_mem _ (List.mem_flatMap.mpr ⟨_,hqm,.head _⟩);have hpg:aV (A++ .node q (X++b::Y)::B)=(aV A++DD (.node q X))++(⟨b,[2,q],true⟩::(DD (.node q Y)++aV B)):=by
  rw[fT,dW];simp[DD]
 have hXl:(aV A++DD (.node q X)).length=(aV A).length+X.length:=by simp[DD]
 have hlen:=By A B q b X Y;have hidx:(aV (A++ .node q (X++b::Y)::B))[(aV A).length+X.length]? =some ⟨b,[2,q],true⟩:=by rw[hpg,←hXl];simp
 have hrest:∀Z,∀i∈A++SI.node q Z::B,i= .node q Z∨(i∈A++ .node q (X++b::Y)::B∧q∉i.nums):=fun Z i hi=>by
  rcases List.mem_append.mp hi with hi|hi
  ·exact .inr ⟨List.mem_append_left _ hi,(fy hnd).1 i hi q (.head _)⟩
  ·rcases List.mem_cons.mp hi with rfl|hi
   ·exact .inl rfl
   ·exact .inr ⟨List.mem_append_right _ (.tail _ hi),(fy hnd).2.1 i hi q (.head _)⟩
 rcases hto with hto|⟨hto,rfl,hB⟩
 ·have hT:(X++b::Y).take X.length++[p]++(X++b::Y).drop X.length=X++p::b::Y:=by rw[r6,q7];simp
  refine⟨X.length,A++ .node q (X++p::b::Y)::B,hen,rfl,.inr ⟨q,_,hqm,rfl⟩,fun T r h=> ?_,.inr hqm,.inr ⟨hq2,by rw[List.map_append,List.map_append];rfl,by rw[hT];exact hrest _⟩,yi A B q p X _,?_⟩
  ·refine mC (h.nodeAt hqm) fun n1 n2 n3=> ?_;have:=oi (to:=to) (en:=⟨q,[2],false⟩) h hidx (.inl ⟨hto,hto.symm▸zO hlen⟩) hen rfl n1 rfl n3;rw[if_neg (Nat.ne_of_lt (hto.symm▸zO hlen))]at this
   simpa using this
  ·rw[hpg,hto,←hXl,r6,q7,fT,dW];simp[DD]
 ·have e1:X++[b]=(X++[b])++[]:=by simp
  have hT:(X++[b]).take (X.length+1)++[p]++(X++[b]).drop (X.length+1)=X++[b]++p::[]:=by
   have e2:X.length+1=(X++[b]).length:=by simp
   rw[e2,List.take_length,List.drop_length];simp
  have e3:to=(aV (A++ .node q (X++[b])::B)).length:=by rw[hto,hlen,hB];rfl
  refine⟨X.length+1,A++ .node q ((X++[b])++p::[])::B,hen,rfl,.inr ⟨q,_,hqm,rfl⟩,fun T r h=> ?_,.inr hqm,.inr ⟨hq2,by rw[List.map_append,List.map_append];rfl,by rw[hT];exact hrest _⟩,?_,?_⟩
  ·refine mC (h.nodeAt hqm) fun n1 n2 n3=> ?_;have:=oi (to:=to) (en:=⟨q,[2],false⟩) h hidx (.inr ⟨e3,hto.symm⟩) hen rfl n1 rfl n3;rw[if_pos e3]at this;exact this
  ·have:=yi A B q p (X++[b]) [];rw[List.append_nil]at this;exact this
  ·rw[e3,List.take_length,List.drop_length,hpg,fT,dW,hB];simp[DD]
theorem Gp{S:List SI}{to:Nat}(p:Int)(hnd:(aZ S).Nodup)(h:to≤(aV S).length):∃en pos ks S2,uW S to p en pos ks S2:=by
 by_cases h0:aV S=[]
 ·have:to=0:=by rw[h0]at h;simpa using h
  subst this;exact⟨_,_,_,_,CS h0⟩
 ·have hpos:0<(aV S).length:=List.length_pos_iff.mpr h0;by_cases hlt:to<(aV S).length
  ·rcases ow (List.getElem?_eq_getElem hlt)with⟨A,B,b,rfl,_,hl⟩|⟨A,B,q,X,Y,b,rfl,_,hl⟩
   ·obtain⟨pos,S2,hp⟩:=wl (A:=A) (B:=B) (b:=b) (p:=p) (.inl hl.symm);exact⟨_,_,_,_,hp⟩
   ·obtain⟨pos,S2,hp⟩:=wk (p:=p) hnd (.inl hl.symm);exact⟨_,_,_,_,hp⟩
  ·have hlast:(aV S).length-1<(aV S).length:=Nat.sub_one_lt_of_lt hpos;have e4:to=(aV S).length-1+1:=(Nat.le_antisymm h (Nat.not_lt.mp hlt)).trans (Nat.sub_add_cancel hpos).symm;have e5:=Nat.sub_add_cancel hpos;rcases ow (List.getElem?_eq_getElem hlast)with⟨A,B,b,rfl,_,hl⟩|⟨A,B,q,X,Y,b,rfl,_,hl⟩
   ·rw[←hl]at e4 e5;obtain⟨pos,S2,hp⟩:=wl (A:=A) (B:=B) (b:=b) (p:=p) (to:=to) (.inr ⟨e4,List.length_eq_zero_iff.mp (Nat.add_eq_left.mp ((BA A B b).symm.trans e5.symm))⟩);exact⟨_,_,_,_,hp⟩
   ·rw[←hl]at e4 e5;have e6:=Nat.add_eq_zero_iff.mp (Nat.add_eq_left.mp ((By A B q b X Y).symm.trans e5.symm));obtain⟨pos,S2,hp⟩:=wk (p:=p) (to:=to) hnd (.inr ⟨e4,List.length_eq_zero_iff.mp e6.1,List.length_eq_zero_iff.mp e6.2⟩);exact⟨_,_,_,_,hp⟩
theorem uW.nodeAt{S S2:List SI}{to pos:Nat}{p:Int}{en:En}{ks:List Int}(hp:uW S to p en pos ks S2){T:Tb}{r:Int}(h:bN T r S):gW T en.n (bm T en.n) ks∧ks.length≤29∧iC T r en.n ks∧(∀k∈ks,k∈aZ S)∧en.n∈aZ S∧(en.n≠2→∀k∈ks,gl T r true k∧k≠en.n):=by
 rcases hp.kids with⟨e1,e2⟩|hm
 ·rw[e1,e2];refine⟨h.nodeAt2,h.tops.1,h.top,fun k hk=> ?_,fU S,fun z=>absurd rfl z⟩;obtain⟨i,hi,rfl⟩:=List.mem_map.mp hk;exact ic hi _ (lm i)
 ·refine mC (h.nodeAt hm) fun n1 n2 n3=> ?_;refine⟨n1,n2,(h.its _ hm).1,fun k hk=>ic hm k (.tail _ hk),nG hm,fun O k hk=>⟨(h.its _ hm).2 k hk,fun z=> ?_⟩⟩;obtain⟨A,B,e⟩:=List.append_of_mem hm;have hn0:(en.n::ks).Nodup:=(fy (i:= .node en.n ks) (A:=A) (B:=B) (by rw[←e];exact h.nd)).2.2.2
  exact(List.nodup_cons.mp hn0).1 (by rw[←z];exact hk)
theorem xu{α:Type}{l:List α}{n:Nat}(h:n<l.length)(m:Nat)(x:α):(jf l n m x).length=l.length:=
 (v5 _ m x).trans ((congrArg (·+1) (ye h)).trans (Nat.sub_add_cancel (Nat.zero_lt_of_lt h)))
theorem Jo{T:Tb}{r:Int}{S S2:List SI}{to pos:Nat}{p:Int}{en:En}{ks:List Int}(h:bN T r S)(hp:uW S to p en pos ks S2)(hh:gl T r true p)(hpn:p∉aZ S)(hp1:p≠1)(hpr:p≠r):
  ∃T',IQ T R0 (bP T S) to p T'∧bN T' r S2∧uJ T' S2∧∀n k,k∉[aJ,bb,dn]→(bm T' n).lookup k=(bm T n).lookup k:=by
 refine Km (hp.nodeAt h) fun n1 n2 n3 n4 n5 n6=> ?_;have hz:(ks.take pos++[p]++ks.drop pos).length≤60:=by
  rw[v5];exact Nat.le_trans (Nat.succ_le_succ n2) (by decide)
 have lk:∀m,(bW en.n (aM (bm T en.n) (ks.take pos++[p]++ks.drop pos)) T).lookup m=if m=en.n then some (cP (.sd (aM (bm T en.n) (ks.take pos++[p]++ks.drop pos))))else T.lookup m:=fun m=>bw
 have hN':iC (bW en.n (aM (bm T en.n) (ks.take pos++[p]++ks.drop pos)) T) r en.n (ks.take pos++[p]++ks.drop pos):=n3.kids hz (by rw[lk,if_pos rfl])
 have hpe:p≠en.n:=fun z=>hpn (by rw[z];exact n5)
 have hhp:gl (bW en.n (aM (bm T en.n) (ks.take pos++[p]++ks.drop pos)) T) r true p:=hh.congr (by rw[lk,if_neg hpe])
 have hmem:∀n∈aZ S2,n=p∨n∈aZ S:=fun n hn=>List.mem_cons.mp (hp.nums.mem_iff.mp hn);have hsh:bN (bW en.n (aM (bm T en.n) (ks.take pos++[p]++ks.drop pos)) T) r S2:=by
  refine h.upd2 (je n3.hd) (hp.nums.nodup_iff.mpr (List.nodup_cons.mpr ⟨hpn,h.nd⟩)) (fun hm=> ?_) (fun hm=> ?_) (fun n=> ?_) ?_ fun i hi=> ?_
  ·rcases hmem _ hm with e|e
   ·exact hp1 e.symm
   ·exact h.n1 e
  ·rcases hmem _ hm with e|e
   ·exact hpr e.symm
   ·exact h.nr e
  ·by_cases e:n=en.n
   ·subst e;exact .inr ⟨(h.ne n5).1,(h.ne n5).2,_,hN'.hd⟩
   ·exact .inl (by rw[lk,if_neg e])
  ·rcases hp.shp with⟨e1,e2,_⟩|⟨e1,e2,_⟩
   ·rw[e2];rw[e1]at hN' ⊢;exact hN'
   ·rw[e2];exact h.top.congr (by rw[lk,if_neg (Ne.symm e1)])
  ·rcases hp.shp with⟨e1,e2,e3⟩|⟨e1,e2,e3⟩
   ·rcases e3 i hi with rfl|hi
    ·exact hhp
    ·exact(h.its i hi).congr fun n hn=>by rw[lk,if_neg (fun z=>eF h.nd hi n hn (z.trans e1))]
   ·rcases e3 i hi with rfl|⟨hi,hni⟩
    ·refine⟨hN',fun x hx=> ?_⟩;rcases List.mem_append.mp hx with hx|hx
     ·rcases List.mem_append.mp hx with hx|hx
      ·have:=n6 e1 x (List.mem_of_mem_take hx);exact this.1.congr (by rw[lk,if_neg this.2])
      ·rw[List.mem_singleton.mp hx];exact hhp
     ·have:=n6 e1 x (List.mem_of_mem_drop hx);exact this.1.congr (by rw[lk,if_neg this.2])
    ·exact(h.its i hi).congr fun n hn=>by rw[lk,if_neg (fun z=>hni (by rw[←z];exact hn))]
 refine I2 (yy hsh) fun s1 s2 s3 s4 s5=> ?_;refine⟨_,⟨h.doc,Nat.le_trans h.len (by decide),aW T en,pos,ks,bP (bW en.n (aM (bm T en.n) (ks.take pos++[p]++ks.drop pos)) T) S2,hp.place T r h,by exact Int.natCast_nonneg _,n1,?_,?_,?_⟩,s2,s3,fun n k hk=> ?_⟩
 ·rw[Int.toNat_natCast];exact hsh.doc
 ·rw[Int.toNat_natCast];exact s1
 ·rw[Int.toNat_natCast];rfl
 ·simp only[List.mem_cons,List.not_mem_nil,or_false,not_or]at hk;rw[s4 n k (by simp only[List.mem_cons,List.not_mem_nil,or_false,not_or];exact⟨hk.1,hk.2.1⟩),jV]
  by_cases e:n=en.n
  ·rw[if_pos e,(g4 n3 hz).2.2 k hk.2.2,e]
  ·rw[if_neg e]
theorem xU{T:Tb}{k:Str}:∀(qs:List Int) (acc:Option CV),(∀q∈qs,(bm T q).lookup k=none)→A6 T k acc qs=acc
 |[],acc,_=>rfl
 |q::qs,acc,h=>by
  unfold A6;rw[List.foldl_cons,h q (.head _)];exact xU qs _ fun x hx=>h x (.tail _ hx)
theorem Hx:bM.Nodup:=by simp[bM,bF]
theorem DF{T:Tb}{r:Int}{S:List SI}{rows:List gX}(h:GS T r S rows):(aV S).length=rows.length:=h.rw.len
theorem HJ{T:Tb}{r:Int}{S:List SI}{rows:List gX}{n m:Nat}{e:En}{x:gX}(h:GS T r S rows)(he:(aV S)[n]? =some e)(hx:rows[n]? =some x)(hm:m<rows.length):∃T' S2,EW T R0 (bP T S) n m T'∧GS T' r S2 (jf rows n m x):=by
 refine dp fun C_ k_=> ?_;have hn:n<rows.length:=(List.getElem?_eq_some_iff.mp hx).1;have hlen:=DF h;obtain⟨T1,S1,hR⟩:=yt h.sh he;have hl1:(aV S1).length=rows.length-1:=by
  rw[hR.pgs,←hlen];exact ye (hlen.symm▸hn)
 obtain⟨en,pos,ks,S2,hP⟩:=Gp (S:=S1) (to:=m) e.n hR.sh.nd (hl1.symm▸Nat.le_pred_of_lt hm);refine k_ ?_;refine el14 (s9 (p:=e.n) hP.way hR.out bM T1 Hx (fun k hk=>hk) hR.sh hR.hd) fun T2 a1 a2 a3 a4=> ?_;refine dp fun C_ k_=> ?_;have ep:T2.lookup e.n=T1.lookup e.n:=a2.out e.n hR.out;have hem:=En.mem_n (fE (List.mem_of_getElem? he)).1;obtain⟨T',b1,b2,b3,b4⟩:=Jo a2.sh hP (hR.hd.congr ep) hR.out (h.sh.ne hem).1 (h.sh.ne hem).2;refine k_ ?_;refine⟨T',S2,⟨h.sh.doc,by exact Int.natCast_nonneg _,?_,by exact Int.natCast_nonneg _,?_,aW T e,T1,bP T1 S1,aW T1 en,pos,T2,bP T2 S1,hR.rem,hR.sh.doc,hP.place T1 r hR.sh,Nat.le_trans (En.ab_len hP.mem) (by decide),Nat.le_trans hR.sh.len (by decide),a1,b1⟩,b2,b3,?_,?_⟩
 ·rw[df,List.length_map];lia
 ·rw[df,List.length_map];lia
 ·have r1:=hR.rows h.rw;have r2:eD (my T2 r) (aV S1) (rows.take n++rows.drop (n+1)):=r1.imp fun f hf row hr=>by
   unfold my at hr ⊢;rw[a2.oth f.n iB rI];exact hr.congr fun k hk=>a2.ef f hf k hk
  refine el12 (h.rw.at he) fun row hrow1 hrow=> ?_;rw[hx]at hrow1;cases hrow1;have own:∀k,k≠aJ→(bm T2 e.n).lookup k=(ed (aW T e)).lookup k:=fun k hk=>by
   rw[fw ep,hR.own,if_neg hk]
  have r3:my T2 r ⟨e.n,en.ab++[en.n],true⟩ x:=by
   show E2 r ((bm T2 e.n).lookup iB) _ x;rw[own iB (by simp[bF]),q9 rI]
   refine hrow.congr fun k hk=> ?_;rw[A7];show((bm T2 e.n).lookup k).or (A6 T2 k none (en.ab++[en.n]))=_;have e1:=own k (jg (k:=aJ) wh hk).symm;rw[lQ hk]at e1;rw[e1];cases z:Cm T e k with
   |some v=>rfl
   |none=>
    rw[z]at e1;rw[fw ep]at e1;rw[xU _ none (a4 k hk e1)];rfl
  have r4:eD (my T2 r) (aV S2) (jf rows n m x):=by
   rw[hP.pgs];exact((r2.take m).append (.cons r3 .nil)).append (r2.drop m)
  exact yu (fun f hf=>hf) r4 fun q hq k hk=>b4 q k (Ga hk)
 ·have:=h.len;exact(xu hn m x).symm▸this
theorem FI{sh:CV}{rows:List gX}{n m:Nat}{x:gX}(hg:Gd sh rows)(hx:rows[n]? =some x)(hm:m<rows.length)(bs:CV)(sg:Sg)(Q:CV→Sg→Prop)(h:∀sh',Gd sh' (jf rows n m x)→Q (bO dq bs sh') sg):eS [bO dq bs sh,.int n,.int m] sg Q:=by
 refine dp fun C_ k_=> ?_;obtain⟨T,r,S,rfl,hG⟩:=hg;obtain⟨e,he⟩:=DE hG (List.getElem?_eq_some_iff.mp hx).1;obtain⟨T',S2,hM,hG'⟩:=HJ hG he hx hm;refine k_ ?_;exact⟨dq,bs,T,R0,bP T S,T',1,gz,n,m,hG.at_ rfl bs,rfl,rfl,hG.sh.copy,Ix,hM,rfl,hG'.sh.one,by simp[gz],h _ ⟨T',r,S2,rfl,hG'⟩⟩
theorem CH(k:Int)(i:Nat):k+((i+1:Nat):Int)=k+1+i:=(congrArg (k+·) (Int.add_comm (i:Int) 1)).trans (Int.add_assoc k 1 i).symm
theorem o5{k m:Int}{i:Nat}(h:m<k)(e:m=k+i):False:=Int.not_le.mpr h (e▸Int.le_add_of_nonneg_right (Int.natCast_nonneg i))
theorem qj:∀(n:Nat) (k:Int) (i:Nat) (x:Int),(bS k n)[i]? =some x→i<n∧x=k+i
 |0,k,i,x,h=>by exact ns h
 |n+1,k,0,x,h=>by cases h;exact⟨by exact Nat.zero_lt_succ n,by simp⟩
 |n+1,k,i+1,x,h=>by
  obtain⟨h1,h2⟩:=qj n (k+1) i x h;exact⟨Nat.add_lt_add_right h1 1,h2.trans (CH k i).symm⟩
theorem c6{n:Nat}{k x:Int}(h:x∈bS k n):∃i:Nat,i<n∧x=k+i:=by
 obtain⟨i,hi,e⟩:=List.mem_iff_getElem.mp h;have:=qj n k i x (by rw[List.getElem?_eq_getElem hi,e])
 exact⟨i,this.1,this.2⟩
theorem nu:∀(n:Nat) (k:Int),(bS k n).Nodup
 |0,k=> .nil
 |n+1,k=>List.nodup_cons.mpr ⟨fun h=>by obtain⟨i,_,e⟩:=c6 h;exact o5 (Int.lt_succ k) e,nu n (k+1)⟩
theorem wN.sim{r:Int}{k:Str}{v:CV}(h:wN r true k v)(hk:k≠aJ):sj r v:=by
 rcases h with⟨_,rfl⟩|⟨e,_⟩|⟨_,i,rfl⟩|⟨_,i,rfl⟩|⟨_,rfl⟩|⟨_,rfl⟩|⟨_,x,rfl⟩|⟨h,_⟩
 ·exact .leaf ⟨rfl,_,rfl⟩
 ·exact absurd e hk
 ·exact .leaf trivial
 ·exact .leaf trivial
 ·exact .nums (is:=[0,0,7,9]) (by decide)
 ·exact .ref
 ·exact .nums (is:=[1,1,5,x]) (by simp)
 ·exact tf h
theorem wN.ren{r m:Int}{k:Str}{v:CV}(h:wN r true k v)(hk:k≠aJ):wN m true k (JL m v):=by
 rcases h with⟨e,rfl⟩|⟨e,_⟩|⟨e,i,rfl⟩|⟨e,i,rfl⟩|⟨e,rfl⟩|⟨e,rfl⟩|⟨e,x,rfl⟩|⟨h,_⟩
 ·exact .inl ⟨e,rfl⟩
 ·exact absurd e hk
 ·exact .inr (.inr (.inl ⟨e,i,rfl⟩))
 ·exact .inr (.inr (.inr (.inl ⟨e,i,rfl⟩)))
 ·exact .inr (.inr (.inr (.inr (.inl ⟨e,rfl⟩))))
 ·exact .inr (.inr (.inr (.inr (.inr (.inl ⟨e,rfl⟩)))))
 ·exact .inr (.inr (.inr (.inr (.inr (.inr (.inl ⟨e,x,rfl⟩))))))
 ·exact tf h
theorem Bs{l:Hd}{f:CV→CV}(k:Str):(l.map fun p=>(p.1,f p.2)).lookup k=(l.lookup k).map f:=by
 induction l with
 |nil=>rfl
 |cons p r ih=>
  rw[List.map_cons,List.lookup_cons,List.lookup_cons,ih];cases k==p.1<;>rfl
theorem Br{l:Hd}{k x:Str}:(l.filter fun p=>p.1 !=k).lookup x=if x=k then none else l.lookup x:=by
 have:=j0 k l x;unfold mB at this;rw[←this]
 congr 1
 refine List.filter_congr fun p O=> ?_;by_cases e:p.1=k<;>simp[e]
theorem Hi{r:Int}{l:Hd}(h:ck r true l):ck r true (kg l)∧∀p∈kg l,p.1≠aJ:=by
 have hf:ck r true (l.filter fun p=>p.1 !=aJ):=⟨h.nd.sublist (List.filter_sublist.map _),fun p hp=>h.sh p (List.mem_filter.mp hp).1⟩;refine⟨hf.set (.inl ⟨rfl,rfl⟩),fun p hp=> ?_⟩;rcases fH hp with rfl|hp
 ·simp[bF]
 ·simpa using (List.mem_filter.mp hp).2
theorem HE{r m:Int}{l:Hd}(h:ck r true l):ck m true (sW m l):=by
 obtain⟨h1,h2⟩:=Hi h;refine ck.set ⟨?_,fun p hp=> ?_⟩ (.inr (.inl ⟨rfl,2,rfl⟩))
 ·rw[List.map_map];exact h1.nd
 ·obtain⟨q,hq,rfl⟩:=List.mem_map.mp hp;exact(h1.sh q hq).ren (h2 q hq)
theorem jZ{m:Int}{l:Hd}(k:Str):(sW m l).lookup k=if k=aJ then some (aG 2)else if k=dB then some xL else(l.lookup k).map (JL m):=by
 unfold sW;rw[aN,Bs];by_cases e:k=aJ
 ·rw[if_pos e,if_pos e]
 ·rw[if_neg e,if_neg e];unfold kg;rw[aN,Br];by_cases e2:k=dB
  ·rw[if_pos e2,if_pos e2];rfl
  ·rw[if_neg e2,if_neg e2,if_neg e]
theorem m7{α β:Type}{P:α→β→Prop}:∀{as:List α} {bs:List β},as.length=bs.length→(∀(i:Nat) a b,as[i]? =some a→bs[i]? =some b→P a b)→eD P as bs
 |[],[],_,_=> .nil
 |a::as,b::bs,hl,h=> .cons (h 0 a b rfl rfl) (m7 (by simpa using hl) fun i a b h1 h2=>h (i+1) a b h1 h2)
theorem Jy{m:Int}{n:Nat}(hn:n≤60):ck m false (n8 n):=by
 refine⟨by simp[n8,bF],fun p hp=> ?_⟩
 simp only[n8,List.mem_cons,List.not_mem_nil,or_false]at hp;rcases hp with rfl|rfl|rfl
 ·exact .inl ⟨rfl,rfl⟩
 ·exact .inr (.inr (.inr (.inr (.inr (.inr (.inr ⟨rfl,.inl ⟨rfl,_,rfl,by rw[gb];exact hn⟩⟩))))))
 ·exact .inr (.inr (.inr (.inr (.inr (.inr (.inr ⟨rfl,.inr ⟨rfl,_,rfl⟩⟩))))))
theorem wI{n:Nat}(k:Str)(h1:k≠dB)(h2:k≠dn)(h3:k≠bb):(n8 n).lookup k=none:=by
 unfold n8;simp only[List.lookup_cons,List.lookup_nil];rw[beq_eq_false_iff_ne.mpr h1,beq_eq_false_iff_ne.mpr h2,beq_eq_false_iff_ne.mpr h3]
noncomputable def o0(n:Nat):List SI:=(bS 3 n).map SI.page
theorem sH(n:Nat):aZ (o0 n)=2::bS 3 n:=by
 unfold aZ o0;rw[List.flatMap_map]
 congr 1
 induction bS 3 n with
 |nil=>rfl
 |cons x l ih=>rw[List.flatMap_cons,ih];rfl
theorem sG(n:Nat):c7 (o0 n)=⟨2,[],false⟩::(bS 3 n).map fun k=>(⟨k,[2],true⟩:En):=by
 unfold c7 o0;rw[List.flatMap_map]
 congr 1
 induction bS 3 n with
 |nil=>rfl
 |cons x l ih=>rw[List.flatMap_cons,ih];rfl
theorem A9(n:Nat):aV (o0 n)=(bS 3 n).map fun k=>(⟨k,[2],true⟩:En):=by
 unfold aV;rw[sG,List.filter_cons_of_neg (by simp),List.filter_eq_self]
 intro e he;obtain⟨k,_,rfl⟩:=List.mem_map.mp he;rfl
theorem Ec(n:Nat):(o0 n).map SI.num=bS 3 n:=by
 unfold o0;rw[List.map_map,show(SI.num∘SI.page)=id from rfl,List.map_id]
theorem IT{M T:Tb}{r:Int}{es:List En}{rows:List gX}(hr:eD (my T r) es rows)(hf:∀e∈es,ck r true (ed (aW T e)))(hz:es.length≤8)(h:C8 M (es.map fun e=>GU (aW T e)) fu):GS M (3+(es.length:Int)) (o0 es.length) rows:=by
 have hl:(es.map fun e=>GU (aW T e)).length=es.length:=List.length_map _;obtain⟨ok,one,two,pg,res⟩:=h;rw[hl]at ok two res;have hpg:∀(i:Nat) (e:En),es[i]? =some e→M.lookup (3+(i:Int))=some (cP (.sd (sW (3+(es.length:Int)) (ed (aW T e))))):=fun i e he=>by
  have:=pg i (GU (aW T e)) (by rw[List.getElem?_map,he];rfl)
  rw[hl]at this;exact this
 have hhd:∀(i:Nat) (e:En),es[i]? =some e→gl M (3+(es.length:Int)) true (3+(i:Int)):=fun i e he=>by
  have h1:=hpg i e he;have h2:=HE (m:=3+(es.length:Int)) (hf e (List.mem_of_getElem? he));refine⟨by rw[bz h1];exact h1,by rw[bz h1];exact h2,?_⟩
  rw[bz h1,jZ,if_neg (by decide),if_pos rfl];rfl
 have htop:iC M (3+(es.length:Int)) 2 (bS 3 es.length):=by
  have e:=bz two;refine⟨⟨by rw[e];exact two,by rw[e];exact Jy (by exact Nat.le_trans (by assumption) (by decide)),by rw[e];rfl⟩,?_,⟨es.length,?_⟩⟩
  ·rw[e];unfold n8;simp only[List.lookup_cons];rw[beq_eq_false_iff_ne.mpr (show dn≠dB by decide),beq_self_eq_true]
  ·rw[e];unfold n8;simp only[List.lookup_cons];rw[beq_eq_false_iff_ne.mpr (show bb≠dB by decide),beq_eq_false_iff_ne.mpr (show bb≠dn by decide),beq_self_eq_true]
 have hsh:bN M (3+(es.length:Int)) (o0 es.length):={
  len:=by rw[ok.len];exact Nat.le_trans (Nat.add_le_add_right (by assumption) _) (by decide)
  knd:=ok.nd
  any:=fun p hp=>by
   have hp':=yZ ok.nd (show(p.1,p.2)∈M from hp)
   have hin:∃i:Nat,i<es.length+3∧p.1=1+i:=by
    refine Classical.byContradiction fun hno=> ?_;have hni:p.1∉bS 1 (es.length+3):=fun hm=>hno (c6 hm);have:=nH (p.1::bS 1 (es.length+3)) (M.map (·.1)) (List.nodup_cons.mpr ⟨hni,nu _ _⟩) fun x hx=>by
     rcases List.mem_cons.mp hx with rfl|hx
     ·exact List.mem_map_of_mem (f:=fun q:Int×CV=>q.1) hp
     ·obtain⟨i,hi,rfl⟩:=c6 hx;obtain⟨v,hv⟩:=Option.isSome_iff_exists.mp (ok.low (1+i) (by exact Nat.le_add_right 1 i) (by exact Nat.one_add_le_iff.mpr hi))
      exact me (by rw[show(1:Int)+(i:Int)=((1+i:Nat):Int) by exact Int.mem_toNat?.mp rfl];exact hv)
    rw[List.length_map,ok.len,List.length_cons,gb]at this;exact absurd this (Nat.not_le.mpr (Nat.lt_succ_self _))
   obtain⟨i,hi,e⟩:=hin;rcases i with _|_|i
   ·exact .inl e
   ·refine .inr (.inr ⟨false,bm M 2,?_,htop.hd.ok⟩);rw[show p.1=2 from e,htop.hd.hat]at hp'
    exact(Option.some.inj hp').symm
   ·have e3:p.1=3+(i:Int):=e.trans ((CH 1 (i+1)).trans (CH 2 i));by_cases i2:i=es.length
    ·exact .inr (.inl (i2▸e3))
    ·have hlt:i<es.length:=Nat.lt_of_le_of_ne (Nat.le_of_lt_succ (Nat.lt_of_succ_lt_succ (Nat.lt_of_succ_lt_succ hi))) i2;have hh:=hhd i _ (List.getElem?_eq_getElem hlt);refine .inr (.inr ⟨true,_,?_,hh.ok⟩);rw[e3,hh.hat]at hp';exact(Option.some.inj hp').symm
  one:=one
  fnt:=res
  nd:=by
   rw[sH];exact List.nodup_cons.mpr ⟨fun hm=>by obtain⟨i,_,e⟩:=c6 hm;exact o5 (by decide) e,nu _ _⟩
  n1:=by
   rw[sH];intro hm;rcases List.mem_cons.mp hm with e|hm
   ·exact absurd e (by decide)
   ·obtain⟨i,_,e⟩:=c6 hm;exact o5 (by decide) e
  nr:=by
   rw[sH];intro hm;rcases List.mem_cons.mp hm with e|hm
   ·exact o5 (by decide) e.symm
   ·obtain⟨i,hi,e⟩:=c6 hm;exact absurd (Int.ofNat_inj.mp (Int.add_left_cancel e)) (Nat.ne_of_gt hi)
  r1:=fun e=>o5 (by decide) e.symm
  top:=by rw[Ec];exact htop
  its:=fun i hi=>by
   obtain⟨k,hk,rfl⟩:=List.mem_map.mp hi;obtain⟨j,hj,rfl⟩:=c6 hk;exact hhd j _ (List.getElem?_eq_getElem hj)}
 refine⟨hsh,⟨fun e he=> ?_,fun e he hp=> ?_⟩,?_,by rw[←hr.len];exact hz⟩
 ·rw[sG]at he;rcases List.mem_cons.mp he with rfl|he
  ·show(bm M 2).lookup aJ=none;rw[bz two];exact wI _ (by decide) (by decide) (by decide)
  ·obtain⟨k,hk,rfl⟩:=List.mem_map.mp he;obtain⟨j,hj,rfl⟩:=c6 hk;show(bm M (3+(j:Int))).lookup aJ=some (aG 2);rw[bz (hpg j _ (List.getElem?_eq_getElem hj)),jZ,if_pos rfl]
 ·rw[sG]at he;rcases List.mem_cons.mp he with rfl|he
  ·rw[vA,A9,List.length_map,gb];show(bm M 2).lookup bb=_;rw[bz two];unfold n8;simp only[List.lookup_cons];rw[beq_eq_false_iff_ne.mpr (show bb≠dB by decide),beq_eq_false_iff_ne.mpr (show bb≠dn by decide),beq_self_eq_true]
  ·obtain⟨k,hk,rfl⟩:=List.mem_map.mp he;exact tf hp
 ·rw[A9];refine m7 (by rw[List.length_map,gb,hr.len]) fun i a row ha hrow=> ?_
  rw[List.getElem?_map]at ha;obtain⟨k,hk,rfl⟩:=Option.map_eq_some_iff.mp ha;obtain⟨hi,rfl⟩:=qj _ _ _ _ hk;have he:=List.getElem?_eq_getElem hi;obtain⟨row',h1,h2⟩:=hr.at he;rw[hrow]at h1;cases h1;have hM:=bz (hpg i _ he);have hef:∀k∈bM,Cm M ⟨3+(i:Int),[2],true⟩ k=(Cm T es[i] k).map (JL (3+(es.length:Int))):=fun k hk=>by
   show((bm M (3+(i:Int))).lookup k).or (((bm M 2).lookup k).or none)=_;rw[hM,bz two,wI k (jg nM hk).symm (jg Bz hk).symm (jg yj hk).symm,jZ,if_neg (jg wh hk).symm,if_neg (jg nM hk).symm,lQ hk];simp
  refine⟨?_,?_,?_,?_,?_⟩
  ·show(bm M (3+(i:Int))).lookup iB=_;rw[hM,jZ,if_neg (by decide),if_neg (by decide),q9 rI,h2.mrk];rfl
  ·rw[hef _ CD];rcases h2.rot with⟨a1,a2⟩|⟨t,a1,a2⟩
   ·exact .inl ⟨by rw[a1];rfl,a2⟩
   ·exact .inr ⟨t,by rw[a1];rfl,a2⟩
  ·rw[hef _ zH,h2.res];rfl
  ·rw[hef _ zF,h2.box];rfl
  ·rw[hef _ zG];rcases h2.crop with⟨a1,a2⟩|a1
   ·exact .inl ⟨by rw[a1];rfl,a2⟩
   ·exact .inr (by rw[a1];rfl)
theorem FJ{sh:CV}{rows:List gX}{is:List Nat}(hg:Gd sh rows)(h0:is≠[])(hz:is.length≤8)(hlt:∀i∈is,i<rows.length)(bs:CV)(sg:Sg)(Q:CV→Sg→Prop)(h:∀sh',Gd sh' (is.map fun i=>rows.getD i (0,0,0))→Q (bO dq .none sh') sg):eU [bO dq bs sh,.lst (b0 is)] sg Q:=by
 refine dp fun C_ k_=> ?_;obtain⟨T,r,S,rfl,hG⟩:=hg;have hlen:=DF hG;have hdl:(bP T S).pages.length=rows.length:=by rw[df,List.length_map,hlen]
 have e0:∀i∈is,(bP T S).pages.getD i tY=aW T ((aV S).getD i ⟨0,[],true⟩):=fun i hi=>by
  have h1:i<(aV S).length:=by rw[hlen];exact hlt i hi
  rw[df];simp[List.getD,h1]
 refine k_ ?_;refine⟨dq,bs,T,R0,bP T S,is,1,r,fu,hG.at_ rfl bs,rfl,rfl,by rw[qd];exact hG.sh.nr,hG.sh.r1,hG.sh.fnt,⟨by simp,by simp,fun p hp=> ?_⟩,h0,by exact Nat.le_trans (by assumption) (by decide),fun i hi=>by rw[hdl];exact hlt i hi,fun s hs=> ?_,fun M hM=>h _ ⟨M,3+((is.map fun i=>(aV S).getD i ⟨0,[],true⟩).length:Int),o0 (is.map fun i=>(aV S).getD i ⟨0,[],true⟩).length,rfl,?_⟩⟩
 ·simp only[List.mem_cons,List.not_mem_nil,or_false]at hp;subst hp;trivial
 ·rw[df]at hs;obtain⟨e,he,rfl⟩:=List.mem_map.mp hs;have hf:=hG.sh.flds he;refine⟨(hG.sh.ne (En.mem_n (fE he).1)).2,Nat.le_trans hf.len (by decide),hf.nd,fun p hp hne=>(hf.sh p hp).sim hne,?_⟩
  obtain⟨row,hrow⟩:=hG.rw.left he;have:(ed (aW T e)).lookup td=some (aG r):=by rw[lQ zH];exact hrow.res
  exact⟨_,ot this,by simp[bF],by simp[bF],rfl⟩
 ·have em:(is.map fun i=>GU ((bP T S).pages.getD i tY))=(is.map fun i=>(aV S).getD i ⟨0,[],true⟩).map fun e=>GU (aW T e):=by
   rw[List.map_map];exact List.map_congr_left fun i hi=>by rw[e0 i hi];rfl
  rw[em]at hM;have hmem:∀i∈is,(aV S)[i]? =some ((aV S).getD i ⟨0,[],true⟩):=fun i hi=>by
   have h1:i<(aV S).length:=by rw[hlen];exact hlt i hi
   rw[List.getElem?_eq_getElem h1];simp[List.getD,h1]
  refine IT (T:=T) (r:=r) (es:=is.map fun i=>(aV S).getD i ⟨0,[],true⟩) ?_ (fun e he=> ?_) (by rw[List.length_map];exact hz) hM
  ·refine m7 (by simp) fun j a row ha hrow=> ?_
   rw[List.getElem?_map]at ha hrow;obtain⟨i,hi,rfl⟩:=Option.map_eq_some_iff.mp ha;rw[hi]at hrow;cases hrow;have him:=List.mem_of_getElem? hi;refine el12 (hG.rw.at (hmem i him)) fun row h1 h2=> ?_;have:rows.getD i (0,0,0)=row:=by simp[List.getD,h1]
   show my T r _ (rows.getD i (0,0,0));rw[this];exact h2
  ·obtain⟨i,hi,rfl⟩:=List.mem_map.mp he;exact hG.sh.flds (List.mem_of_getElem? (hmem i hi))
noncomputable def mc(nds:List ND):List SI:=nds.map fun nd=> .node nd.i (nd.ps.map (·.1))
theorem ng{α β:Type}(f g:α→List β):∀l:List α,(l.flatMap fun x=>f x++g x).Perm (l.flatMap f++l.flatMap g)
 |[]=> .refl _
 |x::l=>by
  rw[List.flatMap_cons,List.flatMap_cons,List.flatMap_cons];have ih:=ng f g l;have h1:(f x++g x++l.flatMap fun x=>f x++g x).Perm (f x++g x++(l.flatMap f++l.flatMap g)):=List.Perm.append_left _ ih;refine h1.trans ?_;rw[List.append_assoc,List.append_assoc];refine List.Perm.append_left _ ?_;rw[←List.append_assoc,←List.append_assoc];exact List.Perm.append_right _ List.perm_append_comm
theorem tJ{α β:Type}(f:α→β)(l:List α):(l.flatMap fun x=>[f x])=l.map f:=by
 induction l with
 |nil=>rfl
 |cons x l ih=>rw[List.flatMap_cons,ih];rfl
theorem qf{α β:Type}{f:α→List β}{k:Nat}:∀{l:List α},(∀x∈l,(f x).length≤k)→(l.flatMap f).length≤k*l.length
 |[],_=>by simp
 |x::l,h=>by
  rw[List.flatMap_cons,List.length_append,List.length_cons];rw[Nat.mul_add_one,Nat.add_comm];exact Nat.add_le_add (qf fun y hy=>h y (.tail _ hy)) (h x (.head _))
section
variable {top:Int}{nds:List ND}
theorem FO(h:kd top nds):((nds.flatMap fun nd=>nd.ps.map (·.1))++nds.map (·.i)).Nodup∧∀x∈(nds.flatMap fun nd=>nd.ps.map (·.1))++nds.map (·.i),x≠1∧x≠2∧x≠9:=by
 have hl:=h.len;refine⟨List.nodup_append.mpr ⟨by rw[h.nums];exact nu _ _,by rw[h.ids];exact nu _ _,fun a ha b hb e=> ?_⟩,fun x hx=> ?_⟩
 ·rw[h.nums]at ha;rw[h.ids]at hb;refine el12 (c6 ha) fun i O e1=> ?_;refine el12 (c6 hb) fun j hj e2=> ?_;exact absurd (e1.symm.trans (e.trans e2)) (Int.ne_of_gt (Int.lt_of_lt_of_le (Int.add_lt_add_left (Int.ofNat_lt.mpr (Nat.lt_of_lt_of_le hj hl.2)) 3) (Int.le_trans (by decide:(3:Int)+(2:Nat)≤10) (Int.le_add_of_nonneg_right (Int.natCast_nonneg i)))))
 ·rcases List.mem_append.mp hx with hx|hx
  ·rw[h.nums]at hx;refine el12 (c6 hx) fun i O e1=> ?_;exact⟨fun z=>o5 (by decide) (z.symm.trans e1),fun z=>o5 (by decide) (z.symm.trans e1),fun z=>o5 (by decide) (z.symm.trans e1)⟩
  ·rw[h.ids]at hx;refine el12 (c6 hx) fun j hj e2=> ?_;exact⟨fun z=>o5 (by decide) (z.symm.trans e2),fun z=>o5 (by decide) (z.symm.trans e2),fun z=>absurd (z.symm.trans e2) (Int.ne_of_gt (Int.lt_trans (Int.add_lt_add_left (Int.ofNat_lt.mpr (Nat.lt_of_lt_of_le hj hl.2)) 3) (by decide)))⟩
theorem qh(nds:List ND):(aZ (mc nds)).Perm (2::((nds.flatMap fun nd=>nd.ps.map (·.1))++nds.map (·.i))):=by
 unfold aZ mc;rw[List.flatMap_map];refine List.Perm.cons 2 ?_;have e:(nds.flatMap fun nd=>SI.nums (.node nd.i (nd.ps.map (·.1))))=nds.flatMap fun nd=>[nd.i]++nd.ps.map (·.1):=rfl;rw[e];refine(ng _ _ nds).trans ?_;rw[tJ];exact List.perm_append_comm
theorem ya(top:Int)(nds:List ND):((dy top nds).map (·.1)).Perm (1::9::2::((nds.flatMap fun nd=>nd.ps.map (·.1))++nds.map (·.i))):=by
 unfold dy;rw[List.map_append,List.map_append,List.map_flatMap];have e:(nds.flatMap fun nd=>(tG nd).map (·.1))=nds.flatMap fun nd=>nd.ps.map (·.1)++[nd.i]:=by
  refine congrArg (List.flatMap · nds) (funext fun nd=> ?_);show(nd.ps.map _++[_]).map _=_;rw[List.map_append,List.map_map];rfl
 rw[e];show(1::9::((nds.flatMap fun nd=>nd.ps.map (·.1)++[nd.i])++[2])).Perm _;refine List.Perm.cons 1 (List.Perm.cons 9 ?_);refine List.perm_append_comm.trans (List.Perm.cons 2 ?_);refine(ng _ _ nds).trans ?_;rw[tJ]
theorem Du(h:kd top nds):((dy top nds).map (·.1)).Nodup:=by
 obtain⟨h1,h2⟩:=FO h;refine(ya top nds).nodup_iff.mpr (List.nodup_cons.mpr ⟨fun hm=> ?_,List.nodup_cons.mpr ⟨fun hm=> ?_,List.nodup_cons.mpr ⟨fun hm=>(h2 _ hm).2.1 rfl,h1⟩⟩⟩)
 ·simp only[List.mem_cons]at hm;rcases hm with e|e|hm
  ·exact absurd e (by decide)
  ·exact absurd e (by decide)
  ·exact(h2 _ hm).1 rfl
 ·rcases List.mem_cons.mp hm with e|hm
  ·exact absurd e (by decide)
  ·exact(h2 _ hm).2.2 rfl
theorem tj{r:Int}{pg:Bool}{l:Hd}(h:ck r pg l)(t:Int):ck r pg (jz l t):=by
 unfold jz;split
 ·exact h.set (.inr (.inr (.inr (.inl ⟨rfl,_,rfl⟩))))
 ·exact h
theorem kN{l:Hd}{t:Int}(k:Str):(jz l t).lookup k=if k=cx∧0<t then some (.int (90*t.fmod 3))else l.lookup k:=by
 unfold jz;by_cases ht:0<t
 ·rw[if_pos ht,aN];by_cases e:k=cx
  ·rw[if_pos e,if_pos ⟨e,ht⟩]
  ·rw[if_neg e,if_neg fun z=>e z.1]
 ·rw[if_neg ht,if_neg fun z=>ht z.2]
noncomputable abbrev yl(i n:Int):Hd:=[(dB,xL),(aJ,aG i),(iB,.int n)]
noncomputable abbrev wa(nd:ND):Hd:=[(dB,lN),(aJ,aG 2),(dn,.lst (nd.ps.map fun p=>aG p.1)),(bb,.int nd.ps.length)]
noncomputable abbrev yC(top:Int)(nds:List ND):Hd:=[(dB,lN),(dn,.lst (nds.map fun nd=>aG nd.i)),(bb,.int (gf top nds).length),(ww,DY),(td,aG 9)]
theorem Gl(i:Int)(p:Int×Int):ck 9 true (j5 i p):=by
 refine tj ⟨by simp[bF],fun q hq=> ?_⟩ _
 simp only[List.mem_cons,List.not_mem_nil,or_false]at hq;rcases hq with rfl|rfl|rfl
 ·exact .inl ⟨rfl,rfl⟩
 ·exact .inr (.inl ⟨rfl,_,rfl⟩)
 ·exact .inr (.inr (.inl ⟨rfl,_,rfl⟩))
theorem Ge{nd:ND}(hl:nd.ps.length≤60):ck 9 false (ib nd):=by
 have hb:ck 9 false (wa nd):=by
  refine⟨by simp[bF],fun q hq=> ?_⟩
  simp only[List.mem_cons,List.not_mem_nil,or_false]at hq;rcases hq with rfl|rfl|rfl|rfl
  ·exact .inl ⟨rfl,rfl⟩
  ·exact .inr (.inl ⟨rfl,_,rfl⟩)
  ·exact .inr (.inr (.inr (.inr (.inr (.inr (.inr ⟨rfl,.inl ⟨rfl,nd.ps.map (·.1),by rw[List.map_map];rfl,by rw[List.length_map];exact hl⟩⟩))))))
  ·exact .inr (.inr (.inr (.inr (.inr (.inr (.inr ⟨rfl,.inr ⟨rfl,_,rfl⟩⟩))))))
 refine tj ?_ _;split
 ·exact hb.set (.inr (.inr (.inr (.inr (.inr (.inr (.inl ⟨rfl,_,rfl⟩)))))))
 ·exact hb
theorem GL(hl:nds.length≤60):ck 9 false (ti top nds):=by
 refine tj ⟨by simp[bF],fun q hq=> ?_⟩ _
 simp only[List.mem_cons,List.not_mem_nil,or_false]at hq;rcases hq with rfl|rfl|rfl|rfl|rfl
 ·exact .inl ⟨rfl,rfl⟩
 ·exact .inr (.inr (.inr (.inr (.inr (.inr (.inr ⟨rfl,.inl ⟨rfl,nds.map (·.i),by rw[List.map_map];rfl,by rw[List.length_map];exact hl⟩⟩))))))
 ·exact .inr (.inr (.inr (.inr (.inr (.inr (.inr ⟨rfl,.inr ⟨rfl,_,rfl⟩⟩))))))
 ·exact .inr (.inr (.inr (.inr (.inl ⟨rfl,rfl⟩))))
 ·exact .inr (.inr (.inr (.inr (.inr (.inl ⟨rfl,rfl⟩)))))
theorem jm(i:Int)(p:Int×Int)(k:Str):(j5 i p).lookup k=if k=cx∧0<p.2 then some (.int (90*p.2.fmod 3))else(yl i p.1).lookup k:=kN k
theorem f0(nd:ND)(k:Str):(ib nd).lookup k=if k=cx∧0<nd.own then some (.int (90*nd.own.fmod 3))else if k=iA∧nd.crop=1 then some (Ds nd.i)else(wa nd).lookup k:=by
 unfold ib;rw[kN];by_cases h:k=cx∧0<nd.own
 ·rw[if_pos h,if_pos h]
 ·rw[if_neg h,if_neg h];by_cases hc:nd.crop=1
  ·rw[if_pos hc,aN];by_cases e:k=iA
   ·rw[if_pos e,if_pos ⟨e,hc⟩]
   ·rw[if_neg e,if_neg fun z=>e z.1]
  ·rw[if_neg hc,if_neg fun z=>hc z.2]
theorem f9(top:Int)(nds:List ND)(k:Str):(ti top nds).lookup k=if k=cx∧0<top then some (.int (90*top.fmod 3))else(yC top nds).lookup k:=kN k
theorem zK(h:kd top nds):(dy top nds).lookup 1=some (cP (.sd gz))∧(dy top nds).lookup 9=some (cP (.sd fu))∧(dy top nds).lookup 2=some (cP (.sd (ti top nds)))∧
  ∀nd∈nds,(dy top nds).lookup nd.i=some (cP (.sd (ib nd)))∧∀p∈nd.ps,(dy top nds).lookup p.1=some (cP (.sd (j5 nd.i p))):=by
 have hn:=Du h;refine⟨cH hn (.head _),cH hn (.tail _ (.head _)),cH hn (List.mem_append_right _ (.head _)),fun nd hnd=>⟨cH hn ?_,fun p hp=>cH hn ?_⟩⟩
 ·exact List.mem_append_left _ (List.mem_append_right _ (List.mem_flatMap.mpr ⟨nd,hnd,List.mem_append_right _ (.head _)⟩))
 ·exact List.mem_append_left _ (List.mem_append_right _ (List.mem_flatMap.mpr ⟨nd,hnd,List.mem_append_left _ (List.mem_map.mpr ⟨p,hp,rfl⟩)⟩))
theorem CE(h:kd top nds):bN (dy top nds) 9 (mc nds):=by
 refine Fu (zK h) fun a1 a2 a3 a4=> ?_;obtain⟨d1,d2⟩:=FO h;have hl:=h.len;have hps:∀nd∈nds,nd.ps.length≤2:=fun nd hnd=>(h.nd nd hnd).len;have hpg:∀nd∈nds,∀p∈nd.ps,gl (dy top nds) 9 true p.1:=fun nd hnd p hp=>by
  have e:=(a4 nd hnd).2 p hp;refine⟨by rw[bz e];exact e,by rw[bz e];exact Gl _ _,?_⟩
  rw[bz e,jm,if_neg (fun z=>absurd z.1 (by decide))]
  simp
 have hnd:∀nd∈nds,iC (dy top nds) 9 nd.i (nd.ps.map (·.1)):=fun nd hnd=>by
  have e:=(a4 nd hnd).1;refine⟨⟨by rw[bz e];exact e,by rw[bz e];exact Ge (Nat.le_trans (hps nd hnd) (by decide)),?_⟩,?_,nd.ps.length,?_⟩
  ·rw[bz e,f0,if_neg (fun z=>absurd z.1 (by decide)),if_neg (fun z=>absurd z.1 (by decide))]
   simp
  ·rw[bz e,f0,if_neg (fun z=>absurd z.1 (by decide)),if_neg (fun z=>absurd z.1 (by decide)),List.map_map]
   simp only[List.lookup_cons,dc];rfl
  ·rw[bz e,f0,if_neg (fun z=>absurd z.1 (by decide)),if_neg (fun z=>absurd z.1 (by decide))]
   simp only[List.lookup_cons,dc];rfl
 refine⟨?_,Du h,fun p hp=> ?_,a1,a2,?_,fun hm=> ?_,fun hm=> ?_,by decide,?_,fun i hi=> ?_⟩
 ·have e:=(ya top nds).length_eq;rw[List.length_map]at e;rw[e];simp only[List.length_cons,List.length_append,List.length_map];have:=qf (f:=fun nd:ND=>nd.ps.map (·.1)) (k:=2) (l:=nds) fun nd hnd=>by rw[List.length_map];exact hps nd hnd
  lia
 ·rcases List.mem_append.mp hp with hp|hp
  ·rcases List.mem_append.mp hp with hp|hp
   ·simp only[List.mem_cons,List.not_mem_nil,or_false]at hp;rcases hp with rfl|rfl
    ·exact .inl rfl
    ·exact .inr (.inl rfl)
   ·refine el12 (List.mem_flatMap.mp hp) fun nd hm hp=> ?_;rcases List.mem_append.mp hp with hp|hp
    ·obtain⟨q,hq,rfl⟩:=List.mem_map.mp hp;exact .inr (.inr ⟨true,_,rfl,Gl _ _⟩)
    ·rw[List.mem_singleton.mp hp];exact .inr (.inr ⟨false,_,rfl,Ge (Nat.le_trans (hps nd hm) (by decide))⟩)
  ·rw[List.mem_singleton.mp hp];exact .inr (.inr ⟨false,_,rfl,GL (by lia)⟩)
 ·exact(qh nds).nodup_iff.mpr (List.nodup_cons.mpr ⟨fun hm=>(d2 _ hm).2.1 rfl,d1⟩)
 ·rcases List.mem_cons.mp ((qh nds).mem_iff.mp hm)with e|hm
  ·exact absurd e (by decide)
  ·exact(d2 _ hm).1 rfl
 ·rcases List.mem_cons.mp ((qh nds).mem_iff.mp hm)with e|hm
  ·exact absurd e (by decide)
  ·exact(d2 _ hm).2.2 rfl
 ·have e:=bz a3;have et:(mc nds).map SI.num=nds.map (·.i):=by unfold mc;rw[List.map_map];rfl
  rw[et];refine⟨⟨by rw[e];exact a3,by rw[e];exact GL (by lia),?_⟩,?_,(gf top nds).length,?_⟩
  ·rw[e,f9,if_neg (fun z=>absurd z.1 (by decide))]
   simp
  ·rw[e,f9,if_neg (fun z=>absurd z.1 (by decide)),List.map_map]
   simp only[List.lookup_cons,dc];rfl
  ·rw[e,f9,if_neg (fun z=>absurd z.1 (by decide))]
   simp only[List.lookup_cons,dc];rfl
 ·obtain⟨nd,hm,rfl⟩:=List.mem_map.mp hi;refine⟨hnd nd hm,fun p hp=> ?_⟩;obtain⟨q,hq,rfl⟩:=List.mem_map.mp hp;exact hpg nd hm q hq
end
theorem xG{α β γ:Type}{P:β→γ→Prop}{f:α→List β}{g:α→List γ}:∀{l:List α},(∀x∈l,eD P (f x) (g x))→eD P (l.flatMap f) (l.flatMap g)
 |[],_=> .nil
 |x::l,h=>by
  rw[List.flatMap_cons,List.flatMap_cons];exact(h x (.head _)).append (xG fun y hy=>h y (.tail _ hy))
theorem xH{α β γ:Type}{P:β→γ→Prop}{f:α→β}{g:α→γ}:∀{l:List α},(∀x∈l,P (f x) (g x))→eD P (l.map f) (l.map g)
 |[],_=> .nil
 |x::l,h=> .cons (h x (.head _)) (xH fun y hy=>h y (.tail _ hy))
section
variable {top:Int}{nds:List ND}
theorem FT(nds:List ND):aV (mc nds)=nds.flatMap fun nd=>nd.ps.map fun p=>(⟨p.1,[2,nd.i],true⟩:En):=by
 rw[kG];unfold mc;rw[List.flatMap_map];refine congrArg (List.flatMap · nds) (funext fun nd=> ?_);show(nd.ps.map (·.1)).map _=_;rw[List.map_map];rfl
theorem x_{e:En}(he:e∈c7 (mc nds)):e=⟨2,[],false⟩∨(∃nd∈nds,e=⟨nd.i,[2],false⟩)∨∃nd∈nds,∃p∈nd.ps,e=⟨p.1,[2,nd.i],true⟩:=by
 rcases List.mem_cons.mp he with rfl|he
 ·exact .inl rfl
 ·refine el12 (List.mem_flatMap.mp he) fun i hi he=> ?_;obtain⟨nd,hm,rfl⟩:=List.mem_map.mp hi;rcases List.mem_cons.mp he with rfl|he
  ·exact .inr (.inl ⟨nd,hm,rfl⟩)
  ·obtain⟨q,hq,rfl⟩:=List.mem_map.mp he;obtain⟨p,hp,rfl⟩:=List.mem_map.mp hq;exact .inr (.inr ⟨nd,hm,p,hp,rfl⟩)
theorem Ip{t:Int}(h0:0≤t)(h:t<3):t.fmod 3=t:=by
 rw[Int.fmod_eq_emod_of_nonneg _ (by exact Int.zero_le_ofNat 3)];exact Int.emod_eq_of_lt h0 h
theorem Fp(t:Int):t=(90*t).fdiv 90:=by
 rw[Int.mul_fdiv_cancel_left _ (by exact Ne.symm ((fun {x y}=>bi_ine.mp) rfl))]
theorem FU(h:kd top nds){nd:ND}(hm:nd∈nds){p:Int×Int}(hp:p∈nd.ps):my (dy top nds) 9 ⟨p.1,[2,nd.i],true⟩ (BL top nd p):=by
 refine Fu (zK h) fun a1 a2 a3 a4=> ?_;have hN:=h.nd nd hm;have h2:=bz a3;have hn:=bz (a4 nd hm).1;have hpp:=bz ((a4 nd hm).2 p hp);have hef:∀k,Cm (dy top nds) ⟨p.1,[2,nd.i],true⟩ k=((j5 nd.i p).lookup k).or (((ib nd).lookup k).or (((ti top nds).lookup k).or none)):=fun k=>by
  show((bm (dy top nds) p.1).lookup k).or (((bm (dy top nds) nd.i).lookup k).or (((bm (dy top nds) 2).lookup k).or none))=_;rw[h2,hn,hpp]
 have lk:∀k,k≠cx→Cm (dy top nds) ⟨p.1,[2,nd.i],true⟩ k=((yl nd.i p.1).lookup k).or ((if k=iA∧nd.crop=1 then some (Ds nd.i)else(wa nd).lookup k).or (((yC top nds).lookup k).or none)):=fun k hk=>by
  rw[hef,jm,f0,f9,if_neg (show ¬(k=cx∧0<p.2)from fun z=>hk z.1),if_neg (show ¬(k=cx∧0<nd.own)from fun z=>hk z.1),if_neg (show ¬(k=cx∧0<top)from fun z=>hk z.1)]
 refine⟨?_,?_,?_,?_,?_⟩
 ·show(bm (dy top nds) p.1).lookup iB=_;rw[hpp,jm,if_neg (fun z=>absurd z.1 (by decide))]
  simp only[List.lookup_cons,dc];rfl
 ·rw[hef,jm,f0,f9];have p0:(yl nd.i p.1).lookup cx=none:=by simp only[List.lookup_cons,List.lookup_nil,dc];rfl
  have n0:(wa nd).lookup cx=none:=by simp only[List.lookup_cons,List.lookup_nil,dc];rfl
  have t0:(yC top nds).lookup cx=none:=by simp only[List.lookup_cons,List.lookup_nil,dc];rfl
  have c0:¬(cx=iA∧nd.crop=1):=fun z=>absurd z.1 (by decide)
  rw[p0,n0,t0,if_neg c0];unfold BL;by_cases z1:0<p.2
  ·rw[if_pos ⟨rfl,z1⟩];exact .inr ⟨_,rfl,by simp only[z1,if_true];exact Fp _⟩
  ·rw[if_neg (fun z=>z1 z.2)];by_cases z2:0<nd.own
   ·rw[if_pos ⟨rfl,z2⟩];refine .inr ⟨_,rfl,?_⟩;simp only[z1,z2,if_true,if_false];rw[Ip hN.own.1 hN.own.2];exact Fp _
   ·rw[if_neg (fun z=>z2 z.2)];by_cases z3:0<top
    ·rw[if_pos ⟨rfl,z3⟩];refine .inr ⟨_,rfl,?_⟩;simp only[z1,z2,if_false];rw[Ip h.top.1 h.top.2];exact Fp _
    ·rw[if_neg (fun z=>z3 z.2)];refine .inl ⟨rfl,?_⟩;simp only[z1,z2,if_false];have:=h.top.1;lia
 ·rw[lk _ (by decide)]
  have p0:(yl nd.i p.1).lookup td=none:=by simp only[List.lookup_cons,List.lookup_nil,dc];rfl
  have n0:(wa nd).lookup td=none:=by simp only[List.lookup_cons,List.lookup_nil,dc];rfl
  have t0:(yC top nds).lookup td=some (aG 9):=by simp only[List.lookup_cons,List.lookup_nil,dc];rfl
  rw[p0,n0,t0,if_neg fun z=>absurd z.1 (by decide)];rfl
 ·rw[lk _ (by decide)]
  have p0:(yl nd.i p.1).lookup ww=none:=by simp only[List.lookup_cons,List.lookup_nil,dc];rfl
  have n0:(wa nd).lookup ww=none:=by simp only[List.lookup_cons,List.lookup_nil,dc];rfl
  have t0:(yC top nds).lookup ww=some DY:=by simp only[List.lookup_cons,List.lookup_nil,dc];rfl
  rw[p0,n0,t0,if_neg fun z=>absurd z.1 (by decide)];rfl
 ·rw[lk _ (by decide)]
  have p0:(yl nd.i p.1).lookup iA=none:=by simp only[List.lookup_cons,List.lookup_nil,dc];rfl
  have n0:(wa nd).lookup iA=none:=by simp only[List.lookup_cons,List.lookup_nil,dc];rfl
  have t0:(yC top nds).lookup iA=none:=by simp only[List.lookup_cons,List.lookup_nil,dc];rfl
  rw[p0,n0,t0];unfold BL;by_cases z:nd.crop=1
  ·rw[if_pos ⟨rfl,z⟩];exact .inr (by simp only[z,if_true];rfl)
  ·rw[if_neg (fun q=>z q.2)];exact .inl ⟨rfl,by simp only[z,if_false]⟩
theorem EE(h:kd top nds):(gf top nds).length≤4:=by
 have h2:=qf (f:=fun nd:ND=>nd.ps.map (BL top nd)) (k:=2) (l:=nds) fun nd hm=>by rw[List.length_map];exact(h.nd nd hm).len
 have h3:(gf top nds).length≤2*nds.length:=h2;have:=h.len;lia
theorem Hz(h:kd top nds):GS (dy top nds) 9 (mc nds) (gf top nds):=by
 refine Fu (zK h) fun a1 a2 a3 a4=> ?_;have hsh:=CE h;have hrw:eD (my (dy top nds) 9) (aV (mc nds)) (gf top nds):=by
  rw[FT];exact xG fun nd hm=>xH fun p hp=>FU h hm hp
 refine⟨hsh,⟨fun e he=> ?_,fun e he hp=> ?_⟩,hrw,Nat.le_trans (EE h) (by decide)⟩
 ·rcases x_ he with rfl|⟨nd,hm,rfl⟩|⟨nd,hm,p,hp,rfl⟩
  ·show(bm (dy top nds) 2).lookup aJ=none;rw[bz a3,f9,if_neg (fun z=>absurd z.1 (by decide))]
   simp only[List.lookup_cons,List.lookup_nil,dc];rfl
  ·show(bm (dy top nds) nd.i).lookup aJ=some (aG 2);rw[bz (a4 nd hm).1,f0,if_neg (fun z=>absurd z.1 (by decide)),if_neg (fun z=>absurd z.1 (by decide))]
   simp only[List.lookup_cons,List.lookup_nil,dc];rfl
  ·show(bm (dy top nds) p.1).lookup aJ=some (aG nd.i);rw[bz ((a4 nd hm).2 p hp),jm,if_neg (fun z=>absurd z.1 (by decide))]
   simp only[List.lookup_cons,List.lookup_nil,dc];rfl
 ·rcases x_ he with rfl|⟨nd,hm,rfl⟩|⟨nd,hm,p,hp',rfl⟩
  ·rw[vA,hrw.len];show(bm (dy top nds) 2).lookup bb=_;rw[bz a3,f9,if_neg (fun z=>absurd z.1 (by decide))]
   simp only[List.lookup_cons,List.lookup_nil,dc];rfl
  ·have hmm:SI.node nd.i (nd.ps.map (·.1))∈mc nds:=List.mem_map.mpr ⟨nd,hm,rfl⟩;obtain⟨A,B,e⟩:=List.append_of_mem hmm;have hc:=vz (A:=A) (B:=B) (q:=nd.i) (ps:=nd.ps.map (·.1)) (by rw[←e];exact hsh.nd)
   rw[←e]at hc;rw[hc];show(bm (dy top nds) nd.i).lookup bb=_;rw[bz (a4 nd hm).1,f0,if_neg (fun z=>absurd z.1 (by decide)),if_neg (fun z=>absurd z.1 (by decide)),List.length_map]
   simp only[List.lookup_cons,List.lookup_nil,dc];rfl
  ·exact tf hp
theorem Lr:wQ Gd where
 at_:=fun {sh rows} ⟨T,r,S,e,h⟩=>⟨T,R0,bP T S,e,h.right.1,h.right.2.1,h.right.2.2.1,h.right.2.2.2.1,h.right.2.2.2.2⟩
 len:=fun {sh rows} ⟨T,r,S,e,h⟩=>h.len
 split:=FJ
 less:=Hp
 moved:=FI
 init:=fun {top nds} h=>⟨dy top nds,9,mc nds,rfl,Hz h⟩
end
set_option tactic.hygienic true
theorem fin.tw10007411396671696613:True:=⟨⟩
theorem fin.tw1003406019367163718:True:=⟨⟩
theorem fin.tw1012361349325877821:True:=⟨⟩
theorem fin.tw10147658903529517814:True:=⟨⟩
theorem fin.tw10196768644732416780:True:=⟨⟩
theorem fin.tw10234915967203826555:True:=⟨⟩
theorem fin.tw10242451874928486539:True:=⟨⟩
theorem fin.tw10257115557388464752:True:=⟨⟩
theorem fin.tw10279692637995926009:True:=⟨⟩
theorem fin.tw10313180648002132564:True:=⟨⟩
theorem fin.tw10329872625359487480:True:=⟨⟩
theorem fin.tw1035503724928835527:True:=⟨⟩
theorem fin.tw10372454290965829033:True:=⟨⟩
theorem fin.tw10391319463526535247:True:=⟨⟩
theorem fin.tw10393886385942881009:True:=⟨⟩
theorem fin.tw10411508006071892022:True:=⟨⟩
theorem fin.tw10511823565363050587:True:=⟨⟩
theorem fin.tw10567028658651823492:True:=⟨⟩
theorem fin.tw10580198807604790814:True:=⟨⟩
theorem fin.tw10599938827571368224:True:=⟨⟩
theorem fin.tw10604582924909496153:True:=⟨⟩
theorem fin.tw10656291684629039791:True:=⟨⟩
theorem fin.tw10671828304227620169:True:=⟨⟩
theorem fin.tw10696652717036330658:True:=⟨⟩
theorem fin.tw10699407837109476802:True:=⟨⟩
theorem fin.tw10751089155417173751:True:=⟨⟩
theorem fin.tw10782327089294195420:True:=⟨⟩
theorem fin.tw10807920368746810246:True:=⟨⟩
theorem fin.tw10829458402184033698:True:=⟨⟩
theorem fin.tw10850621001676330593:True:=⟨⟩
theorem fin.tw10874316729293906858:True:=⟨⟩
theorem fin.tw10875463905939285979:True:=⟨⟩
theorem fin.tw1088692219920020602:True:=⟨⟩
theorem fin.tw10907391636593693970:True:=⟨⟩
theorem fin.tw10925335251469727208:True:=⟨⟩
theorem fin.tw10936777179133785780:True:=⟨⟩
theorem fin.tw11039862389202566683:True:=⟨⟩
theorem fin.tw11040825799340251285:True:=⟨⟩
theorem fin.tw11061592194353771069:True:=⟨⟩
theorem fin.tw11079828417688620724:True:=⟨⟩
theorem fin.tw111200028466390044:True:=⟨⟩
theorem fin.tw11147117730913898307:True:=⟨⟩
theorem fin.tw11154830654865731599:True:=⟨⟩
theorem fin.tw11177036383054605599:True:=⟨⟩
theorem fin.tw11179249921394602866:True:=⟨⟩
theorem fin.tw11209750170652599755:True:=⟨⟩
theorem fin.tw11224825812204259059:True:=⟨⟩
theorem fin.tw11277574374343807151:True:=⟨⟩
theorem fin.tw1128348596072947701:True:=⟨⟩
theorem fin.tw11291055956478989865:True:=⟨⟩
theorem fin.tw11293339424137598113:True:=⟨⟩
theorem fin.tw11298980531735778240:True:=⟨⟩
theorem fin.tw11309083907500574960:True:=⟨⟩
theorem fin.tw11325060847842403200:True:=⟨⟩
theorem fin.tw11336253725339858928:True:=⟨⟩
theorem fin.tw11395320378806372228:True:=⟨⟩
theorem fin.tw11414119711712004833:True:=⟨⟩
theorem fin.tw11414674201277728305:True:=⟨⟩
theorem fin.tw11432402860279490204:True:=⟨⟩
theorem fin.tw11462241541112437924:True:=⟨⟩
theorem fin.tw11471956102464614933:True:=⟨⟩
theorem fin.tw11540268431951176639:True:=⟨⟩
theorem fin.tw11575174756993882273:True:=⟨⟩
theorem fin.tw11587955951900863698:True:=⟨⟩
theorem fin.tw11750646167744613905:True:=⟨⟩
theorem fin.tw11772964195913830049:True:=⟨⟩
theorem fin.tw11819170096642289871:True:=⟨⟩
theorem fin.tw11869342324683393730:True:=⟨⟩
theorem fin.tw11875381402373810866:True:=⟨⟩
theorem fin.tw11897717083992391400:True:=⟨⟩
theorem fin.tw11936995450923721628:True:=⟨⟩
theorem fin.tw1195334901915552329:True:=⟨⟩
theorem fin.tw11989984593139433840:True:=⟨⟩
theorem fin.tw12072802829135307789:True:=⟨⟩
theorem fin.tw1209720653154232198:True:=⟨⟩
theorem fin.tw12099963884644335660:True:=⟨⟩
theorem fin.tw12105171945263650130:True:=⟨⟩
theorem fin.tw12149302876761508202:True:=⟨⟩
theorem fin.tw12171577908484138354:True:=⟨⟩
theorem fin.tw12180539936304867106:True:=⟨⟩
theorem fin.tw12212933522069011988:True:=⟨⟩
theorem fin.tw12347537446847802165:True:=⟨⟩
theorem fin.tw12356021495744459628:True:=⟨⟩
theorem fin.tw1239743038759826550:True:=⟨⟩
theorem fin.tw12448240930570709186:True:=⟨⟩
theorem fin.tw12464766053444552404:True:=⟨⟩
theorem fin.tw12494888245299231016:True:=⟨⟩
theorem fin.tw1252854909445205041:True:=⟨⟩
theorem fin.tw12567809125941998234:True:=⟨⟩
theorem fin.tw12586190556516072552:True:=⟨⟩
theorem fin.tw12629903358213643309:True:=⟨⟩
theorem fin.tw12669758225909598566:True:=⟨⟩
theorem fin.tw12738864244801774330:True:=⟨⟩
theorem fin.tw12751662967071866640:True:=⟨⟩
theorem fin.tw12757126508119417436:True:=⟨⟩
theorem fin.tw12757720458447036936:True:=⟨⟩
theorem fin.tw12780881840741157306:True:=⟨⟩
theorem fin.tw1281744992317467088:True:=⟨⟩
theorem fin.tw12833947400113492166:True:=⟨⟩
theorem fin.tw12851234836949525663:True:=⟨⟩
theorem fin.tw12876116671307685997:True:=⟨⟩
theorem fin.tw12962497063298326498:True:=⟨⟩
theorem fin.tw12977279227502587607:True:=⟨⟩
theorem fin.tw12979919090201106820:True:=⟨⟩
theorem fin.tw12996517811204074000:True:=⟨⟩
theorem fin.tw13021059552284102479:True:=⟨⟩
theorem fin.tw13093503161671486093:True:=⟨⟩
theorem fin.tw13175226182763708026:True:=⟨⟩
theorem fin.tw13177410634674063896:True:=⟨⟩
theorem fin.tw13183061134860383702:True:=⟨⟩
theorem fin.tw13199158710529813207:True:=⟨⟩
theorem fin.tw1324748791087667916:True:=⟨⟩
theorem fin.tw13272504610945704091:True:=⟨⟩
theorem fin.tw13337293482115323266:True:=⟨⟩
theorem fin.tw13412572060209156058:True:=⟨⟩
theorem fin.tw1346022578215293949:True:=⟨⟩
theorem fin.tw13467322939085005891:True:=⟨⟩
theorem fin.tw13469397999491448738:True:=⟨⟩
theorem fin.tw13516622038369049944:True:=⟨⟩
theorem fin.tw13559426298472428169:True:=⟨⟩
theorem fin.tw13566729865485783148:True:=⟨⟩
theorem fin.tw13574545013463194659:True:=⟨⟩
theorem fin.tw13582292425324344769:True:=⟨⟩
theorem fin.tw13700621096757390547:True:=⟨⟩
theorem fin.tw13718649260633737024:True:=⟨⟩
theorem fin.tw13781542876482819989:True:=⟨⟩
theorem fin.tw13790858721211988464:True:=⟨⟩
theorem fin.tw13894747593318719542:True:=⟨⟩
theorem fin.tw13898374239775968522:True:=⟨⟩
theorem fin.tw13921157682446629093:True:=⟨⟩
theorem fin.tw14018533915963200917:True:=⟨⟩
theorem fin.tw14060254640080698258:True:=⟨⟩
theorem fin.tw14111491100615862519:True:=⟨⟩
theorem fin.tw14134379338385194387:True:=⟨⟩
theorem fin.tw14178952322520976695:True:=⟨⟩
theorem fin.tw14210890002308233579:True:=⟨⟩
theorem fin.tw14239432107786713131:True:=⟨⟩
theorem fin.tw14254621764821748828:True:=⟨⟩
theorem fin.tw14257018576560825284:True:=⟨⟩
theorem fin.tw14297971457927632359:True:=⟨⟩
theorem fin.tw14333544728242365436:True:=⟨⟩
theorem fin.tw14336544582882092262:True:=⟨⟩
theorem fin.tw14345562132136545540:True:=⟨⟩
theorem fin.tw14347400895652799225:True:=⟨⟩
theorem fin.tw14431720936831517352:True:=⟨⟩
theorem fin.tw14443865062095999725:True:=⟨⟩
theorem fin.tw14449560505687523246:True:=⟨⟩
theorem fin.tw14468091648759818802:True:=⟨⟩
theorem fin.tw14495431336439861174:True:=⟨⟩
theorem fin.tw14497727239971306367:True:=⟨⟩
theorem fin.tw1450881378762983150:True:=⟨⟩
theorem fin.tw14517287926952318261:True:=⟨⟩
theorem fin.tw14560573928864763818:True:=⟨⟩
theorem fin.tw14568449535678555946:True:=⟨⟩
theorem fin.tw14637358334870819178:True:=⟨⟩
theorem fin.tw14658254696389335927:True:=⟨⟩
theorem fin.tw14667941539000003185:True:=⟨⟩
theorem fin.tw14679806638718605512:True:=⟨⟩
theorem fin.tw14786503066443513839:True:=⟨⟩
theorem fin.tw14793013804824869981:True:=⟨⟩
theorem fin.tw14814673180317915700:True:=⟨⟩
theorem fin.tw14831621372327356649:True:=⟨⟩
theorem fin.tw14855157385224911753:True:=⟨⟩
theorem fin.tw14856888987745899463:True:=⟨⟩
theorem fin.tw14878868887547804658:True:=⟨⟩
theorem fin.tw14895270292469626870:True:=⟨⟩
theorem fin.tw14969715616416898430:True:=⟨⟩
theorem fin.tw15069271281064182630:True:=⟨⟩
theorem fin.tw15144710454662140524:True:=⟨⟩
theorem fin.tw15149952090015108872:True:=⟨⟩
theorem fin.tw15153159077126877473:True:=⟨⟩
theorem fin.tw15205425988870721313:True:=⟨⟩
theorem fin.tw15219631101029703214:True:=⟨⟩
theorem fin.tw15240623583426463711:True:=⟨⟩
theorem fin.tw15279137341521000952:True:=⟨⟩
theorem fin.tw1544503264643628384:True:=⟨⟩
theorem fin.tw1545086475593560577:True:=⟨⟩
theorem fin.tw15459455144867644326:True:=⟨⟩
theorem fin.tw15476544859757588837:True:=⟨⟩
theorem fin.tw15523922138108190246:True:=⟨⟩
theorem fin.tw15530151957754944063:True:=⟨⟩
theorem fin.tw15566928917628492161:True:=⟨⟩
theorem fin.tw15583698165555649274:True:=⟨⟩
theorem fin.tw15590172107835277464:True:=⟨⟩
theorem fin.tw15621619335703214680:True:=⟨⟩
theorem fin.tw15662818152136180567:True:=⟨⟩
theorem fin.tw15675102808854859970:True:=⟨⟩
theorem fin.tw15701818922362908474:True:=⟨⟩
theorem fin.tw15741700470354863883:True:=⟨⟩
theorem fin.tw15815952407149668801:True:=⟨⟩
theorem fin.tw15832999045522443761:True:=⟨⟩
theorem fin.tw15846704840505152836:True:=⟨⟩
theorem fin.tw15913912297419572864:True:=⟨⟩
theorem fin.tw15925861663654237186:True:=⟨⟩
theorem fin.tw15942684835789789487:True:=⟨⟩
theorem fin.tw15989303212955285315:True:=⟨⟩
theorem fin.tw16103849850496634939:True:=⟨⟩
theorem fin.tw16109372258727991565:True:=⟨⟩
theorem fin.tw16115155874713506467:True:=⟨⟩
theorem fin.tw16145351769185666540:True:=⟨⟩
theorem fin.tw16175276709679454751:True:=⟨⟩
theorem fin.tw16192418988078311159:True:=⟨⟩
theorem fin.tw16205109500356779066:True:=⟨⟩
theorem fin.tw16229209127682248589:True:=⟨⟩
theorem fin.tw16252508478716706905:True:=⟨⟩
theorem fin.tw16269368082590959529:True:=⟨⟩
theorem fin.tw16332831945792503637:True:=⟨⟩
theorem fin.tw16375469754199864689:True:=⟨⟩
theorem fin.tw16401934584784274106:True:=⟨⟩
theorem fin.tw16488607150827929282:True:=⟨⟩
theorem fin.tw16497079637816224013:True:=⟨⟩
theorem fin.tw16502652511500755:True:=⟨⟩
theorem fin.tw16510490156224867327:True:=⟨⟩
theorem fin.tw16540275574145912595:True:=⟨⟩
theorem fin.tw16584127079891442865:True:=⟨⟩
theorem fin.tw16593498308125037870:True:=⟨⟩
theorem fin.tw1666694428299288667:True:=⟨⟩
theorem fin.tw16771295499568265973:True:=⟨⟩
theorem fin.tw16887700694756565908:True:=⟨⟩
theorem fin.tw16903924287465469464:True:=⟨⟩
theorem fin.tw16906536467411238026:True:=⟨⟩
theorem fin.tw16908780153626456763:True:=⟨⟩
theorem fin.tw16958243865122950064:True:=⟨⟩
theorem fin.tw17108682257543074861:True:=⟨⟩
theorem fin.tw17109930996152030393:True:=⟨⟩
theorem fin.tw17130245016438642246:True:=⟨⟩
theorem fin.tw1713156846745171867:True:=⟨⟩
theorem fin.tw17132207802985990308:True:=⟨⟩
theorem fin.tw17164383140453370395:True:=⟨⟩
theorem fin.tw17186005699333237546:True:=⟨⟩
theorem fin.tw17197158672614542318:True:=⟨⟩
theorem fin.tw17204297501091165112:True:=⟨⟩
theorem fin.tw17217429795192226366:True:=⟨⟩
theorem fin.tw17220895691602665673:True:=⟨⟩
theorem fin.tw17234587430967350031:True:=⟨⟩
theorem fin.tw17311274769643918242:True:=⟨⟩
theorem fin.tw17344254963278052338:True:=⟨⟩
theorem fin.tw17362494058136835672:True:=⟨⟩
theorem fin.tw17416127249078093707:True:=⟨⟩
theorem fin.tw17430205856086898164:True:=⟨⟩
theorem fin.tw17461915456910197578:True:=⟨⟩
theorem fin.tw17485583185531914963:True:=⟨⟩
theorem fin.tw17502855826952124057:True:=⟨⟩
theorem fin.tw17512474026176034454:True:=⟨⟩
theorem fin.tw17570709534508481193:True:=⟨⟩
theorem fin.tw17637551073024348614:True:=⟨⟩
theorem fin.tw1766193274316824492:True:=⟨⟩
theorem fin.tw17701328389417463424:True:=⟨⟩
theorem fin.tw17717364068325071970:True:=⟨⟩
theorem fin.tw17743408960866722510:True:=⟨⟩
theorem fin.tw17800424488773493296:True:=⟨⟩
theorem fin.tw17809232949079649038:True:=⟨⟩
theorem fin.tw17869975865946814897:True:=⟨⟩
theorem fin.tw17896612028031085017:True:=⟨⟩
theorem fin.tw17963964198891936676:True:=⟨⟩
theorem fin.tw17971676594858020690:True:=⟨⟩
theorem fin.tw17974384156558142227:True:=⟨⟩
theorem fin.tw18011332887955570755:True:=⟨⟩
theorem fin.tw18105285910621931680:True:=⟨⟩
theorem fin.tw18164189302063226315:True:=⟨⟩
theorem fin.tw1819255440876223710:True:=⟨⟩
theorem fin.tw18255404467826089762:True:=⟨⟩
theorem fin.tw18373065035072037172:True:=⟨⟩
theorem fin.tw18387650150990424433:True:=⟨⟩
theorem fin.tw18404063521330658252:True:=⟨⟩
theorem fin.tw1903126291601959907:True:=⟨⟩
theorem fin.tw1921165311934587177:True:=⟨⟩
theorem fin.tw1951045429614898598:True:=⟨⟩
theorem fin.tw1963134401048803436:True:=⟨⟩
theorem fin.tw1992996095170833049:True:=⟨⟩
theorem fin.tw2046393882495617769:True:=⟨⟩
theorem fin.tw2067723777617599883:True:=⟨⟩
theorem fin.tw2086631506510373192:True:=⟨⟩
theorem fin.tw2103456241558337223:True:=⟨⟩
theorem fin.tw2134494919806464862:True:=⟨⟩
theorem fin.tw220677088936066577:True:=⟨⟩
theorem fin.tw2236755162388048479:True:=⟨⟩
theorem fin.tw2275749259730422485:True:=⟨⟩
theorem fin.tw2277568627679802767:True:=⟨⟩
theorem fin.tw2277577106397715490:True:=⟨⟩
theorem fin.tw2304379251839397102:True:=⟨⟩
theorem fin.tw2305881189932309285:True:=⟨⟩
theorem fin.tw2306873549167696089:True:=⟨⟩
theorem fin.tw2316539691658765527:True:=⟨⟩
theorem fin.tw2320886540369039338:True:=⟨⟩
theorem fin.tw2321816554428607280:True:=⟨⟩
theorem fin.tw2377308710366028375:True:=⟨⟩
theorem fin.tw2415902012162501839:True:=⟨⟩
theorem fin.tw2441168790927817222:True:=⟨⟩
theorem fin.tw244944058534012095:True:=⟨⟩
theorem fin.tw2462912638960843985:True:=⟨⟩
theorem fin.tw2516017022742817472:True:=⟨⟩
theorem fin.tw2523478847598653984:True:=⟨⟩
theorem fin.tw2537931557510868981:True:=⟨⟩
theorem fin.tw2556814553914141322:True:=⟨⟩
theorem fin.tw2620492485814837118:True:=⟨⟩
theorem fin.tw2656788454239962097:True:=⟨⟩
theorem fin.tw2671655128345628175:True:=⟨⟩
theorem fin.tw273201369580953799:True:=⟨⟩
theorem fin.tw2824846461999071874:True:=⟨⟩
theorem fin.tw2910385600587045654:True:=⟨⟩
theorem fin.tw295240868970151085:True:=⟨⟩
theorem fin.tw2976117146107443816:True:=⟨⟩
theorem fin.tw3004984022683251337:True:=⟨⟩
theorem fin.tw3105451386036433885:True:=⟨⟩
theorem fin.tw3112429581023547943:True:=⟨⟩
theorem fin.tw3125960719983571848:True:=⟨⟩
theorem fin.tw3246839028233683650:True:=⟨⟩
theorem fin.tw3263211703599914710:True:=⟨⟩
theorem fin.tw3302319216010004292:True:=⟨⟩
theorem fin.tw3314143786362844604:True:=⟨⟩
theorem fin.tw333583748066197110:True:=⟨⟩
theorem fin.tw3373110491918621954:True:=⟨⟩
theorem fin.tw3404873503106905745:True:=⟨⟩
theorem fin.tw3432132637015033673:True:=⟨⟩
theorem fin.tw3456623496861543869:True:=⟨⟩
theorem fin.tw3550807849831375056:True:=⟨⟩
theorem fin.tw3599858809825778643:True:=⟨⟩
theorem fin.tw3683778510129048087:True:=⟨⟩
theorem fin.tw373065315874586923:True:=⟨⟩
theorem fin.tw3738894495883498167:True:=⟨⟩
theorem fin.tw3752056022367304142:True:=⟨⟩
theorem fin.tw3767311804947220896:True:=⟨⟩
theorem fin.tw3780939710592286428:True:=⟨⟩
theorem fin.tw3788772014149755174:True:=⟨⟩
theorem fin.tw3794220679723124481:True:=⟨⟩
theorem fin.tw380778119907437045:True:=⟨⟩
theorem fin.tw3810570522144960214:True:=⟨⟩
theorem fin.tw3812028171767442716:True:=⟨⟩
theorem fin.tw3839206501371402102:True:=⟨⟩
theorem fin.tw3857263333814641470:True:=⟨⟩
theorem fin.tw3863403702602939814:True:=⟨⟩
theorem fin.tw3885313090954376144:True:=⟨⟩
theorem fin.tw3939050589584296047:True:=⟨⟩
theorem fin.tw3998398428148030388:True:=⟨⟩
theorem fin.tw4013537778516871869:True:=⟨⟩
theorem fin.tw4026100201820347962:True:=⟨⟩
theorem fin.tw4040260094072895976:True:=⟨⟩
theorem fin.tw4043148821406017626:True:=⟨⟩
theorem fin.tw4100293265295638779:True:=⟨⟩
theorem fin.tw4144819383078699286:True:=⟨⟩
theorem fin.tw4171678462856256454:True:=⟨⟩
theorem fin.tw4218790737952374519:True:=⟨⟩
theorem fin.tw4265850918314828415:True:=⟨⟩
theorem fin.tw428092273266315144:True:=⟨⟩
theorem fin.tw4302917861877037783:True:=⟨⟩
theorem fin.tw4306616734650971735:True:=⟨⟩
theorem fin.tw4312942655851389009:True:=⟨⟩
theorem fin.tw4329306826757983850:True:=⟨⟩
theorem fin.tw4337157586716928682:True:=⟨⟩
theorem fin.tw4424551920762525699:True:=⟨⟩
theorem fin.tw4511179659842756495:True:=⟨⟩
theorem fin.tw452842511749404161:True:=⟨⟩
theorem fin.tw4570111826955561243:True:=⟨⟩
theorem fin.tw4588413851689716618:True:=⟨⟩
theorem fin.tw4613182775407389354:True:=⟨⟩
theorem fin.tw4640724917100965312:True:=⟨⟩
theorem fin.tw4697593496733698132:True:=⟨⟩
theorem fin.tw4704930585520482657:True:=⟨⟩
theorem fin.tw4719063310657182621:True:=⟨⟩
theorem fin.tw4723787954990577340:True:=⟨⟩
theorem fin.tw4754552298942338087:True:=⟨⟩
theorem fin.tw4768634762848416435:True:=⟨⟩
theorem fin.tw4769821431679368130:True:=⟨⟩
theorem fin.tw4806268862455609328:True:=⟨⟩
theorem fin.tw4833179351181384845:True:=⟨⟩
theorem fin.tw4879674094562380441:True:=⟨⟩
theorem fin.tw488218634404078324:True:=⟨⟩
theorem fin.tw4898026214463823928:True:=⟨⟩
theorem fin.tw4910921440188858082:True:=⟨⟩
theorem fin.tw4928979718650693569:True:=⟨⟩
theorem fin.tw4992356995671143779:True:=⟨⟩
theorem fin.tw5011121235533021005:True:=⟨⟩
theorem fin.tw5071919506433949198:True:=⟨⟩
theorem fin.tw5098551885099359569:True:=⟨⟩
theorem fin.tw5106123347721008290:True:=⟨⟩
theorem fin.tw5115476493328737885:True:=⟨⟩
theorem fin.tw5196160543931855155:True:=⟨⟩
theorem fin.tw5230622158679508976:True:=⟨⟩
theorem fin.tw5250828734511838712:True:=⟨⟩
theorem fin.tw5266742908149448401:True:=⟨⟩
theorem fin.tw5285785234609935064:True:=⟨⟩
theorem fin.tw5372875611105449904:True:=⟨⟩
theorem fin.tw5402249366112354979:True:=⟨⟩
theorem fin.tw5514125408013525434:True:=⟨⟩
theorem fin.tw5576714124690252594:True:=⟨⟩
theorem fin.tw5585719645790517573:True:=⟨⟩
theorem fin.tw5598441983335636414:True:=⟨⟩
theorem fin.tw5634151482396758240:True:=⟨⟩
theorem fin.tw5647864574477489665:True:=⟨⟩
theorem fin.tw5663504974038819100:True:=⟨⟩
theorem fin.tw5679570950571409650:True:=⟨⟩
theorem fin.tw5689665320540551426:True:=⟨⟩
theorem fin.tw5734618986648460908:True:=⟨⟩
theorem fin.tw5776136370200156792:True:=⟨⟩
theorem fin.tw5792265106169080782:True:=⟨⟩
theorem fin.tw5805905742469029177:True:=⟨⟩
theorem fin.tw5816422842320146608:True:=⟨⟩
theorem fin.tw584112131590315491:True:=⟨⟩
theorem fin.tw5897612983314593646:True:=⟨⟩
theorem fin.tw5901363791540438844:True:=⟨⟩
theorem fin.tw5920281757701029450:True:=⟨⟩
theorem fin.tw5978438607452443526:True:=⟨⟩
theorem fin.tw6058378993454661626:True:=⟨⟩
theorem fin.tw6068950659093879613:True:=⟨⟩
theorem fin.tw6081921254191324426:True:=⟨⟩
theorem fin.tw6111278197949985803:True:=⟨⟩
theorem fin.tw6127190174262240918:True:=⟨⟩
theorem fin.tw612862322836996645:True:=⟨⟩
theorem fin.tw6214469639950668122:True:=⟨⟩
theorem fin.tw6232080684201472732:True:=⟨⟩
theorem fin.tw6323506392446703087:True:=⟨⟩
theorem fin.tw6388184931127306564:True:=⟨⟩
theorem fin.tw6400248389586479577:True:=⟨⟩
theorem fin.tw6435670951450185984:True:=⟨⟩
theorem fin.tw6454446336052903152:True:=⟨⟩
theorem fin.tw6455845175183424153:True:=⟨⟩
theorem fin.tw6485783843944922600:True:=⟨⟩
theorem fin.tw6498334528663615478:True:=⟨⟩
theorem fin.tw6525817661751114472:True:=⟨⟩
theorem fin.tw6531376189190222733:True:=⟨⟩
theorem fin.tw6566618420281934:True:=⟨⟩
theorem fin.tw6567050819087999508:True:=⟨⟩
theorem fin.tw6606841291872302138:True:=⟨⟩
theorem fin.tw6620434350048004:True:=⟨⟩
theorem fin.tw6634307039904815820:True:=⟨⟩
theorem fin.tw6650461044873433052:True:=⟨⟩
theorem fin.tw6667815254911646788:True:=⟨⟩
theorem fin.tw6712194924023145494:True:=⟨⟩
theorem fin.tw6815667921103612162:True:=⟨⟩
theorem fin.tw6846200578177281708:True:=⟨⟩
theorem fin.tw6848912972918003917:True:=⟨⟩
theorem fin.tw6951216239237536575:True:=⟨⟩
theorem fin.tw6968583824967984638:True:=⟨⟩
theorem fin.tw7000300075881102575:True:=⟨⟩
theorem fin.tw7021976415091001641:True:=⟨⟩
theorem fin.tw7033882931294258662:True:=⟨⟩
theorem fin.tw7077062725725365638:True:=⟨⟩
theorem fin.tw7267163888087337239:True:=⟨⟩
theorem fin.tw7319501015663598286:True:=⟨⟩
theorem fin.tw7336344344812659824:True:=⟨⟩
theorem fin.tw7380833856163905736:True:=⟨⟩
theorem fin.tw744865244796547220:True:=⟨⟩
theorem fin.tw7451905468542833597:True:=⟨⟩
theorem fin.tw7547296005191728479:True:=⟨⟩
theorem fin.tw7556821591101738928:True:=⟨⟩
theorem fin.tw757079261281740938:True:=⟨⟩
theorem fin.tw7571835004317744807:True:=⟨⟩
theorem fin.tw7613945582906998725:True:=⟨⟩
theorem fin.tw7661832156752021035:True:=⟨⟩
theorem fin.tw7684487725183542926:True:=⟨⟩
theorem fin.tw7692301277026442203:True:=⟨⟩
theorem fin.tw7779959011674639804:True:=⟨⟩
theorem fin.tw7803649310394182010:True:=⟨⟩
theorem fin.tw7822013112032934038:True:=⟨⟩
theorem fin.tw7830602891274557492:True:=⟨⟩
theorem fin.tw783483362715066742:True:=⟨⟩
theorem fin.tw7845872953664198349:True:=⟨⟩
theorem fin.tw7856420140689306517:True:=⟨⟩
theorem fin.tw7890596953891613788:True:=⟨⟩
theorem fin.tw7930893340574950883:True:=⟨⟩
theorem fin.tw7976502392129159676:True:=⟨⟩
theorem fin.tw8004206274103572539:True:=⟨⟩
theorem fin.tw8018989035897545986:True:=⟨⟩
theorem fin.tw8053913732961167717:True:=⟨⟩
theorem fin.tw807531904560671035:True:=⟨⟩
theorem fin.tw8126443298418566877:True:=⟨⟩
theorem fin.tw8166985623705000286:True:=⟨⟩
theorem fin.tw8185091604740117843:True:=⟨⟩
theorem fin.tw824797018042769846:True:=⟨⟩
theorem fin.tw8269367382603917829:True:=⟨⟩
theorem fin.tw8272817396058243321:True:=⟨⟩
theorem fin.tw8330952907988395303:True:=⟨⟩
theorem fin.tw8331973007464152698:True:=⟨⟩
theorem fin.tw8344675336782298973:True:=⟨⟩
theorem fin.tw8399098705505230059:True:=⟨⟩
theorem fin.tw8408514402456403777:True:=⟨⟩
theorem fin.tw846297522682114974:True:=⟨⟩
theorem fin.tw848606289541702500:True:=⟨⟩
theorem fin.tw8569027658895312972:True:=⟨⟩
theorem fin.tw8577089030196625639:True:=⟨⟩
theorem fin.tw8590288500278120515:True:=⟨⟩
theorem fin.tw862447977868951606:True:=⟨⟩
theorem fin.tw8643116662766533202:True:=⟨⟩
theorem fin.tw8668149382578428375:True:=⟨⟩
theorem fin.tw8761137362585489571:True:=⟨⟩
theorem fin.tw8823646848978868743:True:=⟨⟩
theorem fin.tw884059145510264010:True:=⟨⟩
theorem fin.tw8896352889252549814:True:=⟨⟩
theorem fin.tw891787732878383699:True:=⟨⟩
theorem fin.tw8947099994592609211:True:=⟨⟩
theorem fin.tw895571856199123645:True:=⟨⟩
theorem fin.tw8999559765510592377:True:=⟨⟩
theorem fin.tw9001875181463519149:True:=⟨⟩
theorem fin.tw9113340658982188547:True:=⟨⟩
theorem fin.tw916760970301856219:True:=⟨⟩
theorem fin.tw9247658263007524724:True:=⟨⟩
theorem fin.tw9339408515151402362:True:=⟨⟩
theorem fin.tw9387745189664136937:True:=⟨⟩
theorem fin.tw9445451236469955387:True:=⟨⟩
theorem fin.tw9508293364712189505:True:=⟨⟩
theorem fin.tw9509447333196811905:True:=⟨⟩
theorem fin.tw9524518906428321964:True:=⟨⟩
theorem fin.tw9562769462328344092:True:=⟨⟩
theorem fin.tw9712136527352899355:True:=⟨⟩
theorem fin.tw9722632081671974098:True:=⟨⟩
theorem fin.tw9725021084223525626:True:=⟨⟩
theorem fin.tw9735714214384596553:True:=⟨⟩
theorem fin.tw9746214513668125432:True:=⟨⟩
theorem fin.tw9757074474933493440:True:=⟨⟩
theorem fin.tw9806666330580929782:True:=⟨⟩
theorem fin.tw982560976839675504:True:=⟨⟩
theorem fin.tw9825859731914700964:True:=⟨⟩
theorem fin.tw9883050511414546368:True:=⟨⟩
theorem fin.tw9913140749668108558:True:=⟨⟩
theorem fin.tw9962418760945406050:True:=⟨⟩
theorem fin.tw9966731872082626627:True:=⟨⟩
theorem fin.tw9997704412844104603:True:=⟨⟩
theorem fin.tw999798209818781672:True:=⟨⟩
theorem F7{K V:Type}[BEq K][LawfulBEq K]{k:K}{c:V}:∀{l:List (K×V)},l.lookup k=some c→(k,c)∈l
 |p::r,h=>by
  rw[List.lookup_cons]at h;split at h
  ·rename_i e;cases h;rw[eq_of_beq e];exact .head _
  ·exact .tail _ (F7 h)
theorem IS{K:Frag}{cls:Value}{ans:List (Value×Bool)}(h:(ans.all fun p=>kitOne K p.1 cls==some p.2&&(match p.1 with| .ref C=>Gj K C|_=>true))=true):JI K cls ans:=fun t b e=>by
 have:=List.all_eq_true.mp h (t,b) (F7 e);simp only[Bool.and_eq_true,beq_iff_eq]at this;exact⟨this.1,fun C e=>by have h2:=this.2;subst e;exact h2⟩
theorem zb{α:Type}{P:α→Prop}:∀p∈([]:List α),P p:=fun _ h=>absurd h List.not_mem_nil
theorem q8{α:Type}{P:α→Prop}{a:α}{l:List α}(h:P a)(t:∀p∈l,P p):∀p∈a::l,P p:=List.forall_mem_cons.mpr ⟨h,t⟩
theorem Jh{K:Frag}(h:(K6 K).all (fun x=>x)=true):∀x∈K6 K,x=true:=List.all_eq_true.mp h
theorem I3{K:Frag}{h:Heap}(X:K.In h)(kf:KF K)(kx:KX K)(h1:nsIn K mainGlobals (Str.ofString "law")=some (some (.ref 784))):K.In h∧KF K∧KX K∧nsIn K mainGlobals (Str.ofString "law")=some (some (.ref 784)):=⟨X,kf,kx,h1⟩
theorem r9{W:Wd}{F:Fz}:∀{vs:List Value} {is:List Int},IntsAre vs is→b6 W F vs (bZ is)
 |_,_,.nil=> .nil
 |_,_,.cons _ t h=> .cons (.int _ _) (r9 h)
set_option Elab.async true
set_option maxHeartbeats 8000000
theorem fin:PySem.Challenge.rw_nn0154_01.Holds:=by
 w_on
 o_law
 k_head
 (case hw=>w_witness2)
 k_fill
 intro w s₀ s₁ mg mb G Y fa o pm cd doc dV kV ho hd hcd hD hmg hg args vals as hpre hlay hrd hwl hlo;obtain⟨KX,kf,kx,kl⟩:=I3 (kIn_of Y) ⟨Jh (by kernel_rfl),(by repeat (first|exact zb|refine q8 (by kernel_rfl) ?_)),(by repeat (first|exact zb|refine q8 ⟨_,.inl rfl,_,_,_,_,_,_,_,_,_,_,_,rfl,by kernel_rfl⟩ ?_|refine q8 ⟨_,.inr rfl,_,_,_,_,_,_,_,_,_,_,_,rfl,by kernel_rfl⟩ ?_)),(by repeat (first|exact zb|refine q8 (IS (by kernel_rfl)) ?_)),(by repeat (first|exact zb|refine q8 ⟨by kernel_rfl,by kernel_rfl,by kernel_rfl⟩ ?_)),⟨_,rfl⟩,⟨_,_,_,_,_,_,_,_,rfl,rfl⟩,⟨_,_,_,⟨_,_,_,_,_,_,_,_,_,_,_,rfl,by kernel_rfl⟩,rfl,rfl⟩⟩ ⟨⟨_,_,_,_,_,_,_,_,_,_,_,_,_,_,rfl⟩,by kernel_rfl,by kernel_rfl,by kernel_rfl,⟨_,_,_,⟨_,_,_,_,_,_,_,_,_,_,_,rfl,by kernel_rfl⟩,rfl,rfl⟩,by kernel_rfl,by kernel_rfl,by kernel_rfl,by kernel_rfl,by kernel_rfl,by kernel_rfl⟩ (by kernel_rfl)
 refine Ground.open G ?_;intro T B D TE TW;clear hD hcd hd
 wrow_args hpre hlay hrd hwl hlo
 first|refine callC_kw (enter_call ?_)|refine enter_call ?_|refine callC_kw (enter_callW ?_)|refine enter_callW ?_
 refine codeAny_mono ?_ (fun _ _ g=>GoodW.toG g)
 rename_i is _ _ _ _ _ _ _ a vs _ hL _ hw _ hI _ hlen _
 have hfa:fa=784:=by
  have h1:=mg_of KX T.g kl;rw[show mg (Str.ofString "law")=some (Value.ref fa)from hmg]at h1
  cases h1;rfl
 subst hfa;have hG:wQ Gd:=Lr;refine HG (W:=⟨_,w,_,s₁.heap,mg,mb,s₁.os,KX,T.g,T.b,T.builtins,T.nolimit⟩) (F:=fun a=>s₁.heap.get? a) (is:=is) kf kx hG rfl (by decide) (by decide) rfl ?_ ?_ ?_ fun s' h1 h2 h3=> ?_
 ·exact⟨fun a o e=>e,fun a o e=>(by cases e),fun a o e=>e,fun p h=>(by cases h),.nil,fun a h=>(by cases h),fun a o e=>(by cases e),hg,rfl⟩
 ·obtain⟨o',e1,c1,n,d1⟩:=hL;cases hw with
  |list e2 _=>
   rw[e1]at e2;cases e2;have d2:Data.seq _ _=Data.seq _ _:=d1
   injection d2 with d3 d4
   rw[d3]at e1;exact .lst e1 (r9 hI)
 ·simp at hlen
  omega
 ·exact⟨.inl ⟨_,_,[],rfl,raisesW_false (by wrow_none_raised),.bool true,by wrow_post,unshared_nil⟩,h1,h3,h2⟩
end Mine
theorem PySem.Challenge.cw_nn0154_01_holds : PySem.Challenge.rw_nn0154_01.Holds :=
 Mine.fin