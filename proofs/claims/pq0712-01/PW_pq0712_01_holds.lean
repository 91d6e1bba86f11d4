import PyProof.Rows.All
import Wide.All
import OpenK.Lit
import OpenK.KMeth
import OpenK.KCell
import Open.Line
import Open.Tree
import Open.FastT9
import Open.FastRun
import Open.Boot
import Wide.Loose
import OpenK.KMake
import OpenK.KCls
import KE.KItem
import KE.KDictOf
import KE.KDictSum
import KE.KSortKey
import KE.KRevSl
import PySem.Challenge.RW_pq0712_01
set_option maxRecDepth 100000
set_option compiler.extract_closed false
set_option bootstrap.genMatcherCode false
set_option tactic.hygienic false
set_option Elab.async false
set_option linter.all false
set_option maxHeartbeats 0
set_option backward.eqns.nonrecursive false
set_option backward.eqns.deepRecursiveSplit false
set_option backward.match.sparseCases false
namespace Mine
open PySem PySem.Calls PySem.W PyProof.Rows PySem.Spec
theorem nT{a b c:Nat}(h:a≤b)(k:b≤c):a≤c:=Nat.le_trans h k
theorem bA{a b:Bool}(h:(a&&b)=true):a=true∧b=true:=Bool.and_eq_true_iff.mp h
theorem oD{p:Prop}[Decidable p](h:decide p=true):p:=of_decide_eq_true h
theorem lA{α:Type _}{p:α→Bool}{l:List α}(h:l.all p=true):∀x∈l,p x=true:=List.all_eq_true.mp h
def vB:=@wpAny_bind
def vP:=@wpAny_pure
theorem dkk{p:Prop}(h:p:=by decide +kernel):p:=h
theorem ban {a b:Bool}(h:a=true)(k:b=true):(a&&b)=true:=by rw[h,k];rfl
theorem lt3 {a b c:Nat}(h:a≤b)(k:b≤c:=by decide):a≤c:=nT h k
theorem l_ge {a b:Nat}(e:a=b):b≤a:=Nat.le_of_eq e.symm
theorem l_min {a b c:Nat}(h:a≤c):min a b≤c:=nT (Nat.min_le_left _ _) h
theorem l_min' {a b c:Nat}(h:b≤c):min a b≤c:=nT (Nat.min_le_right _ _) h
theorem l_mx {a b c:Nat}(h:max a b≤c):a≤c:=nT (Nat.le_max_left _ _) h
theorem l_mx' {a b c:Nat}(h:max a b≤c):b≤c:=nT (Nat.le_max_right _ _) h
theorem l_al {a b c:Nat}(h:a+b≤c):a≤c:=nT (Nat.le_add_right _ _) h
theorem l_ar {a b c:Nat}(h:a+b≤c):b≤c:=nT (Nat.le_add_left _ _) h
theorem l_d {a b c:Nat}(h:b≤c:=by decide):a+b≤a+c:=Nat.add_le_add_left h a
theorem nS {α:Type _}{a:α}{p:Prop}(h:none=some a):p:=nomatch h
theorem nS' {α:Type _}{a:α}{p:Prop}(h:some a=none):p:=nomatch h
theorem nB {p:Prop}(h:false=true):p:=nomatch h
theorem nB' {p:Prop}(h:true=false):p:=nomatch h
theorem nL {α:Type _}{a:α}{l:List α}{p:Prop}(h: []=a::l):p:=nomatch h
theorem nL' {α:Type _}{a:α}{l:List α}{p:Prop}(h:a::l=[]):p:=nomatch h
theorem cI1 {α:Type _}{a b:α}{l m:List α}(h:a::l=b::m):a=b:=(List.cons.inj h).1
theorem cI2 {α:Type _}{a b:α}{l m:List α}(h:a::l=b::m):l=m:=(List.cons.inj h).2
theorem pI1 {α β:Type _}{a b:α}{l m:β}(h:(a,l)=(b,m)):a=b:=congrArg Prod.fst h
theorem pI2 {α β:Type _}{a b:α}{l m:β}(h:(a,l)=(b,m)):l=m:=congrArg Prod.snd h
theorem sI {α:Type _}{a b:α}(h:some a=some b):a=b:=Option.some.inj h
theorem bE {α β:Type _}{o:Option α}{f:α→Option β}{r:β}{P:Prop}(h:o.bind f=some r)(k:∀a,o=some a→f a=some r→P):P:=(Option.bind_eq_some_iff.mp h).elim fun a h=>k a h.1 h.2
theorem mE {α β:Type _}{o:Option α}{f:α→β}{r:β}{P:Prop}(h:o.map f=some r)(k:∀a,o=some a→f a=r→P):P:=(Option.map_eq_some_iff.mp h).elim fun a h=>k a h.1 h.2
theorem iE {α:Type _}{c:Prop}[Decidable c] {x:Option α}{r:α}{P:Prop}(h:(if c then x else none)=some r)(k:c→x=some r→P):P:=by
 by_cases e:c
 ·rw[if_pos e] at h;exact k e h
 ·rw[if_neg e] at h;exact nS h
theorem iteE {α:Type _}{c:Prop}[Decidable c] {x y r:α}{P:Prop}(h:(if c then x else y)=r)(k:c→x=r→P)(k':¬c→y=r→P):P:=by
 by_cases e:c
 ·rw[if_pos e] at h;exact k e h
 ·rw[if_neg e] at h;exact k' e h
theorem nMem {α:Type _}{P:α→Prop}:∀x∈([]:List α),P x:=fun _ h=>(List.not_mem_nil h).elim
theorem ob2 {α β γ:Type _}{a:Option α}{x:α}{b:Option β}{y:β}{f:α→β→γ}(h:a=some x)(k:b=some y):(a.bind fun x=>b.map (f x))=some (f x y):=h▸k▸rfl
theorem ob1 {α β:Type _}{a:Option α}{x:α}{f:α→Option β}{r:Option β}(h:a=some x)(k:f x=r):a.bind f=r:=h▸k
theorem an2 {A B G:Prop}(h:A∧B)(k:A→B→G):G:=k h.1 h.2
theorem an3 {A B C G:Prop}(h:A∧B∧C)(k:A→B→C→G):G:=k h.1 h.2.1 h.2.2
theorem an4 {A B C D G:Prop}(h:A∧B∧C∧D)(k:A→B→C→D→G):G:=k h.1 h.2.1 h.2.2.1 h.2.2.2
theorem an5 {A B C D E G:Prop}(h:A∧B∧C∧D∧E)(k:A→B→C→D→E→G):G:=k h.1 h.2.1 h.2.2.1 h.2.2.2.1 h.2.2.2.2
theorem an6 {A B C D E F G:Prop}(h:A∧B∧C∧D∧E∧F)(k:A→B→C→D→E→F→G):G:=k h.1 h.2.1 h.2.2.1 h.2.2.2.1 h.2.2.2.2.1 h.2.2.2.2.2
theorem x11 {α:Sort _}{A:α→Prop}{G:Prop}(h:∃x,A x)(k:∀x,A x→G):G:=h.elim fun x h=>k x h
theorem x12 {α:Sort _}{A B:α→Prop}{G:Prop}(h:∃x,A x∧B x)(k:∀x,A x→B x→G):G:=h.elim fun x h=>k x h.1 h.2
theorem x13 {α:Sort _}{A B C:α→Prop}{G:Prop}(h:∃x,A x∧B x∧C x)(k:∀x,A x→B x→C x→G):G:=h.elim fun x h=>k x h.1 h.2.1 h.2.2
theorem x14 {α:Sort _}{A B C D:α→Prop}{G:Prop}(h:∃x,A x∧B x∧C x∧D x)(k:∀x,A x→B x→C x→D x→G):G:=h.elim fun x h=>k x h.1 h.2.1 h.2.2.1 h.2.2.2
theorem x16 {α:Sort _}{A B C D E F:α→Prop}{G:Prop}(h:∃x,A x∧B x∧C x∧D x∧E x∧F x)(k:∀x,A x→B x→C x→D x→E x→F x→G):G:=h.elim fun x h=>k x h.1 h.2.1 h.2.2.1 h.2.2.2.1 h.2.2.2.2.1 h.2.2.2.2.2
theorem x21 {α β:Sort _}{A:α→β→Prop}{G:Prop}(h:∃x y,A x y)(k:∀x y,A x y→G):G:=h.elim fun x h=>h.elim fun y h=>k x y h
theorem x22 {α β:Sort _}{A B:α→β→Prop}{G:Prop}(h:∃x y,A x y∧B x y)(k:∀x y,A x y→B x y→G):G:=h.elim fun x h=>h.elim fun y h=>k x y h.1 h.2
theorem x23 {α β:Sort _}{A B C:α→β→Prop}{G:Prop}(h:∃x y,A x y∧B x y∧C x y)(k:∀x y,A x y→B x y→C x y→G):G:=h.elim fun x h=>h.elim fun y h=>k x y h.1 h.2.1 h.2.2
theorem x24 {α β:Sort _}{A B C D:α→β→Prop}{G:Prop}(h:∃x y,A x y∧B x y∧C x y∧D x y)(k:∀x y,A x y→B x y→C x y→D x y→G):G:=h.elim fun x h=>h.elim fun y h=>k x y h.1 h.2.1 h.2.2.1 h.2.2.2
theorem x25 {α β:Sort _}{A B C D E:α→β→Prop}{G:Prop}(h:∃x y,A x y∧B x y∧C x y∧D x y∧E x y)(k:∀x y,A x y→B x y→C x y→D x y→E x y→G):G:=h.elim fun x h=>h.elim fun y h=>k x y h.1 h.2.1 h.2.2.1 h.2.2.2.1 h.2.2.2.2
theorem x26 {α β:Sort _}{A B C D E F:α→β→Prop}{G:Prop}(h:∃x y,A x y∧B x y∧C x y∧D x y∧E x y∧F x y)(k:∀x y,A x y→B x y→C x y→D x y→E x y→F x y→G):G:=h.elim fun x h=>h.elim fun y h=>k x y h.1 h.2.1 h.2.2.1 h.2.2.2.1 h.2.2.2.2.1 h.2.2.2.2.2
theorem x31 {α β γ:Sort _}{A:α→β→γ→Prop}{G:Prop}(h:∃x y z,A x y z)(k:∀x y z,A x y z→G):G:=h.elim fun x h=>h.elim fun y h=>h.elim fun z h=>k x y z h
theorem x32 {α β γ:Sort _}{A B:α→β→γ→Prop}{G:Prop}(h:∃x y z,A x y z∧B x y z)(k:∀x y z,A x y z→B x y z→G):G:=h.elim fun x h=>h.elim fun y h=>h.elim fun z h=>k x y z h.1 h.2
theorem x33 {α β γ:Sort _}{A B C:α→β→γ→Prop}{G:Prop}(h:∃x y z,A x y z∧B x y z∧C x y z)(k:∀x y z,A x y z→B x y z→C x y z→G):G:=h.elim fun x h=>h.elim fun y h=>h.elim fun z h=>k x y z h.1 h.2.1 h.2.2
theorem x34 {α β γ:Sort _}{A B C D:α→β→γ→Prop}{G:Prop}(h:∃x y z,A x y z∧B x y z∧C x y z∧D x y z)(k:∀x y z,A x y z→B x y z→C x y z→D x y z→G):G:=h.elim fun x h=>h.elim fun y h=>h.elim fun z h=>k x y z h.1 h.2.1 h.2.2.1 h.2.2.2
theorem x35 {α β γ:Sort _}{A B C D E:α→β→γ→Prop}{G:Prop}(h:∃x y z,A x y z∧B x y z∧C x y z∧D x y z∧E x y z)(k:∀x y z,A x y z→B x y z→C x y z→D x y z→E x y z→G):G:=h.elim fun x h=>h.elim fun y h=>h.elim fun z h=>k x y z h.1 h.2.1 h.2.2.1 h.2.2.2.1 h.2.2.2.2
theorem x36 {α β γ:Sort _}{A B C D E F:α→β→γ→Prop}{G:Prop}(h:∃x y z,A x y z∧B x y z∧C x y z∧D x y z∧E x y z∧F x y z)(k:∀x y z,A x y z→B x y z→C x y z→D x y z→E x y z→F x y z→G):G:=h.elim fun x h=>h.elim fun y h=>h.elim fun z h=>k x y z h.1 h.2.1 h.2.2.1 h.2.2.2.1 h.2.2.2.2.1 h.2.2.2.2.2
theorem x41 {α β γ δ:Sort _}{A:α→β→γ→δ→Prop}{G:Prop}(h:∃x y z w,A x y z w)(k:∀x y z w,A x y z w→G):G:=h.elim fun x h=>h.elim fun y h=>h.elim fun z h=>h.elim fun u h=>k x y z u h
theorem x43 {α β γ δ:Sort _}{A B C:α→β→γ→δ→Prop}{G:Prop}(h:∃x y z w,A x y z w∧B x y z w∧C x y z w)(k:∀x y z w,A x y z w→B x y z w→C x y z w→G):G:=h.elim fun x h=>h.elim fun y h=>h.elim fun z h=>h.elim fun u h=>k x y z u h.1 h.2.1 h.2.2
theorem x44 {α β γ δ:Sort _}{A B C D:α→β→γ→δ→Prop}{G:Prop}(h:∃x y z w,A x y z w∧B x y z w∧C x y z w∧D x y z w)(k:∀x y z w,A x y z w→B x y z w→C x y z w→D x y z w→G):G:=h.elim fun x h=>h.elim fun y h=>h.elim fun z h=>h.elim fun u h=>k x y z u h.1 h.2.1 h.2.2.1 h.2.2.2
theorem x46 {α β γ δ:Sort _}{A B C D E F:α→β→γ→δ→Prop}{G:Prop}(h:∃x y z w,A x y z w∧B x y z w∧C x y z w∧D x y z w∧E x y z w∧F x y z w)(k:∀x y z w,A x y z w→B x y z w→C x y z w→D x y z w→E x y z w→F x y z w→G):G:=h.elim fun x h=>h.elim fun y h=>h.elim fun z h=>h.elim fun u h=>k x y z u h.1 h.2.1 h.2.2.1 h.2.2.2.1 h.2.2.2.2.1 h.2.2.2.2.2
inductive V where
 |none
 |bool (b:Bool)
 |int (i:Int)
 |str (s:Str)
 |tup (l:List V)
 |ref (a:Addr)
 |ty (n:String)
 |bi (id:String)
mutual
inductive RV (h:Heap):Value→V→Prop where
 |none:RV h .none .none
 |bool (b:Bool):RV h (.bool b) (.bool b)
 |int (i:Int) (t:Tok):RV h (.int i t) (.int i)
 |str (s:Str) (t:Tok):RV h (.str s t) (.str s)
 |tup {a:Addr} {vs:List Value} {l:List V} {n:Nat} (ht:h.get? a=some ⟨.type "tuple",none,.seq vs.toArray n,#[]⟩) (r:RVs h vs l):RV h (.ref a) (.tup l)
 |ref (a:Addr):RV h (.ref a) (.ref a)
 |ty (n:String):RV h (.type n) (.ty n)
 |bi (id:String):RV h (.builtin id) (.bi id)
inductive RVs (h:Heap):List Value→List V→Prop where
 |nil:RVs h [] []
 |cons {v:Value} {x:V} {vs:List Value} {l:List V} (hv:RV h v x) (hr:RVs h vs l):RVs h (v::vs) (x::l)
end
inductive AO where
 |list (l:List V)
 |dict (es:List (Str×V))
 |inst (C d:Addr)
 |attrs (l:List (Str×V))
 |rng (n:Nat)
 |frz (o:Obj) (es:List (Str×V))
noncomputable abbrev Sto:=Addr→Option AO
noncomputable def Sto.put (σ:Sto) (a:Addr) (o:AO):Sto:=fun b=>if b=a then some o else σ b
inductive RVKs (h:Heap):List (Str×Value)→List (Str×V)→Prop where
 |nil:RVKs h [] []
 |cons {k:Str} {v:Value} {x:V} {vs:List (Str×Value)} {l:List (Str×V)} (hv:RV h v x) (hr:RVKs h vs l):RVKs h ((k,v)::vs) ((k,x)::l)
noncomputable def OR (h:Heap):Option Value→Option V→Prop
 |none,none=>True
 |some v,some x=>RV h v x
 |_,_=>False
abbrev pw:Program:=PySem.Challenge.pw_pq0712_01
noncomputable def IsAttrs (h:Heap) (a:Addr) (l:List (Str×V)):Prop:=
 ∃es ep,h.get? a=some ⟨.type "dict",none,.dict es ep,#[]⟩∧StrKeys es∧es.size≤l.length∧∀x,OR h (nsFind es x) (l.lookup x)
noncomputable def IsTupO (o:Obj):Prop:=o.cls= .type "tuple"∧∃vs n,o.data= .seq vs n
theorem RV.mono {h h':Heap}(k:∀b o,h.get? b=some o→IsTupO o→h'.get? b=some o){v:Value}{x:V}(r:RV h v x):RV h' v x:=
 RV.rec (motive_1:=fun v x _=>RV h' v x) (motive_2:=fun vs l _=>RVs h' vs l) .none .bool .int .str (fun e _ r=> .tup (k _ _ e ⟨rfl,_,_,rfl⟩) r) .ref .ty .bi .nil (fun _ _ a r=> .cons a r) r
theorem RVs.ind {h:Heap}{P:List Value→List V→Prop}(n:P [] [])(c:∀{v x vs l},RV h v x→RVs h vs l→P vs l→P (v::vs) (x::l)){vs:List Value}{l:List V}(r:RVs h vs l):P vs l:=
 RVs.rec (motive_1:=fun _ _ _=>True) (motive_2:=fun vs l _=>P vs l) trivial (fun _=>trivial) (fun _ _=>trivial) (fun _ _=>trivial) (fun _ _ _=>trivial) (fun _=>trivial) (fun _=>trivial) (fun _=>trivial) n (fun a r _ ih=>c a r ih) r
theorem RVs.mono {h h':Heap}(k:∀b o,h.get? b=some o→IsTupO o→h'.get? b=some o){vs:List Value}{l:List V}(r:RVs h vs l):RVs h' vs l:=r.ind (P:=RVs h') .nil fun a _ r=> .cons (a.mono k) r
theorem RV.ref_inv {h:Heap}{v:Value}{a:Addr}(r:RV h v (.ref a)):v= .ref a:=by cases r;rfl
theorem RV.int_inv {h:Heap}{v:Value}{i:Int}(r:RV h v (.int i)):∃t,v= .int i t:=by cases r;exact⟨_,rfl⟩
theorem RV.str_inv {h:Heap}{v:Value}{s:Str}(r:RV h v (.str s)):∃t,v= .str s t:=by cases r;exact⟨_,rfl⟩
theorem RV.bool_inv {h:Heap}{v:Value}{b:Bool}(r:RV h v (.bool b)):v= .bool b:=by cases r;rfl
theorem RV.none_inv {h:Heap}{v:Value}(r:RV h v .none):v= .none:=by cases r;rfl
theorem RV.ty_inv {h:Heap}{v:Value}{n:String}(r:RV h v (.ty n)):v= .type n:=by cases r;rfl
theorem RV.bi_inv {h:Heap}{v:Value}{n:String}(r:RV h v (.bi n)):v= .builtin n:=by cases r;rfl
theorem RV.tup_inv {h:Heap}{v:Value}{l:List V}(r:RV h v (.tup l)):∃(a:Addr) (vs:List Value) (n:Nat),v= .ref a∧h.get? a=some ⟨.type "tuple",Option.none,.seq vs.toArray n,#[]⟩∧RVs h vs l:=by cases r with|tup e r=>exact⟨_,_,_,rfl,e,r⟩
theorem RVs.nil_inv {h:Heap}{vs:List Value}(r:RVs h vs []):vs=[]:=by cases r;rfl
theorem RVs.cons_inv {h:Heap}{vs:List Value}{x:V}{l:List V}(r:RVs h vs (x::l)):∃v ws,vs=v::ws∧RV h v x∧RVs h ws l:=by cases r with|cons a r=>exact⟨_,_,rfl,a,r⟩
@[elab_as_elim] theorem RVs.consE {h:Heap} {x:V} {l:List V} {P:List Value→Prop} {vs:List Value} (r:RVs h vs (x::l)) (k:∀v ws,RV h v x→RVs h ws l→P (v::ws)):P vs:=by cases r with|cons a r=>exact k _ _ a r
theorem RVKs.mono {h h':Heap}(k:∀b o,h.get? b=some o→IsTupO o→h'.get? b=some o){vs:List (Str×Value)}{l:List (Str×V)}(r:RVKs h vs l):RVKs h' vs l:=by
 induction r with
 |nil=>exact .nil
 |cons a _ ih=>exact .cons (a.mono k) ih
theorem OR.mono {h h':Heap}(k:∀b o,h.get? b=some o→IsTupO o→h'.get? b=some o):∀{v:Option Value} {x:Option V},OR h v x→OR h' v x
 |none,none,_=>trivial
 |some _,some _,r=>RV.mono k r
theorem RVs.length {h:Heap}{vs:List Value}{l:List V}(r:RVs h vs l):vs.length=l.length:=r.ind (P:=fun vs l=>vs.length=l.length) rfl fun _ _ ih=>congrArg (·+1) ih
theorem RVs.get {h:Heap}{vs:List Value}{l:List V}(r:RVs h vs l):∀{i:Nat} {x:V},l[i]? =some x→∃v,vs[i]? =some v∧RV h v x:=
 r.ind (P:=fun vs l=>∀{i:Nat} {x:V},l[i]? =some x→∃v,vs[i]? =some v∧RV h v x) (fun e=>nomatch e) fun a _ ih i x e=>match i,e with
  |0,e=>⟨_,rfl,Option.some.inj e▸a⟩
  |_+1,e=>ih e
theorem RVs.append {h:Heap}{vs vs':List Value}{l l':List V}(r:RVs h vs l)(y:RVs h vs' l'):RVs h (vs++vs') (l++l'):=r.ind (P:=fun vs l=>RVs h (vs++vs') (l++l')) y fun a _ ih=> .cons a ih
theorem RVs.reverse {h:Heap}{vs:List Value}{l:List V}(r:RVs h vs l):RVs h vs.reverse l.reverse:=
 r.ind (P:=fun vs l=>RVs h vs.reverse l.reverse) .nil fun a _ ih=>by rw[List.reverse_cons,List.reverse_cons];exact ih.append (.cons a .nil)
theorem RVs.drop {h:Heap}{vs:List Value}{l:List V}(r:RVs h vs l):∀n,RVs h (vs.drop n) (l.drop n):=
 r.ind (P:=fun vs l=>∀n,RVs h (vs.drop n) (l.drop n)) (fun n=>by induction n using Nat.casesAuxOn<;>exact .nil) fun a r ih n=>by
  induction n using Nat.casesAuxOn with
  |zero=>exact .cons a r
  |succ n=>exact ih n
theorem RVKs.length {h:Heap}{vs:List (Str×Value)}{l:List (Str×V)}(r:RVKs h vs l):vs.length=l.length:=by
 induction r with
 |nil=>rfl
 |cons _ _ ih=>exact congrArg (·+1) ih
noncomputable abbrev Nms:=List (Str×NameKind)
noncomputable def nthS:List Stmt→Nat→Stmt
 | [],_=> .Pass default
 |s::_,0=>s
 |_::l,n+1=>nthS l n
structure St3 where
 b:List Stmt
 n:Nms
 p:Arguments
 t:Expr
 e:List Stmt
noncomputable def st3:Stmt→St3
 | .FunctionDef _ p b _ _ _ s _ _ _=>⟨b,s.names,p,.Constant .none 0 default,[]⟩
 | .ClassDef _ _ _ b _ _ _ _ _ _ _=>⟨b,[],default,.Constant .none 0 default,[]⟩
 | .For _ _ b _ _=>⟨b,[],default,.Constant .none 0 default,[]⟩
 | .While t b _ _=>⟨b,[],default,t,[]⟩
 | .If t b e _=>⟨b,[],default,t,e⟩
 | .Expr t _=>⟨[],[],default,t,[]⟩
 |_=>⟨[],[],default,.Constant .none 0 default,[]⟩
noncomputable abbrev aI (s:Stmt):List Stmt:=(st3 s).b
noncomputable abbrev aH (s:Stmt):Nms:=(st3 s).n
noncomputable abbrev stPar (s:Stmt):Arguments:=(st3 s).p
noncomputable abbrev stTest (s:Stmt):Expr:=(st3 s).t
noncomputable abbrev stElse (s:Stmt):List Stmt:=(st3 s).e
noncomputable def exArgs (s:Stmt):List Expr:=match (st3 s).t with
 | .Call _ a _ _=>a
 |_=> []
noncomputable def defAt (i:Nat):Stmt:=nthS pw.main.body i
noncomputable def aJ (i j:Nat):Stmt:=nthS (aI (defAt i)) j
noncomputable def seqD:Data→Option (Array Value×Nat)
 | .seq vs n=>some (vs,n)
 |_=>none
noncomputable def fncD:Data→Option FuncData
 | .func f=>some f
 |_=>none
noncomputable def stmD:FuncBody→Option (List Stmt)
 | .stmts b=>some b
 | .expr _=>none
noncomputable def rdVs (f:Value→Option V):List Value→Option (List V)
 | []=>some []
 |v::vs=>(f v).bind fun x=>(rdVs f vs).map (x:: ·)
noncomputable def rdO (f:Value→Option V) (a:Addr) (o:Obj):Option V:=match decide (o.cls= .type "tuple") with
 |true=>match o.dict.isNone&&decide (o.slots= #[]) with
  |true=>(seqD o.data).bind fun p=>(rdVs f p.1.toList).map .tup
  |false=>none
 |false=>some (.ref a)
noncomputable def rdV (h:Heap):Nat→Value→Option V
 |0,_=>none
 |n+1,v=>match v with
  | .none=>some .none
  | .bool b=>some (.bool b)
  | .int i _=>some (.int i)
  | .str s _=>some (.str s)
  | .type n=>some (.ty n)
  | .builtin i=>some (.bi i)
  | .ref a=>(h.get? a).bind (rdO (rdV h n) a)
  |_=>none
noncomputable def gvD (h:Heap) (x:Str):Option V:=(h.nsMap mainGlobals x).bind (rdV h 9)
noncomputable def bvD (h:Heap) (x:Str):Option V:=match h.nsMap mainGlobals x with
 |some _=>none
 |none=>(h.nsMap builtinsNs x).bind (rdV h 9)
structure FD where
 ok:Bool
 body:List Stmt
 names:Nms
 par:Arguments
 dfl:Option (List V)
noncomputable def dflD (h:Heap) (v:Value):Option (Option (List V)):=match v with
 | .none=>some none
 | .ref T=>(h.get? T).bind fun o=>(seqD o.data).bind fun p=>(rdVs (rdV h 9) p.1.toList).map some
 |_=>none
noncomputable def fnT (h:Heap) (fd:FuncData):Bool:=decide (fd.scope.kind= .function)&&(!fd.scope.isCoroutine&&(!fd.scope.isGenerator&&(fd.closure.isEmpty&&(fd.globals==mainGlobals&&(fd.builtins==builtinsNs&&h.codeRecOk fd.code fd.qualname)))))
noncomputable def fnD (h:Heap) (a:Addr):Option FD:=(h.get? a).bind fun o=>(fncD o.data).bind fun fd=>(stmD fd.body).bind fun b=>(dflD h fd.defaults).map fun dv=>⟨fnT h fd,b,fd.scope.names,fd.params,dv⟩
noncomputable def kOf (h:Heap):List Addr→Frag
 | []=> []
 |a::as=>match h.get? a with
  |some o=>(a,o)::kOf h as
  |none=>kOf h as
noncomputable abbrev gT (x:Str) (v:V):Str×V:=(x,v)
noncomputable abbrev fT (a:Addr) (s:Stmt) (d:Option (List V)):Addr×Stmt×Option (List V):=(a,s,d)
noncomputable abbrev iT (a:Addr) (x:Str) (v:Option Value):Addr×Str×Option Value:=(a,x,v)
noncomputable def fnTab:List (Addr×Stmt×Option (List V)):=[fT 33 (defAt 4) (some [.tup []]),fT 41 (defAt 5) (some [.none]),fT 48 (defAt 6) none,fT 55 (defAt 7) none,fT 62 (defAt 8) none,fT 67 (defAt 9) none,fT 72 (defAt 10) none,fT 79 (defAt 11) none,fT 91 (defAt 13) none,fT 105 (aJ 16 0) none,fT 112 (aJ 16 1) none,fT 119 (aJ 16 2) none,fT 126 (aJ 16 3) none,fT 133 (aJ 16 4) none,fT 155 (aJ 17 0) (some [.none,.int 0]),fT 162 (aJ 17 1) none,fT 169 (aJ 17 2) none,fT 176 (aJ 17 3) none,fT 183 (aJ 17 4) none,fT 190 (aJ 17 5) none,fT 197 (aJ 17 6) none,fT 204 (aJ 17 7) none,fT 216 (defAt 18) none,fT 223 (defAt 19) none,fT 230 (defAt 20) none,fT 235 (defAt 21) none,fT 240 (defAt 22) none,fT 245 (defAt 23) none,fT 252 (defAt 24) none,fT 270 (aJ 28 0) none,fT 277 (aJ 28 1) none,fT 284 (aJ 28 2) none,fT 291 (aJ 28 3) none,fT 298 (aJ 28 4) none,fT 303 (aJ 28 5) none,fT 308 (aJ 28 6) none,fT 313 (aJ 28 7) none,fT 318 (aJ 28 8) none,fT 325 (aJ 28 9) none,fT 330 (aJ 28 10) none,fT 337 (aJ 28 11) none,fT 342 (aJ 28 12) none,fT 356 (defAt 29) none,fT 363 (defAt 30) none,fT 370 (defAt 31) none,fT 375 (defAt 32) none,fT 383 (defAt 33) (some [.int 4000]),fT 389 (defAt 34) (some [.int 4000]),fT 394 (defAt 35) none,fT 448 (aJ 45 0) (some [.bool false,.tup []]),fT 453 (aJ 45 1) none,fT 486 (aJ 46 0) none,fT 491 (aJ 46 1) none,fT 505 (aJ 46 3) none,fT 512 (aJ 46 4) none,fT 519 (aJ 46 5) none,fT 552 (aJ 46 10) none,fT 567 (defAt 47) (some [.bool false]),fT 574 (defAt 48) none,fT 581 (defAt 49) none,fT 588 (defAt 50) none,fT 595 (defAt 52) none,fT 602 (defAt 53) none,fT 609 (defAt 54) none,fT 616 (defAt 55) none,fT 623 (defAt 56) none,fT 628 (defAt 57) none,fT 635 (defAt 58) none,fT 642 (defAt 59) none,fT 647 (defAt 60) none,fT 652 (defAt 61) none,fT 657 (defAt 62) none,fT 662 (defAt 63) none,fT 669 (defAt 64) none,fT 676 (defAt 65) none,fT 681 (defAt 66) none]
noncomputable def gTab:List (Str×V):=[gT "ANY" (.tup [.str "name",.str "Any",.tup []]),gT "BOTTOM" (.tup [.str "bottom"]),gT "named" (.ref 33),gT "tuple_of" (.ref 41),gT "union_of" (.ref 48),gT "parts_of_kind" (.ref 55),gT "rebuilt_kind" (.ref 62),gT "substituted" (.ref 67),gT "free_vars" (.ref 72),gT "closed" (.ref 79),gT "kind_text" (.ref 91),gT "MOST_CASES" (.int 64),gT "Side" (.ref 136),gT "Sides" (.ref 207),gT "occurrences" (.ref 216),gT "bound_occurrences" (.ref 223),gT "is_diagonal" (.ref 230),gT "left_cases" (.ref 235),gT "tuple_cases" (.ref 240),gT "is_empty" (.ref 245),gT "tail_of" (.ref 252),gT "TYPE" (.tup [.str "name",.str "Type",.tup []]),gT "FUNCTION" (.tup [.str "name",.str "Function",.tup []]),gT "Search" (.ref 345),gT "narrowed" (.ref 356),gT "widened" (.ref 363),gT "has_within" (.ref 370),gT "tuple_ways" (.ref 375),gT "is_subtype" (.ref 383),gT "matched" (.ref 389),gT "told_param" (.ref 394),gT "SIGNED" (.tup [.str "Int8",.str "Int16",.str "Int32",.str "Int64",.str "BigInt"]),gT "UNSIGNED" (.tup [.str "UInt8",.str "UInt16",.str "UInt32",.str "UInt64"]),gT "PLAIN_ERRORS" (.tup [.str "DivideError",.str "InexactError",.str "TypeError",.str "StackOverflowError"]),gT "TEXT_ERRORS" (.tup [.str "ArgumentError",.str "OverflowError",.str "DimensionMismatch",.str "ErrorException"]),gT "CALL_ERRORS" (.tup [.str "MethodError",.str "AmbiguousError"]),gT "Decl" (.ref 468),gT "Kinds" (.ref 555),gT "nominal" (.ref 567),gT "start_kinds" (.ref 574),gT "start_errors" (.ref 581),gT "start_rows" (.ref 588),gT "_law_cask" (.ref 595),gT "_law_pour" (.ref 602),gT "_law_name" (.ref 609),gT "_law_list_of" (.ref 616),gT "_law_part" (.ref 623),gT "_law_sig" (.ref 628),gT "_law_low" (.ref 635),gT "_law_made" (.ref 642),gT "_law_told_right" (.ref 647),gT "_law_none_right" (.ref 652),gT "_law_count" (.ref 657),gT "_law_is_within" (.ref 662),gT "_law_are_concrete" (.ref 669),gT "_law_fixed_right" (.ref 676),gT "law" (.ref 681)]
noncomputable def bTab:List (Str×V):=[gT "tuple" (.ty "tuple"),gT "list" (.ty "list"),gT "dict" (.ty "dict"),gT "str" (.ty "str"),gT "int" (.ty "int"),gT "range" (.ty "range"),gT "zip" (.ty "zip"),gT "len" (.bi "len"),gT "sorted" (.bi "sorted"),gT "sum" (.bi "sum"),gT "max" (.bi "max"),gT "min" (.bi "min")]
noncomputable def kTab:List Addr:=[136,135,105,112,119,207,206,155,162,169,176,183,190,197,204,345,344,270,277,284,291,303,308,313,318,325,330,337,342,468,467,448,453,555,554,486,491,505,512,519,552]
noncomputable def clTab:List Addr:=[136,207,345,468,555]
noncomputable def fiTab:List (Addr×Str×Option Value):=[iT 136 "__init__" (some (.ref 105)),iT 136 "__getattribute__" (some (.builtin "object.__getattribute__")),iT 136 "__getattr__" none,iT 136 "__setattr__" (some (.builtin "object.__setattr__")),iT 136 "with_lower" (some (.ref 112)),iT 136 "with_upper" (some (.ref 119)),iT 136 "is_asked" none,iT 136 "order" none,iT 136 "lowers" none,iT 136 "uppers" none,iT 136 "is_diagonal" none,iT 207 "__init__" (some (.ref 155)),iT 207 "__getattribute__" (some (.builtin "object.__getattribute__")),iT 207 "__getattr__" none,iT 207 "__setattr__" (some (.builtin "object.__setattr__")),iT 207 "copied" (some (.ref 162)),iT 207 "opened" (some (.ref 169)),iT 207 "side" (some (.ref 176)),iT 207 "is_asked" (some (.ref 183)),iT 207 "add_lower" (some (.ref 190)),iT 207 "add_upper" (some (.ref 197)),iT 207 "later_ones" (some (.ref 204)),iT 207 "rows" none,iT 207 "many" none,iT 345 "__init__" (some (.ref 270)),iT 345 "__getattribute__" (some (.builtin "object.__getattribute__")),iT 345 "__getattr__" none,iT 345 "__setattr__" (some (.builtin "object.__setattr__")),iT 345 "run" (some (.ref 277)),iT 345 "settled" (some (.ref 284)),iT 345 "step" (some (.ref 291)),iT 345 "below" (some (.ref 303)),iT 345 "above" (some (.ref 308)),iT 345 "by_form" (some (.ref 313)),iT 345 "chosen" (some (.ref 318)),iT 345 "plain" (some (.ref 325)),iT 345 "nominal" (some (.ref 330)),iT 345 "are_concrete" (some (.ref 337)),iT 345 "is_one" (some (.ref 342)),iT 345 "kinds" none,iT 345 "fuel" none,iT 468 "__init__" (some (.ref 448)),iT 468 "__getattribute__" (some (.builtin "object.__getattribute__")),iT 468 "__getattr__" none,iT 468 "__setattr__" (some (.builtin "object.__setattr__")),iT 468 "table_for" (some (.ref 453)),iT 468 "name" none,iT 468 "params" none,iT 468 "super" none,iT 468 "is_abstract" none,iT 468 "is_mutable" none,iT 468 "fields" none,iT 555 "__init__" (some (.ref 486)),iT 555 "__getattribute__" (some (.builtin "object.__getattribute__")),iT 555 "__getattr__" none,iT 555 "__setattr__" (some (.builtin "object.__setattr__")),iT 555 "declare" (some (.ref 491)),iT 555 "decl" (some (.ref 505)),iT 555 "super_of" (some (.ref 512)),iT 555 "supers" (some (.ref 519)),iT 555 "is_concrete" (some (.ref 552)),iT 555 "decls" none]
noncomputable def tyTab:List Addr:=[105,112,119,155,162,169,176,183,190,197,204,270,277,284,291,303,308,313,318,325,330,337,342,448,453,486,491,505,512,519,552]
noncomputable def glb (x:Str):Option V:=match gTab.lookup x with
 |some v=>some v
 |none=>bTab.lookup x
noncomputable def clsB (K:Frag) (C:Addr):Bool:=makesIn K C&&(plainOver K C&&(clsIn K C).any (·.hasDict))
noncomputable def okAll (h:Heap):Bool:=h.isNs mainGlobals&&(h.isNs builtinsNs&&(h.noLimitOk&&((h.get? sysModules).isSome&&clTab.all (clsB (kOf h kTab)))))
noncomputable def datOf (h:Heap):=(okAll h,fnTab.map (fun t=>fnD h t.1),gTab.map (fun t=>gvD h t.1),bTab.map (fun t=>bvD h t.1),fiTab.map (fun t=>findIn (kOf h kTab) (.ref t.1) t.2.1),tyTab.map (fun a=>typeIn (kOf h kTab) (.ref a)))
noncomputable def datA:=(true,fnTab.map (fun t=>some (FD.mk true (aI t.2.1) (aH t.2.1) (stPar t.2.1) t.2.2)),gTab.map (fun t=>some t.2),bTab.map (fun t=>some t.2),fiTab.map (fun t=>some t.2.2),tyTab.map (fun _=>some (Value.type "function")))
noncomputable def Bs (t:World×Heap×Heap):Prop:=datOf t.2.2=datA∧∀b o,t.2.2.get? b=some o→t.2.1.get? b=some o
noncomputable def Ask (t:World×Heap×Heap):Prop:=∀(s:Shared) (la:Addr) (vs:List Value) (is:List Int),s.heap=t.2.1→t.2.1.IsList la vs.toArray→RVs t.2.1 vs (is.map V.int)→
 wpAny (model pw t.1) callerA (PySem.call (.ref 681) [.ref la]) (fun v s'=>v= .bool true∧(∀b o,t.2.1.get? b=some o→s'.heap.get? b=some o)∧s'.os=s.os∧s'.gens=s.gens) (fun _ _=>False) s
noncomputable def Tp (t:World×Heap×Heap):Prop:=Bs t∧(Ask t→∀t',Bs t'→Ask t')
theorem Tp.ex {t:World×Heap×Heap}(h:Bs t):∃t,Tp t:=by
 by_cases q:∃t',Bs t'∧¬Ask t'
 ·exact q.elim fun t' q=>⟨t',q.1,fun a=>absurd a q.2⟩
 ·exact⟨t,h,fun _ t' b=>Classical.byContradiction fun n=>q ⟨t',b,n⟩⟩
noncomputable def tt:World×Heap×Heap:= @Classical.epsilon _ ⟨(aWorld 0,default,default)⟩ Tp
noncomputable def w:World:=tt.1
noncomputable def B:Heap:=tt.2.1
noncomputable def hh:Heap:=tt.2.2
noncomputable def κ:Frag:=kOf hh kTab
section
open PySem.W.Fast
noncomputable def topRunQ (p:Program) (w:World) (n₀:Nat) (ann:Option Value):Nat→SharedT→Thread→Option SharedT
 |0,_,_=>none
 |n+1,s,t=>cond (through t) (some s) (cond (tw6613529449190102663 n₀ ann t) ((tw10156331382660048174 (tw11892475500146522536 tw14364793385576792824) p w s t).bind fun r=>topRunQ p w n₀ ann n r.1 r.2) none)
theorem topRun_of {p:Program}{w:World}{n₀:Nat}{ann:Option Value}:∀{n:Nat} {s s':SharedT} {t:Thread},topRunQ p w n₀ ann n s t=some s'→topRun treeTable p w n₀ ann n s.abs t=some s'.abs
 |0,_,_,_,h=>by cases h
 |n+1,s,s',t,h=>by
  replace h:cond (through t) (some s) (cond (tw6613529449190102663 n₀ ann t) ((tw10156331382660048174 (tw11892475500146522536 tw14364793385576792824) p w s t).bind fun r=>topRunQ p w n₀ ann n r.1 r.2) none)=some s':=h
  unfold topRun
  rw[←te6613529449190102663,←te10156331382660048174,←te11892475500146522536,←te14364793385576792824] at h
  induction he:through t using Bool.casesOn with
  |true=>rw[he] at h;replace h:=sI h;subst h;rfl
  |false=>
   rw[he] at h
   induction hk:stepOk n₀ ann t using Bool.casesOn with
   |false=>rw[hk] at h;exact nS h
   |true=>
    rw[hk] at h
    refine bE h fun r hs h=> ?_
    rw[stepT_spec hs];exact topRun_of h
noncomputable def treeOf (l:List Obj):BT:=((l.foldl (fun(x:BT×Nat) o=>(x.1.ins x.2 o,x.2+1)) (BT.nil,0))).1
noncomputable def s0 (w:World) (os:OsState):SharedT:=⟨treeOf (boot_heap w.params).objs.toList,11,(boot_heap w.params).life,#[],boot_drawn,boot_toks,os⟩
theorem s0_heap:∀(w:World) (os:OsState),(s0 w os).abs.heap=boot_heap w.params:=fun w os=>by kernel_rfl
theorem s0_abs (w:World)(os:OsState):(s0 w os).abs=⟨boot_heap w.params,#[],boot_drawn,boot_toks,os⟩:=by
 rw[←s0_heap w os];rfl
theorem boot_size:∀P,(boot_heap P).objs.size=11:=fun P=>by kernel_rfl
theorem boot_ns:∀P,(boot_heap P).isNs mainGlobals=true:=fun P=>by kernel_rfl
theorem boot_ann:∀P,(boot_heap P).nsMap mainGlobals "__annotations__"=some (.ref 6):=fun P=>by kernel_rfl
theorem pw_opening:opening pw=plainProg pw.main.scope.names:=by kernel_rfl
theorem pw_fence:∀s,fenceModules? pw s=some s:=fun s=>by rfl
noncomputable def tailOk (p:Program) (h₀:Heap) (s₁:Shared):Bool:=staticsOk (importedModules p.main.body) h₀ s₁.heap&&namesBound p s₁.heap&&gensDone s₁&&laidKept h₀ s₁.heap
theorem topFrom_eq {tb:String→Option Builtin}{p:Program}{w:World}{N n₀:Nat}{ann:Option Value}{s s₁:Shared}(h1:s.heap.isNs mainGlobals=true)(h2:s.gens= #[])(h3:s.heap.objs.size=n₀)(h4:s.heap.nsMap mainGlobals "__annotations__"=ann)(h5:topRun tb p w n₀ ann N s (topStub p)=some s₁)(h6:tailOk p s.heap s₁=true):topFrom tb p w N s=some s₁:=by
 subst h3;subst h4
 unfold topFrom
 rw[h1,h2,h5]
 show(match tailOk p s.heap s₁ with|true=>some s₁|false=>none)=_
 rw[h6]
theorem left_of {q:Program}{loose:List Str}{Xt:Shared→Bool}{α:Type}{Yf:Shared→α}{Ya:World→α}
  (h:∀(w:World) (os:OsState),(topRunQ pw w 11 (some (.ref 6)) 100000 (s0 w os) (topStub pw)).map (fun s=>(tailOk pw (boot_heap w.params) s.abs,openSeen q loose (importedModules pw.main.body) Xt true s.abs,Yf s.abs))=some (true,openGood q loose,Ya w)):
  LeftO pw q loose Xt Yf Ya 100000:=fun w=>by
 have b:=boot_open (p:=pw) (N:=100000) pw_opening (by rfl) pw_fence w
 refine x12 (Option.map_eq_some_iff.mp b) fun s e hs=> ?_
 obtain⟨heap,gens,drawn,toks,os⟩:=s
 simp only[Prod.mk.injEq] at hs
 refine an4 hs fun z1 z2 z3 z4=> ?_;clear hs;subst z1;subst z2;subst z3;subst z4
 refine x12 (Option.map_eq_some_iff.mp (h w os)) fun s₁ e1 d=> ?_
 simp only[Prod.mk.injEq] at d
 refine an3 d fun d1 d2 d3=> ?_;clear d
 have r:=topRun_of e1
 rw[s0_abs] at r
 have g:openEnds treeTable pw w 100000=some s₁.abs:=by
  unfold openEnds
  rw[e,Option.bind_some]
  exact topFrom_eq (boot_ns _) rfl (boot_size _) (boot_ann _) r d1
 rw[g]
 show some (openSeen q loose (importedModules pw.main.body) Xt true s₁.abs,Yf s₁.abs)=_
 rw[d2,d3]
end
section
open PySem.W.Fast
noncomputable def qv:Program:={pw with main:={pw.main with body:=[nthS pw.main.body 66]}}
noncomputable def looseN:List Str:=["_wall","__name__","ANY","BOTTOM","named","tuple_of","union_of","parts_of_kind","rebuilt_kind","substituted","free_vars","closed","binder_text","kind_text","MOST_CASES","Side","Sides","occurrences","bound_occurrences","is_diagonal","left_cases","tuple_cases","is_empty","tail_of","TYPE","FUNCTION","Search","narrowed","widened","has_within","tuple_ways","is_subtype","matched","told_param","RowsError","KindFault","SIGNED","UNSIGNED","PLAIN_ERRORS","TEXT_ERRORS","CALL_ERRORS","Decl","Kinds","nominal","start_kinds","start_errors","start_rows","_law_cask","_law_pour","_law_name","_law_list_of","_law_part","_law_sig","_law_low","_law_made","_law_told_right","_law_none_right","_law_count","_law_is_within","_law_are_concrete","_law_fixed_right"].map (Str.ofString ·)
end
section
open PySem.W.Fast
theorem seen_top:∀(w:World) (os:OsState),(topRunQ pw w 11 (some (.ref 6)) 100000 (s0 w os) (topStub pw)).map (fun s=>(tailOk pw (boot_heap w.params) s.abs,openSeen qv looseN (importedModules pw.main.body) (fun s=>xlAt qv [] s&&recOk [] s) true s.abs,datOf s.abs.heap))=some (true,openGood qv looseN,datA):=fun w os=>by kernel_rfl
end
section
theorem ow:opensWell pw=true:=by decide +kernel
theorem rd_vars:readsOut pw pw.main.body "vars"=false:=by decide +kernel
theorem rd_dir:readsOut pw pw.main.body "dir"=false:=by decide +kernel
theorem rd_locals:readsOut pw pw.main.body "locals"=false:=by decide +kernel
theorem filt3 {p:Str→Bool}{a b c:Str}(x:p a=false)(y:p b=false)(z:p c=false): [a,b,c].filter p=[]:=
 (List.filter_cons_of_neg (ne_true_of_eq_false x)).trans ((List.filter_cons_of_neg (ne_true_of_eq_false y)).trans (List.filter_cons_of_neg (ne_true_of_eq_false z)))
theorem no_road:noRoadLSs {strict:= !(importedModules pw.main.body).all cThrough.contains,foot:=none,bare:=[]} pw.main.body=true:=by decide +kernel
theorem lo:looksOpen pw=true:=by
 delta looksOpen
 repeat' with_reducible apply look_both
 case x.y=>exact(congrArg (fun b=>noRoadLSs {strict:= !(importedModules pw.main.body).all cThrough.contains,foot:=none,bare:=b} pw.main.body) (filt3 rd_vars rd_dir rd_locals)).trans no_road
 iterate 2 kernel_rfl
 all_goals decide +kernel
theorem ws:PySem.Challenge.rw_pq0712_01.wellSaid=true:=by
 delta OpenLaw.wellSaid OpenRow.wellSaid OpenRow.partSaid
 repeat' with_reducible apply look_both
 exact lo
 iterate 16 kernel_rfl
 all_goals decide +kernel
end
noncomputable def RO (h:Heap) (a:Addr):AO→Prop
 | .list l=>∃vs:List Value,h.PlainList a vs.toArray∧RVs h vs l
 | .dict es=>(a==sysModules)=false∧∃kvs,h.DictOf (strKind pw w) a kvs∧RVKs h kvs es
 | .inst C d=>h.get? a=some (instObj C d)
 | .attrs l=>IsAttrs h a l
 | .rng n=>∃t u v,IsRange h a 0 (n:Int) 1 t u v
 | .frz o es=>h.get? a=some o∧(a==sysModules)=false∧∃kvs,o.IsDictOf (strKind pw w) kvs∧RVKs h kvs es
structure St (σ:Sto)(h:Heap):Prop where
 base:∀b o,B.get? b=some o→h.get? b=some o
 apart:∀b,σ b≠none→B.get? b=none
 obj:∀a o,σ a=some o→RO h a o
structure Aft (σ:Sto)(s:Shared)(σ':Sto)(s':Shared):Prop where
 keep:∀b o,s.heap.get? b=some o→σ b=none→s'.heap.get? b=some o
 dom:∀b,s.heap.get? b≠none→σ b=none→σ' b=none
 os:s'.os=s.os:=by rfl
 gens:s'.gens=s.gens:=by rfl
structure Sm (s s':Shared):Prop where
 os:s'.os=s.os
 gens:s'.gens=s.gens
structure Sh (s' s:Shared):Prop where
 heap:s'.heap=s.heap
 os:s'.os=s.os:=by rfl
 gens:s'.gens=s.gens:=by rfl
theorem Aft.sh {σ:Sto}{s s':Shared}(e:Sh s' s):Aft σ s σ s':=⟨fun b o x _=>by rw[e.heap];exact x,fun _ _ e=>e,e.os,e.gens⟩
theorem Aft.refl (σ:Sto)(s:Shared):Aft σ s σ s:=⟨fun _ _ e _=>e,fun _ _ e=>e,rfl,rfl⟩
theorem Aft.trans {σ σ₁ σ₂:Sto}{s s₁ s₂:Shared}(x:Aft σ s σ₁ s₁)(y:Aft σ₁ s₁ σ₂ s₂):Aft σ s σ₂ s₂:=by
 refine⟨fun b o e n=>y.keep b o (x.keep b o e n) (x.dom b (by rw[e];simp) n),fun b e n=> ?_,y.os.trans x.os,y.gens.trans x.gens⟩
 induction q:s.heap.get? b using Option.casesOn with
 |none=>exact absurd q e
 |some o=>exact y.dom b (by rw[x.keep b o q n];simp) (x.dom b e n)
section
variable {h h':Heap}{s s':Shared}{σ σ':Sto}{a b:Addr}{o:Obj}
theorem RO.noTup {ao:AO}(r:RO h a ao):∀{o:Obj},h.get? a=some o→o.cls≠ .type "tuple":=by
 intro o e
 induction ao using AO.casesOn with
 |list l=>refine x12 r fun vs z1 _=> ?_;clear r;refine x11 z1 fun n p=> ?_;clear z1;rw[p] at e;replace e:=sI e;subst e;simp
 |dict es=>refine an2 r fun _ z2=> ?_;clear r;refine x12 z2 fun kvs z1 _=> ?_;clear z2;refine x33 z1 ?_;clear z1;intro o' es' ep p z1 _;obtain⟨hc,_⟩:=z1;rw[p] at e;replace e:=sI e;subst e;rw[hc];simp
 |inst C d=>rw[r] at e;replace e:=sI e;subst e;simp
 |attrs l=>refine x22 r fun es ep p _=> ?_;clear r;rw[p] at e;replace e:=sI e;subst e;simp
 |rng n=>refine x31 r fun t u v p=> ?_;clear r;rw[show h.get? a=_ from p] at e;replace e:=sI e;subst e;simp
 |frz o' es=>refine an3 r fun p _ z3=> ?_;clear r;refine x12 z3 fun kvs z2 _=> ?_;clear z3;refine x22 z2 ?_;clear z2;intro es' ep z2 _;obtain⟨hc,_⟩:=z2;rw[p] at e;replace e:=sI e;subst e;rw[hc];simp
theorem RO.there {ao:AO}(r:RO h a ao):∃o,h.get? a=some o:=by
 induction ao using AO.casesOn with
 |list l=>refine x12 r fun vs z4 _=> ?_;clear r;refine x11 z4 fun n p=> ?_;clear z4;exact⟨_,p⟩
 |dict es=>refine an2 r fun _ z5=> ?_;clear r;refine x12 z5 fun kvs z3 _=> ?_;clear z5;refine x32 z3 fun o' es' ep p _=> ?_;clear z3;exact⟨_,p⟩
 |inst C d=>exact⟨_,r⟩
 |attrs l=>refine x22 r fun es ep p _=> ?_;clear r;exact⟨_,p⟩
 |rng n=>refine x31 r fun t u v p=> ?_;clear r;exact⟨_,p⟩
 |frz o' es=>exact⟨_,r.1⟩
theorem RO.mono {ao:AO}(r:RO h a ao)(k:∀b o,h.get? b=some o→IsTupO o→h'.get? b=some o)(ka:∀o,h.get? a=some o→h'.get? a=some o):RO h' a ao:=by
 induction ao using AO.casesOn with
 |list l=>refine x12 r ?_;clear r;intro vs z6 r;refine x11 z6 fun n p=> ?_;clear z6;exact⟨vs,⟨n,ka _ p⟩,r.mono k⟩
 |dict es=>refine an2 r fun hs z7=> ?_;clear r;refine x12 z7 fun kvs z4 r=> ?_;clear z7;refine x32 z4 fun o' es' ep p q=> ?_;clear z4;exact⟨hs,kvs,⟨o',es',ep,ka _ p,q⟩,r.mono k⟩
 |inst C d=>exact ka _ r
 |attrs l=>refine x24 r ?_;clear r;intro es ep p q z r;exact⟨es,ep,ka _ p,q,z,fun x=>(r x).mono k⟩
 |rng n=>refine x31 r fun t u v p=> ?_;clear r;exact⟨t,u,v,ka _ p⟩
 |frz o' es=>refine an3 r fun p lo z8=> ?_;clear r;refine x12 z8 fun kvs q r=> ?_;clear z8;exact⟨ka _ p,lo,kvs,q,r.mono k⟩
theorem St.live (S:St σ h){ao:AO}(e:σ a=some ao):∃o,h.get? a=some o:=(S.obj a ao e).there
theorem St.tup_free (S:St σ h)(e:h.get? a=some o)(hc:IsTupO o):σ a=none:=by
 induction q:σ a using Option.casesOn with
 |none=>rfl
 |some ao=>exact absurd hc.1 ((S.obj a ao q).noTup e)
theorem Aft.tups (S:St σ s.heap)(T:Aft σ s σ' s'):∀b o,s.heap.get? b=some o→IsTupO o→s'.heap.get? b=some o:=fun b o e hc=>T.keep b o e (S.tup_free e hc)
theorem Aft.rv (S:St σ s.heap)(T:Aft σ s σ' s'){v:Value}{x:V}(r:RV s.heap v x):RV s'.heap v x:=r.mono (T.tups S)
theorem Aft.rvs (S:St σ s.heap)(T:Aft σ s σ' s'){v:List Value}{x:List V}(r:RVs s.heap v x):RVs s'.heap v x:=r.mono (T.tups S)
theorem St.push (S:St σ h)(o:Obj):St σ (h.push o):=by
 refine⟨fun b o' e=>Heap.get?_push_of_some _ (S.base b o' e),S.apart,fun a ao e=>(S.obj a ao e).mono (fun b o' e _=>Heap.get?_push_of_some _ e) fun o' e=>Heap.get?_push_of_some _ e⟩
theorem Aft.push (σ:Sto)(s:Shared)(o:Obj):Aft σ s σ {s with heap:=s.heap.push o}:=⟨fun _ _ e _=>Heap.get?_push_of_some _ e,fun _ _ e=>e,rfl,rfl⟩
theorem St.grow (S:St σ h)(k:∀b o,h.get? b=some o→h'.get? b=some o):St σ h':=
 ⟨fun b o e=>k _ _ (S.base b o e),S.apart,fun a ao e=>(S.obj a ao e).mono (fun b o e _=>k b o e) fun o e=>k _ o e⟩
theorem Aft.grow (k:∀b o,s.heap.get? b=some o→s'.heap.get? b=some o)(os:s'.os=s.os:=by rfl)(gens:s'.gens=s.gens:=by rfl):Aft σ s σ s':=⟨fun b o e _=>k b o e,fun _ _ e=>e,os,gens⟩
theorem St.fresh (S:St σ h)(e:h.get? a=none):σ a=none:=by
 induction q:σ a using Option.casesOn with
 |none=>rfl
 |some ao=>refine x11 (S.live q) fun o ho=> ?_;rw[ho] at e;exact nS' e
theorem get_size (h:Heap):h.get? h.objs.size=none:=by
 induction q:h.get? h.objs.size using Option.casesOn with
 |none=>rfl
 |some o=>exact absurd (Heap.lt_size q) (Nat.lt_irrefl _)
theorem aA (σ:Sto)(a:Addr)(o:AO):σ.put a o a=some o:=by simp[Sto.put]
theorem sps{σ:Sto}{a:Addr}{o:AO}:σ.put a o a=some o:=aA _ _ _
theorem aM (σ:Sto){a b:Addr}(o:AO)(e:b≠a):σ.put a o b=σ b:=by simp[Sto.put,e]
theorem St.add (S:St σ h)(k:∀b o,h.get? b=some o→h'.get? b=some o)(n:h.get? a=none){ao:AO}(r:RO h' a ao):St (σ.put a ao) h':=by
 have G:=S.grow k
 refine⟨G.base,fun b e=> ?_,fun b x e=> ?_⟩
 ·by_cases q:b=a
  ·subst q
   induction z:B.get? b using Option.casesOn with
   |none=>rfl
   |some o=>rw[S.base b o z] at n;exact nS' n
  ·rw[aM _ _ q] at e;exact S.apart b e
 ·by_cases q:b=a
  ·subst q;rw[aA] at e;replace e:=sI e;subst e;exact r
  ·rw[aM _ _ q] at e;exact G.obj b x e
theorem Aft.add (k:∀b o,s.heap.get? b=some o→s'.heap.get? b=some o)(n:s.heap.get? a=none)(ao:AO)(os:s'.os=s.os:=by rfl)(gens:s'.gens=s.gens:=by rfl):Aft σ s (σ.put a ao) s':=by
 refine⟨fun b o e _=>k b o e,fun b e q=> ?_,os,gens⟩
 have:b≠a:=fun z=>e (z▸n)
 rw[aM _ _ this];exact q
theorem St.set (S:St σ h)(hs:Heap.SameBut a h h'){ao ao':AO}(e:σ a=some ao)(r:RO h' a ao'):St (σ.put a ao') h':=by
 have nb:B.get? a=none:=S.apart a (by rw[e];simp)
 refine⟨fun b o q=>(hs.2 b fun z=>by rw[z,nb] at q;exact nS q).trans (S.base b o q),fun b q=> ?_,fun b x q=> ?_⟩
 ·by_cases z:b=a
  ·rw[z];exact nb
  ·rw[aM _ _ z] at q;exact S.apart b q
 ·by_cases z:b=a
  ·subst z;rw[aA] at q;replace q:=sI q;subst q;exact r
  ·rw[aM _ _ z] at q
   refine(S.obj b x q).mono (fun c o g hc=>(hs.2 c fun y=> ?_).trans g) fun o g=>(hs.2 b z).trans g
   subst y
   have:=S.tup_free g hc
   rw[this] at e;exact nS e
theorem Aft.set (hs:Heap.SameBut a s.heap s'.heap){ao:AO}(ao':AO)(e:σ a=some ao)(os:s'.os=s.os:=by rfl)(gens:s'.gens=s.gens:=by rfl):Aft σ s (σ.put a ao') s':=by
 refine⟨fun b o q n=>(hs.2 b fun z=>by rw[z,e] at n;exact nS' n).trans q,fun b q n=> ?_,os,gens⟩
 have:b≠a:=fun z=>by rw[z,e] at n;exact nS' n
 rw[aM _ _ this];exact n
noncomputable def Sto.le (σ σ':Sto):Prop:=∀a o,σ a=some o→σ' a=some o
theorem St.weaken (S:St σ' h)(l:σ.le σ'):St σ h:=
 ⟨S.base,fun b e=>by
  induction q:σ b using Option.casesOn with
  |none=>exact absurd q e
  |some o=>exact S.apart b (by rw[l b o q];simp),fun a o e=>S.obj a o (l a o e)⟩
theorem Aft.weaken {σ₀:Sto}{s₀:Shared}(T:Aft σ₀ s₀ σ' s)(l:σ.le σ'):Aft σ₀ s₀ σ s:=
 have z:∀b,s₀.heap.get? b≠none→σ₀ b=none→σ b=none:=fun b e n=>by
  induction q:σ b using Option.casesOn with
  |none=>rfl
  |some o=>have:=T.dom b e n;rw[l b o q] at this;exact nS' this
 ⟨T.keep,z,T.os,T.gens⟩
end
noncomputable abbrev NoE:Value→Shared→Prop:=fun _ _=>False
structure Rm (d:Nat)(A:Around):Prop where
 hd:A.handled=none
 dp:A.depth+3 * d+20≤1000
 un:A.units+30 * d+600≤9900
theorem Rm.room {d:Nat}{A:Around}(r:Rm d A):A.depth<recursionLimit:=by have:=r.dp;show A.depth<1000;lia
theorem Rm.line {d:Nat}{A:Around}(r:Rm d A):A.units+500<cLine:=by have:=r.un;show A.units+500<9900;lia
theorem Rm.deeper {d:Nat}{A:Around}(r:Rm (d+1) A)(env:Env):Rm d (A.deeper env):=by
 have h1:=r.dp;have h2:=r.un
 exact⟨r.hd,by show A.depth+1+3 * d+20≤1000;lia,by show A.units+3+30 * d+600≤9900;lia⟩
theorem Rm.in1 {d:Nat}{A:Around}(r:Rm (d+1) A):Rm d A.in1:=by
 have h1:=r.dp;have h2:=r.un
 exact⟨r.hd,by show A.depth+3 * d+20≤1000;lia,by show A.units+1+30 * d+600≤9900;lia⟩
theorem Rm.le {d d':Nat}{A:Around}(r:Rm d A)(h:d'≤d):Rm d' A:=by
 have h1:=r.dp;have h2:=r.un
 exact⟨r.hd,by lia,by lia⟩
noncomputable abbrev Loc:=Str→Option V
noncomputable def Loc.put (ρ:Loc) (x:Str) (v:V):Loc:=fun y=>if y=x then some v else ρ y
noncomputable def own (env:Env) (b:Addr):Prop:=b=env.locals∨∃x,env.cells.lookup x=some b
structure FR (sc:Nms)(env:Env)(ρ:Loc)(σ:Sto)(h:Heap):Prop where
 nm:env.scope.names=sc
 fn:env.scope.kind= .function
 gl:env.globals=mainGlobals
 bi:env.builtins=builtinsNs
 ns:∃m,h.Ns env.locals m∧∀x,sc.lookup x=some .local→OR h (m x) (ρ x)
 cells:∀x,(sc.lookup x=some .cell∨sc.lookup x=some .free)→∃c v,env.cells.lookup x=some c∧h.IsCell c v∧OR h v (ρ x)
 one:∀x y c,env.cells.lookup x=some c→env.cells.lookup y=some c→x=y
 cell:∀x c,env.cells.lookup x=some c→∃v,h.IsCell c v
 nl:σ env.locals=none
 nc:∀x c,env.cells.lookup x=some c→σ c=none
 ap:∀b,own env b→B.get? b=none
structure AftX (X:Addr→Prop)(σ:Sto)(s:Shared)(σ':Sto)(s':Shared):Prop where
 keep:∀b o,s.heap.get? b=some o→σ b=none→¬X b→s'.heap.get? b=some o
 dom:∀b,s.heap.get? b≠none→σ b=none→σ' b=none
 live:∀b,s.heap.get? b≠none→σ b=none→s'.heap.get? b≠none
 os:s'.os=s.os:=by rfl
 gens:s'.gens=s.gens:=by rfl
noncomputable abbrev AftF (env:Env) (σ:Sto) (s:Shared) (σ':Sto) (s':Shared):Prop:=AftX (own env) σ s σ' s'
theorem AftX.refl (X:Addr→Prop)(σ:Sto)(s:Shared):AftX X σ s σ s:=⟨fun _ _ e _ _=>e,fun _ _ e=>e,fun _ e _=>e,rfl,rfl⟩
theorem AftF.refl (env:Env)(σ:Sto)(s:Shared):AftF env σ s σ s:=AftX.refl _ _ _
theorem AftX.trans {X:Addr→Prop}{σ σ₁ σ₂:Sto}{s s₁ s₂:Shared}(x:AftX X σ s σ₁ s₁)(y:AftX X σ₁ s₁ σ₂ s₂):AftX X σ s σ₂ s₂:=
 ⟨fun b o e n q=>y.keep b o (x.keep b o e n q) (x.dom b (by rw[e];simp) n) q,fun b e n=>y.dom b (x.live b e n) (x.dom b e n),fun b e n=>y.live b (x.live b e n) (x.dom b e n),y.os.trans x.os,y.gens.trans x.gens⟩
theorem AftX.wider {X Y:Addr→Prop}{σ σ':Sto}{s s':Shared}(x:AftX X σ s σ' s')(w:∀b,X b→Y b):AftX Y σ s σ' s':=⟨fun b o e n q=>x.keep b o e n fun z=>q (w b z),x.dom,x.live,x.os,x.gens⟩
theorem Aft.toX {X:Addr→Prop}{σ σ':Sto}{s s':Shared}(x:Aft σ s σ' s'):AftX X σ s σ' s':=
 ⟨fun b o e q _=>x.keep b o e q,x.dom,fun b e n=>by
  induction z:s.heap.get? b using Option.casesOn with
  |none=>exact absurd z e
  |some o=>rw[x.keep b o z n];simp,x.os,x.gens⟩
theorem Aft.toF {env:Env}{σ σ':Sto}{s s':Shared}(x:Aft σ s σ' s')(_n:∀b,own env b→σ b=none):AftF env σ s σ' s':=x.toX
theorem FR.own_none {sc:Nms}{env:Env}{ρ:Loc}{σ:Sto}{h:Heap}(F:FR sc env ρ σ h):∀b,own env b→σ b=none:=by
 rintro b (rfl|⟨x,e⟩)
 ·exact F.nl
 ·exact F.nc x b e
section
variable {h h':Heap}{s s':Shared}{σ σ':Sto}{sc:Nms}{env:Env}{ρ:Loc}
theorem FR.live_locals (F:FR sc env ρ σ h):h.get? env.locals≠none:=by
 refine x12 F.ns fun m z1 _=> ?_;refine x32 z1 fun o es ep ho _=> ?_;clear z1
 rw[ho];simp
theorem FR.aft (F:FR sc env ρ σ s.heap)(S:St σ s.heap)(T:Aft σ s σ' s'):FR sc env ρ σ' s'.heap:=by
 have kt:=T.tups S
 refine⟨F.nm,F.fn,F.gl,F.bi,?_,fun x hx=> ?_,F.one,fun x c hc=> ?_,T.dom _ F.live_locals F.nl,fun x c e=> ?_,F.ap⟩
 ·refine x12 F.ns fun m z2 hm=> ?_;refine x32 z2 fun o es ep ho r=> ?_;clear z2
  exact⟨m,⟨o,es,ep,T.keep _ _ ho F.nl,r⟩,fun x hx=>(hm x hx).mono kt⟩
 ·refine x23 (F.cells x hx) fun c v hc z3 r=> ?_;refine x12 z3 fun o ho hd=> ?_;clear z3
  exact⟨c,v,hc,⟨o,T.keep _ _ ho (F.nc x c hc),hd⟩,r.mono kt⟩
 ·refine x22 (F.cell x c hc) fun v o ho hd=> ?_
  exact⟨v,o,T.keep _ _ ho (F.nc x c hc),hd⟩
 ·refine x22 (F.cell x c e) fun v o ho _=> ?_
  exact T.dom c (by rw[ho];simp) (F.nc x c e)
noncomputable abbrev MM:Model:=model pw w
inductive Out (σ:Sto)(s:Shared)(Q:V→Sto→Prop)(val:Value)(s':Shared):Prop
 |mk (v:V) (σ':Sto) (r:RV s'.heap val v) (q:Q v σ') (S:St σ' s'.heap) (T:Aft σ s σ' s')
inductive OutL (σ:Sto)(s:Shared)(Q:List V→Sto→Prop)(vs:List Value)(s':Shared):Prop
 |mk (l:List V) (σ':Sto) (r:RVs s'.heap vs l) (q:Q l σ') (S:St σ' s'.heap) (T:Aft σ s σ' s')
inductive OutB (σ:Sto)(s:Shared)(Q:Bool→Sto→Prop)(b:Bool)(s':Shared):Prop
 |mk (σ':Sto) (q:Q b σ') (S:St σ' s'.heap) (T:Aft σ s σ' s')
inductive OutU (σ:Sto)(s:Shared)(Q:Sto→Prop)(u:Unit)(s':Shared):Prop
 |mk (σ':Sto) (q:Q σ') (S:St σ' s'.heap) (T:Aft σ s σ' s')
inductive OutA (sc:Nms)(env:Env)(σ:Sto)(s:Shared)(Q:Loc→Sto→Prop)(u:Unit)(s':Shared):Prop
 |mk (ρ':Loc) (σ':Sto) (q:Q ρ' σ') (F:FR sc env ρ' σ' s'.heap) (S:St σ' s'.heap) (T:AftF env σ s σ' s')
inductive Fl where
 |next
 |ret (v:V)
inductive RF (h:Heap):Flow→Fl→Prop where
 |next:RF h .next .next
 |ret {val:Value} {v:V} (r:RV h val v):RF h (.ret val) (.ret v)
inductive OutS (sc:Nms)(env:Env)(σ:Sto)(s:Shared)(Q:Fl→Loc→Sto→Prop)(f:Flow)(s':Shared):Prop
 |mk (fl:Fl) (ρ':Loc) (σ':Sto) (r:RF s'.heap f fl) (q:Q fl ρ' σ') (F:FR sc env ρ' σ' s'.heap) (S:St σ' s'.heap) (T:AftF env σ s σ' s')
theorem Out.after {σ₁:Sto}{s₁:Shared}{Q:V→Sto→Prop}{val:Value}{s':Shared}(T:Aft σ s σ₁ s₁)(x:Out σ₁ s₁ Q val s'):Out σ s Q val s':=by
 obtain⟨v,σ',r,q,S,T'⟩:=x
 exact⟨v,σ',r,q,S,T.trans T'⟩
section
variable {A:Around}{E:Value→Shared→Prop}{P:Value→Shared→Prop}
theorem wO {t:Sem Value}{Q:V→Sto→Prop}(h:wpAny (model pw w) A t (Out σ s Q) NoE s)(k:∀va s₁ v σ₁,RV s₁.heap va v→Q v σ₁→St σ₁ s₁.heap→Aft σ s σ₁ s₁→P va s₁):wpAny (model pw w) A t P E s:=
 wpAny_mono h (fun va s₁ o=>o.casesOn (k va s₁)) fun _ _ x=>x.elim
theorem wAf {t:Sem Value}{Q:V→Sto→Prop}{σ₁:Sto}{s₁:Shared}(h:wpAny (model pw w) A t (Out σ₁ s₁ Q) NoE s₁)(T:Aft σ s σ₁ s₁):wpAny (model pw w) A t (Out σ s Q) E s₁:=
 wpAny_mono h (fun _ _ o=>Out.after T o) fun _ _ x=>x.elim
theorem wL {t:Sem (List Value)}{P:List Value→Shared→Prop}{Q:List V→Sto→Prop}(h:wpAny (model pw w) A t (OutL σ s Q) NoE s)(k:∀va s₁ v σ₁,RVs s₁.heap va v→Q v σ₁→St σ₁ s₁.heap→Aft σ s σ₁ s₁→P va s₁):wpAny (model pw w) A t P E s:=
 wpAny_mono h (fun va s₁ o=>o.casesOn (k va s₁)) fun _ _ x=>x.elim
theorem wB {t:Sem Bool}{P:Bool→Shared→Prop}{Q:Bool→Sto→Prop}(h:wpAny (model pw w) A t (OutB σ s Q) NoE s)(k:∀b s₁ σ₁,Q b σ₁→St σ₁ s₁.heap→Aft σ s σ₁ s₁→P b s₁):wpAny (model pw w) A t P E s:=
 wpAny_mono h (fun va s₁ o=>o.casesOn (k va s₁)) fun _ _ x=>x.elim
theorem wU {t:Sem Unit}{P:Unit→Shared→Prop}{Q:Sto→Prop}(h:wpAny (model pw w) A t (OutU σ s Q) NoE s)(k:∀u s₁ σ₁,Q σ₁→St σ₁ s₁.heap→Aft σ s σ₁ s₁→P u s₁):wpAny (model pw w) A t P E s:=
 wpAny_mono h (fun va s₁ o=>o.casesOn (k va s₁)) fun _ _ x=>x.elim
theorem wA {t:Sem Unit}{P:Unit→Shared→Prop}{Q:Loc→Sto→Prop}(h:wpAny (model pw w) A t (OutA sc env σ s Q) NoE s)(k:∀u s₁ ρ₁ σ₁,Q ρ₁ σ₁→FR sc env ρ₁ σ₁ s₁.heap→St σ₁ s₁.heap→AftF env σ s σ₁ s₁→P u s₁):wpAny (model pw w) A t P E s:=
 wpAny_mono h (fun va s₁ o=>o.casesOn (k va s₁)) fun _ _ x=>x.elim
theorem wS {t:Sem Flow}{P:Flow→Shared→Prop}{Q:Fl→Loc→Sto→Prop}(h:wpAny (model pw w) A t (OutS sc env σ s Q) NoE s)(k:∀f s₁ fl ρ₁ σ₁,RF s₁.heap f fl→Q fl ρ₁ σ₁→FR sc env ρ₁ σ₁ s₁.heap→St σ₁ s₁.heap→AftF env σ s σ₁ s₁→P f s₁):wpAny (model pw w) A t P E s:=
 wpAny_mono h (fun va s₁ o=>o.casesOn (k va s₁)) fun _ _ x=>x.elim
end
end
section
variable (d:Nat)
noncomputable def T1 (t:Value→Sem Value) (a:V) (σ:Sto) (Q:V→Sto→Prop):Prop:=
 ∀A s va,Rm d A→St σ s.heap→RV s.heap va a→wpAny MM A (t va) (Out σ s Q) NoE s
noncomputable def T2 (t:Value→Value→Sem Value) (a b:V) (σ:Sto) (Q:V→Sto→Prop):Prop:=
 ∀A s va vb,Rm d A→St σ s.heap→RV s.heap va a→RV s.heap vb b→wpAny MM A (t va vb) (Out σ s Q) NoE s
noncomputable def TE (sc:Nms) (e:Expr) (ρ:Loc) (σ:Sto) (Q:V→Sto→Prop):Prop:=
 ∀env A s,Rm d A→FR sc env ρ σ s.heap→St σ s.heap→wpAny MM A (eval e env) (Out σ s Q) NoE s
noncomputable def TEs (sc:Nms) (pos:Pos) (es:List Expr) (ρ:Loc) (σ:Sto) (Q:List V→Sto→Prop):Prop:=
 ∀env A s,Rm d A→FR sc env ρ σ s.heap→St σ s.heap→wpAny MM A (spliced (backTo pos (starEach es env)))
  (OutL σ s Q) NoE s
noncomputable def TB (sc:Nms) (e:Expr) (ρ:Loc) (σ:Sto) (Q:Bool→Sto→Prop):Prop:=
 ∀env A s,Rm d A→FR sc env ρ σ s.heap→St σ s.heap→wpAny MM A (isTrue e env (eval e env))
  (OutB σ s Q) NoE s
noncomputable def TBs (sc:Nms) (op:BoolOp) (es:List Expr) (ρ:Loc) (σ:Sto) (Q:Bool→Sto→Prop):Prop:=
 ∀env A s,Rm d A→FR sc env ρ σ s.heap→St σ s.heap→wpAny MM A (allTrue op es env)
  (OutB σ s Q) NoE s
noncomputable def TT (a:V) (σ:Sto) (Q:Bool→Sto→Prop):Prop:=
 ∀A s va,Rm d A→St σ s.heap→RV s.heap va a→wpAny MM A (truthy va) (OutB σ s Q) NoE s
noncomputable def TS1 (sc:Nms) (st:Stmt) (ρ:Loc) (σ:Sto) (Q:Fl→Loc→Sto→Prop):Prop:=
 ∀env A s,Rm d A→FR sc env ρ σ s.heap→St σ s.heap→wpAny MM A (exec st env) (OutS sc env σ s Q) NoE s
noncomputable def TS (sc:Nms) (ss:List Stmt) (ρ:Loc) (σ:Sto) (Q:Fl→Loc→Sto→Prop):Prop:=
 ∀env A s,Rm d A→FR sc env ρ σ s.heap→St σ s.heap→wpAny MM A (execs ss env) (OutS sc env σ s Q) NoE s
noncomputable def TA (sc:Nms) (t:Expr) (v:V) (ρ:Loc) (σ:Sto) (Q:Loc→Sto→Prop):Prop:=
 ∀env A s va,Rm d A→FR sc env ρ σ s.heap→St σ s.heap→RV s.heap va v→wpAny MM A (assign t env va)
  (OutA sc env σ s Q) NoE s
noncomputable def CallT (f:V) (as:List V) (σ:Sto) (Q:V→Sto→Prop):Prop:=
 ∀A s fv vs,Rm d A→St σ s.heap→RV s.heap fv f→RVs s.heap vs as→codeAny MM A (.call fv ⟨vs,[]⟩)
  (fun r s'=>∃val,r= .ok (.ret val)∧Out σ s Q val s') s
end
local macro_rules |`(tactic|w_dflts $x:ident)=>`(tactic|first
 |((first|have e:=RV.ref_inv $x|have e:=RV.bool_inv $x|have e:=RV.none_inv $x|have e:=RV.ty_inv $x|have e:=RV.bi_inv $x|have e:=RVs.nil_inv $x);clear $x;subst e)
 |((first|obtain⟨_,e⟩:=RV.int_inv $x|obtain⟨_,e⟩:=RV.str_inv $x);clear $x;subst e)
 |cases $x:ident)
section
variable {d:Nat}{sc:Nms}{ρ:Loc}{σ:Sto}
theorem out_here {σ:Sto}{s:Shared}{Q:V→Sto→Prop}{val:Value}{v:V}{s':Shared}(e:s'.heap=s.heap)(S:St σ s.heap)(r:RV s.heap val v)(q:Q v σ)(os:s'.os=s.os:=by rfl)(gens:s'.gens=s.gens:=by rfl):Out σ s Q val s':=
 ⟨v,σ,by rw[e];exact r,q,by rw[e];exact S,Aft.grow (fun b o x=>by rw[e];exact x) os gens⟩
theorem TE.mono {e:Expr}{Q Q':V→Sto→Prop}(h:TE d sc e ρ σ Q)(m:∀v σ',Q v σ'→Q' v σ'):TE d sc e ρ σ Q':=fun env A s R F S=>
 wO (h env A s R F S) (fun _ _ v σ' r q S' T=>⟨v,σ',r,m _ _ q,S',T⟩)
theorem TB.mono {e:Expr}{Q Q':Bool→Sto→Prop}(h:TB d sc e ρ σ Q)(m:∀v σ',Q v σ'→Q' v σ'):TB d sc e ρ σ Q':=fun env A s R F S=>
 wB (h env A s R F S) (fun _ _ σ' q S' T=>⟨σ',m _ _ q,S',T⟩)
theorem T2.mono {t:Value→Value→Sem Value}{a b:V}{Q Q':V→Sto→Prop}(h:T2 d t a b σ Q)(m:∀v σ',Q v σ'→Q' v σ'):T2 d t a b σ Q':=fun A s va vb R S ra rb=>
 wO (h A s va vb R S ra rb) (fun _ _ v σ' r q S' T=>⟨v,σ',r,m _ _ q,S',T⟩)
theorem CallT.mono {f:V}{as:List V}{Q Q':V→Sto→Prop}(h:CallT d f as σ Q)(m:∀v σ',Q v σ'→Q' v σ'):CallT d f as σ Q':=fun A s fv vs R S rf rs=>
 codeAny_mono (h A s fv vs R S rf rs) fun _ _ ⟨val,e,v,σ',r,q,S',T⟩=>⟨val,e,v,σ',r,m _ _ q,S',T⟩
theorem TE_int {i:Int}{k:Nat}{p:Pos}{Q:V→Sto→Prop}(q:Q (.int i) σ):TE d sc (.Constant (.int i) k p) ρ σ Q:=fun _ _ _ _ _ S=>
 wpAny_Constant_int (out_here rfl S (.int _ _) q)
theorem TE_str {x:Str}{k:Nat}{p:Pos}{Q:V→Sto→Prop}(q:Q (.str x) σ):TE d sc (.Constant (.str x) k p) ρ σ Q:=fun _ _ _ _ _ S=>
 wpAny_Constant_str (out_here rfl S (.str _ _) q)
theorem TE_none {k:Nat}{p:Pos}{Q:V→Sto→Prop}(q:Q .none σ):TE d sc (.Constant .none k p) ρ σ Q:=fun _ _ _ _ _ S=>
 wpAny_Constant_none (out_here rfl S .none q)
theorem TE_bool {b:Bool}{k:Nat}{p:Pos}{Q:V→Sto→Prop}(q:Q (.bool b) σ):TE d sc (.Constant (.bool b) k p) ρ σ Q:=fun _ _ _ _ _ S=>
 wpAny_Constant_bool (out_here rfl S (.bool _) q)
theorem TE_loc {x:Str}{p:Pos}{v:V}{Q:V→Sto→Prop}(hx:sc.lookup x=some .local)(hv:ρ x=some v)(q:Q v σ)(hd:(x==("__debug__":Str))=false:=by decide +kernel):TE d sc (.Name x p) ρ σ Q:=
 fun env A s R F S=>by
  refine x12 F.ns fun m hn hm=> ?_
  have z:=hm x hx
  rw[hv] at z
  induction e:m x using Option.casesOn with
  |none=>rw[e] at z;exact z.elim
  |some val=>
   rw[e] at z
   refine wpAny_Name ?_ hd
   exact wpAny_loadName_local F.fn (by rw[Env.kindOf,F.nm];exact hx) hn e (out_here rfl S z q)
theorem TE_cell {x:Str}{p:Pos}{v:V}{Q:V→Sto→Prop}(hx:sc.lookup x=some .cell)(hv:ρ x=some v)(q:Q v σ)(hd:(x==("__debug__":Str))=false:=by decide +kernel):TE d sc (.Name x p) ρ σ Q:=
 fun env A s R F S=>by
  refine x23 (F.cells x (.inl hx)) fun c ov hc hi z=> ?_
  rw[hv] at z
  induction ov using Option.casesOn with
  |none=>exact z.elim
  |some val=>exact wpAny_Name (wpAny_loadName_cell F.fn (by rw[Env.kindOf,F.nm];exact hx) hc hi (out_here rfl S z q)) hd
theorem TE_free {x:Str}{p:Pos}{v:V}{Q:V→Sto→Prop}(hx:sc.lookup x=some .free)(hv:ρ x=some v)(q:Q v σ)(hd:(x==("__debug__":Str))=false:=by decide +kernel)
  (hn:(x==("__classdict__":Str))=false:=by decide +kernel):TE d sc (.Name x p) ρ σ Q:=
 fun env A s R F S=>by
  refine x23 (F.cells x (.inr hx)) fun c ov hc hi z=> ?_
  rw[hv] at z
  induction ov using Option.casesOn with
  |none=>exact z.elim
  |some val=>exact wpAny_Name (wpAny_loadName_free F.fn (by rw[Env.kindOf,F.nm];exact hx) hc hi (out_here rfl S z q) hn) hd
noncomputable def GV (x:Str) (v:V):Prop:=∃mg val,B.Ns mainGlobals mg∧mg x=some val∧RV B val v
noncomputable def BV (x:Str) (v:V):Prop:=∃mg mb val,B.Ns mainGlobals mg∧mg x=none∧B.Ns builtinsNs mb∧mb x=some val∧RV B val v
theorem TE_glob {x:Str}{p:Pos}{v:V}{Q:V→Sto→Prop}(hx:sc.lookup x=some .globalImplicit)(hv:GV x v)(q:Q v σ)(hd:(x==("__debug__":Str))=false:=by decide +kernel):TE d sc (.Name x p) ρ σ Q:=
 fun env A s R F S=>by
  refine x23 hv fun mg val hg e r=> ?_;clear hv
  refine Name_function_global F.fn (by rw[Env.kindOf,F.nm];exact hx) ?_ hd
  unfold loadGlobal
  refine vB (wpAny_nsGet (m:=mg) (by rw[F.gl];exact hg.keeps S.base) ?_)
  rw[e]
  exact vP (out_here rfl S (r.mono fun b o e _=>S.base b o e) q)
theorem TE_blt {x:Str}{p:Pos}{v:V}{Q:V→Sto→Prop}(hx:sc.lookup x=some .globalImplicit)(hv:BV x v)(q:Q v σ)(hd:(x==("__debug__":Str))=false:=by decide +kernel):TE d sc (.Name x p) ρ σ Q:=
 fun env A s R F S=>by
  refine x35 hv fun mg mb val hg e hb eb r=> ?_;clear hv
  refine Name_function_global F.fn (by rw[Env.kindOf,F.nm];exact hx) ?_ hd
  unfold loadGlobal
  refine vB (wpAny_nsGet (m:=mg) (by rw[F.gl];exact hg.keeps S.base) ?_)
  rw[e]
  have hb':s.heap.Ns env.builtins mb:=by rw[F.bi];exact hb.keeps S.base
  refine vB (wpAny_nsGet (m:=mb) hb' ?_)
  rw[eb]
  exact vP (out_here rfl S (r.mono fun b o e _=>S.base b o e) q)
theorem TE_bin {l r:Expr}{op:Operator}{p:Pos}{Q:V→Sto→Prop}(h:TE d sc l ρ σ fun a σ₁=>TE d sc r ρ σ₁ fun b σ₂=>T2 d (binaryOp op) a b σ₂ Q):TE d sc (.BinOp l op r p) ρ σ Q:=
 fun env A s R F S=>wpAny_BinOp (wO (h env A s R F S) (fun va s₁ a σ₁ ra h₁ S₁ T₁=>by
  have F₁:=F.aft S T₁
  refine wO (h₁ env A s₁ R F₁ S₁) (fun vb s₂ b σ₂ rb h₂ S₂ T₂=> ?_)
  exact wAf (h₂ A s₂ va vb R S₂ (T₂.rv S₁ ra) rb) (T₁.trans T₂)))
theorem TE_cmp {l r:Expr}{op:CmpOp}{p:Pos}{Q:V→Sto→Prop}(h:TE d sc l ρ σ fun a σ₁=>TE d sc r ρ σ₁ fun b σ₂=>T2 d (compareOp op) a b σ₂ Q)
  (hm:behindInMarks op r=false:=by rfl):TE d sc (.Compare l [op] [r] p) ρ σ Q:=
 fun env A s R F S=>wpAny_Compare1 (wO (h env A s R F S) (fun va s₁ a σ₁ ra h₁ S₁ T₁=>by
  have F₁:=F.aft S T₁
  refine wO (h₁ env A s₁ R F₁ S₁) (fun vb s₂ b σ₂ rb h₂ S₂ T₂=> ?_)
  exact wAf (h₂ A s₂ va vb R S₂ (T₂.rv S₁ ra) rb) (T₁.trans T₂))) hm
theorem TE_un {e:Expr}{op:UnaryOp}{p:Pos}{Q:V→Sto→Prop}(h:TE d sc e ρ σ fun a σ₁=>T1 d (unaryOp op) a σ₁ Q):TE d sc (.UnaryOp op e p) ρ σ Q:=
 fun env A s R F S=>wpAny_UnaryOp (wO (h env A s R F S) (fun va s₁ a σ₁ ra h₁ S₁ T₁=>
  wAf (h₁ A s₁ va R S₁ ra) T₁))
theorem TT_bool {b:Bool}{Q:Bool→Sto→Prop}(q:Q b σ):TT d (.bool b) σ Q:=fun A s va R S r=>by
 w_dflts r;exact wpAny_truthy_bool ⟨σ,q,S,Aft.refl _ _⟩
theorem TB_val {e:Expr}{Q:Bool→Sto→Prop}(h:TE d sc e ρ σ fun a σ₁=>TT d a σ₁ Q)
  (he:∀env whole,isTrue e env whole=(do let v←whole;standAt e.pos;holding [v] (truthy v)):=by intro _ _;rfl):TB d sc e ρ σ Q:=
 fun env A s R F S=>wpAny_isTrue_value (wO (h env A s R F S) (fun va s₁ a σ₁ ra h₁ S₁ T₁=>
  wB (h₁ A s₁ va R S₁ ra) (fun _ _ σ' q S' T'=>⟨σ',q,S',T₁.trans T'⟩))) (he env _)
theorem TB_cmp {l r:Expr}{op:CmpOp}{p:Pos}{Q:Bool→Sto→Prop}(h:TE d sc l ρ σ fun a σ₁=>TE d sc r ρ σ₁ fun b σ₂=>T2 d (compareOp op) a b σ₂ fun c σ₃=>TT d c σ₃ Q)
  (hm:behindInMarks op r=false:=by rfl):TB d sc (.Compare l [op] [r] p) ρ σ Q:=
 fun env A s R F S=>wpAny_isTrue_Compare1 (wO (h env A s R F S) (fun va s₁ a σ₁ ra h₁ S₁ T₁=>by
  have F₁:=F.aft S T₁
  refine wO (h₁ env A s₁ R F₁ S₁) (fun vb s₂ b σ₂ rb h₂ S₂ T₂=> ?_)
  refine wO (h₂ A s₂ va vb R S₂ (T₂.rv S₁ ra) rb) (fun vc s₃ c σ₃ rc h₃ S₃ T₃=> ?_)
  exact wB (h₃ A s₃ vc R S₃ rc) (fun _ _ σ' q S' T'=>⟨σ',q,S',((T₁.trans T₂).trans T₃).trans T'⟩))) hm
theorem TB_not {e:Expr}{p:Pos}{Q:Bool→Sto→Prop}(h:TB d sc e ρ σ fun b σ₁=>Q (!b) σ₁):TB d sc (.UnaryOp .Not e p) ρ σ Q:=
 fun env A s R F S=>wpAny_isTrue_Not (wB (h env A s R F S) fun _ _ σ' q S' T=>⟨σ',q,S',T⟩)
theorem TB_bools {op:BoolOp}{es:List Expr}{p:Pos}{Q:Bool→Sto→Prop}(h:TBs d sc op es ρ σ Q):TB d sc (.BoolOp op es p) ρ σ Q:=
 fun env A s R F S=>wpAny_isTrue_BoolOp (h env A s R F S)
theorem TBs_and_nil {Q:Bool→Sto→Prop}(q:Q true σ):TBs d sc .And [] ρ σ Q:=fun _ _ _ _ _ S=>wpAny_allTrue_And_nil ⟨σ,q,S,Aft.refl _ _⟩
theorem TBs_or_nil {Q:Bool→Sto→Prop}(q:Q false σ):TBs d sc .Or [] ρ σ Q:=fun _ _ _ _ _ S=>wpAny_allTrue_Or_nil ⟨σ,q,S,Aft.refl _ _⟩
theorem TBs_and {e:Expr}{es:List Expr}{Q:Bool→Sto→Prop}(h:TB d sc e ρ σ fun b σ₁=>if b then TBs d sc .And es ρ σ₁ Q else Q false σ₁):TBs d sc .And (e::es) ρ σ Q:=
 fun env A s R F S=>wpAny_allTrue_And_cons (wB (h env A s R F S) (fun b s₁ σ₁ h₁ S₁ T₁=>by
  induction b using Bool.casesOn with
  |true=>exact wB (h₁ env A s₁ R (F.aft S T₁) S₁) (fun _ _ σ' q S' T'=>⟨σ',q,S',T₁.trans T'⟩)
  |false=>exact⟨σ₁,h₁,S₁,T₁⟩))
theorem TBs_or {e:Expr}{es:List Expr}{Q:Bool→Sto→Prop}(h:TB d sc e ρ σ fun b σ₁=>if b then Q true σ₁ else TBs d sc .Or es ρ σ₁ Q):TBs d sc .Or (e::es) ρ σ Q:=
 fun env A s R F S=>wpAny_allTrue_Or_cons (wB (h env A s R F S) (fun b s₁ σ₁ h₁ S₁ T₁=>by
  induction b using Bool.casesOn with
  |false=>exact wB (h₁ env A s₁ R (F.aft S T₁) S₁) (fun _ _ σ' q S' T'=>⟨σ',q,S',T₁.trans T'⟩)
  |true=>exact⟨σ₁,h₁,S₁,T₁⟩))
theorem TE_ite {t a b:Expr}{p:Pos}{Q:V→Sto→Prop}(h:TB d sc t ρ σ fun c σ₁=>if c then TE d sc a ρ σ₁ Q else TE d sc b ρ σ₁ Q):TE d sc (.IfExp t a b p) ρ σ Q:=
 fun env A s R F S=>wpAny_IfExp (wB (h env A s R F S) (fun c s₁ σ₁ h₁ S₁ T₁=>by
  induction c using Bool.casesOn with
  |true=>exact wAf (h₁ env A s₁ R (F.aft S T₁) S₁) T₁
  |false=>exact wAf (h₁ env A s₁ R (F.aft S T₁) S₁) T₁))
theorem TE_or {x y:Expr}{p:Pos}{Q:V→Sto→Prop}(h:TE d sc x ρ σ fun v σ₁=>TT d v σ₁ fun t σ₂=>if t then Q v σ₂ else TE d sc y ρ σ₂ Q):TE d sc (.BoolOp .Or [x,y] p) ρ σ Q:=
 fun env A s R F S=>wpAny_Or2 (wO (h env A s R F S) (fun va s₁ v σ₁ r h₁ S₁ T₁=>
  wB (h₁ A s₁ va R S₁ r) (fun t s₂ σ₂ h₂ S₂ T₂=>by
   induction t using Bool.casesOn with
   |false=>exact wAf (h₂ env A s₂ R (F.aft S (T₁.trans T₂)) S₂) (T₁.trans T₂)
   |true=>exact⟨v,σ₂,T₂.rv S₁ r,h₂,S₂,T₁.trans T₂⟩)))
theorem TEs_nil {p:Pos}{Q:List V→Sto→Prop}(q:Q [] σ):TEs d sc p [] ρ σ Q:=fun _ _ _ _ _ S=>wpAny_items_nil ⟨[],σ,.nil,q,S,Aft.refl _ _⟩
theorem TEs_cons {e:Expr}{es:List Expr}{p:Pos}{Q:List V→Sto→Prop}(h:TE d sc e ρ σ fun v σ₁=>TEs d sc p es ρ σ₁ fun l σ₂=>Q (v::l) σ₂)
  (he:∀env,starEach (e::es) env=(false,eval e env)::starEach es env:=by intro _;rfl):TEs d sc p (e::es) ρ σ Q:=
 fun env A s R F S=>wpAny_items_cons (wO (h env A s R F S) (fun va s₁ v σ₁ r h₁ S₁ T₁=>
  wL (h₁ env A s₁ R (F.aft S T₁) S₁) (fun vs s₂ l σ₂ rs q S₂ T₂=>⟨v::l,σ₂,.cons (T₂.rv S₁ r) rs,q,S₂,T₁.trans T₂⟩))) (he env)
theorem aN {h:Heap}(o:Obj):∀b o',h.get? b=some o'→(h.push o).get? b=some o':=fun _ _ e=>Heap.get?_push_of_some _ e
theorem TE_tup {es:List Expr}{k:Nat}{p:Pos}{Q:V→Sto→Prop}(h:TEs d sc p es ρ σ fun l σ₁=>l.length≤sizeLine∧Q (.tup l) σ₁):TE d sc (.Tuple es k p) ρ σ Q:=
 fun env A s R F S=>wpAny_Tuple (wL (h env A s R F S) (fun vs s₁ l σ₁ rs h_3 S₁ T₁=>by
  refine⟨by rw[rs.length];exact h_3.1,.tup l,σ₁,.tup (Heap.get?_push_size _ rfl) (rs.mono fun b o e _=>aN _ b o e),h_3.2,S₁.push _,T₁.trans (Aft.push _ _ _)⟩))
theorem TE_list {es:List Expr}{p:Pos}{Q:V→Sto→Prop}(h:TEs d sc p es ρ σ fun l σ₁=>l.length≤sizeLine∧∀a,σ₁ a=none→Q (.ref a) (σ₁.put a (.list l))):TE d sc (.List es p) ρ σ Q:=
 fun env A s R F S=>wpAny_List (wL (h env A s R F S) (fun vs s₁ l σ₁ rs h_3 S₁ T₁=>by
  have n:=get_size s₁.heap
  refine⟨by rw[rs.length];exact h_3.1,.ref _,σ₁.put s₁.heap.objs.size (.list l),.ref _,h_3.2 _ (S₁.fresh n),S₁.add (aN _) n ⟨vs,⟨0,Heap.get?_push_size _ rfl⟩,rs.mono fun b o e _=>aN _ b o e⟩,T₁.trans (Aft.add (aN _) n _)⟩))
theorem TS.mono {ss:List Stmt}{Q Q':Fl→Loc→Sto→Prop}(h:TS d sc ss ρ σ Q)(m:∀f ρ' σ',Q f ρ' σ'→Q' f ρ' σ'):TS d sc ss ρ σ Q':=fun env A s R F S=>
 wS (h env A s R F S) (fun _ _ f ρ' σ' r q F' S' T=>⟨f,ρ',σ',r,m _ _ _ q,F',S',T⟩)
theorem TS_nil {Q:Fl→Loc→Sto→Prop}(q:Q .next ρ σ):TS d sc [] ρ σ Q:=fun _ _ _ _ F S=>wpAny_execs_nil ⟨.next,ρ,σ,.next,q,F,S,AftF.refl _ _ _⟩
noncomputable def thenS (d:Nat) (sc:Nms) (rest:List Stmt) (Q:Fl→Loc→Sto→Prop):Fl→Loc→Sto→Prop
 | .next,ρ,σ=>TS d sc rest ρ σ Q
 | .ret v,ρ,σ=>Q (.ret v) ρ σ
theorem TS_cons {st:Stmt}{rest:List Stmt}{Q:Fl→Loc→Sto→Prop}(h:TS1 d sc st ρ σ (thenS d sc rest Q)):TS d sc (st::rest) ρ σ Q:=
 fun env A s R F S=>wpAny_execs_cons (wS (h env A s R F S) (fun f s₁ fl ρ₁ σ₁ r h₁ F₁ S₁ T₁=>by
  cases r with
  |next=>exact wS (h₁ env A s₁ R F₁ S₁) (fun _ _ f ρ' σ' r q F' S' T=>⟨f,ρ',σ',r,q,F',S',T₁.trans T⟩)
  |ret r=>exact⟨_,ρ₁,σ₁,.ret r,h₁,F₁,S₁,T₁⟩))
theorem TS_ret {e:Expr}{p:Pos}{Q:Fl→Loc→Sto→Prop}(h:TE d sc e ρ σ fun v σ'=>Q (.ret v) ρ σ'):TS1 d sc (.Return (some e) p) ρ σ Q:=
 fun env A s R F S=>wpAny_Return_some (wO (h env A s R F S) (fun va s₁ v σ₁ r q S₁ T₁=>⟨_,ρ,σ₁,.ret r,q,F.aft S T₁,S₁,T₁.toF F.own_none⟩))
theorem TS_if {t:Expr}{a b:List Stmt}{p:Pos}{Q:Fl→Loc→Sto→Prop}(h:TB d sc t ρ σ fun c σ₁=>if c then TS d sc a ρ σ₁ Q else TS d sc b ρ σ₁ Q):TS1 d sc (.If t a b p) ρ σ Q:=
 fun env A s R F S=>wpAny_If (wB (h env A s R F S) (fun c s₁ σ₁ h₁ S₁ T₁=>by
  have k:∀(ss:List Stmt),TS d sc ss ρ σ₁ Q→wpAny MM A (execs ss env) (OutS sc env σ s Q) NoE s₁:=fun ss hs=>
   wS (hs env A s₁ R (F.aft S T₁) S₁) (fun _ _ f ρ' σ' r q F' S' T=>⟨f,ρ',σ',r,q,F',S',(T₁.toF F.own_none).trans T⟩)
  induction c using Bool.casesOn with
  |true=>exact k _ h₁
  |false=>exact k _ h₁))
theorem FR.no_tup {env:Env}{h:Heap}(F:FR sc env ρ σ h){b:Addr}{o:Obj}(hb:own env b)(e:h.get? b=some o):¬IsTupO o:=by
 rintro⟨_,vs,n,hd⟩
 rcases hb with rfl|⟨x,hx⟩
 ·refine x12 F.ns fun m z1 _=> ?_;refine x33 z1 fun o' es ep ho hd' _=> ?_;clear z1
  rw[ho] at e;replace e:=sI e;subst e;rw[hd'] at hd;cases hd
 ·refine x22 (F.cell x b hx) fun v o' ho hd'=> ?_
  rw[ho] at e;replace e:=sI e;subst e;rw[hd'] at hd;cases hd
theorem own_change {env:Env}{h h':Heap}{a:Addr}(F:FR sc env ρ σ h)(S:St σ h)(hb:own env a)(hs:Heap.SameBut a h h'):
  (∀b o,h.get? b=some o→IsTupO o→h'.get? b=some o)∧St σ h':=by
 have kt:∀b o,h.get? b=some o→IsTupO o→h'.get? b=some o:=fun b o e ht=>(hs.2 b fun z=>by subst z;exact F.no_tup hb e ht).trans e
 refine⟨kt,fun b o e=>(hs.2 b fun z=>by subst z;rw[F.ap _ hb] at e;exact nS e).trans (S.base b o e),S.apart,fun c ao e=>(S.obj c ao e).mono kt fun o g=>(hs.2 c fun z=>by subst z;rw[F.own_none _ hb] at e;exact nS e).trans g⟩
theorem put_localX {x:Str}{v:V}{env:Env}{A:Around}{s:Shared}{va:Value}(hx:sc.lookup x=some .local)(F:FR sc env ρ σ s.heap)(S:St σ s.heap)(r:RV s.heap va v):
  wpAny MM A (storeName env x va) (fun _ s'=>FR sc env (ρ.put x v) σ s'.heap∧St σ s'.heap∧AftX (·=env.locals) σ s σ s') NoE s:=by
 refine x12 F.ns fun m hn hm=> ?_
 refine wpAny_storeName_local (by rw[Env.kindOf,F.nm];exact hx) hn (fun h' hn' hs=> ?_) (by rw[F.fn];rfl)
 refine an2 (own_change F S (.inl rfl) hs) fun kt S'=> ?_
 have nL:∀y c,env.cells.lookup y=some c→c≠env.locals:=fun y c hc z=>by
  subst z
  refine x22 (F.cell y _ hc) fun v' o' ho' hd'=> ?_
  refine x33 hn fun o es ep ho hd _=> ?_;clear hn
  rw[ho] at ho';replace ho':=sI ho';subst ho';rw[hd] at hd';cases hd'
 refine⟨⟨F.nm,F.fn,F.gl,F.bi,⟨_,hn',fun y hy=> ?_⟩,fun y hy=> ?_,F.one,fun y c hc=> ?_,F.nl,F.nc,F.ap⟩,S',fun b o e _ n=>(hs.2 b n).trans e,fun _ _ e=>e,fun b e _=> ?_,rfl,rfl⟩
 ·dsimp only[Loc.put]
  by_cases z:y=x
  ·rw[if_pos z,if_pos z];exact r.mono kt
  ·rw[if_neg z,if_neg z];exact(hm y hy).mono kt
 ·refine x23 (F.cells y hy) fun c ov hc hi z=> ?_
  have e:(ρ.put x v) y=ρ y:=by
   dsimp only[Loc.put]
   rw[if_neg]
   rintro rfl
   rw[hx] at hy
   rcases hy with hy|hy<;>cases hy
  rw[e]
  exact⟨c,ov,hc,hi.sameBut hs (nL y c hc),z.mono kt⟩
 ·refine x11 (F.cell y c hc) fun v' hi=> ?_
  exact⟨v',hi.sameBut hs (nL y c hc)⟩
 ·by_cases z:b=env.locals
  ·refine x32 hn' fun o es ep ho _=> ?_;clear hn'
   rw[z,ho];simp
  ·rw[hs.2 b z];exact e
theorem put_local {x:Str}{v:V}{env:Env}{A:Around}{s:Shared}{va:Value}(hx:sc.lookup x=some .local)(F:FR sc env ρ σ s.heap)(S:St σ s.heap)(r:RV s.heap va v){Q:Loc→Sto→Prop}(q:Q (ρ.put x v) σ):
  wpAny MM A (storeName env x va) (OutA sc env σ s Q) NoE s:=
 wpAny_mono (put_localX hx F S r) (fun _ s' ⟨F',S',T⟩=>⟨_,σ,q,F',S',T.wider fun b e=> .inl e⟩) fun _ _ x=>x
theorem put_cell {x:Str}{v:V}{env:Env}{A:Around}{s:Shared}{va:Value}(hx:sc.lookup x=some .cell)(F:FR sc env ρ σ s.heap)(S:St σ s.heap)(r:RV s.heap va v){Q:Loc→Sto→Prop}(q:Q (ρ.put x v) σ):
  wpAny MM A (storeName env x va) (OutA sc env σ s Q) NoE s:=by
 refine x23 (F.cells x (.inl hx)) fun c ov hc hi _=> ?_
 refine wpAny_storeName_cell F.fn (by rw[Env.kindOf,F.nm];exact hx) hc hi fun h' hi' hs=> ?_
 have hown:own env c:= .inr ⟨x,hc⟩
 refine an2 (own_change F S hown hs) fun kt S'=> ?_
 refine x12 F.ns fun m hn hm=> ?_
 have nL:env.locals≠c:=fun z=>by
  refine x12 hi fun o' ho' hd'=> ?_;clear hi
  refine x33 hn fun o es ep ho hd _=> ?_;clear hn
  rw[z,ho'] at ho;cases ho;rw[hd] at hd';cases hd'
 have ne:∀y c',env.cells.lookup y=some c'→y≠x→c'≠c:=fun y c' hc' n z=>n (F.one y x c (z▸hc') hc)
 refine⟨_,σ,q,⟨F.nm,F.fn,F.gl,F.bi,⟨m,hn.sameBut hs nL,fun y hy=> ?_⟩,fun y hy=> ?_,F.one,fun y c' hc'=> ?_,F.nl,F.nc,F.ap⟩,S',fun b o e _ n=>(hs.2 b fun z=>n (by rw[z];exact hown)).trans e,fun _ _ e=>e,fun b e _=> ?_,rfl,rfl⟩
 ·have e:(ρ.put x v) y=ρ y:=by
   dsimp only[Loc.put]
   rw[if_neg]
   rintro rfl
   rw[hx] at hy;replace hy:=sI hy;cases hy
  rw[e];exact(hm y hy).mono kt
 ·by_cases z:y=x
  ·subst z
   refine⟨c,some va,hc,hi',?_⟩
   show OR h' (some va) (if y=y then some v else ρ y)
   rw[if_pos rfl];exact r.mono kt
  ·refine x23 (F.cells y hy) fun c' ov' hc' hi2 z2=> ?_
   have e:(ρ.put x v) y=ρ y:=by dsimp only[Loc.put];rw[if_neg z]
   rw[e]
   exact⟨c',ov',hc',hi2.sameBut hs (ne y c' hc' z),z2.mono kt⟩
 ·by_cases z:y=x
  ·subst z;rw[hc] at hc';replace hc':=sI hc';subst hc';exact⟨_,hi'⟩
  ·refine x11 (F.cell y c' hc') fun v' hi2=> ?_
   exact⟨v',hi2.sameBut hs (ne y c' hc' z)⟩
 ·by_cases z:b=c
  ·refine x12 hi' fun o ho _=> ?_;clear hi'
   rw[z,ho];simp
  ·rw[hs.2 b z];exact e
theorem TA_loc {x:Str}{p:Pos}{v:V}{Q:Loc→Sto→Prop}(hx:sc.lookup x=some .local)(q:Q (ρ.put x v) σ):TA d sc (.Name x p) v ρ σ Q:=fun env A s va R F S r=>
 wpAny_assign_Name (put_local hx F S r q)
theorem TA_cell {x:Str}{p:Pos}{v:V}{Q:Loc→Sto→Prop}(hx:sc.lookup x=some .cell)(q:Q (ρ.put x v) σ):TA d sc (.Name x p) v ρ σ Q:=fun env A s va R F S r=>
 wpAny_assign_Name (put_cell hx F S r q)
theorem TS_loc {x:Str}{p p':Pos}{e:Expr}{Q:Fl→Loc→Sto→Prop}(hx:sc.lookup x=some .local)(h:TE d sc e ρ σ fun v σ₁=>Q .next (ρ.put x v) σ₁)
  (hs:∀env,swapsWith e (some (.Name x p)) p'.line env=pure false:=by intro _;rfl):TS1 d sc (.Assign [.Name x p] e p') ρ σ Q:=
 fun env A s R F S=>wpAny_Assign_Name (wO (h env A s R F S) (fun va s₁ v σ₁ r h₁ S₁ T₁=>
  wA (put_local hx (F.aft S T₁) S₁ r (Q:=fun ρ' σ'=>Q .next ρ' σ') h₁) (fun _ s' ρ' σ' q F' S' T'=>⟨.next,ρ',σ',.next,q,F',S',(T₁.toF F.own_none).trans T'⟩))) (hs env)
theorem TS_cell {x:Str}{p p':Pos}{e:Expr}{Q:Fl→Loc→Sto→Prop}(hx:sc.lookup x=some .cell)(h:TE d sc e ρ σ fun v σ₁=>Q .next (ρ.put x v) σ₁)
  (hs:∀env,swapsWith e (some (.Name x p)) p'.line env=pure false:=by intro _;rfl):TS1 d sc (.Assign [.Name x p] e p') ρ σ Q:=
 fun env A s R F S=>wpAny_Assign_Name (wO (h env A s R F S) (fun va s₁ v σ₁ r h₁ S₁ T₁=>
  wA (put_cell hx (F.aft S T₁) S₁ r (Q:=fun ρ' σ'=>Q .next ρ' σ') h₁) (fun _ s' ρ' σ' q F' S' T'=>⟨.next,ρ',σ',.next,q,F',S',(T₁.toF F.own_none).trans T'⟩))) (hs env)
noncomputable def CallV (d:Nat) (f:V) (as:List V) (σ:Sto) (Q:V→Sto→Prop):Prop:=
 ∀A s fv vs,Rm d A→St σ s.heap→RV s.heap fv f→RVs s.heap vs as→wpAny MM A (call fv vs) (Out σ s Q) NoE s
theorem CallT.v {f:V}{as:List V}{Q:V→Sto→Prop}(h:CallT d f as σ Q):CallV d f as σ Q:=fun A s fv vs R S rf rs=>
 wpAny_call (codeAny_mono (h A s fv vs R S rf rs) fun r s' ⟨val,e,o⟩=>by subst e;exact o)
noncomputable def Kp (f:V):Prop:=∀h,(∀b o,B.get? b=some o→h.get? b=some o)→∀fv,RV h fv f→∃k,(k=Keeper.frame∨k=Keeper.machine∨k=Keeper.boundFrame)∧∀M,Looks M h (keeperOf fv) k
theorem Kp_bi (id:String):Kp (.bi id):=fun h _ fv r=>by
 w_dflts r;exact⟨.machine,.inr (.inl rfl),fun _=> .now⟩
theorem Kp_ty (id:String):Kp (.ty id):=fun h _ fv r=>by
 w_dflts r;exact⟨.machine,.inr (.inl rfl),fun _=> .now⟩
theorem Kp_fn {a:Addr}{o:Obj}{fd:FuncData}(e:B.get? a=some o)(hd:o.data= .func fd):Kp (.ref a):=fun h k fv r=>by
 w_dflts r
 refine⟨.frame,.inl rfl,fun M=>(Looks.ld (part:=none) (k _ _ e)).andThen ?_⟩
 rw[hd]
 exact .now
theorem noStar {e:Expr}{rest:List Expr}{env:Env}{pos:Pos}(h:(backTo pos (starEach (e::rest) env)).any (·.1)=false):starEach (e::rest) env=(false,eval e env)::starEach rest env:=by
 induction e using Expr.casesOn with
 |Starred x q=>exact nomatch (show true=false from h)
 |_=>rfl
theorem evalArgs_of {f:Value}{args:List Expr}{env:Env}{pos:Pos}{M:Model}{A:Around}{E:Value→Shared→Prop}{s:Shared}{Q:Args→Shared→Prop}(hn:(backTo pos (starEach args env)).any (·.1)=false)
  (h:wpAny M A (spliced (backTo pos (starEach args env))) (fun vs s₁=>Q ⟨vs,[]⟩ s₁) E s):wpAny M A (evalArgs f true (backTo pos (starEach args env)) []) Q E s:=by
 induction args using List.casesOn with
 |nil=>
  show wpAny M A (evalArgs f true [] []) Q E s
  unfold evalArgs
  show wpAny M A (spliced []>>=_) Q E s
  refine vB (wpAny_mono h (fun vs s' h'=> ?_) fun _ _ x=>x)
  refine vB (vP ?_)
  refine wpAny_holding ?_
  exact vB (vP (vB (vP (vP h'))))
 |cons e rest=>
  rw[noStar hn] at h⊢
  exact evalArgs_plain h
theorem TE_call {func:Expr}{args:List Expr}{p:Pos}{Q:V→Sto→Prop}
  (h:TE d sc func ρ σ fun f σ₁=>TEs d sc p args ρ σ₁ fun l σ₂=>Kp f∧CallV d f l σ₂ Q)
  (harm:∀env,eval (.Call func args [] p) env=(do callWith p (←eval func env) [] (backTo p (starEach args env)) []):=by intro _;rfl)
  (hn:∀env,(backTo p (starEach args env)).any (·.1)=false:=by intro _;rfl):TE d sc (.Call func args [] p) ρ σ Q:=
 fun env A s R F S=>by
  rw[harm env]
  refine vB (wO (h env A s R F S) (fun fv s₁ f σ₁ rf h₁ S₁ T₁=> ?_))
  have hz:=h₁ env A s₁ R (F.aft S T₁) S₁
  refine callWith_of (P:=fun h=>(∀b o,B.get? b=some o→h.get? b=some o)∧RV h fv f∧Kp f) (by rw[hn env];rfl) (fun h ⟨k,r,kp⟩=> ?_) (evalArgs_of (hn env) (wL hz (fun vs s₂ l σ₂ rs h_3 S₂ T₂=> ?_)))
  ·refine x12 (kp h k fv r) fun k' a b=> ?_;exact⟨k',a,b _⟩
  ·have rf₂:=T₂.rv S₁ rf
   refine an2 h_3 fun kp c=> ?_;clear h_3
   exact⟨⟨S₂.base,rf₂,kp⟩,wAf (c A s₂ fv vs R S₂ rf₂ rs) (T₁.trans T₂)⟩
noncomputable def GM (name:Str) (ov:V) (σ:Sto) (f:V) (first:List V):Prop:=
 ∀(A:Around) (s:Shared) (va:Value) (pl:Sem Bool) (Q:Value×List Value→Shared→Prop),St σ s.heap→RV s.heap va ov→
  (∀fv fs s',Sh s' s→RV s.heap fv f→RVs s.heap fs first→Q (fv,fs) s')→wpAny MM A (getMethod va name pl) Q NoE s
theorem TE_meth {o:Expr}{name:Str}{ap p:Pos}{args:List Expr}{Q:V→Sto→Prop}
  (h:TE d sc o ρ σ fun ov σ₁=>∃f first,GM name ov σ₁ f first∧Kp f∧TEs d sc p args ρ σ₁ fun l σ₂=>CallV d f (first++l) σ₂ Q)
  (hbase:∀env,attributeBase o name env (eval o env)=eval o env:=by intro _;rfl)
  (hfew:∀env,((backTo p (starEach args env)).all (fun x=> !x.1)&&(backToKw p (keywordEach [] env)).all (fun x=>x.1.isSome)
   &&decide (args.length+([]:List Keyword).length+(if([]:List Keyword).isEmpty then 0 else 1)<30))=true:=by intro _;rfl)
  (hline:(ap.endLine==p.line)=true:=by rfl)
  (hn:∀env,(backTo p (starEach args env)).any (·.1)=false:=by intro _;rfl):TE d sc (.Call (.Attribute o name ap) args [] p) ρ σ Q:=
 fun env A s R F S=>by
  rw[arm_eval_Call,hbase env]
  refine vB (wO (h env A s R F S) (fun va s₁ ov σ₁ ro h_3 S₁ T₁=> ?_))
  refine x23 h_3 fun f first g kp h₁=> ?_;clear h_3
  refine vB (wpAny_standAt ?_)
  have hform:methodCallForm (args.length+([]:List Keyword).length) (backTo p (starEach args env)) (backToKw p (keywordEach [] env))=true:=hfew env
  have hpos:methodCallPos true o env ap p=pure p:=by unfold methodCallPos;simp[hline]
  unfold methodCall
  rw[hform]
  refine vB (wpAny_holding (g A s₁ va _ _ S₁ ro fun fv fs s' hs rf rfs=> ?_))
  refine vB (wpAny_of_eq hpos ?_)
  have S':St σ₁ s'.heap:=by rw[hs.heap];exact S₁
  have hz:=h₁ env A s' R (by rw[hs.heap];exact F.aft S T₁) S'
  refine callWith_of (P:=fun h=>(∀b o,B.get? b=some o→h.get? b=some o)∧RV h fv f) (by rw[hn env];rfl) (fun h ⟨k,r⟩=> ?_) (evalArgs_of (hn env) (wL hz (fun vs s₂ l σ₂ rs c S₂ T₂=> ?_)))
  ·refine x12 (kp h k fv r) fun k' a b=> ?_;exact⟨k',a,b _⟩
  ·replace T₂:=(Aft.sh hs).trans T₂
   have rf₂:=T₂.rv S₁ rf
   exact⟨⟨S₂.base,rf₂⟩,wAf (c A s₂ fv _ R S₂ rf₂ ((T₂.rvs S₁ rfs).append rs)) (T₁.trans T₂)⟩
theorem TE_attr {o:Expr}{name:Str}{p:Pos}{Q:V→Sto→Prop}(h:TE d sc o ρ σ fun ov σ₁=>T1 d (fun v=>getAttr v name true) ov σ₁ Q)
  (hbase:∀env,attributeBase o name env (eval o env)=eval o env:=by intro _;rfl):TE d sc (.Attribute o name p) ρ σ Q:=
 fun env A s R F S=>by
  rw[arm_eval_Attribute,hbase env]
  refine vB (wO (h env A s R F S) (fun va s₁ ov σ₁ ro h₁ S₁ T₁=> ?_))
  refine vB (wpAny_standAt (vB (wpAny_holding (wpAny_mono (h₁ A s₁ va R S₁ ro) (fun v s₂ o=> ?_) fun _ _ x=>x))))
  exact vB (wpAny_letTemporaryGo (vP (Out.after T₁ o)))
structure TI (d:Nat)(ov iv:V)(σ:Sto)(Q:V→Sto→Prop):Prop where
 t:T2 d (fun a b=>operate [a,b] (getItem a b)) ov iv σ Q
 s:∀(s:Shared) va,St σ s.heap→RV s.heap va ov→∃T id,s.TypeIs va T∧typeLookup (.type T) "__getitem__"=pure (some (.builtin id))
set_option backward.match.sparseCases true in
theorem TE_sub {o i:Expr}{p:Pos}{Q:V→Sto→Prop}
  (h:TE d sc o ρ σ fun ov σ₁=>TE d sc i ρ σ₁ fun iv σ₂=>T2 d (fun a b=>subscripted i false a b) ov iv σ₂ Q∧(∀(s:Shared) va,St σ₂ s.heap→RV s.heap va ov→∃T id,s.TypeIs va T∧typeLookup (.type T) "__getitem__"=pure (some (.builtin id)))):
  TE d sc (.Subscript o i p) ρ σ Q:=
 fun env A s R F S=>by
  rw[eval_Subscript]
  refine vB (wO (h env A s R F S) (fun va s₁ ov σ₁ ro h₁ S₁ T₁=> ?_))
  refine vB (wpAny_holding (wO (h₁ env A s₁ R (F.aft S T₁) S₁) (fun vi s₂ iv σ₂ ri h_3 S₂ T₂=> ?_)))
  refine an2 h_3 fun h₂ ht=> ?_;clear h_3
  refine vB (wpAny_standAt ?_)
  have ro₂:=T₂.rv S₁ ro
  refine x22 (ht s₂ va S₂ ro₂) fun T id hT hl=> ?_
  have e:getitemInPython va=(do match←specialOf va "__getitem__" with|some (.ref f)=>do pure (match (←load f).data with| .func _=>true|_=>false)|_=>pure false):=getitemInPython_of_ne hT.not_modules
  rw[e]
  refine vB (vB (wpAny_specialOf hT hl (vP ?_)))
  refine vB (wpAny_mono (h₂ A s₂ va vi R S₂ ro₂ ri) (fun v s₃ o=> ?_) fun _ _ x=>x)
  exact vB (wpAny_letTemporaryGo (vP (Out.after (T₁.trans T₂) o)))
end
noncomputable def Loc.puts (ρ:Loc):List (Str×V)→Loc
 | []=>ρ
 |(x,v)::r=>Loc.puts (ρ.put x v) r
noncomputable def Loc.nil:Loc:=fun _=>none
theorem bindL_rel {h:Heap}{kindOf:Str→Option NameKind}{x:Str}(hx:kindOf x=some .local):∀{bs:List (Str×Value)} {l:List (Str×V)},RVKs h bs l→∀{m:Str→Option Value} {ρ:Loc},OR h (m x) (ρ x)→OR h (bindL kindOf bs m x) (ρ.puts l x)
 |_,_,.nil,_,_,r=>r
 |_,_,.cons (k:=k) hv hr,m,ρ,r=>by
  refine bindL_rel hx hr ?_
  by_cases z:x=k
  ·subst z
   rw[if_pos hx]
   dsimp only[Loc.put]
   rw[if_pos rfl,if_pos rfl];exact hv
  ·dsimp only[Loc.put]
   rw[if_neg z]
   by_cases y:kindOf k=some .local
   ·rw[if_pos y,if_neg z];exact r
   ·rw[if_neg y];exact r
theorem bindC_rel {h:Heap}{kindOf:Str→Option NameKind}{x:Str}(hx:kindOf x≠some .local):∀{bs:List (Str×Value)} {l:List (Str×V)},RVKs h bs l→∀{m:Str→Option Value} {ρ:Loc},OR h (m x) (ρ x)→OR h (bindC kindOf bs m x) (ρ.puts l x)
 |_,_,.nil,_,_,r=>r
 |_,_,.cons (k:=k) hv hr,m,ρ,r=>by
  refine bindC_rel hx hr ?_
  by_cases z:x=k
  ·subst z
   rw[if_neg hx]
   dsimp only[Loc.put]
   rw[if_pos rfl,if_pos rfl];exact hv
  ·dsimp only[Loc.put]
   rw[if_neg z]
   by_cases y:kindOf k=some .local
   ·rw[if_pos y];exact r
   ·rw[if_neg y,if_neg z];exact r
theorem RVs.zip {h:Heap}(xs:List Str):∀{vs:List Value} {l:List V},RVs h vs l→RVKs h (xs.zip vs) (xs.zip l):=by
 induction xs with
 |nil=>intro vs l _;rw[List.zip_nil_left,List.zip_nil_left];exact .nil
 |cons x xs ih=>
  intro vs l r
  cases r with
  |nil=>rw[List.zip_nil_right,List.zip_nil_right];exact .nil
  |cons a r=>exact .cons a (ih r)
set_option tactic.hygienic true in
theorem cellsFrom_has {x:Str}:∀(names:Nms) (n:Nat) (acc:List (Str×Addr)),((x,NameKind.cell)∈names∨(acc.lookup x).isSome=true)→((cellsFrom n names acc).lookup x).isSome=true
 | [],_,_,h=>by
  rcases h with h|h
  ·cases h
  ·exact h
 |(y,k)::r,n,acc,h=>by
  unfold cellsFrom
  split
  ·rename_i hk
   refine cellsFrom_has r _ _ ?_
   rcases h with h|h
   ·rcases List.mem_cons.mp h with e|h
    ·right
     have z1:=pI2 e;replace e:=pI1 e;subst e;subst z1
     simp[List.lookup]
    ·exact .inl h
   ·right
    rw[List.lookup_cons]
    split
    ·rfl
    ·exact h
  ·rename_i hk
   refine cellsFrom_has r _ _ ?_
   rcases h with h|h
   ·rcases List.mem_cons.mp h with e|h
    ·have z2:=pI2 e;replace e:=pI1 e;subst e;subst z2;simp at hk
    ·exact .inl h
   ·exact .inr h
theorem mem_of_look {α:Type}:∀{l:List (Str×α)} {x:Str} {k:α},l.lookup x=some k→(x,k)∈l:=fun h=>PySem.mem_of_lookup h
inductive FnAt (a:Addr)(k:Nat)(xs:List Str)(dfl:List V)(sc:Nms)(body:List Stmt):Prop
 |mk (o:Obj) (fd:FuncData) (ho:B.get? a=some o) (hd:o.data= .func fd) (hb:fd.body= .stmts body) (hsc:fd.scope.names=sc) (hkd:fd.scope.kind= .function) (hco:fd.scope.isCoroutine=false) (hgen:fd.scope.isGenerator=false)
  (hclo:fd.closure=[]) (hgl:fd.globals=mainGlobals) (hbi:fd.builtins=builtinsNs) (hcd:B.CodeRec fd.code fd.qualname)
  (hbind:∀(s:Shared) (vals:List Value) (l:List V),(∀b o,B.get? b=some o→s.heap.get? b=some o)→RVs s.heap vals l→l.length=k→
   ∃vs,BindsTo s fd ⟨vals,[]⟩ (xs.zip vs)∧RVs s.heap vs (l++dfl)) (lim:B.NoLimit)
theorem FnAt.kp {a:Addr}{k:Nat}{xs:List Str}{dfl:List V}{sc:Nms}{body:List Stmt}(f:FnAt a k xs dfl sc body):Kp (.ref a):=f.casesOn fun _ _ ho hd _ _ _ _ _ _ _ _ _ _ _=>Kp_fn ho hd
section
variable {d:Nat}{σ:Sto}
noncomputable def backOf (Q:V→Sto→Prop):Fl→Loc→Sto→Prop
 | .ret v,_,σ'=>Q v σ'
 | .next,_,σ'=>Q .none σ'
theorem aG {a:Addr}{k:Nat}{xs:List Str}{dfl as:List V}{sc:Nms}{body:List Stmt}{Q:V→Sto→Prop}(f:FnAt a k xs dfl sc body)(hk:as.length=k)
  (hfree:(sc.all fun p=>p.2 != .free)=true) (hpar:(xs.all fun x=>sc.lookup x==some .local||sc.lookup x==some .cell)=true)
  (h:TS d sc body (Loc.nil.puts (xs.zip (as++dfl))) σ (backOf Q)):CallT (d+1) (.ref a) as σ Q:=by
 intro A s fv vals R S rf rs
 w_dflts rf
 refine f.casesOn fun o fd ho hd hb hsc hkd hco hgen hclo hgl hbi hcd hbind lim=> ?_
 refine x12 (hbind s vals as S.base rs hk) fun vs hbt rvs=> ?_
 have ho':=S.base _ _ ho
 refine codeAny_call_function R.room ho' hd hco hgen hb (hcd.keeps S.base) ?_
 refine hbt _ _ _ _ ?_
 rw[hclo]
 have hmem:∀x∈xs.zip vs,fd.scope.names.lookup x.1=some .local∨(fd.scope.names.lookup x.1=some .cell∧((cellsFrom (s.heap.objs.size+1) fd.scope.names []).lookup x.1).isSome=true):=fun x hx=>by
  have hm:x.1∈xs:=(List.of_mem_zip (a:=x.1) (b:=x.2) hx).1
  have z:=lA hpar x.1 hm
  rw[hsc]
  rcases(Bool.or_eq_true _ _).mp z with z|z
  ·exact .inl (beq_iff_eq.mp z)
  ·have z:=beq_iff_eq.mp z
   exact .inr ⟨z,cellsFrom_has _ _ _ (.inl (mem_of_look z))⟩
 refine wpAny_newFunctionEnv_cells hkd hmem fun env he s' x=> ?_
 have hnm:env.scope.names=sc:=by rw[he];exact hsc
 have hkof:∀y,env.kindOf y=sc.lookup y:=fun y=>by unfold Env.kindOf;rw[hnm]
 obtain⟨⟨hsame,hns,hkeep,hfresh⟩,hcell,hapart,habove⟩:=x
 have kt:∀b o,s.heap.get? b=some o→IsTupO o→s'.heap.get? b=some o:=fun b o e _=>hkeep b o e
 have rz:=(rvs.mono kt).zip xs
 have fresh:∀b,own env b→s.heap.get? b=none:=fun b hb=>by
  have le:s.heap.objs.size≤b:=by
   rcases hb with rfl|⟨y,hy⟩
   ·exact hfresh
   ·have:=habove y b (mem_of_look hy);exact nT hfresh (Nat.le_of_lt this)
  induction q:s.heap.get? b using Option.casesOn with
  |none=>rfl
  |some o=>exact absurd (Heap.lt_size q) (Nat.not_lt.mpr le)
 have F:FR sc env (Loc.nil.puts (xs.zip (as++dfl))) σ s'.heap:=by
  refine⟨hnm,by rw[he];exact hkd,by rw[he];exact hgl,by rw[he];exact hbi,⟨_,hns,fun y hy=>bindL_rel (by rw[hkof];exact hy) rz trivial⟩,fun y hy=> ?_,fun y z c h1 h2=> ?_,fun y c hc=>⟨_,hcell y c hc⟩,
   S.fresh (fresh _ (.inl rfl)),fun y c hc=>S.fresh (fresh c (.inr ⟨y,hc⟩)),fun b hb=> ?_⟩
  ·have hy':sc.lookup y=some .cell:=by
    rcases hy with hy|hy
    ·exact hy
    ·have:=lA hfree (y,.free) (mem_of_look hy)
     simp at this
   have hs:(env.cells.lookup y).isSome=true:=by
    rw[he]
    show((cellsFrom (s.heap.objs.size+1) fd.scope.names []).lookup y).isSome=true
    rw[hsc]
    exact cellsFrom_has _ _ _ (.inl (mem_of_look hy'))
   refine x11 (Option.isSome_iff_exists.mp hs) fun c hc=> ?_
   exact⟨c,_,hc,hcell y c hc,bindC_rel (by rw[hkof,hy'];simp) rz trivial⟩
  ·exact PySem.name_of_addr hapart (mem_of_look h1) (mem_of_look h2)
  ·induction q:B.get? b using Option.casesOn with
   |none=>rfl
   |some o=>have:=S.base b o q;rw[fresh b hb] at this;exact nS this
 refine⟨(lim.keeps S.base).keeps hkeep,codeAny_func ?_⟩
 have S':St σ s'.heap:=S.grow hkeep
 refine wS (h env (A.deeper env) s' (R.deeper env) F S') (fun fl s'' fl' ρ' σ' rfl' q F' S'' T=> ?_)
 have T':Aft σ s σ' s'':=by
  refine x21 hsame fun _ _ z4=> ?_;clear hsame;subst z4
  refine⟨fun b o e n=>T.keep b o (hkeep b o e) n fun hb=> ?_,fun b e n=> ?_,T.os,T.gens⟩
  ·rw[fresh b hb] at e;exact nS e
  ·induction z:s.heap.get? b using Option.casesOn with
   |none=>exact absurd z e
   |some o=>exact T.dom b (by rw[hkeep b o z];simp) n
 cases rfl' with
 |next=>exact⟨.none,rfl,.none,σ',.none,q,S'',T'⟩
 |ret r=>exact⟨_,rfl,_,σ',r,q,S'',T'⟩
end
mutual
noncomputable def V.py:V→PyData
 | .none=> .none
 | .bool b=> .bool b
 | .int i=> .int i
 | .str s=> .str s
 | .tup l=> .tuple (V.pys l)
 | .ref _=> .none
 | .ty _=> .none
 | .bi _=> .none
noncomputable def V.pys:List V→List PyData
 | []=> []
 |x::l=>x.py::V.pys l
end
mutual
noncomputable def V.gr:V→Bool
 | .none=>true
 | .int _=>true
 | .str s=>PyData.strOk s
 | .tup l=>V.grs l
 | .bool _=>false
 | .ref _=>false
 | .ty _=>false
 | .bi _=>false
noncomputable def V.grs:List V→Bool
 | []=>true
 |x::l=>x.gr&&V.grs l
end
mutual
noncomputable def V.dep:V→Nat
 | .tup l=>V.deps l+1
 | .none=>0
 | .bool _=>0
 | .int _=>0
 | .str _=>0
 | .ref _=>0
 | .ty _=>0
 | .bi _=>0
noncomputable def V.deps:List V→Nat
 | []=>0
 |x::l=>max x.dep (V.deps l)
end
theorem grs_cons {x:V}{l:List V}(h:V.grs (x::l)=true):x.gr=true∧V.grs l=true:=bA h
mutual
theorem V.lay:∀{x:V},x.gr=true→x.py.canLay0=true
 | .none,_=>rfl
 | .int _,_=>rfl
 | .str _,h=>h
 | .tup l,h=>V.lays (l:=l) h
 | .bool _,h=>nB h
 | .ref _,h=>nB h
 | .ty _,h=>nB h
 | .bi _,h=>nB h
theorem V.lays:∀{l:List V},V.grs l=true→PyData.canLayAll0 (V.pys l)=true
 | [],_=>rfl
 |_::_,h=>ban (V.lay (grs_cons h).1) (V.lays (grs_cons h).2)
end
mutual
theorem V.dep_py:∀x:V,x.py.depth=x.dep
 | .none=>rfl
 | .bool _=>rfl
 | .int _=>rfl
 | .str _=>rfl
 | .tup l=>congrArg (·+1) (V.deps_py l)
 | .ref _=>rfl
 | .ty _=>rfl
 | .bi _=>rfl
theorem V.deps_py:∀l:List V,PyData.depthAll (V.pys l)=V.deps l
 | []=>rfl
 |x::l=>congr (congrArg max (V.dep_py x)) (V.deps_py l)
end
theorem iffN {a:Prop}{b:Bool}(h:b=false)(k:¬a):b=true↔a:=⟨fun e=>nB (h.symm.trans e),fun x=>absurd x k⟩
mutual
theorem V.eqv_iff:∀{x y:V},x.gr=true→y.gr=true→(PyData.eqv x.py y.py=true↔x=y)
 | .none,.none,_,_=>⟨fun _=>rfl,fun _=>rfl⟩
 | .none,.int _,_,_=>iffN rfl nofun
 | .none,.str _,_,_=>iffN rfl nofun
 | .none,.tup _,_,_=>iffN rfl nofun
 | .int _,.none,_,_=>iffN rfl nofun
 | .int _,.int _,_,_=>⟨fun h=>congrArg V.int (eq_of_beq h),fun h=>V.int.inj h▸beq_self_eq_true _⟩
 | .int _,.str _,_,_=>iffN rfl nofun
 | .int _,.tup _,_,_=>iffN rfl nofun
 | .str _,.none,_,_=>iffN rfl nofun
 | .str _,.int _,_,_=>iffN rfl nofun
 | .str _,.str _,_,_=>⟨fun h=>congrArg V.str (eq_of_beq h),fun h=>V.str.inj h▸beq_self_eq_true _⟩
 | .str _,.tup _,_,_=>iffN rfl nofun
 | .tup _,.none,_,_=>iffN rfl nofun
 | .tup _,.int _,_,_=>iffN rfl nofun
 | .tup _,.str _,_,_=>iffN rfl nofun
 | .tup l,.tup m,h,k=>(V.eqvs_iff (l:=l) (m:=m) h k).trans ⟨congrArg V.tup,fun e=>V.tup.inj e⟩
 | .bool _,_,h,_=>nB h
 | .ref _,_,h,_=>nB h
 | .ty _,_,h,_=>nB h
 | .bi _,_,h,_=>nB h
 |_,.bool _,_,h=>nB h
 |_,.ref _,_,h=>nB h
 |_,.ty _,_,h=>nB h
 |_,.bi _,_,h=>nB h
theorem V.eqvs_iff:∀{l m:List V},V.grs l=true→V.grs m=true→(PyData.eqvAll (V.pys l) (V.pys m)=true↔l=m)
 | [],[],_,_=>⟨fun _=>rfl,fun _=>rfl⟩
 | [],_::_,_,_=>iffN rfl nofun
 |_::_,[],_,_=>iffN rfl nofun
 |_::_,_::_,h,k=>(Bool.and_eq_true_iff.trans (and_congr (V.eqv_iff (grs_cons h).1 (grs_cons k).1) (V.eqvs_iff (grs_cons h).2 (grs_cons k).2))).trans ⟨fun e=>congr (congrArg List.cons e.1) e.2,fun e=>⟨cI1 e,cI2 e⟩⟩
end
theorem RV.reads {h:Heap}{v:Value}{x:V}(r:RV h v x):x.gr=true→∃as,Reads h v x.py as:=
 RV.rec (motive_1:=fun v x _=>x.gr=true→∃as,Reads h v x.py as) (motive_2:=fun vs l _=>V.grs l=true→∃as,ReadsAll h vs (V.pys l) as) (fun _=>⟨_,.none⟩) (fun _ g=>nB g) (fun i t _=>⟨_,.int i t⟩) (fun s t _=>⟨_,.str s t⟩)
  (fun e _ ih g=>(ih g).elim fun as ra=>⟨as,.tuple e rfl rfl (by simpa using ra)⟩) (fun _ g=>nB g) (fun _ g=>nB g) (fun _ g=>nB g) (fun _=>⟨_,.nil⟩) (fun _ _ ia il g=>(ia (grs_cons g).1).elim fun _ ra=>(il (grs_cons g).2).elim fun _ rb=>⟨_,.cons ra rb⟩) r
theorem RVs.reads {h:Heap}{vs:List Value}{l:List V}(r:RVs h vs l):V.grs l=true→∃as,ReadsAll h vs (V.pys l) as:=
 r.ind (P:=fun vs l=>V.grs l=true→∃as,ReadsAll h vs (V.pys l) as) (fun _=>⟨_,.nil⟩) fun a _ il g=>(a.reads (grs_cons g).1).elim fun _ ra=>(il (grs_cons g).2).elim fun _ rb=>⟨_,.cons ra rb⟩
theorem V.grs_all (l:List V):V.grs l=l.all V.gr:=by
 induction l with
 |nil=>rfl
 |cons x l ih=>exact congrArg (x.gr&& ·) ih
theorem V.grs_of {l:List V}(h:∀x∈l,x.gr=true):V.grs l=true:=(V.grs_all l).trans (List.all_eq_true.mpr h)
theorem V.any_eqv {x:V}(hx:x.gr=true){l:List V}:V.grs l=true→(((V.pys l).any fun y=>PyData.eqv y x.py)=true↔x∈l):=by
 induction l with
 |nil=>exact fun _=>iffN rfl nofun
 |cons y l ih=>exact fun h=>Bool.or_eq_true_iff.trans ((or_congr ((V.eqv_iff (grs_cons h).1 hx).trans eq_comm) (ih (grs_cons h).2)).trans List.mem_cons.symm)
section
variable {d:Nat}{sc:Nms}{ρ:Loc}{σ:Sto}
theorem here {Q:V→Sto→Prop}{val:Value}{v:V}{s s':Shared}(S:St σ s.heap)(e:s'.heap=s.heap)(r:RV s.heap val v)(q:Q v σ)(os:s'.os=s.os:=by rfl)(gens:s'.gens=s.gens:=by rfl):Out σ s Q val s':=out_here e S r q os gens
theorem bool_of_iff {a b:Bool}{P:Prop}(ha:a=true↔P)(hb:b=true↔P):a=b:=Bool.eq_iff_iff.mpr (ha.trans hb.symm)
theorem ltLine {a b:Nat}(h:a+500<cLine)(k:b≤500):a+b<cLine:=Nat.lt_of_le_of_lt (Nat.add_le_add_left k a) h
theorem ltLine1 {a b:Nat}(h:a+500<cLine)(k:b≤499):a+1+b<cLine:=by rw[Nat.add_assoc];exact ltLine h (Nat.add_comm 1 b▸Nat.succ_le_succ k)
theorem T2_eq {a b:V}{r:Bool}{Q:V→Sto→Prop}(hr:r=true↔a=b)(ha:a.gr=true)(hb:b.gr=true)(hd:min a.dep b.dep≤400)(q:Q (.bool r) σ):T2 d (compareOp .Eq) a b σ Q:=
 fun A s va vb R S ra rb=>by
  refine x11 (ra.reads ha) fun as xa=> ?_
  refine x11 (rb.reads hb) fun bs xb=> ?_
  refine SeqAt.compareEq_reads xa xb (V.lay ha) (V.lay hb) (by rw[V.dep_py,V.dep_py];exact ltLine R.line (lt3 hd)) ?_
  rw[bool_of_iff (V.eqv_iff ha hb) hr]
  exact here S rfl (.bool _) q
theorem T2_ne {a b:V}{r:Bool}{Q:V→Sto→Prop}(hr:r=true↔a=b)(ha:a.gr=true)(hb:b.gr=true)(hd:min a.dep b.dep≤400)(q:Q (.bool (!r)) σ):T2 d (compareOp .NotEq) a b σ Q:=
 fun A s va vb R S ra rb=>by
  refine x11 (ra.reads ha) fun as xa=> ?_
  refine x11 (rb.reads hb) fun bs xb=> ?_
  refine SeqAt.compareNe_reads xa xb (V.lay ha) (V.lay hb) (by rw[V.dep_py,V.dep_py];exact ltLine R.line (lt3 hd)) ?_
  rw[bool_of_iff (V.eqv_iff ha hb) hr]
  exact here S rfl (.bool _) q
theorem RO.list_reads {h:Heap}{a:Addr}{l:List V}(x:RO h a (.list l))(g:V.grs l=true):∃as,Reads h (.ref a) (.list (V.pys l)) as:=by
 refine x12 x fun vs z1 r=> ?_;clear x;refine x11 z1 fun n p=> ?_;clear z1
 refine x11 (r.reads g) fun as ra=> ?_
 exact⟨_,.list p rfl rfl (by simpa using ra)⟩
theorem T2_in_list {x:V}{a:Addr}{l:List V}{r:Bool}{Q:V→Sto→Prop}(hl:σ a=some (.list l))(hr:r=true↔x∈l)(hx:x.gr=true)(hg:V.grs l=true)(hd:x.dep≤400)(q:Q (.bool r) σ):T2 d (compareOp .In) x (.ref a) σ Q:=
 fun A s va vb R S ra rb=>by
  w_dflts rb
  refine x11 (ra.reads hx) fun as xa=> ?_
  refine x11 ((S.obj _ _ hl).list_reads hg) fun bs xb=> ?_
  refine SeqAt.in_list_reads xb xa (V.lays hg) (V.lay hx) (by rw[V.dep_py];exact ltLine1 R.line (l_min' (lt3 hd))) ?_
  rw[bool_of_iff (V.any_eqv hx hg) hr]
  exact here S rfl (.bool _) q
theorem T2_notin_list {x:V}{a:Addr}{l:List V}{r:Bool}{Q:V→Sto→Prop}(hl:σ a=some (.list l))(hr:r=true↔x∈l)(hx:x.gr=true)(hg:V.grs l=true)(hd:x.dep≤400)(q:Q (.bool (!r)) σ):T2 d (compareOp .NotIn) x (.ref a) σ Q:=
 fun A s va vb R S ra rb=>by
  w_dflts rb
  refine x11 (ra.reads hx) fun as xa=> ?_
  refine x11 ((S.obj _ _ hl).list_reads hg) fun bs xb=> ?_
  refine SeqAt.notIn_list_reads xb xa (V.lays hg) (V.lay hx) (by rw[V.dep_py];exact ltLine1 R.line (l_min' (lt3 hd))) ?_
  rw[bool_of_iff (V.any_eqv hx hg) hr]
  exact here S rfl (.bool _) q
theorem T2_in_tup {x:V}{l:List V}{r:Bool}{Q:V→Sto→Prop}(hr:r=true↔x∈l)(hx:x.gr=true)(hg:V.grs l=true)(hd:x.dep≤400)(q:Q (.bool r) σ):T2 d (compareOp .In) x (.tup l) σ Q:=
 fun A s va vb R S ra rb=>by
  refine x11 (ra.reads hx) fun as xa=> ?_
  refine x11 (rb.reads hg) fun bs xb=> ?_
  refine SeqAt.in_tuple_reads xb xa (V.lays hg) (V.lay hx) (by rw[V.dep_py];exact ltLine1 R.line (l_min' (lt3 hd))) ?_
  rw[bool_of_iff (V.any_eqv hx hg) hr]
  exact here S rfl (.bool _) q
theorem T2_notin_tup {x:V}{l:List V}{r:Bool}{Q:V→Sto→Prop}(hr:r=true↔x∈l)(hx:x.gr=true)(hg:V.grs l=true)(hd:x.dep≤400)(q:Q (.bool (!r)) σ):T2 d (compareOp .NotIn) x (.tup l) σ Q:=
 fun A s va vb R S ra rb=>by
  refine x11 (ra.reads hx) fun as xa=> ?_
  refine x11 (rb.reads hg) fun bs xb=> ?_
  refine SeqAt.notIn_tuple_reads xb xa (V.lays hg) (V.lay hx) (by rw[V.dep_py];exact ltLine1 R.line (l_min' (lt3 hd))) ?_
  rw[bool_of_iff (V.any_eqv hx hg) hr]
  exact here S rfl (.bool _) q
theorem bools_reads {h:Heap}{bs:List Bool}:∀{vs:List Value},RVs h vs (bs.map V.bool)→ReadsAll h vs (bs.map PyData.bool) []:=by
 induction bs with
 |nil=>intro vs r;w_dflts r;exact .nil
 |cons b bs ih=>intro vs r;exact RVs.consE r fun v ws a r=>a.bool_inv▸ .cons (.bool b) (ih r)
theorem bools_lay (bs:List Bool):PyData.canLayAll0 (bs.map PyData.bool)=true:=by
 induction bs with
 |nil=>rfl
 |cons b bs ih=>exact ih
theorem bools_any (b:Bool)(bs:List Bool):((bs.map PyData.bool).any fun y=>PyData.eqv y (.bool b))=bs.contains b:=by
 induction bs with
 |nil=>rfl
 |cons c bs ih=>exact congr (congrArg or (by induction b using Bool.casesOn<;>cases c<;>rfl)) ih
theorem T2_in_bools {b:Bool}{a:Addr}{bs:List Bool}{Q:V→Sto→Prop}(hl:σ a=some (.list (bs.map V.bool)))(q:Q (.bool (bs.contains b)) σ):T2 d (compareOp .In) (.bool b) (.ref a) σ Q:=
 fun A s va vb R S ra rb=>by
  w_dflts rb;w_dflts ra
  refine x12 (S.obj _ _ hl) fun vs z2 r=> ?_;refine x11 z2 fun n p=> ?_;clear z2
  have xb:Reads s.heap (.ref a) (.list (bs.map PyData.bool)) _:= .list p rfl rfl (by simpa using bools_reads r)
  refine SeqAt.in_list_reads xb (.bool b) (bools_lay bs) rfl (ltLine1 R.line (l_min' (Nat.zero_le _))) ?_
  rw[bools_any]
  exact here S rfl (.bool _) q
theorem T2_notin_bools {b:Bool}{a:Addr}{bs:List Bool}{Q:V→Sto→Prop}(hl:σ a=some (.list (bs.map V.bool)))(q:Q (.bool (!bs.contains b)) σ):T2 d (compareOp .NotIn) (.bool b) (.ref a) σ Q:=
 fun A s va vb R S ra rb=>by
  w_dflts rb;w_dflts ra
  refine x12 (S.obj _ _ hl) fun vs z3 r=> ?_;refine x11 z3 fun n p=> ?_;clear z3
  have xb:Reads s.heap (.ref a) (.list (bs.map PyData.bool)) _:= .list p rfl rfl (by simpa using bools_reads r)
  refine SeqAt.notIn_list_reads xb (.bool b) (bools_lay bs) rfl (ltLine1 R.line (l_min' (Nat.zero_le _))) ?_
  rw[bools_any]
  exact here S rfl (.bool _) q
theorem RO.isList {h:Heap}{a:Addr}{l:List V}(x:RO h a (.list l)):∃vs:List Value,h.IsList a vs.toArray∧RVs h vs l:=by
 refine x12 x fun vs z4 r=> ?_;clear x;refine x11 z4 fun n p=> ?_;clear z4
 exact⟨vs,⟨_,p,rfl,_,rfl⟩,r⟩
theorem T2_eq_nil {a b:Addr}{l:List V}{r:Bool}{Q:V→Sto→Prop}(ha:σ a=some (.list l))(hb:σ b=some (.list []))(hr:r=true↔l=[])(q:Q (.bool r) σ):T2 d (compareOp .Eq) (.ref a) (.ref b) σ Q:=
 fun A s va vb R S ra rb=>by
  w_dflts ra;w_dflts rb
  refine x12 ((S.obj _ _ ha).isList) fun vs la rs=> ?_
  refine x12 ((S.obj _ _ hb).isList) fun ws lb rw_=> ?_
  cases rw_
  have hu:A.units<cLine:=ltLine R.line (Nat.zero_le 500)
  induction l using List.casesOn with
  |nil=>
   w_dflts rs
   obtain rfl:r=true:=hr.mpr rfl
   exact SeqAt.eq_listAt (e:=fun _=>true) la lb rfl hu (fun j h1 _=>absurd h1 (Nat.not_lt_zero _)) (here S rfl (.bool _) q)
  |cons x l=>
   cases rs with
   |cons _ _=>
    obtain rfl:r=false:=Bool.eq_false_iff.mpr fun e=>nL' (hr.mp e)
    exact SeqAt.eq_list_lengthsAt la lb (by simp) hu (here S rfl (.bool _) q)
theorem T2_ne_nil {a b:Addr}{l:List V}{r:Bool}{Q:V→Sto→Prop}(ha:σ a=some (.list l))(hb:σ b=some (.list []))(hr:r=true↔l=[])(q:Q (.bool (!r)) σ):T2 d (compareOp .NotEq) (.ref a) (.ref b) σ Q:=
 fun A s va vb R S ra rb=>by
  w_dflts ra;w_dflts rb
  refine x12 ((S.obj _ _ ha).isList) fun vs la rs=> ?_
  refine x12 ((S.obj _ _ hb).isList) fun ws lb rw_=> ?_
  cases rw_
  have hu:A.units<cLine:=by have:=R.line;lia
  induction l using List.casesOn with
  |nil=>
   w_dflts rs
   obtain rfl:r=true:=hr.mpr rfl
   exact SeqAt.RcNeAt.lists (e:=fun _=>true) la lb rfl hu (fun j h1 _=>absurd h1 (Nat.not_lt_zero _)) _ _ _ _ (here S rfl (.bool _) q)
  |cons x l=>
   cases rs with
   |cons _ _=>
    obtain rfl:r=false:=by induction r using Bool.casesOn with|false=>rfl|true=>cases hr.mp rfl
    exact SeqAt.RcNeAt.lists_lengths la lb (by simp) hu _ _ _ _ (here S rfl (.bool _) q)
noncomputable def V.isN:V→Bool
 | .none=>true
 |_=>false
noncomputable def V.noBi:V→Bool
 | .bi _=>false
 |_=>true
theorem T2_is_none {a:V}{Q:V→Sto→Prop}(ha:a.noBi=true)(q:Q (.bool a.isN) σ):T2 d (compareOp .Is) a .none σ Q:=
 fun A s va vb R S ra rb=>by
  w_dflts rb
  cases ra<;>first|exact wpAny_is_plain rfl (here S rfl (.bool _) q)|cases ha
theorem T2_isnot_none {a:V}{Q:V→Sto→Prop}(ha:a.noBi=true)(q:Q (.bool (!a.isN)) σ):T2 d (compareOp .IsNot) a .none σ Q:=
 fun A s va vb R S ra rb=>by
  w_dflts rb
  cases ra<;>first|exact wpAny_isNot_plain rfl (here S rfl (.bool _) q)|cases ha
theorem T2_add_int {a b:Int}{Q:V→Sto→Prop}(q:Q (.int (a+b)) σ):T2 d (binaryOp .Add) (.int a) (.int b) σ Q:=
 fun A s va vb R S ra rb=>by w_dflts ra;w_dflts rb;exact add_int (here S rfl (.int _ _) q)
theorem T2_sub_int {a b:Int}{Q:V→Sto→Prop}(q:Q (.int (a-b)) σ):T2 d (binaryOp .Sub) (.int a) (.int b) σ Q:=
 fun A s va vb R S ra rb=>by w_dflts ra;w_dflts rb;exact sub_int (here S rfl (.int _ _) q)
theorem T2_lt_int {a b:Int}{Q:V→Sto→Prop}(q:Q (.bool (decide (a<b))) σ):T2 d (compareOp .Lt) (.int a) (.int b) σ Q:=
 fun A s va vb R S ra rb=>by w_dflts ra;w_dflts rb;exact PySem.P.lt_int (here S rfl (.bool _) q)
theorem T2_le_int {a b:Int}{Q:V→Sto→Prop}(q:Q (.bool (decide (a≤b))) σ):T2 d (compareOp .LtE) (.int a) (.int b) σ Q:=
 fun A s va vb R S ra rb=>by w_dflts ra;w_dflts rb;exact PySem.P.le_int (here S rfl (.bool _) q)
theorem T2_gt_int {a b:Int}{Q:V→Sto→Prop}(q:Q (.bool (decide (a>b))) σ):T2 d (compareOp .Gt) (.int a) (.int b) σ Q:=
 fun A s va vb R S ra rb=>by w_dflts ra;w_dflts rb;exact PySem.P.gt_int (here S rfl (.bool _) q)
theorem T2_ge_int {a b:Int}{Q:V→Sto→Prop}(q:Q (.bool (decide (a≥b))) σ):T2 d (compareOp .GtE) (.int a) (.int b) σ Q:=
 fun A s va vb R S ra rb=>by w_dflts ra;w_dflts rb;exact PySem.P.ge_int (here S rfl (.bool _) q)
theorem T2_mod_int {a b:Int}{Q:V→Sto→Prop}(hb:b≠0)(q:Q (.int (a.fmod b)) σ):T2 d (binaryOp .Mod) (.int a) (.int b) σ Q:=
 fun A s va vb R S ra rb=>by w_dflts ra;w_dflts rb;exact mod_int hb (here S rfl (.int _ _) q)
set_option tactic.hygienic true in
theorem T2_add_str {a b:Str}{Q:V→Sto→Prop}(hz:(a++b).length≤sizeLine)(q:Q (.str (a++b)) σ):T2 d (binaryOp .Add) (.str a) (.str b) σ Q:=
 fun A s va vb R S ra rb=>by
  w_dflts ra;w_dflts rb
  refine PySem.P.add_str ?_
  split
  ·rename_i h
   have:a++b=b:=by
    obtain⟨⟨l⟩⟩:=a
    have:l=[]:=by simpa[Str.length] using h
    subst this
    exact PySem.Str.empty_append b
   rw[this] at q
   exact here S rfl (.str _ _) q
  ·split
   ·rename_i h
    have:a++b=a:=by
     obtain⟨⟨l⟩⟩:=b
     have:l=[]:=by simpa[Str.length] using h
     subst this
     exact PySem.Str.append_empty a
    rw[this] at q
    exact here S rfl (.str _ _) q
   ·exact⟨hz,here S rfl (.str _ _) q⟩
theorem toArray_empty {vs:List Value}(h:vs.toArray.isEmpty=true):vs=[]:=by simpa using h
theorem T2_add_tup {a b:List V}{Q:V→Sto→Prop}(hz:(a++b).length≤sizeLine)(q:Q (.tup (a++b)) σ):T2 d (binaryOp .Add) (.tup a) (.tup b) σ Q:=
 fun A s va vb R S ra rb=>by
  cases ra with
  | @tup ta vs _ na ea ra=>
  cases rb with
  | @tup tb ws _ nb eb rb=>
  have hl:vs.length+ws.length≤sizeLine:=by rw[ra.length,rb.length];simpa using hz
  by_cases h1:vs.toArray.isEmpty=true
  ·have:=toArray_empty h1
   subst this
   w_dflts ra
   exact concat_meets ⟨_,ea,rfl⟩ ⟨_,eb,rfl⟩ noFill_tuple_add seq_tuple_add PySem.F.slot_tuple_add PySem.F.entry_tuple_add (PySem.F.args_tuple_add_2 _ _) (AutoSeq1.tuple___add___tuple_tuple_0 _ _ na _ _ nb h1) ⟨ea,eb,here S rfl (.tup eb rb) q⟩
  ·by_cases h2:ws.toArray.isEmpty=true
   ·have:=toArray_empty h2
    subst this
    w_dflts rb
    rw[List.append_nil] at q
    exact concat_meets ⟨_,ea,rfl⟩ ⟨_,eb,rfl⟩ noFill_tuple_add seq_tuple_add PySem.F.slot_tuple_add PySem.F.entry_tuple_add (PySem.F.args_tuple_add_2 _ _) (AutoSeq1.tuple___add___tuple_tuple_1 _ _ na _ _ nb h1 h2) ⟨ea,eb,here S rfl (.tup ea ra) q⟩
   ·refine PySem.P.add_tuple ea eb h1 h2 ?_ (by simpa using hl)
    have k:=aN (h:=s.heap) ({cls:= .type "tuple",data:= .seq (vs.toArray++ws.toArray)}:Obj)
    have rr:=(ra.append rb).mono fun b o e _=>k b o e
    exact⟨_,σ,.tup (vs:=vs++ws) (n:=0) (by rw[←List.append_toArray];exact Heap.get?_push_size _ rfl) rr,q,S.push _,Aft.push _ _ _⟩
theorem RO.plain {h:Heap}{a:Addr}{l:List V}(x:RO h a (.list l)):∃(vs:List Value) (n:Nat),h.get? a=some {cls:= .type "list",data:= .seq vs.toArray n}∧RVs h vs l:=by
 refine x12 x fun vs z1 r=> ?_;clear x;refine x11 z1 fun n p=> ?_;clear z1;exact⟨vs,n,p,r⟩
theorem T2_add_list {a b:Addr}{l m:List V}{Q:V→Sto→Prop}(ha:σ a=some (.list l))(hb:σ b=some (.list m))(hz:(l++m).length≤sizeLine)(q:∀c,σ c=none→Q (.ref c) (σ.put c (.list (l++m)))):
  T2 d (binaryOp .Add) (.ref a) (.ref b) σ Q:=
 fun A s va vb R S ra rb=>by
  w_dflts ra;w_dflts rb
  refine x22 ((S.obj _ _ ha).plain) fun vs n p ra=> ?_
  refine x22 ((S.obj _ _ hb).plain) fun ws n' p' rb=> ?_
  have hl:vs.length+ws.length≤sizeLine:=by rw[ra.length,rb.length];simpa using hz
  refine PySem.P.add_list p p' ?_ (by simpa using hl)
  have k:=aN (h:=s.heap) ({cls:= .type "list",data:= .seq (vs.toArray++ws.toArray)}:Obj)
  have rr:=(ra.append rb).mono fun b o e _=>k b o e
  have nn:=get_size s.heap
  exact⟨.ref _,σ.put s.heap.objs.size (.list (l++m)),.ref _,q _ (S.fresh nn),S.add k nn ⟨vs++ws,⟨0,by rw[←List.append_toArray];exact Heap.get?_push_size _ rfl⟩,rr⟩,Aft.add k nn _⟩
theorem GM_list {name:Str}{id:String}{a:Addr}{l:List V}(slot:Slot "list" name id)(ty:typeOf (.builtin id)=pure (.type "method_descriptor"))(ha:σ a=some (.list l)):GM name (.ref a) σ (.bi id) [.ref a]:=
 fun A s va pl Q S r k=>by
  w_dflts r
  refine x22 ((S.obj _ _ ha).plain) fun vs n p _=> ?_
  refine getMethod_builtin ⟨_,p,rfl⟩ PySem.F.plainAttrs_list slot ty (fun a e=>by cases e;exact⟨_,p,rfl⟩) (k _ _ _ ⟨rfl,rfl,rfl⟩ (.bi _) (.cons (.ref _) .nil))
theorem GM_append {a:Addr}{l:List V}(ha:σ a=some (.list l)):GM "append" (.ref a) σ (.bi "list.append") [.ref a]:=GM_list PySem.F.slot_list_append PySem.type_list_append ha
theorem GM_extend {a:Addr}{l:List V}(ha:σ a=some (.list l)):GM "extend" (.ref a) σ (.bi "list.extend") [.ref a]:=GM_list PySem.F.slot_list_extend PySem.F.type_list_extend ha
theorem GM_pop {a:Addr}{l:List V}(ha:σ a=some (.list l)):GM "pop" (.ref a) σ (.bi "list.pop") [.ref a]:=GM_list PySem.F.slot_list_pop PySem.F.type_list_pop ha
theorem list_set {a:Addr}{l l':List V}{s:Shared}{f:Obj→Obj}{vs':List Value}{n':Nat}{val:Value}{v:V}{Q:V→Sto→Prop}(S:St σ s.heap)(ha:σ a=some (.list l)){vs:List Value}{n:Nat}
  (p:s.heap.get? a=some {cls:= .type "list",data:= .seq vs.toArray n}) (e:f {cls:= .type "list",data:= .seq vs.toArray n}={cls:= .type "list",data:= .seq vs'.toArray n'}) (r:RVs s.heap vs' l') (rv:RV s.heap val v) (q:Q v (σ.put a (.list l'))) {s':Shared} (hs:s'.heap=s.heap.update a f)
  (os:s'.os=s.os:=by rfl) (gens:s'.gens=s.gens:=by rfl):Out σ s Q val s':=by
 have sb:Heap.SameBut a s.heap (s.heap.update a f):=Heap.SameBut.update ..
 have kt:∀b o,s.heap.get? b=some o→IsTupO o→(s.heap.update a f).get? b=some o:=fun b o e ht=>(sb.2 b fun z=>by subst z;have:=S.tup_free e ht;rw[this] at ha;exact nS ha).trans e
 have g:(s.heap.update a f).get? a=some {cls:= .type "list",data:= .seq vs'.toArray n'}:=by
  rw[Heap.get?_update_self _ p (by rw[e];rfl),e]
 rw[←hs] at sb kt g
 exact⟨v,_,rv.mono kt,q,S.set sb ha ⟨vs',⟨n',g⟩,r.mono kt⟩,Aft.set sb _ ha os gens⟩
theorem mapSeq_push (vs:List Value)(n:Nat)(v:Value):Obj.mapSeq (fun xs=>xs.push v) {cls:= .type "list",data:= .seq vs.toArray n}={cls:= .type "list",data:= .seq (vs++ [v]).toArray (n+1)}:=by
 have e:(vs.length+1==vs.length)=false:=by simp
 simp[Obj.mapSeq,e]
theorem mapSeq_app (vs ws:List Value)(n:Nat):∃n',Obj.mapSeq (fun xs=>xs++ws.toArray) {cls:= .type "list",data:= .seq vs.toArray n}={cls:= .type "list",data:= .seq (vs++ws).toArray n'}:=by
 refine⟨if(vs++ws).toArray.size==vs.toArray.size then n else n+1,?_⟩
 simp only[Obj.mapSeq,List.append_toArray]
theorem C_append {a:Addr}{l:List V}{v:V}{Q:V→Sto→Prop}(ha:σ a=some (.list l))(hz:l.length≤sizeLine)(q:Q .none (σ.put a (.list (l++ [v])))):CallV d (.bi "list.append") [.ref a,v] σ Q:=
 fun A s fv vs R S rf rs=>by
  w_dflts rf
  refine RVs.consE rs fun _ _ r0 rs=> ?_
  w_dflts r0
  cases rs with
  | @cons va _ _ _ r1 rs=>
  w_dflts rs
  refine x22 ((S.obj _ _ ha).plain) fun ws n p rr=> ?_
  refine call_meets PySem.F.slot_list_append ⟨_,p,rfl⟩ PySem.F.entry_list_append (PySem.F.args_list_append_2 _ _) (PySem.list_append a ws.toArray n va (by simpa[rr.length] using hz)) ⟨p,?_⟩
  exact list_set S ha p (mapSeq_push ws n va) (rr.append (.cons r1 .nil)) .none q rfl
theorem C_extend {a b:Addr}{l m:List V}{Q:V→Sto→Prop}(ha:σ a=some (.list l))(hb:σ b=some (.list m))(hz:(l++m).length≤sizeLine)(q:Q .none (σ.put a (.list (l++m)))):CallV d (.bi "list.extend") [.ref a,.ref b] σ Q:=
 fun A s fv vs R S rf rs=>by
  w_dflts rf
  refine RVs.consE rs fun _ _ r0 rs=> ?_
  w_dflts r0
  cases rs with
  | @cons va _ _ _ r1 rs=>
  w_dflts r1
  w_dflts rs
  refine x22 ((S.obj _ _ ha).plain) fun ws n p rr=> ?_
  refine x22 ((S.obj _ _ hb).plain) fun xs n' p' rx=> ?_
  have hl:ws.length+xs.length≤sizeLine:=by rw[rr.length,rx.length];simpa using hz
  have e1:ws.toArray.size+xs.toArray.size≤sizeLine:=by simpa using hl
  refine call_meets PySem.F.slot_list_extend ⟨_,p,rfl⟩ PySem.F.entry_list_extend (PySem.F.args_list_extend_2 _ _) (AutoSeq1.list_extend_list_list_0 a ws.toArray n b xs.toArray n' ?_ (l_al e1) (Nat.le_add_right_of_le e1)) ⟨p,p',?_⟩
  ·unfold Builtin.List.listTooLong
   simp;intro _;simpa using hl
  ·refine x11 (mapSeq_app ws xs n) fun n'' e=> ?_
   exact list_set S ha p e (rr.append rx) .none q rfl
theorem C_extend_tup {a:Addr}{l m:List V}{Q:V→Sto→Prop}(ha:σ a=some (.list l))(hz:(l++m).length≤sizeLine)(q:Q .none (σ.put a (.list (l++m)))):CallV d (.bi "list.extend") [.ref a,.tup m] σ Q:=
 fun A s fv vs R S rf rs=>by
  w_dflts rf
  refine RVs.consE rs fun _ _ r0 rs=> ?_
  w_dflts r0
  cases rs with
  | @cons va _ _ _ r1 rs=>
  cases r1 with
  | @tup b xs _ n' p' rx=>
  w_dflts rs
  refine x22 ((S.obj _ _ ha).plain) fun ws n p rr=> ?_
  have hl:ws.length+xs.length≤sizeLine:=by rw[rr.length,rx.length];simpa using hz
  have e1:ws.toArray.size+xs.toArray.size≤sizeLine:=by simpa using hl
  refine call_meets PySem.F.slot_list_extend ⟨_,p,rfl⟩ PySem.F.entry_list_extend (PySem.F.args_list_extend_2 _ _) (AutoSeq1.list_extend_list_tuple_0 a ws.toArray n b xs.toArray n' ?_ (l_al e1) (Nat.le_add_right_of_le e1)) ⟨p,p',?_⟩
  ·unfold Builtin.List.listTooLong
   simp;intro _;simpa using hl
  ·refine x11 (mapSeq_app ws xs n) fun n'' e=> ?_
   exact list_set S ha p e (rr.append rx) .none q rfl
theorem C_pop {a:Addr}{l:List V}{x:V}{Q:V→Sto→Prop}(ha:σ a=some (.list (l++ [x])))(hz:l.length<sizeLine)(q:Q x (σ.put a (.list l))):CallV d (.bi "list.pop") [.ref a] σ Q:=
 fun A s fv vs R S rf rs=>by
  w_dflts rf
  refine RVs.consE rs fun _ _ r0 rs=> ?_
  w_dflts r0
  w_dflts rs
  refine x22 ((S.obj _ _ ha).plain) fun ws n p rr=> ?_
  have hlen:ws.length=l.length+1:=by rw[rr.length];simp
  obtain⟨ws',y,rfl⟩:∃ws' y,ws=ws'++ [y]:=by
   rcases List.eq_nil_or_concat ws with h|⟨w',y,h⟩
   ·subst h;simp at hlen
   ·exact⟨w',y,by rw[h,List.concat_eq_append]⟩
  have hlen':ws'.length=l.length:=by simpa using hlen
  have split:∀{us:List Value} {m:List V},us.length=m.length→RVs s.heap (us++ [y]) (m++ [x])→RVs s.heap us m∧RV s.heap y x:=by
   intro us
   induction us with
   |nil=>
    intro m hm r
    induction m using List.casesOn with
    |nil=>cases r with|cons a b=>exact⟨.nil,a⟩
    |cons _ _=>simp at hm
   |cons u us ih=>
    intro m hm r
    induction m using List.casesOn with
    |nil=>simp at hm
    |cons z m=>
     cases r with
     |cons a b=>obtain⟨r1,r2⟩:=ih (by simpa using hm) b;exact⟨.cons a r1,r2⟩
  refine an2 (split hlen' rr) fun r1 r2=> ?_
  have hz':(ws'++ [y]).toArray.size≤sizeLine:=by simp;lia
  refine call_meets PySem.F.slot_list_pop ⟨_,p,rfl⟩ PySem.F.entry_list_pop (PySem.F.args_list_pop_1 _) (PySem.MeetsSeq.list_pop_last a (ws'++ [y]).toArray n y (by simp) hz') ⟨p,?_⟩
  refine list_set (vs':=ws') (n':=n+1) S ha p ?_ r1 r2 q rfl
  have e:((ws'++ [y]).toArray.eraseIdxIfInBounds ((ws'++ [y]).toArray.size-1))=ws'.toArray:=by
   have hi:ws'.length<(ws'++ [y]).length:=by simp
   have:(ws'++ [y]).toArray.size-1=ws'.length:=by simp
   rw[this,Array.eraseIdxIfInBounds,dif_pos (by simp)]
   have z:(ws'++ [y]).eraseIdx ws'.length=ws':=by
    rw[List.eraseIdx_append_of_length_le (Nat.le_refl _)];simp
   simp[z]
  show Obj.mapSeq (fun xs=>xs.eraseIdxIfInBounds ((ws'++ [y]).toArray.size-1)) _=_
  simp only[Obj.mapSeq,e]
  simp
noncomputable def Forget (Q:V→Sto→Prop):V→Sto→Prop:=fun v σ'=>∃σ'',σ''.le σ'∧Q v σ''
theorem Out.forget {h:Shared}{Q:V→Sto→Prop}{val:Value}{s':Shared}(x:Out σ h (Forget Q) val s'):Out σ h Q val s':=by
 obtain⟨v,σ',r,⟨σ'',l,q⟩,S,T⟩:=x
 exact⟨v,σ'',r,q,S.weaken l,T.weaken l⟩
theorem CallT.forget {f:V}{as:List V}{Q:V→Sto→Prop}(h:CallT d f as σ (Forget Q)):CallT d f as σ Q:=fun A s fv vs R S rf rs=>
 codeAny_mono (h A s fv vs R S rf rs) fun _ _ ⟨val,e,o⟩=>⟨val,e,o.forget⟩
theorem aQ (σ:Sto):σ.le σ:=fun _ _ e=>e
theorem aD {a b c:Sto}(x:a.le b)(y:b.le c):a.le c:=fun i o e=>y i o (x i o e)
theorem aB {a:Addr}(h:σ a=none)(o:AO):σ.le (σ.put a o):=fun b x e=>by
 by_cases z:b=a
 ·subst z;rw[h] at e;exact nS e
 ·rw[aM _ _ z];exact e
theorem Sto.le_put_of {σ₀:Sto}{a:Addr}(l:σ₀.le σ)(h:σ₀ a=none)(o:AO):σ₀.le (σ.put a o):=fun b x e=>by
 by_cases z:b=a
 ·subst z;rw[h] at e;exact nS e
 ·rw[aM _ _ z];exact l _ _ e
theorem CallV.le {d':Nat}{f:V}{as:List V}{Q:V→Sto→Prop}(h:CallV d f as σ Q)(hd:d≤d'):CallV d' f as σ Q:=fun A s fv vs R S rf rs=>h A s fv vs (R.le hd) S rf rs
theorem CallT.le {d':Nat}{f:V}{as:List V}{Q:V→Sto→Prop}(h:CallT d f as σ Q)(hd:d≤d'):CallT d' f as σ Q:=fun A s fv vs R S rf rs=>h A s fv vs (R.le hd) S rf rs
theorem TS_expr {e:Expr}{p:Pos}{Q:Fl→Loc→Sto→Prop}(h:TE d sc e ρ σ fun v σ'=>v= .none∧Q .next ρ σ')
  (hs:∀env,swapsWith e none p.line env=pure false:=by intro _;rfl):TS1 d sc (.Expr e p) ρ σ Q:=
 fun env A s R F S=>wpAny_Expr (wO (h env A s R F S) (fun val s₁ v σ₁ r h_3 S₁ T₁=>by
  refine an2 h_3 fun hv q=> ?_;clear h_3
  subst hv
  w_dflts r
  exact⟨.next,ρ,σ₁,.next,q,F.aft S T₁,S₁,T₁.toF F.own_none⟩)) (by unfold interactive;rw[F.fn];rfl) (hs env)
noncomputable def TAs (d:Nat) (sc:Nms):List Expr→List V→Loc→Sto→(Loc→Sto→Prop)→Prop
 | [],[],ρ,σ,Q=>Q ρ σ
 |t::ts,x::xs,ρ,σ,Q=>TA d sc t x ρ σ fun ρ' σ'=>TAs d sc ts xs ρ' σ' Q
 |_,_,_,_,_=>False
theorem RVs.monoF {env:Env}{s s':Shared}{σ':Sto}(S:St σ s.heap)(F:FR sc env ρ σ s.heap)(T:AftF env σ s σ' s'){vs:List Value}{l:List V}(r:RVs s.heap vs l):RVs s'.heap vs l:=
 r.mono fun b o e ht=>T.keep b o e (S.tup_free e ht) fun hb=>F.no_tup hb e ht
theorem inOrder_of {env:Env}{A:Around}(R:Rm d A):∀{ts:List Expr} {xs:List V} {ρ:Loc} {σ:Sto} {Q:Loc→Sto→Prop} {s:Shared} {vs:List Value},FR sc env ρ σ s.heap→St σ s.heap→RVs s.heap vs xs→TAs d sc ts xs ρ σ Q→
  (∀t∈ts,∀rest,assignEach (t::rest) env=(false,assign t env)::assignEach rest env)→
  wpAny MM A (assignInOrder ((assignEach ts env).map (·.2)) vs) (OutA sc env σ s Q) NoE s
 | [],[],ρ,σ,Q,s,vs,F,S,r,h,_=>by
  w_dflts r
  exact wpAny_assignInOrder_none ⟨ρ,σ,h,F,S,AftF.refl _ _ _⟩
 | [],_::_,_,_,_,_,_,_,_,_,h,_=>h.elim
 |_::_,[],_,_,_,_,_,_,_,_,h,_=>h.elim
 |t::ts,x::xs,ρ,σ,Q,s,vs,F,S,r,h,hs=>by
  cases r with
  | @cons v _ vs _ rv rr=>
  rw[hs t (.head _),List.map_cons]
  refine wpAny_assignInOrder_more (wA (h env A s v R F S rv) (fun _ s₁ ρ₁ σ₁ h₁ F₁ S₁ T₁=> ?_))
  exact wA (inOrder_of R F₁ S₁ (rr.monoF S F T₁) h₁ fun t ht=>hs t (.tail _ ht)) (fun _ _ ρ' σ' q F' S' T'=>⟨ρ',σ',q,F',S',T₁.trans T'⟩)
noncomputable def isNm:Expr→Bool
 | .Name _ _=>true
 |_=>false
noncomputable def plainTs (ts:List Expr):Bool:=ts.all isNm
theorem nm_of {e:Expr}(h:isNm e=true):∃x p,e= .Name x p:=by
 induction e using Expr.casesOn<;>first|exact⟨_,_,rfl⟩|exact Bool.noConfusion h
theorem plain_cons {t:Expr}{ts:List Expr}(h:plainTs (t::ts)=true):(∃x p,t= .Name x p)∧plainTs ts=true:=by
 have h:(isNm t&&plainTs ts)=true:=h
 rw[Bool.and_eq_true] at h
 exact⟨nm_of h.1,h.2⟩
theorem plain_each {env:Env}:∀{ts:List Expr},plainTs ts=true→∀t∈ts,∀rest,assignEach (t::rest) env=(false,assign t env)::assignEach rest env
 |t'::r,h,t,ht,rest=>by
  refine an2 (plain_cons h) fun z1 h=> ?_;refine x21 z1 ?_;clear z1;intro x p z1;subst z1
  rcases List.mem_cons.mp ht with rfl|ht
  ·rfl
  ·exact plain_each (ts:=r) h t ht rest
theorem plain_len {env:Env}:∀{ts:List Expr},plainTs ts=true→(assignEach ts env).length=ts.length
 | [],_=>rfl
 |t::r,h=>by
  refine an2 (plain_cons h) fun z2 h=> ?_;refine x21 z2 ?_;clear z2;intro x p z2;subst z2
  show(assignEach r env).length+1=_
  rw[plain_len (ts:=r) h];rfl
theorem plain_star {env:Env}:∀{ts:List Expr},plainTs ts=true→(assignEach ts env).findIdx? (·.1)=none
 | [],_=>rfl
 |t::r,h=>by
  refine an2 (plain_cons h) fun z3 h=> ?_;refine x21 z3 ?_;clear z3;intro x p z3;subst z3
  show List.findIdx? (·.1) ((false,assign (.Name x p) env)::assignEach r env)=none
  rw[List.findIdx?_cons]
  simp[plain_star (ts:=r) h]
theorem TA_tup {ts:List Expr}{k:Nat}{p:Pos}{xs:List V}{Q:Loc→Sto→Prop}(hp:plainTs ts=true)(hl:ts.length=xs.length)(h:TAs d sc ts xs ρ σ Q):TA d sc (.Tuple ts k p) (.tup xs) ρ σ Q:=
 fun env A s va R F S r=>by
  cases r with
  | @tup a vs _ n e rr=>
  have ht:s.heap.IsTuple a vs.toArray:=⟨_,e,rfl,_,rfl⟩
  refine wpAny_assign_Tuple R.hd ht (by rw[plain_len hp,hl,←rr.length];simp) (plain_star hp) fun h' hx=> ?_
  have k:∀b o,s.heap.get? b=some o→h'.get? b=some o:=fun b o eb=>hx b o (Nat.ne_of_lt (Heap.lt_size eb)) eb
  have T:Aft σ s σ {s with heap:=h'}:=Aft.grow k
  have S':St σ h':=S.grow k
  have F':=F.aft S T
  have:=inOrder_of (s:={s with heap:=h'}) R F' S' (T.rvs S rr) h (plain_each hp)
  show wpAny MM A (assignInOrder ((assignEach ts env).map (·.2)) vs) _ NoE _
  refine wA this (fun _ s₁ ρ₁ σ₁ q F₁ S₁ T₁=>⟨ρ₁,σ₁,q,F₁,S₁,(T.toF F.own_none).trans T₁⟩)
theorem TS_asg {t e:Expr}{p:Pos}{Q:Fl→Loc→Sto→Prop}(h:TE d sc e ρ σ fun v σ₁=>TA d sc t v ρ σ₁ fun ρ' σ'=>Q .next ρ' σ')
  (he:∀env,assignEach [t] env=[(false,assign t env)]:=by intro _;rfl)
  (hs:∀env,swapsWithSole [t] e p.line env=pure false:=by intro _;rfl) (hw:∀env,env.scope.names=sc→env.scope.kind= .function→swappedStores [t] e env=pure none:=by intro _ _ _;rfl):TS1 d sc (.Assign [t] e p) ρ σ Q:=
 fun env A s R F S=>wpAny_Assign_stores (wO (h env A s R F S) (fun val s₁ v σ₁ r h₁ S₁ T₁=>by
  rw[he env]
  show wpAny MM A (assignAll val [assign t env]) _ NoE s₁
  refine wA (h₁ env A s₁ val R (F.aft S T₁) S₁ r) (fun _ s₂ ρ' σ' q F' S' T'=>⟨.next,ρ',σ',.next,q,F',S',(T₁.toF F.own_none).trans T'⟩))) (hs env) (hw env F.nm F.fn)
noncomputable def swapEnv (sc:Nms):Env:={scope:={kind:= .function,names:=sc,isGenerator:=false,isCoroutine:=false},locals:=0,globals:=0,cells:=[]}
noncomputable def swapOf (sc:Nms) (t v:Expr):Option (Option (List Str)):=pureOf (swappedStores [t] v (swapEnv sc))
theorem swapped_env {t v:Expr}{env env':Env}(hn:env.scope.names=env'.scope.names)(hk:env.scope.kind=env'.scope.kind):swappedStores [t] v env=swappedStores [t] v env':=by
 have h1:env.blockKind=env'.blockKind:=by unfold Env.blockKind;rw[hk]
 have h2:env.kindOf=env'.kindOf:=by funext x;unfold Env.kindOf;rw[hn]
 unfold swappedStores
 rw[h1,h2]
theorem swapOf_spec {t v:Expr}{env:Env}{r:Option (List Str)}(hn:env.scope.names=sc)(hk:env.scope.kind= .function)(h:swapOf sc t v=some r):swappedStores [t] v env=pure r:=by
 rw[swapped_env (env':=swapEnv sc) hn hk]
 exact of_pureOf h
@[reducible] def BnP (sc:Nms) (env:Env) (ρ':Loc) (σ:Sto) (s:Shared):Unit→Shared→Prop:=fun _ s'=>FR sc env ρ' σ s'.heap∧St σ s'.heap∧AftF env σ s σ s'
theorem bind_all {env:Env}{A:Around}{ns:List Str}:∀{us:List Value} {m:List V} {ρ:Loc} {s:Shared},(ns.all fun x=>sc.lookup x==some .local)=true→ns.length=m.length→RVs s.heap us m→FR sc env ρ σ s.heap→St σ s.heap→
  wpAny MM A (assignInOrder (ns.map fun n=>bindName env n) us) (BnP sc env (ρ.puts (ns.zip m)) σ s) NoE s:=by
 induction ns with
 |nil=>
  intro us m ρ s _ hm r F S
  induction m using List.casesOn with
  |nil=>w_dflts r;exact wpAny_assignInOrder_none ⟨F,S,AftF.refl _ _ _⟩
  |cons _ _=>exact nomatch hm
 |cons x ns ih=>
  intro us m ρ s ha hm r F S
  induction m using List.casesOn with
  |nil=>exact nomatch hm
  |cons y m=>
  refine RVs.consE r fun _ _ r1 r2=> ?_
  refine an2 (bA ha) fun h1 ha2=> ?_
  refine wpAny_assignInOrder_more (wpAny_bindName (wA (put_local (beq_iff_eq.mp h1) F S r1 (Q:=fun ρ' σ'=>ρ'=ρ.put x y∧σ'=σ) ⟨rfl,rfl⟩) (fun _ s₂ ρ₂ σ₂ h_2 F₂ S₂ T₂=> ?_)))
  refine an2 h_2 fun e1 e2=> ?_
  subst e1;subst e2
  exact wpAny_mono (ih ha2 (Nat.succ.inj hm) (r2.monoF S F T₂) F₂ S₂) (fun _ _ h=>an3 h fun F' S' T'=>⟨F',S',T₂.trans T'⟩) fun _ _ x=>x
theorem TS_swap {ts vs:List Expr}{k k':Nat}{p p' p'':Pos}{names:List Str}{Q:Fl→Loc→Sto→Prop}(hsw:swapOf sc (.Tuple ts k p) (.Tuple vs k' p')=some (some names))(hl:(names.all fun x=>sc.lookup x==some .local)=true)
  (h:TEs d sc p' vs ρ σ fun l σ₁=>l.length≤sizeLine∧l.length=names.length∧Q .next (ρ.puts (names.zip l).reverse) σ₁):TS1 d sc (.Assign [.Tuple ts k p] (.Tuple vs k' p') p'') ρ σ Q:=
 fun env A s R F S=>by
  rw[exec_Assign_arm]
  refine vB (wpAny_standAt ?_)
  show wpAny MM A ((pure false:Sem Bool)>>=_) _ NoE s
  refine vB (vP ?_)
  rw[if_neg (by decide)]
  have ht:TE d sc (.Tuple vs k' p') ρ σ fun v σ₁=>∃l,v= .tup l∧l.length=names.length∧Q .next (ρ.puts (names.zip l).reverse) σ₁:=TE_tup (fun env A s R F S=>wL (h env A s R F S) (fun _ _ l σ' r h_3 S' T=>⟨l,σ',r,⟨h_3.1,l,rfl,h_3.2.1,h_3.2.2⟩,S',T⟩))
  refine vB (wO (ht env A s R F S) (fun val s₁ v σ₁ r h_3 S₁ T₁=> ?_))
  refine x13 h_3 fun l hv hlen q=> ?_;clear h_3
  subst hv
  cases r with
  | @tup a ws _ n e rr=>
  rw[swapOf_spec F.nm F.fn hsw]
  refine vB (vP ?_)
  show wpAny MM A (rule "assign.swapped-stores">>=fun _=>_) _ NoE s₁
  refine vB (wpAny_rule ?_)
  have hlen':names.length=ws.toArray.size:=by simp[rr.length,hlen]
  rw[hlen']
  refine vB (wpAny_unpackItems_tuple R.hd ⟨_,e,rfl,_,rfl⟩ fun h' hx=> ?_)
  have kk:∀b o,s₁.heap.get? b=some o→h'.get? b=some o:=fun b o eb=>hx b o (Nat.ne_of_lt (Heap.lt_size eb)) eb
  have T:Aft σ₁ s₁ σ₁ {s₁ with heap:=h'}:=Aft.grow kk
  have S':St σ₁ h':=S₁.grow kk
  have F':=(F.aft S T₁).aft S₁ T
  have rr':=T.rvs S₁ rr
  have g:=bind_all (ns:=names.reverse) (A:=A) (s:={s₁ with heap:=h'}) (by rw[List.all_reverse];exact hl) (by rw[List.length_reverse,List.length_reverse,hlen]) rr'.reverse F' S'
  have ez:names.reverse.zip l.reverse=(names.zip l).reverse:=by
   rw[List.zip_eq_zipWith,List.zip_eq_zipWith,List.reverse_zipWith hlen.symm]
  rw[ez] at g
  show wpAny MM A (assignInOrder (names.reverse.map fun n=>bindName env n) ws.reverse>>=fun _=>pure Flow.next) _ NoE _
  refine vB (wpAny_mono g (fun _ s₂ h=>an3 h fun F₂ S₂ T₂=>vP ⟨.next,_,σ₁,.next,q,F₂,S₂,((T₁.trans T).toF F.own_none).trans T₂⟩) fun _ _ x=>x)
noncomputable def T3u (d:Nat) (t:Value→Value→Value→Sem Unit) (a b c:V) (σ:Sto) (Q:Sto→Prop):Prop:=
 ∀A s va vb vc,Rm d A→St σ s.heap→RV s.heap va a→RV s.heap vb b→RV s.heap vc c→wpAny MM A (t va vb vc) (OutU σ s Q) NoE s
noncomputable def T2u (d:Nat) (t:Value→Value→Sem Unit) (a b:V) (σ:Sto) (Q:Sto→Prop):Prop:=
 ∀A s va vb,Rm d A→St σ s.heap→RV s.heap va a→RV s.heap vb b→wpAny MM A (t va vb) (OutU σ s Q) NoE s
theorem TS_item {o i e:Expr}{p p':Pos}{Q:Fl→Loc→Sto→Prop}(h:TE d sc e ρ σ fun v σ₁=>TE d sc o ρ σ₁ fun ov σ₂=>TE d sc i ρ σ₂ fun iv σ₃=>T3u d setItem ov iv v σ₃ (Q .next ρ))
  (hs:∀env,swapsWith e (some (.Subscript o i p')) p.line env=pure false:=by intro _;rfl):TS1 d sc (.Assign [.Subscript o i p'] e p) ρ σ Q:=
 fun env A s R F S=>wpAny_Assign_Subscript (wO (h env A s R F S) (fun vv s₁ v σ₁ rv h₁ S₁ T₁=>by
  have F₁:=F.aft S T₁
  refine wO (h₁ env A s₁ R F₁ S₁) (fun vo s₂ ov σ₂ ro h₂ S₂ T₂=> ?_)
  have F₂:=F₁.aft S₁ T₂
  refine wO (h₂ env A s₂ R F₂ S₂) (fun vi s₃ iv σ₃ ri h₃ S₃ T₃=> ?_)
  refine wU (h₃ A s₃ vo vi vv R S₃ (T₃.rv S₂ ro) ri ((T₂.trans T₃).rv S₁ rv)) (fun _ s₄ σ₄ q S₄ T₄=> ?_)
  have T:=((T₁.trans T₂).trans T₃).trans T₄
  exact⟨.next,ρ,σ₄,.next,q,F.aft S T,S₄,T.toF F.own_none⟩)) (hs env)
theorem TS_attr {o e:Expr}{name:Str}{p p':Pos}{Q:Fl→Loc→Sto→Prop}(h:TE d sc e ρ σ fun v σ₁=>TE d sc o ρ σ₁ fun ov σ₂=>T2u d (fun a b=>setAttr a name b) ov v σ₂ (Q .next ρ))
  (hs:∀env,swapsWith e (some (.Attribute o name p')) p.line env=pure false:=by intro _;rfl):TS1 d sc (.Assign [.Attribute o name p'] e p) ρ σ Q:=
 fun env A s R F S=>plainObj_wpAny_Assign_Attribute (wO (h env A s R F S) (fun vv s₁ v σ₁ rv h₁ S₁ T₁=>by
  have F₁:=F.aft S T₁
  refine wO (h₁ env A s₁ R F₁ S₁) (fun vo s₂ ov σ₂ ro h₂ S₂ T₂=> ?_)
  refine wU (h₂ A s₂ vo vv R S₂ ro (T₂.rv S₁ rv)) (fun _ s₄ σ₄ q S₄ T₄=> ?_)
  have T:=(T₁.trans T₂).trans T₄
  exact⟨.next,ρ,σ₄,.next,q,F.aft S T,S₄,T.toF F.own_none⟩)) (hs env)
noncomputable def TWh (d:Nat) (sc:Nms) (test:Expr) (body:List Stmt) (ρ:Loc) (σ:Sto) (Q:Fl→Loc→Sto→Prop):Prop:=
 ∀env A s,Rm d A→FR sc env ρ σ s.heap→St σ s.heap→codeAny MM A (.whileLoop test body [] env) (fun r s'=>∃f,r= .ok f∧OutS sc env σ s Q f s') s
noncomputable def loopS (K:Loc→Sto→Prop) (Q:Fl→Loc→Sto→Prop):Fl→Loc→Sto→Prop
 | .next,ρ,σ=>K ρ σ
 | .ret v,ρ,σ=>Q (.ret v) ρ σ
noncomputable def kWn (d:Nat) (sc:Nms) (test:Expr) (body:List Stmt) (Q:Fl→Loc→Sto→Prop):Loc→Sto→Prop:=fun ρ σ=>TWh d sc test body ρ σ Q
@[reducible] def kWh (d:Nat) (sc:Nms) (test:Expr) (body:List Stmt) (ρ:Loc) (Q:Fl→Loc→Sto→Prop):Bool→Sto→Prop:=fun b σ=>if b=true then TS d sc body ρ σ (loopS (kWn d sc test body Q) Q) else Q .next ρ σ
theorem OutS.after {env:Env}{σ₁:Sto}{h h₁:Shared}{Q:Fl→Loc→Sto→Prop}{f:Flow}{s':Shared}(T:AftF env σ h σ₁ h₁)(x:OutS sc env σ₁ h₁ Q f s'):OutS sc env σ h Q f s':=by
 obtain⟨fl,ρ',σ',r,q,F',S',T'⟩:=x
 exact⟨fl,ρ',σ',r,q,F',S',T.trans T'⟩
theorem TWh_step {test:Expr}{body:List Stmt}{Q:Fl→Loc→Sto→Prop}(h:TB d sc test ρ σ (kWh d sc test body ρ Q)):TWh d sc test body ρ σ Q:=
 fun env A s R F S=>by
  refine codeAny_of_tree ?_
  have hA:A.under (.whileLoop test body [] env)=A:=Around.under_of_weight rfl
  rw[hA]
  show wpAny _ A ((whileTurn test body [] env).onRaise (fun x=>do noteFrame x env;theTreesLotGoes x)) _ _ s
  refine wpAny_noted ?_
  simp only[whileTurn]
  refine vB (wB (h env A s R F S) (fun b s₁ σ₁ h₁ S₁ T₁=> ?_))
  have T₁':=T₁.toF F.own_none
  induction b using Bool.casesOn with
  |false=>
   refine vB (wpAny_execs_nil (vP ?_))
   exact⟨.next,rfl,.next,ρ,σ₁,.next,h₁,F.aft S T₁,S₁,T₁'⟩
  |true=>
   refine vB (wS (h₁ env A s₁ R (F.aft S T₁) S₁) (fun f s₂ fl ρ₂ σ₂ rf h₂ F₂ S₂ T₂=> ?_))
   cases rf with
   |next=>
    refine vP ⟨rfl,codeAny_mono (h₂ env A s₂ R F₂ S₂) fun r s' ⟨f,e,o⟩=>⟨f,e,OutS.after (T₁'.trans T₂) o⟩⟩
   |ret rv=>exact vP ⟨_,rfl,_,ρ₂,σ₂,.ret rv,h₂,F₂,S₂,T₁'.trans T₂⟩
theorem mark_none (A:Around):A.mark none=A:=by cases A;rfl
theorem TS_while {test:Expr}{body:List Stmt}{p:Pos}{Q:Fl→Loc→Sto→Prop}(h:TWh d sc test body ρ σ Q):TS1 d sc (.While test body [] p) ρ σ Q:=
 fun env A s R F S=>wpAny_While (codeAny_mono (h env A s R F S) fun r s' ⟨f,e,o⟩=>by subst e;exact o)
inductive Src where
 |list (l:Addr) (xs:List V) (i:Nat)
 |tup (xs:List V) (i:Nat)
 |rng (i n:Nat)
 |keys (d:Addr) (o:Obj) (es:List (Str×V)) (i:Nat)
noncomputable def Src.ok (σ:Sto):Src→Prop
 | .list l xs _=>σ l=some (.list xs)
 | .keys d o es _=>σ d=some (.frz o es)
 |_=>True
noncomputable def Src.next:Src→Option (V×Src)
 | .list l xs i=>xs[i]?.map fun x=>(x,.list l xs (i+1))
 | .tup xs i=>xs[i]?.map fun x=>(x,.tup xs (i+1))
 | .rng i n=>if i<n then some (.int i,.rng (i+1) n) else none
 | .keys d o es i=>es[i]?.map fun x=>(.str x.1,.keys d o es (i+1))
noncomputable def ItAt (h:Heap) (fp:Addr):Src→Prop
 | .list l _ i=>h.IsListIter fp l i
 | .tup xs i=>∃t vs n,h.IsTupleIter fp t i∧h.get? t=some {cls:= .type "tuple",data:= .seq vs.toArray n}∧RVs h vs xs
 | .rng i n=>IsRangeIter h fp i ((n:Int)-i) 1∧i≤n
 | .keys d o es i=>∃es' ep,o.data= .dict es' ep∧h.IsKeyIter fp d i es.length ep
theorem ItAt.cls {h:Heap}{fp:Addr}{src:Src}(x:ItAt h fp src):∃o T vs,h.get? fp=some o∧o.cls= .type T∧o.data= .fields vs∧(T="list_iterator"∨T="tuple_iterator"∨T="range_iterator"∨T="dict_keyiterator"):=by
 induction src using Src.casesOn with
 |list l xs i=>refine x13 x fun o e hc hd=> ?_;clear x;exact⟨o,_,_,e,hc,hd,.inl rfl⟩
 |tup xs i=>refine x32 x fun t vs n z1 _=> ?_;clear x;refine x13 z1 fun o e hc hd=> ?_;clear z1;exact⟨o,_,_,e,hc,hd,.inr (.inl rfl)⟩
 |rng i n=>exact⟨_,_,_,x.1,rfl,rfl,.inr (.inr (.inl rfl))⟩
 |keys d o es i=>refine x22 x fun _ _ _ z2=> ?_;clear x;refine x13 z2 fun o' e hc hd=> ?_;clear z2;exact⟨o',_,_,e,hc,hd,.inr (.inr (.inr rfl))⟩
theorem ItAt.noTup {h:Heap}{fp:Addr}{src:Src}(x:ItAt h fp src){o:Obj}(e:h.get? fp=some o):¬IsTupO o:=by
 refine x34 x.cls fun o' T vs e' _ hd' _=> ?_
 rw[e'] at e;replace e:=sI e;subst e
 rintro⟨_,ws,n,hd⟩
 rw[hd'] at hd;cases hd
theorem ItAt.mono {h h':Heap}{fp:Addr}{src:Src}(x:ItAt h fp src)(k:∀b o,h.get? b=some o→IsTupO o→h'.get? b=some o)(kf:∀o,h.get? fp=some o→h'.get? fp=some o):ItAt h' fp src:=by
 induction src using Src.casesOn with
 |list l xs i=>refine x12 x fun o e r=> ?_;clear x;exact⟨o,kf _ e,r⟩
 |tup xs i=>refine x33 x fun t vs n z3 et r=> ?_;clear x;refine x12 z3 fun o e z=> ?_;clear z3;exact⟨t,vs,n,⟨o,kf _ e,z⟩,k _ _ et ⟨rfl,_,_,rfl⟩,r.mono k⟩
 |rng i n=>exact⟨kf _ x.1,x.2⟩
 |keys d o es i=>refine x22 x fun a b c z4=> ?_;clear x;refine x12 z4 fun o' e z=> ?_;clear z4;exact⟨a,b,c,o',kf _ e,z⟩
theorem RVKs.at {h:Heap}{vs:List (Str×Value)}{l:List (Str×V)}(r:RVKs h vs l):∀{i:Nat} {y:Str×V},l[i]? =some y→∃v,vs[i]? =some (y.1,v):=by
 induction r with
 |nil=>intro i y e;cases e
 |cons _ _ ih=>
  intro i y e
  induction i using Nat.casesAuxOn with
  |zero=>replace e:=sI e;have z1:=pI2 e;replace e:=pI1 e;subst e;subst z1;exact⟨_,rfl⟩
  |succ i=>exact ih (i:=i) e
noncomputable abbrev But (fp:Addr) (h h':Heap):Prop:=Heap.ExtBut fp h h'
theorem St.but {fp:Addr}{h h':Heap}(S:St σ h)(k:But fp h h')(hs:σ fp=none)(hb:B.get? fp=none)(nt:∀o,h.get? fp=some o→¬IsTupO o):St σ h':=
 have kt:∀b o,h.get? b=some o→IsTupO o→h'.get? b=some o:=fun b o e ht=>k b o (fun z=>nt o (z▸e) ht) e
 ⟨fun b o e=>k b o (fun z=>by subst z;rw[hb] at e;exact nS e) (S.base b o e),S.apart,fun a ao e=>(S.obj a ao e).mono kt fun o eo=>k a o (fun z=>by subst z;rw[hs] at e;exact nS e) eo⟩
theorem FR.but {fp:Addr}{env:Env}{h h':Heap}(F:FR sc env ρ σ h)(k:But fp h h')(ho:¬own env fp)(nt:∀o,h.get? fp=some o→¬IsTupO o):FR sc env ρ σ h':=by
 have kt:∀b o,h.get? b=some o→IsTupO o→h'.get? b=some o:=fun b o e ht=>k b o (fun z=>nt o (z▸e) ht) e
 refine⟨F.nm,F.fn,F.gl,F.bi,?_,fun x hx=> ?_,F.one,fun x c hc=> ?_,F.nl,F.nc,F.ap⟩
 ·refine x12 F.ns fun m z5 hm=> ?_;refine x32 z5 fun o es ep e r=> ?_;clear z5
  exact⟨m,⟨o,es,ep,k _ _ (fun z=>ho (z▸ .inl rfl)) e,r⟩,fun x hx=>(hm x hx).mono kt⟩
 ·refine x23 (F.cells x hx) fun c v hc z6 r=> ?_;refine x12 z6 fun o e hd=> ?_;clear z6
  exact⟨c,v,hc,⟨o,k _ _ (fun z=>ho (z▸ .inr ⟨x,hc⟩)) e,hd⟩,r.mono kt⟩
 ·refine x22 (F.cell x c hc) fun v o e hd=> ?_
  exact⟨v,o,k _ _ (fun z=>ho (z▸ .inr ⟨x,hc⟩)) e,hd⟩
set_option tactic.hygienic true in
theorem draw_some {A:Around}{s:Shared}{fp:Addr}{src src':Src}{x:V}{Q:Option Value→Shared→Prop}{E:Value→Shared→Prop}(S:St σ s.heap)(I:ItAt s.heap fp src)(ok:src.ok σ)(hn:src.next=some (x,src'))
  (h:∀v s',RV s'.heap v x→ItAt s'.heap fp src'→But fp s.heap s'.heap→Sm s s'→Q (some v) s'):wpAny MM A (pyNext (.ref fp)) Q E s:=by
 have nt:=fun o=>ItAt.noTup I (o:=o)
 have kt:∀{h':Heap},But fp s.heap h'→∀b o,s.heap.get? b=some o→IsTupO o→h'.get? b=some o:=fun k b o e ht=>k b o (fun z=>nt o (z▸e) ht) e
 induction src using Src.casesOn with
 |list l xs i=>
  have hn:(xs[i]?.map fun x=>(x,Src.list l xs (i+1)))=some (x,src'):=hn
  refine x12 (Option.map_eq_some_iff.mp hn) fun y hy e=> ?_
  have z7:=pI2 e;replace e:=pI1 e;subst e;subst z7
  refine x22 ((S.obj _ _ ok).plain) fun vs n p rr=> ?_
  refine x12 (rr.get hy) fun v hv rv=> ?_
  refine wpAny_pyNext_list_item I ⟨_,p,rfl,_,rfl⟩ (x:=v) (by simpa using hv) fun h' hi hsb=> ?_
  have hb':But fp s.heap h':=hsb.extBut
  exact h v _ (rv.mono (kt hb')) hi hb' ⟨rfl,rfl⟩
 |tup xs i=>
  have hn:(xs[i]?.map fun x=>(x,Src.tup xs (i+1)))=some (x,src'):=hn
  refine x12 (Option.map_eq_some_iff.mp hn) fun y hy e=> ?_
  have z8:=pI2 e;replace e:=pI1 e;subst e;subst z8
  refine x33 I fun t vs n hi et rr=> ?_;clear I
  refine x12 (rr.get hy) fun v hv rv=> ?_
  refine wpAny_pyNext_tuple_item hi ⟨_,et,rfl,_,rfl⟩ (x:=v) (by simpa using hv) fun h' hi' hsb=> ?_
  have hb':But fp s.heap h':=hsb.extBut
  exact h v _ (rv.mono (kt hb')) ⟨t,vs,n,hi',kt hb' _ _ et ⟨rfl,_,_,rfl⟩,rr.mono (kt hb')⟩ hb' ⟨rfl,rfl⟩
 |rng i n=>
  have hn:(if i<n then some (V.int i,Src.rng (i+1) n) else none)=some (x,src'):=hn
  split at hn
  ·rename_i hlt
   replace hn:=sI hn;have z2:=pI2 hn;replace hn:=pI1 hn;subst hn;subst z2
   refine wpAny_pyNext_range_item I.1 (by lia) fun h' hi hsb=> ?_
   exact h _ _ (.int _ _) ⟨by rw[show((i+1:Nat):Int)=(i:Int)+1 by lia,show(n:Int)-((i:Int)+1)=(n:Int)-i-1 by lia];exact hi,hlt⟩ hsb.extBut ⟨rfl,rfl⟩
  ·exact nS hn
 |keys dd o es i=>
  have hn:(es[i]?.map fun x=>(V.str x.1,Src.keys dd o es (i+1)))=some (x,src'):=hn
  refine x12 (Option.map_eq_some_iff.mp hn) fun y hy e=> ?_
  have z9:=pI2 e;replace e:=pI1 e;subst e;subst z9
  refine x22 I fun es' ep hd hit=> ?_;clear I
  refine an3 (S.obj _ _ ok) fun p lo z10=> ?_;refine x12 z10 fun kvs hD r=> ?_;clear z10
  refine x23 hD fun es₂ ep₂ z1 z2 z3=> ?_;clear hD
  rw[hd] at z2;cases z2
  have hlen:kvs.length=es.length:=r.length
  have hat:s.heap.DictAt (strKind pw w) dd kvs ep:=⟨o,es',p,z1,hd,z3⟩
  refine x11 (r.at hy) fun v hkv=> ?_
  rw[←hlen] at hit
  refine wpAny_pyNext_dict_item hit hat hkv fun key h' hkey hi hsb=> ?_
  refine x11 (Value.isStrOf_shape hkey) fun t z11=> ?_;subst z11
  exact h _ _ (.str _ _) ⟨es',ep,hd,by rw[←hlen];exact hi⟩ hsb.extBut ⟨rfl,rfl⟩
theorem draw_none {A:Around}{s:Shared}{fp:Addr}{src:Src}{Q:Option Value→Shared→Prop}{E:Value→Shared→Prop}(R:Rm d A)(S:St σ s.heap)(I:ItAt s.heap fp src)(ok:src.ok σ)(hn:src.next=none)
  (h:∀s',But fp s.heap s'.heap→Sm s s'→Q none s'):wpAny MM A (pyNext (.ref fp)) Q E s:=by
 induction src using Src.casesOn with
 |list l xs i=>
  have hx:=Option.map_eq_none_iff.mp (show(xs[i]?.map fun x=>(x,Src.list l xs (i+1)))=none from hn)
  refine x22 ((S.obj _ _ ok).plain) fun vs n p rr=> ?_
  exact wpAny_pyNext_list_end R.hd I ⟨_,p,rfl,_,rfl⟩ (by have:=List.getElem?_eq_none_iff.mp hx;simp[rr.length];exact this) fun h' hb=>h _ hb ⟨rfl,rfl⟩
 |tup xs i=>
  have hx:=Option.map_eq_none_iff.mp (show(xs[i]?.map fun x=>(x,Src.tup xs (i+1)))=none from hn)
  refine x33 I fun t vs n hi et rr=> ?_;clear I
  exact wpAny_pyNext_tuple_end R.hd hi ⟨_,et,rfl,_,rfl⟩ (by have:=List.getElem?_eq_none_iff.mp hx;simp[rr.length];exact this) fun h' hb=>h _ hb ⟨rfl,rfl⟩
 |rng i n=>
  have hn:(if i<n then some (V.int i,Src.rng (i+1) n) else none)=none:=hn
  split at hn
  ·exact nS' hn
  ·exact wpAny_pyNext_range_end R.hd I.1 (by lia) fun h' hb=>h _ hb ⟨rfl,rfl⟩
 |keys dd o es i=>
  have hx:=Option.map_eq_none_iff.mp (show(es[i]?.map fun x=>(V.str x.1,Src.keys dd o es (i+1)))=none from hn)
  refine x22 I fun es' ep hd hit=> ?_;clear I
  refine an3 (S.obj _ _ ok) fun p lo z12=> ?_;refine x12 z12 fun kvs hD r=> ?_;clear z12
  refine x23 hD fun es₂ ep₂ z1 z2 z3=> ?_;clear hD
  rw[hd] at z2;cases z2
  have hlen:kvs.length=es.length:=r.length
  have hat:s.heap.DictAt (strKind pw w) dd kvs ep:=⟨o,es',p,z1,hd,z3⟩
  rw[←hlen] at hit
  exact wpAny_pyNext_dict_end R.hd hit hat (List.getElem?_eq_none_iff.mpr (by rw[hlen];exact List.getElem?_eq_none_iff.mp hx)) fun h' hb=>h _ hb ⟨rfl,rfl⟩
set_option backward.match.sparseCases true in
theorem go_plain {A:Around}{s:Shared}{fp:Addr}{src:Src}{target:Expr}{v:Value}{Q:Unit→Shared→Prop}{E:Value→Shared→Prop}(I:ItAt s.heap fp src)(h:Q () s):wpAny MM A (letOwnedTupleGo target (.ref fp) v) Q E s:=by
 refine x34 I.cls fun o T vs e hc hd hT=> ?_
 have body:wpAny MM A (match (Value.ref fp,v) with
   |(.ref r,.ref a)=>(do
    let o←load r
    match o.cls,o.data with
    | .type n,.fields vs=>
     if["enumerate","zip","dict_itemiterator","dict_reverseitemiterator","odict_iterator","itertools.zip_longest","itertools.pairwise"].contains n&&vs[0]? ==some (rawInt a) then
      rule "for.unpacks-the-owned-tuple"
      updateField r 0 .none
    |_,_=>pure ():Sem Unit)
   |_=>pure ()) Q E s:=by
  induction v using Value.casesOn with
  |ref a=>
   refine vB (wpAny_load e ?_)
   rw[hc,hd]
   have:(["enumerate","zip","dict_itemiterator","dict_reverseitemiterator","odict_iterator","itertools.zip_longest","itertools.pairwise"].contains T)=false:=by
    rcases hT with rfl|rfl|rfl|rfl<;>decide +kernel
   dsimp only
   rw[this,Bool.false_and]
   exact vP h
  |_=>exact vP h
 induction target using Expr.casesOn with
 |Tuple a b c=>exact body
 |List a b=>exact body
 |_=>exact vP h
inductive SrcOf:V→Sto→Src→Prop where
 |list {l:Addr} {xs:List V} {σ:Sto} (h:σ l=some (.list xs)):SrcOf (.ref l) σ (.list l xs 0)
 |tup {xs:List V} {σ:Sto}:SrcOf (.tup xs) σ (.tup xs 0)
 |rng {a:Addr} {n:Nat} {σ:Sto} (h:σ a=some (.rng n)) (hn:n<2 ^ 40):SrcOf (.ref a) σ (.rng 0 n)
 |keys {a:Addr} {o:Obj} {es:List (Str×V)} {σ:Sto} (h:σ a=some (.frz o es)):SrcOf (.ref a) σ (.keys a o es 0)
noncomputable def kSrc (P:Src→Sto→Prop):V→Sto→Prop:=fun v σ=>∃src,SrcOf v σ src∧P src σ
theorem kSrc.i {P:Src→Sto→Prop}{v:V}{σ:Sto}{src:Src}(h:SrcOf v σ src)(q:P src σ):kSrc P v σ:=⟨src,h,q⟩
theorem iter_of {A:Around}{s:Shared}{val:Value}{v:V}{src:Src}{Q:Value→Shared→Prop}{E:Value→Shared→Prop}(S:St σ s.heap)(r:RV s.heap val v)(x:SrcOf v σ src)
  (h:∀s',(∀b o,s.heap.get? b=some o→s'.heap.get? b=some o)→s.heap.get? s.heap.objs.size=none→ItAt s'.heap s.heap.objs.size src→Sm s s'→Q (.ref s.heap.objs.size) s'):wpAny MM A (pyIter val) Q E s:=by
 cases x with
 |list hl=>
  w_dflts r
  refine x22 ((S.obj _ _ hl).plain) fun vs n p rr=> ?_
  exact wpAny_pyIter_list ⟨_,p,rfl,_,rfl⟩ (h _ (aN _) (get_size _) ⟨_,Heap.get?_push_size _ rfl,rfl,rfl⟩ ⟨rfl,rfl⟩)
 |tup=>
  cases r with
  | @tup a vs _ n e rr=>
  exact wpAny_pyIter_tuple ⟨_,e,rfl,_,rfl⟩ (h _ (aN _) (get_size _) ⟨_,vs,n,⟨_,Heap.get?_push_size _ rfl,rfl,rfl⟩,Heap.get?_push_of_some _ e,rr.mono fun b o e _=>aN _ b o e⟩ ⟨rfl,rfl⟩)
 | @keys a o es _ hk=>
  w_dflts r
  refine an3 (S.obj _ _ hk) fun p lo z13=> ?_;refine x12 z13 fun kvs hD r=> ?_;clear z13
  refine x23 hD fun es' ep z1 z2 z3=> ?_;clear hD
  have hat:s.heap.DictAt (strKind pw w) a kvs ep:=⟨o,es',p,z1,z2,z3⟩
  have hlen:kvs.length=es.length:=r.length
  refine wpAny_pyIter_dict lo hat (h _ (aN _) (get_size _) ⟨es',ep,z2,_,Heap.get?_push_size _ rfl,rfl,by rw[←hlen];rfl⟩ ⟨rfl,rfl⟩)
 | @rng a n _ hr hn=>
  w_dflts r
  refine x31 (S.obj _ _ hr) fun t u v p=> ?_
  have e:Builtin.Range.rangeSize 0 (n:Int) 1=n:=by
   unfold Builtin.Range.rangeSize
   rw[if_pos (by decide)]
   split
   ·rw[Int.ediv_one];lia
   ·lia
  refine wpAny_pyIter_range p ?_ (h _ (aN _) (get_size _) ⟨?_,Nat.zero_le _⟩ ⟨rfl,rfl⟩)
  ·unfold Builtin.Range.small Builtin.Range.rangeFitsLong
   rw[e]
   simp only[Bool.and_eq_true,Bool.or_eq_true,decide_eq_true_eq]
   refine⟨⟨⟨⟨?_,?_⟩,?_⟩,?_⟩,.inr ?_⟩
   ·lia
   ·lia
   ·lia
   ·lia
   ·rw[if_pos (by decide)]
    simp only[Bool.and_eq_true,decide_eq_true_eq]
    lia
  ·rw[e]
   have:((n:Int)-((0:Nat):Int))=n:=by lia
   rw[this]
   exact Heap.get?_push_size _ rfl
structure AftY (X Y:Addr→Prop)(σ:Sto)(s:Shared)(σ':Sto)(s':Shared):Prop where
 keep:∀b o,s.heap.get? b=some o→σ b=none→¬X b→¬Y b→s'.heap.get? b=some o
 dom:∀b,s.heap.get? b≠none→σ b=none→¬Y b→σ' b=none
 live:∀b,s.heap.get? b≠none→σ b=none→¬Y b→s'.heap.get? b≠none
 sm:Sm s s'
theorem AftY.trans {X Y:Addr→Prop}{σ₁ σ₂:Sto}{h h₁ h₂:Shared}(x:AftY X Y σ h σ₁ h₁)(y:AftY X Y σ₁ h₁ σ₂ h₂):AftY X Y σ h σ₂ h₂:=
 ⟨fun b o e n q z=>y.keep b o (x.keep b o e n q z) (x.dom b (by rw[e];simp) n z) q z,fun b e n z=>y.dom b (x.live b e n z) (x.dom b e n z) z,fun b e n z=>y.live b (x.live b e n z) (x.dom b e n z) z,y.sm.os.trans x.sm.os,y.sm.gens.trans x.sm.gens⟩
theorem AftX.toY {X Y:Addr→Prop}{σ':Sto}{h h':Shared}(x:AftX X σ h σ' h'):AftY X Y σ h σ' h':=⟨fun b o e n q _=>x.keep b o e n q,fun b e n _=>x.dom b e n,fun b e n _=>x.live b e n,x.os,x.gens⟩
theorem Aft.toY {X Y:Addr→Prop}{σ':Sto}{h h':Shared}(x:Aft σ h σ' h'):AftY X Y σ h σ' h':=x.toX.toY (X:=X)
theorem AftY.but {X Y:Addr→Prop}{fp:Addr}{s s':Shared}(k:But fp s.heap s'.heap)(hy:Y fp)(m:Sm s s'):AftY X Y σ s σ s':=
 ⟨fun b o e _ _ z=>k b o (fun q=>z (q▸hy)) e,fun _ _ e _=>e,fun b e _ z=>by
  induction y:s.heap.get? b using Option.casesOn with
  |none=>exact absurd y e
  |some o=>rw[k b o (fun q=>z (q▸hy)) y];simp,m⟩
theorem AftY.toX {X Y:Addr→Prop}{σ':Sto}{s s₁ s':Shared}(k:∀b o,s.heap.get? b=some o→s₁.heap.get? b=some o)(m:Sm s s₁)(n:∀b,Y b→s.heap.get? b=none)(x:AftY X Y σ s₁ σ' s'):AftX X σ s σ' s':=by
 have ny:∀b,s.heap.get? b≠none→¬Y b:=fun b e z=>e (n b z)
 have lv:∀b,s.heap.get? b≠none→s₁.heap.get? b≠none:=fun b e=>by
  induction z:s.heap.get? b using Option.casesOn with
  |none=>exact absurd z e
  |some o=>rw[k b o z];simp
 exact⟨fun b o e n q=>x.keep b o (k b o e) n q (ny b (by rw[e];simp)),fun b e n=>x.dom b (lv b e) n (ny b e),fun b e n=>x.live b (lv b e) n (ny b e),x.sm.os.trans m.os,x.sm.gens.trans m.gens⟩
structure FoIn (sc:Nms)(env:Env)(fp:Addr)(src:Src)(ρ:Loc)(σ:Sto)(h:Heap):Prop where
 F:FR sc env ρ σ h
 S:St σ h
 I:ItAt h fp src
 hs:σ fp=none
 hb:B.get? fp=none
 ho:¬own env fp
theorem FR.own_lt {env:Env}{h:Heap}(F:FR sc env ρ σ h):∀b,own env b→h.get? b≠none:=by
 rintro b (rfl|⟨x,e⟩)
 ·exact F.live_locals
 ·refine x22 (F.cell x b e) fun v o ho _=> ?_
  rw[ho];nofun
theorem ItAt.there {h:Heap}{fp:Addr}{src:Src}(x:ItAt h fp src):h.get? fp≠none:=by
 refine x34 x.cls fun o _ _ e _ _ _=> ?_;rw[e];nofun
theorem FoIn.aft {env:Env}{fp:Addr}{src:Src}{s s':Shared}{ρ':Loc}{σ':Sto}(c:FoIn sc env fp src ρ σ s.heap)(F':FR sc env ρ' σ' s'.heap)(S':St σ' s'.heap)(T:AftF env σ s σ' s'):FoIn sc env fp src ρ' σ' s'.heap:=
 ⟨F',S',c.I.mono (fun b o e ht=>T.keep b o e (c.S.tup_free e ht) fun hb=>c.F.no_tup hb e ht) fun o e=>T.keep fp o e c.hs c.ho,T.dom fp c.I.there c.hs,c.hb,c.ho⟩
theorem FoIn.but {env:Env}{fp:Addr}{src src':Src}{h h':Heap}(c:FoIn sc env fp src ρ σ h)(k:But fp h h')(I':ItAt h' fp src'):FoIn sc env fp src' ρ σ h':=
 ⟨c.F.but k c.ho fun _=>c.I.noTup,c.S.but k c.hs c.hb fun _=>c.I.noTup,I',c.hs,c.hb,c.ho⟩
theorem FoIn.new {env:Env}{src:Src}{s s':Shared}(F:FR sc env ρ σ s.heap)(S:St σ s.heap)(k:∀b o,s.heap.get? b=some o→s'.heap.get? b=some o)(new:s.heap.get? s.heap.objs.size=none)(I:ItAt s'.heap s.heap.objs.size src)(m:Sm s s'):FoIn sc env s.heap.objs.size src ρ σ s'.heap:=
 ⟨F.aft S (Aft.grow k m.os m.gens),S.grow k,I,S.fresh new,by
  induction q:B.get? s.heap.objs.size using Option.casesOn with
  |none=>rfl
  |some o=>rw[S.base _ _ q] at new;exact nS' new,fun hb=>F.own_lt _ hb new⟩
inductive OutR (sc:Nms)(env:Env)(fp:Addr)(σ:Sto)(s:Shared)(Q:Fl→Loc→Sto→Prop):Result→Shared→Prop
 |mk {s':Shared} (f:Flow) (fl:Fl) (ρ':Loc) (σ':Sto) (rf:RF s'.heap f fl) (q:Q fl ρ' σ') (F:FR sc env ρ' σ' s'.heap) (S:St σ' s'.heap) (T:AftY (own env) (·=fp) σ s σ' s'):OutR sc env fp σ s Q (.ok f) s'
theorem OutR.after {env:Env}{fp:Addr}{σ₁:Sto}{s s₁ s':Shared}{Q:Fl→Loc→Sto→Prop}{r:Result}(o:OutR sc env fp σ₁ s₁ Q r s')(T:AftY (own env) (·=fp) σ s σ₁ s₁):OutR sc env fp σ s Q r s':=
 o.casesOn fun f fl ρ' σ' rf q F S T'=> .mk f fl ρ' σ' rf q F S (T.trans T')
noncomputable def TFor (d:Nat) (sc:Nms) (target:Expr) (body:List Stmt) (src:Src) (ρ:Loc) (σ:Sto) (Q:Fl→Loc→Sto→Prop):Prop:=
 ∀env A s fp,Rm d A→FoIn sc env fp src ρ σ s.heap→codeAny MM A (.forLoop target (.ref fp) body [] env) (OutR sc env fp σ s Q) s
theorem for_tree {target:Expr}{body:List Stmt}{it:Value}{env:Env}{A:Around}{R:Result→Shared→Prop}{s:Shared}
  (h:wpAny MM A (forTurn target it body [] env) (fun fin s'=>match fin with| .done f=>R (.ok f) s'| .again c'=>c'.quiet=true∧codeAny MM A c' R s') NoE s):codeAny MM A (.forLoop target it body [] env) R s:=by
 refine codeAny_of_tree ?_
 rw[show A.under (.forLoop target it body [] env)=A from Around.under_of_weight rfl]
 exact wpAny_noted (wpAny_mono h (fun _ _ x=>x) fun _ _ x=>x.elim)
theorem TFor_end {target:Expr}{body:List Stmt}{src:Src}{Q:Fl→Loc→Sto→Prop}(ok:src.ok σ)(hn:src.next=none)(q:Q .next ρ σ):TFor d sc target body src ρ σ Q:=
 fun env A s fp R c=>by
  refine for_tree ?_
  unfold forTurn
  refine vB (wpAny_standAt (vB (wpAny_onRaise (draw_none R c.S c.I ok hn fun s' k km=>vP ⟨rfl,codeAny_block (wpAny_execs_nil ?_)⟩))))
  exact .mk .next .next ρ σ .next q (c.F.but k c.ho fun _=>c.I.noTup) (c.S.but k c.hs c.hb fun _=>c.I.noTup) (.but k rfl km)
theorem TFor_turn {target:Expr}{body:List Stmt}{src src':Src}{x:V}{Q:Fl→Loc→Sto→Prop}(ok:src.ok σ)(hn:src.next=some (x,src'))
  (h:TA d sc target x ρ σ fun ρ₁ σ₁=>TS d sc body ρ₁ σ₁ (loopS (fun ρ' σ'=>TFor d sc target body src' ρ' σ' Q) Q)):TFor d sc target body src ρ σ Q:=
 fun env A s fp R c=>by
  refine for_tree ?_
  unfold forTurn
  refine vB (wpAny_standAt (vB (wpAny_onRaise (draw_some c.S c.I ok hn fun v s₁ rv I₁ k km=> ?_))))
  have c₁:=c.but k I₁
  refine vB (go_plain I₁ (vB (wA (h env A s₁ v R c₁.F c₁.S rv) fun _ s₂ ρ₂ σ₂ h₂ F₂ S₂ T₂=>vB (wS (h₂ env A s₂ R F₂ S₂) fun f s₃ fl ρ₃ σ₃ rf h₃ F₃ S₃ T₃=> ?_))))
  have T0:AftY (own env) (·=fp) σ s σ₃ s₃:=AftY.trans (Y:=(·=fp)) (AftY.but k rfl km) (T₂.trans T₃).toY
  cases rf with
  |ret rv=>exact vP (.mk _ _ ρ₃ σ₃ (.ret rv) h₃ F₃ S₃ T0)
  |next=>exact vP ⟨rfl,codeAny_mono (h₃ env A s₃ fp R (c₁.aft F₃ S₃ (T₂.trans T₃))) fun r s' o=>o.after T0⟩
noncomputable def kFo (d:Nat) (sc:Nms) (target:Expr) (body:List Stmt) (ρ:Loc) (Q:Fl→Loc→Sto→Prop):Src→Sto→Prop:=fun src σ=>TFor d sc target body src ρ σ Q
theorem TS_for {target iter:Expr}{body:List Stmt}{p:Pos}{Q:Fl→Loc→Sto→Prop}(h:TE d sc iter ρ σ (kSrc (kFo d sc target body ρ Q)))
  (hs:∀env x,foldedSetIterable iter env x=pure x:=by intro _ _;rfl):TS1 d sc (.For target iter body [] p) ρ σ Q:=
 fun env A s R F S=>by
  refine wpAny_For (wO (h env A s R F S) (fun val s₁ v σ₁ rv h_3 S₁ T₁=> ?_)) (hs env)
  refine x12 h_3 fun src hsrc h₁=> ?_
  refine iter_of S₁ rv hsrc fun s₂ k new I km=> ?_
  refine codeAny_mono (h₁ env A s₂ _ R (.new (F.aft S T₁) S₁ k new I km)) fun r s' o=> ?_
  cases o with
  |mk f fl ρ' σ' rf q F' S' T'=>exact⟨fl,ρ',σ',rf,q,F',S',T₁.toX.trans (T'.toX k km fun b e=>by subst e;exact new)⟩
noncomputable def relab (sc ns:Nms):Nms:=ns.map fun x=>if(x.2== .free&&sc.lookup x.1==some .cell)=true then(x.1,.cell) else x
noncomputable def Loc.cap (sc:Nms) (ρ:Loc):Loc:=fun y=>if sc.lookup y=some .cell then ρ y else none
theorem relab_eq {sc:Nms}{scope:Scope}{env:Env}(hn:env.scope.names=sc)(hk:env.scope.kind= .function):(relabel scope env).names=relab sc scope.names:=by
 unfold relabel relab
 dsimp only
 congr 1
 funext x
 obtain⟨n,k⟩:=x
 unfold Env.kindOf
 rw[hn,hk]
 simp
set_option tactic.hygienic true in
theorem clos_spec {env:Env}:∀(ns:List (Str×NameKind)) (acc:List (Str×Addr)),(∀x∈ns,x.2= .free→∃c,env.cells.lookup x.1=some c)→
  ∃cl,(forIn ns acc fun(x:Str×NameKind) (r:List (Str×Addr))=>(match x with|(name,kind)=>if(kind== .free)=true then(do let a←cellOf env name;pure (ForInStep.yield ((name,a)::r))) else pure (ForInStep.yield r):Sem (ForInStep (List (Str×Addr)))))=pure cl∧
   (∀x c,cl.lookup x=some c→env.cells.lookup x=some c∨acc.lookup x=some c)∧(∀x,(x,NameKind.free)∈ns∨(acc.lookup x).isSome=true→(cl.lookup x).isSome=true):=by
 intro ns
 induction ns with
 |nil=>exact fun acc _=>⟨acc,rfl,fun _ _ h=> .inr h,fun x h=>h.elim (fun h=>nomatch h) id⟩
 |cons p r ih=>
  obtain⟨n,k⟩:=p
  intro acc h
  rw[List.forIn_cons]
  have h':∀x∈r,x.2= .free→∃c,env.cells.lookup x.1=some c:=fun x hx=>h x (.tail _ hx)
  by_cases hk:(k== .free)=true
  ·refine x11 (h (n,k) (.head _) (beq_iff_eq.mp hk)) fun c hc=> ?_
   refine x13 (ih ((n,c)::acc) h') fun cl e p q=> ?_
   refine⟨cl,?_,fun x c' hx=> ?_,fun x hx=>q x ?_⟩
   ·dsimp only
    rw[if_pos hk]
    unfold cellOf
    rw[hc]
    exact e
   ·rcases p x c' hx with y|y
    ·exact .inl y
    ·rw[List.lookup_cons] at y
     split at y
     ·rename_i z
      replace y:=sI y;subst y
      have:=beq_iff_eq.mp z
      subst this
      exact .inl hc
     ·exact .inr y
   ·rcases hx with hx|hx
    ·rcases List.mem_cons.mp hx with z|z
     ·have z1:=pI2 z;replace z:=pI1 z;subst z;subst z1;right;simp[List.lookup]
     ·exact .inl z
    ·right
     rw[List.lookup_cons]
     split
     ·rfl
     ·exact hx
  ·refine x13 (ih acc h') fun cl e p q=> ?_
   refine⟨cl,?_,p,fun x hx=>q x ?_⟩
   ·dsimp only
    rw[if_neg hk]
    exact e
   ·rcases hx with hx|hx
    ·rcases List.mem_cons.mp hx with z|z
     ·have z2:=pI2 z;replace z:=pI1 z;subst z;subst z2;simp at hk
     ·exact .inl z
    ·exact .inr hx
noncomputable def okNames (sc ns:Nms):Bool:=ns.all fun x=>x.2 != .cell&&(x.2 != .free||sc.lookup x.1==some .cell)&&(x.2 != .local||ns.lookup x.1==some .local)&&(x.2 != .free||ns.lookup x.1==some .free)
theorem okNames.free {ns:Nms}(h:okNames sc ns=true){x:Str×NameKind}(hx:x∈ns)(hk:x.2= .free):sc.lookup x.1=some .cell:=by
 have:=lA h x hx
 rw[hk] at this
 have z:sc.lookup x.1=some .cell∧ns.lookup x.1=some .free:=by simpa using this
 exact z.1
theorem clos_of {env:Env}{h:Heap}{scope:Scope}(F:FR sc env ρ σ h)(hn:okNames sc scope.names=true):
  ∃cl,closureFor scope env=pure cl∧(∀x c,cl.lookup x=some c→env.cells.lookup x=some c)∧(∀x,(x,NameKind.free)∈scope.names→(cl.lookup x).isSome=true):=by
 obtain⟨cl,e,p,q⟩:=clos_spec (env:=env) scope.names [] fun x hx hk=>by
  refine x22 (F.cells x.1 (.inl (okNames.free hn hx hk))) fun c _ hc _=> ?_
  exact⟨c,hc⟩
 refine⟨cl,?_,fun x c hx=> ?_,fun x hx=>q x (.inl hx)⟩
 ·have z:closureFor scope env=(forIn scope.names [] fun(x:Str×NameKind) (r:List (Str×Addr))=>(match x with|(name,kind)=>if(kind== .free)=true then(do let a←cellOf env name;pure (ForInStep.yield ((name,a)::r))) else pure (ForInStep.yield r):Sem (ForInStep (List (Str×Addr)))))>>=pure:=rfl
  rw[z,e];rfl
 ·rcases p x c hx with y|y
  ·exact y
  ·cases y
theorem relab_look {ns:Nms}:∀{l:Nms} {x:Str},(∀y∈l,y.2= .free→sc.lookup y.1=some .cell)→(∀y∈l,y.2≠ .cell)→
  ((relab sc l).lookup x=some .cell↔l.lookup x=some .free)∧((relab sc l).lookup x=some .local↔l.lookup x=some .local)∧(relab sc l).lookup x≠some .free
 | [],x,_,_=>by simp[relab]
 |(n,k)::r,x,h1,h2=>by
  have ih:= @relab_look ns r x (fun y hy=>h1 y (.tail _ hy)) fun y hy=>h2 y (.tail _ hy)
  have hk:=h2 (n,k) (.head _)
  unfold relab at ih⊢
  rw[List.map_cons]
  induction hx:x==n using Bool.casesOn with
  |false=>
   have e:(if(k==NameKind.free&&sc.lookup n==some .cell)=true then(n,NameKind.cell) else(n,k)).1=n:=by split<;>rfl
   rw[List.lookup_cons,List.lookup_cons]
   simp only[e,hx]
   exact ih
  |true=>
   by_cases hf:k= .free
   ·have:=h1 (n,k) (.head _) hf
    subst hf
    simp[List.lookup_cons,hx,this]
   ·have:(k==NameKind.free)=false:=by simpa using hf
    simp[List.lookup_cons,hx,this]
    exact⟨⟨fun e=>absurd e hk,fun e=>absurd e hf⟩,hf⟩
noncomputable def TL (d:Nat) (sc:Nms) (t:Expr) (v:V) (ρ ρ':Loc):Prop:=
 ∀env A s va σ,Rm d A→FR sc env ρ σ s.heap→St σ s.heap→RV s.heap va v→wpAny MM A (assign t env va) (fun _ s'=>FR sc env ρ' σ s'.heap∧St σ s'.heap∧AftX (·=env.locals) σ s σ s') NoE s
theorem TL_name {x:Str}{p:Pos}{v:V}(hx:sc.lookup x=some .local):TL d sc (.Name x p) v ρ (ρ.put x v):=fun _ _ _ _ _ _ F S r=>wpAny_assign_Name (put_localX hx F S r)
noncomputable def putN (r:Loc) (y:Expr×V):Loc:=match y.1 with
 | .Name x _=>r.put x y.2
 |_=>r
noncomputable def locN (sc:Nms) (t:Expr):Bool:=match t with
 | .Name x _=>sc.lookup x==some .local
 |_=>false
theorem locN_is {t:Expr}(h:locN sc t=true):∃x q,t= .Name x q∧sc.lookup x=some .local:=by
 induction t using Expr.casesOn with
 |Name x q=>exact⟨x,q,rfl,beq_iff_eq.mp h⟩
 |_=>exact nB h
@[reducible] def TlP (sc:Nms) (env:Env) (ρ':Loc) (σ:Sto) (s:Shared):Unit→Shared→Prop:=fun _ s'=>FR sc env ρ' σ s'.heap∧St σ s'.heap∧AftX (·=env.locals) σ s σ s'
theorem TL_all {env:Env}{A:Around}{σ:Sto}{ts:List Expr}:∀{us:List Value} {m:List V} {ρ:Loc} {s:Shared},ts.all (locN sc)=true→ts.length=m.length→RVs s.heap us m→FR sc env ρ σ s.heap→St σ s.heap→
  wpAny MM A (assignInOrder ((assignEach ts env).map (·.2)) us) (TlP sc env ((ts.zip m).foldl putN ρ) σ s) NoE s:=by
 induction ts with
 |nil=>
  intro us m ρ s _ hm r F S
  induction m using List.casesOn with
  |nil=>w_dflts r;exact wpAny_assignInOrder_none ⟨F,S,AftX.refl _ _ _⟩
  |cons _ _=>exact nomatch hm
 |cons t ts ih=>
  intro us m ρ s ha hm r F S
  induction m using List.casesOn with
  |nil=>exact nomatch hm
  |cons y m=>
  refine RVs.consE r fun _ _ r1 r2=> ?_
  refine an2 (bA ha) fun h1 ha2=> ?_
  clear ha
  refine x22 (locN_is h1) fun x q e hx=> ?_
  subst e
  refine wpAny_assignInOrder_more (wpAny_assign_Name (wpAny_mono (put_localX hx F S r1) (fun _ s₂ h₂=>an3 h₂ fun F₂ S₂ T₂=> ?_) fun _ _ x=>x))
  exact wpAny_mono (ih ha2 (Nat.succ.inj hm) (r2.monoF S F (T₂.wider fun b e=> .inl e)) F₂ S₂) (fun _ _ h'=>an3 h' fun F' S' T'=>⟨F',S',T₂.trans T'⟩) fun _ _ x=>x
theorem TL_tup {ns:List Str}{ts:List Expr}{k:Nat}{p:Pos}{xs:List V}(hp:plainTs ts=true)(hl:ts.length=xs.length)(hns:(ts.zip xs).foldl putN ρ=ρ.puts (ns.zip xs))
  (hx:ts.all (locN sc)=true):TL d sc (.Tuple ts k p) (.tup xs) ρ (ρ.puts (ns.zip xs)):=
 fun env A s va σ R F S r=>by
  rw[←hns]
  cases r with
  | @tup a vs _ n e rr=>
  have ht:s.heap.IsTuple a vs.toArray:=⟨_,e,rfl,_,rfl⟩
  refine wpAny_assign_Tuple R.hd ht (by rw[plain_len hp,hl,←rr.length];rfl) (plain_star hp) fun h' hx'=> ?_
  have k:∀b o,s.heap.get? b=some o→h'.get? b=some o:=fun b o eb=>hx' b o (Nat.ne_of_lt (Heap.lt_size eb)) eb
  have T:Aft σ s σ {s with heap:=h'}:=Aft.grow k
  exact wpAny_mono (TL_all hx hl (T.rvs S rr) (F.aft S T) (S.grow k)) (fun _ _ h=>an3 h fun F' S' T'=>⟨F',S',T.toX.trans T'⟩) fun _ _ x=>x
noncomputable def TIfs (d:Nat) (sc:Nms):List Expr→Loc→Sto→(Bool→Sto→Prop)→Prop
 | [],_,σ,Q=>Q true σ
 |c::cs,ρ,σ,Q=>TB d sc c ρ σ fun b σ'=>if b then TIfs d sc cs ρ σ' Q else Q false σ'
theorem skip_ifs {env:Env}{A:Around}{s:Shared}:∀(cs:List Expr) {Q:Bool→Shared→Prop} {E:Value→Shared→Prop},Q false s→wpAny MM A (forIn cs false fun c r=>if r=true then do let ok←isTrue c env (eval c env);pure (ForInStep.yield ok) else pure (ForInStep.yield r)) Q E s
 | [],_,_,h=>vP h
 |c::cs,Q,E,h=>by
  rw[List.forIn_cons]
  simp only[Bool.false_eq_true,if_false]
  exact vB (vP (skip_ifs cs h))
theorem ifs_of {env:Env}{A:Around}(R:Rm d A):∀{cs:List Expr} {σ:Sto} {Q:Bool→Sto→Prop} {s:Shared},FR sc env ρ σ s.heap→St σ s.heap→TIfs d sc cs ρ σ Q→
  wpAny MM A (forIn cs true fun c r=>if r=true then do let ok←isTrue c env (eval c env);pure (ForInStep.yield ok) else pure (ForInStep.yield r)) (OutB σ s Q) NoE s
 | [],σ,Q,s,F,S,h=>vP ⟨σ,h,S,Aft.refl _ _⟩
 |c::cs,σ,Q,s,F,S,h=>by
  rw[List.forIn_cons]
  simp only[if_true]
  refine vB (vB (wB (h env A s R F S) (fun b s₁ σ₁ h₁ S₁ T₁=>vP ?_)))
  induction b using Bool.casesOn with
  |true=>exact wB (ifs_of R (F.aft S T₁) S₁ h₁) (fun _ _ σ' q S' T'=>⟨σ',q,S',T₁.trans T'⟩)
  |false=>exact skip_ifs cs ⟨σ₁,h₁,S₁,T₁⟩
theorem plainList_noTup {h:Heap}{D:Addr}{vs:Array Value}(p:h.PlainList D vs):∀o,h.get? D=some o→¬IsTupO o:=by
 intro o e
 refine x11 p ?_;clear p;intro n p
 rw[p] at e;replace e:=sI e;subst e
 rintro⟨hc,_⟩
 simp at hc
structure CoIn (sc:Nms)(env:Env)(fp D:Addr)(src:Src)(vs:List Value)(acc:List V)(ρ:Loc)(σ:Sto)(h:Heap):Prop extends FoIn sc env fp src ρ σ h where
 p:h.PlainList D vs.toArray
 rv:RVs h vs acc
 hsD:σ D=none
 hbD:B.get? D=none
 hoD:¬own env D
 hne:D≠fp
noncomputable abbrev AftC (env:Env) (fp D:Addr) (σ:Sto) (s:Shared) (σ':Sto) (s':Shared):Prop:=AftY (·=env.locals) (fun b=>b=fp∨b=D) σ s σ' s'
inductive OutC (sc:Nms)(env:Env)(fp D:Addr)(σ:Sto)(s:Shared)(Q:List V→Loc→Sto→Prop):Result→Shared→Prop
 |mk {s':Shared} (l:List V) (ρ':Loc) (σ':Sto) (vs':List Value) (q:Q l ρ' σ') (p:s'.heap.PlainList D vs'.toArray) (r:RVs s'.heap vs' l) (F:FR sc env ρ' σ' s'.heap) (S:St σ' s'.heap) (d:σ' D=none) (T:AftC env fp D σ s σ' s'):OutC sc env fp D σ s Q (.ok .next) s'
section
variable {env:Env}{fp D:Addr}{src src':Src}{vs:List Value}{acc:List V}{s s':Shared}{ρ':Loc}{σ':Sto}
theorem OutC.after {σ₁:Sto}{s₁:Shared}{Q:List V→Loc→Sto→Prop}{r:Result}(o:OutC sc env fp D σ₁ s₁ Q r s')(T:AftC env fp D σ s σ₁ s₁):OutC sc env fp D σ s Q r s':=
 o.casesOn fun l ρ' σ' vs' q p r F S d T'=> .mk l ρ' σ' vs' q p r F S d (T.trans T')
theorem OutC.mono {Q Q':List V→Loc→Sto→Prop}{r:Result}(o:OutC sc env fp D σ s Q r s')(m:∀l ρ' σ',Q l ρ' σ'→Q' l ρ' σ'):OutC sc env fp D σ s Q' r s':=
 o.casesOn fun l ρ' σ' vs' q p r F S d T'=> .mk l ρ' σ' vs' (m _ _ _ q) p r F S d T'
theorem CoIn.aft (c:CoIn sc env fp D src vs acc ρ σ s.heap)(F':FR sc env ρ' σ' s'.heap)(S':St σ' s'.heap)(T:AftF env σ s σ' s'):CoIn sc env fp D src vs acc ρ' σ' s'.heap:=
 ⟨c.toFoIn.aft F' S' T,c.p.elim fun n e=>⟨n,T.keep D _ e c.hsD c.hoD⟩,c.rv.mono fun b o e ht=>T.keep b o e (c.S.tup_free e ht) fun hb=>c.F.no_tup hb e ht,T.dom D (c.p.elim fun n e=>by rw[e];nofun) c.hsD,c.hbD,c.hoD,c.hne⟩
theorem CoIn.but {h h':Heap}(c:CoIn sc env fp D src vs acc ρ σ h)(k:But fp h h')(I':ItAt h' fp src'):CoIn sc env fp D src' vs acc ρ σ h':=
 ⟨c.toFoIn.but k I',c.p.elim fun n e=>⟨n,k _ _ c.hne e⟩,c.rv.mono fun b o e ht=>k b o (fun z=>c.I.noTup (z▸e) ht) e,c.hsD,c.hbD,c.hoD,c.hne⟩
theorem CoIn.back {fp':Addr}{src₂:Src}{vs':List Value}{acc':List V}(c:CoIn sc env fp D src vs acc ρ σ s.heap)(I':ItAt s.heap fp' src₂)(hf:fp≠fp')(T:AftC env fp' D σ s σ' s')(F':FR sc env ρ' σ' s'.heap)(S':St σ' s'.heap)
  (p':s'.heap.PlainList D vs'.toArray) (r':RVs s'.heap vs' acc') (d':σ' D=none):CoIn sc env fp D src vs' acc' ρ' σ' s'.heap:=
 have nY:¬(fp=fp'∨fp=D):=fun z=>z.elim hf fun z=>c.hne z.symm
 ⟨⟨F',S',c.I.mono (fun b o e ht=>T.keep b o e (c.S.tup_free e ht) (fun z=>c.F.no_tup (.inl z) e ht) fun z=>z.elim (fun z=>I'.noTup (z▸e) ht) fun z=>plainList_noTup c.p o (z▸e) ht) fun o e=>T.keep fp o e c.hs (fun z=>c.ho (.inl z)) nY,
  T.dom fp c.I.there c.hs nY,c.hb,c.ho⟩,p',r',d',c.hbD,c.hoD,c.hne⟩
end
noncomputable def TCo (d:Nat) (sc:Nms) (elt:Expr) (gens:List Comprehension) (cs:Scope) (cp:Pos) (k:Nat) (src:Src) (acc:List V) (ρ:Loc) (σ:Sto) (Q:List V→Loc→Sto→Prop):Prop:=
 ∀env A s fp D vs,Rm d A→CoIn sc env fp D src vs acc ρ σ s.heap→codeAny MM A (.compLoop (.ListComp elt gens cs cp) k (.ref fp) (.ref D) env) (OutC sc env fp D σ s Q) s
theorem TCo.mono {elt:Expr}{gens:List Comprehension}{cs:Scope}{cp:Pos}{k:Nat}{src:Src}{acc:List V}{Q Q':List V→Loc→Sto→Prop}(h:TCo d sc elt gens cs cp k src acc ρ σ Q)(m:∀l ρ' σ',Q l ρ' σ'→Q' l ρ' σ'):TCo d sc elt gens cs cp k src acc ρ σ Q':=
 fun env A s fp D vs R c=>codeAny_mono (h env A s fp D vs R c) fun _ _ o=>o.mono m
theorem comp_tree {elt:Expr}{gens:List Comprehension}{cs:Scope}{cp:Pos}{k:Nat}{it acc:Value}{env:Env}{A:Around}{R:Result→Shared→Prop}{s:Shared}
  (h:wpAny MM A (compTurn (.ListComp elt gens cs cp) k it acc env) (fun fin s'=>match fin with| .done f=>R (.ok f) s'| .again c'=>c'.quiet=true∧codeAny MM A c' R s') NoE s):codeAny MM A (.compLoop (.ListComp elt gens cs cp) k it acc env) R s:=by
 refine codeAny_of_tree ?_
 have hA:A.under (.compLoop (.ListComp elt gens cs cp) k it acc env)=A:=Around.under_of_weight rfl
 rw[hA]
 show wpAny _ A ((compTurn (.ListComp elt gens cs cp) k it acc env).onRaise (fun x=>do noteFrame x env;theTreesLotGoes x)) _ _ s
 exact wpAny_noted (wpAny_mono h (fun _ _ x=>x) fun _ _ x=>x.elim)
noncomputable def coRest (elt:Expr) (gens:List Comprehension) (cs:Scope) (cp:Pos) (k:Nat) (ifs:List Expr) (it acc:Value) (env:Env):Sem Fin:=do
 let ok←forIn ifs true fun c r=>if r=true then do let ok←isTrue c env (eval c env);pure (ForInStep.yield ok) else pure (ForInStep.yield r)
 if ok then
  match gens[k+1]? with
  |some g'=>
   let x←eval g'.iter env
   standAt g'.iter.pos
   let x←if g'.is_async !=0 then foldedIterable g'.iter x else foldedSetIterable g'.iter env x
   let _←runOwn (.compStart (.ListComp elt gens cs cp) (k+1) (←holding [x] (if g'.is_async !=0 then asyncIter x else pyIter x)) acc env) env
  |none=>(do let _←call (.builtin "list.append") [acc,←eval elt env])
 again (.compLoop (.ListComp elt gens cs cp) k it acc env)
theorem comp_turn {elt:Expr}{gens:List Comprehension}{cs:Scope}{cp:Pos}{k:Nat}{it acc:Value}{env:Env}{g:Comprehension}(hg:gens[k]? =some g)(ha:g.is_async=0):
  compTurn (.ListComp elt gens cs cp) k it acc env=(do
   standAt g.iter.pos
   match←pyNext it with
   |none=>pure (.done .next)
   |some v=>
    letOwnedTupleGo g.target it v
    assign g.target env v
    let ok←forIn g.ifs true fun c r=>if r=true then do let ok←isTrue c env (eval c env);pure (ForInStep.yield ok) else pure (ForInStep.yield r)
    if ok then
     match gens[k+1]? with
     |some g'=>
      let x←eval g'.iter env
      standAt g'.iter.pos
      let x←if g'.is_async !=0 then foldedIterable g'.iter x else foldedSetIterable g'.iter env x
      let _←runOwn (.compStart (.ListComp elt gens cs cp) (k+1) (←holding [x] (if g'.is_async !=0 then asyncIter x else pyIter x)) acc env) env
     |none=>(do let _←call (.builtin "list.append") [acc,←eval elt env])
    again (.compLoop (.ListComp elt gens cs cp) k it acc env)):=by
 unfold compTurn
 dsimp only
 rw[hg]
 dsimp only
 rw[ha]
 rfl
theorem TCo_end {elt:Expr}{gens:List Comprehension}{cs:Scope}{cp:Pos}{k:Nat}{src:Src}{acc:List V}{g:Comprehension}{Q:List V→Loc→Sto→Prop}(hg:gens[k]? =some g)(ha:g.is_async=0:=by rfl)(ok:src.ok σ)(hn:src.next=none)(q:Q acc ρ σ):TCo d sc elt gens cs cp k src acc ρ σ Q:=
 fun env A s fp D vs R c=>by
  refine comp_tree ?_
  rw[comp_turn hg ha]
  have nt:=fun o=>c.I.noTup (o:=o)
  exact vB (wpAny_standAt (vB (draw_none R c.S c.I ok hn fun s' k' km=>vP (.mk acc ρ σ vs q (c.p.elim fun n e=>⟨n,k' _ _ c.hne e⟩) (c.rv.mono fun b o e ht=>k' b o (fun z=>nt o (z▸e) ht) e) (c.F.but k' c.ho nt) (c.S.but k' c.hs c.hb nt) c.hsD (.but k' (.inl rfl) km)))))
end
section
variable {d:Nat}{sc:Nms}{ρ:Loc}{σ:Sto}
theorem acc_push {A:Around}{s:Shared}{env:Env}{D fp:Addr}{src:Src}{vs:List Value}{acc:List V}{va:Value}{v:V}{Q:Value→Shared→Prop}(c:CoIn sc env fp D src vs acc ρ σ s.heap)(rv:RV s.heap va v)(hz:acc.length≤sizeLine)
  (h:∀s',CoIn sc env fp D src (vs++ [va]) (acc++ [v]) ρ σ s'.heap→AftC env fp D σ s σ s'→Q .none s'):wpAny MM A (call (.builtin "list.append") [.ref D,va]) Q NoE s:=by
 have nt:=plainList_noTup c.p
 refine x11 c.p fun n e=> ?_
 refine call_meets PySem.F.slot_list_append ⟨_,e,rfl⟩ PySem.F.entry_list_append (PySem.F.args_list_append_2 _ _) (PySem.list_append D vs.toArray n va (by simpa[c.rv.length] using hz)) ⟨e,?_⟩
 have k:But D s.heap (s.heap.update D (Obj.mapSeq fun xs=>xs.push va)):=(Heap.SameBut.update ..).extBut
 have kt:∀b o,s.heap.get? b=some o→IsTupO o→(s.heap.update D (Obj.mapSeq fun xs=>xs.push va)).get? b=some o:=fun b o eb ht=>k b o (fun z=>nt o (z▸eb) ht) eb
 have g:(s.heap.update D (Obj.mapSeq fun xs=>xs.push va)).get? D=some {cls:= .type "list",data:= .seq (vs++ [va]).toArray (n+1)}:=by
  rw[Heap.get?_update_self _ e (by rw[mapSeq_push];rfl),mapSeq_push]
 exact h _ ⟨⟨c.F.but k c.hoD nt,c.S.but k c.hsD c.hbD nt,c.I.mono kt fun o e=>k fp o c.hne.symm e,c.hs,c.hb,c.ho⟩,⟨_,g⟩,(c.rv.append (.cons rv .nil)).mono kt,c.hsD,c.hbD,c.hoD,c.hne⟩ (.but k (.inr rfl) ⟨rfl,rfl⟩)
theorem co_draw {elt:Expr}{gens:List Comprehension}{cs:Scope}{cp:Pos}{k:Nat}{src src':Src}{acc:List V}{x:V}{ρ₁:Loc}{target iter:Expr}{ifs:List Expr}{env:Env}{A:Around}{s:Shared}{fp D:Addr}{vs:List Value}{P:Result→Shared→Prop}
  (hg:gens[k]? =some ⟨target,iter,ifs,0⟩) (R:Rm d A) (c:CoIn sc env fp D src vs acc ρ σ s.heap) (ok:src.ok σ) (hn:src.next=some (x,src')) (ht:TL d sc target x ρ ρ₁)
  (h:∀s₂,CoIn sc env fp D src' vs acc ρ₁ σ s₂.heap→AftC env fp D σ s σ s₂→wpAny MM A (coRest elt gens cs cp k ifs (.ref fp) (.ref D) env) (fun fin s'=>match fin with| .done f=>P (.ok f) s'| .again c'=>c'.quiet=true∧codeAny MM A c' P s') NoE s₂):
  codeAny MM A (.compLoop (.ListComp elt gens cs cp) k (.ref fp) (.ref D) env) P s:=by
 refine comp_tree ?_
 rw[comp_turn hg rfl]
 refine vB (wpAny_standAt (vB (draw_some c.S c.I ok hn fun v s₁ rx I₁ k₁ m₁=> ?_)))
 have c₁:=c.but k₁ I₁
 refine vB (go_plain I₁ (vB (wpAny_mono (ht env A s₁ v σ R c₁.F c₁.S rx) (fun _ s₂ z=> ?_) fun _ _ x=>x.elim)))
 exact h s₂ (c₁.aft z.1 z.2.1 (z.2.2.wider fun _=> .inl)) (AftY.trans (.but k₁ (.inl rfl) m₁) z.2.2.toY)
theorem TCo_turn {elt:Expr}{gens:List Comprehension}{cs:Scope}{cp:Pos}{k:Nat}{src src':Src}{acc:List V}{x:V}{ρ₁:Loc}{target iter:Expr}{ifs:List Expr}{Q:List V→Loc→Sto→Prop}
  (hg:gens[k]? =some ⟨target,iter,ifs,0⟩) (hg':gens[k+1]? =none) (ok:src.ok σ) (hn:src.next=some (x,src')) (hz:acc.length≤sizeLine) (ht:TL d sc target x ρ ρ₁)
  (h:TIfs d sc ifs ρ₁ σ fun b σ₁=>if b then TE d sc elt ρ₁ σ₁ fun v σ₂=>TCo d sc elt gens cs cp k src' (acc++ [v]) ρ₁ σ₂ Q else TCo d sc elt gens cs cp k src' acc ρ₁ σ₁ Q):TCo d sc elt gens cs cp k src acc ρ σ Q:=
 fun env A s fp D vs R c=>by
  refine co_draw hg R c ok hn ht fun s₂ c₂ T₂=> ?_
  refine vB (wB (ifs_of R c₂.F c₂.S h) fun b s₃ σ₃ h₃ S₃ T₃=> ?_)
  have c₃:=c₂.aft (c₂.F.aft c₂.S T₃) S₃ T₃.toX
  have T:=T₂.trans T₃.toY
  induction b using Bool.casesOn with
  |false=>exact vP ⟨rfl,codeAny_mono (h₃ env A s₃ fp D vs R c₃) fun _ _ o=>o.after T⟩
  |true=>
   rw[if_pos rfl,hg']
   refine vB (vB (wO (h₃ env A s₃ R c₃.F c₃.S) fun va s₄ v' σ₄ rv' h₄ S₄ T₄=> ?_))
   have c₄:=c₃.aft (c₃.F.aft c₃.S T₄) S₄ T₄.toX
   exact vB (acc_push c₄ rv' hz fun s₅ c₅ T₅=>vP (vP ⟨rfl,codeAny_mono (h₄ env A s₅ fp D _ R c₅) fun _ _ o=>o.after ((T.trans T₄.toY).trans T₅)⟩))
theorem iter_self {A:Around}{s:Shared}{fp:Addr}{src:Src}{Q:Value→Shared→Prop}{E:Value→Shared→Prop}(I:ItAt s.heap fp src)(h:Q (.ref fp) s):wpAny MM A (pyIter (.ref fp)) Q E s:=by
 induction src using Src.casesOn with
 |list l xs i=>exact wpAny_pyIter_listiter I h
 |tup xs i=>refine x32 I fun t vs n hi _=> ?_;clear I;exact wpAny_pyIter_tupleiter hi h
 |rng i n=>exact wpAny_pyIter_rangeiter I.1 h
 |keys d o es i=>
  refine x22 I fun es' ep hd hit=> ?_;clear I
  refine wpAny_pyIter_slot hit.typeIs PySem.F.slot_dict_keyiterator_iter (wpAny_call_entry PySem.F.slot_dict_keyiterator_iter hit.typeIs PySem.F.entry_dict_keyiterator_iter ?_ (PySem.F.args_dict_keyiterator_iter_1 _))
  show wpAny _ _ (ret (.ref fp)) _ _ s
  exact vP ⟨_,rfl,"dict_keyiterator",_,hit.typeIs,PySem.F.slot_dict_keyiterator_next.lookup,h⟩
theorem comp_start {elt:Expr}{gens:List Comprehension}{cs:Scope}{cp:Pos}{k:Nat}{g:Comprehension}{fp:Addr}{src:Src}{acc:Value}{env:Env}{A:Around}{R:Result→Shared→Prop}{s:Shared}(hg:gens[k]? =some g)(ha:g.is_async=0)(I:ItAt s.heap fp src)
  (h:codeAny MM A (.compLoop (.ListComp elt gens cs cp) k (.ref fp) acc env) R s):codeAny MM A (.compStart (.ListComp elt gens cs cp) k (.ref fp) acc env) R s:=by
 refine codeAny_of_tree ?_
 have hA:A.under (.compStart (.ListComp elt gens cs cp) k (.ref fp) acc env)=A:=Around.under_of_weight rfl
 rw[hA]
 show wpAny _ _ ((compStart (.ListComp elt gens cs cp) k (.ref fp) acc env).onRaise (fun x=>do noteFrame x env;standAt theWindowsPlace)) _ _ s
 refine wpAny_notedAt ?_
 have hcl:(clausesOf (.ListComp elt gens cs cp))[k]? =some g:=hg
 unfold compStart
 rw[hcl]
 simp only[Option.elim_some,ha,bne_self_eq_false,Bool.false_eq_true,if_false]
 refine vB (wpAny_askSetting ?_)
 split
 ·exact vB (vP (vP (And.intro rfl h)))
 ·exact vB (wpAny_rule (vB (wpAny_standAt (vB (iter_self I (vP (And.intro rfl h)))))))
noncomputable def kCn (d:Nat) (sc:Nms) (elt:Expr) (gens:List Comprehension) (cs:Scope) (cp:Pos) (k:Nat) (src:Src) (Q:List V→Loc→Sto→Prop):List V→Loc→Sto→Prop:=fun acc ρ σ=>TCo d sc elt gens cs cp k src acc ρ σ Q
noncomputable def kCi (d:Nat) (sc:Nms) (elt:Expr) (gens:List Comprehension) (cs:Scope) (cp:Pos) (k:Nat) (acc:List V) (ρ:Loc) (Q:List V→Loc→Sto→Prop):Src→Sto→Prop:=fun src σ=>TCo d sc elt gens cs cp k src acc ρ σ Q
theorem TCo_inner {elt:Expr}{gens:List Comprehension}{cs:Scope}{cp:Pos}{k:Nat}{src src':Src}{acc:List V}{x:V}{ρ₁:Loc}{target iter target' iter':Expr}{ifs':List Expr}{Q:List V→Loc→Sto→Prop}
  (hg:gens[k]? =some ⟨target,iter,[],0⟩) (hg':gens[k+1]? =some ⟨target',iter',ifs',0⟩) (ok:src.ok σ) (hn:src.next=some (x,src')) (ht:TL d sc target x ρ ρ₁)
  (h:TE d sc iter' ρ₁ σ (kSrc (kCi d sc elt gens cs cp (k+1) acc ρ₁ (kCn d sc elt gens cs cp k src' Q))))
  (hf:∀env x,foldedSetIterable iter' env x=pure x:=by intro _ _;rfl):TCo d sc elt gens cs cp k src acc ρ σ Q:=
 fun env A s fp D vs R c=>by
  refine co_draw hg R c ok hn ht fun s₂ c₂ T₂=> ?_
  refine vB (wpAny_tests_nil ?_)
  rw[if_pos rfl,hg']
  refine vB (wO (h env A s₂ R c₂.F c₂.S) fun val s₃ v₃ σ₃ rv' h_3 S₃ T₃=> ?_)
  refine x12 h_3 fun src₂ hsrc h₃=> ?_
  have c₃:=c₂.aft (c₂.F.aft c₂.S T₃) S₃ T₃.toX
  refine vB (wpAny_standAt ?_)
  rw[if_neg (show¬((0:Int) !=0)=true by decide),hf env]
  refine vB (vP (vB ?_))
  rw[if_neg (show¬((0:Int) !=0)=true by decide)]
  refine wpAny_holding (iter_of S₃ rv' hsrc fun s₄ k₄ new I₄ m₄=>vB (wpAny_runOwn ?_))
  rw[mark_none]
  have T₄:Aft σ₃ s₃ σ₃ s₄:=Aft.grow k₄ m₄.os m₄.gens
  have c₄:=c₃.aft (c₃.F.aft S₃ T₄) (S₃.grow k₄) T₄.toX
  have hfn:fp≠s₃.heap.objs.size:=fun z=>c₃.I.there (z▸new)
  refine comp_start hg' rfl I₄ (codeAny_mono (h₃ env A s₄ _ D vs R ⟨.new c₃.F S₃ k₄ new I₄ m₄,c₄.p,c₄.rv,c₄.hsD,c₄.hbD,c₄.hoD,fun z=>c₃.p.elim fun n e=>nS (by rw[←e,z,new])⟩) fun r s₅ o=> ?_)
  cases o with
  |mk l ρ₅ σ₅ vs₅ h₅ p₅ r₅ F₅ S₅ d₅ T₅=>
  have c₅:=c₄.back I₄ hfn T₅ F₅ S₅ p₅ r₅ d₅
  refine vP ⟨rfl,codeAny_mono (h₅ env A s₅ fp D vs₅ R c₅) fun _ _ o=>o.after ((T₂.trans T₃.toY).trans ⟨fun b o e n q z=>T₅.keep b o (k₄ b o e) n q fun y=>y.elim (fun y=>nS (by rw[←e,y,new])) fun y=>z (.inr y),fun b e n z=>T₅.dom b ?_ n fun y=>y.elim (fun y=>e (y▸new)) fun y=>z (.inr y),fun b e n z=>T₅.live b ?_ n fun y=>y.elim (fun y=>e (y▸new)) fun y=>z (.inr y),T₅.sm.os.trans m₄.os,T₅.sm.gens.trans m₄.gens⟩)⟩
  all_goals
   induction q:s₃.heap.get? b using Option.casesOn with
   |none=>exact absurd q e
   |some o=>rw[k₄ b o q];nofun
theorem St.take {h:Heap}{a:Addr}{ao:AO}(S:St σ h)(hb:B.get? a=none)(hs:σ a=none)(r:RO h a ao):St (σ.put a ao) h:=by
 refine⟨S.base,fun b e=> ?_,fun b x e=> ?_⟩
 ·by_cases q:b=a
  ·rw[q];exact hb
  ·rw[aM _ _ q] at e;exact S.apart b e
 ·by_cases q:b=a
  ·subst q;rw[aA] at e;replace e:=sI e;subst e;exact r
  ·rw[aM _ _ q] at e;exact S.obj b x e
theorem comp_frame {env:Env}{h h₁:Heap}{cs:Scope}{cl:List (Str×Addr)}{L:Addr}{qual:Str}(F:FR sc env ρ σ h)(S:St σ h)(hk:cs.kind= .function)(hn:okNames sc cs.names=true)(hcl:∀x c,cl.lookup x=some c→env.cells.lookup x=some c)(hcl':∀x,(x,NameKind.free)∈cs.names→(cl.lookup x).isSome=true)
  (keep:∀b o,h.get? b=some o→h₁.get? b=some o) (new:h.get? L=none) (ns:h₁.Ns L fun _=>none):
  FR (relab sc cs.names) {newEnv cs L env.globals cl qual none .none (some env) env.builtins with scope:=relabel cs env} (Loc.cap (relab sc cs.names) ρ) σ h₁:=by
 have look:=fun x=> @relab_look sc [] cs.names x (fun y hy hf=>okNames.free hn hy hf) (fun y hy e=>by have:=lA hn y hy;rw[e] at this;simp at this)
 have nb:B.get? L=none:=by
  induction q:B.get? L using Option.casesOn with
  |none=>rfl
  |some o=>rw[S.base _ _ q] at new;exact nS' new
 refine⟨relab_eq F.nm F.fn,hk,F.gl,F.bi,⟨_,ns,fun x hx=> ?_⟩,fun x hx=> ?_,fun x y c h1 h2=>F.one x y c (hcl _ _ h1) (hcl _ _ h2),fun x c hc=> ?_,S.fresh new,fun x c hc=>F.nc x c (hcl _ _ hc),fun b hb=> ?_⟩
 ·have:Loc.cap (relab sc cs.names) ρ x=none:=by unfold Loc.cap;rw[hx];rfl
  rw[this];trivial
 ·have hx':(relab sc cs.names).lookup x=some .cell:=by
   rcases hx with hx|hx
   ·exact hx
   ·exact absurd hx (look x).2.2
  have hf:=(look x).1.mp hx'
  have hm:(x,NameKind.free)∈cs.names:=mem_of_look hf
  refine x11 (Option.isSome_iff_exists.mp (hcl' x hm)) fun c hc=> ?_
  refine x23 (F.cells x (.inl (okNames.free hn hm rfl))) fun c' v hc' z1 r=> ?_;refine x12 z1 fun o e hd=> ?_;clear z1
  have:c'=c:=by have:=hcl _ _ hc;rw[hc'] at this;replace this:=sI this;subst this;rfl
  subst this
  refine⟨c',v,hc,⟨o,keep _ _ e,hd⟩,?_⟩
  have:Loc.cap (relab sc cs.names) ρ x=ρ x:=by unfold Loc.cap;rw[if_pos hx']
  rw[this]
  exact r.mono fun b o e _=>keep b o e
 ·refine x22 (F.cell x c (hcl _ _ hc)) fun v o e hd=> ?_
  exact⟨v,o,keep _ _ e,hd⟩
 ·rcases hb with rfl|⟨x,hx⟩
  ·exact nb
  ·exact F.ap _ (.inr ⟨x,hcl _ _ hx⟩)
theorem comp_core {elt target iter:Expr}{ifs:List Expr}{gens:List Comprehension}{cs:Scope}{cp:Pos}{use:Option (Value→Sem Unit)}{env:Env}{A:Around}{s:Shared}{Q:List V→Loc→Sto→Prop}{P:Value→Shared→Prop}(R:Rm d A)(F:FR sc env ρ σ s.heap)(S:St σ s.heap)
  (hk:cs.kind= .function) (hn:okNames sc cs.names=true)
  (h:TE d sc iter ρ σ (kSrc (kCi d (relab sc cs.names) elt (⟨target,iter,ifs,0⟩::gens) cs cp 0 [] (Loc.cap (relab sc cs.names) ρ) Q)))
  (hf:∀env x,foldedSetIterable iter env x=pure x)
  (hP:∀D C l ρ' σ' s',D≠C→(∀b,s.heap.get? b≠none→σ b=none→b≠D∧b≠C)→(∃m,s'.heap.Ns C m)→σ' C=none→B.get? C=none→Q l ρ' σ'→RO s'.heap D (.list l)→σ' D=none→B.get? D=none→St σ' s'.heap→Aft σ s σ' s'→
   compPost MM A NoE use P (.ref D) C (.ok .next) s'):
  wpAny MM A (comprehension (.ListComp elt (⟨target,iter,ifs,0⟩::gens) cs cp) cs env iter.pos (newList []) false (eval iter env) use) P NoE s:=by
 refine x13 (clos_of F hn) fun cl hclos hcl hcl'=> ?_
 refine wpAny_comprehension_free (cl:=cl) rfl (hf env) hclos hk (fun x hx hl=> ?_) ?_
 ·have:=lA hn x hx
  rw[hl] at this
  simp at this
  exact this
 refine wO (h env A s R F S) (fun val s₁ v σ₁ rv h_3 S₁ T₁=> ?_)
 refine x12 h_3 fun src hsrc h₁=> ?_;clear h_3
 have F₁:=F.aft S T₁
 refine iter_of S₁ rv hsrc fun s₂ k new I km=> ?_
 have nb:∀{b:Addr},s₁.heap.get? b=none→B.get? b=none:=fun {b} e=>by
  induction q:B.get? b using Option.casesOn with
  |none=>rfl
  |some o=>rw[S₁.base _ _ q] at e;exact nS' e
 have up:∀{h h':Heap},(∀b o,h.get? b=some o→h'.get? b=some o)→∀{b},h'.get? b=none→h.get? b=none:=fun {h h'} k {b} e=>by
  induction q:h.get? b using Option.casesOn with
  |none=>rfl
  |some o=>rw[k _ _ q] at e;exact nS' e
 refine wpAny_newObj_type ?_
 have hD:=get_size s₂.heap
 generalize hDe:s₂.heap.objs.size=D at hD⊢
 have kD:∀b o,s₂.heap.get? b=some o→(s₂.heap.push {cls:= .type "list",dict:=none,data:= .seq ([]:List Value).toArray}).get? b=some o:=aN _
 have pD:(s₂.heap.push {cls:= .type "list",dict:=none,data:= .seq ([]:List Value).toArray}).PlainList D ([]:List Value).toArray:=⟨0,by rw[←hDe];exact Heap.get?_push_size _ rfl⟩
 generalize hH:s₂.heap.push {cls:= .type "list",dict:=none,data:= .seq ([]:List Value).toArray}=H at kD pD⊢
 have hC:=get_size H
 refine wpAny_newFunctionEnv (fun x hx e=>by have:=lA hn x hx;rw[e] at this;simp at this) (by intro x hx;cases hx) (fun h₄ hns hsb=> ?_) hk
 dsimp only at hns hsb hC⊢
 generalize hCe:H.objs.size=C at hns hsb hC⊢
 have kC:∀b o,H.get? b=some o→h₄.get? b=some o:=fun b o e=>(hsb.2 b fun z=>by subst z;rw[hC] at e;exact nS e).trans (by
  have:=aN (h:=H) ({cls:= .type (if(some env).isSome then "dict" else "frame"),data:= .dict #[]}:Obj) b o e;exact this)
 have k4:∀b o,s₂.heap.get? b=some o→h₄.get? b=some o:=fun b o e=>kC b o (kD b o e)
 have k14:∀b o,s₁.heap.get? b=some o→h₄.get? b=some o:=fun b o e=>k4 b o (k b o e)
 have newC₂:=up kD hC
 have newC:=up k newC₂
 have newD:=up k hD
 have hDC:D≠C:=by
  rintro rfl
  refine x11 pD fun n e=> ?_;clear pD
  rw[e] at hC;exact nS' hC
 have F₄:=comp_frame (cl:=cl) (qual:=env.qual) (F.aft S T₁) S₁ hk hn hcl hcl' k14 newC (by
  have:(fun x:Str=>([]:List (Str×Value)).reverse.lookup x)=fun _=>none:=by funext x;rfl
  rw[this] at hns;exact hns)
 have noOwn:∀{b:Addr},s₁.heap.get? b=none→b≠C→¬own {newEnv cs C env.globals cl env.qual none .none (some env) env.builtins with scope:=relabel cs env} b:=fun {b} e hne=>by
  rintro(z|⟨x,hx⟩)
  ·exact hne z
  ·exact(F.aft S T₁).own_lt b (.inr ⟨x,hcl _ _ hx⟩) e
 refine comp_start (g:=⟨target,iter,ifs,0⟩) rfl rfl (I.mono (fun b o e _=>k4 b o e) fun o e=>k4 _ o e) (codeAny_mono (h₁ _ A {s₂ with heap:=h₄,toks:=s₂.toks+([]:List (Str×Value)).length} _ D [] R
  ⟨⟨F₄,S₁.grow k14,I.mono (fun b o e _=>k4 b o e) fun o e=>k4 _ o e,S₁.fresh new,nb new,noOwn new fun z=>I.there (z▸newC₂)⟩,pD.elim fun n e=>⟨n,kC _ _ e⟩,.nil,S₁.fresh newD,nb newD,noOwn newD hDC,fun z=>I.there (z▸hD)⟩) fun r s' o=> ?_)
 cases o with
 |mk l ρ' σ' vs' q p' r' F' S' d' T'=>
 have e0:∀{b:Addr},s.heap.get? b≠none→σ b=none→s₁.heap.get? b≠none:=fun {b} e n=>by
  induction z:s.heap.get? b using Option.casesOn with
  |none=>exact absurd z e
  |some o=>rw[T₁.keep b o z n];nofun
 have nY:∀{b:Addr},s₁.heap.get? b≠none→¬(b=s₁.heap.objs.size∨b=D):=fun {b} e=>
  fun z=>z.elim (fun z=>e (z▸new)) fun z=>e (z▸newD)
 have T5:Aft σ₁ s₁ σ' s':=by
  refine⟨fun b o e n=>T'.keep b o (k14 b o e) n (fun z=>nS (by rw[←e,show b=C from z,newC])) (nY (by rw[e];nofun)),fun b e n=>T'.dom b ?_ n (nY e),T'.sm.os.trans km.os,T'.sm.gens.trans km.gens⟩
  induction z:s₁.heap.get? b using Option.casesOn with
  |none=>exact absurd z e
  |some o=>show h₄.get? b≠none;rw[k14 b o z];nofun
 refine x12 F'.ns fun m nsC _=> ?_
 exact hP D C l _ σ' s' hDC (fun b e n=>⟨fun z=>e0 e n (z▸newD),fun z=>e0 e n (z▸newC)⟩) ⟨m,nsC⟩ F'.nl (nb newC) q ⟨vs',p',r'⟩ d' (nb newD) S' (T₁.trans T5)
theorem ns_noTup {h:Heap}{C:Addr}{m:Str→Option Value}(n:h.Ns C m):∀o,h.get? C=some o→¬IsTupO o:=by
 intro o e
 refine x33 n fun o' es ep e' hd _=> ?_;clear n
 rw[e'] at e;replace e:=sI e;subst e
 rintro⟨_,vs,k,hd'⟩
 rw[hd] at hd';cases hd'
noncomputable def kLst (Q:V→Sto→Prop):List V→Loc→Sto→Prop:=fun l _ σ=>∀a,σ a=none→Q (.ref a) (σ.put a (.list l))
noncomputable def kSt (x:Str) (ρ:Loc) (Q:Fl→Loc→Sto→Prop):V→Sto→Prop:=fun v σ=>Q .next (ρ.put x v) σ
theorem TE_comp {elt target iter:Expr}{ifs:List Expr}{gens:List Comprehension}{cs:Scope}{cp:Pos}{Q:V→Sto→Prop}(hk:cs.kind= .function)(hn:okNames sc cs.names=true)
  (h:TE d sc iter ρ σ (kSrc (kCi d (relab sc cs.names) elt (⟨target,iter,ifs,0⟩::gens) cs cp 0 [] (Loc.cap (relab sc cs.names) ρ) (kLst Q))))
  (hf:∀env x,foldedSetIterable iter env x=pure x:=by intro _ _;rfl):TE d sc (.ListComp elt (⟨target,iter,ifs,0⟩::gens) cs cp) ρ σ Q:=
 fun env A s R F S=>by
  rw[eval_ListComp]
  refine comp_core (use:=none) R F S hk hn h hf fun D C l _ σ' s' hDC hap ⟨m,hm⟩ hsC hbC q ro hsD hbD S' T=> ?_
  refine⟨m,hm,fun h' hsb=> ?_⟩
  have ntC:=ns_noTup hm
  have k:But C s'.heap h':=hsb.extBut
  have kt:∀b o,s'.heap.get? b=some o→IsTupO o→h'.get? b=some o:=fun b o e ht=>k b o (fun z=>ntC o (z▸e) ht) e
  have S₂:St σ' h':=S'.but k hsC hbC ntC
  have ro':RO h' D (.list l):=ro.mono kt fun o e=>k D o hDC e
  refine⟨.ref D,σ'.put D (.list l),.ref D,q D hsD,S₂.take hbD hsD ro',fun b o e n=> ?_,fun b e n=> ?_,T.os,T.gens⟩
  ·exact k b o (hap b (by rw[e];simp) n).2 (T.keep b o e n)
  ·rw[aM _ _ (hap b e n).1];exact T.dom b e n
theorem TS_compx {x:Str}{xp p:Pos}{elt target iter:Expr}{ifs:List Expr}{gens:List Comprehension}{cs:Scope}{cp:Pos}{Q:Fl→Loc→Sto→Prop}(hx:sc.lookup x=some .local∨sc.lookup x=some .cell)(hk:cs.kind= .function)(hn:okNames sc cs.names=true)
  (h:TE d sc iter ρ σ (kSrc (kCi d (relab sc cs.names) elt (⟨target,iter,ifs,0⟩::gens) cs cp 0 [] (Loc.cap (relab sc cs.names) ρ) (kLst (kSt x ρ Q)))))
  (hf:∀env x,foldedSetIterable iter env x=pure x:=by intro _ _;rfl):TS1 d sc (.Assign [.Name x xp] (.ListComp elt (⟨target,iter,ifs,0⟩::gens) cs cp) p) ρ σ Q:=
 fun env A s R F S=>by
  have hw:swappedStores [.Name x xp] (.ListComp elt (⟨target,iter,ifs,0⟩::gens) cs cp) env=pure none:=rfl
  have put:∀(s:Shared) (ρ:Loc) (σ:Sto) (v:V) (va:Value),FR sc env ρ σ s.heap→St σ s.heap→RV s.heap va v→wpAny MM A (assign (.Name x xp) env va) (fun _ s'=>FR sc env (ρ.put x v) σ s'.heap∧St σ s'.heap∧AftF env σ s σ s') NoE s:=fun s ρ σ v va F S r=>by
   rcases hx with hx|hx
   ·exact wpAny_assign_Name (wA (put_local hx F S r (Q:=fun ρ' σ'=>ρ'=ρ.put x v∧σ'=σ) ⟨rfl,rfl⟩) (fun _ _ _ _ h_2 F' S' T'=>by refine an2 h_2 fun e1 e2=> ?_;clear h_2;subst e1;subst e2;exact⟨F',S',T'⟩))
   ·exact wpAny_assign_Name (wA (put_cell hx F S r (Q:=fun ρ' σ'=>ρ'=ρ.put x v∧σ'=σ) ⟨rfl,rfl⟩) (fun _ _ _ _ h_2 F' S' T'=>by refine an2 h_2 fun e1 e2=> ?_;clear h_2;subst e1;subst e2;exact⟨F',S',T'⟩))
  rw[exec_Assign_arm]
  refine vB (wpAny_standAt ?_)
  have hsw:swapsWithSole [.Name x xp] (.ListComp elt (⟨target,iter,ifs,0⟩::gens) cs cp) p.line env=pure true∨swapsWithSole [.Name x xp] (.ListComp elt (⟨target,iter,ifs,0⟩::gens) cs cp) p.line env=pure false:=by
   unfold swapsWithSole swapsWith
   dsimp only
   generalize (env.blockKind== .function&&env.kindOf x==some .local&&xp.line==_&&_)=b
   induction b using Bool.casesOn
   ·exact .inr rfl
   ·exact .inl rfl
  have pos:firstIterPos (⟨target,iter,ifs,0⟩::gens) cp=iter.pos:=rfl
  rcases hsw with e|e
  ·rw[e]
   refine vB (vP ?_)
   rw[if_pos rfl]
   have core:wpAny MM A (comprehension (.ListComp elt (⟨target,iter,ifs,0⟩::gens) cs cp) cs env iter.pos (newList []) false (eval iter env) (some fun v=>assignAll v ((assignEach [.Name x xp] env).map (·.2))))
     (fun _ s'=>OutS sc env σ s Q .next s') NoE s:=by
    refine comp_core (use:=some _) R F S hk hn h hf fun D C l _ σ' s' hDC hap ⟨m,hm⟩ hsC hbC q ro hsD hbD S' T=> ?_
    have S₂:St (σ'.put D (.list l)) s'.heap:=S'.take hbD hsD ro
    have T₂:Aft σ s (σ'.put D (.list l)) s':=⟨T.keep,fun b e n=>by rw[aM _ _ (hap b e n).1];exact T.dom b e n,T.os,T.gens⟩
    have F₂:FR sc env ρ (σ'.put D (.list l)) s'.heap:=F.aft S T₂
    have hownC:¬own env C:=fun z=>(hap C (F.own_lt C z) (F.own_none C z)).2 rfl
    show wpAny MM A (assignAll (.ref D) [assign (.Name x xp) env]) _ NoE s'
    refine wpAny_mono (put s' ρ _ (.ref D) (.ref D) F₂ S₂ (.ref D)) (fun _ s₃ ⟨F₃,S₃,T₃⟩=> ?_) fun _ _ x=>x
    have lvC:s'.heap.get? C≠none:=by refine x32 hm fun o _ _ e _=> ?_;clear hm;rw[e];simp
    have sC:(σ'.put D (.list l)) C=none:=by rw[aM _ _ hDC.symm];exact hsC
    have hm₃:s₃.heap.Ns C m:=by
     refine x32 hm fun o es ep e r=> ?_;clear hm
     exact⟨o,es,ep,T₃.keep C o e sC hownC,r⟩
    refine⟨m,hm₃,fun h' hsb=> ?_⟩
    have ntC:=ns_noTup hm₃
    have k:But C s₃.heap h':=hsb.extBut
    have sC₃:=T₃.dom C lvC sC
    refine⟨.next,_,_,.next,q D hsD,F₃.but k hownC ntC,S₃.but k sC₃ hbC ntC,?_⟩
    have l2:∀b,s.heap.get? b≠none→σ b=none→s'.heap.get? b≠none:=fun b e n=>by
     induction z:s.heap.get? b using Option.casesOn with
     |none=>exact absurd z e
     |some o=>rw[T₂.keep b o z n];simp
    refine⟨fun b o e n z=> ?_,fun b e n=>T₃.dom b (l2 b e n) (T₂.dom b e n),fun b e n=> ?_,T₃.os.trans T₂.os,T₃.gens.trans T₂.gens⟩
    ·have e':s.heap.get? b≠none:=by rw[e];simp
     exact k b o (hap b e' n).2 (T₃.keep b o (T₂.keep b o e n) (T₂.dom b e' n) z)
    ·have:=T₃.live b (l2 b e n) (T₂.dom b e n)
     induction z:s₃.heap.get? b using Option.casesOn with
     |none=>exact absurd z this
     |some o=>rw[k b o (hap b e n).2 z];simp
   exact vB (vB (wpAny_mono core (fun _ _ o=>vP (vP o)) fun _ _ x=>x))
  ·rw[e]
   refine vB (vP ?_)
   rw[if_neg (by decide)]
   refine vB (wO (TE_comp (Q:=fun v σ'=>∃a,v= .ref a∧Q .next (ρ.put x (.ref a)) σ') hk hn (TE.mono h fun v σ₁ ⟨src,h1,h2⟩=>⟨src,h1,TCo.mono h2 fun _ _ _ q a ha=>⟨a,rfl,q a ha⟩⟩) hf env A s R F S) (fun val s₁ v σ₁ rv h_3 S₁ T₁=> ?_))
   refine x12 h_3 fun a hv q=> ?_;clear h_3
   subst hv
   rw[hw]
   refine vB (vP ?_)
   show wpAny MM A (assignAll val [assign (.Name x xp) env]>>=fun _=>pure Flow.next) _ NoE s₁
   refine vB (wpAny_mono (put s₁ ρ _ (.ref a) val (F.aft S T₁) S₁ rv) (fun _ s₂ ⟨F₂,S₂,T₂⟩=>vP ⟨.next,_,_,.next,q,F₂,S₂,T₁.toX.trans T₂⟩) fun _ _ x=>x)
noncomputable def pickL {α:Type} (l:List α) (lo hi st:Option Int):List α:=
 (sliceRange (sliceBounds lo hi st l.length).1 (sliceBounds lo hi st l.length).2.1 (sliceBounds lo hi st l.length).2.2).filterMap (l[·]?)
theorem pick_arr (vs:List Value)(lo hi st:Option Int):slicePick vs.toArray lo hi st=(pickL vs lo hi st).toArray:=by
 unfold slicePick pickL
 simp
theorem RVs.filterMap {h:Heap}{vs:List Value}{l:List V}(r:RVs h vs l):∀is:List Nat,RVs h (is.filterMap (vs[·]?)) (is.filterMap (l[·]?))
 | []=> .nil
 |i::is=>by
  have ih:=RVs.filterMap r is
  induction e:l[i]? using Option.casesOn with
  |none=>
   have:vs[i]? =none:=by
    have:=List.getElem?_eq_none_iff.mp e
    exact List.getElem?_eq_none_iff.mpr (by rw[r.length];exact this)
   rw[List.filterMap_cons_none e,List.filterMap_cons_none this];exact ih
  |some x=>
   refine x12 (r.get e) fun v hv rv=> ?_
   rw[List.filterMap_cons_some e,List.filterMap_cons_some hv];exact .cons rv ih
theorem RVs.pick {h:Heap}{vs:List Value}{l:List V}(r:RVs h vs l)(lo hi st:Option Int):RVs h (pickL vs lo hi st) (pickL l lo hi st):=by
 unfold pickL
 rw[r.length]
 exact r.filterMap _
theorem fm_congr {α β:Type}{f g:α→Option β}:∀{l:List α},(∀x∈l,f x=g x)→l.filterMap f=l.filterMap g
 | [],_=>rfl
 |x::l,h=>by rw[List.filterMap_cons,List.filterMap_cons,h x (.head _),fm_congr fun y hy=>h y (.tail _ hy)]
theorem range_all {α:Type}(l:List α):(List.range l.length).filterMap (l[·]?)=l:=by
 have:=krv_all l.toArray
 simpa using this
theorem pick_rev {α:Type}(l:List α):pickL l none none (some (-1))=l.reverse:=by
 unfold pickL
 rw[krv_bounds]
 show(sliceRange ((l.length:Int)-1) (-1) (-1)).filterMap (l[·]?)=_
 rw[krv_sliceRange,krv_range,List.filterMap_reverse,range_all]
theorem pick_upto {α:Type}(l:List α)(n:Nat):pickL l none (some (n:Int)) none=l.take n:=by
 unfold pickL
 have hb:sliceBounds none (some (n:Int)) none l.length=(0,((min n l.length:Nat):Int),1):=by
  unfold sliceBounds
  simp
  lia
 rw[hb]
 show(sliceRange ((0:Nat):Int) ((min n l.length:Nat):Int) 1).filterMap (l[·]?)=_
 rw[sliceRange_one]
 have e:(List.range (min n l.length-0)).map (0+ ·)=List.range (min n l.length):=by
  rw[show((0+ ·):Nat→Nat)=id from funext fun k=>Nat.zero_add k,List.map_id,Nat.sub_zero]
 rw[e]
 have:=range_all (l.take n)
 rw[List.length_take] at this
 have hc:∀i∈List.range (min n l.length),l[i]? =(l.take n)[i]? :=fun i hi=>by
  have:=List.mem_range.mp hi
  rw[List.getElem?_take_of_lt (nT this (Nat.min_le_left _ _))]
 rw[fm_congr hc,this]
theorem pick_back {α:Type}(l:List α):pickL l none (some 0) (some (-1))=(l.drop 1).reverse:=by
 induction l using List.casesOn with
 |nil=>rfl
 |cons x l=>
  unfold pickL
  have hb:sliceBounds none (some 0) (some (-1)) (x::l).length=((l.length:Int),0, -1):=by
   unfold sliceBounds
   simp
   lia
  rw[hb]
  have hr:sliceRange (l.length:Int) 0 (-1)=(List.range l.length).map fun k=>l.length-k:=by
   unfold sliceRange
   have h1:¬((-1:Int)>0):=by decide
   by_cases h:(l.length:Int)>0
   ·have e:((l.length:Int)-0- -1-1) / (- -1)=(l.length:Int):=by
     rw[show(- -1:Int)=1 by decide,Int.ediv_one];lia
    simp only[h1,if_false,h,if_true,e,Int.toNat_natCast]
    apply List.map_congr_left
    intro k hk
    have:=List.mem_range.mp hk
    lia
   ·have e:l.length=0:=by lia
    simp[e]
  show(sliceRange (l.length:Int) 0 (-1)).filterMap ((x::l)[·]?)=_
  rw[hr,List.filterMap_map]
  have e2:∀k∈List.range l.length,((fun i=>(x::l)[i]?)∘fun k=>l.length-k) k=((fun i=>l[i]?)∘fun k=>l.length-1-k) k:=fun k hk=>by
   have:=List.mem_range.mp hk
   show(x::l)[l.length-k]? =l[l.length-1-k]?
   rw[show l.length-k=(l.length-1-k)+1 by lia,List.getElem?_cons_succ]
  rw[fm_congr e2,←List.filterMap_map,krv_range,List.filterMap_reverse,range_all]
  rfl
theorem T1_neg {a:Int}{Q:V→Sto→Prop}(q:Q (.int (-a)) σ):T1 d (unaryOp .USub) (.int a) σ Q:=fun A s va R S r=>by
 w_dflts r;exact PySem.P.neg_int (here S rfl (.int _ _) q)
theorem T2_item_tup {l:List V}{i:Int}{j:Nat}{x:V}{Q:V→Sto→Prop}(hlo: -(2 ^ 63)≤i)(hhi:i<2 ^ 63)(hj:seqIndex? i l.length=some j)(hx:l[j]? =some x)(q:Q x σ):TI d (.tup l) (.int i) σ Q:=by
 refine⟨fun A s va vb R S ra rb=> ?_,fun s va S r=> ?_⟩
 ·cases ra with
  | @tup a vs _ n et rr=>
  w_dflts rb
  refine x12 (rr.get hx) fun v hv rv=> ?_
  exact wpAny_operating (PySem.P.getItem_tuple et hlo hhi (by simp[rr.length];exact hj) (by simpa using hv) (here S rfl rv q))
 ·cases r with
  |tup et rr=>exact⟨_,_,⟨_,et,rfl⟩,slot_tuple_getitem.lookup⟩
theorem aP {a:Addr}{l:List V}{i:Int}{x:V}{Q:V→Sto→Prop}(hl:σ a=some (.list l))(h0:0≤i)(hhi:i<2 ^ 63)(hx:l[i.toNat]? =some x)(q:Q x σ):TI d (.ref a) (.int i) σ Q:=by
 refine⟨fun A s va vb R S ra rb=> ?_,fun s va S r=> ?_⟩
 ·w_dflts ra;w_dflts rb
  refine x12 ((S.obj _ _ hl).isList) fun vs hL rr=> ?_
  refine x12 (rr.get hx) fun v hv rv=> ?_
  exact wpAny_operating (wpAny_getItem_list hL h0 hhi (by simpa using hv) (here S rfl rv q))
 ·w_dflts r
  refine x12 ((S.obj _ _ hl).isList) fun vs hL rr=> ?_
  exact⟨_,_,hL.typeIs,slot_list_getitem.lookup⟩
theorem T2_item_last {a:Addr}{l:List V}{x:V}{Q:V→Sto→Prop}(hl:σ a=some (.list (l++ [x])))(q:Q x σ):TI d (.ref a) (.int (-1)) σ Q:=by
 refine⟨fun A s va vb R S ra rb=> ?_,fun s va S r=> ?_⟩
 ·w_dflts ra;w_dflts rb
  refine x12 ((S.obj _ _ hl).isList) fun vs hL rr=> ?_
  obtain⟨v,hv,rv⟩:=rr.get (i:=l.length) (x:=x) (by simp)
  have hz:vs.length=l.length+1:=by rw[rr.length];simp
  refine wpAny_operating (wpAny_getItem_list_neg hL (by decide) (by simp;lia) (by decide) (x:=v) ?_ (here S rfl rv q))
  have:((-1:Int)+(vs.toArray.size:Int)).toNat=l.length:=by simp[hz];lia
  rw[this]
  simpa using hv
 ·w_dflts r
  refine x12 ((S.obj _ _ hl).isList) fun vs hL rr=> ?_
  exact⟨_,_,hL.typeIs,slot_list_getitem.lookup⟩
noncomputable def TEo (d:Nat) (sc:Nms) (e:Option Expr) (ρ:Loc) (σ:Sto) (Q:Option Int→Sto→Prop):Prop:=match e with
 |none=>Q none σ
 |some e=>TE d sc e ρ σ fun v σ'=>∃i,v= .int i∧Q (some i) σ'
inductive OutP (σ:Sto)(s:Shared)(Q:Option Int→Sto→Prop)(v:Value)(s':Shared):Prop
 |mk (i:Option Int) (σ':Sto) (r:IsPart v i) (q:Q i σ') (S:St σ' s'.heap) (T:Aft σ s σ' s')
theorem wP {A:Around}{E P:Value→Shared→Prop}{s:Shared}{t:Sem Value}{Q:Option Int→Sto→Prop}(h:wpAny (model pw w) A t (OutP σ s Q) NoE s)(k:∀va s₁ v σ₁,IsPart va v→Q v σ₁→St σ₁ s₁.heap→Aft σ s σ₁ s₁→P va s₁):wpAny (model pw w) A t P E s:=
 wpAny_mono h (fun va s₁ o=>o.casesOn (k va s₁)) fun _ _ x=>x.elim
theorem part_of {e:Option Expr}{env:Env}{A:Around}{s:Shared}{Q:Option Int→Sto→Prop}(h:TEo d sc e ρ σ Q)(R:Rm d A)(F:FR sc env ρ σ s.heap)(S:St σ s.heap):
  wpAny MM A (evalPart e env) (OutP σ s Q) NoE s:=by
 induction e using Option.casesOn with
 |none=>exact vP ⟨none,σ,.none,h,S,Aft.refl _ _⟩
 |some e=>exact wO (h env A s R F S) (fun v s' x σ' r h_3 S' T=>by refine x12 h_3 fun i hi q=> ?_;clear h_3;subst hi;w_dflts r;exact⟨some i,σ',.int _ _,q,S',T⟩)
theorem slice_ops {lo hi st:Option Expr}{p:Pos}(o i:Value):∃ops,subscripted (.Slice lo hi st p) false o i=operate ops (getItem o i):=by
 induction st using Option.casesOn with
 |none=>exact⟨_,rfl⟩
 |some e=>exact⟨_,rfl⟩
@[irreducible] def Lf (p:Prop):Prop:=p
theorem Lf.i {p:Prop}(h:p):Lf p:=by unfold Lf;exact h
theorem Lf.o {p:Prop}(h:Lf p):p:=by unfold Lf at h;exact h
noncomputable abbrev SlP:=V→Option Int→Option Int→Option Int→Sto→Prop
section
variable (d:Nat)(sc:Nms)
noncomputable def kSl3 (ρ:Loc) (P:SlP) (ov:V) (l u:Option Int):Option Int→Sto→Prop:=fun t σ=>Lf (P ov l u t σ)
noncomputable def kSl2 (st:Option Expr) (ρ:Loc) (P:SlP) (ov:V) (l:Option Int):Option Int→Sto→Prop:=fun u σ=>Lf (TEo d sc st ρ σ (kSl3 ρ P ov l u))
noncomputable def kSl1 (hi st:Option Expr) (ρ:Loc) (P:SlP) (ov:V):Option Int→Sto→Prop:=fun l σ=>Lf (TEo d sc hi ρ σ (kSl2 d sc st ρ P ov l))
noncomputable def kSl0 (lo hi st:Option Expr) (ρ:Loc) (P:SlP):V→Sto→Prop:=fun ov σ=>Lf (TEo d sc lo ρ σ (kSl1 d sc hi st ρ P ov))
end
@[reducible] def SlL (Q:V→Sto→Prop):SlP:=fun ov l u t σ=>∃a xs,ov= .ref a∧σ a=some (.list xs)∧xs.length≤sizeLine∧t≠some 0∧∀c,σ c=none→Q (.ref c) (σ.put c (.list (pickL xs l u t)))
set_option backward.match.sparseCases true in
theorem TE_slice {o:Expr}{lo hi st:Option Expr}{p p':Pos}{Q:V→Sto→Prop}(h:TE d sc o ρ σ (kSl0 d sc lo hi st ρ (SlL Q))):
  TE d sc (.Subscript o (.Slice lo hi st p) p') ρ σ Q:=
 fun env A s R F S=>by
  rw[eval_Subscript]
  refine vB (wO (h env A s R F S) (fun va s₁ ov σ₁ ro h₁ S₁ T₁=> ?_))
  have F₁:=F.aft S T₁
  refine vB (wpAny_holding (wpAny_Slice (wP (part_of h₁.o R F₁ S₁) (fun v2 s₂ l σ₂ pl h₂ S₂ T₂=>wP (part_of h₂.o R (F₁.aft S₁ T₂) S₂) (fun v3 s₃ u σ₃ pu h₃ S₃ T₃=>
   wP (part_of h₃.o R ((F₁.aft S₁ T₂).aft S₂ T₃) S₃) (fun v4 s₄ t σ₄ pt h₄ S₄ T₄=> ?_))))))
  refine x25 h₄.o fun a xs z1 hl hz h0 q=> ?_;clear h₄;subst z1
  w_dflts ro
  refine vB (wpAny_standAt ?_)
  have k1:=aN (h:=s₄.heap) ({cls:= .type "slice",data:= .fields #[v2,v3,v4]}:Obj)
  have S₅:=S₄.grow k1
  refine x12 ((S₅.obj _ _ hl).isList) fun vs hL rr=> ?_
  generalize hH:s₄.heap.push {cls:= .type "slice",data:= .fields #[v2,v3,v4]}=H at hL rr S₅ k1⊢
  have hsl:H.IsSliceOf s₄.heap.objs.size v2 v3 v4:=by rw[←hH];exact Heap.IsSliceOf.new ..
  have e:getitemInPython (.ref a)=(do match←specialOf (.ref a) "__getitem__" with|some (.ref f)=>do pure (match (←load f).data with| .func _=>true|_=>false)|_=>pure false):=
   getitemInPython_of_ne (Shared.TypeIs.not_modules (s:={s₄ with heap:=H}) (T:="list") (Heap.IsList.typeIs (s:={s₄ with heap:=H}) hL))
  rw[e]
  refine vB (vB (wpAny_specialOf (s:={s₄ with heap:=H}) (Heap.IsList.typeIs (s:={s₄ with heap:=H}) hL) slot_list_getitem.lookup (vP ?_)))
  refine x11 (slice_ops (lo:=lo) (hi:=hi) (st:=st) (p:=p) (.ref a) (.ref s₄.heap.objs.size)) fun ops hops=> ?_
  rw[hops]
  refine vB (wpAny_operating (wpAny_getItem_list_slice (s:={s₄ with heap:=H}) hL hsl pl pu pt h0 ?_ (by simp[rr.length];exact hz)))
  refine vB (wpAny_letTemporaryGo (vP ?_))
  rw[pick_arr]
  have nn:=get_size H
  have k2:=aN (h:=H) ({cls:= .type "list",data:= .seq (pickL vs l u t).toArray}:Obj)
  have rr2:=(rr.pick l u t).mono fun b o e _=>k2 b o e
  have T45:Aft σ₄ s₄ σ₄ {s₄ with heap:=H}:=Aft.grow k1
  exact⟨.ref _,σ₄.put H.objs.size (.list (pickL xs l u t)),.ref _,q _ (S₅.fresh nn),S₅.add k2 nn ⟨_,⟨0,Heap.get?_push_size _ rfl⟩,rr2⟩,((((T₁.trans T₂).trans T₃).trans T₄).trans T45).trans (Aft.add k2 nn _)⟩
theorem C_list_list {a:Addr}{l:List V}{Q:V→Sto→Prop}(hl:σ a=some (.list l))(hz:l.length≤sizeLine)(q:∀c,σ c=none→Q (.ref c) (σ.put c (.list l))):CallV d (.ty "list") [.ref a] σ Q:=
 fun A s fv vs R S rf rs=>by
  w_dflts rf
  refine RVs.consE rs fun _ _ r0 rs=> ?_
  w_dflts r0;w_dflts rs
  refine x22 ((S.obj _ _ hl).plain) fun ws n p rr=> ?_
  refine call_list_seq (hsz:=by simp[rr.length];exact hz) a (.inl rfl) p rfl rfl fun h' c' hk hD=> ?_
  have nn:=get_size s.heap
  exact⟨.ref _,σ.put s.heap.objs.size (.list l),.ref _,q _ (S.fresh nn),S.add hk nn ⟨ws,⟨c',hD⟩,rr.mono fun b o e _=>hk b o e⟩,Aft.add hk nn _⟩
theorem C_list_tup {l:List V}{Q:V→Sto→Prop}(hz:l.length≤sizeLine)(q:∀c,σ c=none→Q (.ref c) (σ.put c (.list l))):CallV d (.ty "list") [.tup l] σ Q:=
 fun A s fv vs R S rf rs=>by
  w_dflts rf
  refine RVs.consE rs fun _ _ r0 rs=> ?_
  cases r0 with
  | @tup a ws _ n p rr=>
  w_dflts rs
  refine call_list_seq (hsz:=by simp[rr.length];exact hz) a (.inr rfl) p rfl rfl fun h' c' hk hD=> ?_
  have nn:=get_size s.heap
  exact⟨.ref _,σ.put s.heap.objs.size (.list l),.ref _,q _ (S.fresh nn),S.add hk nn ⟨ws,⟨c',hD⟩,rr.mono fun b o e _=>hk b o e⟩,Aft.add hk nn _⟩
theorem C_tuple_tup {l:List V}{Q:V→Sto→Prop}(q:Q (.tup l) σ):CallV d (.ty "tuple") [.tup l] σ Q:=
 fun A s fv vs R S rf rs=>by
  w_dflts rf
  refine RVs.consE rs fun _ _ r0 rs=> ?_
  cases r0 with
  | @tup a ws _ n p rr=>
  w_dflts rs
  exact call_tuple_same ⟨_,p,rfl,_,rfl⟩ (here S rfl (.tup p rr) q)
theorem C_tuple_list {a:Addr}{l:List V}{Q:V→Sto→Prop}(hl:σ a=some (.list l))(hz:l.length≤sizeLine)(q:Q (.tup l) σ):CallV d (.ty "tuple") [.ref a] σ Q:=
 fun A s fv vs R S rf rs=>by
  w_dflts rf
  refine RVs.consE rs fun _ _ r0 rs=> ?_
  w_dflts r0;w_dflts rs
  refine x12 ((S.obj _ _ hl).isList) fun ws hL rr=> ?_
  refine call_tuple_list hL (fun h' hk=> ?_) (by simp[rr.length];exact hz)
  have k2:∀b o,s.heap.get? b=some o→(h'.push {cls:= .type "tuple",data:= .seq ws.toArray}).get? b=some o:=fun b o e=>aN _ b o (hk b o e)
  exact⟨.tup l,σ,.tup (Heap.get?_push_size _ rfl) (rr.mono fun b o e _=>k2 b o e),q,S.grow k2,Aft.grow k2⟩
end
noncomputable def dget (es:List (Str×V)) (k:Str):Option V:=(es.find? fun kv=>kv.1=k).map (·.2)
noncomputable def dput (es:List (Str×V)) (k:Str) (v:V):List (Str×V):=if es.any (fun kv=>kv.1=k) then es.map (fun kv=>if kv.1=k then(kv.1,v) else kv) else es++ [(k,v)]
noncomputable def ddel (es:List (Str×V)) (k:Str):List (Str×V):=es.filter fun kv=>decide (kv.1≠k)
section
variable {h:Heap}
theorem RVKs.get {vs:List (Str×Value)}{l:List (Str×V)}(r:RVKs h vs l)(k:Str):OR h (valueAt vs k) (dget l k):=by
 induction r with
 |nil=>trivial
 | @cons x _ _ _ _ a _ ih=>
  unfold valueAt dget at ih⊢
  rw[List.find?_cons,List.find?_cons]
  by_cases e:x=k
  ·rw[decide_eq_true e];exact a
  ·rw[decide_eq_false e];exact ih
theorem RVKs.any {vs:List (Str×Value)}{l:List (Str×V)}(r:RVKs h vs l)(k:Str):(vs.any fun kv=>kv.1=k)=(l.any fun kv=>kv.1=k):=by
 induction r with
 |nil=>rfl
 |cons _ _ ih=>rw[List.any_cons,List.any_cons,ih]
theorem RVKs.app {vs vs':List (Str×Value)}{l l':List (Str×V)}(r:RVKs h vs l)(y:RVKs h vs' l'):RVKs h (vs++vs') (l++l'):=by
 induction r with
 |nil=>exact y
 |cons a _ ih=>exact .cons a ih
theorem RVKs.over {v:Value}{x:V}{k:Str}(rv:RV h v x){vs:List (Str×Value)}{l:List (Str×V)}(r:RVKs h vs l):RVKs h (vs.map fun kv=>if kv.1=k then(kv.1,v) else kv) (l.map fun kv=>if kv.1=k then(kv.1,x) else kv):=by
 induction r with
 |nil=>exact .nil
 | @cons y _ _ _ _ a _ ih=>
  rw[List.map_cons,List.map_cons]
  by_cases e:y=k
  ·rw[if_pos e,if_pos e];exact .cons rv ih
  ·rw[if_neg e,if_neg e];exact .cons a ih
theorem RVKs.put {v:Value}{x:V}{k:Str}(rv:RV h v x){vs:List (Str×Value)}{l:List (Str×V)}(r:RVKs h vs l):RVKs h (stored vs k v) (dput l k x):=by
 unfold stored dput
 rw[r.any k]
 split
 ·exact r.over rv
 ·exact r.app (.cons rv .nil)
theorem RVKs.del {k:Str}{vs:List (Str×Value)}{l:List (Str×V)}(r:RVKs h vs l):RVKs h (without vs k) (ddel l k):=by
 induction r with
 |nil=>exact .nil
 | @cons y _ _ _ _ a _ ih=>
  unfold without ddel at ih⊢
  rw[List.filter_cons,List.filter_cons]
  by_cases e:y=k
  ·rw[if_neg (by simp[e]),if_neg (by simp[e])];exact ih
  ·rw[if_pos (by simp[e]),if_pos (by simp[e])];exact .cons a ih
end
section
variable {d:Nat}{sc:Nms}{ρ:Loc}{σ:Sto}
theorem St.dict {h:Heap}{a:Addr}{es:List (Str×V)}(S:St σ h)(ha:σ a=some (.dict es)):(a==sysModules)=false∧∃kvs,h.DictOf (strKind pw w) a kvs∧RVKs h kvs es:=S.obj _ _ ha
theorem T2_in_dict {k:Str}{a:Addr}{es:List (Str×V)}{Q:V→Sto→Prop}(ha:σ a=some (.dict es))(q:Q (.bool (dget es k).isSome) σ):T2 d (compareOp .In) (.str k) (.ref a) σ Q:=
 fun A s va vb R S ra rb=>by
  w_dflts ra;w_dflts rb
  refine an2 (S.dict ha) fun lo z1=> ?_;refine x12 z1 fun kvs hD r=> ?_;clear z1
  refine wpAny_in_of (strKind_is _ _ _ _) lo hD.mapOf (here S rfl (.bool _) ?_)
  have g:=r.get k
  have e:(valueAt kvs k).isSome=(dget es k).isSome:=by
   cases h1:valueAt kvs k<;>cases h2:dget es k<;>rw[h1,h2] at g<;>simp_all[OR]
  rw[e];exact q
theorem T2_notin_dict {k:Str}{a:Addr}{es:List (Str×V)}{Q:V→Sto→Prop}(ha:σ a=some (.dict es))(q:Q (.bool (!(dget es k).isSome)) σ):T2 d (compareOp .NotIn) (.str k) (.ref a) σ Q:=
 fun A s va vb R S ra rb=>by
  w_dflts ra;w_dflts rb
  refine an2 (S.dict ha) fun lo z2=> ?_;refine x12 z2 fun kvs hD r=> ?_;clear z2
  refine wpAny_notIn_of (strKind_is _ _ _ _) lo hD.mapOf (here S rfl (.bool _) ?_)
  have g:=r.get k
  have e:(valueAt kvs k).isSome=(dget es k).isSome:=by
   cases h1:valueAt kvs k<;>cases h2:dget es k<;>rw[h1,h2] at g<;>simp_all[OR]
  rw[e];exact q
theorem T2_item_dict {k:Str}{a:Addr}{es:List (Str×V)}{x:V}{Q:V→Sto→Prop}(ha:σ a=some (.dict es))(hx:dget es k=some x)(q:Q x σ):TI d (.ref a) (.str k) σ Q:=by
 refine⟨fun A s va vb R S ra rb=> ?_,fun s va S r=> ?_⟩
 ·w_dflts ra;w_dflts rb
  refine an2 (S.dict ha) fun lo z3=> ?_;refine x12 z3 fun kvs hD r=> ?_;clear z3
  have g:=r.get k
  rw[hx] at g
  induction hv:valueAt kvs k using Option.casesOn with
  |none=>rw[hv] at g;exact g.elim
  |some v=>
   rw[hv] at g
   exact wpAny_operating (wpAny_getItem_of (strKind_is _ _ _ _) hD.mapOf hv (here S rfl g q))
 ·w_dflts r
  refine an2 (S.dict ha) fun lo z4=> ?_;refine x12 z4 fun kvs hD r=> ?_;clear z4
  exact⟨_,_,hD.typeIs,slot_dict_getitem.lookup⟩
theorem kept_but {a:Addr}{h h':Heap}{σ:Sto}(S:St σ h){ao:AO}(ha:σ a=some ao)(sb:Heap.SameBut a h h'):∀b o,h.get? b=some o→IsTupO o→h'.get? b=some o:=
 fun b o e ht=>(sb.2 b fun z=>by subst z;have:=S.tup_free e ht;rw[this] at ha;exact nS ha).trans e
theorem T3_item_dict {k:Str}{a:Addr}{es:List (Str×V)}{v:V}{Q:Sto→Prop}(ha:σ a=some (.dict es))(hz:es.length≤sizeLine)(q:Q (σ.put a (.dict (dput es k v)))):T3u d setItem (.ref a) (.str k) v σ Q:=
 fun A s va vb vc R S ra rb rc=>by
  w_dflts ra;w_dflts rb
  refine an2 (S.dict ha) fun lo z5=> ?_;refine x12 z5 fun kvs hD r=> ?_;clear z5
  refine wpAny_setItem_pairs (strKind_is _ _ _ _) hD (fun h' hD' sb=> ?_) (by rw[r.length];exact hz)
  have kt:=kept_but S ha sb
  exact⟨_,q,S.set sb ha ⟨lo,_,hD',(r.mono kt).put (rc.mono kt)⟩,Aft.set sb _ ha⟩
theorem GM_dict {name:Str}{id:String}{a:Addr}{es:List (Str×V)}(slot:Slot "dict" name id)(ty:typeOf (.builtin id)=pure (.type "method_descriptor"))(ha:σ a=some (.dict es)):GM name (.ref a) σ (.bi id) [.ref a]:=
 fun A s va pl Q S r k=>by
  w_dflts r
  refine an2 (S.dict ha) fun lo z6=> ?_;refine x12 z6 fun kvs hD r=> ?_;clear z6
  exact getMethod_builtin hD.typeIs PySem.F.plainAttrs_dict slot ty hD.mapOf.noDict (k _ _ _ ⟨rfl,rfl,rfl⟩ (.bi _) (.cons (.ref _) .nil))
theorem GM_get {a:Addr}{es:List (Str×V)}(ha:σ a=some (.dict es)):GM "get" (.ref a) σ (.bi "dict.get") [.ref a]:=GM_dict PySem.F.slot_dict_get PySem.F.type_dict_get ha
theorem GM_dpop {a:Addr}{es:List (Str×V)}(ha:σ a=some (.dict es)):GM "pop" (.ref a) σ (.bi "dict.pop") [.ref a]:=GM_dict PySem.F.slot_dict_pop PySem.F.type_dict_pop ha
theorem C_get {k:Str}{a:Addr}{es:List (Str×V)}{x:V}{Q:V→Sto→Prop}(ha:σ a=some (.dict es))(q:Q ((dget es k).getD x) σ):CallV d (.bi "dict.get") [.ref a,.str k,x] σ Q:=
 fun A s fv vs R S rf rs=>by
  w_dflts rf
  refine RVs.consE rs fun _ _ r0 rs=> ?_
  w_dflts r0
  refine RVs.consE rs fun _ _ r1 rs=> ?_
  w_dflts r1
  cases rs with
  | @cons va _ _ _ r2 rs=>
  w_dflts rs
  refine an2 (S.dict ha) fun lo z7=> ?_;refine x12 z7 fun kvs hD r=> ?_;clear z7
  refine call_meetsIn PySem.F.slot_dict_get hD.typeIs PySem.F.entry_dict_get (PySem.F.args_dict_get_3 _ _ _) (meets_dict_get_default _ _ (strKind_is _ _ _ _) lo _) ⟨_,hD.mapOf,?_⟩
  have g:=r.get k
  induction h1:valueAt kvs k using Option.casesOn with
  |none=>
   induction h2:dget es k using Option.casesOn with
   |none=>rw[h2] at q;exact here S rfl r2 q
   |some y=>rw[h1,h2] at g;exact g.elim
  |some v=>
   induction h2:dget es k using Option.casesOn with
   |none=>rw[h1,h2] at g;exact g.elim
   |some y=>rw[h1,h2] at g;rw[h2] at q;exact here S rfl g q
theorem C_dpop {k:Str}{a:Addr}{es:List (Str×V)}{x:V}{Q:V→Sto→Prop}(ha:σ a=some (.dict es))(hz:es.length≤sizeLine)(q:Q ((dget es k).getD x) (σ.put a (.dict (ddel es k)))):CallV d (.bi "dict.pop") [.ref a,.str k,x] σ Q:=
 fun A s fv vs R S rf rs=>by
  w_dflts rf
  refine RVs.consE rs fun _ _ r0 rs=> ?_
  w_dflts r0
  refine RVs.consE rs fun _ _ r1 rs=> ?_
  w_dflts r1
  cases rs with
  | @cons va _ _ _ r2 rs=>
  w_dflts rs
  refine an2 (S.dict ha) fun lo z8=> ?_;refine x12 z8 fun kvs hD r=> ?_;clear z8
  have g:=r.get k
  induction h1:valueAt kvs k using Option.casesOn with
  |some v=>
   refine call_meetsIn PySem.F.slot_dict_pop hD.typeIs PySem.F.entry_dict_pop (PySem.F.args_dict_pop_3 _ _ _) (meets_dict_pop_there _ _ (strKind_is _ _ _ _) _ (.inr ⟨_,rfl⟩) rfl) ⟨kvs,v,hD,by rw[r.length];exact hz,h1,fun h' hD' sb=> ?_⟩
   have kt:=kept_but S ha sb
   induction h2:dget es k using Option.casesOn with
   |none=>rw[h1,h2] at g;exact g.elim
   |some y=>rw[h1,h2] at g;rw[h2] at q;exact⟨_,_,RV.mono kt g,q,S.set sb ha ⟨lo,_,hD',(r.mono kt).del⟩,Aft.set sb _ ha⟩
  |none=>
   refine call_meetsIn PySem.F.slot_dict_pop hD.typeIs PySem.F.entry_dict_pop (PySem.F.args_dict_pop_3 _ _ _) (meets_dict_pop_default _ _ (strKind_is _ _ _ _) lo rfl _) ⟨kvs,hD,h1,?_⟩
   induction h2:dget es k using Option.casesOn with
   |some y=>rw[h1,h2] at g;exact g.elim
   |none=>
    have e:ddel es k=es:=by
     unfold ddel
     refine List.filter_eq_self.mpr fun p hp=> ?_
     have:=Option.map_eq_none_iff.mp h2
     have:=List.find?_eq_none.mp this p hp
     simpa using this
    rw[h2,e] at q
    have e2:σ.put a (.dict es)=σ:=by
     funext b
     by_cases z:b=a
     ·subst z;rw[aA,ha]
     ·rw[aM _ _ z]
    rw[e2] at q
    exact here S rfl r2 q
theorem out_new {h':Heap}{a:Addr}{ao:AO}{Q:V→Sto→Prop}{s s':Shared}(S:St σ s.heap)(k:∀b o,s.heap.get? b=some o→h'.get? b=some o)(n:s.heap.get? a=none)(r:RO h' a ao)(q:∀c,σ c=none→Q (.ref c) (σ.put c ao))(e:s'.heap=h')
  (os:s'.os=s.os:=by rfl) (gens:s'.gens=s.gens:=by rfl):Out σ s Q (.ref a) s':=by
 subst e
 exact⟨.ref _,_,.ref _,q _ (S.fresh n),S.add k n r,Aft.add k n _ os gens⟩
theorem fresh_low {h:Heap}(hm:B.get? sysModules≠none)(S:St σ h):(h.objs.size==sysModules)=false:=by
 rw[beq_eq_false_iff_ne]
 intro e
 induction z:B.get? sysModules using Option.casesOn with
 |none=>exact hm z
 |some o=>
  have:=S.base _ _ z
  rw[←e,get_size] at this;exact nS this
theorem C_dict_dict {a:Addr}{es:List (Str×V)}{Q:V→Sto→Prop}(hm:B.get? sysModules≠none)(ha:σ a=some (.dict es))(hz:es.length≤sizeLine)(q:∀c,σ c=none→Q (.ref c) (σ.put c (.dict es))):CallV d (.ty "dict") [.ref a] σ Q:=
 fun A s fv vs R S rf rs=>by
  w_dflts rf
  refine RVs.consE rs fun _ _ r0 rs=> ?_
  w_dflts r0;w_dflts rs
  refine an2 (S.dict ha) fun lo z9=> ?_;refine x12 z9 fun kvs hD r=> ?_;clear z9
  refine kt_call_dict lo hD (by rw[r.length];exact hz) fun h' hD' sb=> ?_
  have k:∀b o,s.heap.get? b=some o→h'.get? b=some o:=fun b o e=>(sb.2 b (Nat.ne_of_lt (Heap.lt_size e))).trans (aN _ b o e)
  exact out_new (ao:= .dict es) S k (get_size _) ⟨fresh_low hm S,kvs,hD',r.mono fun b o e _=>k b o e⟩ q rfl
theorem TE_dict0 {p:Pos}{Q:V→Sto→Prop}(hm:B.get? sysModules≠none)(q:∀c,σ c=none→Q (.ref c) (σ.put c (.dict []))):TE d sc (.Dict [] [] p) ρ σ Q:=
 fun env A s R F S=>wpAny_Dict_empty (out_new (ao:= .dict []) S (aN _) (get_size _) ⟨fresh_low hm S,[],Heap.DictOf.new _,.nil⟩ q rfl)
inductive RKV (h:Heap):List (Value×Value)→List (Str×V)→Prop where
 |nil:RKV h [] []
 |cons {k:Str} {t:Tok} {v:Value} {x:V} {vs:List (Value×Value)} {l:List (Str×V)} (hv:RV h v x) (hr:RKV h vs l):RKV h ((.str k t,v)::vs) ((k,x)::l)
theorem RKV.carry {h:Heap}{vs:List (Value×Value)}{l:List (Str×V)}(r:RKV h vs l):∃kvs,Carries (strKind pw w) vs kvs∧RVKs h kvs l:=by
 induction r with
 |nil=>exact⟨[],trivial,.nil⟩
 |cons a _ ih=>
  refine x12 ih fun kvs c r'=> ?_;clear ih
  exact⟨(_,_)::kvs,⟨strKind_is _ _ _ _,rfl,c⟩,.cons a r'⟩
inductive OutK (σ:Sto)(s:Shared)(Q:List (Str×V)→Sto→Prop)(r:List (Value×Value))(s':Shared):Prop
 |mk (l:List (Str×V)) (σ':Sto) (r:RKV s'.heap r l) (q:Q l σ') (S:St σ' s'.heap) (T:Aft σ s σ' s')
theorem wK {A:Around}{E:Value→Shared→Prop}{P:List (Value×Value)→Shared→Prop}{s:Shared}{t:Sem (List (Value×Value))}{Q:List (Str×V)→Sto→Prop}(h:wpAny (model pw w) A t (OutK σ s Q) NoE s)(k:∀va s₁ v σ₁,RKV s₁.heap va v→Q v σ₁→St σ₁ s₁.heap→Aft σ s σ₁ s₁→P va s₁):wpAny (model pw w) A t P E s:=
 wpAny_mono h (fun va s₁ o=>o.casesOn (k va s₁)) fun _ _ x=>x.elim
noncomputable def TPs (d:Nat) (sc:Nms) (pos:Pos) (ks:List (Option Expr)) (vs:List Expr) (ρ:Loc) (σ:Sto) (Q:List (Str×V)→Sto→Prop):Prop:=
 ∀env A s,Rm d A→FR sc env ρ σ s.heap→St σ s.heap→wpAny MM A (evalPairs (pairTrees ks vs env pos)) (OutK σ s Q) NoE s
theorem TPs_nil {pos:Pos}{Q:List (Str×V)→Sto→Prop}(q:Q [] σ):TPs d sc pos [] [] ρ σ Q:=fun _ _ _ _ _ S=>pairTrees_nil_walk ⟨[],σ,.nil,q,S,Aft.refl _ _⟩
theorem TPs_cons {pos:Pos}{k v:Expr}{ks:List (Option Expr)}{vs:List Expr}{Q:List (Str×V)→Sto→Prop}
  (h:TE d sc k ρ σ fun kv σ₁=>∃x,kv= .str x∧TE d sc v ρ σ₁ fun y σ₂=>TPs d sc pos ks vs ρ σ₂ fun l σ₃=>Q ((x,y)::l) σ₃):TPs d sc pos (some k::ks) (v::vs) ρ σ Q:=
 fun env A s R F S=>pairTrees_cons_walk (wO (h env A s R F S) (fun kv s₁ v₁ σ₁ r₁ h_3 S₁ T₁=>by
  refine x12 h_3 fun x e h₁=> ?_;clear h_3
  subst e
  cases r₁
  have F₁:=F.aft S T₁
  refine wO (h₁ env A s₁ R F₁ S₁) (fun vv s₂ y σ₂ r₂ h₂ S₂ T₂=> ?_)
  exact wpAny_mono (h₂ env A s₂ R (F₁.aft S₁ T₂) S₂) (fun r s₃ ⟨l,σ₃,r₃,q,S₃,T₃⟩=>⟨_,σ₃,.cons (T₃.rv S₂ r₂) r₃,q,S₃,(T₁.trans T₂).trans T₃⟩) fun _ _ x=>x))
noncomputable def dmerge (l:List (Str×V)):List (Str×V):=l.foldl (fun acc kv=>dput acc kv.1 kv.2) []
theorem RVKs.merge {h:Heap}{vs:List (Str×Value)}{l:List (Str×V)}(r:RVKs h vs l):∀{a:List (Str×Value)} {b:List (Str×V)},RVKs h a b→RVKs h (merged a vs) (l.foldl (fun acc kv=>dput acc kv.1 kv.2) b):=by
 induction r with
 |nil=>exact fun y=>y
 |cons a _ ih=>exact fun y=>ih (y.put a)
theorem TE_dict {ks:List (Option Expr)}{vs:List Expr}{p:Pos}{Q:V→Sto→Prop}(hm:B.get? sysModules≠none)(hall:ks.all (·.isSome)=true)(hl:ks.length=vs.length)(h0:ks≠ [])(hlen:ks.length≤15)
  (h:TPs d sc p ks vs ρ σ fun l σ₁=>∀c,σ₁ c=none→Q (.ref c) (σ₁.put c (.dict (dmerge l)))):TE d sc (.Dict ks vs p) ρ σ Q:=
 fun env A s R F S=>by
  have lo:=fresh_low hm S
  let o:Obj:={cls:= .type "dict",data:= .dict #[]}
  have S₀:St σ (s.heap.push o):=S.push o
  have T₀:Aft σ s σ {s with heap:=s.heap.push o}:=Aft.push _ _ _
  have hs0:σ s.heap.objs.size=none:=S.fresh (get_size _)
  refine wpAny_Dict_walk (knd:=strKind pw w) hall hl h0 hlen (wK (h env A {s with heap:=s.heap.push o} R (F.aft S T₀) S₀) (fun r s₁ l σ₁ rr q S₁ T₁=> ?_))
  have hD0:s₁.heap.get? s.heap.objs.size=some o:=T₁.keep _ _ (Heap.get?_push_size _ rfl) hs0
  have hn1:σ₁ s.heap.objs.size=none:=T₁.dom _ (by rw[Heap.get?_push_size _ rfl];simp) hs0
  refine x12 (rr.carry) fun kvs hc rk=> ?_
  refine⟨kvs,hc,?_,fun h' hD' sb=> ?_⟩
  ·refine x32 ((Heap.DictOf.new (knd:=strKind pw w) s.heap)) fun o' es' ep' ho' x=> ?_
   rw[Heap.get?_push_size _ rfl] at ho'
   replace ho':=sI ho';subst ho'
   exact⟨_,es',ep',hD0,x⟩
  ·have hb:B.get? s.heap.objs.size=none:=by
    induction z:B.get? s.heap.objs.size using Option.casesOn with
    |none=>rfl
    |some o'=>have:=S.base _ _ z;rw[get_size] at this;exact nS this
   have kt:∀b o',s₁.heap.get? b=some o'→IsTupO o'→h'.get? b=some o':=fun b o' e ht=>(sb.2 b fun z=>by subst z;rw[hD0] at e;replace e:=sI e;subst e;exact absurd ht.1 (by simp[o])).trans e
   have S':St σ₁ h':=⟨fun b o' e=>(sb.2 b fun z=>by subst z;rw[hb] at e;exact nS e).trans (S₁.base b o' e),S₁.apart,fun c ao e=>(S₁.obj c ao e).mono kt fun o' g=>(sb.2 c fun z=>by subst z;rw[hn1] at e;exact nS e).trans g⟩
   have S'':=S'.take hb hn1 (ao:= .dict (dmerge l)) ⟨lo,_,hD',(rk.mono kt).merge .nil⟩
   refine⟨.ref _,_,.ref _,q _ hn1,S'',?_⟩
   have nn:s.heap.get? s.heap.objs.size=none:=get_size _
   refine⟨fun b o' e n=> ?_,fun b e n=> ?_,T₁.os,T₁.gens⟩
   ·have ne:b≠s.heap.objs.size:=Nat.ne_of_lt (Heap.lt_size e)
    exact(sb.2 b ne).trans (T₁.keep b o' (aN _ b o' e) n)
   ·have ne:b≠s.heap.objs.size:=fun z=>e (z▸nn)
    rw[aM _ _ ne]
    exact T₁.dom b (by induction z:s.heap.get? b using Option.casesOn with
     |none=>exact absurd z e
     |some o'=>rw[aN _ b o' z];simp) n
theorem RVs.ints {h:Heap}{ns:List Int}:∀{vs:List Value},RVs h vs (ns.map V.int)→∃xs:Array (Int×Tok),vs.toArray=intItems xs∧xs.toList.map (·.1)=ns:=by
 induction ns with
 |nil=>intro vs r;obtain rfl:=RVs.nil_inv r;exact⟨#[],by simp[intItems],rfl⟩
 |cons n ns ih=>
  intro vs r
  refine x23 (RVs.cons_inv r) fun _ ws z1 a r1=> ?_;subst z1
  refine x11 (RV.int_inv a) fun t z2=> ?_;subst z2
  refine x12 (ih r1) fun xs e1 e2=> ?_
  refine⟨#[(n,t)]++xs,?_,by simp[e2]⟩
  have:intItems (#[(n,t)]++xs)= #[Value.int n t]++intItems xs:=by simp[intItems]
  rw[this,←e1];simp
theorem RVs.strs {h:Heap}{ns:List Str}:∀{vs:List Value},RVs h vs (ns.map V.str)→StrsAre vs ns:=by
 induction ns with
 |nil=>intro vs r;obtain rfl:=RVs.nil_inv r;exact .nil
 |cons n ns ih=>
  intro vs r
  refine x23 (RVs.cons_inv r) fun _ ws z3 a r1=> ?_;subst z3
  refine x11 (RV.str_inv a) fun t z4=> ?_;subst z4
  exact .cons _ _ (ih r1)
theorem out_grow {h':Heap}{Q:V→Sto→Prop}{val:Value}{v:V}{s s':Shared}(S:St σ s.heap)(k:∀b o,s.heap.get? b=some o→h'.get? b=some o)(e:s'.heap=h')(r:RV h' val v)(q:Q v σ)
  (os:s'.os=s.os:=by rfl) (gens:s'.gens=s.gens:=by rfl):Out σ s Q val s':=by
 subst e
 exact⟨v,σ,r,q,S.grow k,Aft.grow k os gens⟩
theorem C_len_list {a:Addr}{l:List V}{Q:V→Sto→Prop}(hl:σ a=some (.list l))(hz:l.length≤sizeLine)(q:Q (.int l.length) σ):CallV d (.bi "len") [.ref a] σ Q:=
 fun A s fv vs R S rf rs=>by
  w_dflts rf
  refine RVs.consE rs fun _ _ r0 rs=> ?_
  w_dflts r0;w_dflts rs
  refine x12 ((S.obj _ _ hl).isList) fun ws hL rr=> ?_
  have e:ws.length=l.length:=rr.length
  have hs:sizeLine≤2 ^ 32:=by decide
  refine call_len_list hL (by simp;lia) (here S rfl (.int _ _) ?_)
  simp only[List.size_toArray,e];exact q
theorem C_len_tup {l:List V}{Q:V→Sto→Prop}(hz:l.length≤sizeLine)(q:Q (.int l.length) σ):CallV d (.bi "len") [.tup l] σ Q:=
 fun A s fv vs R S rf rs=>by
  w_dflts rf
  refine RVs.consE rs fun _ _ r0 rs=> ?_
  cases r0 with
  | @tup a ws _ n p rr=>
  w_dflts rs
  have e:ws.length=l.length:=rr.length
  have hs:sizeLine≤2 ^ 32:=by decide
  refine PyProof.Rows.len_tuple ⟨_,p,rfl,_,rfl⟩ (by simp;lia) (here S rfl (.int _ _) ?_)
  simp only[List.size_toArray,e];exact q
theorem C_len_dict {a:Addr}{es:List (Str×V)}{Q:V→Sto→Prop}(ha:σ a=some (.dict es))(hz:es.length≤sizeLine)(q:Q (.int es.length) σ):CallV d (.bi "len") [.ref a] σ Q:=
 fun A s fv vs R S rf rs=>by
  w_dflts rf
  refine RVs.consE rs fun _ _ r0 rs=> ?_
  w_dflts r0;w_dflts rs
  refine an2 (S.dict ha) fun lo z5=> ?_;refine x12 z5 fun kvs hD r=> ?_;clear z5
  have hs:sizeLine≤2 ^ 32:=by decide
  have e:kvs.length=es.length:=r.length
  refine call_len_dict lo hD (by lia) (here S rfl (.int _ _) ?_)
  rw[e];exact q
theorem RVs.setAt {h:Heap}{v:Value}{x:V}(rv:RV h v x){vs:List Value}{l:List V}(r:RVs h vs l):∀i,RVs h (vs.set i v) (l.set i x):=
 r.ind (P:=fun vs l=>∀i,RVs h (vs.set i v) (l.set i x)) (fun _=> .nil) fun a r ih i=>by
  induction i using Nat.casesAuxOn with
  |zero=>exact .cons rv r
  |succ i=>exact .cons a (ih i)
theorem T3_item_list {a:Addr}{l:List V}{i:Int}{v:V}{Q:Sto→Prop}(hl:σ a=some (.list l))(h0:0≤i)(hhi:i<2 ^ 63)(hi:i<l.length)(q:Q (σ.put a (.list (l.set i.toNat v)))):T3u d setItem (.ref a) (.int i) v σ Q:=
 fun A s va vb vc R S ra rb rc=>by
  w_dflts ra;w_dflts rb
  refine x22 ((S.obj _ _ hl).plain) fun ws n p rr=> ?_
  have hlen:ws.length=l.length:=rr.length
  refine ki_setAt p h0 hhi (by simp;lia) ?_
  have o:Out σ s (fun _ σ'=>Q σ') .none {s with heap:=s.heap.update a (Obj.mapSeq (·.setIfInBounds i.toNat vc))}:=
   list_set (vs':=ws.set i.toNat vc) (n':=n) (v:= .none) S hl p (by simp[Obj.mapSeq]) (rr.setAt rc i.toNat) .none q rfl
  obtain⟨v,σ',_,q',S',T'⟩:=o
  exact⟨σ',q',S',T'⟩
theorem C_sum {a:Addr}{ns:List Int}{Q:V→Sto→Prop}(hl:σ a=some (.list (ns.map V.int)))(q:Q (.int ns.sum) σ):CallV d (.bi "sum") [.ref a] σ Q:=
 fun A s fv vs R S rf rs=>by
  w_dflts rf
  refine RVs.consE rs fun _ _ r0 rs=> ?_
  w_dflts r0;w_dflts rs
  refine x12 ((S.obj _ _ hl).isList) fun ws hL rr=> ?_
  refine x12 rr.ints fun xs e1 e2=> ?_
  rw[e1] at hL
  refine sum_intListG R.hd hL fun h' tk t' k=> ?_
  have e:preSum (numAt xs) xs.size=ns.sum:=by
   rw[preSum_eq,List.take_of_length_le (by simp),e2]
  rw[e]
  exact out_grow S k rfl (.int _ _) q
theorem C_max {a:Addr}{ns:List Int}{m:Int}{Q:V→Sto→Prop}(hl:σ a=some (.list (ns.map V.int)))(hm:m∈ns)(hb:∀x∈ns,x≤m)(q:Q (.int m) σ):CallV d (.bi "max") [.ref a] σ Q:=
 fun A s fv vs R S rf rs=>by
  w_dflts rf
  refine RVs.consE rs fun _ _ r0 rs=> ?_
  w_dflts r0;w_dflts rs
  refine x12 ((S.obj _ _ hl).isList) fun ws hL rr=> ?_
  refine x12 rr.ints fun xs e1 e2=> ?_
  rw[e1] at hL
  have hlen:xs.size=ns.length:=by rw[←e2];simp
  have hp:0<ns.length:=by induction ns using List.casesOn with
   |nil=>cases hm
   |cons _ _=>simp
  refine max_intList R.hd hL (nT hp (l_ge hlen)) fun v h' tk hv k=> ?_
  refine x11 (intItems_at hv) fun t z6=> ?_;subst z6
  refine an2 (argBest_gt (numAt xs) (xs.size-1)) fun h1 h2=> ?_
  have e:numAt xs (argBest (fun i j=>decide (numAt xs i>numAt xs j)) (xs.size-1))=m:=by
   refine Int.le_antisymm (hb _ ?_) ?_
   ·rw[numAt_eq,e2];exact getD_mem (by lia)
   ·refine x12 (mem_getD hm) fun j hj z7=> ?_;subst z7
    have:=h2 j (by lia)
    rw[numAt_eq xs j,e2] at this
    exact this
  rw[e]
  exact out_grow S k rfl (.int _ _) q
theorem C_min2 {a b:Int}{Q:V→Sto→Prop}(q:Q (.int (min a b)) σ):CallV d (.bi "min") [.int a,.int b] σ Q:=
 fun A s fv vs R S rf rs=>by
  w_dflts rf
  refine RVs.consE rs fun _ _ r0 rs=> ?_
  w_dflts r0
  refine RVs.consE rs fun _ _ r1 rs=> ?_
  w_dflts r1;w_dflts rs
  refine min_two_ints R.hd fun h' tk k=> ?_
  by_cases e:b<a
  ·rw[if_pos e]
   have:min a b=b:=by lia
   rw[this] at q
   exact out_grow S k rfl (.int _ _) q
  ·rw[if_neg e]
   have:min a b=a:=by lia
   rw[this] at q
   exact out_grow S k rfl (.int _ _) q
theorem C_int_int {a:Int}{Q:V→Sto→Prop}(q:Q (.int a) σ):CallV d (.ty "int") [.int a] σ Q:=
 fun A s fv vs R S rf rs=>by
  w_dflts rf
  refine RVs.consE rs fun _ _ r0 rs=> ?_
  w_dflts r0;w_dflts rs
  exact call_int_int (here S rfl (.int _ _) q)
theorem C_int_bool {b:Bool}{Q:V→Sto→Prop}(q:Q (.int (if b then 1 else 0)) σ):CallV d (.ty "int") [.bool b] σ Q:=
 fun A s fv vs R S rf rs=>by
  w_dflts rf
  refine RVs.consE rs fun _ _ r0 rs=> ?_
  w_dflts r0;w_dflts rs
  exact call_int_bool (here S rfl (.int _ _) q)
theorem C_str_int {a:Int}{Q:V→Sto→Prop}(ha:a.natAbs<2 ^ 64)(q:Q (.str (toString a)) σ):CallV d (.ty "str") [.int a] σ Q:=
 fun A s fv vs R S rf rs=>by
  w_dflts rf
  refine RVs.consE rs fun _ _ r0 rs=> ?_
  w_dflts r0;w_dflts rs
  refine PySem.P.str_of_int ?_ (here S rfl (.str _ _) q)
  by_cases z:a.natAbs=0
  ·rw[z];decide
  ·have:=(Nat.log2_lt z).mpr ha;exact lt3 this
theorem C_range {n:Nat}{Q:V→Sto→Prop}(q:∀c,σ c=none→Q (.ref c) (σ.put c (.rng n))):CallV d (.ty "range") [.int n] σ Q:=
 fun A s fv vs R S rf rs=>by
  w_dflts rf
  refine RVs.consE rs fun _ _ r0 rs=> ?_
  w_dflts r0;w_dflts rs
  exact call_range_1 (out_new (ao:= .rng n) S (aN _) (get_size _) ⟨_,_,_,Heap.get?_push_size _ rfl⟩ q rfl)
theorem T2_floordiv {a b:Int}{Q:V→Sto→Prop}(hb:b≠0)(hs:b.natAbs<1073741824)(q:Q (.int (a.fdiv b)) σ):T2 d (binaryOp .FloorDiv) (.int a) (.int b) σ Q:=
 fun A s va vb R S ra rb=>by
  w_dflts ra;w_dflts rb
  exact floordiv_int hb (here S rfl (.int _ _) q) (.inl (PyProof.noPylong_small hs))
theorem T2_pow {a b:Int}{Q:V→Sto→Prop}(h0:0≤b)(hb:b≤1000000)(ha:a.natAbs<2 ^ 64)(q:Q (.int (a ^ b.toNat)) σ):T2 d (binaryOp .Pow) (.int a) (.int b) σ Q:=
 fun A s va vb R S ra rb=>by
  w_dflts ra;w_dflts rb
  exact pow_int_small h0 hb ha (here S rfl (.int _ _) q)
theorem T2_mul_int {a b:Int}{Q:V→Sto→Prop}(hm:IntMulOk a b)(q:Q (.int (a * b)) σ):T2 d (binaryOp .Mult) (.int a) (.int b) σ Q:=
 fun A s va vb R S ra rb=>by
  w_dflts ra;w_dflts rb
  exact mul_int (here S rfl (.int _ _) q) hm
theorem GM_str {name:Str}{id:String}{x:Str}(slot:Slot "str" name id)(ty:typeOf (.builtin id)=pure (.type "method_descriptor")):GM name (.str x) σ (.bi id) [.str x]:=
 fun A s va pl Q S r k=>by
  w_dflts r
  exact getMethod_builtin (typeIs_str _ _ _) PySem.F.plainAttrs_str slot ty (fun _ e=>nomatch e) (k _ _ _ ⟨rfl,rfl,rfl⟩ (.bi _) (.cons (.str _ _) .nil))
theorem GM_join {x:Str}:GM "join" (.str x) σ (.bi "str.join") [.str x]:=GM_str PySem.F.slot_str_join PySem.F.type_str_join
theorem GM_split {x:Str}:GM "split" (.str x) σ (.bi "str.split") [.str x]:=GM_str PySem.F.slot_str_split PySem.F.type_str_split
theorem C_join {x:Str}{a:Addr}{ys:List Str}{Q:V→Sto→Prop}(hl:σ a=some (.list (ys.map V.str)))(hok:(ys.map (·.length)).sum+ys.length * x.length≤16777216)(q:Q (.str (Txt.join x ys)) σ):CallV d (.bi "str.join") [.str x,.ref a] σ Q:=
 fun A s fv vs R S rf rs=>by
  w_dflts rf
  refine RVs.consE rs fun _ _ r0 rs=> ?_
  w_dflts r0
  refine RVs.consE rs fun _ _ r1 rs=> ?_
  w_dflts r1;w_dflts rs
  refine x12 ((S.obj _ _ hl).isList) fun ws hL rr=> ?_
  exact join_list hL (by simpa using rr.strs) hok fun t' k=>here S rfl (.str _ _) q
theorem C_split1 {x y:Str}{Q:V→Sto→Prop}(h1:(decide (x.length<y.length)||decide (Builtin.Str.strKind x<Builtin.Str.strKind y))=false)(hy:(y.length==0)=false)
  (hf:(Builtin.Str.occurrences x y 0 x.length (x.length+1)).isEmpty=true) (q:∀c,σ c=none→Q (.ref c) (σ.put c (.list [.str x]))):CallV d (.bi "str.split") [.str x,.str y] σ Q:=
 fun A s fv vs R S rf rs=>by
  w_dflts rf
  refine RVs.consE rs fun _ _ r0 rs=> ?_
  w_dflts r0
  refine RVs.consE rs fun _ _ r1 rs=> ?_
  w_dflts r1;w_dflts rs
  refine call_meets PySem.F.slot_str_split (typeIs_str _ _ _) PySem.F.entry_str_split (PySem.F.args_str_split_2 _ _) (meets_str_split_not_found x y _ _ h1 hy hf) ?_
  exact out_new (ao:= .list [.str x]) S (aN _) (get_size _) ⟨[.str x _],⟨0,Heap.get?_push_size _ rfl⟩,.cons (.str _ _) .nil⟩ q rfl
end
section
variable {prog:Program}{A:Around}{E:Value→Shared→Prop}{s:Shared}
theorem adjust_rev (n:Nat):Builtin.Slice.sliceAdjust none none (-1) (n:Int)=((n:Int)-1,(-1:Int)):=by
 unfold Builtin.Slice.sliceAdjust
 simp
theorem places_rev (n:Nat):Builtin.Slice.slicePlaces ((n:Int)-1) (-1) (-1)=n:=by
 unfold Builtin.Slice.slicePlaces
 have h1:¬((-1:Int)>0):=by lia
 simp only[h1,if_false,Int.neg_neg,Int.ediv_one]
 split<;>lia
theorem sliceApplied_rev {sl:Addr}{n:Nat}{u:Tok}{Q:Int×Int×Nat→Shared→Prop}(hs:s.heap.IsSliceOf sl .none .none (.int (-1) u))(h:Q ((n:Int)-1, -1,n) s):
  wpAny (model prog w) A (Builtin.Slice.sliceApplied (.ref sl) (pure (n:Int))) Q E s:=by
 refine x13 (id hs) fun os hos hcs hds=> ?_
 unfold Builtin.Slice.sliceApplied Builtin.Slice.sliceFields
 refine vB (vB (wpAny_field hos hds (x:= .none) rfl (vB (wpAny_field hos hds (x:= .none) rfl (vB (wpAny_field hos hds (x:= .int (-1) u) rfl (vP ?_)))))))
 refine vB (slicePart_int ?_)
 show wpAny _ _ (if((-1:Int)==0)=true then _ else _) _ _ s
 rw[if_neg (by decide)]
 refine vB (slicePart_none (vB (slicePart_none (vB (vP ?_)))))
 show wpAny _ _ (match Builtin.Slice.sliceAdjust none none (-1) (n:Int) with|(lo,hi)=>pure (lo,(-1:Int),Builtin.Slice.slicePlaces lo hi (-1))) _ _ s
 rw[adjust_rev]
 show wpAny _ _ (pure ((n:Int)-1,(-1:Int),Builtin.Slice.slicePlaces ((n:Int)-1) (-1) (-1))) _ _ s
 rw[places_rev n]
 exact vP h
theorem pick_revA (xs:Array Value):((List.range xs.size).filterMap fun(k:Nat)=>xs[(((xs.size:Int)-1)+(k:Int) * (-1)).toNat]?).toArray=xs.toList.reverse.toArray:=by
 have e:(List.range xs.size).filterMap (fun(k:Nat)=>xs[(((xs.size:Int)-1)+(k:Int) * (-1)).toNat]?)=(List.range xs.size).filterMap (fun k=>xs.toList.reverse[k]?):=by
  refine fm_congr fun k hk=> ?_
  have hk':k<xs.size:=by simpa using hk
  have:(((xs.size:Int)-1)+(k:Int) * (-1)).toNat=xs.size-1-k:=by lia
  rw[this,List.getElem?_reverse (by simpa using hk')]
  simp
 rw[e]
 have:=range_all xs.toList.reverse
 simp only[List.length_reverse,Array.length_toList] at this
 rw[this]
theorem getItem_tuple_rev {t sl:Addr}{items:Array Value}{u:Tok}{Q:Value→Shared→Prop}(ht:IsTup s.heap t items)(hs:s.heap.IsSliceOf sl .none .none (.int (-1) u))
  (h:Q (.ref s.heap.objs.size) {s with heap:=s.heap.push {cls:= .type "tuple",data:= .seq items.toList.reverse.toArray}})
  (hsz:items.size≤sizeLine):wpAny (model prog w) A (getItem (.ref t) (.ref sl)) Q E s:=by
 have hdrop:sizeOk (.seq items.toList.reverse.toArray):=by
  show items.toList.reverse.toArray.size≤sizeLine
  simpa using hsz
 refine x13 (id hs) fun os hos hcs hds=> ?_
 have hTs:s.TypeIs (.ref sl) "slice":=⟨os,hos,hcs⟩
 unfold getItem
 try with_reducible refine wpAny_holding ?_
 first|refine vB (vP ?_)|skip
 refine vB (wpAny_sequenceKey ht.typeIs (by decide) ?_)
 refine vB (wpAny_callSpecial?_slot (name:=Str.ofString "__getitem__") ht.typeIs slot_tuple_getitem
  (wpAny_call_entry slot_tuple_getitem ht.typeIs entry_tuple_getitem ?_ (args_tuple_getitem _ _)))
 show wpAny _ _ (Builtin.Tuple.tupleItemsOf (.ref t)>>=_) _ _ s
 refine vB (tupleItemsOf_ ht ?_)
 refine vB (wpAny_typeOf hTs ?_)
 rw[if_pos (by decide)]
 refine vB (sliceApplied_rev hs ?_)
 have hno:¬((((items.size:Int)-1)==0&&(-1:Int)==1&&(items.size==items.size))=true):=by
  have:((-1:Int)==1)=false:=by decide
  rw[this];simp
 show wpAny _ _ (if(((items.size:Int)-1)==0&&(-1:Int)==1&&(items.size==items.size))=true then _ else _) _ _ s
 rw[if_neg hno,pick_revA items]
 first
  |exact vB (m:=Builtin.Tuple.tupleExact _) (wpAny_newObj_type (vP ⟨_,rfl,vP h⟩) hdrop)
  |exact vB (m:=Builtin.Tuple.tupleExact _) (wpAny_newObj_type (vB (vP (vP ⟨_,rfl,vP h⟩))) hdrop)
  |exact vB (vB (m:=Builtin.Tuple.tupleExact _) (wpAny_newObj_type (vP (vP ⟨_,rfl,vP h⟩)) hdrop))
  |exact vB (vB (m:=Builtin.Tuple.tupleExact _) (wpAny_newObj_type (vP ⟨_,rfl,vP h⟩) hdrop))
end
section
variable {d:Nat}{sc:Nms}{ρ:Loc}{σ:Sto}
@[reducible] def SlT (Q:V→Sto→Prop):SlP:=fun ov l u t σ=>∃xs,ov= .tup xs∧xs.length≤sizeLine∧
 ((∃a:Nat,l=some (a:Int)∧u=none∧t=none∧1≤a∧a≤xs.length∧Q (.tup (xs.drop a)) σ)∨(l=none∧u=none∧t=some (-1)∧Q (.tup xs.reverse) σ))
set_option backward.match.sparseCases true in
theorem TE_sliceT {o:Expr}{lo hi st:Option Expr}{p p':Pos}{Q:V→Sto→Prop}(h:TE d sc o ρ σ (kSl0 d sc lo hi st ρ (SlT Q))):
  TE d sc (.Subscript o (.Slice lo hi st p) p') ρ σ Q:=
 fun env A s R F S=>by
  rw[eval_Subscript]
  refine vB (wO (h env A s R F S) (fun va s₁ ov σ₁ ro h₁ S₁ T₁=> ?_))
  have F₁:=F.aft S T₁
  refine vB (wpAny_holding (wpAny_Slice (wP (part_of h₁.o R F₁ S₁) (fun v2 s₂ l σ₂ pl h₂ S₂ T₂=>wP (part_of h₂.o R (F₁.aft S₁ T₂) S₂) (fun v3 s₃ u σ₃ pu h₃ S₃ T₃=>
   wP (part_of h₃.o R ((F₁.aft S₁ T₂).aft S₂ T₃) S₃) (fun v4 s₄ t σ₄ pt h₄ S₄ T₄=> ?_))))))
  refine x13 h₄.o fun xs z1 hz hc=> ?_;clear h₄;subst z1
  have ro4:=((T₂.trans T₃).trans T₄).rv S₁ ro
  cases ro4 with
  | @tup a vs _ n ht rr=>
  refine vB (wpAny_standAt ?_)
  have k1:=aN (h:=s₄.heap) ({cls:= .type "slice",data:= .fields #[v2,v3,v4]}:Obj)
  have S₅:=S₄.grow k1
  have hT:IsTup s₄.heap a vs.toArray:=⟨_,ht,rfl,n,rfl⟩
  have hT':IsTup (s₄.heap.push {cls:= .type "slice",data:= .fields #[v2,v3,v4]}) a vs.toArray:=⟨_,k1 _ _ ht,rfl,n,rfl⟩
  have rr':=rr.mono fun b o e _=>k1 b o e
  have hsl:(s₄.heap.push {cls:= .type "slice",data:= .fields #[v2,v3,v4]}).IsSliceOf s₄.heap.objs.size v2 v3 v4:=Heap.IsSliceOf.new ..
  generalize hH:s₄.heap.push {cls:= .type "slice",data:= .fields #[v2,v3,v4]}=H at hT' rr' S₅ k1 hsl⊢
  have tyI:(Shared.mk H s₄.gens s₄.drawn s₄.toks s₄.os).TypeIs (.ref a) "tuple":=IsTup.typeIs (s:={s₄ with heap:=H}) hT'
  have e:getitemInPython (.ref a)=(do match←specialOf (.ref a) "__getitem__" with|some (.ref f)=>do pure (match (←load f).data with| .func _=>true|_=>false)|_=>pure false):=
   getitemInPython_of_ne (Shared.TypeIs.not_modules (s:={s₄ with heap:=H}) (T:="tuple") (IsTup.typeIs (s:={s₄ with heap:=H}) hT'))
  rw[e]
  refine vB (vB (wpAny_specialOf (s:={s₄ with heap:=H}) (IsTup.typeIs (s:={s₄ with heap:=H}) hT') slot_tuple_getitem.lookup (vP ?_)))
  refine x11 (slice_ops (lo:=lo) (hi:=hi) (st:=st) (p:=p) (.ref a) (.ref s₄.heap.objs.size)) fun ops hops=> ?_
  rw[hops]
  have T45:Aft σ₄ s₄ σ₄ {s₄ with heap:=H}:=Aft.grow k1
  have TT:=((((T₁.trans T₂).trans T₃).trans T₄).trans T45)
  have hsz:vs.toArray.size≤sizeLine:=by simp[rr.length];exact hz
  rcases hc with⟨i,rfl,rfl,rfl,h1,hi',q⟩|⟨rfl,rfl,rfl,q⟩
  ·cases pl;cases pu;cases pt
   refine vB (wpAny_operating (getItem_tuple_from (s:={s₄ with heap:=H}) hT' hsl h1 (by simp[rr.length];exact hi') ?_ hsz))
   refine vB (wpAny_letTemporaryGo (vP ?_))
   have k2:=aN (h:=H) ({cls:= .type "tuple",data:= .seq (vs.drop i).toArray}:Obj)
   exact⟨.tup (xs.drop i),σ₄,.tup (Heap.get?_push_size _ rfl) ((rr'.drop i).mono fun b o e _=>k2 b o e),q,S₅.grow k2,TT.trans (Aft.grow k2)⟩
  ·cases pl;cases pu;cases pt
   refine vB (wpAny_operating (getItem_tuple_rev (s:={s₄ with heap:=H}) hT' hsl ?_ hsz))
   refine vB (wpAny_letTemporaryGo (vP ?_))
   have k2:=aN (h:=H) ({cls:= .type "tuple",data:= .seq vs.reverse.toArray}:Obj)
   exact⟨.tup xs.reverse,σ₄,.tup (Heap.get?_push_size _ rfl) (rr'.reverse.mono fun b o e _=>k2 b o e),q,S₅.grow k2,TT.trans (Aft.grow k2)⟩
end
structure Cls (C:Addr):Prop where
 inn:κ.In B
 mks:makesIn κ C=true
 ga:findIn κ (.ref C) "__getattribute__"=some (some (.builtin "object.__getattribute__"))
 gk:findIn κ (.ref C) "__getattr__"=some none
 sa:findIn κ (.ref C) "__setattr__"=some (some (.builtin "object.__setattr__"))
 pl:plainOver κ C=true
 hd:(clsIn κ C).any (·.hasDict)=true
structure Ini (C a:Addr):Prop where
 c:Cls C
 f:findIn κ (.ref C) "__init__"=some (some (.ref a))
 t:typeIn κ (.ref a)=some (.type "function")
structure Fld (C:Addr)(n:Str):Prop where
 c:Cls C
 f:findIn κ (.ref C) n=some none
structure Mth (C:Addr)(n:Str)(a:Addr):Prop where
 c:Cls C
 f:findIn κ (.ref C) n=some (some (.ref a))
 t:typeIn κ (.ref a)=some (.type "function")
 kp:Kp (.ref a)
set_option tactic.hygienic true in
theorem dlook {l:List (Str×V)}{x n:Str}{v:V}:(dput l n v).lookup x=if x=n then some v else l.lookup x:=by
 have m:∀(l:List (Str×V)),(l.map (fun kv=>if kv.1=n then(kv.1,v) else kv)).lookup x=if x=n then(if l.any (fun kv=>kv.1=n) then some v else none) else l.lookup x:=by
  intro l
  induction l with
  |nil=>simp
  |cons p l ih=>
   obtain⟨k,u⟩:=p
   by_cases e:k=n
   ·subst e
    by_cases z:x=k
    ·subst z;simp
    ·have:(x==k)=false:=by simpa using z
     simp[List.lookup_cons,this,z] at ih⊢
     simpa[z] using ih
   ·by_cases z:x=k
    ·subst z
     simp[e]
    ·have:(x==k)=false:=by simpa using z
     have ek:decide (k=n)=false:=by simpa using e
     simp only[List.map_cons,if_neg e,List.lookup_cons,this,List.any_cons,ek,Bool.false_or]
     exact ih
 unfold dput
 split
 ·rename_i h
  rw[m l,h];simp
 ·rename_i h
  by_cases z:x=n
  ·subst z
   rw[if_pos rfl]
   have:∀(l:List (Str×V)),¬(l.any (fun kv=>kv.1=x))=true→(l++ [(x,v)]).lookup x=some v:=by
    intro l
    induction l with
    |nil=>intro _;simp
    |cons p l ih=>
     obtain⟨k,u⟩:=p
     intro h
     have h':¬k=x∧¬(l.any (fun kv=>kv.1=x))=true:=by simpa[not_or] using h
     have:(x==k)=false:=by simpa using fun q:x=k=>h'.1 q.symm
     simp[List.lookup_cons,this]
     exact ih h'.2
   exact this l h
  ·rw[if_neg z]
   have hz:(x==n)=false:=by simpa using z
   have:∀(l:List (Str×V)),(l++ [(n,v)]).lookup x=l.lookup x:=by
    intro l
    induction l with
    |nil=>simp[List.lookup_cons,hz]
    |cons p l ih=>
     obtain⟨k,u⟩:=p
     simp only[List.cons_append,List.lookup_cons,ih]
   exact this l
theorem dany {l:List (Str×V)}{n:Str}:(l.any fun kv=>kv.1=n)=(l.lookup n).isSome:=by
 induction l with
 |nil=>rfl
 |cons p l ih=>
  obtain⟨k,u⟩:=p
  rw[List.any_cons,ih]
  by_cases e:k=n
  ·subst e;simp
  ·have:(n==k)=false:=by simpa using fun q:n=k=>e q.symm
   simp[List.lookup_cons,this,e]
section
variable {d:Nat}{sc:Nms}{ρ:Loc}{σ:Sto}{C:Addr}
theorem Cls.at {h:Heap}(c:Cls C)(S:St σ h):κ.In h:=c.inn.keeps S.base
theorem St.instAt {h:Heap}{x dx:Addr}{l:List (Str×V)}(S:St σ h)(hx:σ x=some (.inst C dx))(hd:σ dx=some (.attrs l)):
  ∃es ep,h.get? dx=some ⟨.type "dict",none,.dict es ep,#[]⟩∧StrKeys es∧es.size≤l.length∧(∀x,OR h (nsFind es x) (l.lookup x))∧InstAt h x (instObj C dx) C (some ⟨.type "dict",none,.dict es ep,#[]⟩):=by
 refine x24 (S.obj _ _ hd) fun es ep p q z r=> ?_
 exact⟨es,ep,p,q,z,r,⟨S.obj _ _ hx,rfl,rfl,p⟩⟩
theorem lookIn_of {es:Array DictEntry}{ep:Nat}{n:Str}(k:StrKeys es):lookIn n (⟨.type "dict",none,.dict es ep,#[]⟩:Obj)=some (nsFind es n):=by
 unfold lookIn nsFind findBy
 dsimp only
 rw[←Array.find?_toList]
 have e:∀e:DictEntry,e.key.isStr n=(fun n v=>Value.isStr v n) n e.key:=fun _=>rfl
 induction hf:es.toList.find? (·.key.isStr n) using Option.casesOn with
 |some en=>rfl
 |none=>
  have:es.toList.any (·.refKey)=false:=by
   rw[List.any_eq_false];intro e he;obtain⟨n,t,h⟩:=k e (by simpa using he);simp[DictEntry.refKey,h]
  simp[this]
theorem RV.handed {h:Heap}{val:Value}{v:V}(r:RV h val v)(nb:v.noBi=true):handedIn val=true:=by
 cases r<;>first|rfl|cases nb
theorem aL {x dx:Addr}{l:List (Str×V)}{n:Str}{v:V}{Q:V→Sto→Prop}(hx:σ x=some (.inst C dx))(hd:σ dx=some (.attrs l))(f:Fld C n)(hv:l.lookup n=some v)(nb:v.noBi=true)(q:Q v σ):
  T1 d (fun a=>getAttr a n true) (.ref x) σ Q:=fun A s va R S r=>by
 w_dflts r
 have X:=f.c.at S
 refine x25 (S.instAt hx hd) fun es ep p k z rr I=> ?_
 have g:=rr n
 rw[hv] at g
 induction hn:nsFind es n using Option.casesOn with
 |none=>rw[hn] at g;exact g.elim
 |some val=>
  rw[hn] at g
  refine x12 (any_some f.c.hd) fun cd hc hh=> ?_
  have fo:findObj κ C (some ⟨.type "dict",none,.dict es ep,#[]⟩) n=some (.value val):=by
   unfold findObj
   rw[hc,Option.bind_some,f.f,Option.bind_some]
   dsimp only
   rw[Option.bind_some,Option.bind_some]
   dsimp only
   unfold PySem.W.ownOf
   rw[hh,if_pos rfl]
   dsimp only
   rw[lookIn_of k,hn]
   rfl
  exact get_value X I f.c.ga fo (RV.handed g nb) (here S rfl g q)
theorem GM_own {x dx:Addr}{l:List (Str×V)}{n:Str}{f:Addr}(hx:σ x=some (.inst C dx))(hd:σ dx=some (.attrs l))(m:Mth C n f)(hv:l.lookup n=none):
  GM n (.ref x) σ (.ref f) [.ref x]:=fun A s va pl Q S r kk=>by
 w_dflts r
 have X:=m.c.at S
 refine x25 (S.instAt hx hd) fun es ep p k z rr I=> ?_
 have g:=rr n
 rw[hv] at g
 induction hn:nsFind es n using Option.casesOn with
 |some _=>rw[hn] at g;exact g.elim
 |none=>
  refine method_fn X I m.c.ga m.c.gk m.f m.t ?_ (kk _ _ _ ⟨rfl,rfl,rfl⟩ (.ref _) (.cons (.ref _) .nil))
  unfold shadowIn
  dsimp only
  rw[lookIn_of k,hn];rfl
theorem putIn_len (p:DictEntry→Bool)(f:DictEntry→DictEntry)(x:DictEntry):∀l:List DictEntry,(PySem.putIn p f x l).length=if l.any p then l.length else l.length+1:=by
 intro l
 induction l with
 |nil=>simp[PySem.putIn]
 |cons y ys ih=>
  induction hy:p y using Bool.casesOn with
  |true=>rw[putIn_hit p f x y ys hy];simp[hy]
  |false=>rw[putIn_miss p f x y ys hy];simp[hy,ih];split<;>rfl
theorem ns_any {es:Array DictEntry}{n:Str}:es.toList.any (·.key.isStr n)=(nsFind es n).isSome:=by
 unfold nsFind findBy
 rw[←Array.find?_toList]
 induction h:es.toList.find? (·.key.isStr n) using Option.casesOn with
 |some e=>rw[List.any_eq_true.mpr ⟨e,List.mem_of_find?_eq_some h,List.find?_some h⟩];simp
 |none=>
  have:es.toList.any (·.key.isStr n)=false:=by
   rw[List.any_eq_false];intro e he;exact List.find?_eq_none.mp h e he
  rw[this];simp
theorem OR.some_iff {h:Heap}{a:Option Value}{b:Option V}(r:OR h a b):a.isSome=b.isSome:=by
 induction a using Option.casesOn<;>cases b<;>first|rfl|exact r.elim
theorem T2_set {x dx:Addr}{l:List (Str×V)}{n:Str}{v:V}{Q:Sto→Prop}(hx:σ x=some (.inst C dx))(hd:σ dx=some (.attrs l))(f:Fld C n)(hz:l.length≤1000)(q:Q (σ.put dx (.attrs (dput l n v)))):
  T2u d (fun a b=>setAttr a n b) (.ref x) v σ Q:=fun A s va vb R S ra rv=>by
 w_dflts ra
 have X:=f.c.at S
 refine x25 (S.instAt hx hd) fun es ep p k z rr I=> ?_
 refine set_plain X I f.c.sa ?_
 refine osa_open (s:={s with toks:=s.toks+1}) X I f.c.pl (r:=none) (by unfold takerIn;rw[f.f];rfl) fun b=> ?_
 refine x12 (any_some f.c.hd) fun cd hc hh=> ?_
 have hxo:s.heap.get? x=some (instObj C dx):=S.obj _ _ hx
 refine vB (vP (vB (vB (wpAny_loadPart hxo (vB ((looks_clsIn X hc).at ?_))))))
 rw[hh]
 refine vP (a:=some dx) (vB (vP (vB ?_)))
 unfold nsSet
 refine vB (vB (wpAny_askSetting (vP (vB (wpAny_mkText (vB (wpAny_loadPart p ?_)))))))
 dsimp only
 have hany:es.any (·.refKey)=false:=by
  rw[Array.any_eq_false'];intro e he;refine x21 (k e he) fun n t h=> ?_;simp[DictEntry.refKey,h]
 rw[aRefKeyMayBeTheName_at,hany,Bool.and_false]
 obtain⟨el⟩:=es
 obtain⟨hash,hH⟩:∃z:Int,z=(if n.cps.isEmpty=true then 0 else reduceHash ((model pw w).w.params.strHash n.cps)):=⟨_,rfl⟩
 show wpAny _ _ (if _ then _ else updatePart dx _ (Obj.putName n (if n.cps.isEmpty=true then 0 else reduceHash ((model pw w).w.params.strHash n.cps)) (.str n (s.toks+1)) vb)>>=fun _=>_) _ _ _
 rw[←hH]
 have eput:=putName_eq n hash (.str n (s.toks+1)) vb (.type "dict") none el ep #[]
 generalize hl':PySem.putIn (·.key.isStr n) (fun e=>{e with val:=vb}) ⟨hash,.str n (s.toks+1),vb⟩ el=el' at eput
 generalize hep':(if el.any (·.key.isStr n) then ep else ep+1)=ep' at eput
 have sb:Heap.SameBut dx s.heap (s.heap.update dx (Obj.putName n hash (.str n (s.toks+1)) vb)):=Heap.SameBut.update ..
 have D':(s.heap.update dx (Obj.putName n hash (.str n (s.toks+1)) vb)).get? dx=some ⟨.type "dict",none,.dict el'.toArray ep',#[]⟩:=by
  rw[Heap.get?_update_self _ p (by rw[eput];rfl),eput]
 have kt:=kept_but S hd sb
 have nsq:s.heap.Ns dx (nsFind el.toArray):=⟨_,_,_,p,rfl,k,fun _=>rfl⟩
 have hput:StrKeys el'.toArray∧∀y,nsFind el'.toArray y=if y=n then some vb else nsFind el.toArray y:=by
  have hmod:Obj.putName n hash (.str n (s.toks+1)) vb ⟨.type "dict",none,.dict el.toArray ep,#[]⟩=⟨.type "dict",none,.dict el'.toArray ep',#[]⟩:=eput
  induction hi:el.toArray.findIdx? (·.key.isStr n) using Option.casesOn with
  |some i=>
   simp only[Obj.putName_eq,Obj.putNameByArray,hi] at hmod
   have e1:el'.toArray=el.toArray.modify i (fun e=>{e with val:=vb}):=by
    have:=congrArg Obj.data hmod
    injection this with h1 h2
    exact h1.symm
   rw[e1]
   exact⟨k.modify _ _,fun y=>findBy_modify (fun n v=>v.isStr n) Value.isStr_inj el.toArray n y vb i hi⟩
  |none=>
   simp only[Obj.putName_eq,Obj.putNameByArray,hi] at hmod
   have e1:el'.toArray=el.toArray.push ⟨hash,.str n (s.toks+1),vb⟩:=by
    have:=congrArg Obj.data hmod
    injection this with h1 h2
    exact h1.symm
   rw[e1]
   refine⟨k.push _ _ _ _,fun y=> ?_⟩
   exact findBy_push (fun n v=>Value.isStr v n) el.toArray n y hash (.str n (s.toks+1)) vb (fun y=>by
    show(n==y)=decide (y=n)
    by_cases h:y=n
    ·subst h;simp
    ·have:(n==y)=false:=by simpa using fun q:n=y=>h q.symm
     simp[this,h]) hi
 have hlen:el'.length≤(dput l n v).length:=by
  rw[←hl',putIn_len]
  have ha:el.any (·.key.isStr n)=(l.any fun kv=>kv.1=n):=by
   rw[dany,←(rr n).some_iff]
   exact ns_any (es:=el.toArray)
  rw[ha]
  unfold dput
  have z':el.length≤l.length:=by simpa using z
  split
  ·simpa using z'
  ·simp;exact z'
 have hlen2:(dput l n v).length≤l.length+1:=by
  unfold dput;split<;>simp
 refine wpAny_updatePart p ?_
 refine vB (wpAny_lookBehind D' (pastItsLine_dict (by rw[List.size_toArray,sizeLine_eq];exact nT hlen (nT hlen2 (Nat.add_le_add_right (lt3 hz) _)))) ?_)
 refine vP ?_
 refine⟨_,q,S.set sb hd ⟨el'.toArray,ep',D',hput.1,by simpa using hlen,fun y=> ?_⟩,Aft.set sb _ hd⟩
 rw[hput.2 y,dlook]
 by_cases e:y=n
 ·rw[if_pos e,if_pos e];exact rv.mono kt
 ·rw[if_neg e,if_neg e];exact(rr y).mono kt
end
section
variable {d:Nat}{sc:Nms}{ρ:Loc}{σ:Sto}{C f:Addr}
theorem Kp_cls (inn:κ.In B)(mks:makesIn κ C=true):Kp (.ref C):=fun h k fv r=>by
 w_dflts r
 refine⟨.machine,.inr (.inl rfl),fun M=> ?_⟩
 have X:κ.In h:=inn.keeps k
 have Y:=makes_of (M:=M) X mks
 obtain⟨⟨oc,od,cd,sl,hC,_⟩,_,_,_,_,call,_⟩:=Y
 refine(Looks.ld (part:=none) hC).andThen ?_
 exact call.andThen .now
theorem IsAttrs.empty {h:Heap}{a:Addr}(e:h.get? a=some emptyDict):IsAttrs h a []:=⟨#[],0,e,(fun _ h=>by simp at h),Nat.le_refl _,fun x=>by simp[nsFind,findBy,OR]⟩
theorem tc_weight (args:Args):(Code.builtin "type.__call__" args).weight≤3:=by
 have h1:(Code.builtin "type.__call__" args).frames=0:=by rfl
 have h2:(Code.builtin "type.__call__" args).isGuard=false:=by show guardIds.contains "type.__call__"=false;decide +kernel
 have h3:(Code.builtin "type.__call__" args).isCaller=false:=by rfl
 unfold Code.weight
 rw[h1,h2,h3]
 simp
 split<;>lia
theorem tc_units (args:Args):(Code.builtin "type.__call__" args).cUnits≤30:=by
 have h1:(Code.builtin "type.__call__" args).frames=0:=by rfl
 simp[Code.cUnits,h1]
theorem Rm.tc {A:Around}(r:Rm (d+1) A)(args:Args):Rm d (A.under (.builtin "type.__call__" args)):=by
 have h1:=r.dp;have h2:=r.un
 have h3:=tc_weight args;have h4:=tc_units args
 exact⟨r.hd,by show A.depth+(Code.builtin "type.__call__" args).weight+3 * d+20≤1000;lia,by show A.units+(Code.builtin "type.__call__" args).cUnits+30 * d+600≤9900;lia⟩
theorem C_make {as:List V}{Q:V→Sto→Prop}(c:Ini C f)
  (h:∀dx x,dx≠x→σ dx=none→σ x=none→CallT d (.ref f) (.ref x::as) ((σ.put dx (.attrs [])).put x (.inst C dx)) (fun v σ'=>v= .none∧Q (.ref x) σ')):CallT (d+1) (.ref C) as σ Q:=by
 intro A s fv vs R S rf rs
 w_dflts rf
 have X:=c.c.at S
 obtain⟨hh,g,dr,t,os⟩:=s
 refine make_core (makes_of X c.c.mks) (looks_findIn X c.f) (fun self=>bind_fn X self c.t) (.inl rfl) ?_
 have n0:hh.get? hh.objs.size=none:=get_size _
 have k0:=aN (h:=hh) emptyDict
 have S0:St (σ.put hh.objs.size (.attrs [])) (hh.push emptyDict):=S.add k0 n0 (ao:= .attrs []) (IsAttrs.empty (Heap.get?_push_size _ rfl))
 have T0:Aft σ ⟨hh,g,dr,t,os⟩ (σ.put hh.objs.size (.attrs [])) ⟨hh.push emptyDict,g,dr,t,os⟩:=Aft.add k0 n0 _
 have e1:(hh.push emptyDict).objs.size=hh.objs.size+1:=Heap.size_push ..
 have n1:(hh.push emptyDict).get? (hh.objs.size+1)=none:=by rw[←e1];exact get_size _
 have k1:=aN (h:=hh.push emptyDict) (instObj C hh.objs.size)
 have hx:((hh.push emptyDict).push (instObj C hh.objs.size)).get? (hh.objs.size+1)=some (instObj C hh.objs.size):=by
  rw[←e1];exact Heap.get?_push_size _ rfl
 have S1:St ((σ.put hh.objs.size (.attrs [])).put (hh.objs.size+1) (.inst C hh.objs.size)) ((hh.push emptyDict).push (instObj C hh.objs.size)):=S0.add k1 n1 (ao:= .inst C hh.objs.size) hx
 have T1:Aft (σ.put hh.objs.size (.attrs [])) ⟨hh.push emptyDict,g,dr,t,os⟩ ((σ.put hh.objs.size (.attrs [])).put (hh.objs.size+1) (.inst C hh.objs.size)) ⟨(hh.push emptyDict).push (instObj C hh.objs.size),g,dr,t,os⟩:=Aft.add k1 n1 _
 have nx:σ (hh.objs.size+1)=none:=by
  have:=S0.fresh n1
  rwa [aM _ _ (Nat.succ_ne_self _)] at this
 have rs1:RVs ((hh.push emptyDict).push (instObj C hh.objs.size)) vs as:=rs.mono fun b o e _=>k1 _ _ (k0 _ _ e)
 have H:=h hh.objs.size (hh.objs.size+1) (Nat.ne_of_lt (Nat.lt_succ_self _)) (S.fresh n0) nx _ ⟨(hh.push emptyDict).push (instObj C hh.objs.size),g,dr,t,os⟩ (.ref f) (.ref (hh.objs.size+1)::vs) (R.tc ⟨.ref C::vs,[]⟩) S1 (.ref _) (.cons (.ref _) rs1)
 refine codeAny_mono H fun r s' ⟨val,e,v,σ',rv,⟨hv,q⟩,S',T'⟩=> ?_
 subst e;subst hv
 w_dflts rv
 exact⟨rfl,_,rfl,.ref _,σ',.ref _,q,S',(T0.trans T1).trans T'⟩
end
theorem RKV.perm {h:Heap}:∀{ys l:List (Value×Value)} {m:List (Str×V)},ys.Perm l→RKV h l m→∃m',m'.Perm m∧RKV h ys m':=by
 intro ys l m p
 induction p generalizing m with
 |nil=>intro r;exact⟨m,.refl _,r⟩
 |cons x p ih=>
  intro r
  cases r with
  |cons a b=>
   refine x12 (ih b) fun m' p' r'=> ?_
   exact⟨_,p'.cons _,.cons a r'⟩
 |swap x y l=>
  intro r
  cases r with
  |cons a b=>
   cases b with
   |cons c e=>exact⟨_,List.Perm.swap _ _ _,.cons c (.cons a e)⟩
 |trans p q ihp ihq=>
  intro r
  refine x12 (ihq r) fun m' p' r'=> ?_
  refine x12 (ihp r') fun m'' p'' r''=> ?_
  exact⟨m'',p''.trans p',r''⟩
theorem RKV.zip {h:Heap}{ks:List Str}:∀{us vs:List Value} {xs:List V},RVs h us (ks.map V.str)→RVs h vs xs→RKV h (us.zip vs) (ks.zip xs):=by
 induction ks with
 |nil=>intro us vs xs r _;obtain rfl:=RVs.nil_inv r;exact .nil
 |cons k ks ih=>
  intro us vs xs r r'
  refine x23 (RVs.cons_inv r) fun _ ws z1 a r1=> ?_;subst z1
  refine x11 (RV.str_inv a) fun t z2=> ?_;subst z2
  cases r' with
  |nil=>rw[List.zip_nil_right,List.zip_nil_right];exact .nil
  |cons b r'=>exact .cons b (ih r1 r')
theorem RKV.snd {h:Heap}{l:List (Value×Value)}{m:List (Str×V)}(r:RKV h l m):RVs h (l.map (·.2)) (m.map (·.2)):=by
 induction r with
 |nil=>exact .nil
 |cons a _ ih=>exact .cons a ih
theorem RKV.mono {h h':Heap}(k:∀b o,h.get? b=some o→IsTupO o→h'.get? b=some o){l:List (Value×Value)}{m:List (Str×V)}(r:RKV h l m):RKV h' l m:=by
 induction r with
 |nil=>exact .nil
 |cons a _ ih=>exact .cons (a.mono k) ih
theorem RKV.key {h:Heap}{l:List (Value×Value)}{m:List (Str×V)}(r:RKV h l m):l.length=m.length∧∀(i:Nat) (p:Str×V),m[i]? =some p→∃(t:Tok) (v:Value),l[i]? =some (Value.str p.1 t,v):=by
 induction r with
 |nil=>exact⟨rfl,fun i p e=>by cases e⟩
 | @cons k t v _ _ _ a _ ih=>
  refine an2 ih fun h1 h2=> ?_;clear ih
  refine⟨congrArg (·+1) h1,fun i p e=> ?_⟩
  induction i using Nat.casesAuxOn with
  |zero=>replace e:=sI e;have z1:=pI2 e;replace e:=pI1 e;subst e;subst z1;exact⟨t,v,rfl⟩
  |succ i=>exact h2 i p e
noncomputable def KLe (p q:Str×V):Prop:=¬(q.1.cps.toList<p.1.cps.toList)
section
variable {d:Nat}{sc:Nms}{ρ:Loc}{σ:Sto}
theorem St.side {h h':Heap}{a:Addr}(S:St σ h)(hs:σ a=none)(hb:B.get? a=none)(nt:∀o,h.get? a=some o→¬IsTupO o)(sb:Heap.SameBut a h h'):
  (∀b o,h.get? b=some o→IsTupO o→h'.get? b=some o)∧St σ h':=by
 have kt:∀b o,h.get? b=some o→IsTupO o→h'.get? b=some o:=fun b o e ht=>(sb.2 b fun z=>by subst z;exact nt o e ht).trans e
 exact⟨kt,fun b o e=>(sb.2 b fun z=>by subst z;rw[hb] at e;exact nS e).trans (S.base b o e),S.apart,fun c ao e=>(S.obj c ao e).mono kt fun o g=>(sb.2 c fun z=>by subst z;rw[hs] at e;exact nS e).trans g⟩
theorem base_none {h:Heap}{a:Addr}(S:St σ h)(e:h.get? a=none):B.get? a=none:=by
 induction z:B.get? a using Option.casesOn with
 |none=>rfl
 |some o=>have:=S.base _ _ z;rw[e] at this;exact nS this
theorem sorted_le {l:List (Value×Value)}{m:List (Str×V)}{h:Heap}(r:RKV h l m)(hs:SortedToK PyProof.Rows.strKind l.toArray l.length):m.Pairwise KLe:=by
 refine an2 r.key fun h1 h2=> ?_
 rw[List.pairwise_iff_getElem]
 intro i j hi hj hij
 have q:=hs i j (Nat.le_of_lt hij) (nT hj (l_ge h1))
 refine x21 (h2 i _ (List.getElem?_eq_getElem hi)) fun t v e1=> ?_
 refine x21 (h2 j _ (List.getElem?_eq_getElem hj)) fun t' v' e2=> ?_
 unfold KK at q
 rw[List.getElem?_toArray,List.getElem?_toArray,e1,e2] at q
 unfold KeyOrd.kle at q
 simpa[KLe] using q
theorem sort_end {a kS:Addr}{e1 e:Nat}{keys:Array Value}{ks:List Str}{vs:List Value}{xs:List V}{A:Around}{E:Value→Shared→Prop}{P:PySem.Fin→Shared→Prop}{s:Shared}(S:St σ s.heap)(hsk:σ kS=none)(hbk:B.get? kS=none)(hsa:σ a=none)(hba:B.get? a=none)(hka:kS≠a)
  (hk:s.heap.get? kS=some (seqObj "list" keys e)) (ha:s.heap.get? a=some (seqObj "list" #[] e1)) (rk:RVs s.heap keys.toList (ks.map V.str)) (rv:RVs s.heap vs xs) (hlen:ks.length=xs.length) (h64:xs.length<64)
  (h:∀h' tk out c (m:List (Value×Value)×List (Str×V)),(∀b o,s.heap.get? b=some o→b≠kS→b≠a→h'.get? b=some o)→h'.get? a=some (seqObj "list" out c)→St σ h'→RKV h' m.1 m.2→m.1.map (·.2)=out.toList→m.2.Perm (ks.zip xs)→m.2.Pairwise KLe→P (.done (.ret .none)) {s with heap:=h',toks:=tk}):
  wpAny (model pw w) A (ksk_end a false vs.toArray e1 (.ref kS) keys) P E s:=by
 have hl1:keys.size=ks.length:=by have:=rk.length;simpa using this
 have hl2:vs.length=xs.length:=rv.length
 have hsz:keys.size=vs.length:=by lia
 have hzs:(keys.zip vs.toArray).size=vs.length:=by rw[Array.size_zip,hsz,List.size_toArray,Nat.min_self]
 have rkv:RKV s.heap (keys.zip vs.toArray).toList (ks.zip xs):=by rw[ksk_zip];exact RKV.zip rk rv
 have tail:∀(st:SortSt),(arrOf st).Perm (keys.zip vs.toArray)→SortedToK PyProof.Rows.strKind (arrOf st) (arrOf st).size→failedOf st=none→wpAny (model pw w) A (ksk_tail a false e1 (.ref kS) st) P E s:=by
  intro st hp hs hfl
  have hsz2:(arrOf st).size=vs.length:=by rw[hp.size_eq,hzs]
  have s1:=Heap.SameBut.update s.heap kS (Obj.mapSeq fun _=>(#[]:Array Value))
  have na1:(s.heap.update kS (Obj.mapSeq fun _=>(#[]:Array Value))).get? a=some (seqObj "list" #[] e1):=(s1.2 a hka.symm).trans ha
  have s2:=Heap.SameBut.update (s.heap.update kS (Obj.mapSeq fun _=>(#[]:Array Value))) a (Obj.mapSeq fun _=>(arrOf st).map (·.2))
  obtain⟨c2,hc2⟩:∃c2,((s.heap.update kS (Obj.mapSeq fun _=>(#[]:Array Value))).update a (Obj.mapSeq fun _=>(arrOf st).map (·.2))).get? a=some (seqObj "list" ((arrOf st).map (·.2)) c2):=
   ⟨_,get?_update_seq na1 fun _=>(arrOf st).map (·.2)⟩
  have ntL:∀(xs:Array Value) (n:Nat) (o:Obj),some (seqObj "list" xs n)=some o→¬IsTupO o:=fun xs n o e=>by replace e:=sI e;subst e;rintro⟨z,_⟩;simp[seqObj] at z
  refine an2 (S.side hsk hbk (fun o e=>ntL _ _ o (hk.symm.trans e)) s1) fun k1 S1=> ?_
  refine an2 (S1.side hsa hba (fun o e=>ntL _ _ o (na1.symm.trans e)) s2) fun k2 S2=> ?_
  refine x12 (RKV.perm (Array.perm_iff_toList_perm.mp hp) rkv) fun m' pm rm=> ?_
  unfold ksk_tail
  try dsimp only
  refine vB (listUpdate_at hk rfl ?_ (by rw[hsz,sizeLine_eq];exact nT (Nat.le_of_eq hl2) (lt3 (Nat.le_of_lt h64))) (Nat.zero_le _))
  refine vB (wpAny_letGo ?_)
  refine vB (seqEpoch_at na1 rfl ?_)
  refine vB (listUpdate_at na1 rfl ?_ (Nat.zero_le _) (nT (Nat.le_of_eq (by simp only[Bool.false_eq_true,if_false,Array.size_map];exact hsz2)) (by rw[sizeLine_eq];exact Nat.le_add_right_of_le (nT (Nat.le_of_eq hl2) (lt3 (Nat.le_of_lt h64))))))
  rw[hfl]
  simp only[bne_self_eq_false,Bool.false_eq_true,if_false]
  refine vP (h _ _ _ c2 ((arrOf st).toList,m') (fun b o e n1 n2=>(s2.2 b n2).trans ((s1.2 b n1).trans e)) hc2 S2 ((rm.mono k1).mono k2) (by simp) pm (sorted_le (h:=s.heap) rm ?_))
  simpa using hs
 unfold ksk_end
 try dsimp only
 simp only[Bool.false_eq_true,if_false]
 by_cases h2:vs.toArray.size<2
 ·rw[if_pos h2,if_pos h2]
  refine vB (vP ?_)
  rw[StateT.run_pure]
  refine vB (vP ?_)
  try dsimp only
  refine tail (SortSt.mk' general' (keys.zip vs.toArray) #[] 7 none) (Array.Perm.refl _) ?_ rfl
  intro i j hij hj
  have hj2:j<(keys.zip vs.toArray).size:=hj
  rw[hzs] at hj2
  rw[List.size_toArray] at h2
  have:i=j:=by lia
  subst this
  exact KeyOrd.kle_refl _
 ·rw[if_neg h2,if_neg h2]
  rw[List.size_toArray] at h2
  have hkind:keyKind' keys=pure oneType':=by
   have hS:=rk.strs
   obtain⟨v₁,v₂,rest,e⟩:∃v₁ v₂ rest,keys.toList=v₁::v₂::rest:=by
    have hl:2≤keys.toList.length:=by rw[Array.length_toList];exact nT (Nat.le_of_not_lt h2) (l_ge hsz)
    induction q:keys.toList using List.casesOn with
    |nil=>rw[q] at hl;simp at hl
    |cons v₁ r=>
     induction r using List.casesOn with
     |nil=>rw[q] at hl;simp at hl
     |cons v₂ rest=>exact⟨v₁,v₂,rest,rfl⟩
   have ek:keys=(v₁::v₂::rest).toArray:=by rw[←e,Array.toArray_toList]
   rw[e] at hS
   rw[ek]
   exact keyKind_strs hS
  have h0:KeysOf PyProof.Rows.strKind (keys.zip vs.toArray):=by
   intro p hp
   refine an2 rkv.key fun l1 l2=> ?_
   refine x11 (List.getElem_of_mem hp) fun i z3=> ?_;refine x11 z3 fun hi e=> ?_;clear z3
   obtain⟨t,v,e'⟩:=l2 i _ (List.getElem?_eq_getElem (nT hi (Nat.le_of_eq l1)))
   rw[List.getElem?_eq_getElem hi,e] at e'
   replace e':=sI e';subst e'
   exact⟨_,rfl⟩
  rw[hkind]
  refine vB (vP ?_)
  refine vB (wpAny_mono (wpS_sortRunsK (κ:=PyProof.Rows.strKind) (a₀:=keys.zip vs.toArray) (st:=SortSt.mk' oneType' (keys.zip vs.toArray) #[] 7 none)
   (Q:=fun _ st'=>(arrOf st').Perm (keys.zip vs.toArray)∧failedOf st'=none∧SortedToK PyProof.Rows.strKind (arrOf st') (keys.zip vs.toArray).size)
   strKind_oneLt h0 ⟨Array.Perm.refl _,rfl,rfl,rfl⟩ (by rw[hzs];exact Nat.le_of_not_lt h2) (by rw[hzs];lia) fun st' a1 a2 a3=>⟨a1,a2,a3⟩) ?_ fun _ _ e=>e)
  rintro⟨⟨⟩,st'⟩ s' ⟨rfl,hp,hf,hs⟩
  try dsimp only
  exact tail st' hp (by rw[hp.size_eq];exact hs) hf
theorem listNoTup {xs:Array Value}{n:Nat}{o:Obj}(e:some (seqObj "list" xs n)=some o):¬IsTupO o:=by replace e:=sI e;subst e;rintro⟨z,_⟩;simp[seqObj] at z
noncomputable def KeyFn (d:Nat) (f:V) (σ:Sto):List V→List Str→Prop
 | [],[]=>True
 |x::xs,k::ks=>CallV d f [x] σ (fun v σ'=>v= .str k∧σ'=σ)∧KeyFn d f σ xs ks
 |_,_=>False
theorem KeyFn.len {f:V}:∀{xs:List V} {ks:List Str},KeyFn d f σ xs ks→ks.length=xs.length
 | [],[],_=>rfl
 |_::_,_::_,h=>by simp[h.2.len]
theorem KeyFn.at {f:V}:∀{xs:List V} {ks:List Str},KeyFn d f σ xs ks→∀{i:Nat} {x:V} {k:Str},xs[i]? =some x→ks[i]? =some k→CallV d f [x] σ (fun v σ'=>v= .str k∧σ'=σ)
 |_::_,_::_,h,0,_,_,e,e'=>by replace e:=sI e;subst e;replace e':=sI e';subst e';exact h.1
 |_::_,_::_,h,i+1,x,k,e,e'=>h.2.at (i:=i) (by simpa using e) (by simpa using e')
theorem sort_rest {a kS:Addr}{e1:Nat}{ks:List Str}{vs:List Value}{xs:List V}{f:V}{fv:Value}{A:Around}{E:Value→Shared→Prop}{P:PySem.Fin→Shared→Prop}{s s₀:Shared}(R:Rm d A)(S:St σ s.heap)(S₀:St σ s₀.heap)
  (n0:s₀.heap.get? kS=none) (n1:s₀.heap.get? a=none) (hka:kS≠a) (keep:∀b o,s₀.heap.get? b=some o→σ b=none→s.heap.get? b=some o)
  (hsk:σ kS=none) (hbk:B.get? kS=none) (hsa:σ a=none) (hba:B.get? a=none)
  (hk:s.heap.get? kS=some (seqObj "list" #[] 0)) (ha:s.heap.get? a=some (seqObj "list" #[] e1)) (rv:RVs s₀.heap vs xs) (rf:RV s₀.heap fv f) (kf:KeyFn d f σ xs ks) (h64:xs.length<64)
  (h:∀h' tk out c (m:List (Value×Value)×List (Str×V)),(∀b o,s₀.heap.get? b=some o→σ b=none→h'.get? b=some o)→h'.get? a=some (seqObj "list" out c)→St σ h'→RKV h' m.1 m.2→m.1.map (·.2)=out.toList→m.2.Perm (ks.zip xs)→m.2.Pairwise KLe→∀(s':Shared),s'.heap=h'→Sm s₀ s'→P (.done (.ret .none)) {s' with toks:=tk}) (sm:Sm s₀ s):
  wpAny (model pw w) A (ksk_rest a fv false vs.toArray e1 (.ref kS)) P E s:=by
 have hlen:ks.length=xs.length:=kf.len
 have hlv:vs.length=xs.length:=rv.length
 have tk0:∀{s':Shared},(∀b o,s₀.heap.get? b=some o→σ b=none→s'.heap.get? b=some o)→∀b o,s₀.heap.get? b=some o→IsTupO o→s'.heap.get? b=some o:=fun k b o e ht=>k b o e (S₀.tup_free e ht)
 unfold ksk_rest
 refine vB (wpAny_rule ?_)
 first
  |rw[List.forIn_toArray]
  |(rw[←Array.forIn_toList];simp only[List.toList_toArray])
  |rw[←Array.forIn_toList]
 refine vB (ksk_fold (fun i s'=>∃kA e,St σ s'.heap∧(∀b o,s₀.heap.get? b=some o→σ b=none→s'.heap.get? b=some o)∧s'.heap.get? kS=some (seqObj "list" kA e)∧s'.heap.get? a=some (seqObj "list" #[] e1)∧RVs s'.heap kA.toList ((ks.take i).map V.str)∧Sm s₀ s') vs 0 s
  ⟨#[],0,S,keep,hk,ha,by simpa using RVs.nil,sm⟩ ?step ?done)
 case step=>
  rintro j x s' hx ⟨kA,e,S',kp,hk',ha',rk,m'⟩
  simp only[Nat.zero_add] at rk⊢
  have hj:j<vs.length:=(List.getElem?_eq_some_iff.mp hx).1
  obtain⟨k,hkj⟩:∃k,ks[j]? =some k:=⟨_,List.getElem?_eq_getElem (nT hj (nT (Nat.le_of_eq hlv) (l_ge hlen)))⟩
  obtain⟨y,hy⟩:∃y,xs[j]? =some y:=⟨_,List.getElem?_eq_getElem (nT hj (Nat.le_of_eq hlv))⟩
  refine x12 (rv.get hy) fun x' hx' rx=> ?_
  rw[hx] at hx';replace hx':=sI hx';subst hx'
  have hz:kA.size≤xs.length:=by
   have h1:=rk.length
   rw[List.length_map,List.length_take,Array.length_toList] at h1
   exact nT (Nat.le_of_eq h1) (l_min (nT (Nat.le_of_lt hj) (Nat.le_of_eq hlv)))
  have c:=kf.at hy hkj A s' fv [x] R S' (rf.mono (tk0 kp)) (.cons (rx.mono (tk0 kp)) .nil)
  refine vB (wpAny_attempt (wpAny_mono c (fun v s'' ⟨u,σ',ru,⟨e1',e2'⟩,S'',T''⟩=> ?_) fun _ _ hF=>hF.elim))
  subst e1';subst e2'
  cases ru with
  |str _ t2=>
  have hk2:=T''.keep _ _ hk' hsk
  have ha2:=T''.keep _ _ ha' hsa
  try dsimp only
  have s1:=Heap.SameBut.update s''.heap kS (Obj.mapSeq (·.push (.str k t2)))
  obtain⟨c2,hc2⟩:∃c2,(s''.heap.update kS (Obj.mapSeq (·.push (.str k t2)))).get? kS=some (seqObj "list" (kA.push (.str k t2)) c2):=⟨_,get?_update_seq hk2 (·.push (.str k t2))⟩
  refine an2 (S''.side hsk hbk (fun o e=>listNoTup (hk2.symm.trans e)) s1) fun kt S3=> ?_
  have ek:ks.take (j+1)=ks.take j++ [k]:=by rw[List.take_add_one,hkj];simp
  have ea:(kA.push (Value.str k t2)).toList=kA.toList++ [Value.str k t2]:=by simp
  refine vB (listUpdate_at hk2 rfl ?_ (by rw[sizeLine_eq];exact nT hz (lt3 (Nat.le_of_lt h64))) (nT (Nat.le_of_eq (Array.size_push ..)) (by rw[sizeLine_eq];exact Nat.add_le_add_right (nT hz (lt3 (Nat.le_of_lt h64))) _)))
  refine vP ⟨rfl,kA.push (.str k t2),c2,S3,fun b o e0 n=> ?_,hc2,(s1.2 a hka.symm).trans ha2,?_,T''.os.trans m'.os,T''.gens.trans m'.gens⟩
  ·refine(s1.2 b fun z=> ?_).trans (T''.keep b o (kp b o e0 n) n)
   subst z;rw[n0] at e0;exact nS e0
  ·rw[ea,ek,List.map_append]
   exact RVs.append ((rk.mono fun b o e0 ht=>T''.keep b o e0 (S'.tup_free e0 ht)).mono kt) (.cons (.str _ _) .nil)
 case done=>
  rintro s' ⟨kA,e,S',kp,hk',ha',rk,m'⟩
  have e3:ks.take (0+vs.length)=ks:=List.take_of_length_le (Nat.le_add_left_of_le (nT (Nat.le_of_eq hlen) (l_ge hlv)))
  rw[e3] at rk
  refine vB (listItems_at hk' rfl ?_)
  refine sort_end S' hsk hbk hsa hba hka hk' ha' rk (rv.mono (tk0 kp)) hlen h64 fun h' tk out c m k2 ho S2 rm e2 pm pw=> ?_
  exact h h' tk out c m (fun b o e0 n=>k2 b o (kp b o e0 n) (fun z=>by subst z;rw[n0] at e0;exact nS e0) fun z=>by subst z;rw[n1] at e0;exact nS e0) ho S2 rm e2 pm pw {s' with heap:=h'} rfl ⟨m'.os,m'.gens⟩
theorem C_sorted_key {l:Addr}{ks:List Str}{xs:List V}{f:V}{Q:V→Sto→Prop}{A:Around}{s:Shared}{fv0:Addr}{vf:Value}(R:Rm (d+2) A)(S:St σ s.heap)(hl:σ l=some (.list xs))(rf:RV s.heap vf f)(hvf:vf= .ref fv0)(kf:KeyFn d f σ xs ks)(h64:xs.length<64)
  (q:∀ps:List (Str×V),ps.Perm (ks.zip xs)→ps.Pairwise KLe→∀c,σ c=none→Q (.ref c) (σ.put c (.list (ps.map (·.2))))):
  wpAny MM A (call (.builtin "sorted") [.ref l] [(Str.ofString "key",vf)]) (Out σ s Q) NoE s:=by
 subst hvf
 refine x22 ((S.obj _ _ hl).plain) fun vs n p rv=> ?_
 have hlv:vs.length=xs.length:=rv.length
 refine call_function_entry_kw kind_sorted plain_sorted entry_sorted (ksk_s1 _ _) ?_
 unfold Builtin.«sorted»
 refine vB (m:=checkCount "sorted" 1 1 _) (vP ?_)
 refine vB (collect_list ⟨_,p,rfl,n,rfl⟩ ?_ (by rw[sizeLine_eq];exact nT (Nat.le_of_eq hlv) (lt3 (Nat.le_of_lt h64))))
 refine vB (wpAny_newList ?_ (by rw[sizeLine_eq];exact nT (Nat.le_of_eq hlv) (lt3 (Nat.le_of_lt h64))))
 have hsz:((s.heap.push (seqObj "list" #[] 0)).update s.heap.objs.size (Obj.mapSeq (·++vs.toArray))).objs.size=s.heap.objs.size+1:=by
  rw[Heap.size_update,size_push']
 have hoL:(((s.heap.push (seqObj "list" #[] 0)).update s.heap.objs.size (Obj.mapSeq (·++vs.toArray))).push (seqObj "list" vs.toArray 0)).get? (s.heap.objs.size+1)=some (seqObj "list" vs.toArray 0):=by
  rw[←hsz];exact Heap.get?_push_size _ rfl
 have keep:∀b o,s.heap.get? b=some o→(((s.heap.push (seqObj "list" #[] 0)).update s.heap.objs.size (Obj.mapSeq (·++vs.toArray))).push (seqObj "list" vs.toArray 0)).get? b=some o:=fun b o q=>by
  have hlt:b<s.heap.objs.size:=Heap.lt_size q
  rw[Heap.get?_push_ne _ _ _ (by rw[hsz];exact Nat.ne_of_lt (Nat.lt_succ_of_lt hlt)),Heap.get?_update_ne _ _ _ _ (Nat.ne_of_lt hlt),Heap.get?_push_ne _ _ _ (Nat.ne_of_lt hlt)]
  exact q
 show wpAny _ _ _ _ _ {s with heap:=((s.heap.push (seqObj "list" #[] 0)).update s.heap.objs.size (Obj.mapSeq (·++vs.toArray))).push (seqObj "list" vs.toArray 0)}
 rw[hsz]
 have na0:s.heap.get? (s.heap.objs.size+1)=none:=Heap.get?_none_of_le (Nat.le_succ _)
 generalize hH:((s.heap.push (seqObj "list" #[] 0)).update s.heap.objs.size (Obj.mapSeq (·++vs.toArray))).push (seqObj "list" vs.toArray 0)=H at hoL keep⊢
 have hHs:H.objs.size=s.heap.objs.size+2:=by rw[←hH,size_push',hsz]
 have SH:St σ H:=S.grow keep
 have hsa:σ (s.heap.objs.size+1)=none:=S.fresh na0
 have hba:B.get? (s.heap.objs.size+1)=none:=base_none S na0
 refine vB (wpAny_holding (wpAny_call_entry_kw slot_list_sort ⟨_,hoL,rfl⟩ entry_list_sort ?body (ksk_l1 _ _)))
 show wpAny (model pw w) A.in1.in1 (Builtin.«list.sort» ⟨[.ref (s.heap.objs.size+1)],[(Str.ofString "key",.ref fv0)]⟩) _ _ _
 rw[ksk_t1]
 obtain⟨e1,ho1⟩:∃e1,(H.update (s.heap.objs.size+1) (Obj.mapSeq fun _=>(#[]:Array Value))).get? (s.heap.objs.size+1)=some (seqObj "list" #[] e1):=⟨_,get?_update_seq hoL fun _=> #[]⟩
 have s1:=Heap.SameBut.update H (s.heap.objs.size+1) (Obj.mapSeq fun _=>(#[]:Array Value))
 refine an2 (SH.side hsa hba (fun o e=>listNoTup (hoL.symm.trans e)) s1) fun k1 S1=> ?_
 generalize hH1:H.update (s.heap.objs.size+1) (Obj.mapSeq fun _=>(#[]:Array Value))=H1 at ho1 s1 k1 S1
 have hH1s:H1.objs.size=s.heap.objs.size+2:=by rw[←hH1,Heap.size_update,hHs]
 have hkS:(H1.push (seqObj "tuple" vs.toArray 0)).objs.size=s.heap.objs.size+3:=by rw[size_push',hH1s]
 have nk0:s.heap.get? (s.heap.objs.size+3)=none:=Heap.get?_none_of_le (Nat.le_add_right _ _)
 unfold ksk_tree
 refine vB (listItems_at hoL rfl ?_)
 refine vB (listUpdate_at hoL rfl ?_ (by rw[List.size_toArray,sizeLine_eq];exact nT (Nat.le_of_eq hlv) (lt3 (Nat.le_of_lt h64))) (Nat.zero_le _))
 show wpAny _ _ _ _ _ {s with heap:=H.update (s.heap.objs.size+1) (Obj.mapSeq fun _=>(#[]:Array Value))}
 rw[hH1]
 refine vB (seqEpoch_at ho1 rfl ?_)
 refine vB (wpAny_newTuple ?_ (by show vs.length≤_;rw[sizeLine_eq];exact nT (Nat.le_of_eq hlv) (lt3 (Nat.le_of_lt h64))))
 refine vB (wpAny_newList ?_ (Nat.zero_le _))
 refine wpAny_holding ?_
 have g2:∀b o,H1.get? b=some o→((H1.push (seqObj "tuple" vs.toArray 0)).push (seqObj "list" #[] 0)).get? b=some o:=fun b o e=>aN _ b o (aN _ b o e)
 show wpAny _ _ _ _ _ {s with heap:=(H1.push (seqObj "tuple" vs.toArray 0)).push (seqObj "list" #[] 0)}
 have hk0:((H1.push (seqObj "tuple" vs.toArray 0)).push (seqObj "list" #[] 0)).get? (s.heap.objs.size+3)=some (seqObj "list" #[] 0):=by rw[←hkS];exact Heap.get?_push_size _ rfl
 show wpAny _ _ (ksk_rest _ _ _ _ _ (.ref (H1.push (seqObj "tuple" vs.toArray 0)).objs.size)) _ _ _
 rw[hkS]
 have kp0:∀b o,s.heap.get? b=some o→((H1.push (seqObj "tuple" vs.toArray 0)).push (seqObj "list" #[] 0)).get? b=some o:=fun b o e=>
  g2 b o ((s1.2 b (fun z=>by subst z;rw[na0] at e;exact nS e)).trans (keep b o e))
 refine sort_rest (s₀:=s) (kS:=s.heap.objs.size+3) (a:=s.heap.objs.size+1) R.in1.in1 (S1.grow g2) S nk0 na0 (Nat.ne_of_gt (Nat.add_lt_add_left (by decide) _)) (fun b o e _=>kp0 b o e) (S.fresh nk0) (base_none S nk0) hsa hba hk0 (g2 _ _ ho1) rv rf kf h64 (fun h' tk out c m kp ho S' rm e2 pm pw s' hs' m'=>⟨_,rfl,?_⟩) ⟨rfl,rfl⟩
 refine vP ⟨_,rfl,?_⟩
 have e:s'.heap=h':=hs'
 have ro:RO h' (s.heap.objs.size+1) (.list (m.2.map (·.2))):=⟨out.toList,⟨c,by simpa using ho⟩,by rw[←e2];exact rm.snd⟩
 subst e
 refine⟨.ref _,σ.put (s.heap.objs.size+1) (.list (m.2.map (·.2))),.ref _,q _ pm pw _ hsa,S'.take hba hsa ro,fun b o e0 n=>kp b o e0 n,fun b e0 n=> ?_,m'.os,m'.gens⟩
 have ne:b≠s.heap.objs.size+1:=fun z=>e0 (z▸na0)
 rw[aM _ _ ne];exact n
theorem RVKs.keys {h:Heap}:∀{vs:List (Str×Value)} {l:List (Str×V)},RVKs h vs l→vs.map (·.1)=l.map (·.1)
 |_,_,.nil=>rfl
 |_,_,.cons _ r=>by simp[r.keys]
theorem TE_sorted_key {func e k:Expr}{kp p:Pos}{Q:V→Sto→Prop}(hd:d=d'+2)
  (h:TE d sc func ρ σ fun f σ₁=>f= .bi "sorted"∧TE d sc e ρ σ₁ fun lv σ₂=>TE d sc k ρ σ₂ fun kv σ₃=>∃l xs ks a,lv= .ref l∧σ₃ l=some (.list xs)∧kv= .ref a∧KeyFn d' (.ref a) σ₃ xs ks∧xs.length<64∧
   ∀ps:List (Str×V),ps.Perm (ks.zip xs)→ps.Pairwise KLe→∀c,σ₃ c=none→Q (.ref c) (σ₃.put c (.list (ps.map (·.2)))))
  (harm:∀env,eval (.Call func [e] [⟨some (Str.ofString "key"),k,kp⟩] p) env=(do callWith p (←eval func env) [] (backTo p (starEach [e] env)) (backToKw p (keywordEach [⟨some (Str.ofString "key"),k,kp⟩] env))):=by intro _;rfl)
  (he:∀env,starEach [e] env=[(false,eval e env)]:=by intro _;rfl):TE d sc (.Call func [e] [⟨some (Str.ofString "key"),k,kp⟩] p) ρ σ Q:=
 fun env A s R F S=>by
  subst hd
  rw[harm env]
  refine vB (wO (h env A s R F S) (fun fv s₁ f σ₁ rf h_3 S₁ T₁=> ?_))
  refine an2 h_3 fun ef h₁=> ?_;clear h_3
  subst ef
  w_dflts rf
  have F₁:=F.aft S T₁
  refine callWith_of (P:=fun _=>True) (by rw[he env];rfl) (fun h _=>⟨.machine,.inr (.inl rfl),.now⟩) (evalArgs_kw2 rfl ?_ (by rw[he env];rfl))
  refine wpAny_items_cons (wO (h₁ env A s₁ R F₁ S₁) (fun va s₂ lv σ₂ rl h₂ S₂ T₂=> ?_)) (by rw[he env];rfl)
  refine wpAny_items_nil ?_
  have F₂:=F₁.aft S₁ T₂
  refine wpAny_evalAll_cons (vB (wO (h₂ env A s₂ R F₂ S₂) (fun vk s₃ kv σ₃ rk h_3 S₃ T₃=> ?_)))
  refine x46 h_3 fun l xs ks a el hl ek kf h64 q=> ?_;clear h_3
  subst el;subst ek
  w_dflts rl
  w_dflts rk
  refine vB (wpAny_standAt (vP (wpAny_evalAll_nil ⟨trivial,?_⟩)))
  exact wAf (C_sorted_key R S₃ hl (.ref a) rfl kf h64 q) ((T₁.trans T₂).trans T₃)
theorem C_sorted_dict {a:Addr}{es:List (Str×V)}{Q:V→Sto→Prop}(ha:σ a=some (.dict es))(h64:es.length<64)
  (q:∀ks:List Str,ks.Perm (es.map (·.1))→∀c,σ c=none→Q (.ref c) (σ.put c (.list (ks.map V.str)))):CallV d (.bi "sorted") [.ref a] σ Q:=
 fun A s fv vs R S rf rs=>by
  w_dflts rf
  refine RVs.consE rs fun _ _ r0 rs=> ?_
  w_dflts r0;w_dflts rs
  refine an2 (S.dict ha) fun lo z1=> ?_;refine x12 z1 fun kvs hD r=> ?_;clear z1
  refine x11 hD.dictAt fun ep hat=> ?_
  have hlen:kvs.length=es.length:=r.length
  have hkeys:kvs.map (·.1)=es.map (·.1):=r.keys
  refine call_function_entry kind_sorted plain_sorted entry_sorted (args_sorted1 _) ?_
  unfold Builtin.«sorted»
  refine vB (m:=checkCount "sorted" 1 1 _) (vP ?_)
  refine vB (kdu_collect (A:=A.in1) (kdl_dict (knd:=PySem.strKind pw w) (kvs:=kvs) (ep:=ep) lo) R.hd hat (by rw[sizeLine_eq];exact nT (Nat.le_of_eq hlen) (lt3 (Nat.le_of_lt h64))) fun h' tk acc hk hacc=> ?_)
  have hl:acc.toList.length=kvs.length:=by rw[Array.length_toList];exact hacc.1
  have hS:StrsAre acc.toList (kvs.map (·.1)):=by
   have g:∀(us:List Value) (ls:List (Str×Value)),us.length=ls.length→(∀(j:Nat) (v:Value),us[j]? =some v→∃k x,ls[j]? =some (k,x)∧(PySem.strKind pw w).is k v=true)→StrsAre us (ls.map (·.1)):=by
    intro us
    induction us with
    |nil=>intro ls e _;induction ls using List.casesOn with
     |nil=>exact .nil
     |cons _ _=>cases e
    |cons u us ih=>
     intro ls e hp
     induction ls using List.casesOn with
     |nil=>cases e
     |cons p ls=>
      refine x22 (hp 0 u rfl) fun k x e1 e2=> ?_
      replace e1:=sI e1;subst e1
      refine x11 (Value.isStrOf_shape e2) fun t z2=> ?_;subst z2
      exact .cons _ _ (ih ls (by simpa using e) fun j v hj=>hp (j+1) v (by simpa using hj))
   exact g _ _ hl fun j v hj=>hacc.2 j v (by rw[←Array.getElem?_toList];exact hj)
  refine vB (wpAny_newList ?_ (by rw[hl,sizeLine_eq];exact nT (Nat.le_of_eq hlen) (lt3 (Nat.le_of_lt h64))))
  have hoL:(h'.push {cls:= .type "list",data:= .seq acc.toList.toArray}).get? h'.objs.size=some (seqObj "list" acc.toList.toArray 0):=Heap.get?_push_size _ rfl
  refine vB (wpAny_holding (wpAny_call_entry slot_list_sort ⟨_,hoL,rfl⟩ entry_list_sort (list_sort_treeK (s:={s with heap:=h'.push {cls:= .type "list",data:= .seq acc.toList.toArray},toks:=tk}) (κ:=PyProof.Rows.strKind) strKind_oneLt hoL hS.keysOf (fun v₁ v₂ rest e=>keyKind_strs (by rw[←e];exact hS)) (by lia) fun st' a1 a2=>⟨_,rfl,?_⟩) (args_list_sort _)))
  refine x13 (sorted_out_str hS a1 a2) fun ss' h1 h2 _=> ?_
  refine vP ⟨_,rfl,?_⟩
  refine x11 (sortedHeap_at (out:=(arrOf st').map (·.2)) hoL) fun e he=> ?_
  have nn:s.heap.get? h'.objs.size=none:=by
   induction z:s.heap.get? h'.objs.size using Option.casesOn with
   |none=>rfl
   |some o=>have:=hk _ _ z;rw[get_size] at this;exact nS this
  have k2:∀b o,s.heap.get? b=some o→(sortedHeap (h'.push {cls:= .type "list",data:= .seq acc.toList.toArray}) h'.objs.size acc.toList ((arrOf st').map (·.2))).get? b=some o:=fun b o e0=>by
   have hlt:=Heap.lt_size (hk b o e0)
   rw[sortedHeap_old (Nat.ne_of_lt hlt) (by rw[Heap.size_push];exact Nat.lt_succ_of_lt hlt),aN _ b o (hk b o e0)]
  refine out_new (ao:= .list (ss'.map V.str)) S k2 nn ⟨((arrOf st').map (·.2)).toList,⟨e,by rw[Array.toArray_toList];exact he⟩,?_⟩ (q ss' (hkeys▸h2)) rfl
  have g:∀{h:Heap} {us:List Value} {ls:List Str},StrsAre us ls→RVs h us (ls.map V.str):=by
   intro h us ls x
   induction x with
   |nil=>exact .nil
   |cons y t _ ih=>exact .cons (.str _ _) ih
  exact g h1
theorem St.frozen {h:Heap}{a:Addr}{es:List (Str×V)}(S:St σ h)(ha:σ a=some (.dict es)):∃o,St (σ.put a (.frz o es)) h:=by
 refine an2 (S.dict ha) fun lo z1=> ?_;refine x12 z1 fun kvs hD r=> ?_;clear z1
 refine x12 (Heap.dictOf_iff.mp hD) fun o ho hd=> ?_
 refine⟨o,S.base,fun b e=> ?_,fun b x e=> ?_⟩
 ·by_cases z:b=a
  ·subst z;exact S.apart b (by rw[ha];simp)
  ·rw[aM _ _ z] at e;exact S.apart b e
 ·by_cases z:b=a
  ·subst z;rw[aA] at e;replace e:=sI e;subst e;exact⟨ho,lo,kvs,hd,r⟩
  ·rw[aM _ _ z] at e;exact S.obj b x e
theorem FR.put {env:Env}{h:Heap}{a:Addr}{ao ao':AO}(F:FR sc env ρ σ h)(ha:σ a=some ao):FR sc env ρ (σ.put a ao') h:=by
 refine⟨F.nm,F.fn,F.gl,F.bi,F.ns,F.cells,F.one,F.cell,?_,fun x c e=> ?_,F.ap⟩
 ·rw[aM _ _ (fun z=>by have:=F.nl;rw[z,ha] at this;exact nS' this)];exact F.nl
 ·have:=F.nc x c e
  rw[aM _ _ (fun z=>by rw[z,ha] at this;exact nS' this)];exact this
theorem AftX.unput {X:Addr→Prop}{h h':Shared}{a:Addr}{ao ao':AO}{σ':Sto}(ha:σ a=some ao)(T:AftX X (σ.put a ao') h σ' h'):AftX X σ h σ' h':=by
 have ne:∀b,σ b=none→b≠a:=fun b n z=>by rw[z,ha] at n;exact nS' n
 exact⟨fun b o e n=>T.keep b o e (by rw[aM _ _ (ne b n)];exact n),fun b e n=>T.dom b e (by rw[aM _ _ (ne b n)];exact n),fun b e n=>T.live b e (by rw[aM _ _ (ne b n)];exact n),T.os,T.gens⟩
theorem T2_item_frz {k:Str}{a:Addr}{o:Obj}{es:List (Str×V)}{x:V}{Q:V→Sto→Prop}(ha:σ a=some (.frz o es))(hx:dget es k=some x)(q:Q x σ):TI d (.ref a) (.str k) σ Q:=by
 have dof:∀{h:Heap},St σ h→∃kvs,h.DictOf (PySem.strKind pw w) a kvs∧RVKs h kvs es:=fun S=>by
  refine an3 (S.obj _ _ ha) fun p lo z2=> ?_;refine x12 z2 fun kvs hd r=> ?_;clear z2
  exact⟨kvs,Heap.dictOf_iff.mpr ⟨o,p,hd⟩,r⟩
 refine⟨fun A s va vb R S ra rb=> ?_,fun s va S r=> ?_⟩
 ·w_dflts ra;w_dflts rb
  refine x12 (dof S) fun kvs hD r=> ?_
  have g:=r.get k
  rw[hx] at g
  induction hv:valueAt kvs k using Option.casesOn with
  |none=>rw[hv] at g;exact g.elim
  |some v=>
   rw[hv] at g
   exact wpAny_operating (wpAny_getItem_of (strKind_is _ _ _ _) hD.mapOf hv (here S rfl g q))
 ·w_dflts r
  refine x12 (dof S) fun kvs hD r=> ?_
  exact⟨_,_,hD.typeIs,slot_dict_getitem.lookup⟩
end
section
theorem seqD_ok {d:Data}{p:Array Value×Nat}(h:seqD d=some p):d= .seq p.1 p.2:=by
 induction d using Data.casesOn with
 |seq vs n=>exact sI h▸rfl
 |_=>exact nS h
theorem fncD_ok {d:Data}{f:FuncData}(h:fncD d=some f):d= .func f:=by
 induction d using Data.casesOn with
 |func f=>exact sI h▸rfl
 |_=>exact nS h
theorem stmD_ok {d:FuncBody}{b:List Stmt}(h:stmD d=some b):d= .stmts b:=by
 cases d with
 |stmts b=>exact sI h▸rfl
 |_=>exact nS h
theorem rdVs_ok {h:Heap}{f:Value→Option V}(hf:∀v x,f v=some x→RV h v x){vs:List Value}:∀{l:List V},rdVs f vs=some l→RVs h vs l:=by
 induction vs with
 |nil=>exact fun e=>sI e▸ .nil
 |cons v vs ih=>exact fun e=>bE e fun x h1 e=>mE e fun l h2 e=>e▸ .cons (hf _ _ h1) (ih h2)
theorem rdO_ok {h:Heap}{f:Value→Option V}(hf:∀v x,f v=some x→RV h v x){a:Addr}{o:Obj}{x:V}(ho:h.get? a=some o)(e:rdO f a o=some x):RV h (.ref a) x:=by
 unfold rdO at e
 induction t:decide (o.cls= .type "tuple") using Bool.casesOn with
 |false=>rw[t] at e;exact sI e▸ .ref _
 |true=>
  rw[t] at e
  induction u:o.dict.isNone&&decide (o.slots= #[]) using Bool.casesOn with
  |false=>rw[u] at e;exact nS e
  |true=>
   rw[u] at e
   refine bE e fun p hp e=>mE e fun l hl e=>e▸ ?_
   refine an2 (bA u) fun u1 u2=> ?_
   obtain⟨c,dc,dt,sl⟩:=o
   obtain rfl:c=_:=oD t
   obtain rfl:dc=_:=Option.isNone_iff_eq_none.mp u1
   obtain rfl:sl=_:=oD u2
   obtain rfl:dt=_:=seqD_ok hp
   exact .tup (vs:=p.1.toList) (n:=p.2) (by rw[Array.toArray_toList];exact ho) (rdVs_ok hf hl)
theorem rdV_ok {h:Heap}{n:Nat}:∀{v:Value} {x:V},rdV h n v=some x→RV h v x:=by
 induction n with
 |zero=>exact fun e=>nS e
 |succ n ih=>
  intro v x e
  induction v using Value.casesOn with
  |none=>exact sI e▸ .none
  |bool b=>exact sI e▸ .bool b
  |int i t=>exact sI e▸ .int i t
  |str s t=>exact sI e▸ .str s t
  |type n=>exact sI e▸ .ty n
  |builtin i=>exact sI e▸ .bi i
  |ref a=>exact bE e fun o ho e=>rdO_ok (fun _ _=>ih) ho e
  |_=>exact nS e
theorem map_at {α β:Type}{f g:α→β}{l:List α}(e:l.map f=l.map g){i:Nat}{t:α}(ht:l[i]? =some t):f t=g t:=by
 have:=congrArg (fun z:List β=>z[i]?) e
 simpa[ht] using this
theorem map_mem {α β:Type}{f g:α→β}{l:List α}(e:l.map f=l.map g){t:α}(ht:t∈l):f t=g t:=List.map_inj_left.mp e t ht
theorem Bs.ex:∃t,Bs t:=by
 obtain⟨s,_,h⟩:=Option.map_eq_some_iff.mp (seen_top (aWorld 0) default)
 exact⟨(aWorld 0,s.abs.heap,s.abs.heap),congrArg (·.2.2) h,fun _ _ e=>e⟩
theorem tt_ok:Tp tt:=Bs.ex.elim fun _ h=>Classical.epsilon_spec (Tp.ex h)
theorem hDat:datOf hh=datA:=tt_ok.1.1
theorem hup:∀b o,hh.get? b=some o→B.get? b=some o:=tt_ok.1.2
theorem dFn:fnTab.map (fun t=>fnD hh t.1)=fnTab.map (fun t=>some (FD.mk true (aI t.2.1) (aH t.2.1) (stPar t.2.1) t.2.2)):=congrArg (·.2.1) hDat
theorem dFi:fiTab.map (fun t=>findIn κ (.ref t.1) t.2.1)=fiTab.map (fun t=>some t.2.2):=congrArg (·.2.2.2.2.1) hDat
theorem dTy:tyTab.map (fun a=>typeIn κ (.ref a))=tyTab.map (fun _=>some (Value.type "function")):=congrArg (·.2.2.2.2.2) hDat
theorem fnA (i:Nat){a:Addr}{st:Stmt}{dv:Option (List V)}(ht:fnTab[i]? =some (a,st,dv)):fnD hh a=some ⟨true,aI st,aH st,stPar st,dv⟩:=map_at dFn ht
theorem fiA (i:Nat){a:Addr}{x:Str}{v:Option Value}(ht:fiTab[i]? =some (a,x,v)):findIn κ (.ref a) x=some v:=map_at dFi ht
theorem tyA {a:Addr}(ht:a∈tyTab):typeIn κ (.ref a)=some (.type "function"):=map_mem dTy ht
theorem hOk:hh.isNs mainGlobals=true∧hh.isNs builtinsNs=true∧hh.noLimitOk=true∧(hh.get? sysModules).isSome=true∧clTab.all (clsB κ)=true:=by
 have A:=fun {a b:Bool}=>(Bool.and_eq_true_iff (x:=a) (y:=b)).mp
 have e:okAll hh=true:=congrArg (·.1) hDat
 have e2:=(A e).2;have e3:=(A e2).2
 exact⟨(A e).1,(A e2).1,(A e3).1,A (A e3).2⟩
theorem hOk1:hh.isNs mainGlobals=true:=hOk.1
theorem hOk2:hh.isNs builtinsNs=true:=hOk.2.1
theorem hOk3:B.NoLimit:=(Heap.NoLimit.of_ok hOk.2.2.1).keeps hup
theorem b.low:B.get? sysModules≠none:=fun q=>by
 have e:=hOk.2.2.2.1
 induction z:hh.get? sysModules using Option.casesOn with
 |none=>rw[z] at e;exact nB e
 |some o=>rw[hup _ _ z] at q;exact nS' q
theorem kOf_in {h:Heap}{as:List Addr}:(kOf h as).In h:=by
 intro a o
 induction as with
 |nil=>exact fun e=>nS e
 |cons b as ih=>
  intro e
  replace e:(match h.get? b with|some o=>(b,o)::kOf h as|none=>kOf h as).lookup a=some o:=e
  induction ho:h.get? b using Option.casesOn with
  |none=>rw[ho] at e;exact ih e
  |some o'=>
   rw[ho] at e
   have e:(match a==b with|true=>some o'|false=>(kOf h as).lookup a)=some o:=e
   induction q:a==b using Bool.casesOn with
   |true=>rw[q] at e;rw[beq_iff_eq.mp q,ho];exact e
   |false=>rw[q] at e;exact ih e
theorem b.inn:κ.In B:=kOf_in.keeps hup
theorem clsA (i:Nat){C:Addr}(ht:clTab[i]? =some C)(ga:findIn κ (.ref C) "__getattribute__"=some (some (.builtin "object.__getattribute__")))(gk:findIn κ (.ref C) "__getattr__"=some none)
  (sa:findIn κ (.ref C) "__setattr__"=some (some (.builtin "object.__setattr__"))):Cls C:=by
 have e:=lA hOk.2.2.2.2 C (List.mem_of_getElem? ht)
 refine an2 (bA e) fun e1 e=>an2 (bA e) fun e2 e3=>⟨b.inn,e1,ga,gk,sa,e2,e3⟩
theorem lookup_at {α:Type}{f g:Str→Option α}{x:Str}{v:α}{l:List (Str×α)}(e:l.map (fun t=>f t.1)=l.map (fun t=>some t.2))(h:l.lookup x=some v):f x=some v:=map_mem e (PySem.mem_of_lookup h)
theorem gv_ok {x:Str}{v:V}(h:gTab.lookup x=some v):GV x v:=by
 have e:gvD hh x=some v:=lookup_at (g:=fun _=>none) (congrArg (·.2.2.1) hDat) h
 exact bE e fun val hv e=>⟨_,val,(Heap.Ns.of_isNs hOk1).keeps hup,hv,(rdV_ok e).mono fun b o e _=>hup b o e⟩
theorem bv_ok {x:Str}{v:V}(h:bTab.lookup x=some v):BV x v:=by
 have e:bvD hh x=some v:=lookup_at (g:=fun _=>none) (congrArg (·.2.2.2.1) hDat) h
 unfold bvD at e
 induction hn:hh.nsMap mainGlobals x using Option.casesOn with
 |some _=>rw[hn] at e;exact nS e
 |none=>rw[hn] at e;exact bE e fun val hv e=>⟨_,_,val,(Heap.Ns.of_isNs hOk1).keeps hup,hn,(Heap.Ns.of_isNs hOk2).keeps hup,hv,(rdV_ok e).mono fun b o e _=>hup b o e⟩
theorem glb_ok {x:Str}{v:V}(h:glb x=some v):GV x v∨BV x v:=by
 unfold glb at h
 induction q:gTab.lookup x using Option.casesOn with
 |some u=>rw[q] at h;exact .inl (gv_ok (q.trans h))
 |none=>rw[q] at h;exact .inr (bv_ok h)
theorem fnD_ok {a:Addr}{b:List Stmt}{nm:Nms}{par:Arguments}{dv:Option (List V)}{P:Prop}(e:fnD hh a=some ⟨true,b,nm,par,dv⟩)
  (k:∀o fd,B.get? a=some o→o.data= .func fd→fd.body= .stmts b→fd.scope.names=nm→fnT hh fd=true→fd.params=par→dflD hh fd.defaults=some dv→P):P:=
 bE e fun o ho e=>bE e fun fd hd e=>bE e fun b' hb e=>mE e fun dv' hv e=>
  k o fd (hup _ _ ho) (fncD_ok hd) ((stmD_ok hb).trans (congrArg _ (congrArg FD.body e))) (congrArg FD.names e) (congrArg FD.ok e) (congrArg FD.par e) (hv.trans (congrArg (fun x=>some x.dfl) e))
theorem bnot {b:Bool}(h:(!b)=true):b=false:=by induction b using Bool.casesOn<;>first|rfl|exact h.symm
theorem fn_mk {a:Addr}{k:Nat}{xs:List Str}{dfl:List V}{nm:Nms}{b:List Stmt}{o:Obj}{fd:FuncData}(ho:B.get? a=some o)(hd:o.data= .func fd)(hb:fd.body= .stmts b)(hn:fd.scope.names=nm)(t:fnT hh fd=true)
  (hbind:∀(s:Shared) (vals:List Value) (l:List V),(∀b o,B.get? b=some o→s.heap.get? b=some o)→RVs s.heap vals l→l.length=k→∃vs,BindsTo s fd ⟨vals,[]⟩ (xs.zip vs)∧RVs s.heap vs (l++dfl)):FnAt a k xs dfl nm b:=by
 have A:=fun {a b:Bool}=>(Bool.and_eq_true_iff (x:=a) (y:=b)).mp
 have t2:=(A t).2;have t3:=(A t2).2;have t4:=(A t3).2;have t5:=(A t4).2;have t6:=(A t5).2
 exact⟨o,fd,ho,hd,hb,hn,oD (A t).1,bnot (A t2).1,bnot (A t3).1,List.isEmpty_iff.mp (A t4).1,beq_iff_eq.mp (A t5).1,beq_iff_eq.mp (A t6).1,(Heap.CodeRec.of_ok (A t6).2).keeps hup,hbind,hOk3⟩
noncomputable def ranged (k:Nat) (f:Nat→Value):List Value:=(List.range k).map f
theorem ranged_of {vs:List Value}{k:Nat}(e:vs.length=k):vs=ranged k fun i=>vs.getD i .none:=by
 subst e
 refine List.ext_getElem (by simp[ranged]) fun i h1 h2=> ?_
 simp[ranged,h1]
noncomputable def bdL (par:Arguments) (d:Value) (k:Nat) (fd:FuncData) (f:Nat→Value):Sem (List (Str×Value)):=bindArgs {fd with params:=par,defaults:=d} ⟨ranged k f,[]⟩
theorem bdL_is {par:Arguments}{d:Value}{fd:FuncData}(h1:fd.params=par)(h2:fd.defaults=d){k:Nat}{f:Nat→Value}:bdL par d k fd f=bindArgs fd ⟨ranged k f,[]⟩:=by subst h1;subst h2;rfl
theorem fn0 (i:Nat){a:Addr}{st:Stmt}{k:Nat}{xs:List Str}(ht:fnTab[i]? =some (a,st,none):=by rfl)(hb:bdL (stPar st) .none k=(fun _ f=>pure (xs.zip (ranged k f))):=by kernel_rfl):FnAt a k xs [] (aH st) (aI st):=by
 refine fnD_ok (fnA i ht) fun o fd h1 h2 h3 h4 h5 h6 h7=>fn_mk h1 h2 h3 h4 h5 fun s vals l _ r hl=>⟨vals,.of_eq ?_,by rw[List.append_nil];exact r⟩
 have hd:fd.defaults= .none:=by
  cases hd:fd.defaults with
  |none=>rfl
  |ref T=>rw[hd] at h7;exact bE h7 fun _ _ e=>bE e fun _ _ e=>mE e fun _ _ e=>nS' e
  |_=>rw[hd] at h7;exact nS h7
 have hv:=ranged_of (vs:=vals) (k:=k) (by rw[r.length];exact hl)
 rw[hv,←bdL_is h6 hd]
 exact congrFun (congrFun hb fd) _
noncomputable def apK (kont:Option (Array Value)→Sem (List (Str×Value))) (l:List Value):Sem (List (Str×Value)):=kont (some l.toArray)
noncomputable abbrev BdD (par:Arguments) (k m:Nat) (xs:List Str):Prop:=∀(c:FuncData) (T:Addr) (f g:Nat→Value),∃kont,bdL par (.ref T) k c f=seqItems? (.ref T)>>=kont∧apK kont (ranged m g)=pure (xs.zip (ranged k f++(ranged m g).drop (m-(xs.length-k))))
theorem fn1 (i:Nat){a:Addr}{st:Stmt}{l₀:List V}{k:Nat}{xs:List Str}{dfl:List V}(ht:fnTab[i]? =some (a,st,some l₀):=by rfl)
  (hd:dfl=l₀.drop (l₀.length-(xs.length-k)):=by rfl) (hb:BdD (stPar st) k l₀.length xs:=by intro _ _ _ _;exact⟨_,rfl,by kernel_rfl⟩):FnAt a k xs dfl (aH st) (aI st):=by
 refine fnD_ok (fnA i ht) fun o fd h1 h2 h3 h4 h5 h6 h7=> ?_
 cases hdf:fd.defaults with
 |none=>rw[hdf] at h7;exact nS (sI h7)
 |ref T=>
  rw[hdf] at h7
  refine bE h7 fun ot hot e=>bE e fun p hp e=>mE e fun l hl e=> ?_
  have r0:=rdVs_ok (fun _ _=>rdV_ok) hl
  obtain rfl:=sI e
  refine fn_mk h1 h2 h3 h4 h5 fun s vals _ hB r hlen=>⟨vals++p.1.toList.drop (l.length-(xs.length-k)),?_,by rw[hd];exact r.append ((r0.mono fun b o e _=>hB b o (hup b o e)).drop _)⟩
  have hv:=ranged_of (vs:=vals) (k:=k) (by rw[r.length];exact hlen)
  have hw:=ranged_of (vs:=p.1.toList) (k:=l.length) r0.length
  refine x12 (hb fd T (fun i=>vals.getD i .none) (fun i=>p.1.toList.getD i .none)) fun kont b1 b2=> ?_
  unfold apK at b2
  rw[bdL_is h6 hdf,←hv] at b1
  rw[←hv,←hw] at b2
  exact .of_defaults hdf (hB _ _ (hup _ _ hot)) (seqD_ok hp) (by rw[hdf];exact b1) b2
 |_=>rw[hdf] at h7;exact nS h7
theorem kp_fn {a:Addr}(h:(fnTab.any fun t=>Nat.beq t.1 a)=true):Kp (.ref a):=by
 obtain⟨t,ht,e⟩:=List.any_eq_true.mp h
 obtain rfl:=Nat.eq_of_beq_eq_true e
 exact fnD_ok (map_mem dFn ht) fun o fd ho hd _ _ _ _ _=>Kp_fn ho hd
theorem kp_cl {a:Addr}(h:clTab.any (Nat.beq a)=true):Kp (.ref a):=by
 obtain⟨t,ht,e⟩:=List.any_eq_true.mp h
 obtain rfl:=Nat.eq_of_beq_eq_true e
 exact Kp_cls b.inn (bA (lA hOk.2.2.2.2 _ ht)).1
end
theorem b.f_named_1:FnAt 33 1 ["name","params"] [.tup []] (aH (defAt 4)) (aI (defAt 4)):=fn1 0
theorem b.f_named_2:FnAt 33 2 ["name","params"] [] (aH (defAt 4)) (aI (defAt 4)):=fn1 0
theorem b.f_tuple_of_1:FnAt 41 1 ["kinds","rest"] [.none] (aH (defAt 5)) (aI (defAt 5)):=fn1 1
theorem b.f_tuple_of_2:FnAt 41 2 ["kinds","rest"] [] (aH (defAt 5)) (aI (defAt 5)):=fn1 1
theorem b.f_union_of_1:FnAt 48 1 ["kinds"] [] (aH (defAt 6)) (aI (defAt 6)):=fn0 2
theorem b.f_parts_of_kind_1:FnAt 55 1 ["kind"] [] (aH (defAt 7)) (aI (defAt 7)):=fn0 3
theorem b.f_rebuilt_kind_2:FnAt 62 2 ["kind","parts"] [] (aH (defAt 8)) (aI (defAt 8)):=fn0 4
theorem b.f_substituted_2:FnAt 67 2 ["kind","table"] [] (aH (defAt 9)) (aI (defAt 9)):=fn0 5
theorem b.f_free_vars_1:FnAt 72 1 ["kind"] [] (aH (defAt 10)) (aI (defAt 10)):=fn0 6
theorem b.f_closed_2:FnAt 79 2 ["binders","body"] [] (aH (defAt 11)) (aI (defAt 11)):=fn0 7
theorem b.f_kind_text_1:FnAt 91 1 ["kind"] [] (aH (defAt 13)) (aI (defAt 13)):=fn0 8
theorem b.f_Side_init_6:FnAt 105 6 ["self","is_asked","order","lowers","uppers","is_diagonal"] [] (aH (aJ 16 0)) (aI (aJ 16 0)):=fn0 9
theorem b.f_Side_with_lower_2:FnAt 112 2 ["self","kind"] [] (aH (aJ 16 1)) (aI (aJ 16 1)):=fn0 10
theorem b.f_Side_with_upper_2:FnAt 119 2 ["self","kind"] [] (aH (aJ 16 2)) (aI (aJ 16 2)):=fn0 11
theorem b.f_Sides_init_1:FnAt 155 1 ["self","rows","many"] [.none,.int 0] (aH (aJ 17 0)) (aI (aJ 17 0)):=fn1 14
theorem b.f_Sides_init_3:FnAt 155 3 ["self","rows","many"] [] (aH (aJ 17 0)) (aI (aJ 17 0)):=fn1 14
theorem b.f_Sides_copied_1:FnAt 162 1 ["self"] [] (aH (aJ 17 1)) (aI (aJ 17 1)):=fn0 15
theorem b.f_Sides_opened_3:FnAt 169 3 ["self","kind","is_asked"] [] (aH (aJ 17 2)) (aI (aJ 17 2)):=fn0 16
theorem b.f_Sides_side_2:FnAt 176 2 ["self","name"] [] (aH (aJ 17 3)) (aI (aJ 17 3)):=fn0 17
theorem b.f_Sides_is_asked_2:FnAt 183 2 ["self","kind"] [] (aH (aJ 17 4)) (aI (aJ 17 4)):=fn0 18
theorem b.f_Sides_add_lower_3:FnAt 190 3 ["self","name","kind"] [] (aH (aJ 17 5)) (aI (aJ 17 5)):=fn0 19
theorem b.f_Sides_add_upper_3:FnAt 197 3 ["self","name","kind"] [] (aH (aJ 17 6)) (aI (aJ 17 6)):=fn0 20
theorem b.f_Sides_later_ones_3:FnAt 204 3 ["self","kind","name"] [] (aH (aJ 17 7)) (aI (aJ 17 7)):=fn0 21
theorem b.f_occurrences_2:FnAt 216 2 ["kind","name"] [] (aH (defAt 18)) (aI (defAt 18)):=fn0 22
theorem b.f_bound_occurrences_2:FnAt 223 2 ["kind","name"] [] (aH (defAt 19)) (aI (defAt 19)):=fn0 23
theorem b.f_is_diagonal_2:FnAt 230 2 ["body","name"] [] (aH (defAt 20)) (aI (defAt 20)):=fn0 24
theorem b.f_left_cases_1:FnAt 235 1 ["kind"] [] (aH (defAt 21)) (aI (defAt 21)):=fn0 25
theorem b.f_tuple_cases_1:FnAt 240 1 ["kind"] [] (aH (defAt 22)) (aI (defAt 22)):=fn0 26
theorem b.f_is_empty_1:FnAt 245 1 ["kind"] [] (aH (defAt 23)) (aI (defAt 23)):=fn0 27
theorem b.f_tail_of_1:FnAt 252 1 ["kind"] [] (aH (defAt 24)) (aI (defAt 24)):=fn0 28
theorem b.f_Search_init_3:FnAt 270 3 ["self","kinds","fuel"] [] (aH (aJ 28 0)) (aI (aJ 28 0)):=fn0 29
theorem b.f_Search_run_3:FnAt 277 3 ["self","goals","sides"] [] (aH (aJ 28 1)) (aI (aJ 28 1)):=fn0 30
theorem b.f_Search_settled_4:FnAt 284 4 ["self","left","sides","waiting"] [] (aH (aJ 28 2)) (aI (aJ 28 2)):=fn0 31
theorem b.f_Search_step_3:FnAt 291 3 ["self","goal","sides"] [] (aH (aJ 28 3)) (aI (aJ 28 3)):=fn0 32
theorem b.f_Search_below_4:FnAt 303 4 ["self","name","kind","sides"] [] (aH (aJ 28 5)) (aI (aJ 28 5)):=fn0 34
theorem b.f_Search_above_4:FnAt 308 4 ["self","name","kind","sides"] [] (aH (aJ 28 6)) (aI (aJ 28 6)):=fn0 35
theorem b.f_Search_by_form_4:FnAt 313 4 ["self","one","other","sides"] [] (aH (aJ 28 7)) (aI (aJ 28 7)):=fn0 36
theorem b.f_Search_chosen_4:FnAt 318 4 ["self","one","other","sides"] [] (aH (aJ 28 8)) (aI (aJ 28 8)):=fn0 37
theorem b.f_Search_plain_3:FnAt 325 3 ["self","one","other"] [] (aH (aJ 28 9)) (aI (aJ 28 9)):=fn0 38
theorem b.f_Search_nominal_3:FnAt 330 3 ["self","one","other"] [] (aH (aJ 28 10)) (aI (aJ 28 10)):=fn0 39
theorem b.f_Search_are_concrete_2:FnAt 337 2 ["self","sides"] [] (aH (aJ 28 11)) (aI (aJ 28 11)):=fn0 40
theorem b.f_Search_is_one_3:FnAt 342 3 ["self","side","sides"] [] (aH (aJ 28 12)) (aI (aJ 28 12)):=fn0 41
theorem b.f_narrowed_3:FnAt 356 3 ["name","kind","sides"] [] (aH (defAt 29)) (aI (defAt 29)):=fn0 42
theorem b.f_widened_3:FnAt 363 3 ["name","kind","sides"] [] (aH (defAt 30)) (aI (defAt 30)):=fn0 43
theorem b.f_has_within_2:FnAt 370 2 ["name","kind"] [] (aH (defAt 31)) (aI (defAt 31)):=fn0 44
theorem b.f_tuple_ways_2:FnAt 375 2 ["one","other"] [] (aH (defAt 32)) (aI (defAt 32)):=fn0 45
theorem b.f_is_subtype_3:FnAt 383 3 ["kinds","one","other","fuel"] [.int 4000] (aH (defAt 33)) (aI (defAt 33)):=fn1 46
theorem b.f_matched_3:FnAt 389 3 ["kinds","one","sig","fuel"] [.int 4000] (aH (defAt 34)) (aI (defAt 34)):=fn1 47
theorem b.f_told_param_3:FnAt 394 3 ["kinds","side","sides"] [] (aH (defAt 35)) (aI (defAt 35)):=fn0 48
theorem b.f_Decl_init_5:FnAt 448 5 ["self","name","params","above","is_abstract","is_mutable","fields"] [.bool false,.tup []] (aH (aJ 45 0)) (aI (aJ 45 0)):=fn1 49
theorem b.f_Decl_init_6:FnAt 448 6 ["self","name","params","above","is_abstract","is_mutable","fields"] [.tup []] (aH (aJ 45 0)) (aI (aJ 45 0)):=fn1 49
theorem b.f_Decl_init_7:FnAt 448 7 ["self","name","params","above","is_abstract","is_mutable","fields"] [] (aH (aJ 45 0)) (aI (aJ 45 0)):=fn1 49
theorem b.f_Decl_table_for_2:FnAt 453 2 ["self","params"] [] (aH (aJ 45 1)) (aI (aJ 45 1)):=fn0 50
theorem b.f_Kinds_init_1:FnAt 486 1 ["self"] [] (aH (aJ 46 0)) (aI (aJ 46 0)):=fn0 51
theorem b.f_Kinds_declare_2:FnAt 491 2 ["self","decl"] [] (aH (aJ 46 1)) (aI (aJ 46 1)):=fn0 52
theorem b.f_Kinds_decl_2:FnAt 505 2 ["self","name"] [] (aH (aJ 46 3)) (aI (aJ 46 3)):=fn0 53
theorem b.f_Kinds_super_of_2:FnAt 512 2 ["self","kind"] [] (aH (aJ 46 4)) (aI (aJ 46 4)):=fn0 54
theorem b.f_Kinds_supers_2:FnAt 519 2 ["self","kind"] [] (aH (aJ 46 5)) (aI (aJ 46 5)):=fn0 55
theorem b.f_Kinds_is_concrete_2:FnAt 552 2 ["self","kind"] [] (aH (aJ 46 10)) (aI (aJ 46 10)):=fn0 56
theorem b.f_nominal_3:FnAt 567 3 ["kinds","name","above","is_abstract"] [.bool false] (aH (defAt 47)) (aI (defAt 47)):=fn1 57
theorem b.f_nominal_4:FnAt 567 4 ["kinds","name","above","is_abstract"] [] (aH (defAt 47)) (aI (defAt 47)):=fn1 57
theorem b.f_start_kinds_0:FnAt 574 0 [] [] (aH (defAt 48)) (aI (defAt 48)):=fn0 58
theorem b.f_start_errors_1:FnAt 581 1 ["kinds"] [] (aH (defAt 49)) (aI (defAt 49)):=fn0 59
theorem b.f_start_rows_1:FnAt 588 1 ["kinds"] [] (aH (defAt 50)) (aI (defAt 50)):=fn0 60
theorem b.f_law_cask_1:FnAt 595 1 ["script"] [] (aH (defAt 52)) (aI (defAt 52)):=fn0 61
theorem b.f_law_pour_2:FnAt 602 2 ["cask","top"] [] (aH (defAt 53)) (aI (defAt 53)):=fn0 62
theorem b.f_law_name_1:FnAt 609 1 ["name"] [] (aH (defAt 54)) (aI (defAt 54)):=fn0 63
theorem b.f_law_list_of_1:FnAt 616 1 ["item"] [] (aH (defAt 55)) (aI (defAt 55)):=fn0 64
theorem b.f_law_part_3:FnAt 623 3 ["way","one","other"] [] (aH (defAt 56)) (aI (defAt 56)):=fn0 65
theorem b.f_law_sig_3:FnAt 628 3 ["ways","upper","bound"] [] (aH (defAt 57)) (aI (defAt 57)):=fn0 66
theorem b.f_law_low_2:FnAt 635 2 ["cask","kind"] [] (aH (defAt 58)) (aI (defAt 58)):=fn0 67
theorem b.f_law_made_4:FnAt 642 4 ["cask","ways","one","other"] [] (aH (defAt 59)) (aI (defAt 59)):=fn0 68
theorem b.f_law_told_right_5:FnAt 647 5 ["kinds","brought","binders","body","told"] [] (aH (defAt 60)) (aI (defAt 60)):=fn0 69
theorem b.f_law_none_right_4:FnAt 652 4 ["kinds","brought","binders","body"] [] (aH (defAt 61)) (aI (defAt 61)):=fn0 70
theorem b.f_law_count_2:FnAt 657 2 ["kind","name"] [] (aH (defAt 62)) (aI (defAt 62)):=fn0 71
theorem b.f_law_is_within_2:FnAt 662 2 ["kind","name"] [] (aH (defAt 63)) (aI (defAt 63)):=fn0 72
theorem b.f_law_are_concrete_2:FnAt 669 2 ["body","table"] [] (aH (defAt 64)) (aI (defAt 64)):=fn0 73
theorem b.f_law_fixed_right_1:FnAt 676 1 ["kinds"] [] (aH (defAt 65)) (aI (defAt 65)):=fn0 74
theorem b.f_law:FnAt 681 1 ["script"] [] (aH (defAt 66)) (aI (defAt 66)):=fn0 75
theorem b.k_Side:Cls 136:=clsA 0 rfl (fiA 1 rfl) (fiA 2 rfl) (fiA 3 rfl)
theorem b.i_Side:Ini 136 105:=⟨b.k_Side,fiA 0 rfl,tyA (by decide)⟩
theorem b.k_Sides:Cls 207:=clsA 1 rfl (fiA 12 rfl) (fiA 13 rfl) (fiA 14 rfl)
theorem b.i_Sides:Ini 207 155:=⟨b.k_Sides,fiA 11 rfl,tyA (by decide)⟩
theorem b.k_Search:Cls 345:=clsA 2 rfl (fiA 25 rfl) (fiA 26 rfl) (fiA 27 rfl)
theorem b.i_Search:Ini 345 270:=⟨b.k_Search,fiA 24 rfl,tyA (by decide)⟩
theorem b.k_Decl:Cls 468:=clsA 3 rfl (fiA 42 rfl) (fiA 43 rfl) (fiA 44 rfl)
theorem b.i_Decl:Ini 468 448:=⟨b.k_Decl,fiA 41 rfl,tyA (by decide)⟩
theorem b.k_Kinds:Cls 555:=clsA 4 rfl (fiA 53 rfl) (fiA 54 rfl) (fiA 55 rfl)
theorem b.i_Kinds:Ini 555 486:=⟨b.k_Kinds,fiA 52 rfl,tyA (by decide)⟩
theorem b.m_Side_with_lower:Mth 136 "with_lower" 112:=⟨b.k_Side,fiA 4 rfl,tyA (by decide),(b.f_Side_with_lower_2.kp)⟩
theorem b.m_Side_with_upper:Mth 136 "with_upper" 119:=⟨b.k_Side,fiA 5 rfl,tyA (by decide),(b.f_Side_with_upper_2.kp)⟩
theorem b.n_Side_is_asked:Fld 136 "is_asked":=⟨b.k_Side,fiA 6 rfl⟩
theorem b.n_Side_order:Fld 136 "order":=⟨b.k_Side,fiA 7 rfl⟩
theorem b.n_Side_lowers:Fld 136 "lowers":=⟨b.k_Side,fiA 8 rfl⟩
theorem b.n_Side_uppers:Fld 136 "uppers":=⟨b.k_Side,fiA 9 rfl⟩
theorem b.n_Side_is_diagonal:Fld 136 "is_diagonal":=⟨b.k_Side,fiA 10 rfl⟩
theorem b.m_Sides_copied:Mth 207 "copied" 162:=⟨b.k_Sides,fiA 15 rfl,tyA (by decide),(b.f_Sides_copied_1.kp)⟩
theorem b.m_Sides_opened:Mth 207 "opened" 169:=⟨b.k_Sides,fiA 16 rfl,tyA (by decide),(b.f_Sides_opened_3.kp)⟩
theorem b.m_Sides_side:Mth 207 "side" 176:=⟨b.k_Sides,fiA 17 rfl,tyA (by decide),(b.f_Sides_side_2.kp)⟩
theorem b.m_Sides_is_asked:Mth 207 "is_asked" 183:=⟨b.k_Sides,fiA 18 rfl,tyA (by decide),(b.f_Sides_is_asked_2.kp)⟩
theorem b.m_Sides_add_lower:Mth 207 "add_lower" 190:=⟨b.k_Sides,fiA 19 rfl,tyA (by decide),(b.f_Sides_add_lower_3.kp)⟩
theorem b.m_Sides_add_upper:Mth 207 "add_upper" 197:=⟨b.k_Sides,fiA 20 rfl,tyA (by decide),(b.f_Sides_add_upper_3.kp)⟩
theorem b.m_Sides_later_ones:Mth 207 "later_ones" 204:=⟨b.k_Sides,fiA 21 rfl,tyA (by decide),(b.f_Sides_later_ones_3.kp)⟩
theorem b.n_Sides_rows:Fld 207 "rows":=⟨b.k_Sides,fiA 22 rfl⟩
theorem b.n_Sides_many:Fld 207 "many":=⟨b.k_Sides,fiA 23 rfl⟩
theorem b.m_Search_run:Mth 345 "run" 277:=⟨b.k_Search,fiA 28 rfl,tyA (by decide),(b.f_Search_run_3.kp)⟩
theorem b.m_Search_settled:Mth 345 "settled" 284:=⟨b.k_Search,fiA 29 rfl,tyA (by decide),(b.f_Search_settled_4.kp)⟩
theorem b.m_Search_step:Mth 345 "step" 291:=⟨b.k_Search,fiA 30 rfl,tyA (by decide),(b.f_Search_step_3.kp)⟩
theorem b.m_Search_below:Mth 345 "below" 303:=⟨b.k_Search,fiA 31 rfl,tyA (by decide),(b.f_Search_below_4.kp)⟩
theorem b.m_Search_above:Mth 345 "above" 308:=⟨b.k_Search,fiA 32 rfl,tyA (by decide),(b.f_Search_above_4.kp)⟩
theorem b.m_Search_by_form:Mth 345 "by_form" 313:=⟨b.k_Search,fiA 33 rfl,tyA (by decide),(b.f_Search_by_form_4.kp)⟩
theorem b.m_Search_chosen:Mth 345 "chosen" 318:=⟨b.k_Search,fiA 34 rfl,tyA (by decide),(b.f_Search_chosen_4.kp)⟩
theorem b.m_Search_plain:Mth 345 "plain" 325:=⟨b.k_Search,fiA 35 rfl,tyA (by decide),(b.f_Search_plain_3.kp)⟩
theorem b.m_Search_nominal:Mth 345 "nominal" 330:=⟨b.k_Search,fiA 36 rfl,tyA (by decide),(b.f_Search_nominal_3.kp)⟩
theorem b.m_Search_are_concrete:Mth 345 "are_concrete" 337:=⟨b.k_Search,fiA 37 rfl,tyA (by decide),(b.f_Search_are_concrete_2.kp)⟩
theorem b.m_Search_is_one:Mth 345 "is_one" 342:=⟨b.k_Search,fiA 38 rfl,tyA (by decide),(b.f_Search_is_one_3.kp)⟩
theorem b.n_Search_kinds:Fld 345 "kinds":=⟨b.k_Search,fiA 39 rfl⟩
theorem b.n_Search_fuel:Fld 345 "fuel":=⟨b.k_Search,fiA 40 rfl⟩
theorem b.m_Decl_table_for:Mth 468 "table_for" 453:=⟨b.k_Decl,fiA 45 rfl,tyA (by decide),(b.f_Decl_table_for_2.kp)⟩
theorem b.n_Decl_name:Fld 468 "name":=⟨b.k_Decl,fiA 46 rfl⟩
theorem b.n_Decl_params:Fld 468 "params":=⟨b.k_Decl,fiA 47 rfl⟩
theorem b.n_Decl_super:Fld 468 "super":=⟨b.k_Decl,fiA 48 rfl⟩
theorem b.n_Decl_is_abstract:Fld 468 "is_abstract":=⟨b.k_Decl,fiA 49 rfl⟩
theorem b.n_Decl_is_mutable:Fld 468 "is_mutable":=⟨b.k_Decl,fiA 50 rfl⟩
theorem b.n_Decl_fields:Fld 468 "fields":=⟨b.k_Decl,fiA 51 rfl⟩
theorem b.m_Kinds_declare:Mth 555 "declare" 491:=⟨b.k_Kinds,fiA 56 rfl,tyA (by decide),(b.f_Kinds_declare_2.kp)⟩
theorem b.m_Kinds_decl:Mth 555 "decl" 505:=⟨b.k_Kinds,fiA 57 rfl,tyA (by decide),(b.f_Kinds_decl_2.kp)⟩
theorem b.m_Kinds_super_of:Mth 555 "super_of" 512:=⟨b.k_Kinds,fiA 58 rfl,tyA (by decide),(b.f_Kinds_super_of_2.kp)⟩
theorem b.m_Kinds_supers:Mth 555 "supers" 519:=⟨b.k_Kinds,fiA 59 rfl,tyA (by decide),(b.f_Kinds_supers_2.kp)⟩
theorem b.m_Kinds_is_concrete:Mth 555 "is_concrete" 552:=⟨b.k_Kinds,fiA 60 rfl,tyA (by decide),(b.f_Kinds_is_concrete_2.kp)⟩
theorem b.n_Kinds_decls:Fld 555 "decls":=⟨b.k_Kinds,fiA 61 rfl⟩
inductive N where
 |nAny
 |nType
 |nFunction
 |nNumber
 |nAbstractChar
 |nAbstractString
 |nException
 |nReal
 |nInteger
 |nSigned
 |nUnsigned
 |nInt8
 |nInt16
 |nInt32
 |nInt64
 |nBigInt
 |nUInt8
 |nUInt16
 |nUInt32
 |nUInt64
 |nBool
 |nChar
 |nString
 |nSymbol
 |nNothing
 |nExpr
 |nDivideError
 |nInexactError
 |nTypeError
 |nStackOverflowError
 |nArgumentError
 |nOverflowError
 |nDimensionMismatch
 |nErrorException
 |nMethodError
 |nAmbiguousError
 |nUndefVarError
 |nBoundsError
 |nAbstractArray
 |nArray
 |nSubArray
 |nAbstractRange
 |nUnitRange
 |nStepRange
 |nRef
 |nRational
 deriving DecidableEq
noncomputable def N.s:N→Str
 | .nAny=>"Any"
 | .nType=>"Type"
 | .nFunction=>"Function"
 | .nNumber=>"Number"
 | .nAbstractChar=>"AbstractChar"
 | .nAbstractString=>"AbstractString"
 | .nException=>"Exception"
 | .nReal=>"Real"
 | .nInteger=>"Integer"
 | .nSigned=>"Signed"
 | .nUnsigned=>"Unsigned"
 | .nInt8=>"Int8"
 | .nInt16=>"Int16"
 | .nInt32=>"Int32"
 | .nInt64=>"Int64"
 | .nBigInt=>"BigInt"
 | .nUInt8=>"UInt8"
 | .nUInt16=>"UInt16"
 | .nUInt32=>"UInt32"
 | .nUInt64=>"UInt64"
 | .nBool=>"Bool"
 | .nChar=>"Char"
 | .nString=>"String"
 | .nSymbol=>"Symbol"
 | .nNothing=>"Nothing"
 | .nExpr=>"Expr"
 | .nDivideError=>"DivideError"
 | .nInexactError=>"InexactError"
 | .nTypeError=>"TypeError"
 | .nStackOverflowError=>"StackOverflowError"
 | .nArgumentError=>"ArgumentError"
 | .nOverflowError=>"OverflowError"
 | .nDimensionMismatch=>"DimensionMismatch"
 | .nErrorException=>"ErrorException"
 | .nMethodError=>"MethodError"
 | .nAmbiguousError=>"AmbiguousError"
 | .nUndefVarError=>"UndefVarError"
 | .nBoundsError=>"BoundsError"
 | .nAbstractArray=>"AbstractArray"
 | .nArray=>"Array"
 | .nSubArray=>"SubArray"
 | .nAbstractRange=>"AbstractRange"
 | .nUnitRange=>"UnitRange"
 | .nStepRange=>"StepRange"
 | .nRef=>"Ref"
 | .nRational=>"Rational"
inductive X where
 |T0
 |N0
 |T1
 |S2
 |T1a
 |S2a
 |S2b
 deriving DecidableEq
noncomputable def X.s:X→Str
 | .T0=>"T.0"
 | .N0=>"N.0"
 | .T1=>"T.1"
 | .S2=>"S.2"
 | .T1a=>"T.1!1"
 | .S2a=>"S.2!1"
 | .S2b=>"S.2!2"
noncomputable def N.all:List N:=[.nAny,.nType,.nFunction,.nNumber,.nAbstractChar,.nAbstractString,.nException,.nReal,.nInteger,.nSigned,.nUnsigned,.nInt8,.nInt16,.nInt32,.nInt64,.nBigInt,.nUInt8,.nUInt16,.nUInt32,.nUInt64,.nBool,.nChar,.nString,.nSymbol,.nNothing,.nExpr,.nDivideError,.nInexactError,.nTypeError,.nStackOverflowError,.nArgumentError,.nOverflowError,.nDimensionMismatch,.nErrorException,.nMethodError,.nAmbiguousError,.nUndefVarError,.nBoundsError,.nAbstractArray,.nArray,.nSubArray,.nAbstractRange,.nUnitRange,.nStepRange,.nRef,.nRational]
noncomputable def X.all:List X:=[.T0,.N0,.T1,.S2,.T1a,.S2a,.S2b]
theorem N.mem (n:N):n∈N.all:=List.mem_of_elem_eq_true (by induction n using N.casesOn<;>rfl)
theorem X.mem (x:X):x∈X.all:=by induction x using X.casesOn<;>decide
theorem N.ok (n:N):PyData.strOk n.s=true:=lA (show(N.all.all fun n=>PyData.strOk n.s)=true by decide +kernel) n n.mem
theorem X.ok (x:X):PyData.strOk x.s=true:=lA (show(X.all.all fun n=>PyData.strOk n.s)=true by decide +kernel) x x.mem
theorem N.inj_all:(N.all.all fun a=>N.all.all fun b=>decide (a.s=b.s→a=b))=true:=by decide +kernel
theorem X.inj_all:(X.all.all fun a=>X.all.all fun b=>decide (a.s=b.s→a=b))=true:=by decide +kernel
theorem N.inj {a b:N}(e:a.s=b.s):a=b:=oD (lA (lA N.inj_all a a.mem) b b.mem) e
theorem X.inj {a b:X}(e:a.s=b.s):a=b:=oD (lA (lA X.inj_all a a.mem) b b.mem) e
inductive K where
 |name (n:N) (ps:List K)
 |tup (ks:List K)
 |union (ks:List K)
 |all (x:X) (lo up body:K)
 |typ (k:K)
 |var (x:X)
 |bot
 |num (i:Int)
mutual
noncomputable def K.v:K→V
 | .name n ps=> .tup [.str "name",.str n.s,.tup (K.vs ps)]
 | .tup ks=> .tup [.str "tuple",.tup (K.vs ks),.none]
 | .union ks=> .tup [.str "union",.tup (K.vs ks)]
 | .all x lo up body=> .tup [.str "all",.str x.s,lo.v,up.v,body.v]
 | .typ k=> .tup [.str "typeof",k.v]
 | .var x=> .tup [.str "var",.str x.s]
 | .bot=> .tup [.str "bottom"]
 | .num i=> .tup [.str "n",.int i]
noncomputable def K.vs:List K→List V
 | []=> []
 |k::l=>k.v::K.vs l
end
mutual
noncomputable def K.dp:K→Nat
 | .name _ ps=>K.dps ps+1
 | .tup ks=>K.dps ks+1
 | .union ks=>K.dps ks+1
 | .all _ lo up b=>max lo.dp (max up.dp b.dp)+1
 | .typ k=>k.dp+1
 | .var _=>1
 | .bot=>1
 | .num _=>1
noncomputable def K.dps:List K→Nat
 | []=>0
 |k::l=>max k.dp (K.dps l)
end
theorem ok_name:PyData.strOk (Str.ofString "name")=true:=by decide +kernel
theorem ok_tuple:PyData.strOk (Str.ofString "tuple")=true:=by decide +kernel
theorem ok_union:PyData.strOk (Str.ofString "union")=true:=by decide +kernel
theorem ok_all:PyData.strOk (Str.ofString "all")=true:=by decide +kernel
theorem ok_typeof:PyData.strOk (Str.ofString "typeof")=true:=by decide +kernel
theorem ok_var:PyData.strOk (Str.ofString "var")=true:=by decide +kernel
theorem ok_bottom:PyData.strOk (Str.ofString "bottom")=true:=by decide +kernel
theorem ok_n:PyData.strOk (Str.ofString "n")=true:=by decide +kernel
mutual
theorem K.gr:∀k:K,k.v.gr=true
 | .name n ps=>ban ok_name (ban n.ok (ban (K.grs ps) rfl))
 | .tup ks=>ban ok_tuple (ban (K.grs ks) rfl)
 | .union ks=>ban ok_union (ban (K.grs ks) rfl)
 | .all x lo up b=>ban ok_all (ban x.ok (ban lo.gr (ban up.gr (ban b.gr rfl))))
 | .typ k=>ban ok_typeof (ban k.gr rfl)
 | .var x=>ban ok_var (ban x.ok rfl)
 | .bot=>ban ok_bottom rfl
 | .num _=>ban ok_n rfl
theorem K.grs:∀l:List K,V.grs (K.vs l)=true
 | []=>rfl
 |k::l=>ban k.gr (K.grs l)
end
theorem mx {a b c:Nat}(h:a≤c)(k:b≤c):max a b≤c:=Nat.max_le.mpr ⟨h,k⟩
theorem mz {b c:Nat}(k:b≤c):max 0 b≤c:=mx (Nat.zero_le _) k
theorem dm {a b m:Nat}(h:a≤2 * b)(k:b≤m):a≤2 * m+1:=nT h (Nat.le_succ_of_le (Nat.mul_le_mul_left 2 k))
mutual
theorem K.dep:∀k:K,k.v.dep≤2 * k.dp
 | .name n ps=>Nat.succ_le_succ (m:=2 * K.dps ps+1) (mz (mz (mx (Nat.succ_le_succ (K.deps ps)) (Nat.zero_le _))))
 | .tup ks=>Nat.succ_le_succ (m:=2 * K.dps ks+1) (mz (mx (Nat.succ_le_succ (K.deps ks)) (mz (Nat.zero_le _))))
 | .union ks=>Nat.succ_le_succ (m:=2 * K.dps ks+1) (mz (mx (Nat.succ_le_succ (K.deps ks)) (Nat.zero_le _)))
 | .all x lo up b=>Nat.succ_le_succ (m:=2 * max lo.dp (max up.dp b.dp)+1) (mz (mz (mx (dm lo.dep (Nat.le_max_left _ _)) (mx (dm up.dep (nT (Nat.le_max_left _ _) (Nat.le_max_right _ _))) (mx (dm b.dep (nT (Nat.le_max_right _ _) (Nat.le_max_right _ _))) (Nat.zero_le _))))))
 | .typ k=>Nat.succ_le_succ (m:=2 * k.dp+1) (mz (mx (dm k.dep (Nat.le_refl _)) (Nat.zero_le _)))
 | .var x=>(by decide:1≤2)
 | .bot=>(by decide:1≤2)
 | .num i=>(by decide:1≤2)
theorem K.deps:∀l:List K,V.deps (K.vs l)≤2 * K.dps l
 | []=>Nat.le_refl _
 |k::l=>mx (nT k.dep (Nat.mul_le_mul_left 2 (Nat.le_max_left _ _))) (nT (K.deps l) (Nat.mul_le_mul_left 2 (Nat.le_max_right _ _)))
end
theorem aO:∀l:List K,(K.vs l).length=l.length
 | []=>rfl
 |_::l=>congrArg (·+1) (aO l)
theorem K.vs_map:∀l:List K,K.vs l=l.map K.v
 | []=>rfl
 |k::l=>congrArg (k.v:: ·) (K.vs_map l)
noncomputable def K.word:K→Str
 | .name .. =>"name"
 | .tup .. =>"tuple"
 | .union .. =>"union"
 | .all .. =>"all"
 | .typ .. =>"typeof"
 | .var .. =>"var"
 | .bot=>"bottom"
 | .num .. =>"n"
theorem K.v_word:∀k:K,∃r,k.v= .tup (.str k.word::r)
 | .name .. =>⟨_,rfl⟩
 | .tup .. =>⟨_,rfl⟩
 | .union .. =>⟨_,rfl⟩
 | .all .. =>⟨_,rfl⟩
 | .typ .. =>⟨_,rfl⟩
 | .var .. =>⟨_,rfl⟩
 | .bot=>⟨_,rfl⟩
 | .num .. =>⟨_,rfl⟩
noncomputable def wordIx (s:Str):Nat:=if s="name" then 0 else if s="tuple" then 1 else if s="union" then 2 else if s="all" then 3 else if s="typeof" then 4 else if s="var" then 5 else if s="bottom" then 6 else 7
noncomputable def kMk (i:Nat) (n:N) (x:X) (z:Int) (l:List K):K:=
 if i=0 then .name n l else if i=1 then .tup l else if i=2 then .union l else if i=3 then .all x (l.headD .bot) (l.tail.headD .bot) (l.tail.tail.headD .bot) else if i=4 then .typ (l.headD .bot) else if i=5 then .var x else if i=6 then .bot else .num z
noncomputable def nOf (s:Str):N:=(N.all.find? fun n=>n.s=s).getD .nAny
noncomputable def xOf (s:Str):X:=(X.all.find? fun n=>n.s=s).getD .T0
theorem nOf_s (n:N):nOf n.s=n:=oD (lA (show(N.all.all fun n=>decide (nOf n.s=n))=true by decide +kernel) n n.mem)
theorem xOf_s (n:X):xOf n.s=n:=oD (lA (show(X.all.all fun n=>decide (xOf n.s=n))=true by decide +kernel) n n.mem)
noncomputable def V.s:V→Str
 | .str s=>s
 |_=>""
noncomputable def V.i:V→Int
 | .int i=>i
 |_=>0
noncomputable abbrev KL:=K×List K
noncomputable def kArgs (i:Nat) (u:List KL):List K:=if i=0 then(u.tail.tail.headD (.bot,[])).2 else if i≤2 then(u.tail.headD (.bot,[])).2 else if i=3 then u.tail.tail.map (·.1) else u.tail.map (·.1)
noncomputable def kTup (l:List V) (u:List KL):K:=let w:=(l.headD .none).s;let p:=l.tail.headD .none;kMk (wordIx w) (nOf p.s) (xOf p.s) p.i (kArgs (wordIx w) u)
mutual
noncomputable def V.un:V→KL
 | .tup l=>(kTup l (V.uns l),(V.uns l).map (·.1))
 |_=>(.bot,[])
noncomputable def V.uns:List V→List KL
 | []=> []
 |v::l=>v.un::V.uns l
end
theorem w0:wordIx "name"=0:=by decide +kernel
theorem w1:wordIx "tuple"=1:=by decide +kernel
theorem w2:wordIx "union"=2:=by decide +kernel
theorem w3:wordIx "all"=3:=by decide +kernel
theorem w4:wordIx "typeof"=4:=by decide +kernel
theorem w5:wordIx "var"=5:=by decide +kernel
theorem w6:wordIx "bottom"=6:=by decide +kernel
theorem w7:wordIx "n"=7:=by decide +kernel
theorem kTup_is {w:Str}{r:List V}{i:Nat}(u:List KL)(h:wordIx w=i):kTup (.str w::r) u=kMk i (nOf (r.headD .none).s) (xOf (r.headD .none).s) (r.headD .none).i (kArgs i u):=by
 subst h;rfl
mutual
theorem K.un:∀k:K,k.v.un.1=k
 | .name n ps=>(kTup_is _ w0).trans (congr (congrArg K.name (nOf_s n)) (K.uns ps))
 | .tup ks=>(kTup_is _ w1).trans (congrArg K.tup (K.uns ks))
 | .union ks=>(kTup_is _ w2).trans (congrArg K.union (K.uns ks))
 | .all x lo up b=>(kTup_is _ w3).trans (congr (congr (congr (congrArg K.all (xOf_s x)) lo.un) up.un) b.un)
 | .typ k=>(kTup_is _ w4).trans (congrArg K.typ k.un)
 | .var x=>(kTup_is (V.uns (V.str "var":: [.str x.s])) w5).trans (congrArg K.var (xOf_s x))
 | .bot=>kTup_is (r:=[]) (V.uns [.str "bottom"]) w6
 | .num i=>kTup_is (V.uns [.str "n",.int i]) w7
theorem K.uns:∀l:List K,(V.uns (K.vs l)).map (·.1)=l
 | []=>rfl
 |k::l=>congr (congrArg List.cons k.un) (K.uns l)
end
theorem K.v_inj {a b:K}(e:a.v=b.v):a=b:=by rw[←a.un,e,b.un]
theorem K.v_iff {a b:K}:a.v=b.v↔a=b:=⟨K.v_inj,fun e=>by rw[e]⟩
inductive Tr where
 |lf (n:Nat)
 |nd (a b:Tr)
 deriving DecidableEq
def zenc:Int→Nat
 | .ofNat n=>2 * n
 | .negSucc n=>2 * n+1
noncomputable def zdec (n:Nat):Int:=if n % 2=0 then .ofNat (n / 2) else .negSucc (n / 2)
theorem zdec_enc (i:Int):zdec (zenc i)=i:=by
 induction i using Int.casesOn with
 |ofNat n=>unfold zdec zenc;rw[if_pos (Nat.mul_mod_right 2 n),Nat.mul_div_cancel_left _ (by decide)]
 |negSucc n=>unfold zdec zenc;rw[if_neg (by rw[Nat.mul_add_mod];decide),Nat.mul_add_div (by decide)];rfl
mutual
def K.t:K→Tr
 | .name n ps=> .nd (.lf 0) (.nd (.lf n.ctorIdx) (K.ts ps))
 | .tup ks=> .nd (.lf 1) (.nd (.lf 0) (K.ts ks))
 | .union ks=> .nd (.lf 2) (.nd (.lf 0) (K.ts ks))
 | .all x lo up b=> .nd (.lf 3) (.nd (.lf x.ctorIdx) (.nd lo.t (.nd up.t (.nd b.t (.lf 0)))))
 | .typ k=> .nd (.lf 4) (.nd (.lf 0) (.nd k.t (.lf 0)))
 | .var x=> .nd (.lf 5) (.nd (.lf x.ctorIdx) (.lf 0))
 | .bot=> .lf 0
 | .num i=> .nd (.lf 7) (.nd (.lf (zenc i)) (.lf 0))
def K.ts:List K→Tr
 | []=> .lf 0
 |k::l=> .nd k.t (K.ts l)
end
noncomputable def Tr.num:Tr→Nat
 | .lf n=>n
 | .nd a _=>a.num
noncomputable def Tr.un:Tr→KL
 | .lf _=>(.bot,[])
 | .nd a b=>(kMk a.num (N.ofNat b.num) (X.ofNat b.num) (zdec b.num) b.un.2.tail,a.un.1::b.un.2)
theorem n_of (n:N):N.ofNat n.ctorIdx=n:=oD (lA (show(N.all.all fun n=>decide (N.ofNat n.ctorIdx=n))=true by decide +kernel) n n.mem)
theorem x_of (n:X):X.ofNat n.ctorIdx=n:=oD (lA (show(X.all.all fun n=>decide (X.ofNat n.ctorIdx=n))=true by decide +kernel) n n.mem)
mutual
theorem K.unt:∀k:K,k.t.un.1=k
 | .name n ps=>congr (congrArg K.name (n_of n)) (K.unts ps)
 | .tup ks=>congrArg K.tup (K.unts ks)
 | .union ks=>congrArg K.union (K.unts ks)
 | .all x lo up b=>congr (congr (congr (congrArg K.all (x_of x)) lo.unt) up.unt) b.unt
 | .typ k=>congrArg K.typ k.unt
 | .var x=>congrArg K.var (x_of x)
 | .bot=>rfl
 | .num i=>congrArg K.num (zdec_enc i)
theorem K.unts:∀l:List K,(K.ts l).un.2=l
 | []=>rfl
 |k::l=>congr (congrArg List.cons k.unt) (K.unts l)
end
theorem K.t_inj {a b:K}(e:a.t=b.t):a=b:=by rw[←a.unt,e,b.unt]
instance:DecidableEq K:=fun a b=>if h:a.t=b.t then .isTrue (K.t_inj h) else .isFalse fun e=>h (congrArg K.t e)
theorem ifT {c:Prop}[Decidable c] {a b:Prop}(hc:c)(h:a):if c then a else b:=by rw[if_pos hc];exact h
theorem ifF {c:Prop}[Decidable c] {a b:Prop}(hc:¬c)(h:b):if c then a else b:=by rw[if_neg hc];exact h
section
variable {d:Nat}{sc:Nms}{ρ:Loc}{σ:Sto}
theorem thenS_next {rest:List Stmt}{Q:Fl→Loc→Sto→Prop}(h:TS d sc rest ρ σ Q):thenS d sc rest Q .next ρ σ:=h
theorem thenS_ret {rest:List Stmt}{v:V}{Q:Fl→Loc→Sto→Prop}(h:Q (.ret v) ρ σ):thenS d sc rest Q (.ret v) ρ σ:=h
theorem backOf_ret {v:V}{Q:V→Sto→Prop}(h:Q v σ):backOf Q (.ret v) ρ σ:=h
theorem backOf_next {Q:V→Sto→Prop}(h:Q .none σ):backOf Q .next ρ σ:=h
theorem eq_okS {a b:Str}{r:Bool}(h:(a==b&&PyData.strOk a&&PyData.strOk b)=true):a=b∧(V.str a).gr=true∧(V.str b).gr=true:=by
 simp only[Bool.and_eq_true,beq_iff_eq] at h;exact⟨h.1.1,h.1.2,h.2⟩
theorem ne_okS {a b:Str}{r:Bool}(h:(a !=b&&PyData.strOk a&&PyData.strOk b)=true):a≠b∧(V.str a).gr=true∧(V.str b).gr=true:=by
 simp only[Bool.and_eq_true,bne_iff_ne] at h;exact⟨h.1.1,h.1.2,h.2⟩
theorem T2_eqS {a b:Str}{Q:V→Sto→Prop}(h:(a==b&&PyData.strOk a&&PyData.strOk b)=true)(q:Q (.bool true) σ):T2 d (compareOp .Eq) (.str a) (.str b) σ Q:=by
 refine an3 (eq_okS (r:=true) h) fun e h1 h2=> ?_;exact T2_eq (r:=true) (by simp[e]) h1 h2 (l_min (Nat.zero_le _)) q
theorem T2_neS {a b:Str}{Q:V→Sto→Prop}(h:(a==b&&PyData.strOk a&&PyData.strOk b)=true)(q:Q (.bool false) σ):T2 d (compareOp .NotEq) (.str a) (.str b) σ Q:=by
 refine an3 (eq_okS (r:=true) h) fun e h1 h2=> ?_;exact T2_ne (r:=true) (by simp[e]) h1 h2 (l_min (Nat.zero_le _)) q
theorem T2_eqSf {a b:Str}{Q:V→Sto→Prop}(h:(a !=b&&PyData.strOk a&&PyData.strOk b)=true)(q:Q (.bool false) σ):T2 d (compareOp .Eq) (.str a) (.str b) σ Q:=by
 refine an3 (ne_okS (r:=true) h) fun e h1 h2=> ?_;exact T2_eq (r:=false) (by simp[e]) h1 h2 (l_min (Nat.zero_le _)) q
theorem T2_neSf {a b:Str}{Q:V→Sto→Prop}(h:(a !=b&&PyData.strOk a&&PyData.strOk b)=true)(q:Q (.bool true) σ):T2 d (compareOp .NotEq) (.str a) (.str b) σ Q:=by
 refine an3 (ne_okS (r:=true) h) fun e h1 h2=> ?_;exact T2_ne (r:=false) (by simp[e]) h1 h2 (l_min (Nat.zero_le _)) q
theorem T2_eqK {a b:K}{Q:V→Sto→Prop}(hd:min a.dp b.dp≤200)(q:Q (.bool (decide (a=b))) σ):T2 d (compareOp .Eq) a.v b.v σ Q:=
 T2_eq (r:=decide (a=b)) (by rw[decide_eq_true_iff,K.v_iff]) a.gr b.gr (by have:=a.dep;have:=b.dep;lia) q
theorem T2_neK {a b:K}{Q:V→Sto→Prop}(hd:min a.dp b.dp≤200)(q:Q (.bool (decide (a≠b))) σ):T2 d (compareOp .NotEq) a.v b.v σ Q:=by
 refine T2_ne (r:=decide (a=b)) (by rw[decide_eq_true_iff,K.v_iff]) a.gr b.gr (by have:=a.dep;have:=b.dep;lia) ?_
 by_cases e:a=b
 ·subst e;simpa using q
 ·simpa[e] using q
theorem TAs_cons {t:Expr}{ts:List Expr}{x:V}{xs:List V}{Q:Loc→Sto→Prop}(h:TA d sc t x ρ σ fun ρ' σ'=>TAs d sc ts xs ρ' σ' Q):TAs d sc (t::ts) (x::xs) ρ σ Q:=h
theorem TAs_nil {Q:Loc→Sto→Prop}(h:Q ρ σ):TAs d sc [] [] ρ σ Q:=h
theorem TEo_none {Q:Option Int→Sto→Prop}(h:Q none σ):TEo d sc none ρ σ Q:=h
theorem TEo_some {e:Expr}{Q:Option Int→Sto→Prop}(h:TE d sc e ρ σ fun v σ'=>∃i,v= .int i∧Q (some i) σ'):TEo d sc (some e) ρ σ Q:=h
end
noncomputable abbrev PV:=V→Sto→Prop
noncomputable abbrev PB:=Bool→Sto→Prop
noncomputable abbrev PL:=List V→Sto→Prop
noncomputable abbrev PF:=Fl→Loc→Sto→Prop
structure Ev where
 e:Expr→Loc→Sto→PV→Prop
 b:Expr→Loc→Sto→PB→Prop
section
variable (d:Nat)
noncomputable def LN (ρ:Loc) (x:Str) (σ:Sto) (Q:PV):Prop:=∃v,ρ x=some v∧Q v σ
inductive Ml (name:Str)(ov:V)(g:Loc→Sto→PL→Prop)(k:V→List V→PL)(ρ:Loc)(σ:Sto):Prop where
 |mk (f:V) (first:List V) (gm:GM name ov σ f first) (kp:Kp f) (h:g ρ σ (k f first))
noncomputable def FreshL (l:List V) (σ:Sto) (Q:PV):Prop:=∀a,σ a=none→Q (.ref a) (σ.put a (.list l))
noncomputable def kB2 (op:Operator) (a:V) (Q:PV):PV:=fun b σ=>Lf (T2 d (binaryOp op) a b σ Q)
noncomputable def kB1 (p:Ev) (op:Operator) (r:Expr) (ρ:Loc) (Q:PV):PV:=fun a σ=>p.e r ρ σ (kB2 d op a Q)
noncomputable def kC2 (op:CmpOp) (a:V) (Q:PV):PV:=fun b σ=>Lf (T2 d (compareOp op) a b σ Q)
noncomputable def kC1 (p:Ev) (op:CmpOp) (r:Expr) (ρ:Loc) (Q:PV):PV:=fun a σ=>p.e r ρ σ (kC2 d op a Q)
noncomputable def kU (op:UnaryOp) (Q:PV):PV:=fun a σ=>Lf (T1 d (unaryOp op) a σ Q)
noncomputable def kA (name:Str) (Q:PV):PV:=fun a σ=>Lf (T1 d (fun v=>getAttr v name true) a σ Q)
noncomputable def kS2 (ov:V) (Q:PV):PV:=fun iv σ=>Lf (TI d ov iv σ Q)
noncomputable def kS1 (p:Ev) (i:Expr) (ρ:Loc) (Q:PV):PV:=fun ov σ=>p.e i ρ σ (kS2 d ov Q)
noncomputable def kpOf:V→Bool
 | .bi _=>true
 | .ty _=>true
 | .ref a=>(fnTab.any fun t=>Nat.beq t.1 a)||clTab.any (Nat.beq a)
 |_=>false
noncomputable def kCl (f:V) (Q:PV):PL:=fun l σ=>cond (kpOf f) (Lf (CallV d f l σ Q)) False
noncomputable def kTT (Q:PB):PV:=fun a σ=>Lf (TT d a σ Q)
noncomputable def kTb (Q:PB):PV:=fun a σ=>match a with
 | .bool b=>Q b σ
 |a=>Lf (TT d a σ Q)
noncomputable def kMl (Q:PV) (f:V) (first:List V):PL:=fun l σ=>Lf (CallV d f (first++l) σ Q)
noncomputable def kM (g:Loc→Sto→PL→Prop) (name:Str) (ρ:Loc) (Q:PV):PV:=fun ov σ=>Lf (Ml name ov g (kMl d Q) ρ σ)
end
noncomputable def kV (v:V) (Q:PL):PL:=fun l σ=>Q (v::l) σ
noncomputable def kL1 (g:Loc→Sto→PL→Prop) (ρ:Loc) (Q:PL):PV:=fun v σ=>g ρ σ (kV v Q)
noncomputable def evs (p:Ev):List Expr→Loc→Sto→PL→Prop
 | [],_,σ,Q=>Q [] σ
 |e::es,ρ,σ,Q=>p.e e ρ σ (kL1 (evs p es) ρ Q)
noncomputable def kT (Q:PV):PL:=fun l σ=>Q (.tup l) σ
noncomputable def kLs (Q:PV):PL:=fun l σ=>Lf (FreshL l σ Q)
noncomputable def kFn (d:Nat) (g:Loc→Sto→PL→Prop) (ρ:Loc) (Q:PV):PV:=fun f σ=>g ρ σ (kCl d f Q)
noncomputable def kN (Q:PB):PB:=fun b σ=>Q (!b) σ
noncomputable def kIf {α:Type} (g1 g2:Loc→Sto→α→Prop) (ρ:Loc) (Q:α):PB:=fun b σ=>if b=true then g1 ρ σ Q else g2 ρ σ Q
noncomputable def kAnd (g:Loc→Sto→PB→Prop) (ρ:Loc) (Q:PB):PB:=fun b σ=>if b=true then g ρ σ Q else Q false σ
noncomputable def kOr (g:Loc→Sto→PB→Prop) (ρ:Loc) (Q:PB):PB:=fun b σ=>if b=true then Q true σ else g ρ σ Q
noncomputable def bsAnd (p:Ev):List Expr→Loc→Sto→PB→Prop
 | [],_,σ,Q=>Q true σ
 |e::es,ρ,σ,Q=>p.b e ρ σ (kAnd (bsAnd p es) ρ Q)
noncomputable def bsOr (p:Ev):List Expr→Loc→Sto→PB→Prop
 | [],_,σ,Q=>Q false σ
 |e::es,ρ,σ,Q=>p.b e ρ σ (kOr (bsOr p es) ρ Q)
noncomputable def isStar:Expr→Bool
 | .Starred _ _=>true
 |_=>false
noncomputable def isComp:Expr→Bool
 | .ListComp .. =>true
 | .SetComp .. =>true
 | .DictComp .. =>true
 |_=>false
noncomputable def isName:Expr→Bool
 | .Name _ _=>true
 |_=>false
noncomputable def isCall:Expr→Bool
 | .Call .. =>true
 |_=>false
noncomputable def isIdx:Expr→Bool
 | .Name _ _=>true
 | .Constant _ _ _=>true
 | .Call _ _ _ _=>true
 | .BinOp _ _ _ _=>true
 | .UnaryOp _ _ _=>true
 | .Attribute _ _ _=>true
 | .Subscript _ _ _=>true
 |_=>false
noncomputable def isBase:Expr→Bool
 | .Call f a _ _=> !isName f|| !a.isEmpty
 |_=>true
noncomputable def isVal:Expr→Bool
 | .Name _ _=>true
 | .Constant _ _ _=>true
 | .Call _ _ _ _=>true
 | .Attribute _ _ _=>true
 | .Subscript _ _ _=>true
 |_=>false
section
variable (d:Nat)(cn:Bool)(sc:Nms)
noncomputable def oV (o:Option V) (f:V→Prop) (n:Prop):Prop:=match o with
 |some v=>f v
 |none=>n
noncomputable def gLoc (x:Str) (p:Pos) (ρ:Loc) (σ:Sto) (Q:PV):Prop:=cond cn (Lf (LN ρ x σ Q)) (oV (ρ x) (fun v=>Q v σ) (Lf (TE d sc (.Name x p) ρ σ Q)))
noncomputable def gName (x:Str) (p:Pos) (ρ:Loc) (σ:Sto) (Q:PV):Prop:=
 cond ((x==("__debug__":Str))||(x==("__classdict__":Str))) (Lf (TE d sc (.Name x p) ρ σ Q)) (match sc.lookup x with
  |some .globalImplicit=>oV (glb x) (fun v=>Q v σ) False
  |some .local=>gLoc d cn sc x p ρ σ Q
  |some .cell=>gLoc d cn sc x p ρ σ Q
  |some .free=>gLoc d cn sc x p ρ σ Q
  |_=>Lf (TE d sc (.Name x p) ρ σ Q))
noncomputable def gConst (c:Const) (k:Nat) (p:Pos) (ρ:Loc) (σ:Sto) (Q:PV):Prop:=match c with
 | .int i=>Q (.int i) σ
 | .str x=>Q (.str x) σ
 | .none=>Q .none σ
 | .bool b=>Q (.bool b) σ
 |c=>Lf (TE d sc (.Constant c k p) ρ σ Q)
noncomputable def gCall (p:Ev) (func:Expr) (args:List Expr) (kw:List Keyword) (ps:Pos) (ρ:Loc) (σ:Sto) (Q:PV):Prop:=
 cond (kw.isEmpty&&args.all (fun e=> !isStar e)&&decide (args.length<30)) (match func with
  | .Name x xp=>p.e (.Name x xp) ρ σ (kFn d (evs p args) ρ Q)
  | .Attribute o name ap=>cond (isBase o&&(ap.endLine==ps.line)) (p.e o ρ σ (kM d (evs p args) name ρ Q)) (Lf (TE d sc (.Call (.Attribute o name ap) args kw ps) ρ σ Q))
  |func=>Lf (TE d sc (.Call func args kw ps) ρ σ Q)) (Lf (TE d sc (.Call func args kw ps) ρ σ Q))
noncomputable def gE (p:Ev) (e:Expr) (ρ:Loc) (σ:Sto) (Q:PV):Prop:=match e with
 | .Name x ps=>gName d cn sc x ps ρ σ Q
 | .Constant c k ps=>gConst d sc c k ps ρ σ Q
 | .Call f a k ps=>gCall d sc p f a k ps ρ σ Q
 | .Attribute o name ps=>cond (isBase o) (p.e o ρ σ (kA d name Q)) (Lf (TE d sc (.Attribute o name ps) ρ σ Q))
 | .Subscript o i ps=>cond (isIdx i) (p.e o ρ σ (kS1 d p i ρ Q)) (Lf (TE d sc (.Subscript o i ps) ρ σ Q))
 | .Tuple es k ps=>cond (es.all (fun e=> !isStar e)&&decide (es.length≤1000)) (evs p es ρ σ (kT Q)) (Lf (TE d sc (.Tuple es k ps) ρ σ Q))
 | .List es ps=>cond (es.all (fun e=> !isStar e)&&decide (es.length≤1000)) (evs p es ρ σ (kLs Q)) (Lf (TE d sc (.List es ps) ρ σ Q))
 | .BinOp l op r _=>p.e l ρ σ (kB1 d p op r ρ Q)
 | .Compare l ops rs ps=>match ops,rs with
  | [op],[r]=>cond (behindInMarks op r) (Lf (TE d sc (.Compare l [op] [r] ps) ρ σ Q)) (p.e l ρ σ (kC1 d p op r ρ Q))
  |ops,rs=>Lf (TE d sc (.Compare l ops rs ps) ρ σ Q)
 | .UnaryOp op e _=>p.e e ρ σ (kU d op Q)
 | .IfExp t a b _=>p.b t ρ σ (kIf (p.e a) (p.e b) ρ Q)
 |e=>Lf (TE d sc e ρ σ Q)
noncomputable def gB (p:Ev) (e:Expr) (ρ:Loc) (σ:Sto) (Q:PB):Prop:=match e with
 | .Compare l ops rs ps=>match ops,rs with
  | [op],[r]=>cond (behindInMarks op r) (Lf (TB d sc (.Compare l [op] [r] ps) ρ σ Q)) (p.e l ρ σ (kC1 d p op r ρ (kTb d Q)))
  |ops,rs=>Lf (TB d sc (.Compare l ops rs ps) ρ σ Q)
 | .UnaryOp op e ps=>match op with
  | .Not=>p.b e ρ σ (kN Q)
  |op=>Lf (TB d sc (.UnaryOp op e ps) ρ σ Q)
 | .BoolOp op es _=>match op with
  | .And=>bsAnd p es ρ σ Q
  | .Or=>bsOr p es ρ σ Q
 |e=>cond (isVal e) (p.e e ρ σ (kTT d Q)) (Lf (TB d sc e ρ σ Q))
noncomputable def ev:Nat→Ev
 |0=>⟨fun e ρ σ Q=>Lf (TE d sc e ρ σ Q),fun e ρ σ Q=>Lf (TB d sc e ρ σ Q)⟩
 |n+1=>⟨gE d cn sc (ev n),gB d sc (ev n)⟩
noncomputable def kRt (ρ:Loc) (Q:PF):PV:=fun v σ=>Q (.ret v) ρ σ
@[reducible] def kEx (ρ:Loc) (Q:PF):PV:=fun v σ=>v= .none∧Q .next ρ σ
noncomputable def kNx (Q:PF):Loc→Sto→Prop:=fun ρ σ=>Q .next ρ σ
noncomputable def kAs (t:Expr) (ρ:Loc) (Q:PF):PV:=fun v σ=>Lf (TA d sc t v ρ σ (kNx Q))
noncomputable def kSA2 (name:Str) (v:V) (ρ:Loc) (Q:PF):PV:=fun ov σ=>Lf (T2u d (fun a b=>setAttr a name b) ov v σ (Q .next ρ))
noncomputable def kSA1 (p:Ev) (o:Expr) (name:Str) (ρ:Loc) (Q:PF):PV:=fun v σ=>p.e o ρ σ (kSA2 d name v ρ Q)
noncomputable def kSI3 (v ov:V) (ρ:Loc) (Q:PF):PV:=fun iv σ=>Lf (T3u d setItem ov iv v σ (Q .next ρ))
noncomputable def kSI2 (p:Ev) (i:Expr) (v:V) (ρ:Loc) (Q:PF):PV:=fun ov σ=>p.e i ρ σ (kSI3 d v ov ρ Q)
noncomputable def kSI1 (p:Ev) (o i:Expr) (ρ:Loc) (Q:PF):PV:=fun v σ=>p.e o ρ σ (kSI2 d p i v ρ Q)
noncomputable abbrev Sv:=Stmt→Loc→Sto→PF→Prop
noncomputable def kTh (g:Loc→Sto→PF→Prop) (Q:PF):PF:=fun f ρ σ=>match f with
 | .next=>g ρ σ Q
 | .ret v=>Q (.ret v) ρ σ
noncomputable def ss (s:Sv):List Stmt→Loc→Sto→PF→Prop
 | [],ρ,σ,Q=>Q .next ρ σ
 |st::r,ρ,σ,Q=>s st ρ σ (kTh (ss s r) Q)
noncomputable def gAsg (p:Ev) (t e:Expr) (ps:Pos) (ρ:Loc) (σ:Sto) (Q:PF):Prop:=cond (isComp e) (Lf (TS1 d sc (.Assign [t] e ps) ρ σ Q)) (match t with
  | .Name x xp=>match sc.lookup x with
   |some .local|some .cell=>p.e e ρ σ (kSt x ρ Q)
   |_=>Lf (TS1 d sc (.Assign [.Name x xp] e ps) ρ σ Q)
  | .Attribute o name _=>p.e e ρ σ (kSA1 d p o name ρ Q)
  | .Subscript o i xp=>cond (isIdx i) (p.e e ρ σ (kSI1 d p o i ρ Q)) (Lf (TS1 d sc (.Assign [.Subscript o i xp] e ps) ρ σ Q))
  | .Tuple ts k xp=>cond (isName e||isCall e) (p.e e ρ σ (kAs d sc (.Tuple ts k xp) ρ Q)) (Lf (TS1 d sc (.Assign [.Tuple ts k xp] e ps) ρ σ Q))
  |t=>Lf (TS1 d sc (.Assign [t] e ps) ρ σ Q))
noncomputable def gS (p:Ev) (s:Sv) (st:Stmt) (ρ:Loc) (σ:Sto) (Q:PF):Prop:=match st with
 | .Return e ps=>match e with
  |some e=>p.e e ρ σ (kRt ρ Q)
  |none=>Lf (TS1 d sc (.Return none ps) ρ σ Q)
 | .If t a b _=>p.b t ρ σ (kIf (ss s a) (ss s b) ρ Q)
 | .Assign ts e ps=>match ts with
  | [t]=>gAsg d sc p t e ps ρ σ Q
  |ts=>Lf (TS1 d sc (.Assign ts e ps) ρ σ Q)
 | .Expr e ps=>cond (isComp e) (Lf (TS1 d sc (.Expr e ps) ρ σ Q)) (p.e e ρ σ (kEx ρ Q))
 |st=>Lf (TS1 d sc st ρ σ Q)
noncomputable def sv:Nat→Sv
 |0=>fun st ρ σ Q=>Lf (TS1 d sc st ρ σ Q)
 |n+1=>gS d sc (ev d cn sc 12) (sv n)
end
theorem noStar_each {e:Expr}(h:isStar e=false)(es:List Expr)(env:Env):starEach (e::es) env=(false,eval e env)::starEach es env:=by
 induction e using Expr.casesOn<;>first|rfl|cases h
theorem noStar_any {pos:Pos}{env:Env}:∀{es:List Expr},(es.all fun e=> !isStar e)=true→(backTo pos (starEach es env)).any (·.1)=false
 | [],_=>rfl
 |e::es,h=>by
  rw[List.all_cons,Bool.and_eq_true] at h
  have h1:isStar e=false:=by simpa using h.1
  have ih:=noStar_any (pos:=pos) (env:=env) h.2
  rw[noStar_each h1]
  exact ih
theorem noStar_all {pos:Pos}{env:Env}:∀{es:List Expr},(es.all fun e=> !isStar e)=true→(backTo pos (starEach es env)).all (fun x=> !x.1)=true
 | [],_=>rfl
 |e::es,h=>by
  rw[List.all_cons,Bool.and_eq_true] at h
  have h1:isStar e=false:=by simpa using h.1
  have ih:=noStar_all (pos:=pos) (env:=env) h.2
  rw[noStar_each h1]
  exact ih
theorem noComp_swap {e:Expr}(h:isComp e=false)(t:Option Expr)(n:Nat)(env:Env):swapsWith e t n env=pure false:=by
 induction e using Expr.casesOn<;>first|rfl|cases h
set_option tactic.hygienic true in
theorem base_attr {o:Expr}(h:isBase o=true)(name:Str)(env:Env):attributeBase o name env (eval o env)=eval o env:=by
 induction o using Expr.casesOn<;>first|rfl|skip
 rename_i f a k p
 induction f using Expr.casesOn<;>first|rfl|skip
 induction a using List.casesOn with
 |nil=>cases h
 |cons _ _=>rfl
theorem idx_sub {i:Expr}(h:isIdx i=true)(a b:Value):subscripted i false a b=operate [a,b] (getItem a b):=by
 induction i using Expr.casesOn<;>first|rfl|cases h
theorem val_true {e:Expr}(h:isVal e=true)(env:Env)(whole:Sem Value):isTrue e env whole=(do let v←whole;standAt e.pos;holding [v] (truthy v)):=by
 induction e using Expr.casesOn<;>first|rfl|cases h
theorem nc_of {e:Expr}(h:(isName e||isCall e)=true)(ts:List Expr)(k:Nat)(p:Pos)(env:Env):swappedStores [.Tuple ts k p] e env=pure none:=by
 induction e using Expr.casesOn<;>first|rfl|exact nB h
theorem cO {c:Bool}{A B R:Prop}(h:cond c A B)(f:c=true→A→R)(g:c=false→B→R):R:=by
 induction c using Bool.casesOn with
 |true=>exact f rfl h
 |false=>exact g rfl h
theorem cA {c:Bool}{A R:Prop}(h:cond c (Lf R) A)(g:c=false→A→R):R:=cO h (fun _ h=>Lf.o h) g
theorem cB {c:Bool}{A R:Prop}(h:cond c A (Lf R))(g:c=true→A→R):R:=cO h g fun _ h=>Lf.o h
theorem oVo {o:Option V}{f:V→Prop}{n R:Prop}(h:oV o f n)(g:∀v,o=some v→f v→R)(m:n→R):R:=by
 induction o using Option.casesOn with
 |none=>exact m h
 |some v=>exact g v rfl h
section
variable {d:Nat}{cn:Bool}{sc:Nms}{ρ:Loc}{σ:Sto}
theorem LN.i {x:Str}{v:V}{Q:PV}(h:ρ x=some v)(q:Q v σ):LN ρ x σ Q:=⟨v,h,q⟩
theorem TEs.mono {ps:Pos}{es:List Expr}{Q Q':PL}(h:TEs d sc ps es ρ σ Q)(m:∀v σ',Q v σ'→Q' v σ'):TEs d sc ps es ρ σ Q':=fun env A s R F S=>
 wpAny_mono (h env A s R F S) (fun _ _ ⟨v,σ',r,q,S',T⟩=>⟨v,σ',r,m _ _ q,S',T⟩) fun _ _ x=>x
theorem TS1.mono {st:Stmt}{Q Q':PF}(h:TS1 d sc st ρ σ Q)(m:∀f ρ' σ',Q f ρ' σ'→Q' f ρ' σ'):TS1 d sc st ρ σ Q':=fun env A s R F S=>
 wpAny_mono (h env A s R F S) (fun _ _ ⟨f,ρ',σ',r,q,F',S',T⟩=>⟨f,ρ',σ',r,m _ _ _ q,F',S',T⟩) fun _ _ x=>x
theorem TA.mono {t:Expr}{v:V}{Q Q':Loc→Sto→Prop}(h:TA d sc t v ρ σ Q)(m:∀ρ' σ',Q ρ' σ'→Q' ρ' σ'):TA d sc t v ρ σ Q':=fun env A s va R F S r=>
 wpAny_mono (h env A s va R F S r) (fun _ _ ⟨ρ',σ',q,F',S',T⟩=>⟨ρ',σ',m _ _ q,F',S',T⟩) fun _ _ x=>x
structure Gd (d:Nat)(sc:Nms)(p:Ev):Prop where
 e:∀{e ρ σ Q},p.e e ρ σ Q→TE d sc e ρ σ Q
 b:∀{e ρ σ Q},p.b e ρ σ Q→TB d sc e ρ σ Q
variable {p:Ev}
theorem evs_ok (g:Gd d sc p){ps:Pos}:∀{es:List Expr} {ρ:Loc} {σ:Sto} {Q:PL},(es.all fun e=> !isStar e)=true→evs p es ρ σ Q→TEs d sc ps es ρ σ fun l σ'=>l.length=es.length∧Q l σ'
 | [],_,_,_,_,h=>TEs_nil ⟨rfl,h⟩
 |e::es,ρ,σ,Q,hs,h=>by
  rw[List.all_cons,Bool.and_eq_true] at hs
  exact TEs_cons (TE.mono (g.e h) fun v σ' h'=>TEs.mono (evs_ok g hs.2 h') fun l σ'' q=>⟨by rw[List.length_cons,q.1,List.length_cons],q.2⟩) (noStar_each (by simpa using hs.1) es)
theorem bsAnd_ok (g:Gd d sc p):∀{es:List Expr} {ρ:Loc} {σ:Sto} {Q:PB},bsAnd p es ρ σ Q→TBs d sc .And es ρ σ Q
 | [],_,_,_,h=>TBs_and_nil h
 |e::es,ρ,σ,Q,h=>TBs_and (TB.mono (g.b h) fun b σ' h'=>by
   induction b using Bool.casesOn with
   |true=>exact bsAnd_ok g h'
   |false=>exact h')
theorem bsOr_ok (g:Gd d sc p):∀{es:List Expr} {ρ:Loc} {σ:Sto} {Q:PB},bsOr p es ρ σ Q→TBs d sc .Or es ρ σ Q
 | [],_,_,_,h=>TBs_or_nil h
 |e::es,ρ,σ,Q,h=>TBs_or (TB.mono (g.b h) fun b σ' h'=>by
   induction b using Bool.casesOn with
   |true=>exact h'
   |false=>exact bsOr_ok g h')
theorem gLoc_ok {x:Str}{ps:Pos}{Q:PV}(h1:(x==("__debug__":Str))=false)(h2:(x==("__classdict__":Str))=false)(hk:sc.lookup x=some .local∨sc.lookup x=some .cell∨sc.lookup x=some .free)(h:gLoc d cn sc x ps ρ σ Q):TE d sc (.Name x ps) ρ σ Q:=by
 have loc:∀v,ρ x=some v→Q v σ→TE d sc (.Name x ps) ρ σ Q:=fun v hv q=>by
  rcases hk with hk|hk|hk
  ·exact TE_loc hk hv q h1
  ·exact TE_cell hk hv q h1
  ·exact TE_free hk hv q h1 h2
 exact cO h (fun _ h=>x12 (Lf.o h) loc) fun _ h=>oVo h loc Lf.o
theorem gName_ok {x:Str}{ps:Pos}{Q:PV}(h:gName d cn sc x ps ρ σ Q):TE d sc (.Name x ps) ρ σ Q:=by
 refine cA h fun hx h=> ?_
 refine an2 (Bool.or_eq_false_iff.mp hx) fun h1 h2=> ?_
 induction hk:sc.lookup x using Option.casesOn with
 |none=>rw[hk] at h;exact Lf.o h
 |some k=>
  rw[hk] at h
  induction k using NameKind.casesOn with
  |globalImplicit=>exact oVo h (fun v hv h=>(glb_ok hv).elim (fun hv=>TE_glob hk hv h h1) fun hv=>TE_blt hk hv h h1) False.elim
  |«local»=>exact gLoc_ok h1 h2 (.inl hk) h
  |cell=>exact gLoc_ok h1 h2 (.inr (.inl hk)) h
  |free=>exact gLoc_ok h1 h2 (.inr (.inr hk)) h
  |_=>exact Lf.o h
theorem gConst_ok {c:Const}{k:Nat}{ps:Pos}{Q:PV}(h:gConst d sc c k ps ρ σ Q):TE d sc (.Constant c k ps) ρ σ Q:=by
 induction c using Const.casesOn with
 |int i=>exact TE_int h
 |str x=>exact TE_str h
 |none=>exact TE_none h
 |bool b=>exact TE_bool h
 |_=>exact Lf.o h
theorem TE_subI {o i:Expr}{ps:Pos}{Q:PV}(hi:isIdx i=true)(h:TE d sc o ρ σ fun ov σ'=>TE d sc i ρ σ' fun iv σ''=>TI d ov iv σ'' Q):TE d sc (.Subscript o i ps) ρ σ Q:=
 TE_sub (TE.mono h fun _ _ h'=>TE.mono h' fun _ _ t=>⟨by rw[show(fun a b=>subscripted i false a b)=fun a b=>operate [a,b] (getItem a b) from funext fun a=>funext fun b=>idx_sub hi a b];exact t.t,t.s⟩)
theorem kpOf_ok {f:V}(h:kpOf f=true):Kp f:=by
 induction f using V.casesOn with
 |bi n=>exact Kp_bi n
 |ty n=>exact Kp_ty n
 |ref a=>exact(Bool.or_eq_true_iff.mp h).elim kp_fn kp_cl
 |_=>exact nB h
theorem kCl_ok {f:V}{l:List V}{Q:PV}(h:kCl d f Q l σ):Kp f∧CallV d f l σ Q:=
 cO h (fun k h=>⟨kpOf_ok k,Lf.o h⟩) fun _ h=>h.elim
theorem gCall_ok (g:Gd d sc p){func:Expr}{args:List Expr}{kw:List Keyword}{ps:Pos}{Q:PV}(h:gCall d sc p func args kw ps ρ σ Q):TE d sc (.Call func args kw ps) ρ σ Q:=by
 refine cB h fun hc h=> ?_
 refine an2 (bA hc) fun hc h30=> ?_
 refine an2 (bA hc) fun hk hs=> ?_
 have z:=List.isEmpty_iff.mp hk;subst z
 induction func using Expr.casesOn with
 |Name x xp=>
  exact TE_call (TE.mono (g.e h) fun f σ' h'=>TEs.mono (evs_ok g hs h') fun l σ'' q=>kCl_ok q.2) (fun _=>rfl) fun _=>noStar_any hs
 |Attribute o name ap=>
  refine cB h fun ho h=>an2 (bA ho) fun ho hl=> ?_
  exact TE_meth (TE.mono (g.e h) fun ov σ' h'=>(Lf.o h').casesOn fun f first gm kp h'=>⟨f,first,gm,kp,TEs.mono (evs_ok g hs h') fun l σ'' q=>Lf.o q.2⟩) (base_attr ho name) (fun env=>Bool.and_eq_true_iff.mpr ⟨Bool.and_eq_true_iff.mpr ⟨noStar_all hs,rfl⟩,h30⟩) hl fun _=>noStar_any hs
 |_=>exact Lf.o h
theorem few_of {l:List V}{es:List Expr}(h:decide (es.length≤1000)=true)(e:l.length=es.length):l.length≤sizeLine:=by rw[e,sizeLine_eq];exact lt3 (oD h)
theorem gE_ok (g:Gd d sc p){e:Expr}{Q:PV}(h:gE d cn sc p e ρ σ Q):TE d sc e ρ σ Q:=by
 induction e using Expr.casesOn with
 |Name x ps=>exact gName_ok h
 |Constant c k ps=>exact gConst_ok h
 |Call f a k ps=>exact gCall_ok g h
 |Attribute o name ps=>exact cB h fun ho h=>TE_attr (TE.mono (g.e h) fun _ _ h'=>Lf.o h') (base_attr ho name)
 |Subscript o i ps=>exact cB h fun hi h=>TE_subI hi (TE.mono (g.e h) fun ov σ' h'=>TE.mono (g.e h') fun iv σ'' h''=>Lf.o h'')
 |Tuple es k ps=>exact cB h fun hc h=>an2 (bA hc) fun hs hl=>TE_tup (TEs.mono (evs_ok g hs h) fun l σ' q=>⟨few_of hl q.1,q.2⟩)
 |List es ps=>exact cB h fun hc h=>an2 (bA hc) fun hs hl=>TE_list (TEs.mono (evs_ok g hs h) fun l σ' q=>⟨few_of hl q.1,Lf.o q.2⟩)
 |BinOp l op r ps=>exact TE_bin (TE.mono (g.e h) fun _ _ h'=>TE.mono (g.e h') fun _ _ h''=>Lf.o h'')
 |Compare l ops rs ps=>
  rcases ops with _|⟨op,_|⟨_,_⟩⟩<;>first|exact Lf.o h|skip
  rcases rs with _|⟨r,_|⟨_,_⟩⟩<;>first|exact Lf.o h|skip
  exact cA h fun hm h=>TE_cmp (TE.mono (g.e h) fun _ _ h'=>TE.mono (g.e h') fun _ _ h''=>Lf.o h'') hm
 |UnaryOp op e ps=>exact TE_un (TE.mono (g.e h) fun _ _ h'=>Lf.o h')
 |IfExp t a b ps=>
  refine TE_ite (TB.mono (g.b h) fun c σ' h'=> ?_)
  induction c using Bool.casesOn with
  |true=>exact g.e h'
  |false=>exact g.e h'
 |_=>exact Lf.o h
theorem kTb_ok {Q:PB}{v:V}{σ:Sto}(h:kTb d Q v σ):TT d v σ Q:=by
 induction v using V.casesOn with
 |bool b=>exact TT_bool h
 |_=>exact Lf.o h
theorem gB_ok (g:Gd d sc p){e:Expr}{Q:PB}(h:gB d sc p e ρ σ Q):TB d sc e ρ σ Q:=by
 have val:∀{e:Expr},cond (isVal e) (p.e e ρ σ (kTT d Q)) (Lf (TB d sc e ρ σ Q))→TB d sc e ρ σ Q:=fun h=>cB h fun hv h=>TB_val (TE.mono (g.e h) fun _ _ h'=>Lf.o h') (val_true hv)
 induction e using Expr.casesOn with
 |Compare l ops rs ps=>
  rcases ops with _|⟨op,_|⟨_,_⟩⟩<;>first|exact Lf.o h|skip
  rcases rs with _|⟨r,_|⟨_,_⟩⟩<;>first|exact Lf.o h|skip
  exact cA h fun hm h=>TB_cmp (TE.mono (g.e h) fun _ _ h'=>TE.mono (g.e h') fun _ _ h''=>T2.mono (Lf.o h'') fun _ _ h3=>kTb_ok h3) hm
 |UnaryOp op e ps=>
  induction op using UnaryOp.casesOn with
  |Not=>exact TB_not (TB.mono (g.b h) fun _ _ h'=>h')
  |_=>exact Lf.o h
 |BoolOp op es ps=>
  induction op using BoolOp.casesOn with
  |And=>exact TB_bools (bsAnd_ok g h)
  |Or=>exact TB_bools (bsOr_ok g h)
 |_=>exact val h
theorem ev_ok:∀n,Gd d sc (ev d cn sc n)
 |0=>⟨fun h=>Lf.o h,fun h=>Lf.o h⟩
 |n+1=>⟨fun h=>gE_ok (ev_ok n) h,fun h=>gB_ok (ev_ok n) h⟩
theorem ss_ok {s:Sv}(g:∀{st ρ σ Q},s st ρ σ Q→TS1 d sc st ρ σ Q):∀{l:List Stmt} {ρ:Loc} {σ:Sto} {Q:PF},ss s l ρ σ Q→TS d sc l ρ σ Q
 | [],_,_,_,h=>TS_nil h
 |st::r,ρ,σ,Q,h=>TS_cons (TS1.mono (g h) fun f ρ' σ' h'=>by
   induction f using Fl.casesOn with
   |next=>exact ss_ok g h'
   |ret v=>exact h')
theorem gAsg_ok (g:Gd d sc p){t e:Expr}{ps:Pos}{Q:PF}(h:gAsg d sc p t e ps ρ σ Q):TS1 d sc (.Assign [t] e ps) ρ σ Q:=by
 refine cA h fun hc h=> ?_
 have hs:=noComp_swap hc
 induction t using Expr.casesOn with
 |Name x xp=>
  have h:(match sc.lookup x with
   |some .local|some .cell=>p.e e ρ σ (kSt x ρ Q)
   |_=>Lf (TS1 d sc (.Assign [.Name x xp] e ps) ρ σ Q)):=h
  induction hk:sc.lookup x using Option.casesOn with
  |none=>rw[hk] at h;exact Lf.o h
  |some k=>
   rw[hk] at h
   induction k using NameKind.casesOn with
   |«local»=>exact TS_loc hk (TE.mono (g.e h) fun _ _ h'=>h') (hs _ _)
   |cell=>exact TS_cell hk (TE.mono (g.e h) fun _ _ h'=>h') (hs _ _)
   |_=>exact Lf.o h
 |Attribute o name xp=>exact TS_attr (TE.mono (g.e h) fun _ _ h'=>TE.mono (g.e h') fun _ _ h''=>Lf.o h'') (hs _ _)
 |Subscript o i xp=>exact cB h fun hi h=>TS_item (TE.mono (g.e h) fun _ _ h'=>TE.mono (g.e h') fun _ _ h''=>TE.mono (g.e h'') fun _ _ h3=>Lf.o h3) (hs _ _)
 |Tuple ts k xp=>exact cB h fun he h=>TS_asg (TE.mono (g.e h) fun _ _ h'=>Lf.o h') (fun _=>rfl) (fun env=>(hs (some (.Tuple ts k xp)) ps.line env:)) fun env _ _=>nc_of he ts k xp env
 |_=>exact Lf.o h
theorem gS_ok (g:Gd d sc p){s:Sv}(gs:∀{st ρ σ Q},s st ρ σ Q→TS1 d sc st ρ σ Q){st:Stmt}{Q:PF}(h:gS d sc p s st ρ σ Q):TS1 d sc st ρ σ Q:=by
 induction st using Stmt.casesOn with
 |Return e ps=>
  induction e using Option.casesOn with
  |none=>exact Lf.o h
  |some e=>exact TS_ret (TE.mono (g.e h) fun _ _ h'=>h')
 |If t a b ps=>
  refine TS_if (TB.mono (g.b h) fun c σ' h'=> ?_)
  induction c using Bool.casesOn with
  |true=>exact ss_ok gs h'
  |false=>exact ss_ok gs h'
 |Assign ts e ps=>
  rcases ts with _|⟨t,_|⟨_,_⟩⟩<;>first|exact gAsg_ok g h|exact Lf.o h
 |Expr e ps=>
  exact cA h fun hc h=>TS_expr (TE.mono (g.e h) fun _ _ h'=>h') (noComp_swap hc _ _)
 |_=>exact Lf.o h
theorem sv_ok:∀n {st ρ σ Q},sv d cn sc n st ρ σ Q→TS1 d sc st ρ σ Q
 |0,_,_,_,_,h=>Lf.o h
 |n+1,_,_,_,_,h=>gS_ok (ev_ok 12) (sv_ok n) h
theorem TE_v {e:Expr}{Q:PV}(cn:Bool)(h:(ev d cn sc 12).e e ρ σ Q):TE d sc e ρ σ Q:=(ev_ok 12).e h
theorem TB_v {e:Expr}{Q:PB}(cn:Bool)(h:(ev d cn sc 12).b e ρ σ Q):TB d sc e ρ σ Q:=(ev_ok 12).b h
theorem TS_v {l:List Stmt}{Q:PF}(cn:Bool)(h:ss (sv d cn sc 8) l ρ σ Q):TS d sc l ρ σ Q:=ss_ok (sv_ok 8) h
theorem TS1_v {st:Stmt}{Q:PF}(cn:Bool)(h:sv d cn sc 8 st ρ σ Q):TS1 d sc st ρ σ Q:=sv_ok 8 h
theorem TEs_v {ps:Pos}{es:List Expr}{Q:PL}(cn:Bool)(hs:(es.all fun e=> !isStar e)=true)(h:evs (ev d cn sc 12) es ρ σ Q):TEs d sc ps es ρ σ Q:=TEs.mono (evs_ok (ev_ok 12) hs h) fun _ _ q=>q.2
noncomputable def itemOk (l:List V) (i:Int):Option V:=match i with
 | .ofNat n=>match Nat.ble n 1000000 with
  |true=>l[n]?
  |false=>none
 | .negSucc _=>none
noncomputable def nmOf:Expr→Option Str
 | .Name x _=>some x
 |_=>none
theorem nmOf_some {e:Expr}{x:Str}(h:nmOf e=some x):∃p,e= .Name x p:=by
 induction e using Expr.casesOn<;>first|exact⟨_,congrArg (fun y=>Expr.Name y _) (Option.some.inj h)⟩|exact nS h
noncomputable def lkOk:Option NameKind→Bool
 |some k=>k== .local||k== .cell
 |none=>false
theorem lk_ok {o:Option NameKind}(h:lkOk o=true):o=some .local∨o=some .cell:=by
 induction o using Option.casesOn with
 |none=>exact nB h
 |some k=>exact(Bool.or_eq_true_iff.mp h).elim (fun e=> .inl (congrArg some (eq_of_beq e))) fun e=> .inr (congrArg some (eq_of_beq e))
noncomputable def tgt (sc:Nms):List Expr→List V→Loc→Option Loc
 | [],vs,ρ=>match vs with
  | []=>some ρ
  |_::_=>none
 |t::ts,vs,ρ=>match vs with
  | []=>none
  |v::vs=>(nmOf t).bind fun x=>cond (lkOk (sc.lookup x)) (tgt sc ts vs (ρ.put x v)) none
noncomputable def goE:Expr→Bool
 | .Name _ _=>true
 | .Constant c _ _=>match c with
  | .int _=>true
  | .str _=>true
  | .none=>true
  | .bool _=>true
  |_=>false
 | .Call func args kw ps=>kw.isEmpty&&args.all (fun e=> !isStar e)&&decide (args.length<30)&&match func with
  | .Name _ _=>true
  | .Attribute o _ ap=>isBase o&&(ap.endLine==ps.line)
  |_=>false
 | .Attribute o _ _=>isBase o
 | .Subscript _ i _=>isIdx i
 | .Tuple es _ _=>es.all (fun e=> !isStar e)&&decide (es.length≤1000)
 | .List es _=>es.all (fun e=> !isStar e)&&decide (es.length≤1000)
 | .BinOp _ _ _ _=>true
 | .Compare _ ops rs _=>match ops,rs with
  | [op],[r]=> !behindInMarks op r
  |_,_=>false
 | .UnaryOp _ _ _=>true
 | .IfExp _ _ _ _=>true
 |_=>false
noncomputable def goB:Expr→Bool
 | .Compare _ ops rs _=>match ops,rs with
  | [op],[r]=> !behindInMarks op r
  |_,_=>false
 | .UnaryOp op _ _=>match op with
  | .Not=>true
  |_=>false
 | .BoolOp _ _ _=>true
 |e=>isVal e&&goE e
noncomputable def goS:Stmt→Bool
 | .Return e _=>e.isSome
 | .If _ _ _ _=>true
 | .Assign ts e _=>match ts with
  | [t]=> !isComp e&&match t with
   | .Name _ _=>true
   | .Attribute _ _ _=>true
   | .Subscript _ i _=>isIdx i
   | .Tuple _ _ _=>isName e||isCall e
   |_=>false
  |_=>false
 | .Expr e _=> !isComp e
 |_=>false
theorem TI_tup {l:List V}{i:Int}{x:V}{Q:PV}(h:itemOk l i=some x)(q:Q x σ):TI d (.tup l) (.int i) σ Q:=by
 induction i using Int.casesOn with
 |negSucc n=>cases h
 |ofNat n=>
  have h:(match Nat.ble n 1000000 with
   |true=>l[n]?
   |false=>none)=some x:=h
  induction hn:Nat.ble n 1000000 using Bool.casesOn with
  |false=>rw[hn] at h;exact nS h
  |true=>
   rw[hn] at h
   have hn:=Nat.le_of_ble_eq_true hn
   have hl:=(List.getElem?_eq_some_iff.mp h).1
   exact T2_item_tup (i:=(n:Int)) (j:=n) (by lia) (by lia) (by unfold seqIndex?;simp;lia) h q
noncomputable def itemOf (v:V) (i:Int):Option V:=match v with
 | .tup l=>itemOk l i
 |_=>none
theorem TI_at {v:V}{i:Int}{x:V}{Q:PV}(h:itemOf v i=some x)(q:Q x σ):TI d v (.int i) σ Q:=by
 induction v using V.casesOn<;>first|exact TI_tup h q|exact nS h
theorem tgt_ok {ts:List Expr}:∀{xs:List V} {ρ ρ':Loc} {Q:Loc→Sto→Prop},tgt sc ts xs ρ=some ρ'→Q ρ' σ→plainTs ts=true∧ts.length=xs.length∧TAs d sc ts xs ρ σ Q:=by
 induction ts with
 |nil=>
  intro xs ρ ρ' Q h q
  induction xs using List.casesOn with
  |nil=>exact⟨rfl,rfl,Option.some.inj h▸q⟩
  |cons _ _=>cases h
 |cons t ts ih=>
  intro xs ρ ρ' Q h q
  induction xs using List.casesOn with
  |nil=>cases h
  |cons v vs=>
  have h:(nmOf t).bind (fun x=>cond (lkOk (sc.lookup x)) (tgt sc ts vs (ρ.put x v)) none)=some ρ':=h
  refine bE h fun x hn h2=>x11 (nmOf_some hn) fun p z1=> ?_;clear h;subst z1
  induction hk:lkOk (sc.lookup x) using Bool.casesOn with
  |false=>rw[hk] at h2;exact nS h2
  |true=>
   rw[hk] at h2
   exact an3 (ih h2 q) fun a b c=>⟨a,congrArg (·+1) b,(lk_ok hk).elim (fun hk=>TA_loc hk c) fun hk=>TA_cell hk c⟩
theorem TA_ns {ts:List Expr}{k:Nat}{p:Pos}{xs:List V}{ρ':Loc}{Q:Loc→Sto→Prop}(h:tgt sc ts xs ρ=some ρ')(q:Q ρ' σ):TA d sc (.Tuple ts k p) (.tup xs) ρ σ Q:=
 let t:=tgt_ok h q
 TA_tup t.1 t.2.1 t.2.2
theorem Ml_bi {name:Str}{ov:V}{g:Loc→Sto→PL→Prop}{k:V→List V→PL}{id:String}{first:List V}(m:GM name ov σ (.bi id) first)(h:g ρ σ (k (.bi id) first)):Ml name ov g k ρ σ:=⟨_,_,m,Kp_bi _,h⟩
theorem Ml_own {C f x dx:Addr}{l:List (Str×V)}{name:Str}{g:Loc→Sto→PL→Prop}{k:V→List V→PL}(hx:σ x=some (.inst C dx))(hd:σ dx=some (.attrs l))(m:Mth C name f)(hv:l.lookup name=none)(h:g ρ σ (k (.ref f) [.ref x])):Ml name (.ref x) g k ρ σ:=⟨_,_,GM_own hx hd m hv,m.kp,h⟩
theorem loopS_next {Kc:Loc→Sto→Prop}{Q:Fl→Loc→Sto→Prop}(h:Kc ρ σ):loopS Kc Q .next ρ σ:=h
theorem loopS_ret {Kc:Loc→Sto→Prop}{v:V}{Q:Fl→Loc→Sto→Prop}(h:Q (.ret v) ρ σ):loopS Kc Q (.ret v) ρ σ:=h
noncomputable def kEv {α:Type} (Q:α→Sto→Prop):α→Sto→Prop:=fun v σ=>Lf (Q v σ)
theorem TE_go {e:Expr}{Q:PV}(cn:Bool)(_:goE e=true)(h:(ev d cn sc 12).e e ρ σ (kEv Q)):TE d sc e ρ σ Q:=TE.mono (TE_v cn h) fun _ _ q=>Lf.o q
theorem TB_go {e:Expr}{Q:PB}(cn:Bool)(_:goB e=true)(h:(ev d cn sc 12).b e ρ σ (kEv Q)):TB d sc e ρ σ Q:=TB.mono (TB_v cn h) fun _ _ q=>Lf.o q
theorem TEs_go {ps:Pos}{es:List Expr}{Q:PL}(cn:Bool)(hs:(es.all fun e=> !isStar e)=true)(h:evs (ev d cn sc 12) es ρ σ (kEv Q)):TEs d sc ps es ρ σ Q:=TEs.mono (TEs_v cn hs h) fun _ _ q=>Lf.o q
noncomputable def kEnd (Q:PF):PF:=fun f ρ σ=>Lf (Q f ρ σ)
theorem TS1_go {st:Stmt}{Q:PF}(cn:Bool)(_:goS st=true)(h:sv d cn sc 8 st ρ σ (kEnd Q)):TS1 d sc st ρ σ Q:=TS1.mono (TS1_v cn h) fun _ _ _ q=>Lf.o q
theorem TS_go {l:List Stmt}{Q:PF}(cn:Bool)(h:ss (sv d cn sc 8) l ρ σ (kEnd Q)):TS d sc l ρ σ Q:=TS.mono (TS_v cn h) fun _ _ _ q=>Lf.o q
noncomputable def Cut (d:Nat) (sc:Nms) (l:List Stmt) (ρ:Loc) (σ:Sto) (Q:PF):Prop:=TS d sc l ρ σ Q
theorem Cut.i {l:List Stmt}{Q:PF}(h:TS d sc l ρ σ Q):Cut d sc l ρ σ Q:=h
noncomputable def cutS (d:Nat) (sc:Nms) (rest:List Stmt) (Q:PF):PF:=fun f ρ σ=>match f with
 | .next=>Lf (Cut d sc rest ρ σ Q)
 | .ret v=>Lf (Q (.ret v) ρ σ)
theorem ss_cut {s:Sv}(g:∀{st ρ σ Q},s st ρ σ Q→TS1 d sc st ρ σ Q){l2:List Stmt}{Q:PF}:∀{l1:List Stmt} {ρ:Loc} {σ:Sto},ss s l1 ρ σ (cutS d sc l2 Q)→TS d sc (l1++l2) ρ σ Q
 | [],_,_,h=>Lf.o h
 |st::r,ρ,σ,h=>TS_cons (TS1.mono (g h) fun f ρ' σ' h'=>by
   induction f using Fl.casesOn with
   |next=>exact ss_cut g h'
   |ret v=>exact Lf.o h')
theorem TS_cut {l:List Stmt}{Q:PF}(cn:Bool)(n:Nat)(h:ss (sv d cn sc 8) (l.take n) ρ σ (cutS d sc (l.drop n) Q)):TS d sc l ρ σ Q:=by
 have:=ss_cut (sv_ok 8) h
 rwa [List.take_append_drop] at this
noncomputable def kSw (names:List Str) (ρ:Loc) (Q:PF):PL:=fun l σ=>Lf (Q .next (ρ.puts (names.zip l).reverse) σ)
theorem TS_sw {ts vs:List Expr}{k k':Nat}{p p' p'':Pos}{names:List Str}{Q:PF}(cn:Bool)(hsw:swapOf sc (.Tuple ts k p) (.Tuple vs k' p')=some (some names))(hl:(names.all fun x=>sc.lookup x==some .local)=true)
  (hv:((vs.all fun e=> !isStar e)&&decide (vs.length≤1000)&&decide (vs.length=names.length))=true) (h:evs (ev d cn sc 12) vs ρ σ (kSw names ρ Q)):TS1 d sc (.Assign [.Tuple ts k p] (.Tuple vs k' p') p'') ρ σ Q:=by
 refine an2 (bA hv) fun hv h3=> ?_
 refine an2 (bA hv) fun h1 h2=> ?_
 have h2:=oD h2
 exact TS_swap hsw hl (TEs.mono (evs_ok (ev_ok 12) h1 h) fun l σ' q=>⟨by rw[q.1,sizeLine_eq];exact lt3 h2,q.1.trans (oD h3),Lf.o q.2⟩)
theorem TE_gt {e:Expr}{Q:PV}(g:goE e=true)(h:(ev d true sc 12).e e ρ σ (kEv Q)):TE d sc e ρ σ Q:=TE_go true g h
theorem TB_gt {e:Expr}{Q:PB}(g:goB e=true)(h:(ev d true sc 12).b e ρ σ (kEv Q)):TB d sc e ρ σ Q:=TB_go true g h
theorem TEs_gt {ps:Pos}{es:List Expr}{Q:PL}(g:(es.all fun e=> !isStar e)=true)(h:evs (ev d true sc 12) es ρ σ (kEv Q)):TEs d sc ps es ρ σ Q:=TEs_go true g h
theorem TS1_gt {st:Stmt}{Q:PF}(g:goS st=true)(h:sv d true sc 8 st ρ σ (kEnd Q)):TS1 d sc st ρ σ Q:=TS1_go true g h
theorem TS_gt {l:List Stmt}{Q:PF}(h:ss (sv d true sc 8) l ρ σ (kEnd Q)):TS d sc l ρ σ Q:=TS_go true h
theorem TE_gl {e:Expr}{Q:PV}(_:ρ (Str.ofString "")=none)(g:goE e=true)(h:(ev d false sc 12).e e ρ σ (kEv Q)):TE d sc e ρ σ Q:=TE_go false g h
theorem TB_gl {e:Expr}{Q:PB}(_:ρ (Str.ofString "")=none)(g:goB e=true)(h:(ev d false sc 12).b e ρ σ (kEv Q)):TB d sc e ρ σ Q:=TB_go false g h
theorem TEs_gl {ps:Pos}{es:List Expr}{Q:PL}(_:ρ (Str.ofString "")=none)(g:(es.all fun e=> !isStar e)=true)(h:evs (ev d false sc 12) es ρ σ (kEv Q)):TEs d sc ps es ρ σ Q:=TEs_go false g h
theorem TS1_gl {st:Stmt}{Q:PF}(_:ρ (Str.ofString "")=none)(g:goS st=true)(h:sv d false sc 8 st ρ σ (kEnd Q)):TS1 d sc st ρ σ Q:=TS1_go false g h
theorem TS_gl {l:List Stmt}{Q:PF}(_:ρ (Str.ofString "")=none)(h:ss (sv d false sc 8) l ρ σ (kEnd Q)):TS d sc l ρ σ Q:=TS_go false h
end
theorem d_ex:∃n:Nat,n=0:=⟨0,rfl⟩
noncomputable def d:Nat:=Classical.choose d_ex
theorem d_is:d=0:=Classical.choose_spec d_ex
mutual
noncomputable def K.sz:K→Nat
 | .name _ ps=>K.szs ps+1
 | .tup ks=>K.szs ks+1
 | .union ks=>K.szs ks+1
 | .all _ lo up b=>lo.sz+up.sz+b.sz+1
 | .typ k=>k.sz+1
 | .var _=>1
 | .bot=>1
 | .num _=>1
noncomputable def K.szs:List K→Nat
 | []=>0
 |k::l=>k.sz+K.szs l
end
theorem K.sz_pos:∀k:K,1≤k.sz
 | .name _ _=>Nat.succ_pos _
 | .tup _=>Nat.succ_pos _
 | .union _=>Nat.succ_pos _
 | .all _ _ _ _=>Nat.succ_pos _
 | .typ _=>Nat.succ_pos _
 | .var _=>Nat.le_refl 1
 | .bot=>Nat.le_refl 1
 | .num _=>Nat.le_refl 1
theorem K.dp_pos:∀k:K,1≤k.dp
 | .name _ _=>Nat.succ_pos _
 | .tup _=>Nat.succ_pos _
 | .union _=>Nat.succ_pos _
 | .all _ _ _ _=>Nat.succ_pos _
 | .typ _=>Nat.succ_pos _
 | .var _=>Nat.le_refl 1
 | .bot=>Nat.le_refl 1
 | .num _=>Nat.le_refl 1
theorem K.dp0 {k:K}{p:Prop}(h:k.dp≤0):p:=absurd (nT k.dp_pos h) (Nat.not_succ_le_zero 0)
theorem K.szs_len:∀l:List K,l.length≤K.szs l
 | []=>Nat.le_refl _
 |k::l=>nT (Nat.add_le_add (K.szs_len l) k.sz_pos) (Nat.le_of_eq (Nat.add_comm _ _))
theorem K.vs_le {ks:List K}{n m:Nat}(h:K.szs ks+1≤n)(e:n≤m+1:=by decide):(K.vs ks).length≤m:=by
 rw[aO];exact nT (K.szs_len ks) (Nat.le_of_succ_le_succ (nT h e))
theorem K.szs_mem {l:List K}{k:K}(h:k∈l):k.sz≤K.szs l:=by
 induction l with
 |nil=>exact nomatch h
 |cons a l ih=>cases h with
  |head=>exact Nat.le_add_right _ _
  |tail _ h=>exact Nat.le_add_left_of_le (ih h)
mutual
theorem K.dp_sz:∀k:K,k.dp≤k.sz
 | .name n ps=>Nat.succ_le_succ (K.dps_szs ps)
 | .tup ks=>Nat.succ_le_succ (K.dps_szs ks)
 | .union ks=>Nat.succ_le_succ (K.dps_szs ks)
 | .all _ lo up b=>Nat.succ_le_succ (mx (Nat.le_add_right_of_le (Nat.le_add_right_of_le lo.dp_sz)) (mx (Nat.le_add_right_of_le (Nat.le_add_left_of_le up.dp_sz)) (Nat.le_add_left_of_le b.dp_sz)))
 | .typ k=>Nat.succ_le_succ k.dp_sz
 | .var x=>Nat.le_refl 1
 | .bot=>Nat.le_refl 1
 | .num i=>Nat.le_refl 1
theorem K.dps_szs:∀l:List K,K.dps l≤K.szs l
 | []=>Nat.le_refl _
 |k::l=>mx (Nat.le_add_right_of_le k.dp_sz) (Nat.le_add_left_of_le (K.dps_szs l))
end
theorem K.dps_mem {l:List K}{k:K}(h:k∈l):k.dp≤K.dps l:=by
 induction l with
 |nil=>exact nomatch h
 |cons a l ih=>cases h with
  |head=>exact Nat.le_max_left _ _
  |tail _ h=>exact nT (ih h) (Nat.le_max_right _ _)
noncomputable def K.parts:K→List K
 | .name _ ps=>ps
 | .tup ks=>ks
 | .union ks=>ks
 | .all _ lo up b=> [lo,up,b]
 | .typ k=> [k]
 | .var _=> []
 | .bot=> []
 | .num _=> []
theorem K.parts_sz:∀k:K,K.szs k.parts+1≤k.sz∨k.parts=[]
 | .name _ _=> .inl (Nat.le_refl _)
 | .tup _=> .inl (Nat.le_refl _)
 | .union _=> .inl (Nat.le_refl _)
 | .all _ lo up b=> .inl (Nat.succ_le_succ (Nat.le_of_eq (Nat.add_assoc lo.sz up.sz b.sz).symm))
 | .typ _=> .inl (Nat.le_refl _)
 | .var _=> .inr rfl
 | .bot=> .inr rfl
 | .num _=> .inr rfl
noncomputable abbrev wdOk (k:K) (x:Str):Bool:=k.word !=x&&PyData.strOk k.word&&PyData.strOk x
noncomputable def K.varOf:K→Option X
 | .var x=>some x
 | .name _ _=>none
 | .tup _=>none
 | .union _=>none
 | .all _ _ _ _=>none
 | .typ _=>none
 | .bot=>none
 | .num _=>none
theorem K.varOf_is {k:K}{x:X}(h:k.varOf=some x):k= .var x:=by
 induction k using K.casesOn<;>first|exact nS h|exact congrArg K.var (sI h)
theorem K.varOf_no {k:K}(h:k.varOf=none):wdOk k "var"=true:=by
 induction k using K.casesOn<;>first|exact nS' h|kernel_rfl
noncomputable def K.nmE {α:Type} (k:K) (z:α) (f:N→List K→α):α:=match k with
 | .name m qs=>f m qs
 | .tup _=>z
 | .union _=>z
 | .all _ _ _ _=>z
 | .typ _=>z
 | .var _=>z
 | .bot=>z
 | .num _=>z
theorem K.nmT {k:K}{f:N→List K→Bool}{P:Prop}(h:k.nmE false f=true)(g:∀m qs,k= .name m qs→f m qs=true→P):P:=by
 induction k using K.casesOn<;>first|exact g _ _ rfl h|exact nB h
noncomputable def K.va:K→Bool
 | .var _=>true
 | .all _ _ _ _=>true
 | .name _ _=>false
 | .tup _=>false
 | .union _=>false
 | .typ _=>false
 | .bot=>false
 | .num _=>false
theorem K.va_word {k:K}(h:k.va=false):(k.word !="var"&&PyData.strOk k.word&&PyData.strOk "var")=true∧(k.word !="all"&&PyData.strOk k.word&&PyData.strOk "all")=true:=by
 induction k using K.casesOn<;>first|exact nB h.symm|exact⟨by kernel_rfl,by kernel_rfl⟩
theorem K.part_lt {k x:K}(h:x∈k.parts):x.dp+1≤k.dp∧x.sz+1≤k.sz:=by
 induction k using K.casesOn with
 |name n ps=>exact⟨Nat.succ_le_succ (K.dps_mem h),Nat.succ_le_succ (K.szs_mem h)⟩
 |tup ps=>exact⟨Nat.succ_le_succ (K.dps_mem h),Nat.succ_le_succ (K.szs_mem h)⟩
 |union ps=>exact⟨Nat.succ_le_succ (K.dps_mem h),Nat.succ_le_succ (K.szs_mem h)⟩
 |typ k=>cases h with
  |head=>exact⟨Nat.le_refl _,Nat.le_refl _⟩
  |tail _ h=>exact nomatch h
 |all x lo up b=>
  have l1:lo.sz+up.sz≤lo.sz+up.sz+b.sz:=Nat.le_add_right _ _
  cases h with
  |head=>exact⟨Nat.succ_le_succ (Nat.le_max_left _ _),Nat.succ_le_succ (nT (Nat.le_add_right _ _) l1)⟩
  |tail _ h=>cases h with
   |head=>exact⟨Nat.succ_le_succ (nT (Nat.le_max_left _ _) (Nat.le_max_right _ _)),Nat.succ_le_succ (nT (Nat.le_add_left _ _) l1)⟩
   |tail _ h=>cases h with
    |head=>exact⟨Nat.succ_le_succ (nT (Nat.le_max_right _ _) (Nat.le_max_right _ _)),Nat.succ_le_succ (Nat.le_add_left _ _)⟩
    |tail _ h=>exact nomatch h
 |_=>exact nomatch h
theorem aK {n:Nat}(h:n≤100000):n≤sizeLine:=by rw[sizeLine_eq];exact lt3 h
theorem none_put {σ:Sto}{a c:Addr}{x:AO}(h:(σ.put a x) c=none):σ c=none∧c≠a:=by
 by_cases e:c=a
 ·subst e;rw[aA] at h;exact nS' h
 ·rw[aM _ _ e] at h;exact⟨h,e⟩
theorem Sto.put_mono {σ σ':Sto}(l:σ.le σ')(a:Addr)(x:AO):(σ.put a x).le (σ'.put a x):=fun b o e=>by
 by_cases z:b=a
 ·subst z;rw[aA] at e⊢;exact e
 ·rw[aM _ _ z] at e⊢;exact l b o e
local macro_rules |`(tactic|walk_at "n")=>`(tactic|first
 |((with_reducible show LN _ _ _ _);refine LN.i (by first|rfl|assumption) ?_)
 |((with_reducible apply TI_at);rfl)
 |((with_reducible show T2 _ _ _ _ _ _);first
  |((with_reducible refine T2_eqS ?_ ?_);decide +kernel)
  |((with_reducible refine T2_eqSf ?_ ?_);decide +kernel)
  |refine T2_is_none (by rfl) ?_
  |refine T2_isnot_none (by rfl) ?_)
 |with_reducible refine TT_bool ?_
 |((with_reducible show ite _ _ _);first|refine ifT dkk ?_|refine ifF dkk ?_|refine ifF Bool.false_ne_true ?_|refine ifT (by rfl) ?_)
 |((with_reducible show TA _ _ _ _ _ _ _);first|refine TA_ns (by rfl) ?_|refine TA_loc dkk ?_)
 |with_reducible refine thenS_next ?_
 |with_reducible refine thenS_ret ?_
 |with_reducible refine backOf_ret ?_
 |with_reducible refine backOf_next ?_
 |with_reducible refine loopS_next ?_
 |with_reducible refine loopS_ret ?_
 |with_reducible refine T1_neg ?_
 |with_reducible refine TEo_some ?_)
local macro_rules |`(tactic|walk_at "e")=>`(tactic|first
 |((with_reducible refine TE_gt ?_ ?_);rfl)
 |((with_reducible refine TB_gt ?_ ?_);rfl)
 |with_reducible refine TS_gt ?_
 |((with_reducible refine TS1_gt ?_ ?_);rfl)
 |((with_reducible refine TEs_gt ?_ ?_);rfl))
local macro_rules |`(tactic|walk_at "s")=>`(tactic|first|refine Lf.i ?_|walk_at "n"|((with_reducible refine TE_gl ?_ ?_ ?_);rfl;rfl;refine Lf.i ?_)|((with_reducible refine TS_gl ?_ ?_);rfl;refine Lf.i ?_)|walk_at "e")
local macro_rules |`(tactic|walk_at "*")=>`(tactic|repeat walk_at "s")
local macro_rules |`(tactic|walk_at "g")=>`(tactic|repeat first|refine Lf.i ?_|walk_at "n"|walk_at "e")
local macro_rules |`(tactic|got_up)=>`(tactic|walk_at "g")
local macro_rules |`(tactic|w_fin)=>`(tactic|walk_at "*")
section
variable {d:Nat}{σ:Sto}
theorem v_item0 (k:K){Q:V→Sto→Prop}(q:Q (.str k.word) σ):TI d k.v (.int 0) σ Q:=by
 refine x11 k.v_word fun r h=> ?_
 rw[h]
 exact TI_tup rfl q
theorem c_named1 {n:Str}{Q:V→Sto→Prop}(q:Q (.tup [.str "name",.str n,.tup []]) σ):CallT (d+1) (.ref 33) [.str n] σ Q:=by
 refine aG b.f_named_1 rfl dkk dkk ?_
 w_fin
 refine(C_tuple_tup ?_)
 w_fin
 exact q
theorem c_named2 {n:Str}{ps:List V}{Q:V→Sto→Prop}(q:Q (.tup [.str "name",.str n,.tup ps]) σ):CallT (d+1) (.ref 33) [.str n,.tup ps] σ Q:=by
 refine aG b.f_named_2 rfl dkk dkk ?_
 w_fin
 refine(C_tuple_tup ?_)
 w_fin
 exact q
theorem c_tuple_of {a:Addr}{l:List V}{Q:V→Sto→Prop}(ha:σ a=some (.list l))(hz:l.length≤100000)(q:Q (.tup [.str "tuple",.tup l,.none]) σ):CallT (d+1) (.ref 41) [.ref a] σ Q:=by
 refine aG b.f_tuple_of_1 rfl dkk dkk ?_
 w_fin
 refine(C_tuple_list ha (aK hz) ?_)
 w_fin
 exact q
theorem c_tuple_of2 {l:List V}{Q:V→Sto→Prop}(q:Q (.tup [.str "tuple",.tup l,.none]) σ):CallT (d+1) (.ref 41) [.tup l,.none] σ Q:=by
 refine aG b.f_tuple_of_2 rfl dkk dkk ?_
 w_fin
 refine(C_tuple_tup ?_)
 w_fin
 exact q
set_option tactic.hygienic true in
theorem c_parts {k:K}{Q:V→Sto→Prop}(hk:k.sz≤1000)(q:∀c,σ c=none→Q (.ref c) (σ.put c (.list (K.vs k.parts)))):CallT (d+1) (.ref 55) [k.v] σ Q:=by
 refine CallT.forget (aG b.f_parts_of_kind_1 rfl dkk dkk ?_)
 induction k using K.casesOn
 case name n ps=>
  w_fin
  refine(C_list_tup (aK (K.vs_le (ks:=ps) hk)) fun c hc=> ?_)
  w_fin
  exact⟨_,aQ _,q c hc⟩
 case tup ks=>
  w_fin
  refine(C_list_tup (aK (K.vs_le (ks:=ks) hk)) fun c hc=> ?_)
  w_fin
  refine fun c₂ hc₂=> ?_
  w_fin
  have hn:=(none_put hc₂).2
  refine T2_add_list (l:=K.vs ks) (m:=[]) (by rw[aM _ _ hn.symm,aA]) sps (aK (by rw[List.append_nil];exact K.vs_le (ks:=ks) (m:=100000) hk)) fun c₃ hc₃=> ?_
  w_fin
  have h₂:=none_put hc₃
  have h₁:=none_put h₂.1
  refine⟨σ.put c₃ (.list (K.vs ks)),?_,q c₃ h₁.1⟩
  rw[List.append_nil]
  exact Sto.put_mono (aD (aB hc _) (aB hc₂ _)) _ _
 case union ks=>
  w_fin
  refine(C_list_tup (aK (K.vs_le (ks:=ks) hk)) fun c hc=> ?_)
  w_fin
  exact⟨_,aQ _,q c hc⟩
 case all x lo up body=>
  w_fin
  refine fun c hc=> ?_
  w_fin
  exact⟨_,aQ _,q c hc⟩
 case typ k=>
  w_fin
  refine fun c hc=> ?_
  w_fin
  exact⟨_,aQ _,q c hc⟩
 all_goals
  w_fin
  refine fun c hc=> ?_
  w_fin
  exact⟨_,aQ _,q c hc⟩
end
noncomputable def Src.rest:Src→List V
 | .list _ xs i=>xs.drop i
 | .tup xs i=>xs.drop i
 | .rng i n=>(List.range' i (n-i)).map fun(k:Nat)=>V.int k
 | .keys _ _ es i=>(es.drop i).map fun p=>V.str p.1
theorem drop_get {α:Type}{l:List α}{i:Nat}{x:α}(h:l[i]? =some x):l.drop i=x::l.drop (i+1):=by
 refine x11 (List.getElem?_eq_some_iff.mp h) fun hi e=> ?_
 rw[List.drop_eq_getElem_cons hi,e]
set_option tactic.hygienic true in
theorem Src.next_some {s s':Src}{x:V}(h:s.next=some (x,s')):s.rest=x::s'.rest∧∀σ:Sto,s.ok σ→s'.ok σ:=by
 induction s using Src.casesOn with
 |list l xs i=>
  refine x12 (Option.map_eq_some_iff.mp (show(xs[i]?.map fun x=>(x,Src.list l xs (i+1)))=some (x,s') from h)) fun y hy e=> ?_
  have z1:=pI2 e;replace e:=pI1 e;subst e;subst z1;exact⟨drop_get hy,fun σ k=>k⟩
 |tup xs i=>
  refine x12 (Option.map_eq_some_iff.mp (show(xs[i]?.map fun x=>(x,Src.tup xs (i+1)))=some (x,s') from h)) fun y hy e=> ?_
  have z2:=pI2 e;replace e:=pI1 e;subst e;subst z2;exact⟨drop_get hy,fun σ k=>k⟩
 |rng i n=>
  have h:(if i<n then some (V.int i,Src.rng (i+1) n) else none)=some (x,s'):=h
  split at h
  ·rename_i hlt
   replace h:=sI h;have z1:=pI2 h;replace h:=pI1 h;subst h;subst z1
   refine⟨?_,fun σ k=>trivial⟩
   show(List.range' i (n-i)).map _=_::(List.range' (i+1) (n-(i+1))).map _
   have:n-i=(n-(i+1))+1:=by lia
   rw[this,List.range'_succ];simp
  ·exact nS h
 |keys d o es i=>
  refine x12 (Option.map_eq_some_iff.mp (show(es[i]?.map fun x=>(V.str x.1,Src.keys d o es (i+1)))=some (x,s') from h)) fun y hy e=> ?_
  have z3:=pI2 e;replace e:=pI1 e;subst e;subst z3
  exact⟨by show(es.drop i).map _=_::(es.drop (i+1)).map _;rw[drop_get hy];rfl,fun σ k=>k⟩
set_option tactic.hygienic true in
theorem Src.next_none {s:Src}(h:s.next=none):s.rest=[]:=by
 induction s using Src.casesOn with
 |list l xs i=>exact List.drop_eq_nil_of_le (List.getElem?_eq_none_iff.mp (Option.map_eq_none_iff.mp (show(xs[i]?.map fun x=>(x,Src.list l xs (i+1)))=none from h)))
 |tup xs i=>exact List.drop_eq_nil_of_le (List.getElem?_eq_none_iff.mp (Option.map_eq_none_iff.mp (show(xs[i]?.map fun x=>(x,Src.tup xs (i+1)))=none from h)))
 |rng i n=>
  have h:(if i<n then some (V.int i,Src.rng (i+1) n) else none)=none:=h
  split at h
  ·exact nS' h
  ·rename_i hlt
   show(List.range' i (n-i)).map _=[]
   have:n-i=0:=by lia
   rw[this];rfl
 |keys d o es i=>
  show(es.drop i).map _=[]
  rw[List.drop_eq_nil_of_le (List.getElem?_eq_none_iff.mp (Option.map_eq_none_iff.mp (show(es[i]?.map fun x=>(V.str x.1,Src.keys d o es (i+1)))=none from h)))]
  rfl
theorem Src.case (s:Src):(∃x s',s.next=some (x,s')∧s.rest=x::s'.rest∧∀σ:Sto,s.ok σ→s'.ok σ)∨(s.next=none∧s.rest=[]):=by
 induction h:s.next using Option.casesOn with
 |none=>exact .inr ⟨rfl,Src.next_none h⟩
 |some p=>obtain⟨x,s'⟩:=p;exact .inl ⟨x,s',rfl,Src.next_some h⟩
theorem Loc.put_put (ρ:Loc)(x:Str)(u v:V):(ρ.put x u).put x v=ρ.put x v:=by
 funext y;dsimp only[Loc.put];split<;>rfl
section
variable {d:Nat}{sc:Nms}{ρ:Loc}{σ:Sto}
theorem TIfs.mono:∀{cs:List Expr} {σ:Sto} {Q Q':Bool→Sto→Prop},TIfs d sc cs ρ σ Q→(∀b σ',Q b σ'→Q' b σ')→TIfs d sc cs ρ σ Q'
 | [],_,_,_,h,m=>m _ _ h
 |c::cs,_,_,_,h,m=>TB.mono h fun b σ' hb=>by
  induction b using Bool.casesOn with
  |true=>exact TIfs.mono hb m
  |false=>exact m _ _ hb
theorem TCo_map {elt:Expr}{gens:List Comprehension}{cs:Scope}{cp:Pos}{k:Nat}{t:Str}{tp:Pos}{iter:Expr}{ifs:List Expr}{ρ₀:Loc}{Q:List V→Loc→Sto→Prop}(p:V→Bool)(f:V→V)
  (hg:gens[k]? =some ⟨.Name t tp,iter,ifs,0⟩) (hg':gens[k+1]? =none) (ht:sc.lookup t=some .local):
  ∀{src:Src} {acc:List V} {ρ:Loc},src.ok σ→(∀u,ρ.put t u=ρ₀.put t u)→acc.length+src.rest.length≤100000→
  (∀x∈src.rest,TIfs d sc ifs (ρ₀.put t x) σ fun c σ'=>c=p x∧σ'=σ)→(∀x∈src.rest,p x=true→TE d sc elt (ρ₀.put t x) σ fun v σ'=>v=f x∧σ'=σ)→
  (∀ρ',Q (acc++(src.rest.filter p).map f) ρ' σ)→TCo d sc elt gens cs cp k src acc ρ σ Q:=by
 suffices H:∀(n:Nat) {src:Src} {acc:List V} {ρ:Loc},src.rest.length=n→src.ok σ→(∀u,ρ.put t u=ρ₀.put t u)→acc.length+src.rest.length≤100000→
  (∀x∈src.rest,TIfs d sc ifs (ρ₀.put t x) σ fun c σ'=>c=p x∧σ'=σ)→(∀x∈src.rest,p x=true→TE d sc elt (ρ₀.put t x) σ fun v σ'=>v=f x∧σ'=σ)→
  (∀ρ',Q (acc++(src.rest.filter p).map f) ρ' σ)→TCo d sc elt gens cs cp k src acc ρ σ Q from fun {src acc ρ}=>H _ rfl
 intro n
 induction n with
 |zero=>
  intro src acc ρ hn ok hρ hz hi he q
  rcases src.case with⟨x,s',_,h2,_⟩|⟨h1,h2⟩
  ·rw[h2] at hn;simp at hn
  ·exact TCo_end hg rfl ok h1 (by have:=q ρ;rw[h2] at this;simpa using this)
 |succ n ih=>
  intro src acc ρ hn ok hρ hz hi he q
  rcases src.case with⟨x,s',h1,h2,h3⟩|⟨h1,h2⟩
  ·rw[h2] at hn hz
   refine TCo_turn hg hg' ok h1 (aK (l_al hz)) (TL_name ht) ?_
   rw[hρ x]
   have hx:=hi x (by rw[h2];exact .head _)
   refine TIfs.mono hx fun c σ' ⟨e1,e2⟩=> ?_
   subst e1;subst e2
   have go:∀acc',acc'.length+s'.rest.length≤100000→(∀ρ',Q (acc'++(s'.rest.filter p).map f) ρ' σ')→TCo d sc elt gens cs cp k s' acc' (ρ₀.put t x) σ' Q:=fun acc' hz' q'=>
    ih (by simpa using hn) (h3 _ ok) (fun u=>by rw[Loc.put_put]) hz' (fun y hy=>hi y (by rw[h2];exact .tail _ hy)) (fun y hy=>he y (by rw[h2];exact .tail _ hy)) q'
   induction hp:p x using Bool.casesOn with
   |true=>
    rw[if_pos rfl]
    refine TE.mono (he x (by rw[h2];exact .head _) hp) fun v σ'' ⟨e1,e2⟩=> ?_
    subst e1;subst e2
    refine go _ (by simp;simp at hz;lia) fun ρ'=> ?_
    have:=q ρ'
    rw[h2,List.filter_cons_of_pos hp] at this
    simpa using this
   |false=>
    rw[if_neg (by decide)]
    refine go _ (by simp at hz;lia) fun ρ'=> ?_
    have:=q ρ'
    rw[h2,List.filter_cons_of_neg (by rw[hp];decide)] at this
    exact this
  ·rw[h2] at hn;simp at hn
end
noncomputable def xs (l:List X):List V:=l.map fun x=> .str x.s
theorem xs_mem {x:X}{l:List X}:V.str x.s∈xs l↔x∈l:=by
 unfold xs
 rw[List.mem_map]
 constructor
 ·rintro⟨y,hy,e⟩
  have:y=x:=X.inj (by injection e)
  exact this▸hy
 ·exact fun h=>⟨x,h,rfl⟩
theorem xs_gr (l:List X):V.grs (xs l)=true:=V.grs_of fun v hv=>by
 refine x12 (List.mem_map.mp hv) fun x _ z1=> ?_;subst z1
 exact x.ok
mutual
noncomputable def K.fv (bd:List X):K→List X→List X
 | .var x,acc=>if x∈bd∨x∈acc then acc else acc++ [x]
 | .all x lo up b,acc=>b.fv (bd++ [x]) (up.fv bd (lo.fv bd acc))
 | .name _ ps,acc=>K.fvs bd ps acc
 | .tup ks,acc=>K.fvs bd ks acc
 | .union ks,acc=>K.fvs bd ks acc
 | .typ k,acc=>k.fv bd acc
 | .bot,acc=>acc
 | .num _,acc=>acc
noncomputable def K.fvs (bd:List X):List K→List X→List X
 | [],acc=>acc
 |k::l,acc=>K.fvs bd l (k.fv bd acc)
end
noncomputable def fvSt:List (K×List X)→List X→List X
 | [],acc=>acc
 |p::r,acc=>fvSt r (p.1.fv p.2 acc)
theorem fvSt_parts (bd:List X)(r:List (K×List X)):∀(l:List K) (acc:List X),fvSt (l.map (fun k=>(k,bd))++r) acc=fvSt r (K.fvs bd l acc)
 | [],acc=>rfl
 |k::l,acc=>fvSt_parts bd r l _
noncomputable def szSt (st:List (K×List X)):Nat:=(st.map fun p=>p.1.sz).sum
theorem szSt_parts (bd:List X):∀(l:List K),szSt (l.map (fun k=>(k,bd)))=K.szs l
 | []=>rfl
 |k::l=>congrArg (k.sz+ ·) (szSt_parts bd l)
theorem szSt_append (a b:List (K×List X)):szSt (a++b)=szSt a+szSt b:=by simp[szSt]
theorem szSt_len:∀st:List (K×List X),st.length≤szSt st
 | []=>Nat.le_refl _
 |p::r=>by have:=p.1.sz_pos;have:=szSt_len r;simp[szSt] at this⊢;lia
noncomputable def fvV (p:K×List X):V:= .tup [p.1.v,.tup (xs p.2)]
noncomputable def bdOk (st:List (K×List X)):Prop:=∀p∈st,p.1.sz+p.2.length≤1000
theorem Sto.put_le {σ₀ σ':Sto}{a:Addr}{x:AO}(l:σ₀.le σ')(h:σ' a=some x):(σ₀.put a x).le σ':=fun b o e=>by
 by_cases z:b=a
 ·replace z:=z.symm;subst z;rw[aA] at e;replace e:=sI e;subst e;exact h
 ·rw[aM _ _ z] at e;exact l b o e
theorem aC {σ:Sto}{a c:Addr}{x y:AO}(h:σ a=some x)(hc:σ c=none):(σ.put c y) a=some x:=by
 rw[aM _ _ (fun z=>by subst z;rw[h] at hc;exact nS' hc)];exact h
theorem aF {σ:Sto}{a c:Addr}{x y:AO}(h:σ a=some x)(n:a≠c):(σ.put c y) a=some x:=by
 rw[aM _ _ n];exact h
theorem Sto.ne_new {σ:Sto}{a c:Addr}{x:AO}(h:σ a=some x)(hc:σ c=none):a≠c:=fun z=>by subst z;rw[h] at hc;exact nS' hc
theorem aR {σ₀ σ:Sto}{a:Addr}(l:σ₀.le σ)(h:σ₀ a=none)(x:AO):σ₀.le (σ.put a x):=Sto.le_put_of l h x
theorem aE {σ₀ σ:Sto}{a:Addr}(l:σ₀.le σ)(h:σ a=none)(x:AO):σ₀.le (σ.put a x):=aD l (aB h x)
section
variable {d:Nat}{σ:Sto}
noncomputable def fvW:Stmt:=nthS (aI (defAt 10)) 1
noncomputable def fvElse:Stmt:=nthS (stElse (nthS (stElse (nthS (aI fvW) 1)) 0)) 0
theorem fv_else {k:K}{bd:List X}{L:List V}{al:Addr}{ρ:Loc}{cn:Bool}{Q:PV}(hh:ρ "here"=some k.v)(hb:ρ "bound"=some (.tup (xs bd)))(sl:σ al=some (.list L))(hk:k.sz≤1000)(hL:L.length≤2000)
  (q:∀σ',(σ.put al (.list (L++(k.parts.map fun p=>fvV (p,bd)).reverse))).le σ'→Q .none σ'):Ml "extend" (.ref al) (evs (ev (d+1) cn (aH (defAt 10)) 11) (exArgs fvElse)) (kMl (d+1) Q) ρ σ:=by
 have hPl:k.parts.length≤1000:=by
  have:=K.szs_len k.parts
  rcases k.parts_sz with h|h
  ·exact nT this (nT (l_al h) hk)
  ·rw[h];simp
 refine Ml_bi (GM_extend sl) ?_
 w_fin
 refine TE_comp rfl dkk (TE_slice ?_)
 w_fin
 refine((c_parts hk fun c₂ hc₂=> ?_).v)
 w_fin
 refine⟨_,rfl,Lf.i ⟨c₂,_,rfl,aA _ _ _,aK ?_,by decide,fun c₃ hc₃=> ?_⟩⟩
 ·rw[aO];exact lt3 hPl
 rw[pick_rev]
 refine kSrc.i (.list sps) ?_
 refine TCo_map (fun _=>true) (fun v=> .tup [v,.tup (xs bd)]) rfl rfl dkk sps (fun _=>rfl) ?_ ?_ ?_ ?_
 ·show 0+((K.vs _).reverse.drop 0).length≤100000
  simp[aO];exact lt3 hPl
 ·exact fun x _=>⟨rfl,rfl⟩
 ·intro x _ _
  w_fin
  exact⟨rfl,rfl⟩
 intro ρ' c₄ hc₄
 w_fin
 have el:(Src.list c₃ (K.vs k.parts).reverse 0).rest=(K.vs k.parts).reverse:=rfl
 rw[el]
 have ef: []++((K.vs k.parts).reverse.filter fun _=>true).map (fun v=>V.tup [v,.tup (xs bd)])=(k.parts.map fun p=>fvV (p,bd)).reverse:=by
  rw[List.filter_eq_self.mpr (fun _ _=>rfl),List.nil_append,K.vs_map,List.map_reverse,List.map_map];rfl
 rw[ef]
 refine C_extend (aC (aC (aC sl hc₂) hc₃) hc₄) sps (aK ?_) ?_
 ·simp;exact lt3 (Nat.add_le_add hL hPl)
 refine q _ (Sto.put_mono ?_ _ _)
 exact aE (aE (aB hc₂ _) hc₃ _) hc₄ _
theorem fv_nil {σ₀:Sto}{af al:Addr}{Q:Fl→Loc→Sto→Prop}{acc:List X}{ρ:Loc}(hle:σ₀.le σ)(hf:ρ "found"=some (.ref af))(hl:ρ "left"=some (.ref al))(sf:σ af=some (.list (xs acc)))(sl:σ al=some (.list []))
  (q:∀ρ' σ',ρ' "found"=some (.ref af)→σ₀.le σ'→σ' af=some (.list (xs acc))→Q .next ρ' σ'):TWh (d+1) (aH (defAt 10)) (stTest fvW) (aI fvW) ρ σ Q:=by
 refine TWh_step ?_
 got_up
 refine fun c hc=> ?_
 got_up
 refine T2_ne_nil (l:=[]) (r:=true) (aC sl hc) sps ⟨fun _=>rfl,fun _=>rfl⟩ ?_
 got_up
 exact q _ _ hf (aE hle hc _) (aC sf hc)
theorem K.fv_parts {k:K}(h:k.va=false)(bd acc:List X):K.fvs bd k.parts acc=k.fv bd acc:=by
 induction k using K.casesOn<;>first|rfl|exact nB h.symm
theorem ar_all (a b c t:Nat):a+(b+(c+t))+1=a+b+c+1+t:=by omega
theorem ar_app (a b:Nat):a+(b+1)=1+a+b:=by omega
theorem fv_loop {σ₀:Sto}{af al:Addr}{Q:Fl→Loc→Sto→Prop}(hfl:af≠al)(hf0:σ₀ af=none)(hl0:σ₀ al=none)(n:Nat):∀(st:List (K×List X)) (acc:List X) (ρ:Loc) (σ:Sto),szSt st≤n→σ₀.le σ→ρ "found"=some (.ref af)→ρ "left"=some (.ref al)→
  σ af=some (.list (xs acc))→σ al=some (.list (st.reverse.map fvV))→szSt st+acc.length≤2000→bdOk st→
  (∀ρ' σ',ρ' "found"=some (.ref af)→σ₀.le σ'→σ' af=some (.list (xs (fvSt st acc)))→Q .next ρ' σ')→
  TWh (d+1) (aH (defAt 10)) (stTest fvW) (aI fvW) ρ σ Q:=by
 induction n with
 |zero=>
  intro st acc ρ σ hn hle hf hl sf sl _ _ q
  induction st using List.casesOn with
  |nil=>exact fv_nil hle hf hl sf sl q
  |cons p st=>exact absurd (nT (nT p.1.sz_pos (Nat.le_add_right _ _)) hn) (Nat.not_succ_le_zero 0)
 |succ n ih=>
  intro st acc ρ σ hn hle hf hl sf sl hz hb q
  induction st using List.casesOn with
  |nil=>exact fv_nil hle hf hl sf sl q
  |cons p st=>
  obtain⟨k,bd⟩:=p
  have hst:bdOk st:=fun p hp=>hb p (.tail _ hp)
  have hkb:k.sz+bd.length≤1000:=hb _ (.head _)
  have hlen:(st.reverse.map fvV).length≤2000:=by rw[List.length_map,List.length_reverse];exact nT (szSt_len st) (nT (Nat.le_add_left _ _) (l_al hz))
  have go:∀{st':List (K×List X)} {acc':List X} {ρ':Loc} {σ':Sto},szSt st'+1≤szSt ((k,bd)::st)→szSt st'+acc'.length≤szSt ((k,bd)::st)+acc.length→σ₀.le σ'→ρ' "found"=some (.ref af)→ρ' "left"=some (.ref al)→σ' af=some (.list (xs acc'))→σ' al=some (.list (st'.reverse.map fvV))→
    bdOk st'→fvSt st' acc'=fvSt ((k,bd)::st) acc→TWh (d+1) (aH (defAt 10)) (stTest fvW) (aI fvW) ρ' σ' Q:=fun {st' acc' ρ' σ'} h1 h7 h2 h3 h4 h5 h6 h8 h9=>
   ih st' acc' ρ' σ' (Nat.le_of_succ_le_succ (nT h1 hn)) h2 h3 h4 h5 h6 (nT h7 hz) h8 fun ρ'' σ'' a1 a2 a3=>q ρ'' σ'' a1 a2 (h9▸a3)
  clear ih q hn hb
  refine TWh_step ?_
  got_up
  refine fun c hc=> ?_
  got_up
  refine T2_ne_nil (r:=false) (aC sl hc) sps ⟨fun h=>nB h,fun h=>by rw[List.reverse_cons,List.map_append] at h;exact absurd (List.append_eq_nil_iff.mp h).2 (List.cons_ne_nil _ _)⟩ ?_
  have sf1:=aC (y:= .list []) sf hc
  have sl1:=aC (y:= .list []) sl hc
  have hle1:=aE hle hc (.list [])
  generalize σ.put c (.list [])=σ1 at sf1 sl1 hle1⊢
  clear hc sf sl hle
  rw[List.reverse_cons,List.map_append] at sl1
  got_up
  refine Ml_bi (GM_pop sl1) ?_
  got_up
  refine C_pop sl1 (by rw[sizeLine_eq];exact Nat.lt_of_le_of_lt hlen (by decide)) ?_
  have sf2:=aF (y:= .list (st.reverse.map fvV)) sf1 hfl
  have hle2:=aR hle1 hl0 (.list (st.reverse.map fvV))
  have sl2:=aA σ1 al (.list (st.reverse.map fvV))
  generalize σ1.put al (.list (st.reverse.map fvV))=σ2 at sf2 sl2 hle2⊢
  clear sf1 sl1 hle1
  got_up
  refine v_item0 k ?_
  got_up
  induction nv:k.va using Bool.casesOn with
  |false=>
   have nw:=K.va_word nv
   refine T2_eqSf nw.1 ?_
   got_up
   refine v_item0 k ?_
   got_up
   refine T2_eqSf nw.2 ?_
   got_up
   refine fv_else (bd:=bd) (by rfl) (by rfl) sl2 (l_al hkb) hlen fun σ' hσ'=>⟨rfl,?_⟩
   got_up
   have hq:K.szs k.parts+1≤k.sz:=k.parts_sz.elim id fun h=>by rw[h];exact k.sz_pos
   have e:szSt (k.parts.map (fun p=>(p,bd))++st)=K.szs k.parts+szSt st:=by rw[szSt_append,szSt_parts]
   refine go (st':=k.parts.map (fun p=>(p,bd))++st) (by rw[e,Nat.add_right_comm];exact Nat.add_le_add_right hq _) (by rw[e];exact Nat.add_le_add_right (Nat.add_le_add_right (Nat.le_of_succ_le hq) _) _) (aD (aR hle2 hl0 _) hσ') hf hl (hσ' _ _ (aF sf2 hfl)) (hσ' _ _ ?_) (fun p hp=> ?_) (by rw[fvSt_parts,K.fv_parts nv];rfl)
   ·rw[aA,List.reverse_append,List.map_append,←List.map_reverse,←List.map_reverse,List.map_map];rfl
   ·rcases List.mem_append.mp hp with hp|hp
    ·refine x12 (List.mem_map.mp hp) fun k' hk' z2=> ?_;subst z2
     exact nT (Nat.add_le_add_right (Nat.le_of_succ_le (K.part_lt hk').2) _) hkb
    ·exact hst p hp
  |true=>
  induction k using K.casesOn with
  |var x=>
   refine T2_eqS (by kernel_rfl) ?_
   got_up
   by_cases hx:x∈bd
   ·refine T2_notin_tup (r:=true) (by simp[xs_mem,hx]) x.ok (xs_gr bd) (Nat.zero_le _) ?_
    got_up
    exact go (Nat.le_of_eq (Nat.add_comm _ _)) (Nat.add_le_add_right (Nat.le_add_left _ _) _) hle2 hf hl sf2 sl2 hst (congrArg (fvSt st) (if_pos (.inl hx)).symm)
   ·refine T2_notin_tup (r:=false) (by simp[xs_mem,hx]) x.ok (xs_gr bd) (Nat.zero_le _) ?_
    got_up
    by_cases hy:x∈acc
    ·refine T2_notin_list sf2 (r:=true) (by simp[xs_mem,hy]) x.ok (xs_gr acc) (Nat.zero_le _) ?_
     got_up
     exact go (Nat.le_of_eq (Nat.add_comm _ _)) (Nat.add_le_add_right (Nat.le_add_left _ _) _) hle2 hf hl sf2 sl2 hst (congrArg (fvSt st) (if_pos (.inr hy)).symm)
    ·refine T2_notin_list sf2 (r:=false) (by simp[xs_mem,hy]) x.ok (xs_gr acc) (Nat.zero_le _) ?_
     got_up
     refine Ml_bi (GM_append sf2) ?_
     got_up
     refine C_append sf2 (aK (by rw[xs,List.length_map];exact lt3 (l_ar hz))) ⟨rfl,?_⟩
     got_up
     refine go (acc':=acc++ [x]) (Nat.le_of_eq (Nat.add_comm _ _)) (by rw[List.length_append];exact Nat.le_of_eq (ar_app _ _)) (aR hle2 hf0 _) hf hl ?_ (aF sl2 hfl.symm) hst (congrArg (fvSt st) (if_neg fun h=>h.elim hx hy).symm)
     rw[aA,xs,xs,List.map_append];rfl
  |all x lo up body=>
   refine T2_eqSf (by kernel_rfl) ?_
   got_up
   refine Ml_bi (GM_append sl2) ?_
   got_up
   refine T2_add_tup (aK (by rw[List.length_append,xs,List.length_map];exact lt3 (Nat.add_le_add_right (l_ar hkb) 1))) ?_
   got_up
   refine C_append sl2 (aK (lt3 hlen)) ⟨rfl,?_⟩
   have ex:V.tup [body.v,V.tup (xs bd++ [V.str x.s])]=fvV (body,bd++ [x]):=by rw[fvV,xs,xs,List.map_append];rfl
   rw[ex]
   have sf3:=aF (y:= .list (st.reverse.map fvV++ [fvV (body,bd++ [x])])) sf2 hfl
   have hle3:=aR hle2 hl0 (.list (st.reverse.map fvV++ [fvV (body,bd++ [x])]))
   have sl3:=aA σ2 al (.list (st.reverse.map fvV++ [fvV (body,bd++ [x])]))
   generalize σ2.put al (.list (st.reverse.map fvV++ [fvV (body,bd++ [x])]))=σ3 at sf3 sl3 hle3⊢
   got_up
   refine Ml_bi (GM_extend sl3) ?_
   got_up
   refine fun c₂ hc₂=> ?_
   got_up
   refine C_extend (aC sl3 hc₂) sps (aK (by rw[List.length_append,List.length_append];exact lt3 (Nat.add_le_add_right (Nat.add_le_add_right hlen 1) 2))) ⟨rfl,?_⟩
   got_up
   refine go (st':=(lo,bd)::(up,bd)::(body,bd++ [x])::st) (Nat.le_of_eq (ar_all _ _ _ _)) (Nat.add_le_add_right (Nat.le_of_succ_le (Nat.le_of_eq (ar_all _ _ _ _))) _) (aR (aE hle3 hc₂ _) hl0 _) hf hl (aF (aC sf3 hc₂) hfl) ?_ ?_ rfl
   ·rw[aA,List.reverse_cons,List.reverse_cons,List.reverse_cons,List.map_append,List.map_append,List.map_append,List.append_assoc _ (List.map fvV [(up,bd)])];rfl
   ·have h2:lo.sz+up.sz+body.sz+1+bd.length≤1000:=hkb
    intro p hp
    cases hp with
    |head=>exact nT (Nat.add_le_add_right (Nat.le_succ_of_le (nT (Nat.le_add_right _ _) (Nat.le_add_right _ _))) _) h2
    |tail _ hp=>cases hp with
     |head=>exact nT (Nat.add_le_add_right (Nat.le_succ_of_le (nT (Nat.le_add_left _ _) (Nat.le_add_right _ _))) _) h2
     |tail _ hp=>cases hp with
      |head=>show body.sz+(bd++ [x]).length≤1000;rw[List.length_append];exact nT (Nat.le_of_eq (by rw[←Nat.add_assoc,Nat.add_right_comm];rfl)) (nT (Nat.add_le_add_right (Nat.add_le_add_right (Nat.le_add_left _ _) 1) _) h2)
      |tail _ hp=>exact hst p hp
  |_=>exact nB nv
theorem c_free_vars {k:K}{Q:V→Sto→Prop}(hk:k.sz≤1000)(q:∀c,σ c=none→Q (.ref c) (σ.put c (.list (xs (k.fv [] []))))):CallT (d+2) (.ref 72) [k.v] σ Q:=by
 refine CallT.forget (aG b.f_free_vars_1 rfl dkk dkk ?_)
 refine TS_cons (TS_sw false (by rfl) dkk (by rfl) ?_)
 got_up
 refine fun af hf=> ?_
 got_up
 refine fun al hl=> ?_
 got_up
 have hl':=none_put hl
 refine TS_while (fv_loop (σ₀:=σ) hl'.2.symm hf hl'.1 (szSt [(k,[])]) [(k,[])] [] _ _ (Nat.le_refl _) (aE (aB hf _) hl _) (by rfl) (by rfl) (aF sps hl'.2.symm) ?_ (by simp[szSt];exact lt3 hk) ?_ fun ρ' σ' h1 h2 h3=> ?_)
 ·rw[aA];rfl
 ·intro p hp
  cases hp with
  |head=>simpa using hk
  |tail _ hp=>cases hp
 got_up
 exact⟨_,Sto.put_le h2 h3,q af hf⟩
noncomputable def N.rk:N→Nat
 | .nAny=>5
 | .nType=>44
 | .nFunction=>17
 | .nNumber=>27
 | .nAbstractChar=>1
 | .nAbstractString=>3
 | .nException=>15
 | .nReal=>30
 | .nInteger=>23
 | .nSigned=>35
 | .nUnsigned=>52
 | .nInt8=>22
 | .nInt16=>19
 | .nInt32=>20
 | .nInt64=>21
 | .nBigInt=>8
 | .nUInt8=>49
 | .nUInt16=>46
 | .nUInt32=>47
 | .nUInt64=>48
 | .nBool=>9
 | .nChar=>11
 | .nString=>38
 | .nSymbol=>40
 | .nNothing=>26
 | .nExpr=>16
 | .nDivideError=>13
 | .nInexactError=>18
 | .nTypeError=>45
 | .nStackOverflowError=>36
 | .nArgumentError=>6
 | .nOverflowError=>28
 | .nDimensionMismatch=>12
 | .nErrorException=>14
 | .nMethodError=>24
 | .nAmbiguousError=>4
 | .nUndefVarError=>50
 | .nBoundsError=>10
 | .nAbstractArray=>0
 | .nArray=>7
 | .nSubArray=>39
 | .nAbstractRange=>2
 | .nUnitRange=>51
 | .nStepRange=>37
 | .nRef=>31
 | .nRational=>29
noncomputable def X.rk:X→Nat
 | .T0=>41
 | .N0=>25
 | .T1=>42
 | .S2=>32
 | .T1a=>43
 | .S2a=>33
 | .S2b=>34
inductive At where
 |nm (n:N)
 |vr (x:X)
 deriving DecidableEq
noncomputable def At.k:At→K
 | .nm n=> .name n []
 | .vr x=> .var x
noncomputable def At.s:At→Str
 | .nm n=>n.s
 | .vr x=>x.s
noncomputable def At.rk:At→Nat
 | .nm n=>n.rk
 | .vr x=>x.rk
noncomputable def At.all:List At:=N.all.map .nm++X.all.map .vr
theorem At.mem (a:At):a∈At.all:=by
 induction a using At.casesOn with
 |nm n=>exact List.mem_append_left _ (List.mem_map.mpr ⟨n,n.mem,rfl⟩)
 |vr x=>exact List.mem_append_right _ (List.mem_map.mpr ⟨x,x.mem,rfl⟩)
theorem At.rk_all:(At.all.all fun a=>At.all.all fun b=>decide ((¬(b.s.cps.toList<a.s.cps.toList))↔a.rk≤b.rk)&&decide (a.rk=b.rk→a=b))=true:=by decide +kernel
theorem At.rk_le {a b:At}:(¬(b.s.cps.toList<a.s.cps.toList))↔a.rk≤b.rk:=by
 have:=lA (lA At.rk_all a a.mem) b b.mem
 simp only[Bool.and_eq_true,decide_eq_true_eq] at this
 exact this.1
theorem At.rk_inj {a b:At}(h:a.rk=b.rk):a=b:=by
 have:=lA (lA At.rk_all a a.mem) b b.mem
 simp only[Bool.and_eq_true,decide_eq_true_eq] at this
 exact this.2 h
theorem N.s_nil (n:N):n.s++("":Str)=n.s:=by induction n using N.casesOn<;>decide +kernel
theorem At.k_inj {a b:At}(h:a.k=b.k):a=b:=by
 induction a using At.casesOn<;>cases b<;>simp[At.k] at h<;>simp[h]
theorem c_kind_text {a:At}{Q:V→Sto→Prop}(q:Q (.str a.s) σ):CallT (d+1) (.ref 91) [a.k.v] σ Q:=by
 refine CallT.forget (aG b.f_kind_text_1 rfl dkk dkk ?_)
 induction a using At.casesOn with
 |vr x=>
  w_fin
  exact⟨_,aQ _,q⟩
 |nm n=>
  w_fin
  refine Ml_bi (GM_join) ?_
  w_fin
  refine TE_comp rfl dkk ?_
  w_fin
  refine kSrc.i .tup (TCo_end rfl rfl trivial rfl fun c hc=> ?_)
  w_fin
  refine C_join (ys:=[]) sps (by simp) ?_
  w_fin
  refine T2_ne (r:=true) ⟨fun _=>rfl,fun _=>rfl⟩ rfl rfl (Nat.le_of_ble_eq_true rfl) ?_
  w_fin
  refine T2_add_str ?_ ?_
  ·rw[N.s_nil];induction n using N.casesOn<;>(rw[sizeLine_eq];decide +kernel)
  w_fin
  rw[N.s_nil]
  exact⟨_,aB hc _,q⟩
inductive U where
 |at (a:At)
 |un (l:List At)
noncomputable def U.ats:U→List At
 | .at a=> [a]
 | .un l=>l
noncomputable def U.k:U→K
 | .at a=>a.k
 | .un l=> .union (l.map At.k)
noncomputable def ded (acc:List At) (a:At):List At:=if a∈acc then acc else acc++ [a]
noncomputable def insA (a:At):List At→List At
 | []=> [a]
 |b::l=>if a.rk≤b.rk then a::b::l else b::insA a l
noncomputable def sortA:List At→List At
 | []=> []
 |a::l=>insA a (sortA l)
noncomputable def unionB:List At→K
 | []=> .bot
 | [a]=>a.k
 |a::b::r=> .union ((sortA (a::b::r)).map At.k)
noncomputable def unionA (l:List At):K:=if At.nm .nAny∈l then .name .nAny [] else unionB l
noncomputable def unionOf (l:List U):K:=unionA ((l.flatMap U.ats).foldl ded [])
theorem insA_perm (a:At):∀l,(insA a l).Perm (a::l)
 | []=> .refl _
 |b::l=>by
  show(if _ then _ else _:List At).Perm _;split
  ·exact .refl _
  ·exact((insA_perm a l).cons b).trans (.swap _ _ _)
theorem sortA_perm:∀l,(sortA l).Perm l
 | []=> .refl _
 |a::l=>(insA_perm a _).trans ((sortA_perm l).cons a)
set_option tactic.hygienic true in
theorem insA_sorted (a:At):∀l:List At,l.Pairwise (fun x y=>x.rk≤y.rk)→(insA a l).Pairwise (fun x y=>x.rk≤y.rk)
 | [],_=> .cons nMem .nil
 |b::l,h=>by
  show(if _ then _ else _:List At).Pairwise _
  rw[List.pairwise_cons] at h
  split
  ·rename_i hab
   refine List.pairwise_cons.mpr ⟨fun c hc=> ?_,List.pairwise_cons.mpr h⟩
   rcases List.mem_cons.mp hc with rfl|hc
   ·exact hab
   ·exact nT hab (h.1 c hc)
  ·rename_i hab
   refine List.pairwise_cons.mpr ⟨fun c hc=> ?_,insA_sorted a l h.2⟩
   rcases List.mem_cons.mp ((insA_perm a l).mem_iff.mp hc) with rfl|hc
   ·exact Nat.le_of_lt (Nat.lt_of_not_le hab)
   ·exact h.1 c hc
theorem sortA_sorted:∀l:List At,(sortA l).Pairwise (fun x y=>x.rk≤y.rk)
 | []=> .nil
 |a::l=>insA_sorted a _ (sortA_sorted l)
theorem sorted_uniq {l m:List At}(p:l.Perm m)(hl:l.Pairwise (fun x y=>x.rk≤y.rk))(hm:m.Pairwise (fun x y=>x.rk≤y.rk)):l=m:=
 p.eq_of_pairwise (fun a b _ _ h1 h2=>At.rk_inj (Nat.le_antisymm h1 h2)) hl hm
theorem ded_len (acc:List At):∀l:List At,(l.foldl ded acc).length≤acc.length+l.length
 | []=>by simp
 |a::l=>by
  have:=ded_len (ded acc a) l
  have h2:(ded acc a).length≤acc.length+1:=by unfold ded;split<;>simp
  simp only[List.foldl_cons,List.length_cons];omega
noncomputable def U.wt:U→Nat
 | .at _=>1
 | .un l=>1+l.length
noncomputable def szU (st:List U):Nat:=(st.map U.wt).sum
theorem szU_app (a b:List U):szU (a++b)=szU a+szU b:=by simp[szU]
theorem szU_ats (l:List At):szU (l.map .at)=l.length:=by
 induction l with
 |nil=>rfl
 |cons a l ih=>simp[szU,U.wt] at ih⊢;omega
theorem szU_len:∀st:List U,st.length≤szU st
 | []=>Nat.le_refl _
 |u::r=>by
  have:=szU_len r
  have h:1≤u.wt:=by induction u using U.casesOn<;>simp[U.wt]
  simp[szU] at this⊢;omega
noncomputable def uV (u:U):V:=u.k.v
noncomputable def aV (a:At):V:=a.k.v
theorem aV_mem {a:At}{l:List At}:aV a∈l.map aV↔a∈l:=by
 rw[List.mem_map]
 exact⟨fun⟨b,hb,e⟩=>At.k_inj (K.v_inj e)▸hb,fun h=>⟨a,h,rfl⟩⟩
theorem aV_gr (l:List At):V.grs (l.map aV)=true:=V.grs_of fun v hv=>by
 refine x12 (List.mem_map.mp hv) fun a _ z1=> ?_;subst z1
 exact a.k.gr
theorem aV_dep (a:At):(aV a).dep≤400:=by
 exact nT a.k.dep (by induction a using At.casesOn<;>exact Nat.le_of_ble_eq_true rfl)
theorem ats_v (l:List At):K.vs (l.map At.k)=l.map aV:=by rw[K.vs_map,List.map_map];rfl
theorem perm_map {α β:Type}{g:α→β}:∀{ps qs:List β},ps.Perm qs→∀{F:List α},qs=F.map g→∃F':List α,F'.Perm F∧ps=F'.map g:=by
 intro ps qs p
 induction p with
 |nil=>intro F e;exact⟨F,.refl _,by rw[←e]⟩
 |cons x p ih=>
  intro F e
  induction F using List.casesOn with
  |nil=>exact nL' e
  |cons a F=>
   simp only[List.map_cons,List.cons.injEq] at e
   refine x12 (ih e.2) fun F' h1 h2=> ?_
   exact⟨a::F',h1.cons a,by simp[h2,e.1]⟩
 |swap x y l=>
  intro F e
  match F,e with
  |a::b::F,e=>
   simp only[List.map_cons,List.cons.injEq] at e
   exact⟨b::a::F,.swap _ _ _,by simp[e.1,e.2.1,e.2.2]⟩
 |trans p q ihp ihq=>
  intro F e
  refine x12 (ihq e) fun F' h1 h2=> ?_
  refine x12 (ihp h2) fun F'' h3 h4=> ?_
  exact⟨F'',h3.trans h1,h4⟩
theorem sorted_is {F:List At}{ps:List (Str×V)}(hp:ps.Perm ((F.map At.s).zip (F.map aV)))(hw:ps.Pairwise KLe):ps.map (·.2)=K.vs ((sortA F).map At.k):=by
 have e:(F.map At.s).zip (F.map aV)=F.map fun a=>(a.s,aV a):=by
  clear hp hw
  induction F with
  |nil=>rfl
  |cons a F ih=>simp[ih]
 refine x12 (perm_map hp e) fun F' h1 h2=> ?_
 subst h2
 have hs:F'.Pairwise (fun x y=>x.rk≤y.rk):=(List.pairwise_map.mp hw).imp fun h=>At.rk_le.mp h
 have:F'=sortA F:=sorted_uniq (h1.trans (sortA_perm F).symm) hs (sortA_sorted F)
 subst this
 rw[ats_v,List.map_map];rfl
noncomputable def unW:Stmt:=nthS (aI (defAt 6)) 1
theorem un_nil {σ₀:Sto}{af al:Addr}{Q:Fl→Loc→Sto→Prop}{l:List V}{ρ:Loc}(hle:σ₀.le σ)(hf:ρ "found"=some (.ref af))(hl:ρ "left"=some (.ref al))(sf:σ af=some (.list l))(sl:σ al=some (.list []))
  (q:∀ρ' σ',ρ' "found"=some (.ref af)→σ₀.le σ'→σ' af=some (.list l)→Q .next ρ' σ'):TWh (d+1) (aH (defAt 6)) (stTest unW) (aI unW) ρ σ Q:=by
 refine TWh_step ?_
 got_up
 refine fun c hc=> ?_
 got_up
 refine T2_ne_nil (l:=[]) (r:=true) (aC sl hc) sps ⟨fun _=>rfl,fun _=>rfl⟩ ?_
 got_up
 exact q _ _ hf (aE hle hc _) (aC sf hc)
theorem ded1 (acc:List At)(a:At):(ded acc a).length≤acc.length+1:=by
 unfold ded
 by_cases h:a∈acc
 ·rw[if_pos h];exact Nat.le_succ _
 ·rw[if_neg h,List.length_append];exact Nat.le_refl _
theorem At.ne_bot (a:At):decide (a.k≠ .bot)=true:=by induction a using At.casesOn<;>exact decide_eq_true fun e=>nomatch e
theorem At.not_un (a:At):(a.k.word !="union"&&PyData.strOk a.k.word&&PyData.strOk "union")=true:=by induction a using At.casesOn<;>kernel_rfl
theorem U.wt_pos (u:U):1≤u.wt:=by
 induction u using U.casesOn with
 |«at» a=>exact Nat.le_refl _
 |un l=>exact Nat.le_add_right _ _
theorem un_loop {σ₀:Sto}{af al:Addr}{Q:Fl→Loc→Sto→Prop}(hfl:af≠al)(hf0:σ₀ af=none)(hl0:σ₀ al=none)(n:Nat):∀(st:List U) (acc:List At) (ρ:Loc) (σ:Sto),szU st≤n→σ₀.le σ→ρ "found"=some (.ref af)→ρ "left"=some (.ref al)→
  σ af=some (.list (acc.map aV))→σ al=some (.list (st.reverse.map uV))→szU st+acc.length≤2000→
  (∀ρ' σ',ρ' "found"=some (.ref af)→σ₀.le σ'→σ' af=some (.list (((st.flatMap U.ats).foldl ded acc).map aV))→Q .next ρ' σ')→
  TWh (d+1) (aH (defAt 6)) (stTest unW) (aI unW) ρ σ Q:=by
 induction n with
 |zero=>
  intro st acc ρ σ hn hle hf hl sf sl _ q
  induction st using List.casesOn with
  |nil=>exact un_nil hle hf hl sf sl q
  |cons u st=>exact absurd (nT (nT u.wt_pos (Nat.le_add_right _ _)) hn) (Nat.not_succ_le_zero 0)
 |succ n ih=>
  intro st acc ρ σ hn hle hf hl sf sl hz q
  induction st using List.casesOn with
  |nil=>exact un_nil hle hf hl sf sl q
  |cons u st=>
  have hlen:(st.reverse.map uV).length≤2000:=by rw[List.length_map,List.length_reverse];exact nT (szU_len st) (nT (Nat.le_add_left _ _) (l_al hz))
  have go:∀{st':List U} {acc':List At} {ρ':Loc} {σ':Sto},szU st'+1≤szU (u::st)→szU st'+acc'.length≤szU (u::st)+acc.length→σ₀.le σ'→ρ' "found"=some (.ref af)→ρ' "left"=some (.ref al)→σ' af=some (.list (acc'.map aV))→σ' al=some (.list (st'.reverse.map uV))→
    (st'.flatMap U.ats).foldl ded acc'=((u::st).flatMap U.ats).foldl ded acc→TWh (d+1) (aH (defAt 6)) (stTest unW) (aI unW) ρ' σ' Q:=fun {st' acc' ρ' σ'} h1 h7 h2 h3 h4 h5 h6 h9=>
   ih st' acc' ρ' σ' (Nat.le_of_succ_le_succ (nT h1 hn)) h2 h3 h4 h5 h6 (nT h7 hz) fun ρ'' σ'' a1 a2 a3=>q ρ'' σ'' a1 a2 (h9▸a3)
  clear ih q hn
  refine TWh_step ?_
  got_up
  refine fun c hc=> ?_
  got_up
  refine T2_ne_nil (r:=false) (aC sl hc) sps ⟨fun h=>nB h,fun h=>by rw[List.reverse_cons,List.map_append] at h;exact absurd (List.append_eq_nil_iff.mp h).2 (List.cons_ne_nil _ _)⟩ ?_
  have sf1:=aC (y:= .list []) sf hc
  have sl1:=aC (y:= .list []) sl hc
  have hle1:=aE hle hc (.list [])
  generalize σ.put c (.list [])=σ1 at sf1 sl1 hle1⊢
  clear hc sf sl hle
  rw[List.reverse_cons,List.map_append] at sl1
  got_up
  refine Ml_bi (GM_pop sl1) ?_
  got_up
  refine C_pop sl1 (by rw[sizeLine_eq];exact Nat.lt_of_le_of_lt hlen (by decide)) ?_
  have sf2:=aF (y:= .list (st.reverse.map uV)) sf1 hfl
  have hle2:=aR hle1 hl0 (.list (st.reverse.map uV))
  have sl2:=aA σ1 al (.list (st.reverse.map uV))
  generalize σ1.put al (.list (st.reverse.map uV))=σ2 at sf2 sl2 hle2⊢
  clear sf1 sl1 hle1
  got_up
  refine v_item0 u.k ?_
  got_up
  induction u using U.casesOn with
  |un l=>
   have hll:l.length≤2000:=nT (nT (Nat.le_add_left _ 1) (Nat.le_add_right _ _)) (l_al hz)
   refine T2_eqS (by kernel_rfl) ?_
   got_up
   refine Ml_bi (GM_extend sl2) ?_
   w_fin
   refine TE_sliceT ?_
   got_up
   refine⟨_,rfl,Lf.i ⟨_,rfl,aK (by rw[aO,List.length_map];exact lt3 hll),.inr ⟨rfl,rfl,rfl,?_⟩⟩⟩
   got_up
   rw[ats_v]
   refine C_extend_tup sl2 (aK (by rw[List.length_append,List.length_reverse,List.length_map (as:=l)];exact lt3 (Nat.add_le_add hlen hll))) ⟨rfl,?_⟩
   got_up
   have e:szU (l.map U.at++st)=l.length+szU st:=by rw[szU_app,szU_ats]
   refine go (st':=l.map U.at++st) (by rw[e,Nat.add_comm,←Nat.add_assoc];exact Nat.le_refl _) (by rw[e];exact Nat.add_le_add_right (Nat.add_le_add_right (Nat.le_add_left _ 1) _) _) (aR hle2 hl0 _) hf hl (aF sf2 hfl) ?_ ?_
   ·rw[aA,List.reverse_append,List.map_append,←List.map_reverse,←List.map_reverse,List.map_map];rfl
   ·rw[List.flatMap_append,List.flatMap_map]
    exact congrArg (fun z=>List.foldl ded acc (z++st.flatMap U.ats)) (List.flatMap_singleton' l)
  |«at» a=>
   have fin:∀{σ' ρ'},σ₀.le σ'→ρ' "found"=some (.ref af)→ρ' "left"=some (.ref al)→σ' af=some (.list ((ded acc a).map aV))→σ' al=some (.list (st.reverse.map uV))→TWh (d+1) (aH (defAt 6)) (stTest unW) (aI unW) ρ' σ' Q:=fun h1 h2 h3 h4 h5=>
    go (Nat.le_of_eq (Nat.add_comm _ _)) (nT (Nat.add_le_add_left (ded1 acc a) _) (Nat.le_of_eq (by rw[←Nat.add_assoc,Nat.add_right_comm,Nat.add_comm (szU st)];rfl))) h1 h2 h3 h4 h5 rfl
   refine T2_eqSf a.not_un ?_
   got_up
   refine T2_neK (a:=a.k) (b:= .bot) (nT (Nat.min_le_right _ _) (by decide)) ?_
   rw[a.ne_bot]
   got_up
   by_cases hm:a∈acc
   ·refine T2_notin_list (x:=aV a) sf2 (r:=true) ⟨fun _=>aV_mem.mpr hm,fun _=>rfl⟩ a.k.gr (aV_gr acc) (aV_dep a) ?_
    got_up
    exact fin hle2 hf hl (by rw[ded,if_pos hm];exact sf2) sl2
   ·refine T2_notin_list (x:=aV a) sf2 (r:=false) ⟨fun h=>nB h,fun h=>absurd (aV_mem.mp h) hm⟩ a.k.gr (aV_gr acc) (aV_dep a) ?_
    got_up
    refine Ml_bi (GM_append sf2) ?_
    got_up
    refine C_append sf2 (aK (by rw[List.length_map];exact lt3 (l_ar hz))) ⟨rfl,?_⟩
    got_up
    exact fin (aR hle2 hf0 _) hf hl (by rw[aA,ded,if_neg hm,List.map_append];rfl) (aF sl2 hfl.symm)
theorem ats_len (l:List U):(l.flatMap U.ats).length≤szU l:=by
 induction l with
 |nil=>exact Nat.le_refl _
 |cons u l ih=>
  rw[List.flatMap_cons,List.length_append]
  exact Nat.add_le_add (by induction u using U.casesOn with|«at» a=>exact Nat.le_refl _|un l=>exact Nat.le_add_left _ _) ih
theorem text_key {F:List At}:KeyFn (d+1) (.ref 91) σ (F.map aV) (F.map At.s):=by
 induction F with
 |nil=>trivial
 |cons a F ih=>exact⟨(c_kind_text ⟨rfl,rfl⟩).v,ih⟩
theorem c_union_of {a:Addr}{l:List U}{Q:V→Sto→Prop}(ha:σ a=some (.list (l.map uV)))(hz:szU l≤60)(q:Q (unionOf l).v σ):CallT (d+4) (.ref 48) [.ref a] σ Q:=by
 have hlen:(l.map uV).length≤60:=by rw[List.length_map];exact nT (szU_len l) hz
 refine CallT.forget (aG b.f_union_of_1 rfl dkk dkk ?_)
 refine TS_cons (TS_sw false (by rfl) dkk (by rfl) ?_)
 w_fin
 refine TE_slice ?_
 got_up
 refine(C_list_list ha (aK (lt3 hlen)) fun c hc=> ?_)
 got_up
 refine⟨_,rfl,Lf.i ⟨c,_,rfl,aA _ _ _,aK (lt3 hlen),by decide,fun al hl=> ?_⟩⟩
 rw[pick_rev]
 got_up
 refine fun af hf=> ?_
 got_up
 have hf':=none_put hf
 have hl':=none_put hl
 have hf'':=none_put hf'.1
 refine TS_while (un_loop (σ₀:=σ) hf'.2 hf''.1 hl'.1 (szU l) l [] _ _ (Nat.le_refl _) (aE (aE (aB hc _) hl _) hf _) (by rfl) (by rfl) sps ?_ (lt3 hz) fun ρ' σ' h1 h2 h3=> ?_)
 ·rw[aM _ _ hf'.2.symm,aA,List.map_reverse]
 have hfl:((l.flatMap U.ats).foldl ded []).length≤60:=nT (ded_len [] _) (nT (Nat.le_of_eq (Nat.zero_add _)) (nT (ats_len l) hz))
 have hq:unionOf l=unionA ((l.flatMap U.ats).foldl ded []):=rfl
 rw[hq] at q
 generalize (l.flatMap U.ats).foldl ded []=F at h3 hfl q
 clear hq hf hl hf' hl' hf'' hc ha hz hlen
 got_up
 unfold unionA at q
 by_cases hm:At.nm .nAny∈F
 ·rw[if_pos hm] at q
  refine T2_in_list (x:=aV (.nm .nAny)) h3 (r:=true) ⟨fun _=>aV_mem.mpr hm,fun _=>rfl⟩ (K.gr _) (aV_gr F) (aV_dep _) ?_
  got_up
  exact⟨_,h2,q⟩
 refine T2_in_list (x:=aV (.nm .nAny)) h3 (r:=false) ⟨fun h=>nB h,fun h=>absurd (aV_mem.mp h) hm⟩ (K.gr _) (aV_gr F) (aV_dep _) ?_
 rw[if_neg hm] at q
 got_up
 refine fun c₁ hc₁=> ?_
 got_up
 have h4:=aC (y:= .list []) h3 hc₁
 have h5:=aE h2 hc₁ (.list [])
 have h6:=aA σ' c₁ (.list [])
 generalize σ'.put c₁ (.list [])=σ1 at h4 h5 h6⊢
 clear hc₁ h2 h3
 rcases F with _|⟨e,F⟩
 ·refine T2_eq_nil h4 h6 (r:=true) ⟨fun _=>rfl,fun _=>rfl⟩ ?_
  got_up
  exact⟨_,h5,q⟩
 refine T2_eq_nil h4 h6 (r:=false) ⟨fun h=>nB h,fun h=>nL' h⟩ ?_
 got_up
 refine(C_len_list h4 (aK (by rw[List.length_map];exact lt3 hfl)) ?_)
 got_up
 rcases F with _|⟨e',F⟩
 ·refine T2_eq (r:=true) ⟨fun _=>rfl,fun _=>rfl⟩ rfl rfl (Nat.zero_le _) ?_
  got_up
  refine aP h4 (by decide) (by decide) (by rfl) ?_
  got_up
  exact⟨_,h5,q⟩
 refine T2_eq (r:=false) ⟨fun h=>nB h,fun h=>by injection h with h;simp at h;omega⟩ rfl rfl (Nat.zero_le _) ?_
 got_up
 refine TE_sorted_key (d':=d+1) rfl ?_
 got_up
 refine⟨rfl,?_⟩
 got_up
 refine⟨af,_,(e::e'::F).map At.s,91,rfl,h4,rfl,text_key,by rw[List.length_map];exact Nat.lt_of_le_of_lt hfl (by decide),fun ps hp hw c₂ hc₂=> ?_⟩
 got_up
 rw[sorted_is hp hw]
 refine(C_tuple_list sps (aK (by rw[aO,List.length_map,(sortA_perm _).length_eq];exact lt3 hfl)) ?_)
 got_up
 exact⟨_,aE h5 hc₂ _,q⟩
end
noncomputable def K.toAt:K→Option At
 | .name n ps=>match ps with
  | []=>some (.nm n)
  |_::_=>none
 | .var x=>some (.vr x)
 | .tup _=>none
 | .union _=>none
 | .all _ _ _ _=>none
 | .typ _=>none
 | .bot=>none
 | .num _=>none
theorem K.toAt_k {k:K}{a:At}(h:k.toAt=some a):k=a.k:=by
 rcases k with⟨n,_|_⟩|_|_|_|_|x|_|_<;>first|exact sI h▸rfl|exact nS h
noncomputable def atsOf:List K→Option (List At)
 | []=>some []
 |k::l=>k.toAt.bind fun a=>(atsOf l).map (a:: ·)
theorem atsOf_k {l:List K}:∀{as:List At},atsOf l=some as→l=as.map At.k:=by
 induction l with
 |nil=>exact fun h=>sI h▸rfl
 |cons k l ih=>exact fun h=>bE h fun a h1 h=>mE h fun r h2 e=>e▸by rw[K.toAt_k h1,ih h2];rfl
noncomputable def K.toU:K→Option U
 | .union ks=>(atsOf ks).map .un
 | .name n ps=>(K.name n ps).toAt.map .at
 | .var x=>some (.at (.vr x))
 | .tup _=>none
 | .all _ _ _ _=>none
 | .typ _=>none
 | .bot=>none
 | .num _=>none
theorem K.toU_k {k:K}{u:U}(h:k.toU=some u):k=u.k:=by
 rcases k with⟨n,ps⟩|_|ks|_|_|x|_|_
 ·exact mE h fun a h e=>e▸K.toAt_k h
 ·exact nS h
 ·exact mE h fun a h e=>e▸by rw[atsOf_k h];rfl
 ·exact nS h
 ·exact nS h
 ·exact sI h▸rfl
 ·exact nS h
 ·exact nS h
noncomputable def usOf:List K→Option (List U)
 | []=>some []
 |k::l=>k.toU.bind fun a=>(usOf l).map (a:: ·)
theorem usOf_k {l:List K}:∀{us:List U},usOf l=some us→l=us.map U.k:=by
 induction l with
 |nil=>exact fun h=>sI h▸rfl
 |cons k l ih=>exact fun h=>bE h fun a h1 h=>mE h fun r h2 e=>e▸by rw[K.toU_k h1,ih h2];rfl
noncomputable def noneU {α:Type}:Option α→Option Unit
 |none=>some ()
 |some _=>none
theorem noneU_ok {α:Type}{o:Option α}{u:Unit}(h:noneU o=some u):o=none:=by
 induction o using Option.casesOn with
 |none=>rfl
 |some _=>exact nS h
noncomputable def fewU (us:List U):Option K:=match Nat.ble (szU us) 60 with
 |true=>some (unionOf us)
 |false=>none
noncomputable def unK:List K→Option K
 | []=>some (.union [])
 |k::l=>(usOf (k::l)).bind fewU
mutual
noncomputable def K.sub (tb:X→Option K):K→Option K
 | .var x=>some ((tb x).getD (.var x))
 | .all x lo up b=>(noneU (tb x)).bind fun _=>(lo.sub tb).bind fun lo'=>(up.sub tb).bind fun up'=>(b.sub tb).map fun b'=> .all x lo' up' b'
 | .name n ps=>(K.subs tb ps).map (.name n)
 | .tup ks=>(K.subs tb ks).map .tup
 | .union ks=>(K.subs tb ks).bind unK
 | .typ k=>(k.sub tb).map .typ
 | .bot=>some .bot
 | .num i=>some (.num i)
noncomputable def K.subs (tb:X→Option K):List K→Option (List K)
 | []=>some []
 |k::l=>(k.sub tb).bind fun k'=>(K.subs tb l).map (k':: ·)
end
theorem K.subs_len {tb:X→Option K}{l:List K}:∀{l':List K},K.subs tb l=some l'→l'.length=l.length:=by
 induction l with
 |nil=>exact fun h=>sI h▸rfl
 |cons k l ih=>exact fun h=>bE h fun a h1 h=>mE h fun r h2 e=>e▸congrArg (·+1) (ih h2)
noncomputable def All2 (P:V→V→Prop):List V→List V→Prop
 | [],[]=>True
 |x::xs,y::ys=>P x y∧All2 P xs ys
 |_,_=>False
noncomputable def Tb (es:List (Str×V)) (tb:X→Option K):Prop:=∀x:X,dget es x.s=(tb x).map K.v
theorem dget_del {es:List (Str×V)}{k y:Str}:dget (ddel es k) y=if y=k then none else dget es y:=by
 unfold dget ddel
 induction es with
 |nil=>simp
 |cons p es ih=>
  obtain⟨a,v⟩:=p
  by_cases h:a=k
  ·subst h
   by_cases hy:y=a
   ·subst hy
    simp at ih⊢
    try exact ih
   ·have:¬a=y:=fun e=>hy e.symm
    simp[hy,this] at ih⊢
    try exact ih
  ·by_cases ha:a=y
   ·replace ha:=ha.symm;subst ha;simp[h]
   ·simp[List.filter_cons,h,ha] at ih⊢;exact ih
theorem Tb.del {es:List (Str×V)}{tb:X→Option K}(h:Tb es tb)(x:X)(hx:tb x=none):Tb (ddel es x.s) tb:=fun y=>by
 rw[dget_del]
 by_cases e:y=x
 ·subst e;simp[hx]
 ·rw[if_neg (fun q=>e (X.inj q)),h y]
section
variable {d:Nat}{sc:Nms}{ρ:Loc}{σ:Sto}
theorem TCo_pts {elt:Expr}{gens:List Comprehension}{cs:Scope}{cp:Pos}{k:Nat}{t:Str}{tp:Pos}{iter:Expr}{ρ₀:Loc}{Q:List V→Loc→Sto→Prop}
  (hg:gens[k]? =some ⟨.Name t tp,iter,[],0⟩) (hg':gens[k+1]? =none) (ht:sc.lookup t=some .local):
  ∀{ys:List V} {src:Src} {acc:List V} {ρ:Loc},src.ok σ→(∀u,ρ.put t u=ρ₀.put t u)→acc.length+ys.length≤100000→
  All2 (fun x y=>TE d sc elt (ρ₀.put t x) σ fun v σ'=>v=y∧σ'=σ) src.rest ys→(∀ρ',Q (acc++ys) ρ' σ)→TCo d sc elt gens cs cp k src acc ρ σ Q
 | [],src,acc,ρ,ok,hρ,hz,h,q=>by
  rcases src.case with⟨x,s',_,h2,_⟩|⟨h1,h2⟩
  ·rw[h2] at h;exact h.elim
  ·exact TCo_end hg rfl ok h1 (by simpa using q ρ)
 |y::ys,src,acc,ρ,ok,hρ,hz,h,q=>by
  rcases src.case with⟨x,s',h1,h2,h3⟩|⟨h1,h2⟩
  ·rw[h2] at h
   refine TCo_turn hg hg' ok h1 (aK (by simp at hz;exact l_al hz)) (TL_name ht) ?_
   rw[hρ x]
   refine TE.mono h.1 fun v σ' ⟨e1,e2⟩=> ?_
   rw[e1,e2]
   exact TCo_pts hg hg' ht (h3 _ ok) (fun u=>by rw[Loc.put_put]) (by simp at hz⊢;lia) h.2 fun ρ'=>by simpa using q ρ'
  ·rw[h2] at h;exact h.elim
end
section
variable {d:Nat}{σ:Sto}
theorem c_rebuilt_name {n:N}{ps ps':List K}{a:Addr}{Q:V→Sto→Prop}(ha:σ a=some (.list (K.vs ps')))(hz:ps'.length≤1000)(q:Q (K.name n ps').v σ):CallT (d+1) (.ref 62) [(K.name n ps).v,.ref a] σ Q:=by
 refine aG b.f_rebuilt_kind_2 rfl dkk dkk ?_
 w_fin
 refine(C_tuple_list ha (aK (by rw[aO];exact lt3 hz)) ?_)
 w_fin
 exact q
theorem c_rebuilt_typ {k k':K}{a:Addr}{Q:V→Sto→Prop}(ha:σ a=some (.list [k'.v]))(q:Q (K.typ k').v σ):CallT (d+1) (.ref 62) [(K.typ k).v,.ref a] σ Q:=by
 refine aG b.f_rebuilt_kind_2 rfl dkk dkk ?_
 w_fin
 refine aP ha (by decide) (by decide) (by rfl) ?_
 w_fin
 exact q
theorem c_rebuilt_union {ks:List K}{us:List U}{a:Addr}{Q:V→Sto→Prop}(ha:σ a=some (.list (us.map uV)))(hz:szU us≤60)(q:Q (unionOf us).v σ):CallT (d+5) (.ref 62) [(K.union ks).v,.ref a] σ Q:=by
 refine aG b.f_rebuilt_kind_2 rfl dkk dkk ?_
 w_fin
 refine((c_union_of ha hz ?_).v)
 w_fin
 exact q
theorem c_rebuilt_tup {ks ks':List K}{a:Addr}{Q:V→Sto→Prop}(ha:σ a=some (.list (K.vs ks')))(hl:ks'.length=ks.length)(hz:ks.length≤1000)(q:Q (K.tup ks').v σ):CallT (d+1) (.ref 62) [(K.tup ks).v,.ref a] σ Q:=by
 refine CallT.forget (aG b.f_rebuilt_kind_2 rfl dkk dkk ?_)
 w_fin
 refine(C_len_tup (aK (by rw[aO];exact lt3 hz)) ?_)
 w_fin
 refine TE_slice ?_
 w_fin
 refine⟨_,rfl,?_⟩
 w_fin
 refine⟨a,_,rfl,ha,aK (by rw[aO];exact nT (Nat.le_of_eq hl) (lt3 hz)),by decide,fun c hc=> ?_⟩
 rw[pick_upto,aO,←hl,←aO ks',List.take_length]
 w_fin
 refine(C_tuple_list sps (aK (by rw[aO];exact nT (Nat.le_of_eq hl) (lt3 hz))) ?_)
 w_fin
 exact⟨_,aB hc _,q⟩
theorem subs_pts {tb:X→Option K}{R:V→V→Prop}{ks:List K}:∀{ks':List K},K.subs tb ks=some ks'→(∀k∈ks,∀k',k.sub tb=some k'→R k.v k'.v)→All2 R (K.vs ks) (K.vs ks'):=by
 induction ks with
 |nil=>exact fun h _=>sI h▸trivial
 |cons k ks ih=>exact fun h hp=>bE h fun a h1 h=>mE h fun r h2 e=>e▸⟨hp k (.head _) a h1,ih h2 fun k hk=>hp k (.tail _ hk)⟩
theorem K.sub_nil {tb:X→Option K}{k k':K}(nv:k.va=false)(hs:k.sub tb=some k')(e:k.parts=[]):k=k':=by
 induction k using K.casesOn with
 |name n ps=>cases e;exact sI hs
 |tup ks=>cases e;exact sI hs
 |union ks=>cases e;exact sI hs
 |bot=>exact sI hs
 |num i=>exact sI hs
 |typ k=>exact nL' e
 |_=>exact nB nv.symm
theorem K.sub_some {tb:X→Option K}{k k':K}(nv:k.va=false)(hs:k.sub tb=some k'):∃ps',K.subs tb k.parts=some ps':=by
 induction k using K.casesOn with
 |name n ps=>exact mE hs fun l h _=>⟨l,h⟩
 |tup ks=>exact mE hs fun l h _=>⟨l,h⟩
 |union ks=>exact bE hs fun l h _=>⟨l,h⟩
 |bot=>exact⟨[],rfl⟩
 |num i=>exact⟨[],rfl⟩
 |typ k=>exact mE hs fun l (h:k.sub tb=some l) _=>⟨[l],by show(k.sub tb).bind (fun k'=>(K.subs tb []).map (k':: ·))=_;rw[h];rfl⟩
 |_=>exact nB nv.symm
theorem c_rebuilt {tb:X→Option K}{k k':K}{ps:List K}{a:Addr}{Q:V→Sto→Prop}(hz:k.sz≤1000)(nv:k.va=false)(hs:k.sub tb=some k')(hp:K.subs tb k.parts=some ps)(hl:ps.length≤1000)(ne:k.parts≠ [])(ha:σ a=some (.list (K.vs ps)))(q:Q k'.v σ):CallT (d+5) (.ref 62) [k.v,.ref a] σ Q:=by
 induction k using K.casesOn with
 |name n ks=>exact mE hs fun l h e=>c_rebuilt_name (d:=d+4) ha hl (by rw[←sI (h.symm.trans hp),e];exact q)
 |tup ks=>exact mE hs fun l h e=>c_rebuilt_tup (d:=d+4) ha (K.subs_len hp) (nT (Nat.le_of_eq (K.subs_len hp).symm) hl) (by rw[←sI (h.symm.trans hp),e];exact q)
 |union ks=>
  refine bE hs fun l h e=> ?_
  obtain rfl:=sI (h.symm.trans hp)
  induction l using List.casesOn with
  |nil=>exact absurd (List.eq_nil_of_length_eq_zero (K.subs_len hp).symm) ne
  |cons x l=>
   refine bE e fun us hu e=> ?_
   unfold fewU at e
   induction h6:Nat.ble (szU us) 60 using Bool.casesOn with
   |false=>rw[h6] at e;exact nS e
   |true=>
    rw[h6] at e
    exact c_rebuilt_union (us:=us) (by rw[ha,usOf_k hu,K.vs_map,List.map_map];rfl) (Nat.le_of_ble_eq_true h6) (by rw[sI e];exact q)
 |typ k=>
  refine mE hs fun l h e=> ?_
  refine bE hp fun l' h' e'=> ?_
  obtain rfl:=sI (h.symm.trans h')
  obtain rfl:=sI e'
  exact c_rebuilt_typ (d:=d+4) ha (by rw[e];exact q)
 |bot=>exact absurd rfl ne
 |num i=>exact absurd rfl ne
 |_=>exact nB nv.symm
theorem c_substituted:∀(m:Nat) {k k':K} {tb:X→Option K} {es:List (Str×V)} {T:Addr} {σ:Sto} {Q:V→Sto→Prop},k.dp≤m→k.sz≤1000→k.sub tb=some k'→Tb es tb→es.length≤1000→σ T=some (.dict es)→Q k'.v σ→
  CallT (d+m+6) (.ref 67) [k.v,.ref T] σ Q:=by
 intro m
 induction m with
 |zero=>exact fun hd=>K.dp0 hd
 |succ m ih=>
  intro k k' tb es T σ Q hd hz hs ht he hT q
  refine CallT.forget (aG b.f_substituted_2 rfl dkk dkk ?_)
  induction nv:k.va using Bool.casesOn with
  |false=>
   have nw:=K.va_word nv
   w_fin
   refine v_item0 k ?_
   w_fin
   refine T2_eqSf nw.1 ?_
   w_fin
   refine v_item0 k ?_
   w_fin
   refine T2_eqSf nw.2 ?_
   w_fin
   refine((c_parts hz fun c₁ hc₁=> ?_).v)
   w_fin
   refine fun c₂ hc₂=> ?_
   w_fin
   have s1:=aC (y:= .list []) (aA σ c₁ (.list (K.vs k.parts))) hc₂
   have hT2:=aC (y:= .list []) (aC (y:= .list (K.vs k.parts)) hT hc₁) hc₂
   have hle:=aE (aB hc₁ (.list (K.vs k.parts))) hc₂ (.list [])
   have s2:=aA (σ.put c₁ (.list (K.vs k.parts))) c₂ (.list [])
   generalize (σ.put c₁ (.list (K.vs k.parts))).put c₂ (.list [])=σ1 at s1 hT2 hle s2⊢
   clear hc₁ hc₂ hT
   by_cases hn:k.parts=[]
   ·rw[hn] at s1
    refine T2_eq_nil s1 s2 (r:=true) (by simp[K.vs]) ?_
    w_fin
    exact⟨_,hle,by rw[K.sub_nil nv hs hn];exact q⟩
   refine T2_eq_nil s1 s2 (r:=false) ⟨fun h=>nB h,fun h=>absurd (List.eq_nil_of_length_eq_zero (by rw[←aO,h];rfl)) hn⟩ ?_
   w_fin
   refine x11 (K.sub_some nv hs) fun ps hp=> ?_
   have hl:=K.subs_len hp
   have hpl:k.parts.length≤1000:=nT (K.szs_len _) ((k.parts_sz).elim (fun h=>Nat.le_of_succ_le (nT h hz)) fun h=>absurd h hn)
   refine TE_comp rfl dkk ?_
   w_fin
   refine kSrc.i (.list s1) ?_
   refine TCo_pts (ys:=K.vs ps) rfl rfl dkk s1 (fun _=>rfl) (by rw[aO,hl];simp;exact lt3 hpl) (subs_pts hp fun k1 hk k' h=> ?_) ?_
   ·have hx:=K.part_lt hk
    w_fin
    refine((ih (Nat.le_of_succ_le_succ (nT hx.1 hd)) (Nat.le_of_succ_le (nT hx.2 hz)) h ht he hT2 ?_).v)
    w_fin
    exact⟨rfl,rfl⟩
   intro ρ' c₃ hc₃
   w_fin
   refine((c_rebuilt (d:=d+(m+1)) hz nv hs hp (nT (Nat.le_of_eq hl) hpl) hn sps ?_).v)
   w_fin
   exact⟨_,aE hle hc₃ _,q⟩
  |true=>
   induction k using K.casesOn with
   |var x=>
    w_fin
    refine Ml_bi (GM_get hT) ?_
    w_fin
    refine C_get hT ?_
    w_fin
    refine⟨_,aQ _,?_⟩
    obtain rfl:=sI hs
    rw[ht x]
    cases hy:tb x<;>rw[hy] at q<;>exact q
   |all x lo up bd=>
    refine bE hs fun _ e1 hs=>bE hs fun lo' e2 hs=>bE hs fun up' e3 hs=>mE hs fun bd' e4 e=> ?_
    have e1:=noneU_ok e1
    replace e:=e.symm;subst e
    have hx:dget es x.s=none:=by rw[ht x,e1];rfl
    replace hd:=Nat.le_of_succ_le_succ hd
    replace hz:=Nat.le_of_succ_le_succ hz
    w_fin
    refine(C_dict_dict b.low hT (aK (lt3 he)) fun c hc=> ?_)
    w_fin
    refine Ml_bi (GM_dpop sps) ?_
    w_fin
    refine C_dpop sps (aK (lt3 he)) ?_
    rw[hx]
    refine⟨rfl,?_⟩
    have hT2:((σ.put c (.dict es)).put c (.dict (ddel es x.s))) T=some (.dict es):=aF (aC hT hc) (Sto.ne_new hT hc)
    have hc2:=aA (σ.put c (.dict es)) c (.dict (ddel es x.s))
    have hle:σ.le ((σ.put c (.dict es)).put c (.dict (ddel es x.s))):=aR (aB hc _) hc _
    generalize (σ.put c (.dict es)).put c (.dict (ddel es x.s))=σ1 at hT2 hc2 hle⊢
    w_fin
    refine((ih (l_mx hd) (lt3 (l_al (l_al hz))) e2 ht he hT2 ?_).v)
    w_fin
    refine((ih (l_mx (l_mx' hd)) (lt3 (l_ar (l_al hz))) e3 ht he hT2 ?_).v)
    w_fin
    refine T2_add_tup (aK (Nat.le_of_ble_eq_true rfl)) ?_
    w_fin
    refine((ih (l_mx' (l_mx' hd)) (lt3 (l_ar hz)) e4 (ht.del x e1) (nT (List.length_filter_le _ _) he) hc2 ?_).v)
    w_fin
    refine T2_add_tup (aK (Nat.le_of_ble_eq_true rfl)) ?_
    w_fin
    exact⟨_,hle,q⟩
   |_=>exact nB nv
end
section
variable {d:Nat}{sc:Nms}{ρ:Loc}{σ:Sto}
set_option backward.match.sparseCases true in
theorem TE_orS {x y:Expr}{r:List Expr}{p:Pos}{Q:V→Sto→Prop}(h:TE d sc x ρ σ fun v σ₁=>TT d v σ₁ fun t σ₂=>if t then Q v σ₂ else TE d sc (.BoolOp .Or (y::r) p) ρ σ₂ Q):TE d sc (.BoolOp .Or (x::y::r) p) ρ σ Q:=
 fun env A s R F S=>by
  show wpAny MM A (do
   let v←eval x env
   standAt p
   let t←holding [v] (truthy v)
   match BoolOp.Or,t with
   | .And,false| .Or,true=>pure v
   |_,_=>boolOp p .Or (evalEach (y::r) env)) _ NoE s
  refine vB (wpAny_mono (h env A s R F S) (fun va s₁ ⟨v,σ₁,rv,h₁,S₁,T₁⟩=>vB (wpAny_standAt (vB (wpAny_holding (wpAny_mono (h₁ A s₁ va R S₁ rv) (fun t s₂ ⟨σ₂,h₂,S₂,T₂⟩=> ?_) fun _ _ x=>x))))) fun _ _ x=>x)
  induction t using Bool.casesOn with
  |false=>exact wpAny_mono (h₂ env A s₂ R ((F.aft S T₁).aft S₁ T₂) S₂) (fun _ _ o=>Out.after (T₁.trans T₂) o) fun _ _ x=>x
  |true=>exact vP ⟨v,σ₂,T₂.rv S₁ rv,h₂,S₂,T₁.trans T₂⟩
set_option backward.match.sparseCases true in
theorem TE_andS {x y:Expr}{r:List Expr}{p:Pos}{Q:V→Sto→Prop}(h:TE d sc x ρ σ fun v σ₁=>TT d v σ₁ fun t σ₂=>if t then TE d sc (.BoolOp .And (y::r) p) ρ σ₂ Q else Q v σ₂):TE d sc (.BoolOp .And (x::y::r) p) ρ σ Q:=
 fun env A s R F S=>by
  show wpAny MM A (do
   let v←eval x env
   standAt p
   let t←holding [v] (truthy v)
   match BoolOp.And,t with
   | .And,false| .Or,true=>pure v
   |_,_=>boolOp p .And (evalEach (y::r) env)) _ NoE s
  refine vB (wpAny_mono (h env A s R F S) (fun va s₁ ⟨v,σ₁,rv,h₁,S₁,T₁⟩=>vB (wpAny_standAt (vB (wpAny_holding (wpAny_mono (h₁ A s₁ va R S₁ rv) (fun t s₂ ⟨σ₂,h₂,S₂,T₂⟩=> ?_) fun _ _ x=>x))))) fun _ _ x=>x)
  induction t using Bool.casesOn with
  |true=>exact wpAny_mono (h₂ env A s₂ R ((F.aft S T₁).aft S₁ T₂) S₂) (fun _ _ o=>Out.after (T₁.trans T₂) o) fun _ _ x=>x
  |false=>exact vP ⟨v,σ₂,T₂.rv S₁ rv,h₂,S₂,T₁.trans T₂⟩
theorem TE_bool1 {op:BoolOp}{x:Expr}{p:Pos}{Q:V→Sto→Prop}(h:TE d sc x ρ σ Q):TE d sc (.BoolOp op [x] p) ρ σ Q:=fun env A s R F S=>h env A s R F S
theorem T1_not {b:Bool}{Q:V→Sto→Prop}(q:Q (.bool (!b)) σ):T1 d (unaryOp .Not) (.bool b) σ Q:=fun A s va R S r=>by
 cases r
 show wpAny MM A (holding [.bool b] (do return Value.bool (!(←truthy (.bool b))))) _ NoE s
 exact wpAny_holding (vB (wpAny_truthy_bool (vP (here S rfl (.bool _) q))))
end
theorem All2.of {P:V→V→Prop}{f:K→V}:∀{ks:List K},(∀k∈ks,P k.v (f k))→All2 P (K.vs ks) (ks.map f)
 | [],_=>trivial
 |k::ks,h=>⟨h k (.head _),All2.of fun k hk=>h k (.tail _ hk)⟩
theorem All2.eq {P:V→V→Prop}{xs ys zs:List V}(h:All2 P xs ys)(e:ys=zs):All2 P xs zs:=e▸h
mutual
noncomputable def K.emp:K→Bool
 | .tup ks=>K.emps ks
 | .all _ _ _ b=>b.emp
 | .bot=>true
 | .name _ _=>false
 | .union _=>false
 | .typ _=>false
 | .var _=>false
 | .num _=>false
noncomputable def K.emps:List K→Bool
 | []=>false
 |k::l=>k.emp||K.emps l
end
noncomputable def occU:List (Nat×Bool)→Option (Nat×Bool)
 | []=>none
 |p::l=>some (((p::l).map (·.1)).foldl max 0,((p::l).map (·.2)).contains true)
noncomputable def occT (l:List (Nat×Bool)):Nat×Bool:=(min 2 (l.map (·.1)).sum,(l.map (·.2)).contains true)
noncomputable def occA (x:X) (lo up:K) (p:Nat×Bool):Nat×Bool:=(p.1,p.2||decide (x∈lo.fv [] [])||decide (x∈up.fv [] []))
noncomputable def occO (x:X) (k:K):Option (Nat×Bool):=some (0,decide (x∈k.fv [] []))
mutual
noncomputable def K.occ (x:X):K→Option (Nat×Bool)
 | .var y=>some (if y=x then 1 else 0,false)
 | .union ks=>(K.occs x ks).bind occU
 | .tup ks=>(K.occs x ks).map occT
 | .all y lo up b=>if y=x then some (0,false) else(b.occ x).map (occA x lo up)
 | .name n ps=>occO x (.name n ps)
 | .typ k=>occO x (.typ k)
 | .bot=>occO x .bot
 | .num i=>occO x (.num i)
noncomputable def K.occs (x:X):List K→Option (List (Nat×Bool))
 | []=>some []
 |k::l=>(k.occ x).bind fun p=>(K.occs x l).map (p:: ·)
end
inductive EmpV:K→Prop
 |tup (ks:List K):EmpV (.tup ks)
 |all (x:X) (lo up b:K):EmpV (.all x lo up b)
 |oth {k:K} (h1:(k.word !="tuple"&&PyData.strOk k.word&&PyData.strOk "tuple")=true) (h2:(k.word !="all"&&PyData.strOk k.word&&PyData.strOk "all")=true) (e:decide (k= .bot)=k.emp):EmpV k
theorem K.empV (k:K):EmpV k:=by
 induction k using K.casesOn with
 |tup ks=>exact .tup ks
 |all x lo up b=>exact .all x lo up b
 |_=>exact .oth (by kernel_rfl) (by kernel_rfl) (by rfl)
noncomputable def K.diag (x:X) (k:K):Option Bool:=(k.occ x).map fun p=>decide (p.1>1)&& !p.2
section
variable {d:Nat}{σ:Sto}
theorem c_has_within {x:X}{k:K}{Q:V→Sto→Prop}(hk:k.sz≤1000)(hd:k.dp≤100)(q:Q (.bool (decide (k≠ .var x)&&decide (x∈k.fv [] []))) σ):CallT (d+3) (.ref 370) [.str x.s,k.v] σ Q:=by
 refine CallT.forget (aG b.f_has_within_2 rfl dkk dkk ?_)
 refine TS_cons (TS_ret (TE_andS ?_))
 w_fin
 refine T2_neK (a:=k) (b:= .var x) (l_min (lt3 hd)) ?_
 w_fin
 by_cases h:k= .var x
 ·rw[show decide (k≠ .var x)=false by simp[h]] at q⊢
  w_fin
  exact⟨_,aQ _,q⟩
 ·rw[show decide (k≠ .var x)=true by simp[h]] at q⊢
  refine ifT rfl (TE_bool1 ?_)
  w_fin
  refine((c_free_vars hk fun c hc=> ?_).v)
  w_fin
  refine T2_in_list sps (r:=decide (x∈k.fv [] [])) (by rw[decide_eq_true_iff,xs_mem]) x.ok (xs_gr _) (Nat.zero_le _) ?_
  w_fin
  exact⟨_,aB hc _,q⟩
theorem emps_any:∀ks:List K,(ks.map K.emp).contains true=K.emps ks
 | []=>rfl
 |k::l=>by
  show(true==k.emp||(l.map K.emp).contains true)=(k.emp||K.emps l)
  rw[emps_any l];cases k.emp<;>rfl
theorem c_is_empty:∀(m:Nat) {k:K} {σ:Sto} {Q:V→Sto→Prop},k.dp≤m→m≤100→k.sz≤1000→Q (.bool k.emp) σ→CallT (d+m) (.ref 245) [k.v] σ Q:=by
 intro m
 induction m with
 |zero=>intro k σ Q hd;exact K.dp0 hd
 |succ m ih=>
  intro k σ Q hd hm hz q
  refine CallT.forget (aG b.f_is_empty_1 rfl dkk dkk ?_)
  cases k.empV with
  |tup ks=>
   w_fin
   refine TE_comp rfl dkk ?_
   w_fin
   refine kSrc.i .tup ?_
   refine TCo_pts (ys:=(ks.map K.emp).map V.bool) rfl rfl dkk trivial (fun _=>rfl) (by rw[List.length_map,List.length_map];exact nT (Nat.le_of_eq (Nat.zero_add _)) (nT (K.szs_len ks) (lt3 (Nat.le_of_succ_le hz)))) ?_ ?_
   ·refine All2.eq (All2.of (f:=fun k=>V.bool k.emp) fun k hk=> ?_) (by rw[List.map_map];rfl)
    have h:=K.part_lt (k:= .tup ks) hk
    w_fin
    refine((ih (Nat.le_of_succ_le_succ (nT h.1 hd)) (l_al hm) (Nat.le_of_succ_le (nT h.2 hz)) ?_).v)
    w_fin
    exact⟨rfl,rfl⟩
   intro ρ' c hc
   w_fin
   refine T2_in_bools sps ?_
   w_fin
   exact⟨_,aB hc _,by rw[emps_any];exact q⟩
  |all x lo up bd=>
   have h:=K.part_lt (k:= .all x lo up bd) (.tail _ (.tail _ (.head _)))
   w_fin
   refine((ih (Nat.le_of_succ_le_succ (nT h.1 hd)) (l_al hm) (Nat.le_of_succ_le (nT h.2 hz)) ?_).v)
   w_fin
   exact⟨_,aQ _,q⟩
  |oth h1 h2 e=>
   w_fin
   refine v_item0 k ?_
   w_fin
   refine T2_eqSf h1 ?_
   w_fin
   refine v_item0 k ?_
   w_fin
   refine T2_eqSf h2 ?_
   w_fin
   refine T2_eqK (b:= .bot) (nT (Nat.min_le_right _ _) (by decide)) ?_
   w_fin
   exact⟨_,aQ _,by rw[e];exact q⟩
noncomputable def occV (p:Nat×Bool):V:= .tup [.int p.1,.bool p.2]
theorem occs_pts {x:X}{P:V→V→Prop}{ks:List K}:∀{l:List (Nat×Bool)},K.occs x ks=some l→(∀k∈ks,∀p,k.occ x=some p→P k.v (occV p))→All2 P (K.vs ks) (l.map occV):=by
 induction ks with
 |nil=>exact fun h _=>sI h▸trivial
 |cons k ks ih=>exact fun h hp=>bE h fun a h1 h=>mE h fun r h2 e=>e▸⟨hp k (.head _) a h1,ih h2 fun k hk=>hp k (.tail _ hk)⟩
theorem occs_len {x:X}{ks:List K}:∀{l:List (Nat×Bool)},K.occs x ks=some l→l.length=ks.length:=by
 induction ks with
 |nil=>exact fun h=>sI h▸rfl
 |cons k ks ih=>exact fun h=>bE h fun a h1 h=>mE h fun r h2 e=>e▸congrArg (·+1) (ih h2)
theorem All2.map {P:V→V→Prop}{α:Type}{g f:α→V}:∀{l:List α},(∀a∈l,P (g a) (f a))→All2 P (l.map g) (l.map f)
 | [],_=>trivial
 |a::l,h=>⟨h a (.head _),All2.map fun k hk=>h k (.tail _ hk)⟩
theorem max_is (l:List Nat):∀a:Nat,(l.foldl max a)∈a::l∧a≤l.foldl max a∧∀x∈l,x≤l.foldl max a:=by
 induction l with
 |nil=>exact fun a=>⟨.head _,Nat.le_refl _,fun _ h=>nomatch h⟩
 |cons b l ih=>
  intro a
  refine an3 (ih (max a b)) fun h1 h2 h3=>⟨?_,l_mx h2,fun x hx=> ?_⟩
  ·show l.foldl max (max a b)∈_
   refine(List.mem_cons.mp h1).elim (fun h=> ?_) fun h=> .tail _ (.tail _ h)
   rw[h]
   exact(Nat.le_total a b).elim (fun h=>by rw[Nat.max_eq_right h];exact .tail _ (.head _)) fun h=>by rw[Nat.max_eq_left h];exact .head _
  ·cases hx with
   |head=>exact l_mx' h2
   |tail _ h=>exact h3 x h
inductive OccV (x:X):K→Prop
 |var (y:X):OccV x (.var y)
 |union (ks:List K):OccV x (.union ks)
 |tup (ks:List K):OccV x (.tup ks)
 |all (y:X) (lo up b:K):OccV x (.all y lo up b)
 |oth {k:K} (h1:(k.word !="var"&&PyData.strOk k.word&&PyData.strOk "var")=true) (h2:(k.word !="union"&&PyData.strOk k.word&&PyData.strOk "union")=true) (h3:(k.word !="tuple"&&PyData.strOk k.word&&PyData.strOk "tuple")=true)
  (h4:(k.word !="all"&&PyData.strOk k.word&&PyData.strOk "all")=true) (e:k.occ x=some (0,decide (x∈k.fv [] []))):OccV x k
theorem K.occV (x:X)(k:K):OccV x k:=by
 induction k using K.casesOn with
 |var y=>exact .var y
 |union ks=>exact .union ks
 |tup ks=>exact .tup ks
 |all y lo up b=>exact .all y lo up b
 |_=>exact .oth (by kernel_rfl) (by kernel_rfl) (by kernel_rfl) (by kernel_rfl) rfl
theorem TCo_col {sc:Nms}{gens:List Comprehension}{cs:Scope}{cp:Pos}{k:Nat}{t:Str}{tp p1 p2 p3:Pos}{iter:Expr}{kk:Nat}{i:Int}{ρ:Loc}{f:Nat×Bool→V}{a:Addr}{l:List (Nat×Bool)}{Q:List V→Loc→Sto→Prop}
  (hg:gens[k]? =some ⟨.Name t tp,iter,[],0⟩) (hg':gens[k+1]? =none) (ht:sc.lookup t=some .local) (hd:(t==("__debug__":Str))=false) (hf:∀p:Nat×Bool,itemOk [.int p.1,.bool p.2] i=some (f p)) (ha:σ a=some (.list (l.map occV))) (hl:l.length≤1000) (q:∀ρ',Q (l.map f) ρ' σ):
  TCo d sc (.Subscript (.Name t p1) (.Constant (.int i) kk p2) p3) gens cs cp k (.list a (l.map occV) 0) [] ρ σ Q:=
 TCo_pts (ys:=l.map f) hg hg' ht ha (fun _=>rfl) (by rw[List.length_map];exact nT (Nat.le_of_eq (Nat.zero_add _)) (lt3 hl)) (All2.map fun p _=>TE_subI rfl (TE_loc ht (if_pos rfl) (TE_int (TI_tup (hf p) ⟨rfl,rfl⟩)) hd)) q
theorem int_sum (l:List (Nat×Bool)):(min (2:Int) (l.map fun p=>(p.1:Int)).sum)=((min 2 (l.map (·.1)).sum:Nat):Int):=by
 have e:(l.map fun p=>(p.1:Int)).sum=(((l.map (·.1)).sum:Nat):Int):=by
  induction l with
  |nil=>rfl
  |cons a l ih=>rw[List.map_cons,List.map_cons,List.sum_cons,List.sum_cons,ih];rfl
 rw[e]
 show min ((2:Nat):Int) _=_
 exact(Nat.le_total 2 (l.map (·.1)).sum).elim (fun h=>by rw[Nat.min_eq_left h,Int.min_eq_left (Int.ofNat_le.mpr h)]) fun h=>by rw[Nat.min_eq_right h,Int.min_eq_right (Int.ofNat_le.mpr h)]
theorem int_max {p0:Nat×Bool}{l:List (Nat×Bool)}:((((p0::l).map (·.1)).foldl max 0:Nat):Int)∈(p0::l).map (fun p=>(p.1:Int))∧∀x∈(p0::l).map (fun p=>(p.1:Int)),x≤((((p0::l).map (·.1)).foldl max 0:Nat):Int):=by
 refine an3 (max_is ((p0::l).map (·.1)) 0) fun h1 _ h3=>⟨?_,fun x hx=> ?_⟩
 ·refine(List.mem_cons.mp h1).elim (fun h=> ?_) fun h=>x12 (List.mem_map.mp h) fun p hp e=>List.mem_map.mpr ⟨p,hp,congrArg Int.ofNat e⟩
  have:=h3 p0.1 (.head _)
  rw[h] at this⊢
  exact List.mem_map.mpr ⟨p0,.head _,congrArg Int.ofNat (Nat.le_zero.mp this)⟩
 ·exact x12 (List.mem_map.mp hx) fun p hp e=>e▸Int.ofNat_le.mpr (h3 _ (List.mem_map.mpr ⟨p,hp,rfl⟩))
theorem c_bound_occ {x y:X}{lo up bd:K}{p:Nat×Bool}{Q:V→Sto→Prop}(hz:(K.all y lo up bd).sz≤1000)(hocc:∀{Q:V→Sto→Prop},Q (occV p) σ→CallV (d+2) (.ref 216) [bd.v,.str x.s] σ Q)
  (q:Q (occV (occA x lo up p)) σ):CallT (d+3) (.ref 223) [(K.all y lo up bd).v,.str x.s] σ Q:=by
 replace hz:=Nat.le_of_succ_le_succ hz
 refine CallT.forget (aG b.f_bound_occurrences_2 rfl dkk dkk ?_)
 w_fin
 refine hocc ?_
 w_fin
 obtain⟨p1,p2⟩:=p
 unfold occA at q
 dsimp only at q
 refine TE_orS ?_
 w_fin
 induction p2 using Bool.casesOn with
 |true=>
  refine ifT rfl ?_
  w_fin
  exact⟨_,aQ _,q⟩
 |false=>
  refine ifF (by simp) (TE_orS ?_)
  w_fin
  refine((c_free_vars (d:=d) (lt3 (l_al (l_al hz))) fun c hc=> ?_).v)
  w_fin
  refine T2_in_list sps (r:=decide (x∈lo.fv [] [])) (by rw[decide_eq_true_iff,xs_mem]) x.ok (xs_gr _) (Nat.zero_le _) ?_
  w_fin
  by_cases h1:x∈lo.fv [] []
  ·rw[show decide (x∈lo.fv [] [])=true by simp[h1]] at q⊢
   w_fin
   exact⟨_,aB hc _,by simpa[occV] using q⟩
  ·rw[show decide (x∈lo.fv [] [])=false by simp[h1]] at q⊢
   refine ifF (by decide) (TE_bool1 ?_)
   w_fin
   refine((c_free_vars (d:=d) (lt3 (l_ar (l_al hz))) fun c₂ hc₂=> ?_).v)
   w_fin
   refine T2_in_list sps (r:=decide (x∈up.fv [] [])) (by rw[decide_eq_true_iff,xs_mem]) x.ok (xs_gr _) (Nat.zero_le _) ?_
   w_fin
   exact⟨_,aE (aB hc _) hc₂ _,by simpa[occV] using q⟩
theorem c_occ {x:X}:∀(m:Nat) {k:K} {p:Nat×Bool} {σ:Sto} {Q:V→Sto→Prop},k.dp≤m→k.sz≤1000→k.occ x=some p→Q (occV p) σ→CallT (d+2 * m+3) (.ref 216) [k.v,.str x.s] σ Q:=by
 intro m
 induction m with
 |zero=>intro k p σ Q hd;exact K.dp0 hd
 |succ m ih=>
  intro k p σ Q hd hz hp q
  have ih:∀{k':K} {p:Nat×Bool} {σ:Sto} {Q:V→Sto→Prop},k'∈k.parts→k'.occ x=some p→Q (occV p) σ→CallV (d+2 * (m+1)+1) (.ref 216) [k'.v,.str x.s] σ Q:=fun h hp q=>
   (ih (Nat.le_of_succ_le_succ (nT (K.part_lt h).1 hd)) (Nat.le_of_succ_le (nT (K.part_lt h).2 hz)) hp q).v
  have hks:k.parts.length≤1000:=nT (K.szs_len _) (k.parts_sz.elim (fun h=>Nat.le_of_succ_le (nT h hz)) fun h=>by rw[h];exact Nat.zero_le _)
  refine CallT.forget (aG b.f_occurrences_2 rfl dkk dkk ?_)
  w_fin
  refine v_item0 k ?_
  w_fin
  cases k.occV x with
  |var y=>
   obtain rfl:=sI hp
   refine T2_eqS (by kernel_rfl) ?_
   w_fin
   refine T2_eq (r:=decide (y=x)) (by rw[decide_eq_true_iff];exact⟨fun e=>by rw[e],fun e=>X.inj (V.str.inj e)⟩) y.ok x.ok (Nat.zero_le _) ?_
   w_fin
   by_cases h:y=x
   ·rw[decide_eq_true h]
    rw[if_pos h] at q
    w_fin
    exact⟨_,aQ _,q⟩
   ·rw[decide_eq_false h]
    rw[if_neg h] at q
    w_fin
    exact⟨_,aQ _,q⟩
  |tup ks=>
   refine mE hp fun l hl e=> ?_
   subst e
   have hll:l.length≤1000:=nT (Nat.le_of_eq (occs_len hl)) hks
   refine T2_eqSf (by kernel_rfl) ?_
   w_fin
   refine T2_eqSf (by kernel_rfl) ?_
   w_fin
   refine T2_eqS (by kernel_rfl) ?_
   w_fin
   refine TS_compx (.inl dkk) rfl dkk ?_
   w_fin
   refine kSrc.i .tup ?_
   refine TCo_pts (ys:=l.map occV) rfl rfl dkk trivial (fun _=>rfl) (by rw[List.length_map];exact nT (Nat.le_of_eq (Nat.zero_add _)) (lt3 hll)) (occs_pts hl fun k hk p hp=> ?_) ?_
   ·w_fin
    refine CallV.le (ih hk hp ?_) (Nat.le_succ _)
    w_fin
    exact⟨rfl,rfl⟩
   intro ρ' c hc
   w_fin
   refine TE_comp rfl dkk ?_
   w_fin
   refine kSrc.i (.list sps) (TCo_col (f:=fun p=> .int p.1) rfl rfl dkk dkk (fun _=>rfl) sps hll fun ρ₁ c₁ hc₁=> ?_)
   w_fin
   refine(C_sum (ns:=l.map fun p=>(p.1:Int)) (by rw[aA,List.map_map];rfl) ?_)
   w_fin
   refine(C_min2 ?_)
   rw[int_sum]
   w_fin
   have s2:=aC (y:= .list (l.map fun p=>V.int p.1)) (aA σ c (.list ([]++l.map occV))) hc₁
   refine TE_comp rfl dkk ?_
   w_fin
   refine kSrc.i (.list s2) (TCo_col (f:=fun p=> .bool p.2) rfl rfl dkk dkk (fun _=>rfl) s2 hll fun ρ₂ c₂ hc₂=> ?_)
   w_fin
   refine T2_in_bools (bs:=l.map (·.2)) (by rw[aA,List.map_map];rfl) ?_
   w_fin
   exact⟨_,aE (aE (aB hc _) hc₁ _) hc₂ _,q⟩
  |union ks=>
   refine bE hp fun l hl e=> ?_
   have hll:l.length≤1000:=nT (Nat.le_of_eq (occs_len hl)) hks
   refine T2_eqSf (by kernel_rfl) ?_
   w_fin
   refine T2_eqS (by kernel_rfl) ?_
   w_fin
   refine TS_compx (.inl dkk) rfl dkk ?_
   w_fin
   refine kSrc.i .tup ?_
   refine TCo_pts (ys:=l.map occV) rfl rfl dkk trivial (fun _=>rfl) (by rw[List.length_map];exact nT (Nat.le_of_eq (Nat.zero_add _)) (lt3 hll)) (occs_pts hl fun k hk p hp=> ?_) ?_
   ·w_fin
    refine CallV.le (ih hk hp ?_) (Nat.le_succ _)
    w_fin
    exact⟨rfl,rfl⟩
   intro ρ' c hc
   rcases l with _|⟨p0,l⟩
   ·exact nS e
   obtain rfl:=sI e
   w_fin
   refine TE_comp rfl dkk ?_
   w_fin
   refine kSrc.i (.list sps) (TCo_col (f:=fun p=> .int p.1) rfl rfl dkk dkk (fun _=>rfl) sps hll fun ρ₁ c₁ hc₁=> ?_)
   w_fin
   refine(C_max (ns:=(p0::l).map fun p=>(p.1:Int)) (by rw[aA,List.map_map];rfl) int_max.1 int_max.2 ?_)
   w_fin
   have s2:=aC (y:= .list ((p0::l).map fun p=>V.int p.1)) (aA σ c (.list ([]++(p0::l).map occV))) hc₁
   refine TE_comp rfl dkk ?_
   w_fin
   refine kSrc.i (.list s2) (TCo_col (f:=fun p=> .bool p.2) rfl rfl dkk dkk (fun _=>rfl) s2 hll fun ρ₂ c₂ hc₂=> ?_)
   w_fin
   refine T2_in_bools (bs:=(p0::l).map (·.2)) (by rw[aA,List.map_map];rfl) ?_
   w_fin
   exact⟨_,aE (aE (aB hc _) hc₁ _) hc₂ _,q⟩
  |all y lo up bd=>
   refine T2_eqSf (by kernel_rfl) ?_
   w_fin
   refine T2_eqSf (by kernel_rfl) ?_
   w_fin
   refine T2_eqSf (by kernel_rfl) ?_
   w_fin
   refine T2_eqS (by kernel_rfl) ?_
   w_fin
   refine T2_eq (r:=decide (y=x)) (by rw[decide_eq_true_iff];exact⟨fun e=>by rw[e],fun e=>X.inj (V.str.inj e)⟩) y.ok x.ok (Nat.zero_le _) ?_
   w_fin
   have hp:(if y=x then some (0,false) else(bd.occ x).map (occA x lo up))=some p:=hp
   by_cases h:y=x
   ·rw[decide_eq_true h]
    rw[if_pos h] at hp
    obtain rfl:=sI hp
    w_fin
    exact⟨_,aQ _,q⟩
   ·rw[decide_eq_false h]
    rw[if_neg h] at hp
    refine mE hp fun p' hp' e=> ?_
    subst e
    w_fin
    refine((c_bound_occ (d:=d+2 * m+1) hz (fun q'=>ih (.tail _ (.tail _ (.head _))) hp' q') ?_).v)
    w_fin
    exact⟨_,aQ _,q⟩
  |oth h1 h2 h3 h4 e=>
   obtain rfl:=sI (e.symm.trans hp)
   refine T2_eqSf h1 ?_
   w_fin
   refine T2_eqSf h2 ?_
   w_fin
   refine T2_eqSf h3 ?_
   w_fin
   refine T2_eqSf h4 ?_
   w_fin
   refine((c_free_vars (d:=d+2 * m+2) hz fun c hc=> ?_).v)
   w_fin
   refine T2_in_list sps (r:=decide (x∈k.fv [] [])) (by rw[decide_eq_true_iff,xs_mem]) x.ok (xs_gr _) (Nat.zero_le _) ?_
   w_fin
   exact⟨_,aB hc _,q⟩
theorem c_is_diagonal {x:X}{k:K}{r:Bool}{m:Nat}{Q:V→Sto→Prop}(hd:k.dp≤m)(hz:k.sz≤1000)(hp:k.diag x=some r)(q:Q (.bool r) σ):CallT (d+2 * m+4) (.ref 230) [k.v,.str x.s] σ Q:=by
 refine aG b.f_is_diagonal_2 rfl dkk dkk ?_
 refine x12 (Option.map_eq_some_iff.mp hp) fun p h1 e=> ?_
 subst e
 w_fin
 refine((c_occ m hd hz h1 ?_).v)
 w_fin
 obtain⟨p1,p2⟩:=p
 refine TE_andS ?_
 w_fin
 refine T2_gt_int ?_
 w_fin
 by_cases h:p1>1
 ·rw[show decide ((p1:Int)>1)=true by simp;lia]
  refine ifT rfl (TE_bool1 ?_)
  w_fin
  refine T1_not ?_
  w_fin
  simpa[h] using q
 ·rw[show decide ((p1:Int)>1)=false by simp;lia]
  w_fin
  simpa[h] using q
end
theorem Sto.put_put (σ:Sto)(a:Addr)(x y:AO):(σ.put a x).put a y=σ.put a y:=by
 funext b;dsimp only[Sto.put];split<;>rfl
theorem Sto.put_swap (σ:Sto){a c:Addr}(h:a≠c)(x y:AO):(σ.put a x).put c y=(σ.put c y).put a x:=by
 funext b;dsimp only[Sto.put]
 by_cases h1:b=c
 ·subst h1;simp[h.symm]
 ·simp[h1]
structure Sd where
 asked:Bool
 ord:Nat
 lo:List K
 up:List K
 dg:Bool
noncomputable def sdL (s:Sd):List (Str×V):=[("is_asked",.bool s.asked),("order",.int s.ord),("lowers",.tup (K.vs s.lo)),("uppers",.tup (K.vs s.up)),("is_diagonal",.bool s.dg)]
noncomputable def isSd (σ:Sto) (x:Addr) (s:Sd):Prop:=∃dx,σ x=some (.inst 136 dx)∧σ dx=some (.attrs (sdL s))
theorem isSd.mono {σ σ':Sto}{x:Addr}{s:Sd}(h:isSd σ x s)(l:∀a o,σ a=some o→(∃C d,o= .inst C d)∨(∃l,o= .attrs l)→σ' a=some o):isSd σ' x s:=by
 refine x12 h fun dx h1 h2=> ?_;clear h
 exact⟨dx,l _ _ h1 (.inl ⟨_,_,rfl⟩),l _ _ h2 (.inr ⟨_,rfl⟩)⟩
section
variable {d:Nat}{σ:Sto}{C:Addr}
theorem T2_setE {x dx:Addr}{l l':List (Str×V)}{n:Str}{v:V}{Q:Sto→Prop}(hx:σ x=some (.inst C dx))(hd:σ dx=some (.attrs l))(f:Fld C n)(hz:l.length≤1000)(e:dput l n v=l')(q:Q (σ.put dx (.attrs l'))):
  T2u d (fun a b=>setAttr a n b) (.ref x) v σ Q:=T2_set hx hd f hz (by rw[e];exact q)
end
section
variable {σ:Sto}
theorem c_Side_init {x dx:Addr}{s:Sd}{Q:V→Sto→Prop}(hx:σ x=some (.inst 136 dx))(hd:σ dx=some (.attrs []))(q:Q .none (σ.put dx (.attrs (sdL s)))):
  CallT (d+1) (.ref 105) [.ref x,.bool s.asked,.int s.ord,.tup (K.vs s.lo),.tup (K.vs s.up),.bool s.dg] σ Q:=by
 have hne:x≠dx:=fun e=>by subst e;rw[hx] at hd;replace hd:=sI hd;cases hd
 have px:∀l,(σ.put dx (.attrs l)) x=some (.inst 136 dx):=fun l=>aF hx hne
 refine aG b.f_Side_init_6 rfl dkk dkk ?_
 w_fin
 refine T2_setE hx hd b.n_Side_is_asked (l':=(sdL s).take 1) (by simp) (by rfl) ?_
 w_fin
 refine T2_setE (px _) sps b.n_Side_order (l':=(sdL s).take 2) (by simp[sdL]) (by rfl) ?_
 rw[Sto.put_put]
 w_fin
 refine T2_setE (px _) sps b.n_Side_lowers (l':=(sdL s).take 3) (by simp[sdL]) (by rfl) ?_
 rw[Sto.put_put]
 w_fin
 refine T2_setE (px _) sps b.n_Side_uppers (l':=(sdL s).take 4) (by simp[sdL]) (by rfl) ?_
 rw[Sto.put_put]
 w_fin
 refine T2_setE (px _) sps b.n_Side_is_diagonal (l':=sdL s) (by simp[sdL]) (by rfl) ?_
 rw[Sto.put_put]
 w_fin
 exact q
theorem c_Side_new {s:Sd}{Q:V→Sto→Prop}(q:∀x σ',σ.le σ'→σ x=none→isSd σ' x s→Q (.ref x) σ'):
  CallT (d+2) (.ref 136) [.bool s.asked,.int s.ord,.tup (K.vs s.lo),.tup (K.vs s.up),.bool s.dg] σ Q:=by
 refine C_make b.i_Side fun dx x hne h1 h2=>c_Side_init sps (aF sps hne) ⟨rfl,?_⟩
 rw[Sto.put_swap _ hne.symm,Sto.put_put]
 refine q x _ (aE (aB h1 _) (by rw[aM _ _ hne.symm];exact h2) _) h2 ⟨dx,aA _ _ _,aF sps hne⟩
theorem c_with_lower {x:Addr}{s:Sd}{k:K}{Q:V→Sto→Prop}(hx:isSd σ x s)(hz:s.lo.length≤1000)(q:∀x' σ',σ.le σ'→σ x'=none→isSd σ' x' {s with lo:=s.lo++ [k]}→Q (.ref x') σ'):CallT (d+3) (.ref 112) [.ref x,k.v] σ Q:=by
 refine x12 hx fun dx h1 h2=> ?_;clear hx
 refine aG b.f_Side_with_lower_2 rfl dkk dkk ?_
 w_fin
 refine aL h1 h2 b.n_Side_is_asked (by rfl) (by rfl) ?_
 w_fin
 refine aL h1 h2 b.n_Side_order (by rfl) (by rfl) ?_
 w_fin
 refine aL h1 h2 b.n_Side_lowers (by rfl) (by rfl) ?_
 w_fin
 refine T2_add_tup (aK (by simp[aO];exact lt3 hz)) ?_
 w_fin
 refine aL h1 h2 b.n_Side_uppers (by rfl) (by rfl) ?_
 w_fin
 refine aL h1 h2 b.n_Side_is_diagonal (by rfl) (by rfl) ?_
 w_fin
 have e:K.vs s.lo++ [k.v]=K.vs (s.lo++ [k]):=by simp[K.vs_map]
 rw[e]
 refine((c_Side_new (s:={s with lo:=s.lo++ [k]}) fun x' σ' hl hn hs=> ?_).v)
 w_fin
 exact q x' σ' hl hn hs
theorem c_with_upper {x:Addr}{s:Sd}{k:K}{Q:V→Sto→Prop}(hx:isSd σ x s)(hz:s.up.length≤1000)(q:∀x' σ',σ.le σ'→σ x'=none→isSd σ' x' {s with up:=s.up++ [k]}→Q (.ref x') σ'):CallT (d+3) (.ref 119) [.ref x,k.v] σ Q:=by
 refine x12 hx fun dx h1 h2=> ?_;clear hx
 refine aG b.f_Side_with_upper_2 rfl dkk dkk ?_
 w_fin
 refine aL h1 h2 b.n_Side_is_asked (by rfl) (by rfl) ?_
 w_fin
 refine aL h1 h2 b.n_Side_order (by rfl) (by rfl) ?_
 w_fin
 refine aL h1 h2 b.n_Side_lowers (by rfl) (by rfl) ?_
 w_fin
 refine aL h1 h2 b.n_Side_uppers (by rfl) (by rfl) ?_
 w_fin
 refine T2_add_tup (aK (by simp[aO];exact lt3 hz)) ?_
 w_fin
 refine aL h1 h2 b.n_Side_is_diagonal (by rfl) (by rfl) ?_
 w_fin
 have e:K.vs s.up++ [k.v]=K.vs (s.up++ [k]):=by simp[K.vs_map]
 rw[e]
 refine((c_Side_new (s:={s with up:=s.up++ [k]}) fun x' σ' hl hn hs=> ?_).v)
 w_fin
 exact q x' σ' hl hn hs
end
structure Ss where
 rows:List (X×Sd)
 many:Nat
noncomputable def rget (l:List (X×Sd)) (x:X):Option Sd:=match l with
 | []=>none
 |(y,s)::r=>if y=x then some s else rget r x
noncomputable def rput (l:List (X×Sd)) (x:X) (s:Sd):List (X×Sd):=match l with
 | []=> [(x,s)]
 |(y,t)::r=>if y=x then(x,s)::r else(y,t)::rput r x s
noncomputable def RowsAt (σ:Sto):List (Str×V)→List (X×Sd)→Prop
 | [],[]=>True
 |(k,v)::es,(x,s)::rs=>k=x.s∧(∃a,v= .ref a∧isSd σ a s)∧RowsAt σ es rs
 |_,_=>False
theorem dget_cons {k:Str}{v:V}{es:List (Str×V)}{y:Str}:dget ((k,v)::es) y=if k=y then some v else dget es y:=by
 unfold dget
 by_cases h:k=y<;>simp[h]
section
variable {σ σ':Sto}
theorem RowsAt.ind {P:List (Str×V)→List (X×Sd)→Prop}(n:P [] [])(c:∀{es rs} {x:X} {s a},isSd σ a s→RowsAt σ es rs→P es rs→P ((x.s,.ref a)::es) ((x,s)::rs)){es:List (Str×V)}:∀{rs:List (X×Sd)},RowsAt σ es rs→P es rs:=by
 induction es with
 |nil=>
  intro rs h
  induction rs using List.casesOn with
  |nil=>exact n
  |cons _ _=>exact h.elim
 |cons p es ih=>
  intro rs h
  induction rs using List.casesOn with
  |nil=>exact h.elim
  |cons q rs=>
   obtain⟨k,v⟩:=p
   obtain⟨x,s⟩:=q
   refine an3 h fun z1 z2 hr=> ?_;clear h;subst z1;refine x12 z2 fun a z1 ha=> ?_;clear z2;subst z1
   exact c ha hr (ih hr)
theorem RowsAt.get {es:List (Str×V)}{rs:List (X×Sd)}(h:RowsAt σ es rs):∀{x:X} {s:Sd},rget rs x=some s→∃a,dget es x.s=some (.ref a)∧isSd σ a s:=
 h.ind (P:=fun es rs=>∀{x:X} {s:Sd},rget rs x=some s→∃a,dget es x.s=some (.ref a)∧isSd σ a s) (fun e=>nomatch e) fun {es rs y t a} ha _ ih x s e=>by
  have e:(if y=x then some t else rget rs x)=some s:=e
  rw[dget_cons]
  by_cases hy:y=x
  ·rw[if_pos hy] at e;replace e:=sI e;subst e;exact⟨a,if_pos (by rw[hy]),ha⟩
  ·rw[if_neg hy] at e
   rw[if_neg fun q=>hy (X.inj q)]
   exact ih e
theorem RowsAt.mono {es:List (Str×V)}{rs:List (X×Sd)}(h:RowsAt σ es rs)(m:∀a o,σ a=some o→(∃C d,o= .inst C d)∨(∃l,o= .attrs l)→σ' a=some o):RowsAt σ' es rs:=
 h.ind (P:=RowsAt σ') trivial fun ha _ ih=>⟨rfl,⟨_,rfl,ha.mono m⟩,ih⟩
theorem RowsAt.len {es:List (Str×V)}{rs:List (X×Sd)}(h:RowsAt σ es rs):es.length=rs.length:=
 h.ind (P:=fun es rs=>es.length=rs.length) rfl fun _ _ ih=>congrArg (·+1) ih
theorem dput_cons {k:Str}{v u:V}{es:List (Str×V)}{y:Str}(nd:(es.any fun kv=>kv.1=y)=true→k≠y):dput ((k,v)::es) y u=if k=y then(k,u)::es else(k,v)::dput es y u:=by
 unfold dput
 by_cases h:k=y
 ·subst h
  have:(es.any fun kv=>kv.1=k)=false:=by
   induction q:es.any fun kv=>kv.1=k using Bool.casesOn with
   |false=>rfl
   |true=>exact absurd rfl (nd q)
  have e:es.map (fun kv=>if kv.1=k then(kv.1,u) else kv)=es:=by
   conv=>rhs;rw[←List.map_id es]
   refine List.map_congr_left fun p hp=> ?_
   have:¬p.1=k:=fun q=>by
    have:=List.any_eq_false.mp this p hp
    simp[q] at this
   simp[this]
  simp[e]
 ·rw[List.any_cons,List.map_cons]
  simp only[h,decide_false,Bool.false_or,if_false]
  split<;>rfl
noncomputable def Once (rs:List (X×Sd)):Prop:=(rs.map (·.1)).Nodup
theorem RowsAt.any {es:List (Str×V)}{rs:List (X×Sd)}(h:RowsAt σ es rs){x:X}:(es.any fun kv=>kv.1=x.s)=true→x∈rs.map (·.1):=
 h.ind (P:=fun es rs=>(es.any fun kv=>kv.1=x.s)=true→x∈rs.map (·.1)) (fun e=>nomatch e) fun {es rs y t a} _ _ ih q=>by
  rw[List.any_cons] at q
  by_cases hy:y=x
  ·rw[hy];exact .head _
  ·rw[decide_eq_false fun z=>hy (X.inj z),Bool.false_or] at q
   exact .tail _ (ih q)
theorem RowsAt.put {es:List (Str×V)}{rs:List (X×Sd)}(h:RowsAt σ es rs):Once rs→∀{x:X} {a:Addr} {s:Sd},isSd σ a s→RowsAt σ (dput es x.s (.ref a)) (rput rs x s):=
 h.ind (P:=fun es rs=>Once rs→∀{x:X} {a:Addr} {s:Sd},isSd σ a s→RowsAt σ (dput es x.s (.ref a)) (rput rs x s)) (fun _ {x a s} ha=>⟨rfl,⟨a,rfl,ha⟩,trivial⟩) fun {es rs y t a'} hv hr ih ho x a s ha=>by
  have ho':=List.nodup_cons.mp (show(y::rs.map (·.1)).Nodup from ho)
  rw[dput_cons fun q e=>ho'.1 (by have z:=hr.any q;rwa [←X.inj e] at z)]
  show RowsAt σ _ (if y=x then(x,s)::rs else(y,t)::rput rs x s)
  by_cases hy:y=x
  ·rw[if_pos hy,if_pos (by rw[hy])];exact⟨by rw[hy],⟨a,rfl,ha⟩,hr⟩
  ·rw[if_neg hy,if_neg fun q=>hy (X.inj q)]
   exact⟨rfl,⟨_,rfl,hv⟩,ih ho'.2 ha⟩
end
theorem rput_mem:∀{rs:List (X×Sd)} {x y:X} {s:Sd},y∈(rput rs x s).map (·.1)→y=x∨y∈rs.map (·.1)
 | [],x,y,s,h=> .inl (List.mem_singleton.mp h)
 |(z,t)::rs,x,y,s,h=>by
  have h:y∈(if z=x then(x,s)::rs else(z,t)::rput rs x s).map (·.1):=h
  by_cases hz:z=x
  ·rw[if_pos hz] at h
   exact .inr (hz▸h)
  ·rw[if_neg hz] at h
   rcases List.mem_cons.mp h with h|h
   ·exact .inr (by simp[h])
   ·rcases rput_mem h with h|h
    ·exact .inl h
    ·exact .inr (List.mem_cons_of_mem _ h)
theorem Once.put:∀{rs:List (X×Sd)},Once rs→∀(x:X) (s:Sd),Once (rput rs x s)
 | [],_,x,s=> .cons nMem .nil
 |(z,t)::rs,h,x,s=>by
  have h':=List.nodup_cons.mp (show(z::rs.map (·.1)).Nodup from h)
  show Once (if z=x then(x,s)::rs else(z,t)::rput rs x s)
  by_cases hz:z=x
  ·rw[if_pos hz];subst hz;exact h
  ·rw[if_neg hz]
   refine List.nodup_cons.mpr ⟨fun q=> ?_,Once.put h'.2 x s⟩
   rcases rput_mem q with q|q
   ·exact hz q
   ·exact h'.1 q
structure SsAt (σ:Sto)(x dx r:Addr)(S:Ss):Prop where
 inst:σ x=some (.inst 207 dx)
 attrs:σ dx=some (.attrs [("rows",.ref r),("many",.int S.many)])
 rows:∃es,σ r=some (.dict es)∧RowsAt σ es S.rows
 once:Once S.rows
 few:S.rows.length≤100∧S.many≤100
section
variable {σ:Sto}
theorem c_Sides_new0 {Q:V→Sto→Prop}(q:∀x dx r σ',σ.le σ'→σ x=none→σ dx=none→σ r=none→SsAt σ' x dx r ⟨[],0⟩→Q (.ref x) σ'):CallT (d+2) (.ref 207) [] σ Q:=by
 refine C_make b.i_Sides fun dx x hne h1 h2=> ?_
 have hx:((σ.put dx (.attrs [])).put x (.inst 207 dx)) x=some (.inst 207 dx):=aA _ _ _
 have hd:((σ.put dx (.attrs [])).put x (.inst 207 dx)) dx=some (.attrs []):=aF sps hne
 have hle:σ.le ((σ.put dx (.attrs [])).put x (.inst 207 dx)):=aE (aB h1 _) (by rw[aM _ _ hne.symm];exact h2) _
 have hnone:∀c,((σ.put dx (.attrs [])).put x (.inst 207 dx)) c=none→σ c=none:=fun c hc=>(none_put (none_put hc).1).1
 generalize (σ.put dx (.attrs [])).put x (.inst 207 dx)=σ1 at hx hd hle hnone⊢
 refine aG b.f_Sides_init_1 rfl dkk dkk ?_
 w_fin
 refine TE_dict0 b.low fun r hr=> ?_
 w_fin
 refine T2_setE (aC hx hr) (aC hd hr) b.n_Sides_rows (l':=[("rows",.ref r)]) (by simp) (by rfl) ?_
 w_fin
 have ex:x≠dx:=hne.symm
 refine T2_setE (aF (aC hx hr) ex) sps b.n_Sides_many (l':=[("rows",.ref r),("many",.int 0)]) (by simp) (by rfl) ?_
 rw[Sto.put_put]
 w_fin
 have er:r≠dx:=(Sto.ne_new hd hr).symm
 refine⟨rfl,q x dx r _ ?_ h2 h1 (hnone r hr) ⟨aF (aC hx hr) ex,aA _ _ _,⟨[],aF sps er,trivial⟩,.nil,by simp⟩⟩
 exact aR (aE hle hr _) h1 _
end
section
variable {σ σ':Sto}
theorem SsAt.mono {x dx r:Addr}{S:Ss}(h:SsAt σ x dx r S)(l:∀a o,σ a=some o→σ' a=some o):SsAt σ' x dx r S:=by
 refine x12 h.rows fun es h1 h2=> ?_
 exact⟨l _ _ h.inst,l _ _ h.attrs,⟨es,l _ _ h1,h2.mono fun a o e _=>l a o e⟩,h.once,h.few⟩
end
theorem rput_len:∀{rs:List (X×Sd)} {x:X} {s t:Sd},rget rs x=some t→(rput rs x s).length=rs.length
 | [],x,s,t,h=>nS h
 |(y,u)::rs,x,s,t,h=>by
  have h:(if y=x then some u else rget rs x)=some t:=h
  show(if y=x then(x,s)::rs else(y,u)::rput rs x s).length=_
  by_cases hy:y=x
  ·rw[if_pos hy];rfl
  ·rw[if_neg hy] at h
   rw[if_neg hy];exact congrArg (·+1) (rput_len h)
section
variable {σ:Sto}
theorem c_Sides_new {r0:Addr}{es:List (Str×V)}{S:Ss}{Q:V→Sto→Prop}(hr:σ r0=some (.dict es))(hR:RowsAt σ es S.rows)(ho:Once S.rows)(hf:S.rows.length≤100∧S.many≤100)
  (q:∀x dx σ',σ.le σ'→σ x=none→σ dx=none→SsAt σ' x dx r0 S→Q (.ref x) σ'):CallT (d+2) (.ref 207) [.ref r0,.int S.many] σ Q:=by
 refine C_make b.i_Sides fun dx x hne h1 h2=> ?_
 w_fin
 have hx:((σ.put dx (.attrs [])).put x (.inst 207 dx)) x=some (.inst 207 dx):=aA _ _ _
 have hd:((σ.put dx (.attrs [])).put x (.inst 207 dx)) dx=some (.attrs []):=aF sps hne
 have hle:σ.le ((σ.put dx (.attrs [])).put x (.inst 207 dx)):=aE (aB h1 _) (by rw[aM _ _ hne.symm];exact h2) _
 generalize (σ.put dx (.attrs [])).put x (.inst 207 dx)=σ1 at hx hd hle⊢
 have ex:x≠dx:=hne.symm
 refine aG b.f_Sides_init_3 rfl dkk dkk ?_
 w_fin
 refine T2_setE hx hd b.n_Sides_rows (l':=[("rows",.ref r0)]) (by simp) (by rfl) ?_
 w_fin
 refine T2_setE (aF hx ex) sps b.n_Sides_many (l':=[("rows",.ref r0),("many",.int S.many)]) (by simp) (by rfl) ?_
 w_fin
 rw[Sto.put_put]
 w_fin
 have hle2:=aR hle h1 (.attrs [("rows",.ref r0),("many",.int S.many)])
 exact⟨rfl,q x dx _ hle2 h2 h1 ⟨aF hx ex,aA _ _ _,⟨es,hle2 _ _ hr,hR.mono fun a o e _=>hle2 a o e⟩,ho,hf⟩⟩
theorem c_copied {x dx r:Addr}{S:Ss}{Q:V→Sto→Prop}(h:SsAt σ x dx r S)(q:∀x' dx' r' σ',σ.le σ'→σ x'=none→σ dx'=none→σ r'=none→SsAt σ' x' dx' r' S→Q (.ref x') σ'):CallT (d+3) (.ref 162) [.ref x] σ Q:=by
 refine x12 h.rows fun es h1 h2=> ?_
 refine aG b.f_Sides_copied_1 rfl dkk dkk ?_
 w_fin
 refine aL h.inst h.attrs b.n_Sides_rows (by rfl) (by rfl) ?_
 w_fin
 have hlen:=h2.len
 have hfew:=h.few.1
 refine(C_dict_dict b.low h1 (aK (nT (Nat.le_of_eq hlen) (lt3 hfew))) fun c hc=> ?_)
 w_fin
 refine aL (aC h.inst hc) (aC h.attrs hc) b.n_Sides_many (by rfl) (by rfl) ?_
 w_fin
 have hle:=aB hc (.dict es)
 refine((c_Sides_new sps (h2.mono fun a o e _=>hle a o e) h.once h.few fun x' dx' σ' hl' n1 n2 hS=> ?_).v)
 w_fin
 exact q x' dx' c σ' (aD hle hl') (none_put n1).1 (none_put n2).1 hc hS
theorem c_side {x dx r:Addr}{S:Ss}{y:X}{s:Sd}{Q:V→Sto→Prop}(h:SsAt σ x dx r S)(hy:rget S.rows y=some s)(q:∀a,isSd σ a s→Q (.ref a) σ):CallT (d+3) (.ref 176) [.ref x,.str y.s] σ Q:=by
 refine x12 h.rows fun es h1 h2=> ?_
 refine x12 (h2.get hy) fun a g1 g2=> ?_
 refine CallT.forget (aG b.f_Sides_side_2 rfl dkk dkk ?_)
 w_fin
 refine aL h.inst h.attrs b.n_Sides_rows (by rfl) (by rfl) ?_
 w_fin
 refine Ml_bi (GM_get h1) ?_
 w_fin
 refine((c_Side_new (s:=⟨false,0,[],[],false⟩) fun x' σ' hl hn hs=> ?_).v)
 w_fin
 refine C_get (hl _ _ h1) ?_
 w_fin
 rw[g1]
 w_fin
 exact⟨σ,hl,q a g2⟩
theorem c_askedV {x dx r:Addr}{S:Ss}{y:X}{s:Sd}{Q:V→Sto→Prop}(h:SsAt σ x dx r S)(hs:rget S.rows y=some s)(q:Q (.bool s.asked) σ):CallT (d+4) (.ref 183) [.ref x,(K.var y).v] σ Q:=by
 refine aG b.f_Sides_is_asked_2 rfl dkk dkk ?_
 refine TS_cons (TS_ret (TE_andS ?_))
 w_fin
 refine TE_bool1 ?_
 w_fin
 refine Ml_own h.inst h.attrs b.m_Sides_side (by rfl) ?_
 w_fin
 refine(c_side h hs fun a ha=> ?_).v
 w_fin
 refine x12 ha fun da a1 a2=> ?_;clear ha
 refine aL a1 a2 b.n_Side_is_asked (by rfl) (by rfl) ?_
 w_fin
 exact q
theorem c_askedN {x:Addr}{k:K}{Q:V→Sto→Prop}(hk:wdOk k "var"=true)(q:Q (.bool false) σ):CallT (d+4) (.ref 183) [.ref x,k.v] σ Q:=by
 refine aG b.f_Sides_is_asked_2 rfl dkk dkk ?_
 refine TS_cons (TS_ret (TE_andS ?_))
 w_fin
 refine v_item0 k ?_
 w_fin
 refine T2_eqSf hk ?_
 w_fin
 exact q
theorem c_add_lower {x dx r:Addr}{S:Ss}{y:X}{s:Sd}{k:K}{Q:V→Sto→Prop}(h:SsAt σ x dx r S)(hy:rget S.rows y=some s)(hz:s.lo.length≤900)
  (q:∀σ',(∀a o,σ a=some o→a≠r→σ' a=some o)→SsAt σ' x dx r {S with rows:=rput S.rows y {s with lo:=s.lo++ [k]}}→Q .none σ'):CallT (d+4) (.ref 190) [.ref x,.str y.s,k.v] σ Q:=by
 refine x12 h.rows fun es h1 h2=> ?_
 refine x12 (h2.get hy) fun a g1 g2=> ?_
 have hfew:=h.few.1
 have hlen:=h2.len
 refine aG b.f_Sides_add_lower_3 rfl dkk dkk ?_
 w_fin
 refine aL h.inst h.attrs b.n_Sides_rows (by rfl) (by rfl) ?_
 w_fin
 refine T2_item_dict h1 g1 ?_
 w_fin
 refine x12 (id g2) fun da a1 a2=> ?_
 refine Ml_own a1 a2 b.m_Side_with_lower (by rfl) ?_
 w_fin
 refine(c_with_lower g2 (lt3 hz) fun a' σ' hl hn hs=> ?_).v
 w_fin
 refine aL (hl _ _ h.inst) (hl _ _ h.attrs) b.n_Sides_rows (by rfl) (by rfl) ?_
 w_fin
 refine T3_item_dict (hl _ _ h1) (aK (nT (Nat.le_of_eq hlen) (lt3 hfew))) ?_
 w_fin
 have kp:∀a o,σ' a=some o→(∃C d,o= .inst C d)∨(∃l,o= .attrs l)→(σ'.put r (.dict (dput es y.s (.ref a')))) a=some o:=fun c o e hc=>by
  refine aF e fun z=> ?_
  subst z
  have h1':=hl _ _ h1
  rw[h1'] at e
  replace e:=sI e;subst e
  rcases hc with⟨_,_,e⟩|⟨_,e⟩<;>cases e
 refine q _ (fun c o e n=>aF (hl _ _ e) n) ⟨kp _ _ (hl _ _ h.inst) (.inl ⟨_,_,rfl⟩),kp _ _ (hl _ _ h.attrs) (.inr ⟨_,rfl⟩),⟨_,aA _ _ _,?_⟩,h.once.put _ _,by rw[rput_len hy];exact h.few⟩
 exact RowsAt.put ((h2.mono fun c o e _=>hl c o e).mono kp) h.once (hs.mono kp)
theorem c_add_upper {x dx r:Addr}{S:Ss}{y:X}{s:Sd}{k:K}{Q:V→Sto→Prop}(h:SsAt σ x dx r S)(hy:rget S.rows y=some s)(hz:s.up.length≤900)
  (q:∀σ',(∀a o,σ a=some o→a≠r→σ' a=some o)→SsAt σ' x dx r {S with rows:=rput S.rows y {s with up:=s.up++ [k]}}→Q .none σ'):CallT (d+4) (.ref 197) [.ref x,.str y.s,k.v] σ Q:=by
 refine x12 h.rows fun es h1 h2=> ?_
 refine x12 (h2.get hy) fun a g1 g2=> ?_
 have hfew:=h.few.1
 have hlen:=h2.len
 refine aG b.f_Sides_add_upper_3 rfl dkk dkk ?_
 w_fin
 refine aL h.inst h.attrs b.n_Sides_rows (by rfl) (by rfl) ?_
 w_fin
 refine T2_item_dict h1 g1 ?_
 w_fin
 refine x12 (id g2) fun da a1 a2=> ?_
 refine Ml_own a1 a2 b.m_Side_with_upper (by rfl) ?_
 w_fin
 refine(c_with_upper g2 (lt3 hz) fun a' σ' hl hn hs=> ?_).v
 w_fin
 refine aL (hl _ _ h.inst) (hl _ _ h.attrs) b.n_Sides_rows (by rfl) (by rfl) ?_
 w_fin
 refine T3_item_dict (hl _ _ h1) (aK (nT (Nat.le_of_eq hlen) (lt3 hfew))) ?_
 w_fin
 have kp:∀a o,σ' a=some o→(∃C d,o= .inst C d)∨(∃l,o= .attrs l)→(σ'.put r (.dict (dput es y.s (.ref a')))) a=some o:=fun c o e hc=>by
  refine aF e fun z=> ?_
  subst z
  have h1':=hl _ _ h1
  rw[h1'] at e
  replace e:=sI e;subst e
  rcases hc with⟨_,_,e⟩|⟨_,e⟩<;>cases e
 refine q _ (fun c o e n=>aF (hl _ _ e) n) ⟨kp _ _ (hl _ _ h.inst) (.inl ⟨_,_,rfl⟩),kp _ _ (hl _ _ h.attrs) (.inr ⟨_,rfl⟩),⟨_,aA _ _ _,?_⟩,h.once.put _ _,by rw[rput_len hy];exact h.few⟩
 exact RowsAt.put ((h2.mono fun c o e _=>hl c o e).mono kp) h.once (hs.mono kp)
end
section
variable {d:Nat}{sc:Nms}
@[reducible] def kBd (d:Nat) (sc:Nms) (body:List Stmt) (K:Fl→Loc→Sto→Prop):Loc→Sto→Prop:=fun ρ σ=>TS d sc body ρ σ K
theorem TFor_rec {α:Type}{f:α→V}{target:Expr}{body:List Stmt}{Q:Fl→Loc→Sto→Prop}(I:List α→Loc→Sto→Prop)(P:Sto→Prop)(hP:∀l ρ σ,I l ρ σ→P σ)
  (step:∀x l ρ σ,I (x::l) ρ σ→TA d sc target (f x) ρ σ (kBd d sc body (loopS (I l) Q))) (done:∀ρ σ,I [] ρ σ→Q .next ρ σ) {l:List α}:
  ∀{src:Src} {ρ:Loc} {σ:Sto},src.rest=l.map f→(∀σ,P σ→src.ok σ)→I l ρ σ→TFor d sc target body src ρ σ Q:=by
 induction l with
 |nil=>
  intro src ρ σ e ok h
  rcases src.case with⟨x,s',_,h2,_⟩|⟨h1,_⟩
  ·rw[h2] at e;exact nL' e
  ·exact TFor_end (ok _ (hP _ _ _ h)) h1 (done _ _ h)
 |cons x l ih=>
  intro src ρ σ e ok h
  rcases src.case with⟨x',s',h1,h2,h3⟩|⟨_,h2⟩
  ·rw[h2] at e
   obtain rfl:=cI1 e
   refine TFor_turn (ok _ (hP _ _ _ h)) h1 (TA.mono (step x l ρ σ h) fun ρ₁ σ₁ hb=>TS.mono hb fun f ρ' σ' hf=> ?_)
   induction f using Fl.casesOn with
   |next=>exact ih (cI2 e) (fun σ hp=>h3 σ (ok σ hp)) hf
   |ret v=>exact hf
  ·rw[h2] at e;exact nL e
end
inductive LaI (k:K)(x c:Addr)(o:Int)(σ1:Sto)(l:List X)(ρ:Loc)(σ:Sto):Prop
 |mk (e:σ=σ1) (h:∀z∈l,z∈k.fv [] []) (r1:ρ "self"=some (.ref x)) (r2:ρ "found"=some (.ref c)) (r3:ρ "order"=some (.int o))
section
variable {σ:Sto}
theorem c_later_ones {x dx r:Addr}{S:Ss}{y:X}{s:Sd}{k:K}{Q:V→Sto→Prop}(h:SsAt σ x dx r S)(hy:rget S.rows y=some s)(hk:k.sz≤1000)(hfv:∀z∈k.fv [] [],∃t,rget S.rows z=some t∧t.asked=true)
  (q:∀c,σ c=none→Q (.ref c) (σ.put c (.list []))):CallT (d+4) (.ref 204) [.ref x,k.v,.str y.s] σ Q:=by
 refine CallT.forget (aG b.f_Sides_later_ones_3 rfl dkk dkk ?_)
 got_up
 refine Ml_own h.inst h.attrs b.m_Sides_side (by rfl) ?_
 got_up
 refine(c_side h hy fun a ha=> ?_).v
 got_up
 refine x12 ha fun da a1 a2=> ?_;clear ha
 refine aL a1 a2 b.n_Side_order (by rfl) (by rfl) ?_
 got_up
 refine fun c hc=> ?_
 got_up
 refine TS_for ?_
 got_up
 refine((c_free_vars (d:=d+1) hk fun c₂ hc₂=> ?_).v)
 got_up
 refine kSrc.i (.list sps) ?_
 have hle:σ.le ((σ.put c (.list [])).put c₂ (.list (xs (k.fv [] [])))):=aE (aB hc _) hc₂ _
 have hcc:((σ.put c (.list [])).put c₂ (.list (xs (k.fv [] [])))) c=some (.list []):=aC sps hc₂
 have hc2:=aA (σ.put c (.list [])) c₂ (.list (xs (k.fv [] [])))
 generalize (σ.put c (.list [])).put c₂ (.list (xs (k.fv [] [])))=σ1 at hle hcc hc2⊢
 have h':=h.mono hle
 refine TFor_rec (f:=fun z:X=>V.str z.s) (LaI k x c s.ord σ1) (fun σ'=>σ'=σ1) (fun _ _ _ h=>h.casesOn fun e _ _ _ _=>e) ?_ ?_ (l:=k.fv [] []) rfl (fun σ' e=>e▸hc2) ⟨rfl,fun _ h=>h,by rfl,by rfl,by rfl⟩
 ·intro z l ρ' σ' hI
  refine hI.casesOn fun e hv r1 r2 r3=> ?_
  subst e
  clear hI
  have hz:=hv z (.head _)
  refine x12 (hfv z hz) fun t t1 t2=> ?_
  got_up
  refine Ml_own h'.inst h'.attrs b.m_Sides_side (by rfl) ?_
  got_up
  refine(c_side h' t1 fun a' ha'=> ?_).v
  got_up
  refine x12 ha' fun da' a1' a2'=> ?_;clear ha'
  refine aL a1' a2' b.n_Side_is_asked (by rfl) (by rfl) ?_
  got_up
  rw[t2]
  got_up
  exact⟨rfl,fun v hv'=>hv v (.tail _ hv'),r1,r2,r3⟩
 ·intro ρ' σ' hI
  refine hI.casesOn fun e _ r1 r2 r3=> ?_
  subst e
  got_up
  exact⟨_,Sto.put_le hle hcc,q c hc⟩
noncomputable def X.fresh:X→Nat→Option X
 | .T1,n=>if n=1 then some .T1a else none
 | .S2,n=>if n=1 then some .S2a else if n=2 then some .S2b else none
 | .T0,_=>none
 | .N0,_=>none
 | .T1a,_=>none
 | .S2a,_=>none
 | .S2b,_=>none
noncomputable def one (y:X) (k:K):X→Option K:=fun z=>if z=y then some k else none
noncomputable def sdOf (asked:Bool) (ord:Nat) (lo up:K) (dg:Bool):Sd:=⟨asked,ord,if lo= .bot then[] else[lo],if up= .name .nAny [] then[] else[up],dg⟩
theorem one_tb {y:X}{k:K}:Tb [(y.s,k.v)] (one y k):=fun z=>by
 rw[dget_cons]
 unfold one
 by_cases h:z=y
 ·subst h;simp
 ·rw[if_neg fun q=>h (X.inj q).symm,if_neg h];rfl
theorem fresh_ok {y f:X}{n:Nat}(h:y.fresh n=some f):
  ((decide (y.s.length<("!":Str).length)||decide (Builtin.Str.strKind y.s<Builtin.Str.strKind ("!":Str)))=false)∧(Builtin.Str.occurrences y.s "!" 0 y.s.length (y.s.length+1)).isEmpty=true∧
  (y.s++("!":Str)).length≤100∧((y.s++("!":Str))++(Str.ofString (toString (n:Int)))).length≤100∧(y.s++("!":Str))++(Str.ofString (toString (n:Int)))=f.s∧n≤2:=by
 induction y using X.casesOn<;>first|exact nS h|skip
 ·refine iE h fun e h=> ?_;subst e;replace h:=sI h;subst h;decide +kernel
 ·refine iteE h (fun e h=> ?_) fun _ h=>iE h fun e h=> ?_
  ·subst e;replace h:=sI h;subst h;decide +kernel
  ·subst e;replace h:=sI h;subst h;decide +kernel
theorem RowsAt.mono2 {σ σ':Sto}{es:List (Str×V)}{rs:List (X×Sd)}(h:RowsAt σ es rs)(m:∀a o,σ a=some o→(∃C d,o= .inst C d)∨(∃s,o= .attrs (sdL s))→σ' a=some o):RowsAt σ' es rs:=
 h.ind (P:=RowsAt σ') trivial fun⟨dx,h1,h2⟩ _ ih=>⟨rfl,⟨_,rfl,dx,m _ _ h1 (.inl ⟨_,_,rfl⟩),m _ _ h2 (.inr ⟨_,rfl⟩)⟩,ih⟩
theorem sdL_ne {s:Sd}{v u:V}(e:AO.attrs [("rows",v),("many",u)]=AO.attrs (sdL s)):False:=by
 injection e with e
 have:=congrArg List.length e
 simp[sdL] at this
theorem rput_le:∀{rs:List (X×Sd)} {x:X} {s:Sd},(rput rs x s).length≤rs.length+1
 | [],x,s=>Nat.le_refl 1
 |(y,u)::rs,x,s=>by
  show(if _ then _ else _:List (X×Sd)).length≤_
  split
  ·exact Nat.le_succ _
  ·exact Nat.succ_le_succ rput_le
theorem c_opened {x dx r:Addr}{S:Ss}{y f:X}{lo up bd bd':K}{asked dg:Bool}{m:Nat}{Q:V→Sto→Prop}(h:SsAt σ x dx r S)(hf:y.fresh (S.many+1)=some f)(hz:(K.all y lo up bd).sz≤1000)(hm:(K.all y lo up bd).dp≤m)(hm2:m≤80)
  (hdg:bd.diag y=some dg) (hs:bd.sub (one y (.var f))=some bd') (hnew:S.rows.length≤50)
  (q:∀σ',(∀a o,σ a=some o→a≠r→a≠dx→σ' a=some o)→SsAt σ' x dx r ⟨rput S.rows f (sdOf asked (S.many+1) lo up dg),S.many+1⟩→Q (.tup [.str f.s,bd'.v]) σ'):
  CallT (d+2 * m+8) (.ref 169) [.ref x,(K.all y lo up bd).v,.bool asked] σ Q:=by
 refine x12 h.rows fun es h1 h2=> ?_
 have hlen:=h2.len
 replace hm:max lo.dp (max up.dp bd.dp)+1≤m:=hm
 replace hz:lo.sz+up.sz+bd.sz≤999:=Nat.le_of_succ_le_succ hz
 refine CallT.forget (aG b.f_Sides_opened_3 rfl dkk dkk ?_)
 refine TS_cut false 5 ?_
 w_fin
 refine aL h.inst h.attrs b.n_Sides_many (by rfl) (by rfl) ?_
 w_fin
 refine T2_add_int ?_
 w_fin
 have hxd:x≠dx:=fun e=>by have:=h.inst;rw[e,h.attrs] at this;replace this:=sI this;cases this
 have hrd:r≠dx:=fun e=>by rw[e,h.attrs] at h1;replace h1:=sI h1;cases h1
 refine T2_setE h.inst h.attrs b.n_Sides_many (l':=[("rows",.ref r),("many",.int (S.many+1))]) (by simp) (by rfl) ?_
 w_fin
 have i1:=aF (y:= .attrs [("rows",.ref r),("many",.int (S.many+1))]) h.inst hxd
 have a1:=aA σ dx (.attrs [("rows",.ref r),("many",.int (S.many+1))])
 have r1:=aF (y:= .attrs [("rows",.ref r),("many",.int (S.many+1))]) h1 hrd
 have k1:∀a o,σ a=some o→a≠dx→(σ.put dx (.attrs [("rows",.ref r),("many",.int (S.many+1))])) a=some o:=fun a o e n=>aF e n
 generalize σ.put dx (.attrs [("rows",.ref r),("many",.int (S.many+1))])=σ1 at i1 a1 r1 k1⊢
 w_fin
 refine Ml_bi (GM_split) ?_
 w_fin
 refine an6 (fresh_ok hf) fun f1 f2 f3 f4 f5 f6=> ?_
 have ei:((S.many:Int)+1)=(((S.many+1:Nat)):Int):=by lia
 rw[ei] at a1
 refine C_split1 f1 dkk f2 fun c hc=> ?_
 w_fin
 refine aP sps (by decide) (by decide) (by rfl) ?_
 w_fin
 have i2:=aC (y:= .list [.str y.s]) i1 hc
 have a2:=aC (y:= .list [.str y.s]) a1 hc
 have r2:=aC (y:= .list [.str y.s]) r1 hc
 have k2:∀a o,σ a=some o→a≠dx→(σ1.put c (.list [.str y.s])) a=some o:=fun a o e n=>aC (k1 a o e n) hc
 generalize σ1.put c (.list [.str y.s])=σ2 at i2 a2 r2 k2⊢
 w_fin
 refine T2_add_str (aK (lt3 f3)) ?_
 w_fin
 refine aL i2 a2 b.n_Sides_many (by rfl) (by rfl) ?_
 w_fin
 refine(C_str_int (by lia) ?_)
 w_fin
 refine T2_add_str (aK (by lia)) ?_
 w_fin
 rw[f5]
 w_fin
 have rest:∀(L U:List K) (ρ:Loc),sdOf asked (S.many+1) lo up dg=⟨asked,S.many+1,L,U,dg⟩→ρ "self"=some (.ref x)→ρ "is_asked"=some (.bool asked)→ρ "body"=some bd.v→ρ "name"=some (.str y.s)→ρ "fresh"=some (.str f.s)→ρ "lowers"=some (.tup (K.vs L))→ρ "uppers"=some (.tup (K.vs U))→
   TS (d+2 * m+7) (aH (aJ 17 2)) ((aI (aJ 17 2)).drop 5) ρ σ2 (backOf (Forget Q)):=by
  intro L U ρ he p1 p2 p3 p4 p5 p6 p7
  refine TS_cons (TS_item ?_)
  w_fin
  refine aL i2 a2 b.n_Sides_many (by rfl) (by rfl) ?_
  w_fin
  refine(((c_is_diagonal (d:=d) (m:=m) (l_mx' (l_mx' (l_al hm))) (lt3 (l_ar hz)) hdg ?_).v.le (l_d)))
  w_fin
  refine(((c_Side_new (s:=⟨asked,S.many+1,L,U,dg⟩) fun a' σ3 hl hn hsd=> ?_).v.le (by lia)))
  w_fin
  refine aL (hl _ _ i2) (hl _ _ a2) b.n_Sides_rows (by rfl) (by rfl) ?_
  w_fin
  refine T3_item_dict (hl _ _ r2) (aK (nT (Nat.le_of_eq hlen) (lt3 hnew))) ?_
  w_fin
  have kp:∀a o,σ3 a=some o→(∃C d,o= .inst C d)∨(∃l,o= .attrs l)→(σ3.put r (.dict (dput es f.s (.ref a')))) a=some o:=fun c o e hc=>by
   refine aF e fun z=> ?_
   replace z:=z.symm;subst z
   have h1':=hl _ _ r2
   rw[h1'] at e
   replace e:=sI e;subst e
   rcases hc with⟨_,_,e⟩|⟨_,e⟩<;>cases e
  have hall:∀a o,σ a=some o→a≠r→a≠dx→(σ3.put r (.dict (dput es f.s (.ref a')))) a=some o:=fun a o e n1 n2=>aF (hl _ _ (k2 a o e n2)) n1
  have hS:SsAt (σ3.put r (.dict (dput es f.s (.ref a')))) x dx r ⟨rput S.rows f (sdOf asked (S.many+1) lo up dg),S.many+1⟩:=by
   refine⟨kp _ _ (hl _ _ i2) (.inl ⟨_,_,rfl⟩),kp _ _ (hl _ _ a2) (.inr ⟨_,rfl⟩),⟨_,aA _ _ _,?_⟩,h.once.put _ _,?_⟩
   ·rw[he]
    have hold:RowsAt (σ3.put r (.dict (dput es f.s (.ref a')))) es S.rows:=by
     have m1:RowsAt σ3 es S.rows:=h2.mono2 fun c o e hc=>by
      by_cases z:c=dx
      ·replace z:=z.symm;subst z
       have:=h.attrs
       rw[this] at e
       replace e:=sI e;subst e
       rcases hc with⟨_,_,e⟩|⟨_,e⟩
       ·exfalso;cases e
       ·exact(sdL_ne e).elim
      ·exact hl _ _ (k2 c o e z)
     exact m1.mono kp
    exact RowsAt.put hold h.once (hsd.mono kp)
   ·have:=rput_le (rs:=S.rows) (x:=f) (s:=sdOf asked (S.many+1) lo up dg)
    exact⟨by dsimp only;exact nT this (lt3 (Nat.add_le_add hnew (Nat.le_refl 1))),by dsimp only;exact lt3 f6⟩
  have q':=q _ hall hS
  have rr:=aA σ3 r (.dict (dput es f.s (.ref a')))
  generalize σ3.put r (.dict (dput es f.s (.ref a')))=σ4 at q' rr⊢
  refine TE_dict b.low (by rfl) (by rfl) (by simp) (by simp) ?_
  refine TPs_cons ?_
  w_fin
  refine⟨_,rfl,?_⟩
  w_fin
  refine TPs_nil fun c hc=> ?_
  w_fin
  refine(((c_substituted (d:=d) m (tb:=one y (.var f)) (es:=[(y.s,(K.var f).v)]) (l_mx' (l_mx' (l_al hm))) (lt3 (l_ar hz)) hs one_tb (by simp) sps ?_).v.le (by lia)))
  w_fin
  exact⟨_,aB hc _,q'⟩
 refine T2_eqK (a:=lo) (b:= .bot) (l_min (nT (l_mx (l_al hm)) (lt3 hm2))) ?_
 w_fin
 have hdl:decide (lo=K.bot)=true∨decide (lo=K.bot)=false:=by cases decide (lo=K.bot)<;>simp
 have hdu:decide (up=K.name .nAny [])=true∨decide (up=K.name .nAny [])=false:=by cases decide (up=K.name .nAny [])<;>simp
 rcases hdl with e1|e1<;>rcases hdu with e2|e2
 ·rw[e1]
  w_fin
  refine T2_eqK (a:=up) (b:= .name .nAny []) (l_min (nT (l_mx (l_mx' (l_al hm))) (lt3 hm2))) ?_
  w_fin
  rw[e2]
  w_fin
  refine Cut.i (rest [] [] _ ?_ rfl rfl rfl rfl rfl rfl rfl)
  have:=oD e1;have:=oD e2
  simp[sdOf, *]
 ·rw[e1]
  w_fin
  refine T2_eqK (a:=up) (b:= .name .nAny []) (l_min (nT (l_mx (l_mx' (l_al hm))) (lt3 hm2))) ?_
  w_fin
  rw[e2]
  w_fin
  refine Cut.i (rest [] [up] _ ?_ rfl rfl rfl rfl rfl rfl rfl)
  have:=oD e1;have:=of_decide_eq_false e2
  simp[sdOf, *]
 ·rw[e1]
  w_fin
  refine T2_eqK (a:=up) (b:= .name .nAny []) (l_min (nT (l_mx (l_mx' (l_al hm))) (lt3 hm2))) ?_
  w_fin
  rw[e2]
  w_fin
  refine Cut.i (rest [lo] [] _ ?_ rfl rfl rfl rfl rfl rfl rfl)
  have:=of_decide_eq_false e1;have:=oD e2
  simp[sdOf, *]
 ·rw[e1]
  w_fin
  refine T2_eqK (a:=up) (b:= .name .nAny []) (l_min (nT (l_mx (l_mx' (l_al hm))) (lt3 hm2))) ?_
  w_fin
  rw[e2]
  w_fin
  refine Cut.i (rest [lo] [up] _ ?_ rfl rfl rfl rfl rfl rfl rfl)
  have:=of_decide_eq_false e1;have:=of_decide_eq_false e2
  simp[sdOf, *]
structure G where
 same:Bool
 a:K
 b:K
 deriving DecidableEq
noncomputable def gV (g:G):V:= .tup [.str (if g.same then "same" else "sub"),g.a.v,g.b.v]
noncomputable def LsAt (σ:Sto):List Addr→List (List G)→Prop
 | [],[]=>True
 |a::as,g::gs=>σ a=some (.list (g.map gV))∧LsAt σ as gs
 |_,_=>False
noncomputable def WaysAt (σ:Sto) (a:Addr) (ws:List (List G)):Prop:=∃as:List Addr,σ a=some (.list (as.map V.ref))∧LsAt σ as ws
noncomputable def m_below (S:Ss) (y:X) (s:Sd) (k:K):List (List G)×Ss:=
 if(decide (k≠ .var y)&&decide (y∈k.fv [] []))=true then([],S) else if k∈s.up then([[]],S) else([s.lo.map fun l=>⟨false,l,k⟩],{S with rows:=rput S.rows y {s with up:=s.up++ [k]}})
noncomputable def m_above (S:Ss) (y:X) (s:Sd) (k:K):List (List G)×Ss:=
 if(decide (k≠ .var y)&&decide (y∈k.fv [] []))=true then([],S) else if k∈s.lo then([[]],S) else([s.up.map fun u=>⟨false,k,u⟩],{S with rows:=rput S.rows y {s with lo:=s.lo++ [k]}})
theorem K.noBi (k:K):k.v.noBi=true:=by induction k using K.casesOn<;>rfl
theorem K.notN (k:K):k.v.isN=false:=by induction k using K.casesOn<;>rfl
theorem K.vs_mem {k:K}{l:List K}:k.v∈K.vs l↔k∈l:=by
 rw[K.vs_map,List.mem_map]
 exact⟨fun⟨b,hb,e⟩=>K.v_inj e▸hb,fun h=>⟨k,h,rfl⟩⟩
theorem rget_put:∀{rs:List (X×Sd)} {x y:X} {s:Sd},rget (rput rs x s) y=if x=y then some s else rget rs y
 | [],x,y,s=>rfl
 |(z,t)::rs,x,y,s=>by
  show rget (if z=x then(x,s)::rs else(z,t)::rput rs x s) y=if x=y then some s else if z=y then some t else rget rs y
  by_cases hz:z=x
  ·subst hz
   rw[if_pos rfl]
   show(if z=y then some s else rget rs y)=_
   by_cases h:z=y
   ·rw[if_pos h,if_pos h]
   ·rw[if_neg h,if_neg h,if_neg h]
  ·rw[if_neg hz]
   show(if z=y then some t else rget (rput rs x s) y)=_
   by_cases h:z=y
   ·subst h;rw[if_pos rfl,if_neg fun q=>hz q.symm,if_pos rfl]
   ·rw[if_neg h,if_neg h,rget_put]
theorem c_narrowed {x dx r:Addr}{S:Ss}{y:X}{s:Sd}{k:K}{Q:V→Sto→Prop}(h:SsAt σ x dx r S)(hy:rget S.rows y=some s)(hk:k.sz≤1000)(hd:k.dp≤100)(hfv:∀z∈k.fv [] [],∃t,rget S.rows z=some t∧t.asked=true)
  (q:Q (if(decide (k≠ .var y)&&decide (y∈k.fv [] []))=true then .none else k.v) σ):CallT (d+5) (.ref 356) [.str y.s,k.v,.ref x] σ Q:=by
 refine CallT.forget (aG b.f_narrowed_3 rfl dkk dkk ?_)
 w_fin
 refine Ml_own h.inst h.attrs b.m_Sides_later_ones (by rfl) ?_
 w_fin
 refine(c_later_ones h hy hk hfv fun c hc=> ?_).v
 w_fin
 refine fun c₂ hc₂=> ?_
 w_fin
 refine T2_eq_nil (l:=[]) (aC sps hc₂) sps (r:=true) (by simp) ?_
 w_fin
 refine(((c_has_within (d:=d) hk hd ?_).v.le (l_d)))
 w_fin
 have hle:=aE (aB hc (.list [])) hc₂ (.list [])
 induction hw:(decide (k≠ .var y)&&decide (y∈k.fv [] [])) using Bool.casesOn with
 |true=>
  rw[hw] at q
  w_fin
  exact⟨_,hle,q⟩
 |false=>
  rw[hw] at q
  w_fin
  exact⟨_,hle,q⟩
theorem c_widened {x dx r:Addr}{S:Ss}{y:X}{s:Sd}{k:K}{Q:V→Sto→Prop}(h:SsAt σ x dx r S)(hy:rget S.rows y=some s)(hk:k.sz≤1000)(hd:k.dp≤100)(hfv:∀z∈k.fv [] [],∃t,rget S.rows z=some t∧t.asked=true)
  (q:Q (if(decide (k≠ .var y)&&decide (y∈k.fv [] []))=true then .none else k.v) σ):CallT (d+5) (.ref 363) [.str y.s,k.v,.ref x] σ Q:=by
 refine CallT.forget (aG b.f_widened_3 rfl dkk dkk ?_)
 w_fin
 refine Ml_own h.inst h.attrs b.m_Sides_later_ones (by rfl) ?_
 w_fin
 refine(c_later_ones h hy hk hfv fun c hc=> ?_).v
 w_fin
 refine fun c₂ hc₂=> ?_
 w_fin
 refine T2_eq_nil (l:=[]) (aC sps hc₂) sps (r:=true) (by simp) ?_
 w_fin
 refine(((c_has_within (d:=d) hk hd ?_).v.le (l_d)))
 w_fin
 have hle:=aE (aB hc (.list [])) hc₂ (.list [])
 induction hw:(decide (k≠ .var y)&&decide (y∈k.fv [] [])) using Bool.casesOn with
 |true=>
  rw[hw] at q
  w_fin
  exact⟨_,hle,q⟩
 |false=>
  rw[hw] at q
  w_fin
  exact⟨_,hle,q⟩
theorem c_below {xs_ x dx r:Addr}{S:Ss}{y:X}{s:Sd}{k:K}{Q:V→Sto→Prop}(h:SsAt σ x dx r S)(hy:rget S.rows y=some s)(hk:k.sz≤900)(hd:k.dp≤90)(hl1:s.lo.length≤800)(hl2:s.up.length≤800)
  (hfv:∀z∈k.fv [] [],∃t,rget S.rows z=some t∧t.asked=true)
  (q:∀a σ',(∀c o,σ c=some o→c≠r→σ' c=some o)→SsAt σ' x dx r (m_below S y s k).2→WaysAt σ' a (m_below S y s k).1→Q (.ref a) σ'):CallT (d+6) (.ref 303) [.ref xs_,.str y.s,k.v,.ref x] σ Q:=by
 unfold m_below at q
 refine aG b.f_Search_below_4 rfl dkk dkk ?_
 w_fin
 refine((c_narrowed h hy (lt3 hk) (lt3 hd) hfv ?_).v)
 w_fin
 by_cases hw:(decide (k≠ .var y)&&decide (y∈k.fv [] []))=true
 ·rw[if_pos hw] at q⊢
  w_fin
  refine fun c hc=> ?_
  w_fin
  exact q c _ (fun a o e _=>aC e hc) (h.mono fun a o e=>aC e hc) ⟨[],aA _ _ _,trivial⟩
 ·rw[if_neg hw] at q⊢
  w_fin
  refine T2_is_none (K.noBi k) ?_
  w_fin
  rw[K.notN]
  w_fin
  refine Ml_own h.inst h.attrs b.m_Sides_side (by rfl) ?_
  w_fin
  refine((c_side h hy fun a ha=> ?_).v.le (l_d))
  w_fin
  refine x12 ha fun da a1 a2=> ?_
  refine aL a1 a2 b.n_Side_uppers (by rfl) (by rfl) ?_
  w_fin
  by_cases hm:k∈s.up
  ·rw[if_pos hm] at q
   refine T2_in_tup (r:=true) (by simp[K.vs_mem,hm]) k.gr (K.grs _) (by have:=k.dep;lia) ?_
   w_fin
   refine T2_is_none (K.noBi k) ?_
   w_fin
   rw[K.notN]
   w_fin
   refine fun c₁ hc₁=> ?_
   w_fin
   refine fun c hc=> ?_
   w_fin
   exact q c _ (fun a o e _=>aC (aC e hc₁) hc) (h.mono fun a o e=>aC (aC e hc₁) hc) ⟨[c₁],aA _ _ _,aC sps hc,trivial⟩
  ·rw[if_neg hm] at q
   refine T2_in_tup (r:=false) (by simp[K.vs_mem,hm]) k.gr (K.grs _) (by have:=k.dep;lia) ?_
   w_fin
   refine Ml_own h.inst h.attrs b.m_Sides_add_upper (by rfl) ?_
   w_fin
   refine((c_add_upper h hy (lt3 hl2) fun σ' hch hS=> ?_).v.le (l_d))
   w_fin
   refine⟨rfl,?_⟩
   w_fin
   refine TE_comp rfl dkk ?_
   w_fin
   refine Ml_own hS.inst hS.attrs b.m_Sides_side (by rfl) ?_
   w_fin
   refine((c_side hS (by dsimp only;rw[rget_put,if_pos rfl]) fun a ha=> ?_).v.le (l_d))
   w_fin
   refine x12 ha fun da a1 a2=> ?_
   refine aL a1 a2 b.n_Side_lowers (by rfl) (by rfl) ?_
   w_fin
   refine kSrc.i .tup ?_
   w_fin
   refine TCo_pts (ys:=(s.lo.map fun l=>⟨false,l,k⟩).map gV) rfl rfl dkk trivial (fun _=>rfl) (by simp;exact lt3 hl1) (All2.eq (All2.of (f:=fun l=>gV (⟨false,l,k⟩)) fun l _=> ?_) (by rw[List.map_map];rfl)) ?_
   ·w_fin
    exact⟨rfl,rfl⟩
   intro ρ' c₁ hc₁
   w_fin
   refine fun c hc=> ?_
   w_fin
   exact q c _ (fun a o e n=>aC (aC (hch a o e n) hc₁) hc) (hS.mono fun a o e=>aC (aC e hc₁) hc) ⟨[c₁],aA _ _ _,aC sps hc,trivial⟩
theorem c_above {xs_ x dx r:Addr}{S:Ss}{y:X}{s:Sd}{k:K}{Q:V→Sto→Prop}(h:SsAt σ x dx r S)(hy:rget S.rows y=some s)(hk:k.sz≤900)(hd:k.dp≤90)(hl1:s.lo.length≤800)(hl2:s.up.length≤800)
  (hfv:∀z∈k.fv [] [],∃t,rget S.rows z=some t∧t.asked=true)
  (q:∀a σ',(∀c o,σ c=some o→c≠r→σ' c=some o)→SsAt σ' x dx r (m_above S y s k).2→WaysAt σ' a (m_above S y s k).1→Q (.ref a) σ'):CallT (d+6) (.ref 308) [.ref xs_,.str y.s,k.v,.ref x] σ Q:=by
 unfold m_above at q
 refine aG b.f_Search_above_4 rfl dkk dkk ?_
 w_fin
 refine((c_widened h hy (lt3 hk) (lt3 hd) hfv ?_).v)
 w_fin
 by_cases hw:(decide (k≠ .var y)&&decide (y∈k.fv [] []))=true
 ·rw[if_pos hw] at q⊢
  w_fin
  refine fun c hc=> ?_
  w_fin
  exact q c _ (fun a o e _=>aC e hc) (h.mono fun a o e=>aC e hc) ⟨[],aA _ _ _,trivial⟩
 ·rw[if_neg hw] at q⊢
  w_fin
  refine T2_is_none (K.noBi k) ?_
  w_fin
  rw[K.notN]
  w_fin
  refine Ml_own h.inst h.attrs b.m_Sides_side (by rfl) ?_
  w_fin
  refine((c_side h hy fun a ha=> ?_).v.le (l_d))
  w_fin
  refine x12 ha fun da a1 a2=> ?_
  refine aL a1 a2 b.n_Side_lowers (by rfl) (by rfl) ?_
  w_fin
  by_cases hm:k∈s.lo
  ·rw[if_pos hm] at q
   refine T2_in_tup (r:=true) (by simp[K.vs_mem,hm]) k.gr (K.grs _) (by have:=k.dep;lia) ?_
   w_fin
   refine T2_is_none (K.noBi k) ?_
   w_fin
   rw[K.notN]
   w_fin
   refine fun c₁ hc₁=> ?_
   w_fin
   refine fun c hc=> ?_
   w_fin
   exact q c _ (fun a o e _=>aC (aC e hc₁) hc) (h.mono fun a o e=>aC (aC e hc₁) hc) ⟨[c₁],aA _ _ _,aC sps hc,trivial⟩
  ·rw[if_neg hm] at q
   refine T2_in_tup (r:=false) (by simp[K.vs_mem,hm]) k.gr (K.grs _) (by have:=k.dep;lia) ?_
   w_fin
   refine Ml_own h.inst h.attrs b.m_Sides_add_lower (by rfl) ?_
   w_fin
   refine((c_add_lower h hy (lt3 hl1) fun σ' hch hS=> ?_).v.le (l_d))
   w_fin
   refine⟨rfl,?_⟩
   w_fin
   refine TE_comp rfl dkk ?_
   w_fin
   refine Ml_own hS.inst hS.attrs b.m_Sides_side (by rfl) ?_
   w_fin
   refine((c_side hS (by dsimp only;rw[rget_put,if_pos rfl]) fun a ha=> ?_).v.le (l_d))
   w_fin
   refine x12 ha fun da a1 a2=> ?_
   refine aL a1 a2 b.n_Side_uppers (by rfl) (by rfl) ?_
   w_fin
   refine kSrc.i .tup ?_
   w_fin
   refine TCo_pts (ys:=(s.up.map fun l=>⟨false,k,l⟩).map gV) rfl rfl dkk trivial (fun _=>rfl) (by simp;exact lt3 hl2) (All2.eq (All2.of (f:=fun l=>gV (⟨false,k,l⟩)) fun l _=> ?_) (by rw[List.map_map];rfl)) ?_
   ·w_fin
    exact⟨rfl,rfl⟩
   intro ρ' c₁ hc₁
   w_fin
   refine fun c hc=> ?_
   w_fin
   exact q c _ (fun a o e n=>aC (aC (hch a o e n) hc₁) hc) (hS.mono fun a o e=>aC (aC e hc₁) hc) ⟨[c₁],aA _ _ _,aC sps hc,trivial⟩
theorem All2.range {P:V→V→Prop}{f:Nat→V}:∀{n s:Nat},(∀i,s≤i→i<s+n→P (.int i) (f i))→All2 P ((List.range' s n).map fun(k:Nat)=>V.int k) ((List.range' s n).map f)
 |0,s,_=>trivial
 |n+1,s,h=>by
  rw[List.range'_succ]
  exact⟨h s (Nat.le_refl _) (by lia),All2.range fun i h1 h2=>h i (l_al h1) (by lia)⟩
noncomputable def zipG:List K→List K→List G
 | [],_=> []
 |a::l,m=>match m with
  | []=> []
  |b::m=>⟨false,a,b⟩::zipG l m
noncomputable def m_tuple_ways (ks ks':List K):List (List G):=if ks.length=ks'.length then[zipG ks ks'] else[]
theorem zipG_range:∀(ks ks':List K),ks.length=ks'.length→∀(f:Nat→V),(∀i,(hi:i<ks.length)→(hj:i<ks'.length)→f i=gV ⟨false,ks[i],ks'[i]⟩)→(List.range' 0 ks.length).map f=(zipG ks ks').map gV:=by
 have g:∀(ks ks':List K) (s:Nat),ks.length=ks'.length→∀(f:Nat→V),(∀i,(hi:i<ks.length)→(hj:i<ks'.length)→f (s+i)=gV ⟨false,ks[i],ks'[i]⟩)→(List.range' s ks.length).map f=(zipG ks ks').map gV:=by
  intro ks
  induction ks with
  |nil=>intro ks' s _ f _;induction ks' using List.casesOn<;>rfl
  |cons a l ih=>
   intro ks' s h f hf
   induction ks' using List.casesOn with
   |nil=>cases h
   |cons b m=>
    rw[List.length_cons,List.range'_succ,List.map_cons]
    have h0:=hf 0 (by simp) (by simp)
    rw[ih m (s+1) (by simpa using h) f fun i hi hj=>by
     have:=hf (i+1) (by simpa using hi) (by simpa using hj)
     rw[show s+1+i=s+(i+1) by lia];exact this]
    rw[show f s=f (s+0) from rfl,h0];rfl
 intro ks ks' h f hf
 exact g ks ks' 0 h f fun i hi hj=>by rw[Nat.zero_add];exact hf i hi hj
theorem zipG_len:∀(l m:List K),(zipG l m).length≤l.length:=by
 intro l
 induction l with
 |nil=>exact fun _=>Nat.le_refl 0
 |cons a l ih=>intro m;induction m using List.casesOn with
  |nil=>exact Nat.zero_le _
  |cons b m=>exact Nat.succ_le_succ (ih m)
theorem c_tail_of {ks:List K}{Q:V→Sto→Prop}(q:Q .none σ):CallT (d+1) (.ref 252) [(K.tup ks).v] σ Q:=by
 refine aG b.f_tail_of_1 rfl dkk dkk ?_
 w_fin
 exact q
theorem c_tuple_ways {ks ks':List K}{Q:V→Sto→Prop}(h1:ks.length≤1000)(h2:ks'.length≤1000)(q:∀a σ',σ.le σ'→WaysAt σ' a (m_tuple_ways ks ks')→Q (.ref a) σ'):CallT (d+2) (.ref 375) [(K.tup ks).v,(K.tup ks').v] σ Q:=by
 unfold m_tuple_ways at q
 refine aG b.f_tuple_ways_2 rfl dkk dkk ?_
 refine TS_cons (TS_asg (hw:=fun env hn hk=>swapOf_spec hn hk (by rfl)) ?_)
 w_fin
 refine((c_tail_of ?_).v)
 w_fin
 refine TS_asg (hw:=fun env hn hk=>swapOf_spec hn hk (by rfl)) ?_
 w_fin
 refine((c_tail_of ?_).v)
 w_fin
 refine(C_len_tup (aK (by rw[aO];exact lt3 h1)) ?_)
 w_fin
 refine(C_len_tup (aK (by rw[aO];exact lt3 h2)) ?_)
 w_fin
 refine T2_lt_int ?_
 w_fin
 rw[aO,aO]
 w_fin
 by_cases hlt:ks.length<ks'.length
 ·rw[if_neg (by lia)] at q
  rw[show decide ((ks.length:Int)<(ks'.length:Int))=true by simp;exact hlt]
  w_fin
  refine fun c hc=> ?_
  w_fin
  exact q c _ (aB hc _) ⟨[],aA _ _ _,trivial⟩
 rw[show decide ((ks.length:Int)<(ks'.length:Int))=false by simp;exact Nat.le_of_not_lt hlt]
 w_fin
 refine(C_len_tup (aK (by rw[aO];exact lt3 h1)) ?_)
 w_fin
 refine(C_len_tup (aK (by rw[aO];exact lt3 h2)) ?_)
 w_fin
 refine T2_gt_int ?_
 w_fin
 rw[aO,aO]
 w_fin
 by_cases hgt:ks.length>ks'.length
 ·rw[if_neg (by lia)] at q
  rw[show decide ((ks.length:Int)>(ks'.length:Int))=true by simp;exact hgt]
  w_fin
  refine fun c hc=> ?_
  w_fin
  exact q c _ (aB hc _) ⟨[],aA _ _ _,trivial⟩
 have he:ks.length=ks'.length:=(Nat.le_antisymm (Nat.le_of_not_lt hgt) (Nat.le_of_not_lt hlt))
 rw[if_pos he] at q
 rw[show decide ((ks.length:Int)>(ks'.length:Int))=false by simp;exact Nat.le_of_not_lt hgt]
 w_fin
 refine TS_compx (.inl dkk) rfl dkk ?_
 w_fin
 refine(C_len_tup (aK (by rw[aO];exact lt3 h1)) ?_)
 w_fin
 rw[aO]
 refine(C_range fun c hc=> ?_)
 w_fin
 refine kSrc.i (.rng sps (by lia)) ?_
 w_fin
 refine TCo_pts (ys:=(zipG ks ks').map gV) rfl rfl dkk trivial (fun _=>rfl) ?_ ?_ ?_
 ·have:=zipG_len ks ks'
  simp;exact nT this (lt3 h1)
 ·show All2 _ ((List.range' 0 (ks.length-0)).map fun(k:Nat)=>V.int k) _
  rw[Nat.sub_zero]
  refine All2.eq (All2.range (f:=fun i=>gV ⟨false,(ks[i]?).getD .bot,(ks'[i]?).getD .bot⟩) fun i _ hi=> ?_) (zipG_range ks ks' he _ fun i hi hj=>by rw[List.getElem?_eq_getElem hi,List.getElem?_eq_getElem hj];rfl)
  have hi1:i<ks.length:=by lia
  have hi2:i<ks'.length:=(nT hi1 (Nat.le_of_not_lt hgt))
  have e1:(K.vs ks)[i]? =some (ks[i].v):=by rw[K.vs_map,List.getElem?_map,List.getElem?_eq_getElem hi1];rfl
  have e2:(K.vs ks')[i]? =some (ks'[i].v):=by rw[K.vs_map,List.getElem?_map,List.getElem?_eq_getElem hi2];rfl
  have s1:seqIndex? (i:Int) (K.vs ks).length=some i:=by rw[aO];unfold seqIndex?;simp;lia
  have s2:seqIndex? (i:Int) (K.vs ks').length=some i:=by rw[aO];unfold seqIndex?;simp;lia
  w_fin
  refine T2_item_tup (by lia) (by lia) s1 e1 ?_
  w_fin
  refine(C_len_tup (aK (by rw[aO];exact lt3 h2)) ?_)
  w_fin
  refine T2_lt_int ?_
  w_fin
  rw[aO,show decide ((i:Int)<(ks'.length:Int))=true by simp;exact hi2]
  w_fin
  refine T2_item_tup (by lia) (by lia) s2 e2 ?_
  w_fin
  refine⟨?_,rfl⟩
  rw[List.getElem?_eq_getElem hi1,List.getElem?_eq_getElem hi2];rfl
 intro ρ' c₁ hc₁
 w_fin
 refine fun c₂ hc₂=> ?_
 w_fin
 refine T2_add_list (aC sps hc₂) sps (aK ?_) fun c₃ hc₃=> ?_
 ·have:=zipG_len ks ks'
  simp;exact nT this (lt3 h1)
 w_fin
 refine fun c₄ hc₄=> ?_
 w_fin
 refine q c₄ _ (aE (aE (aE (aE (aB hc _) hc₁ _) hc₂ _) hc₃ _) hc₄ _) ⟨[c₃],aA _ _ _,?_,trivial⟩
 w_fin
 refine aC ?_ hc₄
 rw[aA];simp
end
section
variable {d:Nat}{sc:Nms}
noncomputable def kAc (P:List V→Sto→Prop) (acc:List V):V→Sto→Prop:=fun v σ=>P (acc++ [v]) σ
@[reducible] def kCt (d:Nat) (sc:Nms) (elt:Expr) (ρ:Loc) (P:List V→Sto→Prop) (acc:List V):Bool→Sto→Prop:=fun b σ=>if b=true then TE d sc elt ρ σ (kAc P acc) else P acc σ
theorem TCo_rec {α:Type}{f:α→V}{elt:Expr}{gens:List Comprehension}{cs:Scope}{cp:Pos}{k:Nat}{target iter:Expr}{ifs:List Expr}{Q:List V→Loc→Sto→Prop}(I:List α→List V→Sto→Prop)(P:Sto→Prop)(J:Loc→Prop)(tl:α→Loc→Loc)
  (hg:gens[k]? =some ⟨target,iter,ifs,0⟩) (hg':gens[k+1]? =none) (hP:∀l acc σ,I l acc σ→P σ∧acc.length+l.length≤100000)
  (ht:∀x ρ,J ρ→TL d sc target (f x) ρ (tl x ρ)) (hJ:∀x ρ,J ρ→J (tl x ρ))
  (step:∀x l acc σ ρ,I (x::l) acc σ→J ρ→TIfs d sc ifs (tl x ρ) σ (kCt d sc elt (tl x ρ) (I l) acc)) (done:∀acc ρ' σ,I [] acc σ→Q acc ρ' σ) {l:List α}:
  ∀{src:Src} {acc:List V} {ρ:Loc} {σ:Sto},src.rest=l.map f→(∀σ,P σ→src.ok σ)→J ρ→I l acc σ→TCo d sc elt gens cs cp k src acc ρ σ Q:=by
 induction l with
 |nil=>
  intro src acc ρ σ e ok j h
  rcases src.case with⟨x,s',_,h2,_⟩|⟨h1,_⟩
  ·rw[h2] at e;exact nL' e
  ·exact TCo_end hg rfl (ok _ (hP _ _ _ h).1) h1 (done _ _ _ h)
 |cons x l ih=>
  intro src acc ρ σ e ok j h
  rcases src.case with⟨x',s',h1,h2,h3⟩|⟨_,h2⟩
  ·rw[h2] at e
   obtain rfl:=cI1 e
   refine TCo_turn hg hg' (ok _ (hP _ _ _ h).1) h1 (aK (l_al (hP _ _ _ h).2)) (ht x ρ j) (TIfs.mono (step x _ acc σ ρ h j) fun c σ' h'=> ?_)
   induction c using Bool.casesOn with
   |true=>exact TE.mono h' fun v σ'' h''=>ih (cI2 e) (fun σ hp=>h3 σ (ok σ hp)) (hJ x ρ j) h''
   |false=>exact ih (cI2 e) (fun σ hp=>h3 σ (ok σ hp)) (hJ x ρ j) h'
  ·rw[h2] at e;exact nL e
end
noncomputable def bV (p:X×K×K):V:= .tup [.str p.1.s,p.2.1.v,p.2.2.v]
noncomputable def closeK (p:X×K×K) (body:K):K:=if p.1∈body.fv [] [] then .all p.1 p.2.1 p.2.2 body else body
noncomputable def closedK (l:List (X×K×K)) (body:K):K:=l.foldr closeK body
noncomputable def szB (l:List (X×K×K)):Nat:=(l.map fun p=>p.2.1.sz+p.2.2.sz+1).sum
inductive ClI (l:List (X×K×K))(body:K)(σ1:Sto)(l':List (X×K×K))(ρ:Loc)(σ:Sto):Prop
 |mk (bd:K) (e2:l'.foldl (fun bd p=>closeK p bd) bd=closedK l body) (e3:szB l'+bd.sz≤900) (e4:ρ "body"=some bd.v) (e5:σ1.le σ)
section
variable {σ:Sto}
theorem c_closed {a:Addr}{l:List (X×K×K)}{body:K}{Q:V→Sto→Prop}(ha:σ a=some (.list (l.map bV)))(hl:l.length≤100)(hz:szB l+body.sz≤900)(q:Q (closedK l body).v σ):CallT (d+3) (.ref 79) [.ref a,body.v] σ Q:=by
 refine CallT.forget (aG b.f_closed_2 rfl dkk dkk ?_)
 refine TS_cons (TS_for (TE_slice ?_))
 got_up
 refine⟨_,rfl,Lf.i ⟨a,_,rfl,ha,aK (by simp;exact lt3 hl),by decide,fun c hc=> ?_⟩⟩
 rw[pick_rev]
 refine kSrc.i (.list sps) ?_
 have hle:=aB hc (.list (l.map bV).reverse)
 have hcc:=aA σ c (.list (l.map bV).reverse)
 generalize σ.put c (.list (l.map bV).reverse)=σ1 at hle hcc⊢
 refine TFor_rec (f:=bV) (ClI l body σ1) (fun σ'=>σ1.le σ') (fun _ _ _ h=>h.casesOn fun _ _ _ _ h=>h) ?_ ?_ (l:=l.reverse) (show(l.map bV).reverse=_ from List.map_reverse.symm) (fun σ' h=>h _ _ hcc) ⟨body,?_,?_,rfl,aQ _⟩
 ·intro p l' ρ' σ' hI
  refine hI.casesOn fun bd e2 e3 e4 e5=> ?_
  clear hI
  have hz1:p.2.1.sz+p.2.2.sz+1+szB l'=szB (p::l'):=by simp[szB]
  obtain⟨x,lo,up⟩:=p
  refine TA_ns (by rfl) ?_
  got_up
  refine((c_free_vars (d:=d) (lt3 (l_ar e3)) fun c₂ hc₂=> ?_).v)
  got_up
  refine T2_in_list sps (r:=decide (x∈bd.fv [] [])) (by rw[decide_eq_true_iff,xs_mem]) x.ok (xs_gr _) (Nat.zero_le _) ?_
  got_up
  have hle2:=aE e5 hc₂ (.list (xs (bd.fv [] [])))
  by_cases hx:x∈bd.fv [] []
  ·rw[show decide (x∈bd.fv [] [])=true by simp[hx]]
   got_up
   refine⟨.all x lo up bd,?_,?_,rfl,hle2⟩
   ·rw[←e2,List.foldl_cons,show closeK (x,lo,up) bd= .all x lo up bd by simp[closeK,hx]]
   ·have hz1:lo.sz+up.sz+1+szB l'=szB ((x,lo,up)::l'):=hz1
    show szB l'+(lo.sz+up.sz+bd.sz+1)≤900;lia
  ·rw[show decide (x∈bd.fv [] [])=false by simp[hx]]
   got_up
   refine⟨bd,?_,by lia,e4,hle2⟩
   rw[←e2,List.foldl_cons,show closeK (x,lo,up) bd=bd by simp[closeK,hx]]
 ·intro ρ' σ' hI
  refine hI.casesOn fun bd e2 e3 e4 e5=> ?_
  clear hI
  got_up
  refine⟨_,aD hle e5,?_⟩
  rw[show closedK l body=bd from e2.symm] at q
  exact q
 ·unfold closedK
  rw[List.foldl_reverse]
 ·have:szB l.reverse=szB l:=by simp[szB,List.sum_reverse]
  lia
end
mutual
noncomputable def K.pl:K→Bool
 | .name .. =>true
 | .var _=>true
 | .typ _=>true
 | .bot=>true
 | .tup ks=>K.pls ks
 |_=>false
noncomputable def K.pls:List K→Bool
 | []=>true
 |k::l=>k.pl&&K.pls l
end
theorem mul11:IntMulOk 1 1:=by unfold IntMulOk;decide +kernel
inductive TcI (ks:List K)(σ₀:Sto)(todo:List K)(ρ:Loc)(σ:Sto):Prop
 |mk (done:List K) (r:Addr) (e1:done++todo=ks) (e3:σ₀.le σ) (e4:σ₀ r=none) (e5:σ r=some (.list [.tup (K.vs done)])) (e6:ρ "rows"=some (.ref r)) (e7:ρ "kind"=some (K.tup ks).v)
section
variable {d:Nat}{σ:Sto}
theorem c_tuple_cases {ks:List K}{Q:V→Sto→Prop}(hz:ks.length≤60)
  (hrec:∀k∈ks,∀(σ:Sto) (Q:V→Sto→Prop),(∀c σ',σ.le σ'→σ c=none→σ' c=some (.list [k.v])→Q (.ref c) σ')→CallT (d+1) (.ref 235) [k.v] σ Q)
  (q:∀c σ',σ.le σ'→σ c=none→σ' c=some (.list [(K.tup ks).v])→Q (.ref c) σ'):CallT (d+2) (.ref 240) [(K.tup ks).v] σ Q:=by
 refine aG b.f_tuple_cases_1 rfl dkk dkk ?_
 got_up
 refine fun r0 hr0=> ?_
 got_up
 refine TS_for ?_
 got_up
 refine kSrc.i .tup ?_
 have hle0:=aB hr0 (.list [.tup []])
 have h0:=aA σ r0 (.list [.tup []])
 generalize σ.put r0 (.list [.tup []])=σ1 at hle0 h0⊢
 refine TFor_rec (f:=K.v) (TcI ks σ) (fun _=>True) (fun _ _ _ _=>trivial) ?_ ?_ (l:=ks) (K.vs_map ks) (fun _ _=>trivial) ⟨[],r0,rfl,hle0,hr0,h0,rfl,rfl⟩
 ·intro k todo ρ' σ' hI
  refine hI.casesOn fun done r e1 e3 e4 e5 e6 e7=> ?_
  clear hI
  have hlen:done.length+(todo.length+1)=ks.length:=by rw[←e1];simp
  got_up
  refine((hrec k (by rw[←e1];simp) σ' _ fun c σ2 h1 h2 h3=> ?_).v)
  got_up
  have e3':=aD e3 h1
  have e5':=h1 _ _ e5
  have hc0:σ c=none:=by
   induction z:σ c using Option.casesOn with
   |none=>rfl
   |some o=>rw[e3 _ _ z] at h2;exact nS' h2
  refine(C_len_list e5' (by simp[sizeLine]) ?_)
  got_up
  refine(C_len_list h3 (by simp[sizeLine]) ?_)
  got_up
  show T2 _ (binaryOp .Mult) (.int 1) (.int 1) _ _
  refine T2_mul_int mul11 ?_
  got_up
  refine T2_gt_int ?_
  got_up
  refine TS_compx (.inl dkk) rfl dkk ?_
  got_up
  refine kSrc.i (.list e5') ?_
  got_up
  refine TCo_inner rfl rfl e5' rfl (TL_name dkk) ?_
  got_up
  refine kSrc.i (.list h3) ?_
  got_up
  refine TCo_pts (ys:=[.tup (K.vs (done++ [k]))]) rfl rfl dkk h3 (fun _=>rfl) (by simp) ⟨?_,trivial⟩ ?_
  ·got_up
   refine T2_add_tup (aK (by simp[aO];exact nT (l_al (Nat.le_of_eq hlen)) (lt3 hz))) ?_
   got_up
   refine⟨?_,rfl⟩
   simp[K.vs_map]
  intro ρ2
  refine TCo_end rfl rfl e5' rfl fun r' hr'=> ?_
  got_up
  have hr0':σ r'=none:=by
   induction z:σ r' using Option.casesOn with
   |none=>rfl
   |some o=>rw[e3' _ _ z] at hr';exact nS' hr'
  exact⟨done++ [k],r',by rw[List.append_assoc];exact e1,aE e3' hr' _,hr0',aA _ _ _,by rfl,by exact e7⟩
 ·intro ρ' σ' hI
  refine hI.casesOn fun done r e1 e3 e4 e5 e6 e7=> ?_
  clear hI
  rw[List.append_nil] at e1
  subst e1
  w_fin
  refine TE_comp rfl dkk ?_
  got_up
  refine kSrc.i (.list e5) ?_
  got_up
  refine TCo_pts (ys:=[(K.tup done).v]) rfl rfl dkk e5 (fun _=>rfl) (by simp) ⟨?_,trivial⟩ ?_
  ·got_up
   refine(((c_tuple_of2 (d:=d) ?_).v.le (Nat.le_refl _)))
   got_up
   exact⟨rfl,rfl⟩
  intro ρ2 c hc
  got_up
  refine q c _ (aE e3 hc _) ?_ sps
  induction z:σ c using Option.casesOn with
  |none=>rfl
  |some o=>rw[e3 _ _ z] at hc;exact nS' hc
theorem c_left_cases:∀(m:Nat) {k:K} {σ:Sto} {Q:V→Sto→Prop},k.dp≤m→k.sz≤60→k.pl=true→(∀c σ',σ.le σ'→σ c=none→σ' c=some (.list [k.v])→Q (.ref c) σ')→CallT (d+2 * m+1) (.ref 235) [k.v] σ Q:=by
 intro m
 induction m with
 |zero=>intro k σ Q hd;exact K.dp0 hd
 |succ m ih=>
  intro k σ Q hd hz hp q
  refine aG b.f_left_cases_1 rfl dkk dkk ?_
  induction k using K.casesOn with
  |tup ks=>
   replace hd:=Nat.le_of_succ_le_succ hd
   replace hz:=Nat.le_of_succ_le_succ hz
   have hks:=K.szs_len ks
   have hpl:∀k∈ks,k.pl=true:=by
    have:∀l:List K,K.pls l=true→∀k∈l,k.pl=true:=by
     intro l
     induction l with
     |nil=>intro _ k h;cases h
     |cons a l ih=>
      intro h k hk
      have h:=bA h
      cases hk with
      |head=>exact h.1
      |tail _ hk=>exact ih h.2 k hk
    exact this ks hp
   w_fin
   refine(((c_tuple_cases (d:=d+2 * m) (nT hks (lt3 hz)) (fun k hk σ Q q'=>ih (by have:=K.dps_mem hk;exact nT this hd) (by have:=K.szs_mem hk;exact nT this (lt3 hz)) (hpl k hk) q') fun c σ' h1 h2 h3=> ?_).v.le (by lia)))
   w_fin
   refine(C_len_list h3 (by simp[sizeLine]) ?_)
   w_fin
   refine T2_le_int ?_
   w_fin
   exact q c σ' h1 h2 h3
  |union ks=>cases hp
  |all x lo up bd=>cases hp
  |num i=>cases hp
  |_=>
   all_goals
    w_fin
    refine fun c hc=> ?_
    w_fin
    refine(C_len_list sps (by simp[sizeLine]) ?_)
    w_fin
    refine T2_le_int ?_
    w_fin
    exact q c _ (aB hc _) hc sps
end
structure Dc where
 ps:List (X×K×K)
 sup:V
 abs:Bool
noncomputable def DcAt (σ:Sto) (a:Addr) (n:N) (c:Dc):Prop:=∃da lp lf mu,σ a=some (.inst 468 da)∧
 σ da=some (.attrs [("name",.str n.s),("params",.ref lp),("super",c.sup),("is_abstract",.bool c.abs),("is_mutable",.bool mu),("fields",.ref lf)])∧σ lp=some (.list (c.ps.map bV))
theorem DcAt.mono {σ σ':Sto}{a:Addr}{n:N}{c:Dc}(h:DcAt σ a n c)(l:σ.le σ'):DcAt σ' a n c:=by
 refine x43 h fun da lp lf mu h1 h2 h3=> ?_;clear h
 exact⟨da,lp,lf,mu,l _ _ h1,l _ _ h2,l _ _ h3⟩
structure KsAt (σ:Sto)(x:Addr)(dc:N→Option Dc):Prop where
 it:∃dk r es,σ x=some (.inst 555 dk)∧σ dk=some (.attrs [("decls",.ref r)])∧σ r=some (.dict es)∧∀n c,dc n=some c→∃a,dget es n.s=some (.ref a)∧DcAt σ a n c
theorem KsAt.mono {σ σ':Sto}{x:Addr}{dc:N→Option Dc}(h:KsAt σ x dc)(l:σ.le σ'):KsAt σ' x dc:=by
 refine x34 h.it fun dk r es h1 h2 h3 h4=> ?_
 exact⟨dk,r,es,l _ _ h1,l _ _ h2,l _ _ h3,fun n c e=>let ⟨a,g1,g2⟩:=h4 n c e;⟨a,g1,g2.mono l⟩⟩
section
variable {σ:Sto}
theorem c_decl {x:Addr}{dc:N→Option Dc}{n:N}{c:Dc}{Q:V→Sto→Prop}(h:KsAt σ x dc)(hn:dc n=some c)(q:∀a,DcAt σ a n c→Q (.ref a) σ):CallT (d+1) (.ref 505) [.ref x,.str n.s] σ Q:=by
 refine x34 h.it fun dk r es h1 h2 h3 h4=> ?_
 refine x12 (h4 n c hn) fun a g1 g2=> ?_
 refine aG b.f_Kinds_decl_2 rfl dkk dkk ?_
 w_fin
 refine aL h1 h2 b.n_Kinds_decls (by rfl) (by rfl) ?_
 w_fin
 refine T2_notin_dict h3 ?_
 w_fin
 rw[g1]
 w_fin
 refine aL h1 h2 b.n_Kinds_decls (by rfl) (by rfl) ?_
 w_fin
 refine T2_item_dict h3 g1 ?_
 w_fin
 exact q a g2
theorem c_is_concrete {x:Addr}{dc:N→Option Dc}{n:N}{c:Dc}{Q:V→Sto→Prop}(h:KsAt σ x dc)(hn:dc n=some c)(q:Q (.bool (!c.abs)) σ):CallT (d+3) (.ref 552) [.ref x,(K.name n []).v] σ Q:=by
 refine CallT.forget (aG b.f_Kinds_is_concrete_2 rfl dkk dkk ?_)
 w_fin
 refine TE_andS ?_
 w_fin
 refine x34 (id h.it) fun dk r es h1 h2 h3 h4=> ?_
 refine Ml_own h1 h2 b.m_Kinds_decl (by rfl) ?_
 w_fin
 refine((c_decl h hn fun a ha=> ?_).v.le (l_d))
 w_fin
 refine x43 ha fun da lp lf mu d1 d2 d3=> ?_;clear ha
 refine aL d1 d2 b.n_Decl_is_abstract (by rfl) (by rfl) ?_
 w_fin
 refine T1_not ?_
 w_fin
 induction ha:c.abs using Bool.casesOn with
 |true=>
  rw[ha] at q
  w_fin
  exact⟨_,aQ _,q⟩
 |false=>
  rw[ha] at q
  refine ifT rfl (TE_bool1 ?_)
  w_fin
  refine(((c_free_vars (d:=d) (k:= .name n []) (Nat.le_of_ble_eq_true rfl) fun c₁ hc₁=> ?_).v.le (Nat.le_refl _)))
  w_fin
  refine fun c₂ hc₂=> ?_
  w_fin
  refine T2_eq_nil (l:=[]) (aC sps hc₂) sps (r:=true) (by simp) ?_
  w_fin
  exact⟨_,aE (aB hc₁ _) hc₂ _,q⟩
noncomputable def SeAt (σ:Sto) (x xk:Addr) (fuel:Int):Prop:=∃ds,σ x=some (.inst 345 ds)∧σ ds=some (.attrs [("kinds",.ref xk),("fuel",.int fuel)])
theorem SeAt.mono {σ σ':Sto}{x xk:Addr}{f:Int}(h:SeAt σ x xk f)(l:σ.le σ'):SeAt σ' x xk f:=by
 refine x12 h fun ds h1 h2=> ?_;clear h;exact⟨ds,l _ _ h1,l _ _ h2⟩
noncomputable def nK (n:N):K:= .name n []
noncomputable def isOne (dc:N→Option Dc) (ns:List N):Option Bool:=match ns with
 | []=>some true
 |n::r=>if r.all (fun m=>decide (m=n)) then(dc n).map fun c=> !c.abs else some false
noncomputable def neV (k:V) (v:V):Bool:= !(@decide (v=k) (Classical.propDecidable _))
theorem neV_iff {k v:V}:neV k v=true↔v≠k:=by
 unfold neV;simp
theorem c_is_one {x xk xs_ a:Addr}{fuel:Int}{dc:N→Option Dc}{s:Sd}{ns:List N}{o:Bool}{Q:V→Sto→Prop}(h:SeAt σ x xk fuel)(hk:KsAt σ xk dc)(hs:isSd σ a s)(hl:s.lo=ns.map nK)(hz:ns.length≤1000)(ho:isOne dc ns=some o)(q:Q (.bool o) σ):
  CallT (d+4) (.ref 342) [.ref x,.ref a,.ref xs_] σ Q:=by
 refine x12 hs fun da a1 a2=> ?_;clear hs
 refine x12 h fun ds s1 s2=> ?_;clear h
 refine CallT.forget (aG b.f_Search_is_one_3 rfl dkk dkk ?_)
 refine TS_cons (TS_if (TB_cmp ?_))
 w_fin
 refine TE_comp rfl dkk ?_
 w_fin
 refine aL a1 a2 b.n_Side_lowers (by rfl) (by rfl) ?_
 w_fin
 refine kSrc.i .tup ?_
 have e0:K.vs s.lo=ns.map fun n=>(nK n).v:=by rw[hl,K.vs_map,List.map_map];rfl
 induction ns using List.casesOn with
 |nil=>
  rw[show K.vs s.lo=[] by rw[e0];rfl]
  refine TCo_end rfl rfl trivial rfl fun c hc=> ?_
  w_fin
  refine(C_len_list sps (by simp[sizeLine]) ?_)
  w_fin
  refine T2_gt_int ?_
  w_fin
  refine aL (aC a1 hc) (aC a2 hc) b.n_Side_lowers (by rfl) (by rfl) ?_
  w_fin
  rw[e0]
  w_fin
  refine T2_eq (r:=true) (by simp) rfl rfl (Nat.le_of_ble_eq_true rfl) ?_
  w_fin
  replace ho:=sI ho;subst ho
  exact⟨_,aB hc _,q⟩
 |cons n ns=>
  have e1:K.vs s.lo=(nK n).v::ns.map fun n=>(nK n).v:=by rw[e0];rfl
  have hgr:V.grs (K.vs s.lo)=true:=K.grs _
  refine TCo_map (neV (nK n).v) (fun v=>v) rfl rfl dkk trivial (fun _=>rfl) ?_ ?_ ?_ ?_
  ·show 0+((K.vs s.lo).drop 0).length≤100000
   rw[e1];simp at hz⊢;exact lt3 hz
  ·intro v hv
   have hv:v∈K.vs s.lo:=by simpa[Src.rest] using hv
   rw[e0] at hv
   refine x12 (List.mem_map.mp hv) fun m hm z1=> ?_;subst z1
   refine TB.mono (Q:=fun c σ'=>c=neV (nK n).v (nK m).v∧σ'=σ) ?_ fun c σ' hc=> ?_
   ·w_fin
    refine aL a1 a2 b.n_Side_lowers (by rfl) (by rfl) ?_
    w_fin
    rw[e1]
    w_fin
    refine T2_neK (a:=nK m) (b:=nK n) (Nat.le_of_ble_eq_true rfl) ?_
    w_fin
    refine⟨?_,rfl⟩
    by_cases h:m=n
    ·subst h;simp[neV]
    ·have h1:nK m≠nK n:=fun e=>h (by injection e)
     have h2:(nK m).v≠(nK n).v:=fun e=>h1 (K.v_inj e)
     rw[show decide (nK m≠nK n)=true by simp[h1]]
     exact(neV_iff.mpr h2).symm
   ·induction c using Bool.casesOn
    ·exact hc
    ·exact hc
  ·intro v hv _
   w_fin
   exact⟨rfl,rfl⟩
  intro ρ' c hc
  w_fin
  have er:(Src.tup (K.vs s.lo) 0).rest=K.vs s.lo:=rfl
  rw[er]
  have hflen:((K.vs s.lo).filter (neV (nK n).v)).length≤2000:=nT (List.length_filter_le _ _) (by rw[e1];simp at hz⊢;exact lt3 hz)
  refine(C_len_list sps (aK (by simp;exact lt3 hflen)) ?_)
  w_fin
  refine T2_gt_int ?_
  w_fin
  have hcnt:(decide (((([]++((K.vs s.lo).filter (neV (nK n).v)).map fun v=>v).length:Nat):Int)>0))= !(ns.all fun m=>decide (m=n)):=by
   have:((K.vs s.lo).filter (neV (nK n).v)).length=(ns.filter fun m=> !(decide (m=n))).length:=by
    rw[e1,List.filter_cons_of_neg (by simp[neV])]
    clear hz ho hflen e1 e0 hl
    induction ns with
    |nil=>rfl
    |cons m ns ih=>
     by_cases h:m=n
     ·subst h
      rw[List.map_cons,List.filter_cons_of_neg (by simp[neV]),List.filter_cons_of_neg (by simp)]
      exact ih
     ·have h2:(nK m).v≠(nK n).v:=fun e=>h (by have:=K.v_inj e;injection this)
      rw[List.map_cons,List.filter_cons_of_pos (neV_iff.mpr h2),List.filter_cons_of_pos (by simp[h])]
      simp[ih]
   simp only[List.nil_append,List.map_id',List.length_map,this]
   induction ha:ns.all fun m=>decide (m=n) using Bool.casesOn with
   |true=>
    have:ns.filter (fun m=> !(decide (m=n)))=[]:=by
     rw[List.filter_eq_nil_iff]
     intro m hm
     have:=lA ha m hm
     simp at this;simp[this]
    rw[this];rfl
   |false=>
    refine x12 (List.all_eq_false.mp ha) fun m hm hne=> ?_
    have:0<(ns.filter fun m=> !(decide (m=n))).length:=List.length_pos_of_mem (List.mem_filter.mpr ⟨hm,by simpa using hne⟩)
    exact decide_eq_true (by omega)
  rw[hcnt]
  w_fin
  have ho:=(show(if(ns.all fun m=>decide (m=n))=true then(dc n).map fun c=> !c.abs else some false)=some o from ho)
  induction ha:ns.all fun m=>decide (m=n) using Bool.casesOn with
  |false=>
   rw[ha] at ho
   replace ho:=sI ho;subst ho
   w_fin
   exact⟨_,aB hc _,q⟩
  |true=>
   rw[ha] at ho
   refine x12 (Option.map_eq_some_iff.mp (show(dc n).map (fun c=> !c.abs)=some o from ho)) fun cd hcd e=> ?_
   subst e
   have p1:=aC (y:= .list ([]++((K.vs s.lo).filter (neV (nK n).v)).map fun v=>v)) a1 hc
   have p2:=aC (y:= .list ([]++((K.vs s.lo).filter (neV (nK n).v)).map fun v=>v)) a2 hc
   have p3:=aC (y:= .list ([]++((K.vs s.lo).filter (neV (nK n).v)).map fun v=>v)) s1 hc
   have p4:=aC (y:= .list ([]++((K.vs s.lo).filter (neV (nK n).v)).map fun v=>v)) s2 hc
   have hle:=aB hc (.list ([]++((K.vs s.lo).filter (neV (nK n).v)).map fun v=>v))
   have hk':=hk.mono hle
   generalize σ.put c (.list ([]++((K.vs s.lo).filter (neV (nK n).v)).map fun v=>v))=σ1 at p1 p2 p3 p4 hle hk'⊢
   w_fin
   refine aL p1 p2 b.n_Side_lowers (by rfl) (by rfl) ?_
   w_fin
   refine T2_eq (r:=false) (by rw[e1];simp) hgr rfl (l_min' (Nat.le_of_ble_eq_true rfl)) ?_
   w_fin
   refine aL p1 p2 b.n_Side_lowers (by rfl) (by rfl) ?_
   w_fin
   rw[e1]
   w_fin
   refine aL p3 p4 b.n_Search_kinds (by rfl) (by rfl) ?_
   w_fin
   refine x34 (id hk'.it) fun dk rk es k1 k2 k3 k4=> ?_
   refine Ml_own k1 k2 b.m_Kinds_is_concrete (by rfl) ?_
   w_fin
   refine((c_is_concrete hk' hcd ?_).v.le (Nat.le_refl _))
   w_fin
   exact⟨_,hle,q⟩
noncomputable def K.nmOf:K→Option N
 | .name n ps=>match ps with
  | []=>some n
  |_::_=>none
 | .tup _=>none
 | .union _=>none
 | .all _ _ _ _=>none
 | .typ _=>none
 | .var _=>none
 | .bot=>none
 | .num _=>none
theorem K.nmOf_is {k:K}{n:N}(h:k.nmOf=some n):k=nK n:=by
 rcases k with⟨n,_|_⟩|_|_|_|_|x|_|_<;>first|exact sI h▸rfl|exact nS h
noncomputable def nsOf:List K→Option (List N)
 | []=>some []
 |k::l=>k.nmOf.bind fun n=>(nsOf l).map (n:: ·)
theorem nsOf_is {l:List K}:∀{ns:List N},nsOf l=some ns→l=ns.map nK:=by
 induction l with
 |nil=>exact fun h=>sI h▸rfl
 |cons k l ih=>exact fun h=>bE h fun n h1 h=>mE h fun r h2 e=>e▸by rw[K.nmOf_is h1,ih h2];rfl
noncomputable def okRow (dc:N→Option Dc) (s:Sd):Option Bool:=(nsOf s.lo).bind fun ns=>(isOne dc ns).map fun o=> !(s.asked&&s.dg&& !o)
noncomputable def allOk (dc:N→Option Dc):List (X×Sd)→Option Bool
 | []=>some true
 |p::r=>(okRow dc p.2).bind fun a=>(allOk dc r).map (a&& ·)
theorem rget_cons {y x:X}{t:Sd}{rs:List (X×Sd)}:rget ((y,t)::rs) x=if y=x then some t else rget rs x:=rfl
theorem allOk_get {dc:N→Option Dc}{rs:List (X×Sd)}:∀{o:Bool},allOk dc rs=some o→∀{x:X} {s:Sd},rget rs x=some s→∃a,okRow dc s=some a∧(a=false→o=false):=by
 induction rs with
 |nil=>intro o _ x s e;exact nS e
 |cons p rs ih=>
  intro o h x s e
  refine bE h fun a h1 h=>mE h fun c h2 z=> ?_
  subst z
  by_cases hy:p.1=x
  ·obtain rfl:=sI ((if_pos hy).symm.trans e)
   exact⟨a,h1,fun z=>by rw[z];rfl⟩
  ·exact x12 (ih h2 ((if_neg hy).symm.trans e)) fun a' g1 g2=>⟨a',g1,fun z=>by rw[g2 z,Bool.and_false]⟩
theorem mem_of_rget {rs:List (X×Sd)}{x:X}{s:Sd}(h:rget rs x=some s):x∈rs.map (·.1):=by
 induction rs with
 |nil=>exact nS h
 |cons p rs ih=>
  by_cases hy:p.1=x
  ·rw[←hy];exact .head _
  ·exact .tail _ (ih ((if_neg hy).symm.trans h))
theorem allOk_true {dc:N→Option Dc}{rs:List (X×Sd)}:∀{o:Bool},allOk dc rs=some o→Once rs→(∀x s,rget rs x=some s→okRow dc s=some true)→o=true:=by
 induction rs with
 |nil=>exact fun h _ _=>(sI h).symm
 |cons p rs ih=>
  refine fun {o} h ho ha=>bE h fun a h1 h=>mE h fun c h2 z=> ?_
  subst z
  have ho':=List.nodup_cons.mp (show(p.1::rs.map (·.1)).Nodup from ho)
  rw[ih h2 ho'.2 fun x s hx=>ha x s ((if_neg fun z:p.1=x=>ho'.1 (z▸mem_of_rget hx)).trans hx),sI (h1.symm.trans (ha p.1 p.2 (if_pos rfl)))]
  rfl
theorem rget_of_mem {rs:List (X×Sd)}{x:X}(h:x∈rs.map (·.1)):∃s,rget rs x=some s:=by
 induction rs with
 |nil=>exact nomatch h
 |cons p rs ih=>
  by_cases hy:p.1=x
  ·exact⟨p.2,if_pos hy⟩
  ·exact x11 (ih ((List.mem_cons.mp h).elim (fun e=>absurd e.symm hy) id)) fun s hs=>⟨s,(if_neg hy).trans hs⟩
theorem RowsAt.keys {σ:Sto}{es:List (Str×V)}{rs:List (X×Sd)}(h:RowsAt σ es rs):es.map (·.1)=(rs.map (·.1)).map X.s:=
 h.ind (P:=fun es rs=>es.map (·.1)=(rs.map (·.1)).map X.s) rfl fun {es rs x s a} _ _ ih=>by
  show x.s::es.map (·.1)=x.s::(rs.map (·.1)).map X.s
  rw[ih]
inductive AcI (S:Ss)(dc:N→Option Dc)(σ1:Sto)(x xs_:Addr)(todo:List X)(ρ:Loc)(σ:Sto):Prop
 |mk (m:∀y∈todo,y∈S.rows.map (·.1)) (e:σ=σ1) (r1:ρ "self"=some (.ref x)) (r2:ρ "sides"=some (.ref xs_)) (d:∀y s,rget S.rows y=some s→y∉todo→okRow dc s=some true)
theorem AcI.e {S:Ss}{dc:N→Option Dc}{σ1 σ:Sto}{x xs_:Addr}{todo:List X}{ρ:Loc}(h:AcI S dc σ1 x xs_ todo ρ σ):σ=σ1:=h.casesOn fun _ e _ _ _=>e
set_option tactic.hygienic true in
theorem c_are_concrete {x xk xs_ dxs r:Addr}{fuel:Int}{dc:N→Option Dc}{S:Ss}{o:Bool}{Q:V→Sto→Prop}(h:SeAt σ x xk fuel)(hk:KsAt σ xk dc)(hs:SsAt σ xs_ dxs r S)(hfew:S.rows.length<60)(hlo:∀y s,rget S.rows y=some s→s.lo.length≤1000)
  (ho:allOk dc S.rows=some o) (q:Q (.bool o) σ):CallT (d+5) (.ref 337) [.ref x,.ref xs_] σ Q:=by
 refine x12 hs.rows fun es e1 e2=> ?_
 have hlen:=e2.len
 refine CallT.forget (aG b.f_Search_are_concrete_2 rfl dkk dkk ?_)
 refine TS_cons (TS_for ?_)
 refine TE_call ?_
 got_up
 refine aL hs.inst hs.attrs b.n_Sides_rows (by rfl) (by rfl) ?_
 got_up
 refine⟨Kp_bi _,C_sorted_dict e1 (by omega) fun ks hks c hc=> ?_⟩
 got_up
 rw[e2.keys] at hks
 refine x12 (perm_map hks rfl) fun ys hys z3=> ?_;subst z3
 refine kSrc.i (.list sps) ?_
 have hle:=aB hc (.list ((ys.map X.s).map V.str))
 have hcc:=aA σ c (.list ((ys.map X.s).map V.str))
 generalize σ.put c (.list ((ys.map X.s).map V.str))=σ1 at hle hcc⊢
 have hs1:=hs.mono hle
 have hk1:=hk.mono hle
 have h1:=h.mono hle
 refine x12 (id h1) fun ds s1 s2=> ?_
 refine TFor_rec (f:=fun y:X=>V.str y.s) (AcI S dc σ1 x xs_) (fun σ'=>σ'=σ1) (fun _ _ _ h=>h.e) ?_ ?_ (l:=ys) (List.map_map ..) (fun σ' e=>e▸hcc) ⟨fun y hy=>hys.mem_iff.mp hy,rfl,rfl,rfl,fun y s hy hn=>absurd (hys.mem_iff.mpr (mem_of_rget hy)) hn⟩
 ·intro y todo ρ' σ' h
  refine h.casesOn fun t2 e0 t3 t4 t5=> ?_
  subst e0
  refine x11 (rget_of_mem (t2 y (.head _))) fun s hsy=> ?_
  refine x12 (allOk_get ho hsy) fun a' ha1 ha2=> ?_
  refine bE ha1 fun ns hns hr=>mE hr fun o1 ho1 e=> ?_
  refine x12 hs1.rows fun es' r1 r2=>x12 (r2.get hsy) fun as g1 g2=>x12 (id g2) fun da d1 d2=> ?_
  have cont:(!(s.asked&&s.dg&& !o1))=true→AcI S dc σ' x xs_ todo (ρ'.put "name" (.str y.s)|>.put "side" (.ref as)) σ':=fun ha=>⟨fun z hz=>t2 z (.tail _ hz),rfl,t3,t4,fun z t hz hn=>by
   by_cases hzy:z=y
   ·rw[hzy,hsy] at hz
    rw[←sI hz,ha1,←e,ha]
   ·exact t5 z t hz fun hm=>(List.mem_cons.mp hm).elim hzy hn⟩
  clear ha1 t5 t2
  refine TA_loc dkk ?_
  got_up
  refine aL hs1.inst hs1.attrs b.n_Sides_rows (by rfl) (by rfl) ?_
  got_up
  refine T2_item_dict r1 g1 ?_
  got_up
  refine aL d1 d2 b.n_Side_is_asked (by rfl) (by rfl) ?_
  got_up
  induction hA:s.asked using Bool.casesOn with
  |false=>
   got_up
   exact cont (by rw[hA];rfl)
  |true=>
   got_up
   refine aL d1 d2 b.n_Side_is_diagonal (by rfl) (by rfl) ?_
   got_up
   induction hD:s.dg using Bool.casesOn with
   |false=>
    got_up
    exact cont (by rw[hD,Bool.and_false];rfl)
   |true=>
    got_up
    refine Ml_own s1 s2 b.m_Search_is_one (by rfl) ?_
    got_up
    refine((c_is_one h1 hk1 g2 (nsOf_is hns) (by have:=hlo y s hsy;rw[nsOf_is hns,List.length_map] at this;exact this) ho1 ?_).v.le (Nat.le_refl _))
    induction o1 using Bool.casesOn with
    |true=>
     got_up
     exact cont (by rw[Bool.not_true,Bool.and_false];rfl)
    |false=>
     got_up
     obtain rfl:=ha2 (by rw[←e,hA,hD];rfl)
     exact⟨_,hle,q⟩
 ·intro ρ' σ' h
  refine h.casesOn fun _ e0 t3 t4 t5=> ?_
  subst e0
  obtain rfl:=allOk_true ho hs.once fun y s hy=>t5 y s hy (fun h=>nomatch h)
  got_up
  exact⟨_,hle,q⟩
theorem none_of_chg {σ σ':Sto}{x dx r c:Addr}{S:Ss}(hch:∀a o,σ a=some o→a≠r→a≠dx→σ' a=some o)(hS:SsAt σ' x dx r S)(hc:σ' c=none):σ c=none:=by
 induction z:σ c using Option.casesOn with
 |none=>rfl
 |some o=>
  by_cases h1:c=r
  ·refine x12 hS.rows fun es e _=> ?_
   rw[h1,e] at hc;exact nS' hc
  ·by_cases h2:c=dx
   ·rw[h2,hS.attrs] at hc;exact nS' hc
   ·rw[hch c o z h1 h2] at hc;exact nS' hc
theorem c_chosen {x xk xs_ dxs r:Addr}{fuel:Int}{S:Ss}{one:K}{y f:X}{up bd bd':K}{dg:Bool}{m:Nat}{Q:V→Sto→Prop}(h:SsAt σ xs_ dxs r S)(hf:y.fresh (S.many+1)=some f)(hz:(K.all y .bot up bd).sz≤1000)(hm:(K.all y .bot up bd).dp≤m)(hm2:m≤80)
  (hdg:bd.diag y=some dg) (hs:bd.sub (Mine.one y (.var f))=some bd') (hnew:S.rows.length≤50)
  (q:∀c σ',(∀a o,σ a=some o→a≠r→a≠dxs→σ' a=some o)→SsAt σ' xs_ dxs r ⟨rput S.rows f (sdOf true (S.many+1) .bot up dg),S.many+1⟩→σ c=none→σ' c=some (.list [gV ⟨false,one,bd'⟩])→Q (.ref c) σ'):
  CallT (d+2 * m+9) (.ref 318) [.ref x,one.v,(K.all y .bot up bd).v,.ref xs_] σ Q:=by
 refine aG b.f_Search_chosen_4 rfl dkk dkk ?_
 w_fin
 refine Ml_own h.inst h.attrs b.m_Sides_opened (by rfl) ?_
 w_fin
 refine(c_opened h hf hz hm hm2 hdg hs hnew fun σ1 hch hS=> ?_).v
 w_fin
 refine Ml_own hS.inst hS.attrs b.m_Sides_side (by rfl) ?_
 w_fin
 refine((c_side hS (by dsimp only;rw[rget_put,if_pos rfl]) fun a ha=> ?_).v.le (by lia))
 w_fin
 refine x12 ha fun da a1 a2=> ?_;clear ha
 refine TE_comp rfl dkk ?_
 w_fin
 refine aL a1 a2 b.n_Side_lowers (by rfl) (by rfl) ?_
 w_fin
 refine kSrc.i .tup (TCo_end rfl rfl trivial (by rfl) fun c hc=> ?_)
 w_fin
 refine fun c₂ hc₂=> ?_
 w_fin
 refine T2_add_list (aC sps hc₂) sps (aK (by simp)) fun c₃ hc₃=> ?_
 w_fin
 have hle:=aE (aE (aB hc (.list [])) hc₂ (.list [.tup [.str "sub",one.v,bd'.v]])) hc₃ (.list ([]++ [.tup [.str "sub",one.v,bd'.v]]))
 refine q c₃ _ (fun a o e n1 n2=>hle _ _ (hch a o e n1 n2)) (hS.mono hle) ?_ (by rw[aA];rfl)
 exact none_of_chg hch hS (none_put (none_put hc₃).1).1
noncomputable def listK (k:K):K:= .name .nArray [k,.num 1]
noncomputable def partsK (one other:At):List K:=[one.k,other.k,listK one.k,listK other.k,listK (listK one.k),.tup [one.k,other.k],unionOf [.at one,.at (.nm .nString)],.name .nInteger [],.typ other.k]
theorem c_law_name {n:N}{Q:V→Sto→Prop}(q:Q (K.name n []).v σ):CallT (d+1) (.ref 609) [.str n.s] σ Q:=by
 refine aG b.f_law_name_1 rfl dkk dkk ?_
 w_fin
 exact q
theorem c_law_list_of {k:K}{Q:V→Sto→Prop}(q:Q (listK k).v σ):CallT (d+1) (.ref 616) [k.v] σ Q:=by
 refine aG b.f_law_list_of_1 rfl dkk dkk ?_
 w_fin
 exact q
theorem c_law_part {way:Nat}{one other:At}{k:K}{Q:V→Sto→Prop}(hk:(partsK one other)[way]? =some k)(q:Q k.v σ):CallT (d+5) (.ref 623) [.int way,one.k.v,other.k.v] σ Q:=by
 refine CallT.forget (aG b.f_law_part_3 rfl dkk dkk ?_)
 w_fin
 refine(((c_law_list_of ?_).v.le (l_d)))
 w_fin
 refine(((c_law_list_of ?_).v.le (l_d)))
 w_fin
 refine(((c_law_list_of ?_).v.le (l_d)))
 w_fin
 refine(((c_law_list_of ?_).v.le (l_d)))
 w_fin
 refine fun c₁ hc₁=> ?_
 w_fin
 refine(((c_tuple_of (d:=d) sps (by simp) ?_).v.le (l_d)))
 w_fin
 refine fun c₂ hc₂=> ?_
 w_fin
 refine(((c_law_name (n:= .nString) ?_).v.le (l_d)))
 w_fin
 refine fun c₃ hc₃=> ?_
 w_fin
 refine(((c_union_of (d:=d) (l:=[.at one,.at (.nm .nString)]) sps (by simp[szU,U.wt]) ?_).v.le (Nat.le_refl _)))
 w_fin
 refine(((c_law_name (n:= .nInteger) ?_).v.le (l_d)))
 w_fin
 refine fun c₄ hc₄=> ?_
 w_fin
 refine T2_add_list (aC (aC sps hc₃) hc₄) sps (aK (by simp)) fun c₅ hc₅=> ?_
 w_fin
 have hlt:way<9:=by have:=(List.getElem?_eq_some_iff.mp hk).1;simpa[partsK] using this
 refine aP (x:=k.v) sps (by lia) (by lia) ?_ ?_
 ·have:(K.vs (partsK one other))[way]? =some k.v:=by rw[K.vs_map,List.getElem?_map,hk];rfl
  rw[Int.toNat_natCast]
  exact this
 w_fin
 refine⟨_,aE (aE (aE (aE (aB hc₁ _) hc₂ _) hc₃ _) hc₄ _) hc₅ _,q⟩
noncomputable def CaskAt (σ:Sto) (c:Addr):Prop:=∃x y:Int,0≤x∧0≤y∧y<2147483647∧σ c=some (.list [.int x,.int y])
theorem c_law_pour {c:Addr}{top:Nat}{Q:V→Sto→Prop}(h:CaskAt σ c)(ht:0<top)(ht2:top<1000)(q:∀(n:Nat) σ',n<top→(∀a o,σ a=some o→a≠c→σ' a=some o)→CaskAt σ' c→Q (.int n) σ'):CallT (d+1) (.ref 602) [.ref c,.int top] σ Q:=by
 refine x24 h fun x y hx hy hy2 hc=> ?_
 have tt:(0:Int)<top:=by omega
 refine aG b.f_law_pour_2 rfl dkk dkk ?_
 w_fin
 refine aP hc (by decide) (by decide) (by rfl) ?_
 w_fin
 refine T2_gt_int ?_
 w_fin
 by_cases hp:x>0
 ·rw[show decide (x>0)=true by simp[hp]]
  w_fin
  refine aP hc (by decide) (by decide) (by rfl) ?_
  w_fin
  refine T2_mod_int (by omega) ?_
  w_fin
  refine aP hc (by decide) (by decide) (by rfl) ?_
  w_fin
  refine T2_floordiv (by omega) (by omega) ?_
  w_fin
  refine T3_item_list hc (by decide) (by decide) (by simp) ?_
  w_fin
  have e:Int.fmod x top=((x.fmod top).toNat:Int):=by
   have:=Int.fmod_nonneg_of_pos x tt
   omega
  rw[e]
  refine q _ _ ?_ (fun a o e n=>aF e n) ⟨x.fdiv top,y,?_,hy,hy2,by rw[aA];rfl⟩
  ·have h1:=Int.fmod_lt_of_pos x tt
   omega
  ·exact Int.fdiv_nonneg hx (by omega)
 ·rw[show decide (x>0)=false by simp[hp]]
  w_fin
  refine aP hc (by decide) (by decide) (by rfl) ?_
  w_fin
  refine T2_mul_int (IntMulOk.of_right dkk) ?_
  w_fin
  refine T2_add_int ?_
  w_fin
  refine T2_mod_int (by decide) ?_
  w_fin
  refine T3_item_list hc (by decide) (by decide) (by simp) ?_
  w_fin
  refine aP sps (by decide) (by decide) (by rfl) ?_
  w_fin
  refine T2_floordiv (by decide) (by decide) ?_
  w_fin
  refine T2_mod_int (by omega) ?_
  w_fin
  generalize hz:(y * 50021+1103).fmod 2147483647=z
  have z1:0≤z:=by rw[←hz];exact Int.fmod_nonneg_of_pos _ (by decide)
  have z2:z<2147483647:=by rw[←hz];exact Int.fmod_lt_of_pos _ (by decide)
  have e:Int.fmod (z.fdiv 11) top=(((z.fdiv 11).fmod top).toNat:Int):=by
   have:=Int.fmod_nonneg_of_pos (z.fdiv 11) tt
   omega
  rw[e]
  refine q _ _ ?_ (fun a o e n=>aF e n) ⟨x,z,hx,z1,z2,by rw[aA];rfl⟩
  have h1:=Int.fmod_lt_of_pos (z.fdiv 11) tt
  omega
noncomputable def BL (a:Addr) (l:List V):Prop:=∃vs:List Value,B.IsList a vs.toArray∧RVs B vs l
theorem BL.at {a:Addr}{l:List V}{h:Heap}(x:BL a l)(S:St σ h):∃vs:List Value,h.IsList a vs.toArray∧RVs h vs l:=by
 refine x12 x fun vs z1 r=> ?_;refine x12 z1 fun o p q=> ?_
 exact⟨vs,⟨o,S.base _ _ p,q⟩,r.mono fun b o e _=>S.base b o e⟩
theorem T2_neB_nil {d:Nat}{a b:Addr}{l:List V}{r:Bool}{Q:V→Sto→Prop}(ha:BL a l)(hb:σ b=some (.list []))(hr:r=true↔l=[])(q:Q (.bool (!r)) σ):T2 d (compareOp .NotEq) (.ref a) (.ref b) σ Q:=
 fun A s va vb R S ra rb=>by
  cases ra;cases rb
  refine x12 (ha.at S) fun vs la rs=> ?_
  refine x12 ((S.obj _ _ hb).isList) fun ws lb rw_=> ?_
  cases rw_
  have hu:A.units<cLine:=by have:=R.line;omega
  induction l using List.casesOn with
  |nil=>
   cases rs
   obtain rfl:r=true:=hr.mpr rfl
   exact SeqAt.RcNeAt.lists (e:=fun _=>true) la lb rfl hu (fun j h1 _=>absurd h1 (Nat.not_lt_zero _)) _ _ _ _ (here S rfl (.bool _) q)
  |cons x l=>
   cases rs with
   |cons _ _=>
    obtain rfl:r=false:=by induction r using Bool.casesOn with|false=>rfl|true=>cases hr.mp rfl
    exact SeqAt.RcNeAt.lists_lengths la lb (by simp) hu _ _ _ _ (here S rfl (.bool _) q)
theorem T2_itemB {d:Nat}{a:Addr}{l:List V}{i:Int}{x:V}{Q:V→Sto→Prop}(hl:BL a l)(h0:0≤i)(hhi:i<2 ^ 63)(hx:l[i.toNat]? =some x)(q:Q x σ):TI d (.ref a) (.int i) σ Q:=by
 refine⟨fun A s va vb R S ra rb=> ?_,fun s va S r=> ?_⟩
 ·cases ra;cases rb
  refine x12 (hl.at S) fun vs hL rr=> ?_
  refine x12 (rr.get hx) fun v hv rv=> ?_
  exact wpAny_operating (wpAny_getItem_list hL h0 hhi (by simpa using hv) (here S rfl rv q))
 ·cases r
  refine x12 (hl.at S) fun vs hL rr=> ?_
  exact⟨_,_,hL.typeIs,slot_list_getitem.lookup⟩
theorem c_law_cask {a:Addr}{is:List Int}{Q:V→Sto→Prop}(ha:BL a (is.map V.int))(q:∀c σ',σ.le σ'→σ c=none→CaskAt σ' c→Q (.ref c) σ'):CallT (d+1) (.ref 595) [.ref a] σ Q:=by
 have main:∀(front:Int) (σ1:Sto) (ρ:Loc),σ.le σ1→ρ "front"=some (.int front)→TS d (aH (defAt 52)) ((aI (defAt 52)).drop 1) ρ σ1 (backOf Q):=by
  intro front σ1 ρ hle hf
  have fin:∀(mass:Int) (ρ:Loc),0≤mass→ρ "mass"=some (.int mass)→TS d (aH (defAt 52)) ((aI (defAt 52)).drop 2) ρ σ1 (backOf Q):=by
   intro mass ρ hm hmm
   have h2:0≤mass.fmod 1000000087:=Int.fmod_nonneg_of_pos _ (by decide)
   have h3:mass.fmod 1000000087<1000000087:=Int.fmod_lt_of_pos _ (by decide)
   got_up
   refine T2_pow (by decide) (by decide) (by decide) ?_
   w_fin
   refine T2_ge_int ?_
   w_fin
   by_cases hb:mass≥10 ^ (18:Int).toNat
   ·rw[show decide (mass≥10 ^ (18:Int).toNat)=true by simpa using hb]
    w_fin
    refine T2_mod_int (by decide) ?_
    w_fin
    refine T2_add_int ?_
    w_fin
    refine fun c hc=> ?_
    w_fin
    refine q c _ (aE hle hc _) ?_ ⟨mass,mass.fmod 1000000087+19,hm,by omega,by omega,aA _ _ _⟩
    induction z:σ c using Option.casesOn with
    |none=>rfl
    |some o=>rw[hle _ _ z] at hc;exact nS' hc
   ·rw[show decide (mass≥10 ^ (18:Int).toNat)=false by simpa using hb]
    w_fin
    refine T2_mod_int (by decide) ?_
    w_fin
    refine T2_add_int ?_
    w_fin
    refine fun c hc=> ?_
    w_fin
    refine q c _ (aE hle hc _) ?_ ⟨0,mass.fmod 1000000087+19,by decide,by omega,by omega,aA _ _ _⟩
    induction z:σ c using Option.casesOn with
    |none=>rfl
    |some o=>rw[hle _ _ z] at hc;exact nS' hc
  refine TS_cut true 1 ?_
  w_fin
  refine T2_ge_int ?_
  by_cases hp:front≥0
  ·rw[show decide (front≥0)=true by simp[hp]]
   w_fin
   exact Cut.i (fin front _ hp rfl)
  ·rw[show decide (front≥0)=false by simp[hp]]
   w_fin
   refine T2_sub_int ?_
   w_fin
   exact Cut.i (fin (5-front) _ (by omega) rfl)
 refine aG b.f_law_cask_1 rfl dkk dkk ?_
 refine TS_cut false 1 ?_
 w_fin
 refine fun c hc=> ?_
 w_fin
 induction is using List.casesOn with
 |nil=>
  refine T2_neB_nil (l:=[]) (r:=true) ha sps (by simp) ?_
  w_fin
  exact Cut.i (main 3 _ _ (aB hc _) rfl)
 |cons i is=>
  refine T2_neB_nil (r:=false) ha sps (by simp) ?_
  w_fin
  refine T2_itemB ha (by decide) (by decide) (by rfl) ?_
  w_fin
  refine(C_int_int ?_)
  w_fin
  exact Cut.i (main i _ _ (aB hc _) rfl)
noncomputable def lowsOf:N→List N
 | .nInteger=> [.nInt64,.nBool]
 | .nReal=> [.nInt64,.nBool]
 | .nAny=> [.nString,.nInt64]
 |n=> [n]
theorem CaskAt.mono {σ σ':Sto}{c:Addr}(h:CaskAt σ c)(l:σ.le σ'):CaskAt σ' c:=by
 refine x24 h fun x y h1 h2 h3 h4=> ?_;clear h;exact⟨x,y,h1,h2,h3,l _ _ h4⟩
theorem T2_eqI {d:Nat}{σ:Sto}{a b:Int}{Q:V→Sto→Prop}(q:Q (.bool (decide (a=b))) σ):T2 d (compareOp .Eq) (.int a) (.int b) σ Q:=
 T2_eq (r:=decide (a=b)) (by rw[decide_eq_true_iff];exact⟨fun e=>by rw[e],fun e=>by injection e⟩) rfl rfl (l_min (Nat.zero_le _)) q
theorem c_law_low {c:Addr}{n:N}{Q:V→Sto→Prop}(h:CaskAt σ c)(hn:n∈ [N.nInt64,.nInteger,.nReal,.nBool,.nAny,.nString])(q:∀m σ',m∈N.nNothing::lowsOf n→(∀a o,σ a=some o→a≠c→σ' a=some o)→CaskAt σ' c→Q (nK m).v σ'):CallT (d+2) (.ref 635) [.ref c,(nK n).v] σ Q:=by
 refine aG b.f_law_low_2 rfl dkk dkk ?_
 refine TS_cons ?_
 refine TS_loc (Q:=_) (e:=Expr.Dict _ _ _) ?_ ?_ ?_
 ·decide +kernel
 rotate_left
 ·intro env;kernel_rfl
 with_reducible refine TE_dict b.low ?_ ?_ ?_ ?_ ?_
 ·rfl
 ·rfl
 ·exact List.cons_ne_nil _ _
 ·exact Nat.le_of_ble_eq_true rfl
 with_reducible refine TPs_cons ?_
 w_fin
 refine⟨_,rfl,?_⟩
 w_fin
 refine fun c₁ h₁=> ?_
 w_fin
 with_reducible refine TPs_cons ?_
 w_fin
 refine⟨_,rfl,?_⟩
 w_fin
 refine fun c₂ h₂=> ?_
 w_fin
 with_reducible refine TPs_cons ?_
 w_fin
 refine⟨_,rfl,?_⟩
 w_fin
 refine fun c₃ h₃=> ?_
 w_fin
 with_reducible refine TPs_nil fun c₄ h₄=> ?_
 have l1:=aC (y:= .dict (dmerge [(Str.ofString "Integer",.ref c₁),(Str.ofString "Real",.ref c₂),(Str.ofString "Any",.ref c₃)])) (aC (y:= .list [.str "String",.str "Int64"]) (aC (y:= .list [.str "Int64",.str "Bool"]) (aA σ c₁ (.list [.str "Int64",.str "Bool"])) h₂) h₃) h₄
 have l2:=aC (y:= .dict (dmerge [(Str.ofString "Integer",.ref c₁),(Str.ofString "Real",.ref c₂),(Str.ofString "Any",.ref c₃)])) (aC (y:= .list [.str "String",.str "Int64"]) (aA (σ.put c₁ (.list [.str "Int64",.str "Bool"])) c₂ (.list [.str "Int64",.str "Bool"])) h₃) h₄
 have l3:=aC (y:= .dict (dmerge [(Str.ofString "Integer",.ref c₁),(Str.ofString "Real",.ref c₂),(Str.ofString "Any",.ref c₃)])) (aA ((σ.put c₁ (.list [.str "Int64",.str "Bool"])).put c₂ (.list [.str "Int64",.str "Bool"])) c₃ (.list [.str "String",.str "Int64"])) h₄
 have l4:=aA (((σ.put c₁ (.list [.str "Int64",.str "Bool"])).put c₂ (.list [.str "Int64",.str "Bool"])).put c₃ (.list [.str "String",.str "Int64"])) c₄ (.dict (dmerge [(Str.ofString "Integer",.ref c₁),(Str.ofString "Real",.ref c₂),(Str.ofString "Any",.ref c₃)]))
 have hle:σ.le ((((σ.put c₁ (.list [.str "Int64",.str "Bool"])).put c₂ (.list [.str "Int64",.str "Bool"])).put c₃ (.list [.str "String",.str "Int64"])).put c₄ (.dict (dmerge [(Str.ofString "Integer",.ref c₁),(Str.ofString "Real",.ref c₂),(Str.ofString "Any",.ref c₃)]))):=aE (aE (aE (aB h₁ _) h₂ _) h₃ _) h₄ _
 have hc:=h.mono hle
 generalize (((σ.put c₁ (.list [.str "Int64",.str "Bool"])).put c₂ (.list [.str "Int64",.str "Bool"])).put c₃ (.list [.str "String",.str "Int64"])).put c₄ (.dict (dmerge [(Str.ofString "Integer",.ref c₁),(Str.ofString "Real",.ref c₂),(Str.ofString "Any",.ref c₃)]))=σ1 at l1 l2 l3 l4 hle hc⊢
 have rest:∀(g:Addr) (L:List N) (σ2:Sto) (ρ:Loc),σ.le σ2→CaskAt σ2 c→σ2 g=some (.list (L.map fun m=>V.str m.s))→L.length≤10→0<L.length→L=lowsOf n→g≠c→ρ "cask"=some (.ref c)→ρ "some"=some (.ref g)→TS (d+1) (aH (defAt 58)) ((aI (defAt 58)).drop 2) ρ σ2 (backOf Q):=by
  intro g L σ2 ρ hl2 hc2 hg hL hL0 hLe hgc r1 r2
  got_up
  refine(((c_law_pour (top:=9) hc2 (by decide) (by decide) fun k σ3 hk hch hc3=> ?_).v.le (Nat.le_refl _)))
  w_fin
  refine T2_eqI ?_
  w_fin
  have hch':∀a o,σ a=some o→a≠c→σ3 a=some o:=fun a o e n=>hch a o (hl2 _ _ e) n
  by_cases h0:k=0
  ·rw[show decide ((k:Int)=0)=true by simp[h0]]
   w_fin
   refine(((c_law_name (n:= .nNothing) ?_).v.le (Nat.le_refl _)))
   w_fin
   exact q .nNothing _ (.head _) hch' hc3
  ·rw[show decide ((k:Int)=0)=false by simp[h0]]
   have hg3:=hch _ _ hg hgc
   w_fin
   refine(C_len_list hg3 (aK (by simp;exact lt3 hL)) ?_)
   w_fin
   rw[List.length_map]
   refine(((c_law_pour (top:=L.length) hc3 hL0 (lt3 (Nat.add_le_add hL (Nat.le_refl 1))) fun j σ4 hj hch4 hc4=> ?_).v.le (Nat.le_refl _)))
   w_fin
   have hg4:=hch4 _ _ hg3 hgc
   have hj':(L.map fun m=>V.str m.s)[j]? =some (.str L[j].s):=by rw[List.getElem?_map,List.getElem?_eq_getElem hj];rfl
   refine aP (x:= .str L[j].s) hg4 (by lia) (by lia) (by rw[Int.toNat_natCast];exact hj') ?_
   w_fin
   refine(((c_law_name (n:=L[j]) ?_).v.le (Nat.le_refl _)))
   w_fin
   exact q _ _ (List.mem_cons_of_mem _ (hLe▸List.getElem_mem hj)) (fun a o e n=>hch4 _ _ (hch' a o e n) n) hc4
 have e1:c₁≠c:=fun e=>by subst e;refine x24 h fun _ _ _ _ _ z=> ?_;clear h;rw[z] at h₁;exact nS' h₁
 have e2:c₂≠c:=fun e=>by subst e;refine x24 h fun _ _ _ _ _ z=> ?_;clear h;have:=(none_put h₂).1;rw[z] at this;exact nS' this
 have e3:c₃≠c:=fun e=>by subst e;refine x24 h fun _ _ _ _ _ z=> ?_;clear h;have:=(none_put (none_put h₃).1).1;rw[z] at this;exact nS' this
 refine thenS_next (TS_cut false 1 ?_)
 w_fin
 refine Ml_bi (GM_get l4) ?_
 w_fin
 refine fun c₅ h₅=> ?_
 w_fin
 refine C_get (aC l4 h₅) ?_
 w_fin
 have hc5:=hc.mono (aB h₅ (.list [.str n.s]))
 have e5:c₅≠c:=fun e=>by subst e;refine x24 hc fun _ _ _ _ _ z=> ?_;clear hc;rw[z] at h₅;exact nS' h₅
 have hle5:=aE hle h₅ (.list [.str n.s])
 rcases List.mem_cons.mp hn with rfl|hn
 ·w_fin
  exact Cut.i (rest c₅ [.nInt64] _ _ hle5 hc5 sps (by simp) (by simp) rfl e5 rfl rfl)
 rcases List.mem_cons.mp hn with rfl|hn
 ·w_fin
  exact Cut.i (rest c₁ [.nInt64,.nBool] _ _ hle5 hc5 (aC l1 h₅) (by simp) (by simp) rfl e1 rfl rfl)
 rcases List.mem_cons.mp hn with rfl|hn
 ·w_fin
  exact Cut.i (rest c₂ [.nInt64,.nBool] _ _ hle5 hc5 (aC l2 h₅) (by simp) (by simp) rfl e2 rfl rfl)
 rcases List.mem_cons.mp hn with rfl|hn
 ·w_fin
  exact Cut.i (rest c₅ [.nBool] _ _ hle5 hc5 sps (by simp) (by simp) rfl e5 rfl rfl)
 rcases List.mem_cons.mp hn with rfl|hn
 ·w_fin
  exact Cut.i (rest c₃ [.nString,.nInt64] _ _ hle5 hc5 (aC l3 h₅) (by simp) (by simp) rfl e3 rfl rfl)
 rcases List.mem_cons.mp hn with rfl|hn
 ·w_fin
  exact Cut.i (rest c₅ [.nString] _ _ hle5 hc5 sps (by simp) (by simp) rfl e5 rfl rfl)
 ·cases hn
end
mutual
noncomputable def K.isw (x:X):K→Bool
 | .name _ ps=>K.isws x ps
 | .var y=>decide (y=x)
 | .tup _=>false
 | .union _=>false
 | .all _ _ _ _=>false
 | .typ _=>false
 | .bot=>false
 | .num _=>false
noncomputable def K.isws (x:X):List K→Bool
 | []=>false
 |k::l=>k.isw x||K.isws x l
end
theorem isws_any {x:X}:∀ks:List K,(ks.map (K.isw x)).contains true=K.isws x ks
 | []=>rfl
 |k::l=>by
  show(true==k.isw x||(l.map (K.isw x)).contains true)=(k.isw x||K.isws x l)
  rw[isws_any l];cases k.isw x<;>rfl
inductive IswV (x:X):K→Prop
 |name (n:N) (ks:List K):IswV x (.name n ks)
 |oth {k:K} (h:wdOk k "name"=true) (e:k= .var x↔k.isw x=true):IswV x k
theorem K.iswV (x:X)(k:K):IswV x k:=by
 induction k using K.casesOn with
 |name n ks=>exact .name n ks
 |var y=>exact .oth (by kernel_rfl) ⟨fun e=>decide_eq_true (K.var.inj e),fun e=>congrArg K.var (oD e)⟩
 |_=>exact .oth (by kernel_rfl) ⟨(fun e=>nomatch e),fun e=>nB e⟩
section
variable {d:Nat}{σ:Sto}
theorem T2_eqB {k k':K}{r:Bool}{Q:V→Sto→Prop}(hd:k'.dp≤200)(e:k=k'↔r=true)(q:Q (.bool r) σ):T2 d (compareOp .Eq) k.v k'.v σ Q:=by
 refine T2_eqK (nT (Nat.min_le_right _ _) hd) ?_
 rw[show decide (k=k')=r from by induction r using Bool.casesOn with|true=>exact decide_eq_true (e.mpr rfl)|false=>exact decide_eq_false fun z=>nB (e.mp z)]
 exact q
theorem c_law_is_within {x:X}:∀(m:Nat) {k:K} {σ:Sto} {Q:V→Sto→Prop},k.dp≤m→m≤100→k.sz≤1000→Q (.bool (k.isw x)) σ→CallT (d+m) (.ref 662) [k.v,.str x.s] σ Q:=by
 intro m
 induction m with
 |zero=>intro k σ Q hd;exact K.dp0 hd
 |succ m ih=>
  intro k σ Q hd hm hz q
  refine CallT.forget (aG b.f_law_is_within_2 rfl dkk dkk ?_)
  cases k.iswV x with
  |name n ks=>
   w_fin
   refine TE_comp rfl dkk ?_
   w_fin
   refine kSrc.i .tup ?_
   refine TCo_pts (ys:=(ks.map (K.isw x)).map V.bool) rfl rfl dkk trivial (fun _=>rfl) (by rw[List.length_map,List.length_map];exact nT (Nat.le_of_eq (Nat.zero_add _)) (nT (K.szs_len ks) (lt3 (Nat.le_of_succ_le hz)))) ?_ ?_
   ·refine All2.eq (All2.of (f:=fun k=>V.bool (k.isw x)) fun k hk=> ?_) (by rw[List.map_map];rfl)
    have h:=K.part_lt (k:= .name n ks) hk
    w_fin
    refine((ih (Nat.le_of_succ_le_succ (nT h.1 hd)) (l_al hm) (Nat.le_of_succ_le (nT h.2 hz)) ?_).v)
    w_fin
    exact⟨rfl,rfl⟩
   intro ρ' c hc
   w_fin
   refine T2_in_bools sps ?_
   w_fin
   exact⟨_,aB hc _,by rw[isws_any];exact q⟩
  |oth h e=>
   w_fin
   refine v_item0 k ?_
   w_fin
   refine T2_eqSf h ?_
   w_fin
   refine T2_eqB (k':= .var x) (Nat.le_of_ble_eq_true rfl) e ?_
   w_fin
   exact⟨_,aQ _,q⟩
end
section
variable {σ:Sto}
theorem c_law_sig {a:Addr}{ways:List Nat}{up bound:K}{ks:List K}{Q:V→Sto→Prop}(ha:σ a=some (.list (ways.map fun(n:Nat)=>V.int n)))(hk:ways.mapM (fun(n:Nat)=>(partsK (.vr .T1) (.vr .S2))[n]?)=some ks)(hz:ways.length≤10)
  (q:∀c σ',σ.le σ'→σ c=none→σ' c=some (.list [bV (.T1,.bot,up),bV (.S2,.bot,bound)])→Q (.tup [.ref c,(K.tup ks).v,(K.all .T1 .bot up (.all .S2 .bot bound (.tup ks))).v]) σ'):CallT (d+6) (.ref 628) [.ref a,up.v,bound.v] σ Q:=by
 refine aG b.f_law_sig_3 rfl dkk dkk ?_
 refine TS_cons (TS_asg (hw:=fun env hn hk=>swapOf_spec hn hk (by rfl)) ?_)
 w_fin
 refine fun c hc=> ?_
 w_fin
 refine TE_comp rfl dkk ?_
 w_fin
 have ha1:=aC (y:= .list [bV (.T1,.bot,up),bV (.S2,.bot,bound)]) ha hc
 have hc1:=aA σ c (.list [bV (.T1,.bot,up),bV (.S2,.bot,bound)])
 have hle:=aB hc (.list [bV (.T1,.bot,up),bV (.S2,.bot,bound)])
 refine kSrc.i (.list ha1) ?_
 have hlen:ks.length=ways.length:=by
  clear ha ha1 q hz
  induction ways generalizing ks with
  |nil=>simp at hk;subst hk;rfl
  |cons n ways ih=>
   rw[List.mapM_cons] at hk
   refine x12 (Option.bind_eq_some_iff.mp hk) fun k h1 hk=> ?_
   refine x12 (Option.bind_eq_some_iff.mp hk) fun ks' h2 hk=> ?_
   replace hk:=sI hk;subst hk
   simp[ih h2]
 refine TCo_pts (ys:=K.vs ks) rfl rfl dkk ha1 (fun _=>rfl) (by rw[aO];simp;exact nT (Nat.le_of_eq hlen) (lt3 hz)) ?_ ?_
 ·show All2 _ ((ways.map fun(n:Nat)=>V.int n).drop 0) _
  rw[List.drop_zero]
  clear ha ha1 q hz hlen
  induction ways generalizing ks with
  |nil=>simp at hk;subst hk;trivial
  |cons n ways ih=>
   rw[List.mapM_cons] at hk
   refine x12 (Option.bind_eq_some_iff.mp hk) fun k h1 hk=> ?_
   refine x12 (Option.bind_eq_some_iff.mp hk) fun ks' h2 hk=> ?_
   replace hk:=sI hk;subst hk
   refine⟨?_,ih h2⟩
   w_fin
   refine((c_law_part (one:= .vr .T1) (other:= .vr .S2) h1 ?_).v)
   w_fin
   exact⟨rfl,rfl⟩
 intro ρ' c₂ hc₂
 w_fin
 refine(((c_tuple_of (d:=d) sps (by simp[aO];exact nT (Nat.le_of_eq hlen) (lt3 hz)) ?_).v.le (l_d)))
 w_fin
 have hcc:=aC (y:= .list ([]++K.vs ks)) hc1 hc₂
 have hle2:=aE hle hc₂ (.list ([]++K.vs ks))
 refine aP hcc (by decide) (by decide) (by rfl) ?_
 w_fin
 refine T2_add_tup ?_ ?_
 ·simp[sizeLine]
 w_fin
 refine aP hcc (by decide) (by decide) (by rfl) ?_
 w_fin
 refine T2_add_tup ?_ ?_
 ·simp[sizeLine]
 w_fin
 refine T2_add_tup ?_ ?_
 ·simp[sizeLine]
 w_fin
 refine T2_add_tup ?_ ?_
 ·simp[sizeLine]
 w_fin
 exact q c _ hle2 hc hcc
end
section
variable {prog:Program}{A:Around}{E:Value→Shared→Prop}{s:Shared}
noncomputable def QIt (t:Bool) (h:Heap) (i l:Addr) (k:Nat):Prop:=if t=true then h.IsTupleIter i l k else h.IsListIter i l k
noncomputable def QSq (t:Bool) (h:Heap) (l:Addr) (xs:Array Value):Prop:=if t=true then h.IsTuple l xs else h.IsList l xs
theorem QIt.of {t:Bool}{h h':Heap}{i l:Addr}{k:Nat}(x:QIt t h i l k)(f:∀o,h.get? i=some o→h'.get? i=some o):QIt t h' i l k:=by
 induction t using Bool.casesOn
 ·refine x12 ((show h.IsListIter i l k from x)) fun o e r=> ?_;exact⟨o,f _ e,r⟩
 ·refine x12 ((show h.IsTupleIter i l k from x)) fun o e r=> ?_;exact⟨o,f _ e,r⟩
theorem QSq.of {t:Bool}{h h':Heap}{l:Addr}{xs:Array Value}(x:QSq t h l xs)(f:∀o,h.get? l=some o→h'.get? l=some o):QSq t h' l xs:=by
 induction t using Bool.casesOn
 ·refine x12 ((show h.IsList l xs from x)) fun o e r=> ?_;exact⟨o,f _ e,r⟩
 ·refine x12 ((show h.IsTuple l xs from x)) fun o e r=> ?_;exact⟨o,f _ e,r⟩
theorem QIt.there {t:Bool}{h:Heap}{i l:Addr}{k:Nat}(x:QIt t h i l k):∃o,h.get? i=some o:=by
 induction t using Bool.casesOn
 ·refine x12 ((show h.IsListIter i l k from x)) fun o e r=> ?_;exact⟨o,e⟩
 ·refine x12 ((show h.IsTupleIter i l k from x)) fun o e r=> ?_;exact⟨o,e⟩
theorem nextOf_item {t:Bool}{it l:Addr}{i:Nat}{xs:Array Value}{x:Value}{Q:Value→Shared→Prop}(hit:QIt t s.heap it l i)(hl:QSq t s.heap l xs)(hx:xs[i]? =some x)
  (hQ:∀h',QIt t h' it l (i+1)→Heap.SameBut it s.heap h'→Q x {s with heap:=h'}):wpAny (model prog w) A (Builtin.SmallTypes.nextOf (.ref it)) Q E s:=by
 induction t using Bool.casesOn with
 |false=>exact wpAny_nextOf_list_item hit hl hx hQ
 |true=>
  refine x13 (id hit) fun o ho hc hd=> ?_
  refine x13 ((show s.heap.IsTuple l xs from hl)) fun ol hol _ z1=> ?_;refine x11 z1 fun nl hdl=> ?_
  unfold Builtin.SmallTypes.nextOf
  refine vB (wpAny_callSpecial?_slot (name:=Str.ofString "__next__") hit.typeIs F.slot_tuple_iterator_next
   (wpAny_call_entry F.slot_tuple_iterator_next hit.typeIs F.entry_tuple_iterator_next ?_ (F.args_tuple_iterator_next_1 _)))
  show wpAny _ _ (field (.ref it) 0>>=_) _ _ s
  refine vB (wpAny_field ho hd (x:= .ref l) rfl ?_)
  rw[if_neg (show¬((Value.ref l==Value.none)=true) from Bool.false_ne_true)]
  refine vB (wpAny_field ho hd (x:= .int i 0) rfl ?_)
  show wpAny _ _ (seqItems? (.ref l)>>=_) _ _ s
  refine vB (wpAny_seqItems hol hdl ?_)
  simp only[Int.toNat_natCast,hx]
  refine vB (wpAny_setField ho hd (by simp) (vP ⟨x,rfl,vP (hQ _ ?_ (Heap.SameBut.update ..))⟩))
  exact⟨_,Heap.get?_update_self _ ho (Obj.isFreed_of_fields (Obj.data_mapFields hd _)),(Obj.cls_mapFields ..).trans hc,by
   rw[Obj.data_mapFields hd];simp[rawInt]⟩
theorem nextOf_end {t:Bool}{it l:Addr}{i:Nat}{xs:Array Value}{Q:Value→Shared→Prop}(hh:A.handled=none)(hit:QIt t s.heap it l i)(hl:QSq t s.heap l xs)(hx:xs[i]? =none)
  (hE:∀h' e,Heap.ExtBut it s.heap h'→(∃o,h'.get? e=some o∧o.cls= .type "StopIteration")→E (.ref e) {s with heap:=h'}):wpAny (model prog w) A (Builtin.SmallTypes.nextOf (.ref it)) Q E s:=by
 induction t using Bool.casesOn with
 |false=>exact wpAny_nextOf_list_end hh hit hl hx hE
 |true=>
  refine x13 (id hit) fun o ho hc hd=> ?_
  refine x13 ((show s.heap.IsTuple l xs from hl)) fun ol hol _ z2=> ?_;refine x11 z2 fun nl hdl=> ?_
  unfold Builtin.SmallTypes.nextOf
  refine vB (wpAny_callSpecial?_slot (name:=Str.ofString "__next__") hit.typeIs F.slot_tuple_iterator_next
   (wpAny_call_entry F.slot_tuple_iterator_next hit.typeIs F.entry_tuple_iterator_next ?_ (F.args_tuple_iterator_next_1 _)))
  show wpAny _ _ (field (.ref it) 0>>=_) _ _ s
  refine vB (wpAny_field ho hd (x:= .ref l) rfl ?_)
  rw[if_neg (show¬((Value.ref l==Value.none)=true) from Bool.false_ne_true)]
  refine vB (wpAny_field ho hd (x:= .int i 0) rfl ?_)
  refine vB (wpAny_seqItems hol hdl ?_)
  simp only[Int.toNat_natCast,hx]
  refine vB (wpAny_rule (vB (wpAny_setField ho hd (by simp) ?_)))
  refine vB ?_
  simp only[newExc,newTuple]
  refine vB (wpAny_newObj_type ?_ (by size_fits))
  refine vB (m:=firstArgMember _ _) (wpAny_of_eq (a:=Value.none) (by first|rfl|(simp only[firstArgMember];rfl)) ?_)
  refine wpAny_newObj_type ?_ (by size_fits)
  simp only[raiseNew]
  refine vB (wpAny_handled ?_)
  first|rw[show A.in1.handled=none from hh]|rw[hh]
  refine vB (vP (wpAny_throw ?_))
  exact hE _ _ (((Heap.SameBut.update ..).extBut.push _).push _) ⟨_,Heap.get?_push_size _ rfl,rfl⟩
structure Zp (t1 t2:Bool)(h:Heap)(z TI TO i1 i2 l1 l2:Addr)(f0:Value)(k:Nat)(xs ys:Array Value):Prop where
 hz:IsZip h z TI TO f0
 hTI:IsPair h TI (.ref i1) (.ref i2)
 hTO:∃a b,IsPair h TO a b
 h1:QIt t1 h i1 l1 k
 h2:QIt t2 h i2 l2 k
 q1:QSq t1 h l1 xs
 q2:QSq t2 h l2 ys
theorem Zp.of {t1 t2:Bool}{h h':Heap}{z TI TO i1 i2 l1 l2:Addr}{f0:Value}{k:Nat}{xs ys:Array Value}(x:Zp t1 t2 h z TI TO i1 i2 l1 l2 f0 k xs ys)
  (f:∀c o,h.get? c=some o→c=z∨c=TI∨c=TO∨c=i1∨c=i2∨c=l1∨c=l2→h'.get? c=some o):Zp t1 t2 h' z TI TO i1 i2 l1 l2 f0 k xs ys:=by
 obtain⟨hz,hTI,⟨a,b,hTO⟩,h1,h2,q1,q2⟩:=x
 exact⟨f _ _ hz (by simp),f _ _ hTI (by simp),⟨a,b,f _ _ hTO (by simp)⟩,h1.of fun o e=>f _ _ e (by simp),h2.of fun o e=>f _ _ e (by simp),q1.of fun o e=>f _ _ e (by simp),q2.of fun o e=>f _ _ e (by simp)⟩
theorem zip_item {t1 t2:Bool}{z TI TO i1 i2 l1 l2:Addr}{k:Nat}{xs ys:Array Value}{x y:Value}{Q:Value→Shared→Prop}(D:ZipApart z TI TO i1 i2 l1 l2)
  (Z:Zp t1 t2 s.heap z TI TO i1 i2 l1 l2 .none k xs ys) (hx:xs[k]? =some x) (hy:ys[k]? =some y)
  (hQ:∀h',Zp t1 t2 h' z TI TO i1 i2 l1 l2 (rawInt s.heap.objs.size) (k+1) xs ys→IsPair h' s.heap.objs.size x y→h'.objs.size=s.heap.objs.size+1→
   (∀c o,c≠z→c≠TO→c≠i1→c≠i2→s.heap.get? c=some o→h'.get? c=some o)→Q (.ref s.heap.objs.size) {s with heap:=h'}):
  wpAny (model prog w) A (Builtin.«zip.__next__» ⟨[.ref z],[]⟩) (fun fin s'=>∃v,fin= .done (.ret v)∧Q v s') E s:=by
 obtain⟨hz,hTI,⟨a,b,hTO⟩,h1,h2,q1,q2⟩:=Z
 show wpAny _ _ (field (.ref z) 2>>=_) _ _ _
 refine vB (wpAny_field hz rfl (x:= .bool false) rfl ?_)
 refine vB (wpAny_field hz rfl (x:= .ref TI) rfl ?_)
 refine vB (wpAny_seqItems hTI rfl ?_)
 refine vB ?_
 unfold Builtin.SmallTypes.ownedTupleIsFree
 refine vB (wpAny_field hz rfl (x:= .none) rfl (vP ?_))
 simp only[if_true]
 refine vB (wpAny_rule ?_)
 refine vB (wpAny_field hz rfl (x:= .ref TO) rfl ?_)
 refine vB (wpAny_setField_rec hz (by simp) fun h₁ hz₁ hs₁=> ?_)
 replace hz₁:IsZip h₁ z TI TO .ellipsis:=hz₁
 refine vB ?_
 simp only[List.zipIdx_cons,List.zipIdx_nil,List.forIn_cons,List.forIn_nil]
 refine vB (vB (wpAny_onRaise ?_))
 refine vB (nextOf_item (h1.of fun o e=>hs₁.extBut _ _ D.i1z e) (q1.of fun o e=>hs₁.extBut _ _ D.l1z e) hx fun h₂ h1₂ hs₂=>vP ?_)
 have hTO₂:IsPair h₂ TO a b:=hs₂.extBut _ _ D.TOi1 (hs₁.extBut _ _ D.TOz hTO)
 refine vB (wpAny_seqItems hTO₂ rfl ?_)
 refine vB (wpAny_updateSeq_pair hTO₂ fun h₃ hTO₃ hs₃=> ?_)
 replace hTO₃:IsPair h₃ TO x b:=hTO₃
 refine vB (wpAny_letGo (vP ?_))
 refine vB (vB (wpAny_onRaise ?_))
 refine vB (nextOf_item (h2.of fun o e=>hs₃.extBut _ _ D.TOi2.symm (hs₂.extBut _ _ D.i12.symm (hs₁.extBut _ _ D.i2z e)))
  (q2.of fun o e=>hs₃.extBut _ _ D.l2TO (hs₂.extBut _ _ D.l2i1 (hs₁.extBut _ _ D.l2z e))) hy fun h₄ h2₄ hs₄=>vP ?_)
 have hTO₄:IsPair h₄ TO x b:=hs₄.extBut _ _ D.TOi2 hTO₃
 refine vB (wpAny_seqItems hTO₄ rfl ?_)
 refine vB (wpAny_updateSeq_pair hTO₄ fun h₅ hTO₅ hs₅=> ?_)
 replace hTO₅:IsPair h₅ TO x y:=hTO₅
 refine vB (wpAny_letGo (vP (vP ?_)))
 refine vB (wpAny_seqItems hTO₅ rfl ?_)
 refine vB (wpAny_newTuple ?_)
 have hsz:h₅.objs.size=s.heap.objs.size:=by rw[hs₅.1,hs₄.1,hs₃.1,hs₂.1,hs₁.1]
 have hz₅:IsZip h₅ z TI TO .ellipsis:=hs₅.extBut _ _ D.TOz.symm (hs₄.extBut _ _ D.i2z.symm (hs₃.extBut _ _ D.TOz.symm (hs₂.extBut _ _ D.i1z.symm hz₁)))
 have hk₅:∀c o,c≠z→c≠TO→c≠i1→c≠i2→s.heap.get? c=some o→h₅.get? c=some o:=fun c o c1 c2 c3 c4 e=>
  hs₅.extBut _ _ c2 (hs₄.extBut _ _ c4 (hs₃.extBut _ _ c2 (hs₂.extBut _ _ c3 (hs₁.extBut _ _ c1 e))))
 have h1₅:QIt t1 h₅ i1 l1 (k+1):=h1₂.of fun o e=>hs₅.extBut _ _ D.TOi1.symm (hs₄.extBut _ _ D.i12 (hs₃.extBut _ _ D.TOi1.symm e))
 have h2₅:QIt t2 h₅ i2 l2 (k+1):=h2₄.of fun o e=>hs₅.extBut _ _ D.TOi2.symm e
 have hzlt:z<h₅.objs.size:=Heap.lt_size hz₅
 refine vB ?_
 unfold Builtin.SmallTypes.ownedTupleHandOut
 have hz₆:IsZip (h₅.push {cls:= .type "tuple",data:= .seq #[x,y]}) z TI TO .ellipsis:=Heap.get?_push_of_some _ hz₅
 refine vB (wpAny_setField_rec hz₆ (by simp) fun h₇ hz₇ hs₇=> ?_)
 replace hz₇:IsZip h₇ z TI TO (rawInt h₅.objs.size):=hz₇
 refine wpAny_setField_rec hz₇ (by simp) fun h₈ hz₈ hs₈=> ?_
 replace hz₈:IsZip h₈ z TI TO (rawInt h₅.objs.size):=hz₈
 have up:∀c o,c≠z→h₅.get? c=some o→h₈.get? c=some o:=fun c o c1 e=>hs₈.extBut _ _ c1 (hs₇.extBut _ _ c1 (Heap.get?_push_of_some _ e))
 have hT₈:IsPair h₈ h₅.objs.size x y:=hs₈.extBut _ _ (Nat.ne_of_gt hzlt) (hs₇.extBut _ _ (Nat.ne_of_gt hzlt) (Heap.get?_push_size _ rfl))
 have hz8:h₈.objs.size=h₅.objs.size+1:=by rw[hs₈.1,hs₇.1,Heap.size_push]
 rw[hsz] at hz₈ hT₈ hz8
 refine vP ⟨_,rfl,?_⟩
 rw[hsz]
 have kk:∀c o,c≠z→c≠TO→c≠i1→c≠i2→s.heap.get? c=some o→h₈.get? c=some o:=fun c o c1 c2 c3 c4 e=>up c o c1 (hk₅ c o c1 c2 c3 c4 e)
 exact hQ h₈ ⟨hz₈,kk _ _ D.TIz D.TITO D.TIi1 D.TIi2 hTI,⟨_,_,up _ _ D.TOz hTO₅⟩,h1₅.of fun o e=>up _ o D.i1z e,h2₅.of fun o e=>up _ o D.i2z e,q1.of fun o e=>kk _ o D.l1z D.l1TO D.l1i1 D.l1i2 e,q2.of fun o e=>kk _ o D.l2z D.l2TO D.l2i1 D.l2i2 e⟩ hT₈ hz8 kk
theorem zip_end {t1 t2:Bool}{z TI TO i1 i2 l1 l2:Addr}{k:Nat}{xs ys:Array Value}{Q:Fin→Shared→Prop}(hh:A.handled=none)(D:ZipApart z TI TO i1 i2 l1 l2)
  (Z:Zp t1 t2 s.heap z TI TO i1 i2 l1 l2 .none k xs ys) (hend:xs[k]? =none∨ys[k]? =none)
  (hE:∀h' e,(∀c o,c≠z→c≠TO→c≠i1→c≠i2→s.heap.get? c=some o→h'.get? c=some o)→(∃o,h'.get? e=some o∧o.cls= .type "StopIteration")→E (.ref e) {s with heap:=h'}):
  wpAny (model prog w) A (Builtin.«zip.__next__» ⟨[.ref z],[]⟩) Q E s:=by
 obtain⟨hz,hTI,⟨a,b,hTO⟩,h1,h2,q1,q2⟩:=Z
 show wpAny _ _ (field (.ref z) 2>>=_) _ _ _
 refine vB (wpAny_field hz rfl (x:= .bool false) rfl ?_)
 show wpAny _ _ (field (.ref z) 3>>=_) _ _ _
 refine vB (wpAny_field hz rfl (x:= .ref TI) rfl ?_)
 refine vB (wpAny_seqItems hTI rfl ?_)
 show wpAny _ _ (Builtin.SmallTypes.ownedTupleIsFree (.ref z)>>=_) _ _ _
 refine vB ?_
 unfold Builtin.SmallTypes.ownedTupleIsFree
 refine vB (wpAny_field hz rfl (x:= .none) rfl (vP ?_))
 simp only[if_true]
 refine vB (wpAny_rule ?_)
 refine vB (wpAny_field hz rfl (x:= .ref TO) rfl ?_)
 refine vB (wpAny_setField_rec hz (by simp) fun h₁ hz₁ hs₁=> ?_)
 replace hz₁:IsZip h₁ z TI TO .ellipsis:=hz₁
 refine vB ?_
 simp only[List.zipIdx_cons,List.zipIdx_nil,List.forIn_cons,List.forIn_nil]
 refine vB (vB (wpAny_onRaise ?_))
 show wpAny _ _ (Builtin.SmallTypes.nextOf (.ref i1)>>=_) _ _ _
 induction hx:xs[k]? using Option.casesOn with
 |none=>
  refine vB (nextOf_end hh (h1.of fun o e=>hs₁.extBut _ _ D.i1z e) (q1.of fun o e=>hs₁.extBut _ _ D.l1z e) hx fun h₂ e hs₂ he=> ?_)
  refine x12 he fun oe hoe hce=> ?_
  have hz₂:IsZip h₂ z TI TO .ellipsis:=hs₂ _ _ D.i1z.symm hz₁
  have hez:e≠z:=fun x=>by subst x;rw[hz₂] at hoe;replace hoe:=sI hoe;subst hoe;simp at hce
  refine wpAny_setField_rec hz₂ (by simp) fun h₃ _ hs₃=>hE h₃ e (fun c o c1 _ c3 _ x=>hs₃.extBut _ _ c1 (hs₂ _ _ c3 (hs₁.extBut _ _ c1 x))) ⟨oe,hs₃.extBut _ _ hez hoe,hce⟩
 |some x=>
  have hy:ys[k]? =none:=by rcases hend with h|h;rw[hx] at h;exact nS' h;exact h
  refine vB (nextOf_item (h1.of fun o e=>hs₁.extBut _ _ D.i1z e) (q1.of fun o e=>hs₁.extBut _ _ D.l1z e) hx fun h₂ h1₂ hs₂=>vP ?_)
  have hTO₂:IsPair h₂ TO a b:=hs₂.extBut _ _ D.TOi1 (hs₁.extBut _ _ D.TOz hTO)
  refine vB (wpAny_seqItems hTO₂ rfl ?_)
  refine vB (wpAny_updateSeq_pair hTO₂ fun h₃ hTO₃ hs₃=> ?_)
  refine vB (wpAny_letGo (vP ?_))
  refine vB (vB (wpAny_onRaise ?_))
  show wpAny _ _ (Builtin.SmallTypes.nextOf (.ref i2)>>=_) _ _ _
  refine vB (nextOf_end hh (h2.of fun o e=>hs₃.extBut _ _ D.TOi2.symm (hs₂.extBut _ _ D.i12.symm (hs₁.extBut _ _ D.i2z e)))
   (q2.of fun o e=>hs₃.extBut _ _ D.l2TO (hs₂.extBut _ _ D.l2i1 (hs₁.extBut _ _ D.l2z e))) hy fun h₄ e hs₄ he=> ?_)
  refine x12 he fun oe hoe hce=> ?_
  have hz₄:IsZip h₄ z TI TO .ellipsis:=hs₄ _ _ D.i2z.symm (hs₃.extBut _ _ D.TOz.symm (hs₂.extBut _ _ D.i1z.symm hz₁))
  have hez:e≠z:=fun x=>by subst x;rw[hz₄] at hoe;replace hoe:=sI hoe;subst hoe;simp at hce
  refine wpAny_setField_rec hz₄ (by simp) fun h₅ _ hs₅=>hE h₅ e (fun c o c1 c2 c3 c4 x=>hs₅.extBut _ _ c1 (hs₄ _ _ c4 (hs₃.extBut _ _ c2 (hs₂.extBut _ _ c3 (hs₁.extBut _ _ c1 x))))) ⟨oe,hs₅.extBut _ _ hez hoe,hce⟩
theorem next_zip_item {t1 t2:Bool}{z TI TO i1 i2 l1 l2:Addr}{k:Nat}{xs ys:Array Value}{x y:Value}{Q:Option Value→Shared→Prop}(D:ZipApart z TI TO i1 i2 l1 l2)
  (Z:Zp t1 t2 s.heap z TI TO i1 i2 l1 l2 .none k xs ys) (hx:xs[k]? =some x) (hy:ys[k]? =some y)
  (hQ:∀h',Zp t1 t2 h' z TI TO i1 i2 l1 l2 (rawInt s.heap.objs.size) (k+1) xs ys→IsPair h' s.heap.objs.size x y→h'.objs.size=s.heap.objs.size+1→
   (∀c o,c≠z→c≠TO→c≠i1→c≠i2→s.heap.get? c=some o→h'.get? c=some o)→Q (some (.ref s.heap.objs.size)) {s with heap:=h'}):
  wpAny (model prog w) A (pyNext (.ref z)) Q E s:=by
 have hT:s.TypeIs (.ref z) "zip":=⟨_,Z.hz,rfl⟩
 unfold pyNext
 exact vB (wpAny_attempt (wpAny_callSpecial?_slot (name:=Str.ofString "__next__") hT F.slot_zip_next
  (wpAny_call_entry F.slot_zip_next hT F.entry_zip_next (zip_item D Z hx hy fun h' a1 a2 a3 a4=>vP (hQ h' a1 a2 a3 a4)) (F.args_zip_next_1 _))))
theorem next_zip_end {t1 t2:Bool}{z TI TO i1 i2 l1 l2:Addr}{k:Nat}{xs ys:Array Value}{Q:Option Value→Shared→Prop}(hh:A.handled=none)(D:ZipApart z TI TO i1 i2 l1 l2)
  (Z:Zp t1 t2 s.heap z TI TO i1 i2 l1 l2 .none k xs ys) (hend:xs[k]? =none∨ys[k]? =none)
  (hQ:∀h',(∀c o,c≠z→c≠TO→c≠i1→c≠i2→s.heap.get? c=some o→h'.get? c=some o)→Q none {s with heap:=h'}):wpAny (model prog w) A (pyNext (.ref z)) Q E s:=by
 have hT:s.TypeIs (.ref z) "zip":=⟨_,Z.hz,rfl⟩
 unfold pyNext
 refine vB (wpAny_attempt (wpAny_callSpecial?_slot (name:=Str.ofString "__next__") hT F.slot_zip_next
  (wpAny_call_entry F.slot_zip_next hT F.entry_zip_next (zip_end hh D Z hend fun h' e hk he=> ?_) (F.args_zip_next_1 _))))
 refine x12 he fun o ho hc=> ?_
 refine vB (wpAny_isInstance (T:="StopIteration") (b:=true) ⟨o,ho,hc⟩ isSubtype_stop ?_)
 exact vP (hQ _ hk)
end
noncomputable def itO:Bool→Addr→Obj
 |true,l=>{cls:= .type "tuple_iterator",data:= .fields #[.ref l,.int 0 0]}
 |false,l=>{cls:= .type "list_iterator",data:= .fields #[.ref l,.int 0 0]}
theorem QSq.push {t:Bool}{h:Heap}{l:Addr}{xs:Array Value}(x:QSq t h l xs)(o:Obj):QSq t (h.push o) l xs:=x.of fun _ e=>Heap.get?_push_of_some _ e
theorem QIt.new {t:Bool}{h:Heap}{l a:Addr}(e:h.get? a=some (itO t l)):QIt t h a l 0:=by
 cases t
 ·exact⟨_,e,rfl,rfl⟩
 ·exact⟨_,e,rfl,rfl⟩
noncomputable abbrev zH2 (t1 t2:Bool) (h:Heap) (l1 l2:Addr):Heap:=(h.push (itO t1 l1)).push (itO t2 l2)
noncomputable abbrev zH3 (t1 t2:Bool) (h:Heap) (l1 l2:Addr):Heap:=(zH2 t1 t2 h l1 l2).push {cls:= .type "tuple",data:= .seq #[.ref h.objs.size,.ref (h.push (itO t1 l1)).objs.size]}
noncomputable abbrev zH4 (t1 t2:Bool) (h:Heap) (l1 l2:Addr):Heap:=(zH3 t1 t2 h l1 l2).push {cls:= .type "tuple",data:= .seq #[.none,.none]}
noncomputable abbrev zH5 (t1 t2:Bool) (h:Heap) (l1 l2:Addr):Heap:=(zH4 t1 t2 h l1 l2).push {cls:= .type "zip",data:= .fields #[.none,.bool false,.bool false,.ref (zH2 t1 t2 h l1 l2).objs.size,.ref (zH3 t1 t2 h l1 l2).objs.size]}
theorem pyIter_q {prog:Program}{w:World}{A:Around}{E:Value→Shared→Prop}{s:Shared}{t:Bool}{l:Addr}{xs:Array Value}{Q:Value→Shared→Prop}(x:QSq t s.heap l xs)
  (hQ:Q (.ref s.heap.objs.size) {s with heap:=s.heap.push (itO t l)}):wpAny (model prog w) A (pyIter (.ref l)) Q E s:=by
 cases t
 ·exact wpAny_pyIter_list x hQ
 ·exact wpAny_pyIter_tuple x hQ
theorem zip_new_meets (t1 t2:Bool)(l1 l2:Addr)(xs ys:Array Value):
  Meets (Builtin.«zip.__new__» ⟨[.type "zip",.ref l1,.ref l2],[]⟩) (fun _ R s=>QSq t1 s.heap l1 xs∧QSq t2 s.heap l2 ys∧
   R (.ok (.ret (.ref (zH4 t1 t2 s.heap l1 l2).objs.size))) {s with heap:=zH5 t1 t2 s.heap l1 l2}):=
 .of_wp fun prog w A R s h=>by
  obtain⟨hp,g,d,tk,os⟩:=s;refine an3 h ?_;clear h;intro hl1 hl2 h
  have hsub:=sub_zip
  have hL1:QSq t1 (Shared.heap ⟨hp,g,d,tk,os⟩) l1 xs:=hl1
  have hL2:QSq t2 (Shared.heap ⟨hp.push (itO t1 l1),g,d,tk,os⟩) l2 ys:=hl2.push _
  wp_walk using pyIter_q hL1,pyIter_q hL2
  exact⟨_,rfl,h⟩
theorem apart_of (m l1 l2:Nat)(h1:l1<m)(h2:l2<m):ZipApart (m+4) (m+2) (m+3) m (m+1) l1 l2:=by
 constructor<;>first|exact Nat.ne_of_lt (by lia)|exact Nat.ne_of_gt (by lia)
section
variable {prog:Program}{w:World}{A:Around}{E:Value→Shared→Prop}{s:Shared}
theorem zip_call {t1 t2:Bool}{l1 l2:Addr}{xs ys:Array Value}{Q:Value→Shared→Prop}(q1:QSq t1 s.heap l1 xs)(q2:QSq t2 s.heap l2 ys)
  (h:∀h' z TI TO i1 i2,ZipApart z TI TO i1 i2 l1 l2→Zp t1 t2 h' z TI TO i1 i2 l1 l2 .none 0 xs ys→(∀b,b=z∨b=TI∨b=TO∨b=i1∨b=i2→s.heap.get? b=none)→
   (∀c o,s.heap.get? c=some o→h'.get? c=some o)→Q (.ref z) {s with heap:=h'}):
  wpAny (model prog w) A (call (.type "zip") [.ref l1,.ref l2]) Q E s:=by
 refine callType_new F.called_zip (by decide) (F.typeCall_zip_2 _ _) (F.newCall_zip_2 _ _) (fun obj=>F.args_object_init_3 obj _ _) F.entry_zip_new
  (zip_new_meets t1 t2 l1 l2 xs ys) ⟨q1,q2,?_⟩
 have z1:(s.heap.push (itO t1 l1)).objs.size=s.heap.objs.size+1:=Heap.size_push ..
 have z2:(zH2 t1 t2 s.heap l1 l2).objs.size=s.heap.objs.size+2:=by rw[Heap.size_push,z1]
 have z3:(zH3 t1 t2 s.heap l1 l2).objs.size=s.heap.objs.size+3:=by rw[Heap.size_push,z2]
 have z4:(zH4 t1 t2 s.heap l1 l2).objs.size=s.heap.objs.size+4:=by rw[Heap.size_push,z3]
 have ft:∀(t:Bool) (l:Addr),(itO t l).isFreed=false:=fun t l=>by cases t<;>rfl
 have g5:(zH5 t1 t2 s.heap l1 l2).get? (zH4 t1 t2 s.heap l1 l2).objs.size=some _:=Heap.get?_push_size _ rfl
 have g4:(zH5 t1 t2 s.heap l1 l2).get? (zH3 t1 t2 s.heap l1 l2).objs.size=some _:=Heap.get?_push_of_some _ (Heap.get?_push_size _ rfl)
 have g3:(zH5 t1 t2 s.heap l1 l2).get? (zH2 t1 t2 s.heap l1 l2).objs.size=some _:=Heap.get?_push_of_some _ (Heap.get?_push_of_some _ (Heap.get?_push_size _ rfl))
 have g2:(zH5 t1 t2 s.heap l1 l2).get? (s.heap.push (itO t1 l1)).objs.size=some (itO t2 l2):=Heap.get?_push_of_some _ (Heap.get?_push_of_some _ (Heap.get?_push_of_some _ (Heap.get?_push_size _ (ft _ _))))
 have g1:(zH5 t1 t2 s.heap l1 l2).get? s.heap.objs.size=some (itO t1 l1):=Heap.get?_push_of_some _ (Heap.get?_push_of_some _ (Heap.get?_push_of_some _ (Heap.get?_push_of_some _ (Heap.get?_push_size _ (ft _ _)))))
 have kp:∀c o,s.heap.get? c=some o→(zH5 t1 t2 s.heap l1 l2).get? c=some o:=fun c o x=>
  Heap.get?_push_of_some _ (Heap.get?_push_of_some _ (Heap.get?_push_of_some _ (Heap.get?_push_of_some _ (Heap.get?_push_of_some _ x))))
 have fr:∀n:Nat,s.heap.get? (s.heap.objs.size+n)=none:=fun n=>by
  induction q:s.heap.get? (s.heap.objs.size+n) using Option.casesOn with
  |none=>rfl
  |some o=>exact absurd (Heap.lt_size q) (Nat.not_lt.mpr (Nat.le_add_right _ n))
 show _∧_
 rw[z2,z3,z4] at g5
 rw[z1,z2] at g3
 rw[z3] at g4
 rw[z1] at g2
 rw[z4]
 have lo1:l1<s.heap.objs.size:=by cases t1<;>(refine x12 q1 fun o e _=> ?_;clear q1;exact Heap.lt_size e)
 have lo2:l2<s.heap.objs.size:=by cases t2<;>(refine x12 q2 fun o e _=> ?_;clear q2;exact Heap.lt_size e)
 refine⟨⟨_,g5,rfl⟩,h _ (s.heap.objs.size+4) (s.heap.objs.size+2) (s.heap.objs.size+3) s.heap.objs.size (s.heap.objs.size+1) ?_ ⟨g5,g3,⟨_,_,g4⟩,QIt.new g1,QIt.new g2,q1.of (kp _),q2.of (kp _)⟩ ?_ kp⟩
 ·exact apart_of _ _ _ lo1 lo2
 ·rintro b (rfl|rfl|rfl|rfl|rfl)
  ·exact fr 4
  ·exact fr 2
  ·exact fr 3
  ·exact fr 0
  ·exact fr 1
end
section
noncomputable def RwE (h₀:Heap) (env:Env) (a b:Str) (va vb:Value) (e:Expr) (x:V):Prop:=
 ∀A s,(∀c o,h₀.get? c=some o→s.heap.get? c=some o)→(∃m,s.heap.Ns env.locals m∧m a=some va∧m b=some vb)→wpAny MM A (eval e env) (fun val s'=>Sh s' s∧RV h₀ val x) NoE s
inductive ZE (a b:Str)(x y:V):Expr→V→Prop
 |str (s:Str) (k:Nat) (p:Pos):ZE a b x y (.Constant (.str s) k p) (.str s)
 |fst (p:Pos) (h:(a==("__debug__":Str))=false:=by decide +kernel):ZE a b x y (.Name a p) x
 |snd (p:Pos) (h:(b==("__debug__":Str))=false:=by decide +kernel):ZE a b x y (.Name b p) y
 |item (u:V) (l:List V) (p q r:Pos) (k:Nat) (e:x= .tup (u::l)) (h:(a==("__debug__":Str))=false:=by decide +kernel):ZE a b x y (.Subscript (.Name a p) (.Constant (.int 0) k q) r) u
inductive ZEs (a b:Str)(x y:V):List Expr→List V→Prop
 |nil:ZEs a b x y [] []
 |cons {e:Expr} {u:V} {es:List Expr} {us:List V} (h:ZE a b x y e u) (t:ZEs a b x y es us):ZEs a b x y (e::es) (u::us)
inductive ZO (a b:Str)(es:List Expr):List V→List V→List V→Prop
 |nil {xs ys:List V} (h:xs=[]∨ys=[]):ZO a b es xs ys []
 |cons {x y:V} {xs ys us r:List V} (h:ZEs a b x y es us) (t:ZO a b es xs ys r):ZO a b es (x::xs) (y::ys) (.tup us::r)
structure EnvOk (env:Env)(a b:Str):Prop where
 fn:env.scope.kind= .function
 ka:env.kindOf a=some .local
 kb:env.kindOf b=some .local
theorem raw_name {h₀:Heap}{env:Env}{a b n:Str}{va vb v:Value}{p:Pos}{x:V}(hd:(n==("__debug__":Str))=false)(hf:env.scope.kind= .function)(hk:env.kindOf n=some .local)(hv:∀m:Str→Option Value,m a=some va→m b=some vb→m n=some v)(r:RV h₀ v x):RwE h₀ env a b va vb (.Name n p) x:=
 fun A s _ ⟨m,hn,ha,hb⟩=>wpAny_Name (wpAny_loadName_local hf hk hn (hv m ha hb) ⟨⟨rfl,rfl,rfl⟩,r⟩) hd
set_option backward.match.sparseCases true in
theorem raw_el {h₀:Heap}{env:Env}{a b:Str}{va vb:Value}{x y u:V}(E:EnvOk env a b)(ra:RV h₀ va x)(rb:RV h₀ vb y){e:Expr}(h:ZE a b x y e u):RwE h₀ env a b va vb e u:=by
 cases h with
 |str s=>exact fun A s _ _=>wpAny_Constant_str ⟨⟨rfl,rfl,rfl⟩,.str _ _⟩
 |fst p h=>exact raw_name h E.fn E.ka (fun m h1 _=>h1) ra
 |snd p h=>exact raw_name h E.fn E.kb (fun m _ h1=>h1) rb
 |item _ l p q pp k e hd=>
  subst e
  refine x33 ra.tup_inv fun t vs nn ev et rr=> ?_
  subst ev
  refine RVs.consE (P:=fun vs=>h₀.get? t=some ⟨.type "tuple",none,.seq vs.toArray nn,#[]⟩→_) rr (fun v vs rv rr et=> ?_) et
  intro A s keep hm
  rw[eval_Subscript]
  refine vB (wpAny_mono (raw_name (a:=a) (b:=b) (va:= .ref t) (vb:=vb) hd E.fn E.ka (fun m h1 _=>h1) (.tup et (.cons rv rr)) A s keep hm) (fun val s₁ ⟨e₁,r₁⟩=> ?_) fun _ _ x=>x)
  refine x33 r₁.tup_inv fun t' vs' nn' ev et' rr'=> ?_
  subst ev
  refine RVs.consE (P:=fun vs=>h₀.get? t'=some ⟨.type "tuple",none,.seq vs.toArray nn',#[]⟩→_) rr' (fun v' vs'' rv' rr' et'=> ?_) et'
  have et₁:s₁.heap.get? t'=some ⟨.type "tuple",none,.seq (v'::vs'').toArray nn',#[]⟩:=by rw[e₁.heap];exact keep _ _ et'
  refine vB (wpAny_holding (wpAny_Constant_int ?_))
  refine vB (wpAny_standAt ?_)
  have hT:s₁.TypeIs (.ref t') "tuple":=⟨_,et₁,rfl⟩
  have e:getitemInPython (.ref t')=(do match←specialOf (.ref t') "__getitem__" with|some (.ref f)=>do pure (match (←load f).data with| .func _=>true|_=>false)|_=>pure false):=getitemInPython_of_ne hT.not_modules
  rw[e]
  have hT':Shared.TypeIs {s₁ with toks:=s₁.toks+1} (.ref t') "tuple":=hT
  refine vB (vB (wpAny_specialOf hT' slot_tuple_getitem.lookup (vP ?_)))
  have e2:∀x y,subscripted (.Constant (.int 0) k q) false x y=operate [x,y] (getItem x y):=by intro _ _;rfl
  rw[e2]
  refine vB (wpAny_operating (PySem.P.getItem_tuple (n:=nn') (items:=(v'::vs'').toArray) (k:=0) (y:=v') et₁ (by decide) (by decide) (by simp[seqIndex?]) (by simp) ?_))
  exact vB (wpAny_letTemporaryGo (vP ⟨⟨e₁.heap,e₁.os,e₁.gens⟩,rv'⟩))
theorem ZE.no_star {a b:Str}{x y u:V}{e:Expr}(h:ZE a b x y e u)(es:List Expr)(env:Env):starEach (e::es) env=(false,eval e env)::starEach es env:=by
 cases h<;>rfl
theorem raw_els {h₀:Heap}{env:Env}{a b:Str}{va vb:Value}{x y:V}{p:Pos}(E:EnvOk env a b)(ra:RV h₀ va x)(rb:RV h₀ vb y){es:List Expr}{us:List V}(h:ZEs a b x y es us):∀A s,(∀c o,h₀.get? c=some o→s.heap.get? c=some o)→
  (∃m,s.heap.Ns env.locals m∧m a=some va∧m b=some vb)→wpAny MM A (spliced (backTo p (starEach es env))) (fun vs s'=>Sh s' s∧RVs h₀ vs us) NoE s:=by
 induction h with
 |nil=>exact fun A s _ _=>wpAny_items_nil ⟨⟨rfl,rfl,rfl⟩,.nil⟩
 |cons h1 _ ih=>
  intro A s keep hm
  refine wpAny_items_cons (wpAny_mono (raw_el E ra rb h1 A s keep hm) (fun v s₁ ⟨e₁,r₁⟩=> ?_) fun _ _ x=>x) (h1.no_star _ env)
  exact wpAny_mono (ih A s₁ (fun c o z=>by rw[e₁.heap];exact keep c o z) (by rw[e₁.heap];exact hm)) (fun vs s₂ ⟨e₂,r₂⟩=>⟨⟨e₂.heap.trans e₁.heap,e₂.os.trans e₁.os,e₂.gens.trans e₁.gens⟩,.cons r₁ r₂⟩) fun _ _ x=>x
end
section
variable {d:Nat}{sc:Nms}{ρ:Loc}{σ:Sto}
theorem le_lineZ {n:Nat}(h:n≤100000):n≤sizeLine:=by unfold sizeLine;lia
inductive MadeT (h₀ h:Heap)(X:Addr→Prop):List Value→List V→Prop
 |nil:MadeT h₀ h X [] []
 |cons {vs:List Value} {xs:List V} (T:Addr) (us:List Value) (l:List V) (n:Nat) (nx:¬X T) (g:h.get? T=some ⟨.type "tuple",none,.seq us.toArray n,#[]⟩) (r:RVs h₀ us l) (m:MadeT h₀ h X vs xs):MadeT h₀ h X (.ref T::vs) (.tup l::xs)
theorem MadeT.mono {h₀ h h':Heap}{X:Addr→Prop}(k:∀c o,¬X c→h.get? c=some o→h'.get? c=some o){vs:List Value}{xs:List V}(m:MadeT h₀ h X vs xs):MadeT h₀ h' X vs xs:=by
 induction m with
 |nil=>exact .nil
 |cons T us l n nx g r _ ih=>exact .cons T us l n nx (k _ _ nx g) r ih
theorem MadeT.snoc {h₀ h:Heap}{X:Addr→Prop}{T:Addr}{us:List Value}{l:List V}{n:Nat}(nx:¬X T)(g:h.get? T=some ⟨.type "tuple",none,.seq us.toArray n,#[]⟩)(r:RVs h₀ us l){vs:List Value}{xs:List V}(m:MadeT h₀ h X vs xs):MadeT h₀ h X (vs++ [.ref T]) (xs++ [.tup l]):=by
 induction m with
 |nil=>exact .cons T us l n nx g r .nil
 |cons T us l n nx g r _ ih=>exact .cons T us l n nx g r ih
theorem MadeT.rvs {h₀ h:Heap}{X:Addr→Prop}(k:∀c o,h₀.get? c=some o→h.get? c=some o){vs:List Value}{xs:List V}(m:MadeT h₀ h X vs xs):RVs h vs xs:=by
 induction m with
 |nil=>exact .nil
 |cons T us l n nx g r _ ih=>exact .cons (.tup g (r.mono fun b o e _=>k b o e)) ih
theorem MadeT.len {h₀ h:Heap}{X:Addr→Prop}{vs:List Value}{xs:List V}(m:MadeT h₀ h X vs xs):vs.length=xs.length:=by
 induction m with
 |nil=>rfl
 |cons T us l n nx g r _ ih=>exact congrArg (·+1) ih
theorem append_raw {A:Around}{s:Shared}{D:Addr}{vs:List Value}{va:Value}{Q:Value→Shared→Prop}(p:s.heap.PlainList D vs.toArray)(hz:vs.length≤sizeLine)
  (h:∀h',h'.PlainList D (vs++ [va]).toArray→But D s.heap h'→∀s':Shared,s'.heap=h'→Sm s s'→Q .none s'):wpAny MM A (call (.builtin "list.append") [.ref D,va]) Q NoE s:=by
 refine x11 p fun n e=> ?_
 refine call_meets PySem.F.slot_list_append ⟨_,e,rfl⟩ PySem.F.entry_list_append (PySem.F.args_list_append_2 _ _) (PySem.list_append D vs.toArray n va (by simpa using hz)) ⟨e,?_⟩
 have k:But D s.heap (s.heap.update D (Obj.mapSeq fun xs=>xs.push va)):=(Heap.SameBut.update ..).extBut
 have g:(s.heap.update D (Obj.mapSeq fun xs=>xs.push va)).get? D=some {cls:= .type "list",data:= .seq (vs++ [va]).toArray (n+1)}:=by
  rw[Heap.get?_update_self _ e (by rw[mapSeq_push];rfl),mapSeq_push]
 exact h _ ⟨_,g⟩ k _ rfl ⟨rfl,rfl⟩
noncomputable abbrev ZX (z TO i1 i2 C Dd:Addr):Addr→Prop:=fun c=>c=z∨c=TO∨c=i1∨c=i2∨c=C∨c=Dd
structure ZAp (z TI TO i1 i2 l1 l2 C Dd:Addr):Prop where
 D:ZipApart z TI TO i1 i2 l1 l2
 hC:C≠z∧C≠TI∧C≠TO∧C≠i1∧C≠i2∧C≠l1∧C≠l2
 hL:Dd≠z∧Dd≠TI∧Dd≠TO∧Dd≠i1∧Dd≠i2∧Dd≠l1∧Dd≠l2
 CL:C≠Dd
structure ZIn (h₀:Heap)(t1 t2:Bool)(z TI TO i1 i2 l1 l2 C Dd:Addr)(vxs vys:List Value)(k:Nat)(vs:List Value)(acc:List V)(h:Heap):Prop where
 Z:Zp t1 t2 h z TI TO i1 i2 l1 l2 .none k vxs.toArray vys.toArray
 p:h.PlainList Dd vs.toArray
 M:MadeT h₀ h (ZX z TO i1 i2 C Dd) vs acc
 ns:∃m,h.Ns C m
 keep:∀c o,h₀.get? c=some o→h.get? c=some o
inductive OutZ (h₀:Heap)(X:Addr→Prop)(C Dd:Addr)(s:Shared)(out:List V):Result→Shared→Prop
 |mk {s':Shared} (vs':List Value) (p:s'.heap.PlainList Dd vs'.toArray) (M:MadeT h₀ s'.heap X vs' out) (ns:∃m,s'.heap.Ns C m) (keep:∀c o,h₀.get? c=some o→s'.heap.get? c=some o) (sm:Sm s s'):OutZ h₀ X C Dd s out (.ok .next) s'
section
variable {h₀:Heap}{t1 t2:Bool}{z TI TO i1 i2 l1 l2 C Dd:Addr}{vxs vys:List Value}{k:Nat}{vs:List Value}{acc:List V}{h h':Heap}
theorem ns_of {m:Str→Option Value}(n:h.Ns C m)(f:∀o,h.get? C=some o→h'.get? C=some o):h'.Ns C m:=x32 n fun o es ep g r=>⟨o,es,ep,f _ g,r⟩
theorem ZIn.rest (G:ZAp z TI TO i1 i2 l1 l2 C Dd)(new:∀c,ZX z TO i1 i2 C Dd c→h₀.get? c=none)(c:ZIn h₀ t1 t2 z TI TO i1 i2 l1 l2 C Dd vxs vys k vs acc h)(kk:∀c o,c≠z→c≠TO→c≠i1→c≠i2→h.get? c=some o→h'.get? c=some o):
  h'.PlainList Dd vs.toArray∧MadeT h₀ h' (ZX z TO i1 i2 C Dd) vs acc∧(∃m,h'.Ns C m)∧∀c o,h₀.get? c=some o→h'.get? c=some o:=
 have f:∀c o,¬ZX z TO i1 i2 C Dd c→h.get? c=some o→h'.get? c=some o:=fun c o nx g=>kk c o (fun q=>nx (.inl q)) (fun q=>nx (.inr (.inl q))) (fun q=>nx (.inr (.inr (.inl q)))) (fun q=>nx (.inr (.inr (.inr (.inl q))))) g
 ⟨c.p.elim fun n p=>⟨n,kk _ _ G.hL.1 G.hL.2.2.1 G.hL.2.2.2.1 G.hL.2.2.2.2.1 p⟩,c.M.mono f,c.ns.elim fun m n=>⟨m,ns_of n fun o g=>kk _ o G.hC.1 G.hC.2.2.1 G.hC.2.2.2.1 G.hC.2.2.2.2.1 g⟩,fun b o e=>f b o (fun q=>nS ((new b q).symm.trans e)) (c.keep b o e)⟩
theorem ZX.no {c:Addr}(hz:c≠z)(ho:c≠TO)(h1:c≠i1)(h2:c≠i2)(hC:c≠C)(hD:c≠Dd):¬ZX z TO i1 i2 C Dd c:=by
 rintro(q|q|q|q|q|q)
 ·exact hz q
 ·exact ho q
 ·exact h1 q
 ·exact h2 q
 ·exact hC q
 ·exact hD q
theorem ZIn.push {us:List Value}{l:List V}(G:ZAp z TI TO i1 i2 l1 l2 C Dd)(new:∀c,ZX z TO i1 i2 C Dd c→h₀.get? c=none)(c:ZIn h₀ t1 t2 z TI TO i1 i2 l1 l2 C Dd vxs vys k vs acc h)(r:RVs h₀ us l)
  (p:h'.PlainList Dd (vs++ [Value.ref h.objs.size]).toArray) (kk:But Dd (h.push {cls:= .type "tuple",data:= .seq us.toArray}) h'):ZIn h₀ t1 t2 z TI TO i1 i2 l1 l2 C Dd vxs vys k (vs++ [Value.ref h.objs.size]) (acc++ [.tup l]) h':=by
 have k2:∀c o,c≠Dd→h.get? c=some o→h'.get? c=some o:=fun c o q e=>kk c o q (Heap.get?_push_of_some _ e)
 have lt:∀{c:Addr},(∃o,h.get? c=some o)→h.objs.size≠c:=fun {c} he=>he.elim fun o e=>Nat.ne_of_gt (Heap.lt_size e)
 have hD:h.objs.size≠Dd:=lt (c.p.elim fun n g=>⟨_,g⟩)
 have nx:=ZX.no (lt ⟨_,c.Z.hz⟩) (x21 c.Z.hTO fun u v g=>lt ⟨_,g⟩) (lt c.Z.h1.there) (lt c.Z.h2.there) (c.ns.elim fun m n=>x32 n fun o es' ep' g _=>lt ⟨o,g⟩) hD
 refine⟨c.Z.of fun b o e q=>k2 b o (fun y=> ?_) e,p,(c.M.mono fun b o nx g=>k2 b o (fun q=>nx (.inr (.inr (.inr (.inr (.inr q)))))) g).snoc nx (kk _ _ hD (Heap.get?_push_size _ rfl)) r,c.ns.elim fun m n=>⟨m,ns_of n fun o g=>k2 _ o G.CL g⟩,
  fun b o e=>k2 b o (fun q=>nS ((new b (.inr (.inr (.inr (.inr (.inr q)))))).symm.trans e)) (c.keep b o e)⟩
 refine an6 G.hL fun d1 d2 d3 d4 d5 z2=> ?_
 rcases q with q|q|q|q|q|q|q
 ·exact d1 (y.symm.trans q)
 ·exact d2 (y.symm.trans q)
 ·exact d3 (y.symm.trans q)
 ·exact d4 (y.symm.trans q)
 ·exact d5 (y.symm.trans q)
 ·exact z2.1 (y.symm.trans q)
 ·exact z2.2 (y.symm.trans q)
end
section
variable {h₀:Heap}{t1 t2:Bool}{z TI TO i1 i2 l1 l2 Dd:Addr}{vxs vys:List Value}{k:Nat}{vs:List Value}{acc:List V}{a b:Str}{es:List Expr}{ek:Nat}{ep pa pb tp cp:Pos}{tk:Nat}{iter:Expr}{cs:Scope}{env:Env}{A:Around}{s:Shared}{P:Result→Shared→Prop}
theorem zdraw {va vb:Value}(hh:A.handled=none)(E:EnvOk env a b)(G:ZAp z TI TO i1 i2 l1 l2 env.locals Dd)(new:∀c,ZX z TO i1 i2 env.locals Dd c→h₀.get? c=none)(c:ZIn h₀ t1 t2 z TI TO i1 i2 l1 l2 env.locals Dd vxs vys k vs acc s.heap)(hva:vxs[k]? =some va)(hvb:vys[k]? =some vb)
  (h:∀s₅,ZIn h₀ t1 t2 z TI TO i1 i2 l1 l2 env.locals Dd vxs vys (k+1) vs acc s₅.heap→Sm s s₅→(∃m:Str→Option Value,s₅.heap.Ns env.locals fun x=>if x=b then some vb else if x=a then some va else m x)→
   wpAny MM A (coRest (.Tuple es ek ep) [⟨.Tuple [.Name a pa,.Name b pb] tk tp,iter,[],0⟩] cs cp 0 [] (.ref z) (.ref Dd) env) (fun fin s'=>match fin with| .done f=>P (.ok f) s'| .again c'=>c'.quiet=true∧codeAny MM A c' P s') NoE s₅):
  codeAny MM A (.compLoop (.ListComp (.Tuple es ek ep) [⟨.Tuple [.Name a pa,.Name b pb] tk tp,iter,[],0⟩] cs cp) 0 (.ref z) (.ref Dd) env) P s:=by
 refine comp_tree ?_
 rw[comp_turn rfl rfl]
 refine vB (wpAny_standAt (vB (next_zip_item G.D c.Z (x:=va) (y:=vb) (by simpa using hva) (by simpa using hvb) fun h₁ Z₁ P₁ sz₁ k₁=> ?_)))
 refine vB (wpAny_letOwnedTupleGo_zip Z₁.hz fun h₂ hz₂ hs₂=> ?_)
 have up:∀c o,c≠z→h₁.get? c=some o→h₂.get? c=some o:=fun c o q e=>hs₂.extBut _ _ q e
 have P₂:IsPair h₂ s.heap.objs.size va vb:=up _ _ (Nat.ne_of_gt (Heap.lt_size c.Z.hz)) P₁
 have Z₂:Zp t1 t2 h₂ z TI TO i1 i2 l1 l2 .none (k+1) vxs.toArray vys.toArray:=
  ⟨hz₂,up _ _ G.D.TIz Z₁.hTI,x21 Z₁.hTO fun u v a3=>⟨u,v,up _ _ G.D.TOz a3⟩,Z₁.h1.of fun o e=>up _ o G.D.i1z e,Z₁.h2.of fun o e=>up _ o G.D.i2z e,Z₁.q1.of fun o e=>up _ o G.D.l1z e,Z₁.q2.of fun o e=>up _ o G.D.l2z e⟩
 have r₂:=c.rest G new fun b o q1 q2 q3 q4 e=>up b o q1 (k₁ b o q1 q2 q3 q4 e)
 refine vB (wpAny_assign_Tuple hh (items:= #[va,vb]) ⟨_,P₂,rfl,_,rfl⟩ rfl (plain_star rfl) fun h₃ hs₃=> ?_)
 have k₃:∀c o,h₂.get? c=some o→h₃.get? c=some o:=fun c o e=>hs₃ c o (Nat.ne_of_lt (Heap.lt_size e)) e
 refine x11 r₂.2.2.1 fun m₃ n₂=> ?_
 refine wpAny_assignInOrder_more (wpAny_assign_Name (wpAny_storeName_local E.ka (ns_of n₂ fun o=>k₃ _ o) (fun h₄ Ns₄ hs₄=> ?_) (by rw[E.fn];rfl)))
 refine wpAny_assignInOrder_more (wpAny_assign_Name (wpAny_storeName_local E.kb Ns₄ (fun h₅ Ns₅ hs₅=>wpAny_assignInOrder_none ?_) (by rw[E.fn];rfl)))
 have k25:∀c o,c≠env.locals→h₂.get? c=some o→h₅.get? c=some o:=fun c o q e=>hs₅.extBut _ _ q (hs₄.extBut _ _ q (k₃ _ _ e))
 refine h _ ⟨Z₂.of fun b o e q=>k25 b o (fun y=> ?_) e,r₂.1.elim fun n p=>⟨n,k25 _ _ G.CL.symm p⟩,r₂.2.1.mono fun b o nx g=>k25 b o (fun q=>nx (.inr (.inr (.inr (.inr (.inl q)))))) g,⟨_,Ns₅⟩,
  fun b o e=>k25 b o (fun q=>nS ((new b (.inr (.inr (.inr (.inr (.inl q)))))).symm.trans e)) (r₂.2.2.2 b o e)⟩ ⟨rfl,rfl⟩ ⟨m₃,Ns₅⟩
 refine an6 G.hC fun d1 d2 d3 d4 d5 z2=> ?_
 rcases q with q|q|q|q|q|q|q
 ·exact d1 (y.symm.trans q)
 ·exact d2 (y.symm.trans q)
 ·exact d3 (y.symm.trans q)
 ·exact d4 (y.symm.trans q)
 ·exact d5 (y.symm.trans q)
 ·exact z2.1 (y.symm.trans q)
 ·exact z2.2 (y.symm.trans q)
theorem ZEs.len {x y:V}{es:List Expr}{us:List V}(h:ZEs a b x y es us):us.length=es.length:=by
 induction h with
 |nil=>rfl
 |cons _ _ ih=>exact congrArg (·+1) ih
theorem zturn {x y:V}{us:List V}{va vb:Value}(hh:A.handled=none)(E:EnvOk env a b)(hab:a≠b)(G:ZAp z TI TO i1 i2 l1 l2 env.locals Dd)(new:∀c,ZX z TO i1 i2 env.locals Dd c→h₀.get? c=none)(c:ZIn h₀ t1 t2 z TI TO i1 i2 l1 l2 env.locals Dd vxs vys k vs acc s.heap)
  (hva:vxs[k]? =some va) (hvb:vys[k]? =some vb) (ra:RV h₀ va x) (rb:RV h₀ vb y) (h1:ZEs a b x y es us) (hes:es.length≤1000) (hac:acc.length≤100000)
  (h:∀s₇ vs',ZIn h₀ t1 t2 z TI TO i1 i2 l1 l2 env.locals Dd vxs vys (k+1) vs' (acc++ [.tup us]) s₇.heap→Sm s s₇→codeAny MM A (.compLoop (.ListComp (.Tuple es ek ep) [⟨.Tuple [.Name a pa,.Name b pb] tk tp,iter,[],0⟩] cs cp) 0 (.ref z) (.ref Dd) env) P s₇):
  codeAny MM A (.compLoop (.ListComp (.Tuple es ek ep) [⟨.Tuple [.Name a pa,.Name b pb] tk tp,iter,[],0⟩] cs cp) 0 (.ref z) (.ref Dd) env) P s:=by
 refine zdraw hh E G new c hva hvb fun s₅ c₅ m₅ ns₅=> ?_
 refine vB (wpAny_tests_nil ?_)
 rw[if_pos rfl]
 refine vB (vB (wpAny_Tuple (wpAny_mono (raw_els E ra rb h1 A _ c₅.keep (ns₅.elim fun m n=>⟨_,n,?_,?_⟩)) (fun vs' s₆ z=> ?_) fun _ _ x=>x)))
 ·rw[if_neg hab,if_pos rfl]
 ·exact if_pos rfl
 refine⟨le_lineZ (by rw[z.2.length,h1.len];exact lt3 hes),?_⟩
 have e₆:=z.1
 have c₆:ZIn h₀ t1 t2 _ TI TO i1 i2 l1 l2 env.locals Dd vxs vys (k+1) vs acc s₆.heap:=e₆.heap.symm▸c₅
 refine vB (append_raw (c₆.p.elim fun n p=>⟨n,Heap.get?_push_of_some _ p⟩) (by rw[c.M.len];exact le_lineZ hac) fun h₇ p₇ k₇ s₇ e₇ m₇=>vP (vP ⟨rfl,h s₇ (vs++ [Value.ref s₆.heap.objs.size]) ?_ ⟨m₇.os.trans (e₆.os.trans m₅.os),m₇.gens.trans (e₆.gens.trans m₅.gens)⟩⟩))
 rw[e₇]
 exact c₆.push G new z.2 p₇ k₇
theorem dropC {α:Type _}{l:List α}{k:Nat}{x:α}{r:List α}(h:l.drop k=x::r):l[k]? =some x∧l.drop (k+1)=r∧k<l.length:=
 have e:l[k]? =some x:=by have:=congrArg (fun z:List α=>z[0]?) h;simpa using this
 ⟨e,by have:=congrArg List.tail h;simpa using this,(List.getElem?_eq_some_iff.mp e).1⟩
theorem zloop {xs ys out:List V}(hh:A.handled=none)(E:EnvOk env a b)(hab:a≠b)(G:ZAp z TI TO i1 i2 l1 l2 env.locals Dd)(new:∀c,ZX z TO i1 i2 env.locals Dd c→h₀.get? c=none)(rx:RVs h₀ vxs xs)(ry:RVs h₀ vys ys)(hxl:xs.length≤50000)(hes:es.length≤1000)
  {xs' ys':List V} (ho:ZO a b es xs' ys' out):∀(k:Nat) (acc:List V) (vs:List Value) (s:Shared),xs.drop k=xs'→ys.drop k=ys'→acc.length≤k→ZIn h₀ t1 t2 z TI TO i1 i2 l1 l2 env.locals Dd vxs vys k vs acc s.heap→
   codeAny MM A (.compLoop (.ListComp (.Tuple es ek ep) [⟨.Tuple [.Name a pa,.Name b pb] tk tp,iter,[],0⟩] cs cp) 0 (.ref z) (.ref Dd) env) (OutZ h₀ (ZX z TO i1 i2 env.locals Dd) env.locals Dd s (acc++out)) s:=by
 induction ho with
 |nil hn=>
  intro k acc vs s e1 e2 _ c
  subst e1;subst e2
  refine comp_tree ?_
  rw[comp_turn rfl rfl,List.append_nil]
  refine vB (wpAny_standAt (vB (next_zip_end hh G.D c.Z (hn.imp (fun h=> ?_) fun h=> ?_) fun h' kk=>vP ?_)))
  ·exact Array.getElem?_eq_none (by rw[List.size_toArray,rx.length];exact List.drop_eq_nil_iff.mp h)
  ·exact Array.getElem?_eq_none (by rw[List.size_toArray,ry.length];exact List.drop_eq_nil_iff.mp h)
  ·exact an4 (c.rest G new kk) fun p M ns keep=> .mk vs p M ns keep ⟨rfl,rfl⟩
 |cons h1 _ ih=>
  intro k acc vs s e1 e2 hak c
  have d1:=dropC e1
  have d2:=dropC e2
  refine x12 (rx.get d1.1) fun va hva ra=>x12 (ry.get d2.1) fun vb hvb rb=> ?_
  refine zturn hh E hab G new c hva hvb ra rb h1 hes (nT hak (nT (Nat.le_of_lt d1.2.2) (lt3 hxl))) fun s₇ vs' c₇ m₇=> ?_
  refine codeAny_mono (ih (k+1) _ vs' s₇ d1.2.1 d2.2.1 (by rw[List.length_append];exact Nat.succ_le_succ hak) c₇) fun _ _ o=> ?_
  cases o with
  |mk vs'' p' M' r1 r2 r3=>exact .mk vs'' p' (by rw[List.append_cons];exact M') r1 r2 ⟨r3.os.trans m₇.os,r3.gens.trans m₇.gens⟩
end
end
section
variable {d:Nat}{sc:Nms}{ρ:Loc}{σ:Sto}
inductive SqOf:V→Sto→List V→Prop where
 |list {l:Addr} {xs:List V} {σ:Sto} (h:σ l=some (.list xs)):SqOf (.ref l) σ xs
 |tup {xs:List V} {σ:Sto}:SqOf (.tup xs) σ xs
theorem SqOf.at {h:Heap}{v:V}{xs:List V}{val:Value}(q:SqOf v σ xs)(S:St σ h)(r:RV h val v):∃t l vxs,val= .ref l∧QSq t h l (vxs:List Value).toArray∧RVs h vxs xs:=by
 cases q with
 |list hl=>
  w_dflts r
  refine x22 ((S.obj _ _ hl).plain) fun vs n p rr=> ?_
  exact⟨false,_,vs,rfl,⟨_,p,rfl,_,rfl⟩,rr⟩
 |tup=>
  cases r with
  | @tup a vs _ n e rr=>exact⟨true,_,vs,rfl,⟨_,e,rfl,_,rfl⟩,rr⟩
theorem call_raw {func:Expr}{args:List Expr}{p:Pos}{W:V→List V→Sto→Prop}{env:Env}{A:Around}{s:Shared}{P:Value→Shared→Prop}(R:Rm d A)(F:FR sc env ρ σ s.heap)(S:St σ s.heap)
  (h:TE d sc func ρ σ fun f σ₁=>TEs d sc p args ρ σ₁ fun l σ₂=>Kp f∧W f l σ₂)
  (harm:∀env,eval (.Call func args [] p) env=(do callWith p (←eval func env) [] (backTo p (starEach args env)) []))
  (hn:∀env,(backTo p (starEach args env)).any (·.1)=false)
  (hP:∀s₂ fv vs f l σ₂,W f l σ₂→RV s₂.heap fv f→RVs s₂.heap vs l→St σ₂ s₂.heap→Aft σ s σ₂ s₂→wpAny MM A (call fv vs) P NoE s₂):wpAny MM A (eval (.Call func args [] p) env) P NoE s:=by
 rw[harm env]
 refine vB (wO (h env A s R F S) (fun fv s₁ f σ₁ rf h₁ S₁ T₁=> ?_))
 have hz:=h₁ env A s₁ R (F.aft S T₁) S₁
 refine callWith_of (P:=fun h=>(∀b o,B.get? b=some o→h.get? b=some o)∧RV h fv f∧Kp f) (by rw[hn env];rfl) (fun h ⟨k,r,kp⟩=> ?_) (evalArgs_of (hn env) (wL hz (fun vs s₂ l σ₂ rs h_3 S₂ T₂=> ?_)))
 ·refine x12 (kp h k fv r) fun k' a b=> ?_;exact⟨k',a,b _⟩
 ·have rf₂:=T₂.rv S₁ rf
  refine an2 h_3 fun kp c=> ?_
  exact⟨⟨S₂.base,rf₂,kp⟩,hP s₂ fv vs f l σ₂ c rf₂ rs S₂ (T₁.trans T₂)⟩
theorem zcomp_start {elt:Expr}{gens:List Comprehension}{cs:Scope}{cp:Pos}{k:Nat}{g:Comprehension}{z TI TO:Addr}{f0:Value}{acc:Value}{env:Env}{A:Around}{R:Result→Shared→Prop}{s:Shared}(hg:gens[k]? =some g)(ha:g.is_async=0)(I:IsZip s.heap z TI TO f0)
  (h:codeAny MM A (.compLoop (.ListComp elt gens cs cp) k (.ref z) acc env) R s):codeAny MM A (.compStart (.ListComp elt gens cs cp) k (.ref z) acc env) R s:=by
 refine codeAny_of_tree ?_
 have hA:A.under (.compStart (.ListComp elt gens cs cp) k (.ref z) acc env)=A:=Around.under_of_weight rfl
 rw[hA]
 refine wpAny_notedAt ?_
 have hcl:(clausesOf (.ListComp elt gens cs cp))[k]? =some g:=hg
 unfold compStart
 rw[hcl]
 simp only[Option.elim_some,ha,bne_self_eq_false,Bool.false_eq_true,if_false]
 refine vB (wpAny_askSetting ?_)
 split
 ·exact vB (vP (vP (And.intro rfl h)))
 ·exact vB (wpAny_rule (vB (wpAny_standAt (vB (wpAny_pyIter_zip I (vP (And.intro rfl h)))))))
theorem TE_zipc {a b:Str}{es args:List Expr}{func:Expr}{ek tk:Nat}{ep pa pb tp zp cp:Pos}{cs:Scope}{Q:V→Sto→Prop}(hk:cs.kind= .function)(hn:okNames sc cs.names=true)
  (hab:a≠b) (ha:(relab sc cs.names).lookup a=some .local) (hb:(relab sc cs.names).lookup b=some .local) (hes:es.length≤1000)
  (h:TE d sc func ρ σ fun f σ₁=>TEs d sc zp args ρ σ₁ fun l σ₂=>Kp f∧(f= .ty "zip"∧∃v1 v2 xs ys out,l=[v1,v2]∧SqOf v1 σ₂ xs∧SqOf v2 σ₂ ys∧xs.length≤50000∧ZO a b es xs ys out∧∀c,σ₂ c=none→Q (.ref c) (σ₂.put c (.list out))))
  (harm:∀env,eval (.Call func args [] zp) env=(do callWith zp (←eval func env) [] (backTo zp (starEach args env)) []):=by intro _;rfl)
  (hns:∀env,(backTo zp (starEach args env)).any (·.1)=false:=by intro _;rfl)
  (hf:∀env x,foldedSetIterable (.Call func args [] zp) env x=pure x:=by intro _ _;rfl):TE d sc (.ListComp (.Tuple es ek ep) [⟨.Tuple [.Name a pa,.Name b pb] tk tp,.Call func args [] zp,[],0⟩] cs cp) ρ σ Q:=
 fun env A s R F S=>by
  rw[eval_ListComp]
  refine x13 (clos_of F hn) fun cl hclos hcl hcl'=> ?_
  refine wpAny_comprehension_free (cl:=cl) rfl (hf env) hclos hk (fun x hx hl=> ?_) ?_
  ·have:=lA hn x hx
   rw[hl] at this
   simp at this
   exact this
  refine call_raw R F S h harm hns fun s₁ fv vs f l σ₁ hW rf rs S₁ T₁=> ?_
  refine an2 hW fun e0 z1=> ?_;clear hW;refine x41 z1 ?_;clear z1;intro v1 v2 xs ys z1;refine x16 z1 fun out el sq1 sq2 hxl ho q=> ?_;clear z1
  subst e0;subst el
  w_dflts rf
  cases rs with
  | @cons va _ vs' _ ra rs=>
  cases rs with
  | @cons vb _ vs'' _ rb rs=>
  w_dflts rs
  refine x33 (sq1.at S₁ ra) fun t1 l1 vxs z2 q1 r1=> ?_;subst z2
  refine x33 (sq2.at S₁ rb) fun t2 l2 vys z3 q2 r2=> ?_;subst z3
  have F₁:=F.aft S T₁
  refine zip_call q1 q2 fun h₂ z TI TO i1 i2 D Z new keep₂=> ?_
  refine wpAny_pyIter_zip Z.hz ?_
  have nb:∀{b:Addr},s₁.heap.get? b=none→B.get? b=none:=fun {b} e=>by
   induction q:B.get? b using Option.casesOn with
   |none=>rfl
   |some o=>rw[S₁.base _ _ q] at e;exact nS' e
  refine wpAny_newObj_type ?_
  have hD:=get_size h₂
  generalize hDe:h₂.objs.size=Dd at hD⊢
  have kD:∀b o,h₂.get? b=some o→(h₂.push {cls:= .type "list",dict:=none,data:= .seq ([]:List Value).toArray}).get? b=some o:=aN _
  have pD:(h₂.push {cls:= .type "list",dict:=none,data:= .seq ([]:List Value).toArray}).PlainList Dd ([]:List Value).toArray:=⟨0,by rw[←hDe];exact Heap.get?_push_size _ rfl⟩
  generalize hH:h₂.push {cls:= .type "list",dict:=none,data:= .seq ([]:List Value).toArray}=H at kD pD⊢
  have hC:=get_size H
  refine wpAny_newFunctionEnv (fun x hx e=>by have:=lA hn x hx;rw[e] at this;simp at this) (by intro x hx;cases hx) (fun h₄ hns hsb=> ?_) hk
  dsimp only at hns hsb hC⊢
  generalize hCe:H.objs.size=C at hns hsb hC⊢
  have kC:∀b o,H.get? b=some o→h₄.get? b=some o:=fun b o e=>(hsb.2 b fun z=>by replace z:=z.symm;subst z;rw[hC] at e;exact nS e).trans (by
   have:=aN (h:=H) ({cls:= .type (if(some env).isSome then "dict" else "frame"),data:= .dict #[]}:Obj) b o e;exact this)
  have k4:∀b o,h₂.get? b=some o→h₄.get? b=some o:=fun b o e=>kC b o (kD b o e)
  have k14:∀b o,s₁.heap.get? b=some o→h₄.get? b=some o:=fun b o e=>k4 b o (keep₂ b o e)
  have back:∀{b:Addr},h₂.get? b=none→s₁.heap.get? b=none:=fun {b} e=>by
   induction q:s₁.heap.get? b using Option.casesOn with
   |none=>rfl
   |some o=>rw[keep₂ _ _ q] at e;exact nS' e
  have newC₂:h₂.get? C=none:=by
   induction q:h₂.get? C using Option.casesOn with
   |none=>rfl
   |some o=>rw[kD _ _ q] at hC;exact nS' hC
  have newC:=back newC₂
  have newD:=back hD
  have hDC:C≠Dd:=by
   rintro rfl
   refine x11 pD fun n e=> ?_;clear pD
   rw[e] at hC;exact nS' hC
  have F₄:=comp_frame (cl:=cl) (qual:=env.qual) F₁ S₁ hk hn hcl hcl' k14 newC (by
   have:(fun x:Str=>([]:List (Str×Value)).reverse.lookup x)=fun _=>none:=by funext x;rfl
   rw[this] at hns;exact hns)
  have Z₄:Zp t1 t2 h₄ z TI TO i1 i2 l1 l2 .none 0 vxs.toArray vys.toArray:=Z.of fun c o e _=>k4 c o e
  have ap:∀c,h₂.get? c=none→c≠z∧c≠TI∧c≠TO∧c≠i1∧c≠i2∧c≠l1∧c≠l2:=fun c e=>by
   have no:∀{y:Addr},(∃o,h₂.get? y=some o)→c≠y:=fun {y} he q=>by refine x11 he fun o g=> ?_;clear he;subst q;rw[e] at g;exact nS g
   obtain⟨a1,a2,⟨u,v,a3⟩,a4,a5,a6,a7⟩:=Z
   refine⟨no ⟨_,a1⟩,no ⟨_,a2⟩,no ⟨_,a3⟩,no a4.there,no a5.there,no ?_,no ?_⟩
   ·induction t1 using Bool.casesOn<;>(refine x12 a6 fun o g _=> ?_;clear a6;exact⟨o,g⟩)
   ·induction t2 using Bool.casesOn<;>(refine x12 a7 fun o g _=> ?_;clear a7;exact⟨o,g⟩)
  have G:ZAp z TI TO i1 i2 l1 l2 C Dd:=⟨D,ap C newC₂,ap Dd hD,hDC⟩
  have nX:∀c,ZX z TO i1 i2 C Dd c→s₁.heap.get? c=none:=by
   rintro c (e|e|e|e|e|e)<;>subst e
   ·exact new _ (.inl rfl)
   ·exact new _ (.inr (.inr (.inl rfl)))
   ·exact new _ (.inr (.inr (.inr (.inl rfl))))
   ·exact new _ (.inr (.inr (.inr (.inr rfl))))
   ·exact newC
   ·exact newD
  have EO:EnvOk {newEnv cs C env.globals cl env.qual none .none (some env) env.builtins with scope:=relabel cs env} a b:=
   ⟨hk,by rw[Env.kindOf,F₄.nm];exact ha,by rw[Env.kindOf,F₄.nm];exact hb⟩
  have p₄:h₄.PlainList Dd ([]:List Value).toArray:=by refine x11 pD fun n e=> ?_;clear pD;exact⟨n,kC _ _ e⟩
  refine zcomp_start (g:=⟨.Tuple [.Name a pa,.Name b pb] tk tp,.Call func args [] zp,[],0⟩) rfl rfl Z₄.hz (codeAny_mono (zloop (h₀:=s₁.heap) R.hd EO hab G nX r1 r2 hxl hes ho 0 [] [] _ rfl rfl (Nat.zero_le _) ⟨Z₄,p₄,.nil,⟨_,hns⟩,k14⟩) fun r s' o=> ?_)
  cases o with
  |mk vs' p' M' ns₀ k' sm=>
  refine x11 ns₀ fun m ns'=> ?_
  refine⟨m,ns',fun h' hsb'=> ?_⟩
  have k:∀b o,s₁.heap.get? b=some o→h'.get? b=some o:=fun b o e=>(hsb'.2 b fun z=>by subst z;rw[newC] at e;exact nS e).trans (k' b o e)
  have kD':h'.PlainList Dd vs'.toArray:=by refine x11 p' fun n e=> ?_;clear p';exact⟨n,(hsb'.2 Dd hDC.symm).trans e⟩
  have M'':MadeT s₁.heap h' (ZX z TO i1 i2 C Dd) vs' out:=MadeT.mono (fun c o nx g=>(hsb'.2 c fun q=>nx (.inr (.inr (.inr (.inr (.inl q)))))).trans g) (List.nil_append out▸M')
  have ro:RO h' Dd (.list out):=⟨vs',kD',M''.rvs k⟩
  exact⟨.ref Dd,σ₁.put Dd (.list out),.ref Dd,q Dd (S₁.fresh newD),S₁.add k newD ro,T₁.trans (Aft.add k newD _ sm.os sm.gens)⟩
theorem list_no_keys:typeLookup (.type "list") "keys"=pure none:=am_miss_of_fast dkk
theorem list_no_getattr:typeLookup (.type "list") "__getattr__"=pure none:=am_miss_of_fast dkk
theorem list_ga_miss {prog:Program}{A:Around}{E:Value→Shared→Prop}{P:PySem.Fin→Shared→Prop}{s:Shared}{a:Addr}{xs:Array Value}{n:Nat}{u:Tok}(hh:A.handled=none)(hl:s.heap.get? a=some {cls:= .type "list",data:= .seq xs n})
  (h:∀h' tk e,Heap.NewAttrErr s.heap h' e (.ref a) "keys"→E (.ref e) {s with heap:=h',toks:=tk}):wpAny (model prog w) A (Builtin.«object.__getattribute__» ⟨[.ref a,.str "keys" u],[]⟩) P E s:=by
 obtain⟨hp,g,d,tk,os⟩:=s
 have hT:(⟨hp,g,d,tk,os⟩:Shared).TypeIs (.ref a) "list":=⟨_,hl,rfl⟩
 have f1:=list_no_keys
 unfold Builtin.«object.__getattribute__»
 repeat (any_goals (first|assumption|wp_step))
 exact wpAny_raiseAttrError hh h (attrMsg_fits dkk (by decide))
theorem list_keys {prog:Program}{A:Around}{E:Value→Shared→Prop}{s:Shared}{a:Addr}{xs:Array Value}{n:Nat}{Q:Option Value→Shared→Prop}(hh:A.handled=none)(hl:s.heap.get? a=some {cls:= .type "list",data:= .seq xs n})
  (h:∀s',(∀b o,s.heap.get? b=some o→s'.heap.get? b=some o)→Sm s s'→Q none s'):wpAny (model prog w) A (getAttr? (.ref a) "keys") Q E s:=by
 obtain⟨hp,g,d,tk,os⟩:=s
 have hT:(⟨hp,g,d,tk,os⟩:Shared).TypeIs (.ref a) "list":=⟨_,hl,rfl⟩
 have f1:=sub_AttributeError
 have f3:=F.slot_list_getattribute.lookup
 have f4:=F.slot_list_getattribute.bind (.ref a)
 have f5:=list_no_getattr
 unfold getAttr? getAttrBy? getAttrBy
 repeat (any_goals (first|assumption|wp_step))
 refine codeAny_call_builtin F.slot_list_getattribute.plain F.entry_list_ga (F.slot_list_getattribute.check _ _ _ _ _ _ _ _ (show Shared.TypeIs _ (.ref a) "list" from⟨_,hl,rfl⟩) (F.args_list_getattribute_2 _ _) ?_)
 refine list_ga_miss hh hl fun h' tk' e hx=> ?_
 refine x21 hx.there fun t' u' he=> ?_
 show wpAny _ _ (getattributeRaised _ _ _ _ _ _ _) _ _ _
 unfold getattributeRaised
 repeat (any_goals (first|assumption|wp_step))
 exact h _ hx.keeps ⟨rfl,rfl⟩
theorem plain_dict_loop:plainId "dict.update.loop"=true:=by decide +kernel
theorem entry_dict_loop:entryFor table "dict.update.loop"=some Builtin.«dict.update.loop»:=entryFor_of_fast (by kernel_rfl)
noncomputable def pairV (p:Str×V):V:= .tup [.str p.1,p.2]
theorem pair_inv {h:Heap}{v:Value}{p:Str×V}(r:RV h v (pairV p)):∃T k tk u,v= .ref T∧h.get? T=some ⟨.type "tuple",none,.seq #[.str p.1 tk,u] k,#[]⟩∧RV h u p.2:=by
 refine x33 r.tup_inv fun T us k e g rr=>x23 rr.cons_inv fun u1 ws e1 r1 rr1=>x23 rr1.cons_inv fun u2 ws2 e2 r2 rr2=>x11 r1.str_inv fun tk e3=>⟨T,k,tk,u2,e,?_,r2⟩
 rw[g,e1,e2,e3,rr2.nil_inv]
theorem dict_of {h h':Heap}{D:Addr}{kvs:List (Str×Value)}(x:h.DictOf (strKind pw w) D kvs)(f:∀o,h.get? D=some o→h'.get? D=some o):h'.DictOf (strKind pw w) D kvs:=x32 x fun o es' ep g rest=>⟨o,es',ep,f _ g,rest⟩
theorem lit_of {h h':Heap}{I L:Addr}{i:Nat}(x:h.IsListIter I L i)(f:∀o,h.get? I=some o→h'.get? I=some o):h'.IsListIter I L i:=x12 x fun o g rest=>⟨o,f _ g,rest⟩
structure DIn (h₀:Heap)(s₁:Shared)(D I L:Addr)(i:Nat)(acc:List (Str×V))(kvs:List (Str×Value))(s:Shared):Prop where
 r:RVKs h₀ kvs acc
 hD:s.heap.DictOf (strKind pw w) D kvs
 hI:s.heap.IsListIter I L i
 keep:∀b o,h₀.get? b=some o→s.heap.get? b=some o
 sm:Sm s₁ s
theorem dput_le {acc:List (Str×V)}{k:Str}{v:V}:(dput acc k v).length≤acc.length+1:=by
 unfold dput;split<;>simp
theorem dict_loop {h₀:Heap}{s₁:Shared}{D I L:Addr}{vs:List Value}{m:Nat}{es:List (Str×V)}{A:Around}{R:Result→Shared→Prop}(hh:A.handled=none)(nD:h₀.get? D=none)(nI:h₀.get? I=none)(hDI:D≠I)
  (hL:h₀.get? L=some {cls:= .type "list",data:= .seq vs.toArray m}) (rv:RVs h₀ vs (es.map pairV)) (hz:es.length≤1000)
  (hR:∀s' kvs,(∀b o,h₀.get? b=some o→s'.heap.get? b=some o)→s'.heap.DictOf (strKind pw w) D kvs→RVKs h₀ kvs (dmerge es)→Sm s₁ s'→R (.ok (.ret .none)) s'):
  ∀(n i:Nat) (acc:List (Str×V)) (kvs:List (Str×Value)) (s:Shared),es.length-i≤n→i≤es.length→acc.length≤i→dmerge es=(es.drop i).foldl (fun acc kv=>dput acc kv.1 kv.2) acc→DIn h₀ s₁ D I L i acc kvs s→codeAny MM A (.builtin "dict.update.loop" ⟨[.ref D,.ref I,rawInt i,.none],[]⟩) R s:=by
 have hlen:vs.length=es.length:=by rw[rv.length,List.length_map]
 have lst:∀{h:Heap},(∀b o,h₀.get? b=some o→h.get? b=some o)→h.IsList L vs.toArray:=fun k=>⟨_,k _ _ hL,rfl,_,rfl⟩
 have fin:∀(i:Nat) (acc:List (Str×V)) (kvs:List (Str×Value)) (s:Shared),i=es.length→dmerge es=(es.drop i).foldl (fun acc kv=>dput acc kv.1 kv.2) acc→DIn h₀ s₁ D I L i acc kvs s→codeAny MM A (.builtin "dict.update.loop" ⟨[.ref D,.ref I,rawInt i,.none],[]⟩) R s:=by
  intro i acc kvs s hie he c
  refine codeAny_builtin entry_dict_loop ?_
  rw[Around.under_plainId plain_dict_loop _]
  refine vB (wpAny_pyNext_list_end hh c.hI (lst c.keep) (by simp[hlen,hie]) fun h' hb=> ?_)
  refine vB (vP (vP (hR _ kvs (fun b o e=>hb b o (fun z=>nS ((z▸nI).symm.trans e)) (c.keep b o e)) (dict_of c.hD fun o=>hb _ o hDI) ?_ ⟨c.sm.os,c.sm.gens⟩)))
  rw[he,hie,List.drop_length];exact c.r
 intro n
 induction n with
 |zero=>intro i acc kvs s hn hi ha he c;exact fin i acc kvs s (Nat.le_antisymm hi (Nat.le_of_sub_eq_zero (Nat.le_zero.mp hn))) he c
 |succ n ih=>
  intro i acc kvs s hn hi ha he c
  by_cases hlt:i<es.length
  ·have hx:(es.map pairV)[i]? =some (pairV es[i]):=by rw[List.getElem?_map,List.getElem?_eq_getElem hlt];rfl
   refine x12 (rv.get hx) fun v hv rvi=> ?_
   refine x43 (pair_inv rvi) fun T k tk u ev et r2=> ?_
   subst ev
   refine codeAny_builtin entry_dict_loop ?_
   rw[Around.under_plainId plain_dict_loop _]
   refine vB (wpAny_pyNext_list_item c.hI (lst c.keep) (x:= .ref T) (by simpa using hv) fun h₁ hI₁ hs₁=> ?_)
   have keep₁:∀b o,h₀.get? b=some o→h₁.get? b=some o:=fun b o e=>hs₁.extBut b o (fun z=>nS ((z▸nI).symm.trans e)) (c.keep b o e)
   refine vB (wpAny_holding (vB (wpAny_tryCatch ?_)))
   unfold Builtin.Dict.pairItems
   refine vB (wpAny_typeOf (T:="tuple") ⟨_,keep₁ _ _ et,rfl⟩ ?_)
   rw[if_pos (by decide)]
   refine vB (wpAny_seqItems (keep₁ _ _ et) rfl (vP (wpAny_holding (wpAny_dictSet_pairs (strKind_is _ _ _ _) (dict_of c.hD fun o=>hs₁.extBut _ o hDI) (fun h₂ hD₂ hs₂=> ?_) (le_lineZ (by rw[c.r.length];exact nT ha (nT hi (lt3 hz))))))))
   exact vP ⟨plainId_quiet plain_dict_loop _,ih (i+1) (dput acc es[i].1 es[i].2) _ _ (by lia) hlt (nT dput_le (Nat.succ_le_succ ha)) (by rw[he,List.drop_eq_getElem_cons hlt];rfl)
    ⟨c.r.put r2,hD₂,lit_of hI₁ fun o=>hs₂.extBut _ o hDI.symm,fun b o e=>hs₂.extBut b o (fun z=>nS ((z▸nD).symm.trans e)) (keep₁ b o e),⟨c.sm.os,c.sm.gens⟩⟩⟩
  ·exact fin i acc kvs s (Nat.le_antisymm hi (Nat.le_of_not_lt hlt)) he c
theorem C_dict_pairs {a:Addr}{es:List (Str×V)}{Q:V→Sto→Prop}(hm:B.get? sysModules≠none)(ha:σ a=some (.list (es.map pairV)))(hz:es.length≤1000)(q:∀c,σ c=none→Q (.ref c) (σ.put c (.dict (dmerge es)))):CallV d (.ty "dict") [.ref a] σ Q:=
 fun A s fv vs R S rf rs=>by
  w_dflts rf
  refine RVs.consE rs fun _ _ r0 rs=> ?_
  w_dflts r0;w_dflts rs
  refine x22 ((S.obj _ _ ha).plain) fun us m p rr=> ?_
  refine callType_codes (Q₁:=fun obj s₁=>obj= .ref s.heap.objs.size∧s₁={s with heap:=s.heap.push {cls:= .type "dict",data:= .dict #[]}}) F.kt_called_dict (F.kt_typeCall_dict_1 _) F.entry_dict_init (kt_code_dict_new _ ⟨rfl,rfl⟩) ?_
  rintro obj s₁ ⟨rfl,rfl⟩
  have hnew:(s.heap.push {cls:= .type "dict",data:= .dict #[]}).DictOf (strKind pw w) s.heap.objs.size []:=Heap.DictOf.new s.heap
  have nD:=get_size s.heap
  generalize hDe:s.heap.objs.size=D at hnew nD⊢
  have k1:∀b o,s.heap.get? b=some o→(s.heap.push {cls:= .type "dict",data:= .dict #[]}).get? b=some o:=aN _
  generalize hH:s.heap.push {cls:= .type "dict",data:= .dict #[]}=H at hnew k1⊢
  refine⟨hnew.typeIs,F.args_dict_init_2 _ _,?_⟩
  unfold Builtin.«dict.__init__»
  refine vB ?_
  unfold Builtin.Dict.selfAndRest
  refine vB (wpAny_notOrdered_dict hnew.typeIs ?_)
  refine vP ?_
  show wpAny _ _ (Builtin.Dict.updateFrom "dict.__init__" D (.ref a) [] .none) _ _ _
  unfold Builtin.Dict.updateFrom
  have hT:Shared.TypeIs {s with heap:=H} (.ref a) "list":=⟨_,k1 _ _ p,rfl⟩
  refine vB (wpAny_typeOf hT ?_)
  rw[if_pos (by decide)]
  refine vB (list_keys R.hd (k1 _ _ p) fun s₂ k2 sm=> ?_)
  simp only[Option.isNone_none,if_true]
  refine vB (wpAny_rule ?_)
  have k12:∀b o,s.heap.get? b=some o→s₂.heap.get? b=some o:=fun b o e=>k2 b o (k1 b o e)
  refine vB (wpAny_pyIter_list ⟨_,k12 _ _ p,rfl,_,rfl⟩ ?_)
  have k3:∀b o,s₂.heap.get? b=some o→(s₂.heap.push {cls:= .type "list_iterator",data:= .fields #[.ref a,.int 0 0]}).get? b=some o:=aN _
  have gI:(s₂.heap.push {cls:= .type "list_iterator",data:= .fields #[.ref a,.int 0 0]}).IsListIter s₂.heap.objs.size a 0:=⟨_,Heap.get?_push_size _ rfl,rfl,rfl⟩
  have nI₂:=get_size s₂.heap
  generalize hIe:s₂.heap.objs.size=I at gI nI₂⊢
  have nI:s.heap.get? I=none:=by
   induction q:s.heap.get? I using Option.casesOn with
   |none=>rfl
   |some o=>rw[k12 _ _ q] at nI₂;exact nS' nI₂
  have hD₂:s₂.heap.DictOf (strKind pw w) D []:=dict_of hnew fun o=>k2 _ o
  have hDI:D≠I:=by
   rintro rfl
   refine x32 hD₂ fun o es' ep g rest=> ?_
   rw[g] at nI₂;exact nS' nI₂
  have hD₃:(s₂.heap.push {cls:= .type "list_iterator",data:= .fields #[.ref a,.int 0 0]}).DictOf (strKind pw w) D []:=dict_of hD₂ fun o=>k3 _ o
  refine vP ⟨plainId_quiet plain_dict_loop _,dict_loop (A:=A.in1) (h₀:=s.heap) (s₁:=s) (show A.in1.handled=none from R.hd) nD nI hDI p rr hz (fun s' kvs k' hD' r' sm'=> ?_) es.length 0 [] [] _ (Nat.sub_le _ _) (Nat.zero_le _) (Nat.zero_le _) rfl ⟨.nil,hD₃,gI,fun b o e=>k3 b o (k12 b o e),⟨sm.os,sm.gens⟩⟩⟩
  refine⟨rfl,out_new (ao:= .dict (dmerge es)) S k' nD ⟨?_,kvs,hD',r'.mono fun b o e _=>k' b o e⟩ q rfl sm'.os sm'.gens⟩
  rw[←hDe];exact fresh_low hm S
end
noncomputable abbrev anyK:K:= .name .nAny []
noncomputable def psT:N→List (X×K×K)
 | .nAbstractArray| .nArray| .nSubArray=> [(.T0,.bot,anyK),(.N0,.bot,anyK)]
 | .nAbstractRange| .nUnitRange| .nStepRange| .nRef=> [(.T0,.bot,anyK)]
 | .nRational=> [(.T0,.bot,.name .nInteger [])]
 |_=> []
noncomputable def supT:N→Option K
 | .nAny=>none
 | .nReal=>some (nK .nNumber)
 | .nInteger| .nRational=>some (nK .nReal)
 | .nSigned| .nUnsigned| .nBool=>some (nK .nInteger)
 | .nInt8| .nInt16| .nInt32| .nInt64| .nBigInt=>some (nK .nSigned)
 | .nUInt8| .nUInt16| .nUInt32| .nUInt64=>some (nK .nUnsigned)
 | .nChar=>some (nK .nAbstractChar)
 | .nString=>some (nK .nAbstractString)
 | .nDivideError| .nInexactError| .nTypeError| .nStackOverflowError| .nArgumentError| .nOverflowError| .nDimensionMismatch| .nErrorException| .nMethodError| .nAmbiguousError| .nUndefVarError| .nBoundsError=>some (nK .nException)
 | .nArray| .nSubArray=>some (.name .nAbstractArray [.var .T0,.var .N0])
 | .nAbstractRange=>some (.name .nAbstractArray [.var .T0,.num 1])
 | .nUnitRange| .nStepRange=>some (.name .nAbstractRange [.var .T0])
 |_=>some anyK
noncomputable def absT:N→Bool
 | .nAny| .nType| .nFunction| .nNumber| .nAbstractChar| .nAbstractString| .nException| .nReal| .nInteger| .nSigned| .nUnsigned| .nAbstractArray| .nAbstractRange=>true
 |_=>false
noncomputable def dcT (n:N):Option Dc:=some ⟨psT n,(match supT n with|some k=>k.v|none=> .none),absT n⟩
noncomputable def tbOf (ps:List (X×K×K)) (ks:List K):X→Option K:=fun x=>((ps.map (·.1)).zip ks).lookup x
noncomputable def supK:K→Option K
 | .name n ps=>if K.name n ps=anyK then some anyK else match supT n with
  |none=>none
  |some k=>k.sub (tbOf (psT n) ps)
 |_=>none
noncomputable def supsK:Nat→K→Option (List K)
 |0,_=>none
 |m+1,k=>if k=anyK then some [k] else(supK k).bind fun k'=>(supsK m k').map (k:: ·)
theorem dmerge_nodup:∀(l:List (Str×V)),(l.map (·.1)).Nodup→dmerge l=l:=by
 have gen:∀(l acc:List (Str×V)),((acc++l).map (·.1)).Nodup→l.foldl (fun a kv=>dput a kv.1 kv.2) acc=acc++l:=by
  intro l
  induction l with
  |nil=>intro acc _;simp
  |cons p l ih=>
   intro acc h
   have hp:(acc.any fun kv=>kv.1=p.1)=false:=by
    rw[List.any_eq_false]
    intro q hq e
    have e:q.1=p.1:=by simpa using e
    rw[List.map_append,List.nodup_append] at h
    exact h.2.2 q.1 (List.mem_map_of_mem hq) p.1 (by simp) e
   have e1:dput acc p.1 p.2=acc++ [p]:=by unfold dput;rw[hp];simp
   rw[List.foldl_cons,e1,ih _ (by simpa using h)]
   simp
 intro l h
 exact gen l [] (by simpa using h)
noncomputable def tbL (ps:List (X×K×K)) (ks:List K):List (Str×V):=(((ps.map (·.1)).zip ks).map fun p=>(p.1.s,p.2.v))
theorem zOut_rows {i1 i2 i3 i4:Pos}{k:Nat}{ps:List (X×K×K)}:∀{ks:List K},ZO "row" "param" [.Subscript (.Name "row" i1) (.Constant (.int 0) k i2) i3,.Name "param" i4] (ps.map bV) (K.vs ks) ((tbL ps ks).map pairV):=by
 induction ps with
 |nil=>exact .nil (.inl rfl)
 |cons p ps ih=>
  intro ks
  induction ks using List.casesOn with
  |nil=>exact .nil (.inr rfl)
  |cons k ks=>exact .cons (.cons (.item _ _ _ _ _ _ rfl) (.cons (.snd _) .nil)) ih
theorem look_tb:∀(l:List (X×K)) (x:X),dget (l.map fun p=>(p.1.s,p.2.v)) x.s=(l.lookup x).map K.v
 | [],x=>rfl
 |(y,k)::l,x=>by
  rw[List.map_cons,dget_cons,look_tb l x,List.lookup_cons]
  by_cases h:y=x
  ·subst h;simp
  ·have h1:¬y.s=x.s:=fun e=>h (X.inj e)
   have h2:(x==y)=false:=by simpa using fun e=>h e.symm
   rw[if_neg h1,h2]
theorem tbL_tb {ps:List (X×K×K)}{ks:List K}(h:(ps.map (·.1)).Nodup):Tb (dmerge (tbL ps ks)) (tbOf ps ks):=by
 have hn:((tbL ps ks).map (·.1)).Nodup:=by
  have e:(tbL ps ks).map (·.1)=(((ps.map (·.1)).zip ks).map (·.1)).map X.s:=by simp[tbL]
  rw[e]
  have sub:(((ps.map (·.1)).zip ks).map (·.1)).Nodup:=by
   have:∀(xs:List X) (ks:List K),xs.Nodup→((xs.zip ks).map (·.1)).Nodup:=by
    intro xs
    induction xs with
    |nil=>intro ks _;simp
    |cons x xs ih=>
     intro ks h
     induction ks using List.casesOn with
     |nil=>simp
     |cons k ks=>
      simp only[List.zip_cons_cons,List.map_cons]
      have h':=List.nodup_cons.mp h
      refine List.nodup_cons.mpr ⟨fun hm=>h'.1 ?_,ih ks h'.2⟩
      refine x12 (List.mem_map.mp hm) fun p hp e=> ?_
      subst e
      exact(List.of_mem_zip hp).1
   exact this _ _ h
  exact List.Pairwise.map _ (fun a b n e=>n (X.inj e)) sub
 rw[dmerge_nodup _ hn]
 exact fun x=>look_tb _ x
theorem psT_nodup (n:N):((psT n).map (·.1)).Nodup:=by induction n using N.casesOn<;>decide
theorem psT_len (n:N):(psT n).length≤2:=by induction n using N.casesOn<;>decide
section
variable {σ:Sto}
theorem c_table_for {a:Addr}{n:N}{c:Dc}{ks:List K}{Q:V→Sto→Prop}(h:DcAt σ a n c)(hnd:(c.ps.map (·.1)).Nodup)(hl:c.ps.length≤100)
  (q:∀r es,σ r=none→Tb es (tbOf c.ps ks)→es.length≤100→Q (.ref r) (σ.put r (.dict es))):CallT (d+1) (.ref 453) [.ref a,.tup (K.vs ks)] σ Q:=by
 refine x43 h fun da lp lf mu d1 d2 d3=> ?_
 refine CallT.forget (aG b.f_Decl_table_for_2 rfl dkk dkk ?_)
 w_fin
 refine TE_zipc rfl dkk dkk dkk dkk (by decide) ?_
 w_fin
 refine aL d1 d2 b.n_Decl_params (by rfl) (by rfl) ?_
 w_fin
 refine⟨Kp_ty _,rfl,_,_,_,_,_,rfl,.list d3,.tup,by simp;exact lt3 hl,zOut_rows,fun c₁ hc₁=> ?_⟩
 w_fin
 have hlen:(tbL c.ps ks).length≤100:=by simp[tbL];exact l_min hl
 refine(C_dict_pairs b.low sps (lt3 hlen) fun c₂ hc₂=> ?_)
 w_fin
 have h2:=none_put hc₂
 have hdl:(dmerge (tbL c.ps ks)).length≤100:=by
  have:∀(l acc:List (Str×V)),(l.foldl (fun a kv=>dput a kv.1 kv.2) acc).length≤acc.length+l.length:=by
   intro l
   induction l with
   |nil=>intro acc;simp
   |cons p l ih=>
    intro acc
    rw[List.foldl_cons]
    refine nT (ih _) ?_
    w_fin
    have:(dput acc p.1 p.2).length≤acc.length+1:=by unfold dput;split<;>simp
    simp;lia
  have:=this (tbL c.ps ks) []
  simp at this;unfold dmerge;lia
 refine⟨_,Sto.put_mono (aB hc₁ (.list ((tbL c.ps ks).map pairV))) c₂ (.dict (dmerge (tbL c.ps ks))),q c₂ _ h2.1 (tbL_tb hnd) hdl⟩
theorem supT_chk (n:N):(match supT n with|some k=>decide (k.dp≤2)&&decide (k.sz≤3)|none=>true)=true:=by induction n using N.casesOn<;>rfl
theorem supT_sz {n:N}{k:K}(h:supT n=some k):k.dp≤2∧k.sz≤3:=by
 have:=supT_chk n
 rw[h] at this
 have:=bA (show(decide (k.dp≤2)&&decide (k.sz≤3))=true from this)
 exact⟨oD this.1,oD this.2⟩
theorem supK_name (n:N)(ps:List K):supK (.name n ps)=if K.name n ps=anyK then some anyK else match supT n with|none=>none|some k=>k.sub (tbOf (psT n) ps):=rfl
theorem supK_is {k k':K}(h:supK k=some k'):∃n ps,k= .name n ps:=by
 induction k using K.casesOn<;>first|exact⟨_,_,rfl⟩|cases h
noncomputable def supW:Stmt:=nthS (aI (aJ 46 5)) 1
theorem c_super_of {x:Addr}{n:N}{ps:List K}{k':K}{Q:V→Sto→Prop}(h:KsAt σ x dcT)(hk:supK (.name n ps)=some k')(hz:(K.name n ps).dp≤100)(q:Q k'.v σ):CallT (d+9) (.ref 512) [.ref x,(K.name n ps).v] σ Q:=by
 refine CallT.forget (aG b.f_Kinds_super_of_2 rfl dkk dkk ?_)
 refine x34 (id h.it) fun dk r es h1 h2 h3 h4=> ?_
 w_fin
 refine T2_neS dkk ?_
 w_fin
 refine T2_eqK (b:=anyK) (l_min' (Nat.le_of_ble_eq_true rfl)) ?_
 w_fin
 by_cases ha:K.name n ps=anyK
 ·have e1:n= .nAny∧ps=[]:=by cases ha;exact⟨rfl,rfl⟩
  refine an2 e1 fun z1 z2=> ?_;clear e1;subst z1;subst z2
  rw[supK_name,if_pos rfl] at hk
  replace hk:=sI hk;subst hk
  rw[show decide (K.name .nAny []=anyK)=true by simp]
  w_fin
  exact⟨_,aQ _,q⟩
 ·rw[show decide (K.name n ps=anyK)=false by simp[ha]]
  w_fin
  refine Ml_own h1 h2 b.m_Kinds_decl (by rfl) ?_
  w_fin
  refine((c_decl h (n:=n) rfl fun a hd=> ?_).v.le (l_d))
  w_fin
  rw[supK_name,if_neg ha] at hk
  induction hs:supT n using Option.casesOn with
  |none=>rw[hs] at hk;exact nS hk
  |some k=>
   rw[hs] at hk
   refine x43 (id hd) fun da lp lf mu d1 d2 d3=> ?_
   rw[hs] at d2
   refine aL d1 d2 b.n_Decl_super (by rfl) (K.noBi k) ?_
   w_fin
   refine Ml_own d1 d2 b.m_Decl_table_for (by rfl) ?_
   w_fin
   refine((c_table_for hd (psT_nodup n) (nT (psT_len n) (by decide)) fun r es hr ht hl=> ?_).v.le (l_d))
   w_fin
   have hsz:=supT_sz hs
   refine(((c_substituted (d:=d) 2 hsz.1 (lt3 hsz.2) hk ht (lt3 hl) sps ?_).v.le (by omega)))
   w_fin
   exact⟨_,aB hr _,q⟩
set_option tactic.hygienic true in
theorem sup_loop {x:Addr}{σ₀:Sto}{af:Addr}{Q:Fl→Loc→Sto→Prop}(h:KsAt σ₀ x dcT)(hf0:σ₀ af=none):∀(m:Nat) (k:K) (l:List K) (acc:List V) (ρ:Loc) (σ:Sto),supsK m k=some l→(∀k∈l,k.dp≤90)→acc.length+m≤1000→
  ρ "self"=some (.ref x)→ρ "found"=some (.ref af)→σ₀.le σ→σ af=some (.list (acc++ [k.v]))→
  (∀ρ' σ',ρ' "found"=some (.ref af)→σ₀.le σ'→σ' af=some (.list (acc++K.vs l))→Q .next ρ' σ')→
  TWh (d+9) (aH (aJ 46 5)) (stTest supW) (aI supW) ρ σ Q:=by
 intro m
 induction m with
 |zero=>intro k l acc ρ σ hs;cases hs
 |succ m ih=>
  intro k l acc ρ σ hs hd hm r1 r2 hle sf q
  refine x34 ((h.mono hle).it) fun dk r es h1 h2 h3 h4=> ?_
  have hk90:k.dp≤90:=iteE (show(if k=anyK then some [k] else _)=some l from hs) (fun _ h=>hd k (sI h▸ .head _)) fun _ h=>bE h fun _ _ h=>mE h fun _ _ e=>hd k (e▸ .head _)
  refine TWh_step ?_
  got_up
  refine T2_item_last sf ?_
  got_up
  refine T2_neK (b:=anyK) (l_min (lt3 hk90)) ?_
  got_up
  refine iteE (show(if k=anyK then some [k] else _)=some l from hs) (fun ha hs=> ?_) fun ha hs=> ?_
  ·replace hs:=sI hs;subst hs
   rw[show decide (k≠anyK)=false by simp[ha]]
   exact q _ _ r2 hle (by rw[sf];rfl)
  ·refine bE hs fun k' hk' hs=>mE hs fun l' hl' e=> ?_
   ·subst e
    rw[show decide (k≠anyK)=true by simp[ha]]
    refine x21 (supK_is hk') fun n ps z3=> ?_;subst z3
    got_up
    refine Ml_bi (GM_append sf) ?_
    got_up
    refine Ml_own h1 h2 b.m_Kinds_super_of (by rfl) ?_
    got_up
    refine T2_item_last sf ?_
    got_up
    refine(c_super_of (h.mono hle) hk' (lt3 hk90) ?_).v
    got_up
    refine C_append sf (aK (by simp;exact lt3 (l_al hm))) ⟨rfl,?_⟩
    got_up
    refine ih k' l' (acc++ [(K.name n ps).v]) _ _ hl' (fun k hk=>hd k (.tail _ hk)) (by simp;omega) r1 r2 (aR hle hf0 _) sps fun ρ' σ' a1 a2 a3=>q ρ' σ' a1 a2 (by rw[a3];simp[K.vs])
theorem c_supers {x:Addr}{m:Nat}{k:K}{l:List K}{Q:V→Sto→Prop}(h:KsAt σ x dcT)(hs:supsK m k=some l)(hd:∀k∈l,k.dp≤90)(hm:m≤900)(q:∀c,σ c=none→Q (.ref c) (σ.put c (.list (K.vs l)))):CallT (d+10) (.ref 519) [.ref x,k.v] σ Q:=by
 refine CallT.forget (aG b.f_Kinds_supers_2 rfl dkk dkk ?_)
 got_up
 refine fun af hf=> ?_
 got_up
 refine TS_while (sup_loop (σ₀:=σ) (af:=af) h hf m k l [] _ _ hs hd (by simp;exact lt3 hm) (by rfl) (by rfl) (aB hf _) sps fun ρ' σ' a1 a2 a3=> ?_)
 got_up
 exact⟨_,Sto.put_le a2 (by simpa using a3),q af hf⟩
noncomputable def zipS:List K→List K→List G
 | [],_=> []
 |a::l,m=>match m with
  | []=> []
  |b::m=>⟨true,a,b⟩::zipS l m
noncomputable def m_nom:List K→N→List K→List (List G)
 | [],_,_=> []
 |k::l,n,ps=>k.nmE [] fun m qs=>if m=n then[zipS qs ps] else m_nom l n ps
noncomputable def m_nominal (a:K) (n:N) (ps:List K):Option (List (List G)):=(supsK 9 a).map fun l=>m_nom l n ps
theorem zOut_same {i1 i2 i3:Pos}{k:Nat}{xs:List K}:∀{ys:List K},ZO "param" "wanted" [.Constant (.str "same") k i1,.Name "param" i2,.Name "wanted" i3] (K.vs xs) (K.vs ys) ((zipS xs ys).map gV):=by
 induction xs with
 |nil=>exact .nil (.inl rfl)
 |cons p ps ih=>
  intro ys
  induction ys using List.casesOn with
  |nil=>exact .nil (.inr rfl)
  |cons k ks=>exact .cons (.cons (.str _ _ _) (.cons (.fst _) (.cons (.snd _) .nil))) ih
set_option tactic.hygienic true in
theorem supsK_names:∀{m:Nat} {k:K} {l:List K},supsK m k=some l→(∃n ps,k= .name n ps)→∀y∈l,∃n ps,y= .name n ps
 |0,_,_,h,_=>by cases h
 |m+1,k,l,h,hk=>by
  refine iteE (show(if k=anyK then some [k] else _)=some l from h) (fun _ h=> ?_) fun _ h=>bE h fun k' h1 h=>mE h fun l' h2 e=> ?_
  ·replace h:=sI h;subst h;intro y hy;cases hy with
   |head=>exact hk
   |tail _ hy=>cases hy
  ·subst e
   intro y hy
   cases hy with
   |head=>exact hk
   |tail _ hy=>
    refine supsK_names h2 ?_ y hy
    induction m using Nat.casesAuxOn with
    |zero=>cases h2
    |succ m=>exact iteE (show(if k'=anyK then some [k'] else _)=some l' from h2) (fun e _=>⟨_,_,e⟩) fun _ h=>bE h fun _ h3 _=>supK_is h3
inductive NoI (n:N)(ps l:List K)(ws:List (List G))(σ1:Sto)(l':List K)(ρ:Loc)(σ:Sto):Prop
 |mk (e:σ=σ1) (r1:ρ "other"=some (K.name n ps).v) (h5:∀y∈l',y∈l) (m:m_nom l' n ps=ws)
theorem c_nominal {x xk:Addr}{fuel:Int}{a:K}{n:N}{ps:List K}{ws:List (List G)}{Q:V→Sto→Prop}(h:SeAt σ x xk fuel)(hk:KsAt σ xk dcT)(ha:∃m qs,a= .name m qs)(hd:a.dp≤80)(hw:m_nominal a n ps=some ws)
  (hsz:∀l,supsK 9 a=some l→∀k∈l,k.dp≤90∧k.sz≤1000) (q:∀r σ',σ.le σ'→WaysAt σ' r ws→Q (.ref r) σ'):CallT (d+11) (.ref 330) [.ref x,a.v,(K.name n ps).v] σ Q:=by
 refine x12 (id h) fun ds s1 s2=> ?_
 refine x12 (Option.map_eq_some_iff.mp hw) fun l hl e=> ?_
 have hns:=supsK_names hl ha
 have hsz:=hsz l hl
 refine aG b.f_Search_nominal_3 rfl dkk dkk ?_
 refine TS_cons (TS_for ?_)
 got_up
 refine aL s1 s2 b.n_Search_kinds (by rfl) (by rfl) ?_
 got_up
 refine x34 (id hk.it) fun dk r es h1 h2 h3 h4=> ?_
 refine Ml_own h1 h2 b.m_Kinds_supers (by rfl) ?_
 got_up
 refine(c_supers hk hl (fun k hk=>(hsz k hk).1) (by decide) fun c hc=> ?_).v
 got_up
 refine kSrc.i (.list sps) ?_
 got_up
 refine TFor_rec (f:=K.v) (NoI n ps l ws (σ.put c (.list (K.vs l)))) (fun σ'=>σ'=σ.put c (.list (K.vs l))) (fun _ _ _ h=>h.casesOn fun e _ _ _=>e) ?_ ?_ (l:=l) (K.vs_map l) (fun σ' e=>e▸aA _ _ _) ⟨rfl,by rfl,fun _ h=>h,e⟩
 ·intro k l' ρ' σ' hI
  refine hI.casesOn fun e r1 h5 e2=> ?_
  subst e
  clear hI
  refine x21 (hns k (h5 k (.head _))) fun m qs z3=> ?_;subst z3
  have hkz:=hsz _ (h5 _ (.head _))
  replace e2:(if m=n then[zipS qs ps] else m_nom l' n ps)=ws:=e2
  got_up
  refine T2_eq (r:=decide (m=n)) (by rw[decide_eq_true_iff];exact⟨fun e=>by rw[e],fun e=>N.inj (by injection e)⟩) m.ok n.ok (Nat.zero_le _) ?_
  got_up
  by_cases hm:m=n
  ·rw[if_pos hm] at e2
   rw[show decide (m=n)=true by simp[hm]]
   subst e2
   got_up
   refine TE_zipc rfl dkk dkk dkk dkk (by decide) ?_
   got_up
   refine⟨Kp_ty _,rfl,_,_,_,_,_,rfl,.tup,.tup,?_,zOut_same,fun c₁ hc₁=> ?_⟩
   ·have:=K.szs_len qs
    rw[aO];exact nT this (nT (Nat.le_of_succ_le hkz.2) (by decide))
   got_up
   refine fun c₂ hc₂=> ?_
   got_up
   have l1:=aC (y:= .list [.ref c₁]) (aA (σ.put c (.list (K.vs l))) c₁ (.list ((zipS qs ps).map gV))) hc₂
   exact q c₂ _ (aE (aE (aB hc _) hc₁ _) hc₂ _) ⟨[c₁],aA _ _ _,l1,trivial⟩
  ·rw[if_neg hm] at e2
   rw[show decide (m=n)=false by simp[hm]]
   got_up
   exact⟨rfl,r1,fun y hy=>h5 y (.tail _ hy),e2⟩
 ·intro ρ' σ' hI
  refine hI.casesOn fun e _ _ e2=> ?_
  subst e
  clear hI
  subst e2
  got_up
  refine fun c₂ hc₂=> ?_
  got_up
  exact q c₂ _ (aE (aB hc _) hc₂ _) ⟨[],aA _ _ _,trivial⟩
noncomputable abbrev Wys:=List (List G)
noncomputable def K.isNum:K→Bool
 | .num _=>true
 | .name _ _=>false
 | .tup _=>false
 | .union _=>false
 | .all _ _ _ _=>false
 | .typ _=>false
 | .bot=>false
 | .var _=>false
noncomputable def fvAsked (k:K) (S:Ss):Bool:=(k.fv [] []).all fun z=>match rget S.rows z with|some t=>t.asked|none=>false
noncomputable def Sd.fits (s:Sd):Bool:=s.asked&&decide (s.lo.length≤500)&&decide (s.up.length≤500)
noncomputable def K.fits (k:K):Bool:=decide (k.sz≤100)&&decide (k.dp≤10)
noncomputable def supsOk (a:K):Bool:=match supsK 9 a with
 |some l=>l.all fun k=>decide (k.dp≤90)&&decide (k.sz≤1000)
 |none=>false
noncomputable def m_open (a:K) (y:X) (lo up bd:K) (S:Ss):Option (Wys×Ss):=
 if lo= .bot then(y.fresh (S.many+1)).bind fun f=>(bd.diag y).bind fun dg=>(bd.sub (one y (.var f))).bind fun bd'=>
  if S.rows.length≤50 then some ([[⟨false,a,bd'⟩]],⟨rput S.rows f (sdOf true (S.many+1) .bot up dg),S.many+1⟩) else none
 else none
noncomputable def m_form (a b:K) (S:Ss):Option (Wys×Ss):=match b with
 | .union ks=>match a with
  | .name .. =>some (ks.map fun p=> [⟨false,a,p⟩],S)
  |_=>none
 | .all y lo up bd=>match a with
  | .tup _=>m_open a y lo up bd S
  |_=>none
 | .name n ps=>match a with
  | .name .. =>if supsOk a then(m_nominal a n ps).map fun ws=>(ws,S) else none
  |_=>none
 | .tup ks'=>match a with
  | .tup ks=>some (m_tuple_ways ks ks',S)
  |_=>none
 | .typ k'=>match a with
  | .typ k=>some ([[⟨true,k,k'⟩]],S)
  |_=>none
 |_=>none
noncomputable def m_other (a b:K) (S:Ss):Option (Wys×Ss):=match b.varOf with
 |some y=>(rget S.rows y).bind fun s=>if s.fits&&fvAsked a S then some (m_above S y s a) else none
 |none=>m_form a b S
noncomputable def m_abv (a b:K) (S:Ss):Option (Wys×Ss):=match a.varOf with
 |some x=>(rget S.rows x).bind fun s=>if s.fits&&fvAsked b S then some (m_below S x s b) else none
 |none=>m_other a b S
noncomputable def m_st3 (a b:K) (S:Ss):Option (Wys×Ss):=if a.emp||decide (b=anyK) then some ([[]],S) else m_abv a b S
noncomputable def m_st2 (g:G) (S:Ss):Option (Wys×Ss):=match g.same with
 |true=>some ([[⟨false,g.a,g.b⟩,⟨false,g.b,g.a⟩]],S)
 |false=>m_st3 g.a g.b S
noncomputable def m_st1 (g:G) (S:Ss):Option (Wys×Ss):=if g.a=g.b then some ([[]],S) else if g.a.isNum||g.b.isNum then none else m_st2 g S
noncomputable def m_step (g:G) (S:Ss):Option (Wys×Ss):=if g.a.fits&&g.b.fits then m_st1 g S else none
theorem fvAsked_is {k:K}{S:Ss}(h:fvAsked k S=true):∀z∈k.fv [] [],∃t,rget S.rows z=some t∧t.asked=true:=fun z hz=>by
 have:=lA h z hz
 induction e:rget S.rows z using Option.casesOn with
 |none=>rw[e] at this;exact nB this
 |some t=>rw[e] at this;exact⟨t,rfl,this⟩
theorem LsAt.mono {σ σ':Sto}(l:σ.le σ'):∀{as:List Addr} {gs:Wys},LsAt σ as gs→LsAt σ' as gs
 | [],[],_=>trivial
 |_::_,_::_,⟨h,r⟩=>⟨l _ _ h,LsAt.mono l r⟩
theorem LsAt.snoc {σ:Sto}{a:Addr}{g:List G}(h:σ a=some (.list (g.map gV))):∀{as:List Addr} {gs:Wys},LsAt σ as gs→LsAt σ (as++ [a]) (gs++ [g])
 | [],[],_=>⟨h,trivial⟩
 |_::_,_::_,⟨h',r⟩=>⟨h',LsAt.snoc h r⟩
theorem LsAt.len {σ:Sto}:∀{as:List Addr} {gs:Wys},LsAt σ as gs→as.length=gs.length
 | [],[],_=>rfl
 |_::_,_::_,⟨_,r⟩=>by simp[r.len]
inductive FuI (n:N)(ps ks:List K)(σ0:Sto)(td:List K)(acc:List V)(σ:Sto):Prop
 |mk (l:σ0.le σ) (dn:List K) (as:List Addr) (ea:acc=as.map V.ref) (h:LsAt σ as (dn.map fun p=> [⟨false,.name n ps,p⟩])) (e:dn++td=ks)
theorem c_form_union {x xs_:Addr}{n:N}{ps ks:List K}{Q:V→Sto→Prop}(hz:ks.length≤1000)(q:∀a σ',σ.le σ'→WaysAt σ' a (ks.map fun p=> [⟨false,.name n ps,p⟩])→Q (.ref a) σ'):
  CallT (d+2) (.ref 313) [.ref x,(K.name n ps).v,(K.union ks).v,.ref xs_] σ Q:=by
 refine aG b.f_Search_by_form_4 rfl dkk dkk ?_
 w_fin
 refine TS_compx (.inl dkk) rfl dkk ?_
 w_fin
 refine kSrc.i .tup ?_
 w_fin
 refine TCo_rec (f:=K.v) (FuI n ps ks σ) (fun _=>True) (fun ρ=>ρ "one"=some (K.name n ps).v) (fun k ρ=>ρ.put "part" k.v) rfl rfl (fun _ _ _ h=>h.casesOn fun _ dn as ea h e=>⟨trivial,by rw[ea,List.length_map,h.len,List.length_map,←List.length_append,e];exact lt3 hz⟩)
  (fun _ _ _=>TL_name dkk) (fun _ _ h=>h) ?_ ?_ (l:=ks) (K.vs_map ks) (fun _ _=>trivial) (by rfl) ⟨aQ _,[],[],rfl,trivial,rfl⟩
 ·intro p td acc σ' ρ h hj
  refine h.casesOn fun hle dn as ea hL e=> ?_
  clear h
  subst ea
  show TE _ _ _ _ _ _
  w_fin
  refine fun c hc=> ?_
  w_fin
  refine⟨aE hle hc _,dn++ [p],as++ [c],by rw[List.map_append];rfl,?_,by rw[List.append_assoc];exact e⟩
  rw[List.map_append]
  exact(hL.mono (aB hc _)).snoc (g:=[⟨false,.name n ps,p⟩]) sps
 ·intro acc ρ' σ' h
  refine h.casesOn fun hle dn as ea hL e=> ?_
  clear h
  rw[List.append_nil] at e
  subst ea;subst e
  intro a ha
  have h1:=aA σ' a (.list (as.map V.ref))
  have h2:=hL.mono (aB ha (.list (as.map V.ref)))
  have hl:=aE hle ha (.list (as.map V.ref))
  w_fin
  refine fun c hc=> ?_
  w_fin
  have hlen:=hL.len
  refine T2_add_list (aC h1 hc) sps (aK (by simp at hlen⊢;exact nT (Nat.le_of_eq hlen) (lt3 hz))) fun c₂ hc₂=> ?_
  w_fin
  refine q c₂ _ (aE (aE hl hc _) hc₂ _) ⟨as,by rw[aA];simp,h2.mono (aE (aB hc _) hc₂ _)⟩
theorem fits_is {k:K}(h:k.fits=true):k.sz≤100∧k.dp≤10:=by simpa[K.fits] using h
inductive PlV:K→K→Prop
 |nm (m:N) (qs:List K) (n:N) (ps:List K):PlV (.name m qs) (.name n ps)
 |tp (ks ks':List K):PlV (.tup ks) (.tup ks')
 |ty (t t':K):PlV (.typ t) (.typ t')
theorem PlV.wd {a k:K}(h:PlV a k):(wdOk a "union"=true∧wdOk a "all"=true∧wdOk a "var"=true)∧wdOk k "union"=true∧wdOk k "all"=true∧wdOk k "var"=true:=by
 cases h<;>exact⟨⟨by kernel_rfl,by kernel_rfl,by kernel_rfl⟩,by kernel_rfl,by kernel_rfl,by kernel_rfl⟩
theorem ok_pair {u v:Str}(h:(PyData.strOk u&&(PyData.strOk v&&true))=true):(V.tup [.str u,.str v]).gr=true:=h
theorem T2_eqW {d:Nat}{u v u' v':Str}{r:Bool}{Q:V→Sto→Prop}(e:decide (u=u'∧v=v')=r)(h1:(PyData.strOk u&&(PyData.strOk v&&true))=true)(h2:(PyData.strOk u'&&(PyData.strOk v'&&true))=true)(q:Q (.bool r) σ):T2 d (compareOp .Eq) (.tup [.str u,.str v]) (.tup [.str u',.str v']) σ Q:=
 T2_eq (r:=r) (by rw[←e,decide_eq_true_iff];exact⟨fun h=>by rw[h.1,h.2],fun h=>⟨V.str.inj (cI1 (V.tup.inj h)),V.str.inj (cI1 (cI2 (V.tup.inj h)))⟩⟩) (ok_pair h1) (ok_pair h2) (Nat.le_of_ble_eq_true rfl) q
theorem c_plain {x xk:Addr}{fuel:Int}{a k:K}{S S':Ss}{ws:Wys}{Q:V→Sto→Prop}(h:SeAt σ x xk fuel)(hk:KsAt σ xk dcT)(fa:a.fits=true)(fk:k.fits=true)(hpl:PlV a k)(hm:m_form a k S=some (ws,S'))
  (q:∀r σ',σ.le σ'→WaysAt σ' r ws→S'=S→Q (.ref r) σ'):CallT (d+12) (.ref 325) [.ref x,a.v,k.v] σ Q:=by
 refine x12 (id h) fun ds s1 s2=> ?_
 have fa:=fits_is fa
 have fk:=fits_is fk
 refine aG b.f_Search_plain_3 rfl dkk dkk ?_
 w_fin
 refine v_item0 a ?_
 w_fin
 refine v_item0 k ?_
 w_fin
 cases hpl with
 |nm m qs n ps=>
  refine iE hm fun hsup hm=>mE hm fun ws' h1 e=> ?_
  obtain rfl:=pI1 e
  replace e:=(pI2 e).symm
  refine T2_eqW (r:=true) (by kernel_rfl) (by kernel_rfl) (by kernel_rfl) ?_
  w_fin
  refine Ml_own s1 s2 b.m_Search_nominal (by rfl) ?_
  w_fin
  refine(c_nominal h hk ⟨m,qs,rfl⟩ (lt3 fa.2) h1 (fun l hl k hk=> ?_) fun r σ' h2 h3=> ?_).v
  ·unfold supsOk at hsup
   rw[hl] at hsup
   have:=lA hsup k hk
   exact⟨oD (bA this).1,oD (bA this).2⟩
  ·w_fin
   exact q r σ' h2 h3 e
 |tp ks ks'=>
  obtain rfl:=pI1 (sI hm)
  have e:=(pI2 (sI hm)).symm
  refine T2_eqW (r:=false) (by kernel_rfl) (by kernel_rfl) (by kernel_rfl) ?_
  w_fin
  refine T2_eqW (r:=true) (by kernel_rfl) (by kernel_rfl) (by kernel_rfl) ?_
  w_fin
  refine(((c_tuple_ways (nT (K.szs_len ks) (lt3 (Nat.le_of_succ_le fa.1))) (nT (K.szs_len ks') (lt3 (Nat.le_of_succ_le fk.1))) fun r σ' h2 h3=> ?_).v.le (l_d)))
  w_fin
  exact q r σ' h2 h3 e
 |ty t t'=>
  obtain rfl:=pI1 (sI hm)
  have e:=(pI2 (sI hm)).symm
  refine T2_eqW (r:=false) (by kernel_rfl) (by kernel_rfl) (by kernel_rfl) ?_
  w_fin
  refine T2_eqW (r:=false) (by kernel_rfl) (by kernel_rfl) (by kernel_rfl) ?_
  w_fin
  refine T2_eqW (r:=true) (by kernel_rfl) (by kernel_rfl) (by kernel_rfl) ?_
  w_fin
  refine fun c hc=> ?_
  w_fin
  refine fun c₂ hc₂=> ?_
  w_fin
  exact q c₂ _ (aE (aB hc _) hc₂ _) ⟨[c],aA _ _ _,aC sps hc₂,trivial⟩ e
theorem c_by_form {x xk xs_ dxs r:Addr}{fuel:Int}{a k:K}{S S':Ss}{ws:Wys}{Q:V→Sto→Prop}(h:SeAt σ x xk fuel)(hk:KsAt σ xk dcT)(hs:SsAt σ xs_ dxs r S)(fa:a.fits=true)(fk:k.fits=true)(hm:m_form a k S=some (ws,S'))
  (q:∀c σ',(∀c o,σ c=some o→c≠r→c≠dxs→σ' c=some o)→SsAt σ' xs_ dxs r S'→WaysAt σ' c ws→Q (.ref c) σ'):CallT (d+30) (.ref 313) [.ref x,a.v,k.v,.ref xs_] σ Q:=by
 refine x12 (id h) fun ds s1 s2=> ?_
 have fk':=fits_is fk
 have pl:PlV a k→CallT (d+30) (.ref 313) [.ref x,a.v,k.v,.ref xs_] σ Q:=fun hpl=>by
  have w:=hpl.wd
  refine aG b.f_Search_by_form_4 rfl dkk dkk ?_
  w_fin
  refine v_item0 a ?_
  w_fin
  refine T2_eqSf w.1.1 ?_
  w_fin
  refine v_item0 a ?_
  w_fin
  refine T2_eqSf w.1.2.1 ?_
  w_fin
  refine v_item0 k ?_
  w_fin
  refine T2_eqSf w.2.1 ?_
  w_fin
  refine v_item0 k ?_
  w_fin
  refine T2_eqSf w.2.2.1 ?_
  w_fin
  refine v_item0 a ?_
  w_fin
  refine T2_eqSf w.1.2.2 ?_
  w_fin
  refine v_item0 k ?_
  w_fin
  refine T2_eqSf w.2.2.2 ?_
  w_fin
  refine Ml_own s1 s2 b.m_Search_plain (by rfl) ?_
  w_fin
  refine(c_plain h hk fa fk hpl hm fun r σ' l1 l2 e=> ?_).v.le (l_d)
  w_fin
  exact q r σ' (fun c o e _ _=>l1 c o e) (e▸hs.mono l1) l2
 induction k using K.casesOn with
 |name n ps=>exact pl (by induction a using K.casesOn<;>first|exact .nm _ _ _ _|exact nS hm)
 |tup ks=>exact pl (by induction a using K.casesOn<;>first|exact .tp _ _|exact nS hm)
 |typ t=>exact pl (by induction a using K.casesOn<;>first|exact .ty _ _|exact nS hm)
 |union ks=>
  induction a using K.casesOn with
  |name n ps=>
   obtain rfl:=pI1 (sI hm)
   obtain rfl:=pI2 (sI hm)
   exact CallT.le (c_form_union (nT (K.szs_len ks) (lt3 (Nat.le_of_succ_le fk'.1))) fun r σ' l1 l2=>q r σ' (fun c o e _ _=>l1 c o e) (hs.mono l1) l2) (l_d)
  |_=>exact nS hm
 |all y lo up bd=>
  induction a using K.casesOn with
  |tup ks=>
   refine iE hm fun e0 hm=>bE hm fun f h1 hm=>bE hm fun dg h2 hm=>bE hm fun bd' h3 hm=>iE hm fun h4 e=> ?_
   subst e0
   obtain rfl:=pI1 (sI e)
   obtain rfl:=pI2 (sI e)
   refine aG b.f_Search_by_form_4 rfl dkk dkk ?_
   w_fin
   refine Ml_own s1 s2 b.m_Search_chosen (by rfl) ?_
   w_fin
   refine(c_chosen (xk:=xk) (fuel:=fuel) hs h1 (lt3 fk'.1) (m:=10) fk'.2 (by decide) h2 h3 h4 fun c σ' c1 c2 c3 c4=> ?_).v
   w_fin
   refine fun c₂ hc₂=> ?_
   w_fin
   have hle:=aB hc₂ (.list [.ref c])
   exact q c₂ _ (fun a o e n1 n2=>hle _ _ (c1 a o e n1 n2)) (c2.mono hle) ⟨[c],aA _ _ _,aC c4 hc₂,trivial⟩
  |_=>exact nS hm
 |_=>exact nS hm
theorem word_n {k:K}(h:k.isNum=false):V.str "n"≠V.str k.word:=by
 intro e
 have h2:(k.word==Str.ofString "n")=false:=by induction k using K.casesOn<;>first|exact nB h.symm|kernel_rfl
 rw[←V.str.inj e,beq_self_eq_true] at h2
 exact nB' h2
theorem word_ok (k:K):PyData.strOk k.word=true:=by induction k using K.casesOn<;>kernel_rfl
theorem T2_eqKK {d:Nat}{a b:K}{Q:V→Sto→Prop}(hd:min a.dp b.dp≤200)(t:a=b→Q (.bool true) σ)(f:a≠b→Q (.bool false) σ):T2 d (compareOp .Eq) a.v b.v σ Q:=by
 refine T2_eqK hd ?_
 by_cases h:a=b
 ·rw[decide_eq_true h];exact t h
 ·rw[decide_eq_false h];exact f h
theorem T2_same {d:Nat}{sm:Bool}{Q:V→Sto→Prop}(q:Q (.bool sm) σ):T2 d (compareOp .Eq) (.str (if sm=true then "same" else "sub")) (.str "same") σ Q:=by
 induction sm using Bool.casesOn with
 |true=>exact T2_eqS dkk q
 |false=>exact T2_eqSf dkk q
theorem T2_noN {d:Nat}{a k:K}{Q:V→Sto→Prop}(ha:a.isNum=false)(hk:k.isNum=false)(q:Q (.bool false) σ):T2 d (compareOp .In) (.str "n") (.tup [.str a.word,.str k.word]) σ Q:=by
 refine T2_in_tup (r:=false) ⟨fun h=>nB h,fun h=> ?_⟩ ok_n (show(PyData.strOk a.word&&(PyData.strOk k.word&&true))=true by rw[word_ok,word_ok];rfl) (Nat.zero_le _) q
 exact absurd h (by rw[List.mem_cons,List.mem_cons];exact fun h=>h.elim (word_n ha) fun h=>h.elim (word_n hk) fun h=>nomatch h)
theorem c_step {x xk xs_ dxs r:Addr}{fuel:Int}{g:G}{S S':Ss}{ws:Wys}{Q:V→Sto→Prop}(h:SeAt σ x xk fuel)(hk:KsAt σ xk dcT)(hs:SsAt σ xs_ dxs r S)(hm:m_step g S=some (ws,S'))
  (q:∀c σ',(∀c o,σ c=some o→c≠r→c≠dxs→σ' c=some o)→SsAt σ' xs_ dxs r S'→WaysAt σ' c ws→Q (.ref c) σ'):CallT (d+31) (.ref 291) [.ref x,gV g,.ref xs_] σ Q:=by
 obtain⟨sm,a,k⟩:=g
 refine iE hm fun hf hm=> ?_
 refine an2 (bA hf) fun ha hb=> ?_
 have fa:=fits_is ha
 have fk:=fits_is hb
 refine x12 (id h) fun ds s1 s2=> ?_
 have fin:∀{g:List G} {c c₂:Addr} {σ2:Sto},σ.le σ2→σ2 c=none→(σ2.put c (.list (g.map gV))) c₂=none→some ([g],S)=some (ws,S')→Q (.ref c₂) ((σ2.put c (.list (g.map gV))).put c₂ (.list [.ref c])):=fun {g c c₂ σ2} hl hc hc₂ e=>by
  obtain rfl:=pI1 (sI e)
  obtain rfl:=pI2 (sI e)
  have hle:=aE (aE hl hc (.list (g.map gV))) hc₂ (.list [.ref c])
  exact q c₂ _ (fun a o e _ _=>hle a o e) (hs.mono hle) ⟨[c],aA _ _ _,aC sps hc₂,trivial⟩
 refine aG b.f_Search_step_3 rfl dkk dkk ?_
 w_fin
 refine T2_eqKK (a:=a) (b:=k) (l_min (lt3 fa.2)) (fun e=> ?_) fun e=> ?_
 ·w_fin
  refine fun c hc=> ?_
  w_fin
  refine fun c₂ hc₂=> ?_
  w_fin
  exact fin (g:=[]) (aQ _) hc hc₂ (iteE hm (fun _ h=>h) fun n _=>absurd e n)
 have hm:=iteE hm (fun z _=>absurd z e) fun _ h=>h
 refine iteE hm (fun _ h=>nS h) fun hnum hm=> ?_
 have hnum:=Bool.or_eq_false_iff.mp (Bool.eq_false_iff.mpr hnum)
 w_fin
 refine v_item0 a ?_
 w_fin
 refine v_item0 k ?_
 w_fin
 refine T2_noN hnum.1 hnum.2 ?_
 w_fin
 refine T2_same ?_
 induction sm using Bool.casesOn with
 |true=>
  w_fin
  refine fun c hc=> ?_
  w_fin
  refine fun c₂ hc₂=> ?_
  w_fin
  exact fin (g:=[⟨false,a,k⟩,⟨false,k,a⟩]) (aQ _) hc hc₂ hm
 |false=>
  w_fin
  refine((c_is_empty (d:=d) 20 (k:=a) (lt3 fa.2) (by decide) (lt3 fa.1) ?_).v.le (l_d))
  w_fin
  have hm:m_st3 a k S=some (ws,S'):=hm
  induction he:a.emp using Bool.casesOn with
  |true=>
   w_fin
   refine fun c hc=> ?_
   w_fin
   refine fun c₂ hc₂=> ?_
   w_fin
   exact fin (g:=[]) (aQ _) hc hc₂ (iteE hm (fun _ h=>h) fun n _=>absurd (by rw[he];rfl) n)
  |false=>
   w_fin
   refine T2_eqKK (a:=k) (b:=anyK) (l_min (lt3 fk.2)) (fun e=> ?_) fun e=> ?_
   ·w_fin
    refine fun c hc=> ?_
    w_fin
    refine fun c₂ hc₂=> ?_
    w_fin
    exact fin (g:=[]) (aQ _) hc hc₂ (iteE hm (fun _ h=>h) fun n _=>absurd (by rw[decide_eq_true e,Bool.or_true]) n)
   have hm:m_abv a k S=some (ws,S'):=iteE hm (fun z _=>by rw[he,decide_eq_false e] at z;exact nB z) fun _ h=>h
   clear fin e hnum
   w_fin
   refine Ml_own hs.inst hs.attrs b.m_Sides_is_asked (by rfl) ?_
   w_fin
   unfold m_abv at hm
   induction hv:a.varOf using Option.casesOn with
   |some y=>
    rw[hv] at hm
    obtain rfl:=K.varOf_is hv
    refine bE hm fun s h1 hm=>iE hm fun h3 e=> ?_
    refine an2 (bA h3) fun h3 h5=>an2 (bA h3) fun h3 h6=>an2 (bA h3) fun h3 h4=> ?_
    refine((c_askedV hs h1 ?_).v.le (l_d))
    rw[h3]
    w_fin
    refine Ml_own s1 s2 b.m_Search_below (by rfl) ?_
    w_fin
    refine((c_below hs h1 (k:=k) (lt3 fk.1) (lt3 fk.2) (lt3 (oD h4)) (lt3 (oD h6)) (fvAsked_is h5) fun c σ' c1 c2 c3=> ?_).v.le (l_d))
    w_fin
    rw[sI e] at c2 c3
    exact q c σ' (fun a o e n1 _=>c1 a o e n1) c2 c3
   |none=>
    rw[hv] at hm
    refine((c_askedN (K.varOf_no hv) ?_).v.le (l_d))
    w_fin
    refine Ml_own hs.inst hs.attrs b.m_Sides_is_asked (by rfl) ?_
    w_fin
    have hm:m_other a k S=some (ws,S'):=hm
    unfold m_other at hm
    induction hw:k.varOf using Option.casesOn with
    |some y=>
     rw[hw] at hm
     obtain rfl:=K.varOf_is hw
     refine bE hm fun s h1 hm=>iE hm fun h3 e=> ?_
     refine an2 (bA h3) fun h3 h5=>an2 (bA h3) fun h3 h6=>an2 (bA h3) fun h3 h4=> ?_
     refine((c_askedV hs h1 ?_).v.le (l_d))
     rw[h3]
     w_fin
     refine Ml_own s1 s2 b.m_Search_above (by rfl) ?_
     w_fin
     refine((c_above hs h1 (k:=a) (lt3 fa.1) (lt3 fa.2) (lt3 (oD h4)) (lt3 (oD h6)) (fvAsked_is h5) fun c σ' c1 c2 c3=> ?_).v.le (l_d))
     w_fin
     rw[sI e] at c2 c3
     exact q c σ' (fun a o e n1 _=>c1 a o e n1) c2 c3
    |none=>
     rw[hw] at hm
     refine((c_askedN (K.varOf_no hw) ?_).v.le (l_d))
     w_fin
     refine Ml_own s1 s2 b.m_Search_by_form (by rfl) ?_
     w_fin
     refine(c_by_form h hk hs ha hb hm fun c σ' c1 c2 c3=> ?_).v
     w_fin
     exact q c σ' c1 c2 c3
noncomputable def Sto.hide (σ:Sto) (H:List Addr):Sto:=fun a=>if a∈H then none else σ a
noncomputable def Sto.join (σ' σ:Sto) (H:List Addr):Sto:=fun a=>match σ' a with
 |some o=>some o
 |none=>if a∈H then σ a else none
theorem Sto.hide_le (σ:Sto)(H:List Addr):(σ.hide H).le σ:=fun a o e=>by
 unfold Sto.hide at e;split at e
 ·exact nS e
 ·exact e
theorem Sto.hide_at {σ:Sto}{H:List Addr}{a:Addr}{o:AO}(h:σ a=some o)(n:a∉H):(σ.hide H) a=some o:=by unfold Sto.hide;rw[if_neg n];exact h
theorem Sto.join_new {σ' σ:Sto}{H:List Addr}:σ'.le (σ'.join σ H):=fun a o e=>by unfold Sto.join;rw[e]
theorem Sto.join_old {σ' σ:Sto}{H:List Addr}{a:Addr}{o:AO}(h:σ a=some o)(m:a∈H)(n:σ' a=none):(σ'.join σ H) a=some o:=by unfold Sto.join;rw[n];dsimp only;rw[if_pos m];exact h
set_option tactic.hygienic true in
theorem CallT.frame {d:Nat}{f:V}{as:List V}{Q:V→Sto→Prop}(H:List Addr)(h:CallT d f as (σ.hide H) fun v σ'=>(∀a∈H,σ a≠none→σ' a=none)→Q v (σ'.join σ H)):CallT d f as σ Q:=
 fun A s fv vs R S rf rs=>by
  have S₀:=S.weaken (Sto.hide_le σ H)
  refine codeAny_mono (h A s fv vs R S₀ rf rs) fun r s' ⟨val,e,v,σ',rv,q,S',T⟩=>⟨val,e,v,σ'.join σ H,rv,?_,?_,?_⟩
  ·refine q fun a ha hn=> ?_
   induction z:σ a using Option.casesOn with
   |none=>exact absurd z hn
   |some ao=>
    refine x11 (S.live z) fun o ho=> ?_
    exact T.dom a (by rw[ho];simp) (by unfold Sto.hide;rw[if_pos ha])
  ·refine⟨S'.base,fun b hb=> ?_,fun a ao e=> ?_⟩
   ·unfold Sto.join at hb
    split at hb
    ·rename_i o ho;exact S'.apart b (by rw[ho];simp)
    ·split at hb
     ·exact S.apart b hb
     ·exact absurd rfl hb
   ·unfold Sto.join at e
    split at e
    ·rename_i o ho;replace e:=sI e;subst e;exact S'.obj a _ ho
    ·split at e
     ·rename_i ha
      exact(S.obj a ao e).mono (T.tups S₀) fun o ho=>T.keep a o ho (by unfold Sto.hide;rw[if_pos ha])
     ·exact nS e
  ·refine⟨fun b o eb n=>T.keep b o eb ?_,fun b eb n=> ?_,T.os,T.gens⟩
   ·unfold Sto.hide;split
    ·rfl
    ·exact n
   ·have n':(σ.hide H) b=none:=by
     unfold Sto.hide;split
     ·rfl
     ·exact n
    unfold Sto.join
    rw[T.dom b eb n']
    dsimp only
    split
    ·exact n
    ·rfl
theorem CallV.frame {d:Nat}{f:V}{as:List V}{Q:V→Sto→Prop}(H:List Addr)(h:CallT d f as (σ.hide H) fun v σ'=>(∀a∈H,σ a≠none→σ' a=none)→Q v (σ'.join σ H)):CallV d f as σ Q:=(CallT.frame H h).v
end
noncomputable abbrev Wt:=List (List G×Ss)
noncomputable def stEnd (f:Nat) (S:Ss) (W:Wt):Option (Option Ss×Nat×Wt):=if S.rows.length<60∧S.rows.all (fun p=>decide (p.2.lo.length≤1000))=true then(allOk dcT S.rows).map fun o=>(if o then some S else none,f,W) else none
noncomputable def stGo (g:List G→Ss→Wt→Option (Option Ss×Nat×Wt)) (f:Nat) (st:List G) (W:Wt) (S':Ss):Wys→Option (Option Ss×Nat×Wt)
 | []=>some (none,f,W)
 |v::vs=>if(st.length+v.length≤10000∧vs.all (fun u=>decide (st.length+u.length≤10000))=true)∧vs.length+W.length≤10000 then g (v.reverse++st) S' (vs.map (fun u=>(u.reverse++st,S'))++W) else none
noncomputable def m_settled:Nat→List G→Ss→Wt→Option (Option Ss×Nat×Wt)
 |0,st,S,W=>match st with
  | []=>stEnd 0 S W
  |_::_=>none
 |f+1,st,S,W=>match st with
  | []=>stEnd (f+1) S W
  |g::st=>(m_step g S).bind fun r=>stGo (m_settled f) f st W r.2 r.1
theorem settled_nil {f:Nat}{S:Ss}{W:Wt}:m_settled f [] S W=stEnd f S W:=by induction f using Nat.casesAuxOn<;>rfl
noncomputable def rnGo (g:Nat→Wt→Option (Option Ss)) (r:Option Ss×Nat×Wt):Option (Option Ss):=match r.1 with
 |some S'=>some (some S')
 |none=>g r.2.1 r.2.2
noncomputable def m_run:Nat→Nat→Wt→Option (Option Ss)
 |0,_,W=>match W with
  | []=>some none
  |_::_=>none
 |n+1,f,W=>match W with
  | []=>some none
  |p::W=>if f=0 then none else(m_settled f p.1 p.2 W).bind (rnGo (m_run n))
structure Ent where
 al:Addr
 xs:Addr
 dx:Addr
 r:Addr
noncomputable def entV (e:Ent):V:= .tup [.ref e.al,.ref e.xs]
section
structure EAt (σ₀ σ:Sto)(e:Ent)(st:List G)(S:Ss):Prop where
 l:σ e.al=some (.list (st.reverse.map gV))
 s:SsAt σ e.xs e.dx e.r S
 nl:σ₀ e.al=none
 nd:σ₀ e.dx=none
 nr:σ₀ e.r=none
noncomputable def EsAt (σ₀ σ:Sto):List Ent→Wt→Prop
 | [],[]=>True
 |e::es,(st,S)::W=>EAt σ₀ σ e st S∧EsAt σ₀ σ es W
 |_,_=>False
structure Apart (wl:Addr)(es:List Ent):Prop where
 l:(wl::es.map Ent.al).Nodup
 d:(es.map Ent.dx).Nodup
 r:(es.map Ent.r).Nodup
theorem EsAt.len {σ₀ σ:Sto}:∀{es:List Ent} {W:Wt},EsAt σ₀ σ es W→es.length=W.length
 | [],[],_=>rfl
 |_::_,_::_,⟨_,r⟩=>by simp[r.len]
theorem EAt.le {σ₀ σ σ':Sto}{e:Ent}{st:List G}{S:Ss}(h:EAt σ₀ σ e st S)(l:σ.le σ'):EAt σ₀ σ' e st S:=⟨l _ _ h.l,h.s.mono l,h.nl,h.nd,h.nr⟩
theorem EsAt.le {σ₀ σ σ':Sto}(l:σ.le σ'):∀{es:List Ent} {W:Wt},EsAt σ₀ σ es W→EsAt σ₀ σ' es W
 | [],[],_=>trivial
 |_::_,_::_,⟨h,r⟩=>⟨h.le l,EsAt.le l r⟩
theorem EAt.keep {σ₀ σ σ':Sto}{e:Ent}{st:List G}{S:Ss}(h:EAt σ₀ σ e st S)(X:Addr→Prop)(k:∀a o,σ a=some o→¬X a→σ' a=some o)(n1:¬X e.al)(n2:¬X e.dx)(n3:¬X e.r)(ni:∀a C d,σ a=some (.inst C d)→¬X a)(na:∀a s,σ a=some (.attrs (sdL s))→¬X a):EAt σ₀ σ' e st S:=by
 obtain⟨l,⟨i,at',⟨es,g,rr⟩,on,fw⟩,a1,a2,a3⟩:=h
 refine⟨k _ _ l n1,⟨k _ _ i (ni _ _ _ i),k _ _ at' n2,⟨es,k _ _ g n3,rr.mono2 fun a o ho hc=>k a o ho ?_⟩,on,fw⟩,a1,a2,a3⟩
 rcases hc with⟨C,d,rfl⟩|⟨s,rfl⟩
 ·exact ni _ _ _ ho
 ·exact na _ _ ho
theorem EsAt.keep {σ₀ σ σ':Sto}(X:Addr→Prop)(k:∀a o,σ a=some o→¬X a→σ' a=some o)(ni:∀a C d,σ a=some (.inst C d)→¬X a)(na:∀a s,σ a=some (.attrs (sdL s))→¬X a):
  ∀{es:List Ent} {W:Wt},(∀e∈es,¬X e.al∧¬X e.dx∧¬X e.r)→EsAt σ₀ σ es W→EsAt σ₀ σ' es W
 | [],[],_,_=>trivial
 |e::es,_::_,n,⟨h,r⟩=>⟨h.keep X k (n e (.head _)).1 (n e (.head _)).2.1 (n e (.head _)).2.2 ni na,EsAt.keep X k ni na (fun e he=>n e (.tail _ he)) r⟩
end
theorem ne_at {σ:Sto}{a c:Addr}{o o':AO}(h:σ a=some o)(h':σ c=some o')(n:o≠o'):a≠c:=fun e=>by
 subst e;rw[h] at h';injection h' with h';exact n h'
noncomputable def seL (xk:Addr) (f:Nat):List (Str×V):=[("kinds",.ref xk),("fuel",.int f)]
structure SF (σ₀ σ:Sto)(x xk ds wl:Addr)(e₀:Ent)(f:Nat)(st:List G)(S:Ss)(es:List Ent)(W:Wt):Prop where
 le:σ₀.le σ
 i:σ x=some (.inst 345 ds)
 a:σ ds=some (.attrs (seL xk f))
 w:σ wl=some (.list (es.reverse.map entV))
 c:EAt σ₀ σ e₀ st S
 e:EsAt σ₀ σ es W
 ap:Apart wl (e₀::es)
 nd:σ₀ ds=none
 nw:σ₀ wl=none
theorem seL_sd {xk:Addr}{f:Nat}{s:Sd}:AO.attrs (seL xk f)≠AO.attrs (sdL s):=fun e=>by
 injection e with e
 simp[seL,sdL] at e
theorem seL_ss {xk:Addr}{f:Nat}{v u:V}:AO.attrs (seL xk f)≠AO.attrs [("rows",v),("many",u)]:=fun e=>by
 injection e with e
 simp only[seL,List.cons.injEq,Prod.mk.injEq] at e
 exact absurd e.1.1 dkk
section
variable {σ₀ σ σ':Sto}{x xk ds wl:Addr}{e₀:Ent}{f:Nat}{st:List G}{S:Ss}{es:List Ent}{W:Wt}
theorem SF.mono (h:SF σ₀ σ x xk ds wl e₀ f st S es W)(l:σ.le σ'):SF σ₀ σ' x xk ds wl e₀ f st S es W:=
 ⟨aD h.le l,l _ _ h.i,l _ _ h.a,l _ _ h.w,h.c.le l,h.e.le l,h.ap,h.nd,h.nw⟩
theorem EsAt.mem:∀{es:List Ent} {W:Wt},EsAt σ₀ σ es W→∀e∈es,∃st S,EAt σ₀ σ e st S
 |_::_,_::_,⟨h,r⟩,e,he=>by
  rcases List.mem_cons.mp he with rfl|he
  ·exact⟨_,_,h⟩
  ·exact r.mem e he
theorem SF.fuel (h:SF σ₀ σ x xk ds wl e₀ f st S es W)(f':Nat):SF σ₀ (σ.put ds (.attrs (seL xk f'))) x xk ds wl e₀ f' st S es W:=by
 have k:∀a o,σ a=some o→¬a=ds→(σ.put ds (.attrs (seL xk f'))) a=some o:=fun a o e n=>aF e n
 have ni:∀a C d,σ a=some (.inst C d)→¬a=ds:=fun a C d e=>ne_at e h.a (by simp)
 have na:∀a s,σ a=some (.attrs (sdL s))→¬a=ds:=fun a s e=>ne_at e h.a seL_sd.symm
 have ne:∀{e:Ent} {st:List G} {S:Ss},EAt σ₀ σ e st S→¬e.al=ds∧¬e.dx=ds∧¬e.r=ds:=fun {e st S} he=>by
  refine x12 he.s.rows fun es' g _=> ?_
  exact⟨ne_at he.l h.a (by simp),ne_at he.s.attrs h.a seL_ss.symm,ne_at g h.a (by simp)⟩
 refine⟨aR h.le h.nd _,k _ _ h.i (ni _ _ _ h.i),aA _ _ _,k _ _ h.w (ne_at h.w h.a (by simp)),h.c.keep (·=ds) k (ne h.c).1 (ne h.c).2.1 (ne h.c).2.2 ni na,EsAt.keep (·=ds) k ni na (fun e he=> ?_) h.e,h.ap,h.nd,h.nw⟩
 refine x21 (h.e.mem e he) fun st' S' hE=> ?_
 exact ne hE
theorem SF.left (h:SF σ₀ σ x xk ds wl e₀ f st S es W)(st':List G):SF σ₀ (σ.put e₀.al (.list (st'.reverse.map gV))) x xk ds wl e₀ f st' S es W:=by
 have k:∀a o,σ a=some o→¬a=e₀.al→(σ.put e₀.al (.list (st'.reverse.map gV))) a=some o:=fun a o e n=>aF e n
 have ni:∀a C d,σ a=some (.inst C d)→¬a=e₀.al:=fun a C d e=>ne_at e h.c.l (by simp)
 have na:∀a s,σ a=some (.attrs (sdL s))→¬a=e₀.al:=fun a s e=>ne_at e h.c.l (by simp)
 have hl:=h.ap.l
 simp only[List.map_cons,List.nodup_cons,List.mem_cons,not_or] at hl
 have ne:∀{e:Ent} {st:List G} {S:Ss},EAt σ₀ σ e st S→¬e.dx=e₀.al∧¬e.r=e₀.al:=fun {e st S} he=>by
  refine x12 he.s.rows fun es' g _=> ?_
  exact⟨ne_at he.s.attrs h.c.l (by simp),ne_at g h.c.l (by simp)⟩
 refine⟨aR h.le h.c.nl _,k _ _ h.i (ni _ _ _ h.i),k _ _ h.a (ne_at h.a h.c.l (by simp)),k _ _ h.w hl.1.1,?_,EsAt.keep (·=e₀.al) k ni na (fun e he=> ?_) h.e,h.ap,h.nd,h.nw⟩
 ·refine x12 h.c.s.rows fun es' g rr=> ?_
  refine⟨aA _ _ _,⟨k _ _ h.c.s.inst (ni _ _ _ h.c.s.inst),k _ _ h.c.s.attrs (ne h.c).1,⟨es',k _ _ g (ne h.c).2,rr.mono2 fun a o ho hc=>k a o ho ?_⟩,h.c.s.once,h.c.s.few⟩,h.c.nl,h.c.nd,h.c.nr⟩
  rcases hc with⟨C,d,rfl⟩|⟨s,rfl⟩
  ·exact ni _ _ _ ho
  ·exact na _ _ ho
 ·refine x21 (h.e.mem e he) fun st' S' hE=> ?_
  exact⟨fun q=>hl.2.1 (q▸List.mem_map_of_mem he),(ne hE).1,(ne hE).2⟩
theorem SF.turn (h:SF σ₀ σ x xk ds wl e₀ f st S es W){S':Ss}(k:∀a o,σ a=some o→a≠e₀.r→a≠e₀.dx→σ' a=some o)(hs:SsAt σ' e₀.xs e₀.dx e₀.r S'):SF σ₀ σ' x xk ds wl e₀ f st S' es W:=by
 refine x12 h.c.s.rows fun es₀ g₀ _=> ?_
 have k':∀a o,σ a=some o→¬(a=e₀.r∨a=e₀.dx)→σ' a=some o:=fun a o e n=>k a o e (fun q=>n (.inl q)) fun q=>n (.inr q)
 have ni:∀a C d,σ a=some (.inst C d)→¬(a=e₀.r∨a=e₀.dx):=fun a C d e q=>by
  rcases q with q|q
  ·exact ne_at e g₀ (by simp) q
  ·exact ne_at e h.c.s.attrs (by simp) q
 have na:∀a s,σ a=some (.attrs (sdL s))→¬(a=e₀.r∨a=e₀.dx):=fun a s e q=>by
  rcases q with q|q
  ·exact ne_at e g₀ (by simp) q
  ·exact ne_at e h.c.s.attrs (fun z=>sdL_ne z.symm) q
 have nl:∀a l,σ a=some (.list l)→¬(a=e₀.r∨a=e₀.dx):=fun a l e q=>by
  rcases q with q|q
  ·exact ne_at e g₀ (by simp) q
  ·exact ne_at e h.c.s.attrs (by simp) q
 have hd:=h.ap.d
 have hr:=h.ap.r
 simp only[List.map_cons,List.nodup_cons] at hd hr
 refine⟨fun a o e=>k a o (h.le a o e) (fun q=>by subst q;rw[h.c.nr] at e;exact nS e) (fun q=>by subst q;rw[h.c.nd] at e;exact nS e),k' _ _ h.i (ni _ _ _ h.i),k' _ _ h.a ?_,k' _ _ h.w (nl _ _ h.w),⟨k' _ _ h.c.l (nl _ _ h.c.l),hs,h.c.nl,h.c.nd,h.c.nr⟩,EsAt.keep (fun a=>a=e₀.r∨a=e₀.dx) k' ni na (fun e he=> ?_) h.e,h.ap,h.nd,h.nw⟩
 ·rintro(q|q)
  ·exact ne_at h.a g₀ (by simp) q
  ·exact ne_at h.a h.c.s.attrs seL_ss q
 ·refine x21 (h.e.mem e he) fun st' S'' hE=> ?_
  refine x12 hE.s.rows fun es' g _=> ?_
  refine⟨nl _ _ hE.l,?_,?_⟩
  ·rintro(q|q)
   ·exact ne_at hE.s.attrs g₀ (by simp) q
   ·exact hd.1 (q▸List.mem_map_of_mem he)
  ·rintro(q|q)
   ·exact hr.1 (q▸List.mem_map_of_mem he)
   ·exact ne_at g h.c.s.attrs (by simp) q
theorem SF.wait (h:SF σ₀ σ x xk ds wl e₀ f st S es W){e':Ent}{st':List G}{S':Ss}(hE:EAt σ₀ σ e' st' S')(ap:Apart wl (e₀::e'::es)):
  SF σ₀ (σ.put wl (.list ((e'::es).reverse.map entV))) x xk ds wl e₀ f st S (e'::es) ((st',S')::W):=by
 have k:∀a o,σ a=some o→¬a=wl→(σ.put wl (.list ((e'::es).reverse.map entV))) a=some o:=fun a o e n=>aF e n
 have ni:∀a C d,σ a=some (.inst C d)→¬a=wl:=fun a C d e=>ne_at e h.w (by simp)
 have na:∀a s,σ a=some (.attrs (sdL s))→¬a=wl:=fun a s e=>ne_at e h.w (by simp)
 have hl:=ap.l
 simp only[List.map_cons,List.nodup_cons,List.mem_cons,not_or] at hl
 have ne:∀{e:Ent} {st:List G} {S:Ss},EAt σ₀ σ e st S→¬e.dx=wl∧¬e.r=wl:=fun {e st S} he=>by
  refine x12 he.s.rows fun es' g _=> ?_
  exact⟨ne_at he.s.attrs h.w (by simp),ne_at g h.w (by simp)⟩
 refine⟨aR h.le h.nw _,k _ _ h.i (ni _ _ _ h.i),k _ _ h.a (ne_at h.a h.w (by simp)),aA _ _ _,h.c.keep (·=wl) k (fun q=>hl.1.1 q.symm) (ne h.c).1 (ne h.c).2 ni na,⟨hE.keep (·=wl) k (fun q=>hl.1.2.1 q.symm) (ne hE).1 (ne hE).2 ni na,EsAt.keep (·=wl) k ni na (fun e he=> ?_) h.e⟩,ap,h.nd,h.nw⟩
 refine x21 (h.e.mem e he) fun st' S' hE=> ?_
 exact⟨fun q=>hl.1.2.2 (q▸List.mem_map_of_mem he),(ne hE).1,(ne hE).2⟩
theorem Apart.fresh (h:SF σ₀ σ x xk ds wl e₀ f st S es W){e':Ent}(h1:σ e'.al=none)(h2:σ e'.dx=none)(h3:σ e'.r=none):Apart wl (e₀::e'::es):=by
 have ne:∀{a c:Addr} {o:AO},σ a=some o→σ c=none→a≠c:=fun {a c o} h h' e=>by subst e;rw[h] at h';exact nS' h'
 refine x12 h.c.s.rows fun es₀ g₀ _=> ?_
 have ap:=h.ap
 have l:=ap.l
 have dd:=ap.d
 have r:=ap.r
 simp only[List.map_cons,List.nodup_cons,List.mem_cons,not_or] at l dd r
 have m1:e'.al∉es.map Ent.al:=fun q=>by
  refine x12 (List.mem_map.mp q) fun e he z=> ?_
  refine x21 (h.e.mem e he) fun _ _ hE=> ?_
  exact ne hE.l h1 z
 have m2:e'.dx∉es.map Ent.dx:=fun q=>by
  refine x12 (List.mem_map.mp q) fun e he z=> ?_
  refine x21 (h.e.mem e he) fun _ _ hE=> ?_
  exact ne hE.s.attrs h2 z
 have m3:e'.r∉es.map Ent.r:=fun q=>by
  refine x12 (List.mem_map.mp q) fun e he z=> ?_
  refine x21 (h.e.mem e he) fun _ _ hE=> ?_
  refine x12 hE.s.rows fun es' g _=> ?_
  exact ne g h3 z
 constructor
 ·simp only[List.map_cons,List.nodup_cons,List.mem_cons,not_or]
  exact⟨⟨l.1.1,ne h.w h1,l.1.2⟩,⟨ne h.c.l h1,l.2.1⟩,m1,l.2.2⟩
 ·simp only[List.map_cons,List.nodup_cons,List.mem_cons,not_or]
  exact⟨⟨ne h.c.s.attrs h2,dd.1⟩,m2,dd.2⟩
 ·simp only[List.map_cons,List.nodup_cons,List.mem_cons,not_or]
  exact⟨⟨ne g₀ h3,r.1⟩,m3,r.2⟩
end
noncomputable def stW:Stmt:=nthS (aI (aJ 28 2)) 0
theorem Sto.hide_of {σ:Sto}{H:List Addr}{a:Addr}{o:AO}(h:σ a=some o)(n:∀c∈H,a≠c):(σ.hide H) a=some o:=Sto.hide_at h fun m=>n a m rfl
theorem WaysAt.mono {σ σ':Sto}{a:Addr}{ws:Wys}(h:WaysAt σ a ws)(l:σ.le σ'):WaysAt σ' a ws:=by
 refine x12 h fun as h1 h2=> ?_;clear h;exact⟨as,l _ _ h1,h2.mono l⟩
section
variable {σ:Sto}
theorem c_step_sf {σ₀:Sto}{x xk ds wl:Addr}{e₀:Ent}{f:Nat}{g:G}{st:List G}{S S':Ss}{es:List Ent}{W:Wt}{ws:Wys}{Q:V→Sto→Prop}(hk:KsAt σ₀ xk dcT)(h:SF σ₀ σ x xk ds wl e₀ f st S es W)(hm:m_step g S=some (ws,S'))
  (q:∀c σ',SF σ₀ σ' x xk ds wl e₀ f st S' es W→WaysAt (σ'.hide [wl,e₀.al]) c ws→Q (.ref c) σ'):CallV (d+31) (.ref 291) [.ref x,gV g,.ref e₀.xs] σ Q:=by
 have hl:=h.ap.l
 simp only[List.map_cons,List.nodup_cons,List.mem_cons,not_or] at hl
 have nl:∀{a:Addr} {o:AO},σ a=some o→(∀l,o≠ .list l)→∀c∈ [wl,e₀.al],a≠c:=fun {a o} e n c hc=>by
  simp only[List.mem_cons,List.not_mem_nil,or_false] at hc
  rcases hc with rfl|rfl
  ·exact ne_at e h.w (n _)
  ·exact ne_at e h.c.l (n _)
 have hle₀:σ₀.le (σ.hide [wl,e₀.al]):=fun a o e=>Sto.hide_at (h.le a o e) fun m=>by
  simp only[List.mem_cons,List.not_mem_nil,or_false] at m
  rcases m with rfl|rfl
  ·rw[h.nw] at e;exact nS e
  ·rw[h.c.nl] at e;exact nS e
 refine x12 h.c.s.rows fun esr gr rr=> ?_
 have hS:SsAt (σ.hide [wl,e₀.al]) e₀.xs e₀.dx e₀.r S:=by
  refine⟨Sto.hide_of h.c.s.inst (nl h.c.s.inst (by simp)),Sto.hide_of h.c.s.attrs (nl h.c.s.attrs (by simp)),⟨esr,Sto.hide_of gr (nl gr (by simp)),rr.mono2 fun a o ho hc=>Sto.hide_of ho (nl ho ?_)⟩,h.c.s.once,h.c.s.few⟩
  rcases hc with⟨C,d,rfl⟩|⟨s,rfl⟩<;>simp
 have hSe:SeAt (σ.hide [wl,e₀.al]) x xk f:=⟨ds,Sto.hide_of h.i (nl h.i (by simp)),Sto.hide_of h.a (nl h.a (by simp))⟩
 refine CallV.frame [wl,e₀.al] (c_step hSe (hk.mono hle₀) hS hm fun c σ' c1 c2 c3 hap=> ?_)
 have aw:σ' wl=none:=hap wl (.head _) (by rw[h.w];simp)
 have aa:σ' e₀.al=none:=hap e₀.al (.tail _ (.head _)) (by rw[h.c.l];simp)
 refine q c _ (h.turn (fun a o e n1 n2=> ?_) (c2.mono Sto.join_new)) (c3.mono fun a o e=>Sto.hide_at (Sto.join_new a o e) fun m=> ?_)
 ·by_cases m:a∈ [wl,e₀.al]
  ·refine Sto.join_old e m ?_
   simp only[List.mem_cons,List.not_mem_nil,or_false] at m
   rcases m with rfl|rfl
   ·exact aw
   ·exact aa
  ·exact Sto.join_new _ _ (c1 a o (Sto.hide_at e m) n1 n2)
 ·simp only[List.mem_cons,List.not_mem_nil,or_false] at m
  rcases m with rfl|rfl
  ·rw[aw] at e;exact nS e
  ·rw[aa] at e;exact nS e
noncomputable abbrev mkW (st:List G) (S:Ss) (vs:Wys):Wt:=vs.map fun u=>(u.reverse++st,S)
theorem pushV (v st:List G):(st.reverse.map gV)++v.map gV=((v.reverse++st).reverse).map gV:=by simp
theorem LsAt.unsnoc {σ:Sto}:∀{as:List Addr} {gs:Wys} {a:Addr},LsAt σ (as++ [a]) gs→∃gs' g,gs=gs'++ [g]∧LsAt σ as gs'∧σ a=some (.list (g.map gV))
 | [],[],_,h=>h.elim
 | [],[g],a,⟨h,_⟩=>⟨[],g,rfl,trivial,h⟩
 | [],_::_::_,_,⟨_,h⟩=>h.elim
 |b::as,[],_,h=>h.elim
 |b::as,g::gs,a,⟨h,r⟩=>by
  refine x23 (LsAt.unsnoc (as:=as) r) fun gs' g' e h1 h2=> ?_
  exact⟨g::gs',g',by rw[e];rfl,⟨h,h1⟩,h2⟩
set_option tactic.hygienic true in
theorem hide_le_put {σ:Sto}{H:List Addr}{a:Addr}{o:AO}(m:a∈H):(σ.hide H).le ((σ.put a o).hide H):=fun c x e=>by
 unfold Sto.hide at e⊢
 split at e
 ·exact nS e
 ·rename_i n
  rw[if_neg n,aM]
  ·exact e
  ·exact fun q=>n (q▸m)
set_option tactic.hygienic true in
theorem hide_le_of {σ σ':Sto}{H:List Addr}(l:σ.le σ'):(σ.hide H).le (σ'.hide H):=fun c x e=>by
 unfold Sto.hide at e⊢
 split at e
 ·exact nS e
 ·rename_i n;rw[if_neg n];exact l _ _ e
noncomputable def stFor:Stmt:=nthS (aI stW) 3
theorem none_of_le {σa σb:Sto}{a:Addr}(h:σa.le σb)(n:σb a=none):σa a=none:=by
 induction z:σa a using Option.casesOn with
 |none=>rfl
 |some o=>rw[h _ _ z] at n;exact nS' n
inductive PuI (σ₀:Sto)(x xk ds wl c cw:Addr)(e₀:Ent)(f:Nat)(st:List G)(S:Ss)(W:Wt)(V0 vs:Wys)(as:List Addr)(ρ:Loc)(l:List Addr)(ρ':Loc)(σ:Sto):Prop
 |mk (i1:σ c=some (.list (as.map V.ref).reverse)) (i3:∀y:Str,y≠Str.ofString "way"→ρ' y=ρ y) (i4:WaysAt (σ.hide [wl,e₀.al]) cw V0)
  (v1 v2:Wys) (es':List Ent) (i5:LsAt (σ.hide [wl,e₀.al]) l.reverse v1) (e2:v1++v2=vs) (i6:SF σ₀ σ x xk ds wl e₀ f st S es' (mkW st S v2++W))
theorem st_push {σ₀:Sto}{x xk ds wl:Addr}{e₀:Ent}{f:Nat}{st:List G}{S:Ss}{es:List Ent}{W:Wt}{v:List G}{vs:Wys}{cw:Addr}{ρ:Loc}{Q:Fl→Loc→Sto→Prop}
  (h:SF σ₀ σ x xk ds wl e₀ f st S es W) (hw:WaysAt (σ.hide [wl,e₀.al]) cw (v::vs)) (hz:(vs.all fun u=>decide (st.length+u.length≤10000))=true) (hz2:vs.length+W.length≤10000)
  (r2:ρ "left"=some (.ref e₀.al)) (r3:ρ "sides"=some (.ref e₀.xs)) (r4:ρ "waiting"=some (.ref wl)) (r5:ρ "ways"=some (.ref cw))
  (q:∀ρ' σ' es',(∀y:Str,y≠Str.ofString "way"→ρ' y=ρ y)→SF σ₀ σ' x xk ds wl e₀ f st S es' (mkW st S vs++W)→WaysAt (σ'.hide [wl,e₀.al]) cw (v::vs)→Q .next ρ' σ'):TS1 (d+31) (aH (aJ 28 2)) stFor ρ σ Q:=by
 refine x12 (id hw) fun as w1 w2=> ?_
 have w1:=Sto.hide_le _ _ _ _ w1
 induction as using List.casesOn with
 |nil=>exact w2.elim
 |cons a0 as=>
 have hlen:=w2.2.len
 refine TS_for (TE_slice ?_)
 got_up
 refine⟨_,rfl,?_⟩
 got_up
 refine⟨_,rfl,?_⟩
 got_up
 refine⟨cw,_,rfl,w1,aK (by simp;exact nT (Nat.le_of_eq hlen) (lt3 (l_al hz2))),by decide,fun c hc=> ?_⟩
 rw[pick_back,List.map_cons,List.drop_succ_cons,List.drop_zero]
 have hle:=aB hc (.list (as.map V.ref).reverse)
 refine kSrc.i (.list sps) ?_
 got_up
 have hcw:c≠wl:=fun e=>by replace e:=e.symm;subst e;rw[h.w] at hc;exact nS' hc
 refine TFor_rec (f:=V.ref) (PuI σ₀ x xk ds wl c cw e₀ f st S W (v::vs) vs as ρ) (fun σ'=>σ' c=some (.list (as.map V.ref).reverse)) (fun _ _ _ h=>h.casesOn fun h _ _ _ _ _ _ _ _=>h) ?_ ?_ (l:=as.reverse) (show(as.map V.ref).reverse=_ from List.map_reverse.symm) (fun _ h=>h)
  ⟨aA _ _ _,fun _ _=>rfl,hw.mono (hide_le_of hle),vs,[],es,by rw[List.reverse_reverse];exact(w2.2).mono (hide_le_of hle),List.append_nil vs,h.mono hle⟩
 ·intro a l ρ' σ' hI
  refine hI.casesOn fun i1 i3 i4 v1 v2 es' i5 e2 i6=> ?_
  clear hI h hw w1 w2 hc q
  rw[List.reverse_cons] at i5
  refine x23 i5.unsnoc fun v1' u z3 i7 i8=> ?_;subst z3
  have i8:=Sto.hide_le _ _ _ _ i8
  have hu:st.length+u.length≤10000:=by
   exact oD (lA hz u (by rw[←e2];simp))
  have hW:v2.length+W.length+1≤10000:=by have:=congrArg List.length e2;simp at this;omega
  have hel:=i6.e.len
  simp at hel
  got_up
  refine LN.i ((i3 "waiting" dkk).trans r4) ?_
  got_up
  refine Ml_bi (GM_append i6.w) ?_
  got_up
  refine LN.i ((i3 "left" dkk).trans r2) ?_
  got_up
  refine T2_add_list i6.c.l i8 (aK (by simp;exact lt3 hu)) fun c₁ hc₁=> ?_
  got_up
  rw[pushV]
  have l1:=aB hc₁ (.list ((u.reverse++st).reverse.map gV))
  have j1:=i6.mono l1
  have n₁:=aA σ' c₁ (.list ((u.reverse++st).reverse.map gV))
  got_up
  refine LN.i ((i3 "sides" dkk).trans r3) ?_
  got_up
  refine Ml_own j1.c.s.inst j1.c.s.attrs b.m_Sides_copied (by rfl) ?_
  got_up
  refine((c_copied j1.c.s fun x' dx' r' σ2 l2 f1 f2 f3 hS2=> ?_).v.le (l_d))
  got_up
  have j2:=j1.mono l2
  have hl12:=aD l1 l2
  refine C_append j2.w (aK (by simp;exact nT (Nat.le_of_eq hel) (lt3 (l_al hW)))) ⟨rfl,?_⟩
  got_up
  have hE:EAt σ₀ σ2 ⟨c₁,x',dx',r'⟩ (u.reverse++st) S:=⟨l2 _ _ n₁,hS2,?_,?_,?_⟩
  ·have ap:Apart wl (e₀::⟨c₁,x',dx',r'⟩::es'):=Apart.fresh i6 hc₁ (none_put f2).1 (none_put f3).1
   have j3:=j2.wait hE ap
   rw[show AO.list (es'.reverse.map entV++ [V.tup [V.ref c₁,V.ref x']])=AO.list (((⟨c₁,x',dx',r'⟩:Ent)::es').reverse.map entV) by simp[entV]]
   have hm:wl∈ [wl,e₀.al]:= .head _
   have hh:(σ'.hide [wl,e₀.al]).le ((σ2.put wl (.list (((⟨c₁,x',dx',r'⟩:Ent)::es').reverse.map entV))).hide [wl,e₀.al]):=aD (hide_le_of hl12) (hide_le_put hm)
   got_up
   refine⟨aF (hl12 _ _ i1) hcw,fun y hy=> ?_,i4.mono hh,v1',u::v2,_,i7.mono hh,by rw[←e2,List.append_assoc];rfl,j3⟩
   rw[←i3 y hy]
   dsimp only[Loc.put]
   rw[if_neg hy]
  ·exact none_of_le i6.le hc₁
  ·exact none_of_le j1.le f2
  ·exact none_of_le j1.le f3
 ·intro ρ' σ' hI
  refine hI.casesOn fun _ i3 i4 v1 v2 es' i5 e2 i6=> ?_
  cases v1 with
  |cons _ _=>exact i5.elim
  |nil=>
  obtain rfl:v2=vs:=e2
  exact q ρ' σ' es' i3 i6 i4
set_option tactic.hygienic true in
theorem st_loop {σ₀:Sto}{x xk ds wl:Addr}{e₀:Ent}{Q:Fl→Loc→Sto→Prop}{R:Option Ss×Nat×Wt}(hk:KsAt σ₀ xk dcT)
  (qn:∀ρ' σ' f' S' es' W',m_settled f' [] S' W'=some R→SF σ₀ σ' x xk ds wl e₀ f' [] S' es' W'→ρ' "self"=some (.ref x)→ρ' "sides"=some (.ref e₀.xs)→Q .next ρ' σ')
  (qr:∀ρ' σ' st' S' es',R.1=none→SF σ₀ σ' x xk ds wl e₀ R.2.1 st' S' es' R.2.2→Q (.ret .none) ρ' σ'):
  ∀(f:Nat) (st:List G) (S:Ss) (W:Wt) (es:List Ent) (ρ:Loc) (σ:Sto),m_settled f st S W=some R→SF σ₀ σ x xk ds wl e₀ f st S es W→st.length≤10000→
   ρ "self"=some (.ref x)→ρ "left"=some (.ref e₀.al)→ρ "sides"=some (.ref e₀.xs)→ρ "waiting"=some (.ref wl)→TWh (d+31) (aH (aJ 28 2)) (stTest stW) (aI stW) ρ σ Q:=by
 have enter:∀(f:Nat) (st:List G) (S:Ss) (W:Wt) (es:List Ent) (ρ:Loc) (σ:Sto),SF σ₀ σ x xk ds wl e₀ f st S es W→ρ "left"=some (.ref e₀.al)→(∀σ',σ.le σ'→if st=[] then Q .next ρ σ' else TS (d+31) (aH (aJ 28 2)) (aI stW) ρ σ' (loopS (fun ρ' σ'=>TWh (d+31) (aH (aJ 28 2)) (stTest stW) (aI stW) ρ' σ' Q) Q))→
   TWh (d+31) (aH (aJ 28 2)) (stTest stW) (aI stW) ρ σ Q:=by
  intro f st S W es ρ σ h r2 k
  refine TWh_step ?_
  got_up
  refine fun c hc=> ?_
  got_up
  have k:=k _ (aB hc (.list []))
  by_cases hst:st=[]
  ·rw[if_pos hst] at k
   refine T2_ne_nil (r:=true) (aC h.c.l hc) sps (by simp[hst]) ?_
   got_up
   exact k
  ·rw[if_neg hst] at k
   refine T2_ne_nil (r:=false) (aC h.c.l hc) sps (by simp[hst]) ?_
   exact Lf.i k
 intro f
 induction f with
 |zero=>
  intro st S W es ρ σ hm h hz r1 r2 r3 r4
  induction st using List.casesOn with
  |cons _ _=>cases hm
  |nil=>
  refine enter 0 [] S W es ρ σ h r2 fun σ' hle=> ?_
  rw[if_pos rfl]
  exact qn ρ σ' 0 S es W hm (h.mono hle) r1 r3
 |succ f ih=>
  intro st S W es ρ σ hm h hz r1 r2 r3 r4
  refine enter (f+1) st S W es ρ σ h r2 fun σ' hle=> ?_
  have h:=h.mono hle
  induction st using List.casesOn with
  |nil=>
   rw[if_pos rfl]
   exact qn ρ σ' (f+1) S es W hm h r1 r3
  |cons g st=>
  rw[if_neg (by simp)]
  refine bE hm fun o hs hm2=> ?_
  obtain⟨ws,S'⟩:=o
  refine TS_cons ?_
  got_up
  refine aL h.i h.a b.n_Search_fuel (by rfl) (by rfl) ?_
  got_up
  refine T2_sub_int ?_
  got_up
  rw[show(((f+1:Nat):Int)-1)=((f:Nat):Int) by omega]
  refine T2_setE h.i h.a b.n_Search_fuel (l':=seL xk f) (by simp[seL]) (by rfl) ?_
  got_up
  have h:=h.fuel f
  refine aL h.i h.a b.n_Search_fuel (by rfl) (by rfl) ?_
  got_up
  refine T2_ge_int ?_
  got_up
  refine Ml_own h.i h.a b.m_Search_step (by rfl) ?_
  got_up
  have hl:=h.c.l
  rw[List.reverse_cons,List.map_append] at hl
  refine Ml_bi (GM_pop h.c.l) ?_
  got_up
  refine C_pop (x:=gV g) hl (by simp[sizeLine] at hz⊢;exact lt3 (Nat.add_le_add hz (Nat.le_refl 1))) ?_
  got_up
  have h:=h.left st
  refine c_step_sf hk h hs fun cw σ2 h2 hw=> ?_
  got_up
  refine x12 (id hw) fun as w1 w2=> ?_
  have w1':=Sto.hide_le _ _ _ _ w1
  refine fun c hc=> ?_
  got_up
  have hle3:=aB hc (.list [])
  have h3:=h2.mono hle3
  have hw3:=hw.mono (hide_le_of (H:=[wl,e₀.al]) hle3)
  cases ws with
  |nil=>
   have e:as=[]:=by
    induction as using List.casesOn with
    |nil=>rfl
    |cons _ _=>exact w2.elim
   subst e
   replace hm2:=sI hm2;subst hm2
   refine T2_eq_nil (r:=true) (aC w1' hc) sps (by simp) ?_
   got_up
   exact qr _ _ st S' es rfl h3
  |cons v vs=>
   refine iE hm2 fun hg hm3=> ?_
   induction as using List.casesOn with
   |nil=>exact w2.elim
   |cons a0 as=>
   refine T2_eq_nil (r:=false) (aC w1' hc) sps (by simp) ?_
   got_up
   refine st_push (v:=v) (vs:=vs) h3 hw3 hg.1.2 hg.2 (by exact r2) (by exact r3) (by exact r4) (by rfl) fun ρ' σ4 es' hρ h4 hw4=> ?_
   got_up
   have q1:ρ' "self"=some (.ref x):=(hρ "self" dkk).trans (by exact r1)
   have q2:ρ' "left"=some (.ref e₀.al):=(hρ "left" dkk).trans (by exact r2)
   have q3:ρ' "sides"=some (.ref e₀.xs):=(hρ "sides" dkk).trans (by exact r3)
   have q4:ρ' "waiting"=some (.ref wl):=(hρ "waiting" dkk).trans (by exact r4)
   have q5:ρ' "ways"=some (.ref cw):=(hρ "ways" dkk).trans (by rfl)
   refine x12 (id hw4) fun as4 u1 u2=> ?_
   have u1':=Sto.hide_le _ _ _ _ u1
   induction as4 using List.casesOn with
   |nil=>exact u2.elim
   |cons a4 as4=>
   have u3:=Sto.hide_le _ _ _ _ u2.1
   got_up
   refine Ml_bi (GM_extend h4.c.l) ?_
   got_up
   refine aP u1' (by decide) (by decide) (by rfl) ?_
   got_up
   refine C_extend h4.c.l u3 (aK (by simp;exact lt3 hg.1.1)) ⟨rfl,?_⟩
   got_up
   rw[pushV]
   have h5:=h4.left (v.reverse++st)
   got_up
   exact ih _ _ _ _ _ _ hm3 h5 (by simp;omega) q1 q2 q3 q4
set_option tactic.hygienic true in
theorem c_settled {σ₀:Sto}{x xk ds wl:Addr}{e₀:Ent}{f:Nat}{st:List G}{S:Ss}{es:List Ent}{W:Wt}{R:Option Ss×Nat×Wt}{Q:V→Sto→Prop}(hk:KsAt σ₀ xk dcT)(hm:m_settled f st S W=some R)(h:SF σ₀ σ x xk ds wl e₀ f st S es W)(hz:st.length≤10000)
  (q:∀v σ' st' S' es',SF σ₀ σ' x xk ds wl e₀ R.2.1 st' S' es' R.2.2→(match R.1 with|some S''=>v= .ref e₀.xs∧S'=S''|none=>v= .none)→Q v σ'):CallV (d+32) (.ref 284) [.ref x,.ref e₀.al,.ref e₀.xs,.ref wl] σ Q:=by
 refine CallT.v (aG b.f_Search_settled_4 rfl dkk dkk ?_)
 refine TS_cons (TS_while (st_loop hk ?_ ?_ f st S W es _ _ hm h hz (by rfl) (by rfl) (by rfl) (by rfl)))
 ·intro ρ' σ' f' S' es' W' hm' h' r1 r3
  refine iE (settled_nil.symm.trans hm') fun hc hm'=>mE hm' fun o ho e=> ?_
  subst e
  got_up
  refine Ml_own h'.i h'.a b.m_Search_are_concrete (by rfl) ?_
  got_up
  have hlo:∀y s,rget S'.rows y=some s→s.lo.length≤1000:=by
   have gen:∀(rs:List (X×Sd)),rs.all (fun p=>decide (p.2.lo.length≤1000))=true→∀y s,rget rs y=some s→s.lo.length≤1000:=by
    intro rs
    induction rs with
    |nil=>exact fun _ _ _ h=>nS h
    |cons p rs ih=>
     intro ha y s h
     rw[List.all_cons,Bool.and_eq_true] at ha
     have h:(if p.1=y then some p.2 else rget rs y)=some s:=h
     by_cases c:p.1=y
     ·rw[if_pos c] at h;exact sI h▸oD ha.1
     ·rw[if_neg c] at h;exact ih ha.2 y s h
   exact gen _ hc.2
  refine((c_are_concrete (fuel:=f') ⟨ds,h'.i,h'.a⟩ (hk.mono h'.le) h'.c.s hc.1 hlo ho ?_).v.le (l_d))
  got_up
  induction o using Bool.casesOn with
  |true=>
   got_up
   exact q _ _ [] S' es' h' ⟨rfl,rfl⟩
  |false=>
   got_up
   exact q _ _ [] S' es' h' rfl
 ·intro ρ' σ' st' S' es' e h'
  got_up
  refine q _ _ st' S' es' h' ?_
  rw[e]
end
noncomputable def ruW:Stmt:=nthS (aI (aJ 28 1)) 1
structure WF (σ₀ σ:Sto)(x xk ds wl:Addr)(f:Nat)(es:List Ent)(W:Wt):Prop where
 le:σ₀.le σ
 i:σ x=some (.inst 345 ds)
 a:σ ds=some (.attrs (seL xk f))
 w:σ wl=some (.list (es.reverse.map entV))
 e:EsAt σ₀ σ es W
 ap:Apart wl es
 nd:σ₀ ds=none
 nw:σ₀ wl=none
section
variable {σ₀ σ σ':Sto}{x xk ds wl:Addr}{e₀:Ent}{f:Nat}{st:List G}{S:Ss}{es:List Ent}{W:Wt}
theorem Apart.tail (h:Apart wl (e₀::es)):Apart wl es:=by
 obtain⟨l,d,r⟩:=h
 simp only[List.map_cons,List.nodup_cons,List.mem_cons,not_or] at l d r
 exact⟨by simp only[List.nodup_cons];exact⟨l.1.2,l.2.2⟩,d.2,r.2⟩
theorem SF.toW (h:SF σ₀ σ x xk ds wl e₀ f st S es W):WF σ₀ σ x xk ds wl f es W:=⟨h.le,h.i,h.a,h.w,h.e,h.ap.tail,h.nd,h.nw⟩
theorem WF.mono (h:WF σ₀ σ x xk ds wl f es W)(l:σ.le σ'):WF σ₀ σ' x xk ds wl f es W:=
 ⟨aD h.le l,l _ _ h.i,l _ _ h.a,l _ _ h.w,h.e.le l,h.ap,h.nd,h.nw⟩
theorem WF.pop (h:WF σ₀ σ x xk ds wl f (e₀::es) ((st,S)::W)):SF σ₀ (σ.put wl (.list (es.reverse.map entV))) x xk ds wl e₀ f st S es W:=by
 have k:∀a o,σ a=some o→¬a=wl→(σ.put wl (.list (es.reverse.map entV))) a=some o:=fun a o e n=>aF e n
 have ni:∀a C d,σ a=some (.inst C d)→¬a=wl:=fun a C d e=>ne_at e h.w (by simp)
 have na:∀a s,σ a=some (.attrs (sdL s))→¬a=wl:=fun a s e=>ne_at e h.w (by simp)
 have hl:=h.ap.l
 simp only[List.map_cons,List.nodup_cons,List.mem_cons,not_or] at hl
 have ne:∀{e:Ent} {st:List G} {S:Ss},EAt σ₀ σ e st S→¬e.dx=wl∧¬e.r=wl:=fun {e st S} he=>by
  refine x12 he.s.rows fun es' g _=> ?_
  exact⟨ne_at he.s.attrs h.w (by simp),ne_at g h.w (by simp)⟩
 refine⟨aR h.le h.nw _,k _ _ h.i (ni _ _ _ h.i),k _ _ h.a (ne_at h.a h.w (by simp)),aA _ _ _,h.e.1.keep (·=wl) k (fun q=>hl.1.1 q.symm) (ne h.e.1).1 (ne h.e.1).2 ni na,EsAt.keep (·=wl) k ni na (fun e he=> ?_) h.e.2,h.ap,h.nd,h.nw⟩
 refine x21 (h.e.2.mem e he) fun st' S' hE=> ?_
 exact⟨fun q=>hl.1.2 (q▸List.mem_map_of_mem he),(ne hE).1,(ne hE).2⟩
end
theorem stEnd_W {f:Nat}{S:Ss}{W:Wt}{R:Option Ss×Nat×Wt}(h:stEnd f S W=some R):R.2.2=W:=iE h fun _ h=>mE h fun _ _ e=>e▸rfl
theorem m_settled_few {f:Nat}:∀{st:List G} {S:Ss} {W:Wt} {R:Option Ss×Nat×Wt},m_settled f st S W=some R→(W.all fun p=>decide (p.1.length≤10000))=true→(R.2.2.all fun p=>decide (p.1.length≤10000))=true:=by
 induction f with
 |zero=>
  intro st S W R h hW
  induction st using List.casesOn with
  |cons _ _=>exact nS h
  |nil=>exact stEnd_W h▸hW
 |succ f ih=>
  intro st S W R h hW
  induction st using List.casesOn with
  |nil=>exact stEnd_W h▸hW
  |cons g st=>
   refine bE h fun r _ h=> ?_
   obtain⟨ws,S'⟩:=r
   cases ws with
   |nil=>exact(sI h).symm▸hW
   |cons v vs=>
    refine iE h fun hg h=>ih h ?_
    rw[List.all_append,hW,Bool.and_true,List.all_map,List.all_eq_true]
    exact fun u hu=>decide_eq_true (by
     rw[List.length_append,List.length_reverse,Nat.add_comm]
     exact oD (lA hg.1.2 u hu))
theorem m_settled_len {f:Nat}:∀{st:List G} {S:Ss} {W:Wt} {R:Option Ss×Nat×Wt},m_settled f st S W=some R→W.length≤10000→R.2.2.length≤10000:=by
 induction f with
 |zero=>
  intro st S W R h hW
  induction st using List.casesOn with
  |cons _ _=>exact nS h
  |nil=>exact stEnd_W h▸hW
 |succ f ih=>
  intro st S W R h hW
  induction st using List.casesOn with
  |nil=>exact stEnd_W h▸hW
  |cons g st=>
   refine bE h fun r _ h=> ?_
   obtain⟨ws,S'⟩:=r
   cases ws with
   |nil=>exact(sI h).symm▸hW
   |cons v vs=>exact iE h fun hg h=>ih h (by rw[List.length_append,List.length_map];exact hg.2)
section
variable {σ:Sto}
set_option tactic.hygienic true in
theorem ru_loop {σ₀:Sto}{x xk ds wl:Addr}{Q:Fl→Loc→Sto→Prop}{R:Option Ss}(hk:KsAt σ₀ xk dcT)
  (qn:∀ρ' σ',R=none→σ₀.le σ'→Q .next ρ' σ') (qr:∀v ρ' σ' S',R=some S'→σ₀.le σ'→(∃xs dx r,v= .ref xs∧SsAt σ' xs dx r S')→Q (.ret v) ρ' σ'):
  ∀(n f:Nat) (W:Wt) (es:List Ent) (ρ:Loc) (σ:Sto),m_run n f W=some R→WF σ₀ σ x xk ds wl f es W→(W.all fun p=>decide (p.1.length≤10000))=true→W.length≤10000→
   ρ "self"=some (.ref x)→ρ "waiting"=some (.ref wl)→TWh (d+32) (aH (aJ 28 1)) (stTest ruW) (aI ruW) ρ σ Q:=by
 have nil:∀(f:Nat) (es:List Ent) (ρ:Loc) (σ:Sto),R=none→WF σ₀ σ x xk ds wl f es []→ρ "waiting"=some (.ref wl)→TWh (d+32) (aH (aJ 28 1)) (stTest ruW) (aI ruW) ρ σ Q:=by
  intro f es ρ σ hR h r2
  have hes:es=[]:=by
   induction es using List.casesOn with
   |nil=>rfl
   |cons _ _=>exact h.e.elim
  subst hes
  refine TWh_step ?_
  got_up
  refine fun c hc=> ?_
  got_up
  have hle:=aB hc (.list [])
  refine T2_ne_nil (r:=true) (aC h.w hc) sps (by simp) ?_
  got_up
  exact qn _ _ hR (aD h.le hle)
 intro n
 induction n with
 |zero=>
  intro f W es ρ σ hm h hz hw r1 r2
  cases W with
  |cons _ _=>cases hm
  |nil=>replace hm:=sI hm;replace hm:=hm.symm;subst hm;exact nil f es ρ σ rfl h r2
 |succ n ih=>
  intro f W es ρ σ hm h hz hw r1 r2
  cases W with
  |nil=>replace hm:=sI hm;subst hm;exact nil f es ρ σ rfl h r2
  |cons p W=>
  obtain⟨st,S⟩:=p
  induction es using List.casesOn with
  |nil=>exact h.e.elim
  |cons e₀ es=>
  refine iteE hm (fun _ h=>nS h) fun hf hm=> ?_
  have hz1:st.length≤10000∧(W.all fun p=>decide (p.1.length≤10000))=true:=by simpa using hz
  refine TWh_step ?_
  got_up
  refine fun c hc=> ?_
  got_up
  have h:=h.mono (aB hc (.list []))
  refine T2_ne_nil (r:=false) h.w sps (by simp) ?_
  got_up
  refine aL h.i h.a b.n_Search_fuel (by rfl) (by rfl) ?_
  got_up
  refine T2_gt_int ?_
  got_up
  rw[show decide ((f:Int)>0)=true by simp;omega]
  got_up
  have hw':=h.w
  rw[List.reverse_cons,List.map_append] at hw'
  have hel:=h.e.2.len
  refine Ml_bi (GM_pop h.w) ?_
  got_up
  simp at hw
  refine C_pop (x:=entV e₀) hw' (by simp[sizeLine];omega) ?_
  got_up
  have h1:=h.pop
  refine bE hm fun T hs hm=> ?_
  refine Ml_own h1.i h1.a b.m_Search_settled (by rfl) ?_
  got_up
  refine c_settled hk hs h1 hz1.1 fun v σ2 st' S' es' h2 hv=> ?_
  got_up
  obtain⟨r,f',W'⟩:=T
  induction r using Option.casesOn with
  |some S''=>
   refine an2 hv fun z1 z2=> ?_;clear hv;subst z1;replace z2:=z2.symm;subst z2
   replace hm:=sI hm;subst hm
   got_up
   exact qr _ _ _ _ rfl h2.le ⟨_,_,_,rfl,h2.c.s⟩
  |none=>
   replace hv:=hv.symm;subst hv
   got_up
   exact ih f' W' es' _ _ hm h2.toW (m_settled_few hs hz1.2) (m_settled_len hs (lt3 hw)) (by exact r1) (by exact r2)
theorem c_run {σ₀:Sto}{x xk ds ga xs dx r:Addr}{f n:Nat}{gs:List G}{S:Ss}{R:Option Ss}{Q:V→Sto→Prop}(hk:KsAt σ₀ xk dcT)(hle:σ₀.le σ)(hx:σ x=some (.inst 345 ds))(hds:σ ds=some (.attrs (seL xk f)))(hg:σ ga=some (.list (gs.map gV)))
  (hS:SsAt σ xs dx r S) (n1:σ₀ ds=none) (n2:σ₀ dx=none) (n3:σ₀ r=none) (hz:gs.length≤1000) (hm:m_run n f [(gs.reverse,S)]=some R)
  (q:∀v σ',σ₀.le σ'→(match R with|some S'=>∃xs dx r,v= .ref xs∧SsAt σ' xs dx r S'|none=>v= .none)→Q v σ'):CallT (d+33) (.ref 277) [.ref x,.ref ga,.ref xs] σ Q:=by
 refine aG b.f_Search_run_3 rfl dkk dkk ?_
 got_up
 refine(C_list_list hg (aK (by simp;exact lt3 hz)) fun al hal=> ?_)
 got_up
 have l1:=aB hal (.list (gs.map gV))
 refine fun wl hwl=> ?_
 got_up
 have l2:=aB hwl (.list [.tup [.ref al,.ref xs]])
 have l12:=aD l1 l2
 have hne:=(none_put hwl)
 have nn:∀{a:Addr},σ a=none→σ₀ a=none:=fun {a} h=>by
  induction z:σ₀ a using Option.casesOn with
  |none=>rfl
  |some o=>rw[hle _ _ z] at h;exact nS' h
 refine TS_while (ru_loop (R:=R) (wl:=wl) (ds:=ds) hk ?_ ?_ n f [(gs.reverse,S)] [⟨al,xs,dx,r⟩] _ _ hm ?_ (by simp;exact lt3 hz) (by simp) (by rfl) (by rfl))
 ·intro ρ' σ' e h
  subst e
  got_up
  exact q _ _ h rfl
 ·intro v ρ' σ' S' e h h'
  subst e
  got_up
  exact q _ _ h h'
 ·refine⟨aD hle l12,l12 _ _ hx,l12 _ _ hds,aA _ _ _,⟨⟨?_,hS.mono l12,nn hal,n2,n3⟩,trivial⟩,⟨?_,by simp,by simp⟩,n1,nn hne.1⟩
  ·rw[List.reverse_reverse]
   exact l2 _ _ sps
  ·simp only[List.map_cons,List.map_nil,List.nodup_cons,List.mem_cons,List.not_mem_nil,or_false,not_false_eq_true,and_true,List.nodup_nil]
   exact hne.2
end
noncomputable def casesOf (k:K):Option (List K):=match k with
 | .union ks=>if(ks.all fun k=>k.pl&&decide (k.dp≤1)&&decide (k.sz≤60))&&decide (ks.length≤60) then some ks else none
 |k=>if k.pl&&decide (k.dp≤10)&&decide (k.sz≤60) then some [k] else none
noncomputable def m_subs (c:K→Option (Option Ss)):List K→Option Bool
 | []=>some true
 |k::l=>(c k).bind fun r=>match r with
  |none=>some false
  |some _=>m_subs c l
noncomputable def sub1 (b a:K):Option (Option Ss):=m_run 4000 4000 [([⟨false,a,b⟩],⟨[],0⟩)]
noncomputable def m_sub (a b:K):Option Bool:=if min a.dp b.dp≤200 then(if a=b then some true else match casesOf a with
 |none=>none
 |some cs=>m_subs (sub1 b) cs) else none
section
variable {d:Nat}{sc:Nms}
noncomputable def kIn (I:List V→List V→Sto→Prop) (l:List V):List V→Loc→Sto→Prop:=fun acc _ σ=>I l acc σ
theorem TCo_nest {elt:Expr}{gens:List Comprehension}{cs:Scope}{cp:Pos}{t:Str}{tp:Pos}{iter target' iter':Expr}{ifs':List Expr}{Q:List V→Loc→Sto→Prop}(I:List V→List V→Sto→Prop)(P:Sto→Prop)
  (hg:gens[0]? =some ⟨.Name t tp,iter,[],0⟩) (hg':gens[0+1]? =some ⟨target',iter',ifs',0⟩) (ht:sc.lookup t=some .local) (hf:∀env x,foldedSetIterable iter' env x=pure x) (hP:∀l acc σ,I l acc σ→P σ)
  (step:∀x l acc σ (ρ:Loc),I (x::l) acc σ→TE d sc iter' (ρ.put t x) σ (kSrc (kCi d sc elt gens cs cp 1 acc (ρ.put t x) (kIn I l))))
  (done:∀acc ρ' σ,I [] acc σ→Q acc ρ' σ):∀{src:Src} {acc:List V} {ρ:Loc} {σ:Sto},(∀σ,P σ→src.ok σ)→I src.rest acc σ→TCo d sc elt gens cs cp 0 src acc ρ σ Q:=by
 suffices H:∀(n:Nat) {src:Src} {acc:List V} {ρ:Loc} {σ:Sto},src.rest.length=n→(∀σ,P σ→src.ok σ)→I src.rest acc σ→TCo d sc elt gens cs cp 0 src acc ρ σ Q from fun {src acc ρ σ}=>H _ rfl
 intro n
 induction n with
 |zero=>
  intro src acc ρ σ hn ok h
  rcases src.case with⟨x,s',_,h2,_⟩|⟨h1,h2⟩
  ·rw[h2] at hn;simp at hn
  ·rw[h2] at h
   exact TCo_end hg rfl (ok _ (hP _ _ _ h)) h1 (done _ _ _ h)
 |succ n ih=>
  intro src acc ρ σ hn ok h
  rcases src.case with⟨x,s',h1,h2,h3⟩|⟨h1,h2⟩
  ·rw[h2] at hn h
   refine TCo_inner hg hg' (ok _ (hP _ _ _ h)) h1 (TL_name ht) ?_ hf
   refine TE.mono (step x _ acc σ ρ h) fun v σ₁ ⟨src₂,hs,hT⟩=>⟨src₂,hs,TCo.mono hT fun acc' ρ' σ' h'=> ?_⟩
   exact ih (by simpa using hn) (fun σ hp=>h3 σ (ok σ hp)) h'
  ·rw[h2] at hn;simp at hn
end
section
variable {σ:Sto}
theorem c_Search_new {xk:Addr}{f:Nat}{Q:V→Sto→Prop}(q:∀x ds σ',σ.le σ'→σ x=none→σ ds=none→σ' x=some (.inst 345 ds)→σ' ds=some (.attrs (seL xk f))→Q (.ref x) σ'):CallT (d+2) (.ref 345) [.ref xk,.int f] σ Q:=by
 refine C_make b.i_Search fun dx x hne h1 h2=> ?_
 w_fin
 have hx:((σ.put dx (.attrs [])).put x (.inst 345 dx)) x=some (.inst 345 dx):=aA _ _ _
 have hd:((σ.put dx (.attrs [])).put x (.inst 345 dx)) dx=some (.attrs []):=aF sps hne
 have hle:σ.le ((σ.put dx (.attrs [])).put x (.inst 345 dx)):=aE (aB h1 _) (by rw[aM _ _ hne.symm];exact h2) _
 generalize (σ.put dx (.attrs [])).put x (.inst 345 dx)=σ1 at hx hd hle⊢
 refine aG b.f_Search_init_3 rfl dkk dkk ?_
 have ex:x≠dx:=hne.symm
 w_fin
 refine T2_setE hx hd b.n_Search_kinds (l':=[("kinds",.ref xk)]) (by simp) (by rfl) ?_
 w_fin
 refine T2_setE (aF hx ex) sps b.n_Search_fuel (l':=seL xk f) (by simp) (by rfl) ?_
 w_fin
 rw[Sto.put_put]
 w_fin
 exact⟨rfl,q x dx _ (aR hle h1 _) h2 h1 (aF hx ex) sps⟩
set_option tactic.hygienic true in
theorem c_cases {k:K}{cs:List K}{Q:V→Sto→Prop}(hk:casesOf k=some cs)(q:∀c σ',σ.le σ'→σ c=none→σ' c=some (.list (K.vs cs))→Q (.ref c) σ'):CallT (d+21) (.ref 235) [k.v] σ Q:=by
 by_cases hu:∃ks,k= .union ks
 ·refine x11 hu fun ks z1=> ?_;clear hu;subst z1
  have hk:(if(ks.all fun k=>k.pl&&decide (k.dp≤1)&&decide (k.sz≤60))&&decide (ks.length≤60) then some ks else none)=some cs:=hk
  split at hk
  rotate_left
  ·exact nS hk
  rename_i hc
  obtain rfl:=Option.some.inj hk
  rw[Bool.and_eq_true] at hc
  have hlen:ks.length≤60:=by simpa using hc.2
  refine aG b.f_left_cases_1 rfl dkk dkk ?_
  w_fin
  refine TS_compx (.inl dkk) rfl dkk ?_
  w_fin
  refine kSrc.i .tup ?_
  w_fin
  refine TCo_nest (fun rest acc σ'=>σ.le σ'∧∃dn td:List K,rest=K.vs td∧acc=K.vs dn∧dn++td=ks) (fun _=>True) rfl rfl dkk (by intro _ _;rfl) (fun _ _ _ _=>trivial) ?_ ?_ (fun _ _=>trivial) ⟨aQ _,[],ks,rfl,rfl,rfl⟩
  ·rintro x l acc σ' ρ ⟨hle,dn,td,e1,rfl,e⟩
   induction td using List.casesOn with
   |nil=>exact nL' e1
   |cons p td=>
   simp only[K.vs,List.cons.injEq] at e1
   refine an2 e1 fun z2 z3=> ?_;clear e1;subst z2;subst z3
   have hp:(p.pl=true∧p.dp≤1)∧p.sz≤60:=by
    have:=lA hc.1 p (by rw[←e];simp)
    simpa using this
   have el:=congrArg List.length e
   simp at el
   w_fin
   refine(((c_left_cases (d:=d) 1 hp.1.2 hp.2 hp.1.1 fun c σ2 h1 h2 h3=> ?_).v.le (by lia)))
   w_fin
   refine kSrc.i (.list h3) ?_
   w_fin
   refine TCo_pts (ys:=[p.v]) rfl rfl dkk h3 (fun _=>rfl) (by rw[aO];simp;exact nT (l_al (Nat.le_of_eq el)) (lt3 hlen)) ⟨?_,trivial⟩ ?_
   ·w_fin
    exact⟨rfl,rfl⟩
   ·intro ρ2
    exact⟨aD hle h1,dn++ [p],td,rfl,by simp[K.vs_map],by simpa using e⟩
  ·rintro acc ρ' σ' ⟨hle,dn,td,e1,rfl,e⟩
   have:td=[]:=by induction td using List.casesOn with
    |nil=>rfl
    |cons _ _=>exact nL e1
   subst this
   simp at e
   subst e
   intro c hc'
   w_fin
   refine(C_len_list sps (aK (by rw[aO];exact lt3 hlen)) ?_)
   w_fin
   refine T2_le_int ?_
   w_fin
   rw[show decide (((K.vs dn).length:Int)≤64)=true by rw[aO];simp;lia]
   w_fin
   refine q c _ (aE hle hc' _) ?_ sps
   induction z:σ c using Option.casesOn with
   |none=>rfl
   |some o=>rw[hle _ _ z] at hc';exact nS' hc'
 ·have hk':(if k.pl&&decide (k.dp≤10)&&decide (k.sz≤60) then some [k] else none)=some cs:=by
   induction k using K.casesOn<;>first|exact hk|exact absurd ⟨_,rfl⟩ hu
  split at hk'
  rotate_left
  ·exact nS hk'
  rename_i hc
  replace hk':=sI hk';subst hk'
  have hc:(k.pl=true∧k.dp≤10)∧k.sz≤60:=by simpa using hc
  exact c_left_cases (d:=d) 10 hc.1.2 hc.2 hc.1.1 fun c σ' h1 h2 h3=>q c σ' h1 h2 h3
inductive SbI (xk:Addr)(k:K)(o:Bool)(σ1:Sto)(td:List K)(ρ:Loc)(σ:Sto):Prop
 |mk (l:σ1.le σ) (r1:ρ "kinds"=some (.ref xk)) (r2:ρ "other"=some k.v) (r3:ρ "fuel"=some (.int 4000)) (m:m_subs (sub1 k) td=some o)
set_option tactic.hygienic true in
theorem c_is_subtype {xk:Addr}{a k:K}{o:Bool}{Q:V→Sto→Prop}(hk:KsAt σ xk dcT)(hm:m_sub a k=some o)(q:Q (.bool o) σ):CallT (d+34) (.ref 383) [.ref xk,a.v,k.v] σ Q:=by
 unfold m_sub at hm
 split at hm
 rotate_left
 ·exact nS hm
 rename_i hdp
 refine CallT.forget (aG b.f_is_subtype_3 rfl dkk dkk ?_)
 got_up
 refine T2_eqK (a:=a) (b:=k) hdp ?_
 got_up
 by_cases hab:a=k
 ·rw[if_pos hab] at hm
  replace hm:=sI hm;subst hm
  rw[show decide (a=k)=true by simp[hab]]
  got_up
  exact⟨_,aQ _,q⟩
 rw[if_neg hab] at hm
 rw[show decide (a=k)=false by simp[hab]]
 induction hc:casesOf a using Option.casesOn with
 |none=>rw[hc] at hm;exact nS hm
 |some cs=>
 rw[hc] at hm
 have hm:m_subs (sub1 k) cs=some o:=hm
 got_up
 refine TS_for ?_
 got_up
 refine(((c_cases hc fun cl σ1 h1 h2 h3=> ?_).v.le (l_d)))
 got_up
 refine kSrc.i (.list h3) ?_
 got_up
 refine TFor_rec (f:=K.v) (SbI xk k o σ1) (fun σ'=>σ1.le σ') (fun _ _ _ h=>h.casesOn fun l _ _ _ _=>l) ?_ ?_ (l:=cs) (K.vs_map cs) (fun σ' h=>h _ _ h3) ⟨aQ _,by rfl,by rfl,by rfl,hm⟩
 ·intro p td ρ' σ' hI
  refine hI.casesOn fun hle r1 r2 r3 e2=> ?_
  refine bE e2 fun R hr e2=> ?_
  clear hI
  have hle0:=aD h1 hle
  got_up
  refine(((c_Search_new (xk:=xk) (f:=4000) fun x ds σ2 l2 n1 n2 s1 s2=> ?_).v.le (l_d)))
  got_up
  refine Ml_own s1 s2 b.m_Search_run (by rfl) ?_
  got_up
  refine fun ga hga=> ?_
  got_up
  have l3:=aB hga (.list [gV ⟨false,p,k⟩])
  refine(((c_Sides_new0 fun xs dx r σ4 l4 m1 m2 m3 hS=> ?_).v.le (l_d)))
  got_up
  have nn:∀{a:Addr},σ2 a=none→σ' a=none:=fun {a} h=>by
   induction z:σ' a using Option.casesOn with
   |none=>rfl
   |some o=>rw[l2 _ _ z] at h;exact nS' h
  refine(c_run (σ₀:=σ') (hk.mono hle0) (aD l2 (aD l3 l4)) (l4 _ _ (l3 _ _ s1)) (l4 _ _ (l3 _ _ s2)) (gs:=[⟨false,p,k⟩]) (l4 _ _ sps) hS n2 (nn (none_put m2).1) (nn (none_put m3).1) (by simp) hr fun v σ5 h5 hv=> ?_).v
  got_up
  induction R using Option.casesOn with
  |none=>
   subst hv
   replace e2:=sI e2;subst e2
   got_up
   exact⟨_,aD hle0 h5,q⟩
  |some S'=>
   refine x32 hv fun xs' dx' r' z3 _=> ?_;clear hv;subst z3
   got_up
   exact⟨aD hle h5,r1,r2,r3,e2⟩
 ·intro ρ' σ' hI
  refine hI.casesOn fun hle _ _ _ e2=> ?_
  obtain rfl:=sI e2
  got_up
  exact⟨_,aD h1 hle,q⟩
noncomputable def topOf (n m:N):Option Bool:=if n=m then some true else m_sub (nK m) (nK n)
noncomputable def topsOf (n:N):List N→Option (List Bool)
 | []=>some []
 |m::l=>(topOf n m).bind fun o=>(topsOf n l).map (o:: ·)
noncomputable def m_top (all:List N):List N→Option (Option K)
 | []=>some (if all=[] then none else some (unionOf (all.map fun n=>U.at (.nm n))))
 |n::l=>(topsOf n all).bind fun os=>match os.contains false with
  |true=>m_top all l
  |false=>some (some (nK n))
noncomputable def m_told (s:Sd):Option (Option K):=(nsOf s.lo).bind fun ns=>if ns.length≤50 then m_top ns ns else none
theorem topsOf_len {n:N}{l:List N}:∀{os:List Bool},topsOf n l=some os→os.length=l.length:=by
 induction l with
 |nil=>exact fun h=>sI h▸rfl
 |cons m l ih=>exact fun h=>bE h fun o _ h=>mE h fun r h2 e=>e▸congrArg (·+1) (ih h2)
noncomputable def optV:Option K→V
 |none=> .none
 |some k=>k.v
theorem nK_inj {n m:N}(e:nK n=nK m):n=m:=by injection e
theorem nKs (ns:List N):K.vs (ns.map nK)=ns.map fun n=>(nK n).v:=by rw[K.vs_map,List.map_map];rfl
theorem tops_pts {n:N}{P:V→V→Prop}{l:List N}:∀{os:List Bool},topsOf n l=some os→(∀m o,topOf n m=some o→P (nK m).v (.bool o))→All2 P (l.map fun n=>(nK n).v) (os.map V.bool):=by
 induction l with
 |nil=>exact fun h _=>sI h▸trivial
 |cons m l ih=>exact fun h hp=>bE h fun o h1 h=>mE h fun r h2 e=>e▸⟨hp m o h1,ih h2 hp⟩
inductive ToI (ns:List N)(o:Option K)(σ1:Sto)(xk cl:Addr)(td:List N)(ρ:Loc)(σ:Sto):Prop
 |mk (l:σ1.le σ) (r1:ρ "kinds"=some (.ref xk)) (r2:ρ "lowers"=some (.ref cl)) (m:m_top ns td=some o)
theorem c_told {xk xs dx r a:Addr}{S:Ss}{s:Sd}{o:Option K}{Q:V→Sto→Prop}(hk:KsAt σ xk dcT)(hS:SsAt σ xs dx r S)(hs:isSd σ a s)(hm:m_told s=some o)(q:Q (optV o) σ):CallT (d+35) (.ref 394) [.ref xk,.ref a,.ref xs] σ Q:=by
 refine x12 (id hs) fun da a1 a2=>bE hm fun ns hns hm=>iE hm fun hlen hm=> ?_
 have hlo2:K.vs s.lo=ns.map fun n=>(nK n).v:=by rw[nsOf_is hns];exact nKs ns
 have hl2:(ns.map fun n=>(nK n).v).length≤50:=by rw[List.length_map];exact hlen
 refine CallT.forget (aG b.f_told_param_3 rfl dkk dkk ?_)
 refine TS_cons (TS_compx (.inl dkk) rfl dkk ?_)
 got_up
 refine aL a1 a2 b.n_Side_lowers (by rfl) (by rfl) ?_
 got_up
 refine kSrc.i .tup ?_
 have eR:(Src.tup (K.vs s.lo) 0).rest=ns.map fun n=>(nK n).v:=hlo2
 refine TCo_map (fun _=>true) id rfl rfl dkk trivial (fun _=>rfl) (by rw[eR];exact nT (Nat.le_of_eq (Nat.zero_add _)) (lt3 hl2)) (fun x hx=> ?_) (fun x hx _=> ?_) fun ρ2 cl hcl=> ?_
 ·rw[eR] at hx
  refine x12 (List.mem_map.mp hx) fun n _ z1=> ?_;subst z1
  refine TB_go true (by rfl) ?_
  got_up
  refine Ml_own hS.inst hS.attrs b.m_Sides_is_asked (by rfl) ?_
  got_up
  refine((c_askedN (k:=nK n) (by kernel_rfl) ?_).v.le (l_d))
  got_up
  exact⟨rfl,rfl⟩
 ·got_up
  exact⟨rfl,rfl⟩
 rw[eR,List.filter_eq_self.mpr fun _ _=>rfl,List.map_id,List.nil_append]
 have hle:=aB hcl (.list (ns.map fun n=>(nK n).v))
 have hL:=aA σ cl (.list (ns.map fun n=>(nK n).v))
 generalize σ.put cl (.list (ns.map fun n=>(nK n).v))=σ1 at hle hL⊢
 have hk1:=hk.mono hle
 clear hk hS hs a1 a2 hcl hlo2 eR hns
 refine thenS_next ?_
 got_up
 refine TS_for ?_
 got_up
 refine kSrc.i (.list hL) ?_
 refine TFor_rec (f:=fun n=>(nK n).v) (ToI ns o σ1 xk cl) (fun σ'=>σ1.le σ') (fun _ _ _ h=>h.casesOn fun l _ _ _=>l) ?_ ?_ (l:=ns) rfl (fun σ' h=>h _ _ hL) ⟨aQ _,by rfl,by rfl,hm⟩
 ·intro n td ρ' σ' h
  refine h.casesOn fun hle' r1 r2 e2=>bE e2 fun os hos e2=> ?_
  have hL':=hle' _ _ hL
  refine TA_cell dkk ?_
  got_up
  refine TE_comp rfl dkk ?_
  got_up
  refine kSrc.i (.list hL') ?_
  refine TCo_pts (ys:=os.map V.bool) rfl rfl dkk hL' (fun _=>rfl) (by rw[List.length_map,topsOf_len hos];exact nT (Nat.le_of_eq (Nat.zero_add _)) (lt3 hlen)) (tops_pts hos fun m o1 ho=> ?_) fun ρ3 c2 hc2=> ?_
  ·got_up
   refine TE_or ?_
   got_up
   refine T2_eqKK (a:=nK n) (b:=nK m) (nT (Nat.min_le_left _ _) (Nat.le_of_ble_eq_true rfl)) (fun e=> ?_) fun e=> ?_
   ·obtain rfl:=sI ((if_pos (nK_inj e)).symm.trans ho)
    got_up
    exact⟨rfl,rfl⟩
   ·got_up
    refine((c_is_subtype (hk1.mono hle') ((if_neg fun z=>e (congrArg nK z)).symm.trans ho) ?_).v)
    got_up
    exact⟨rfl,rfl⟩
  got_up
  refine T2_notin_bools (bs:=os) sps ?_
  got_up
  induction hc:os.contains false using Bool.casesOn with
  |true=>
   rw[hc] at e2
   got_up
   exact⟨aE hle' hc2 _,r1,r2,e2⟩
  |false=>
   rw[hc] at e2
   obtain rfl:=sI e2
   got_up
   exact⟨_,aD hle (aE hle' hc2 _),q⟩
 ·intro ρ' σ' h
  refine h.casesOn fun hle' r1 r2 e2=> ?_
  have hL':=hle' _ _ hL
  obtain rfl:=sI e2
  got_up
  refine fun c hc=> ?_
  got_up
  have hl2:σ.le (σ'.put c (.list [])):=aD hle (aE hle' hc _)
  have hL2:=aC (y:= .list []) hL' hc
  have hc2:=aA σ' c (.list [])
  generalize σ'.put c (.list [])=σ2 at hl2 hL2 hc2⊢
  clear hle' hL' hc
  by_cases hn:ns=[]
  ·rw[if_pos hn] at q
   refine T2_eq_nil (r:=true) hL2 hc2 ⟨fun _=>by rw[hn];rfl,fun _=>rfl⟩ ?_
   got_up
   exact⟨_,hl2,q⟩
  ·rw[if_neg hn] at q
   refine T2_eq_nil (r:=false) hL2 hc2 ⟨fun h=>nB h,fun h=>absurd (List.map_eq_nil_iff.mp h) hn⟩ ?_
   got_up
   have e:(ns.map fun n=>(nK n).v)=(ns.map fun n=>U.at (.nm n)).map uV:=by rw[List.map_map];rfl
   refine(((c_union_of (d:=d) (l:=ns.map fun n=>U.at (.nm n)) (e▸hL2) (by rw[show(ns.map fun n=>U.at (.nm n))=(ns.map At.nm).map U.at from(List.map_map ..).symm,szU_ats,List.length_map];exact lt3 hlen) ?_).v.le (l_d)))
   got_up
   exact⟨_,hl2,q⟩
noncomputable def K.asAll:K→Option (X×K×K×K)
 | .all y lo up b=>some (y,lo,up,b)
 | .name _ _=>none
 | .tup _=>none
 | .union _=>none
 | .typ _=>none
 | .var _=>none
 | .bot=>none
 | .num _=>none
theorem K.asAll_is {k:K}{p:X×K×K×K}(h:k.asAll=some p):k= .all p.1 p.2.1 p.2.2.1 p.2.2.2:=by
 induction k using K.casesOn<;>first|exact nS h|exact sI h▸rfl
theorem K.asAll_no {k:K}(h:k.asAll=none):wdOk k "all"=true:=by
 induction k using K.casesOn<;>first|exact nS' h|kernel_rfl
noncomputable def openS (S:Ss) (f:X) (up:K) (dg:Bool):Ss:=⟨rput S.rows f (sdOf true (S.many+1) .bot up dg),S.many+1⟩
noncomputable def m_opens:Nat→K→Ss→Option (List (X×X)×K×Ss)
 |0,_,_=>none
 |n+1,k,S=>if k.fits then match k.asAll with
  |some p=>if S.rows.length≤50∧p.2.1= .bot then(p.1.fresh (S.many+1)).bind fun f=>(p.2.2.2.diag p.1).bind fun dg=>(p.2.2.2.sub (one p.1 (.var f))).bind fun bd'=>(m_opens n bd' (openS S f p.2.2.1 dg)).map fun o=>((p.1,f)::o.1,o.2) else none
  |none=>some ([],k,S)
  else none
noncomputable abbrev XTb:=List (X×K)
noncomputable def m_table (S:Ss):List (X×X)→XTb→Option XTb
 | [],acc=>some acc
 |p::l,acc=>(rget S.rows p.2).bind fun s=>(m_told s).bind fun o=>match o with
  |none=>m_table S l acc
  |some k=>if p.1∈acc.map (·.1) then none else m_table S l (acc++ [(p.1,k)])
noncomputable def m_tabO (nm:List (X×X)):Option Ss→Option (Option XTb)
 |none=>some none
 |some S'=>(m_table S' nm []).map some
noncomputable def m_matched (a sig:K):Option (Option XTb):=(m_opens 9 sig ⟨[],0⟩).bind fun o=>if o.1.length≤50 then(m_run 4000 4000 [([⟨false,a,o.2.1⟩],o.2.2)]).bind (m_tabO o.1) else none
noncomputable def tbE (t:XTb):List (Str×V):=t.map fun p=>(p.1.s,p.2.v)
noncomputable def pxV (p:X×X):V:= .tup [.str p.1.s,.str p.2.s]
noncomputable def maW:Stmt:=nthS (aI (defAt 34)) 2
theorem SsAt.putL {xs dx r a:Addr}{S:Ss}{l l':List V}(h:SsAt σ xs dx r S)(ha:σ a=some (.list l)):SsAt (σ.put a (.list l')) xs dx r S:=by
 obtain⟨i,at',⟨es1,g1,rr⟩,on,fw⟩:=h
 have nx:∀{b:Addr} {o:AO},σ b=some o→(∀l,o≠ .list l)→(σ.put a (.list l')) b=some o:=fun {b o} e n=>aF e (ne_at e ha (n _))
 exact⟨nx i nofun,nx at' nofun,⟨es1,nx g1 nofun,rr.mono2 fun b o ho hc=>nx ho fun l e=>by subst e;exact hc.elim (fun h=>x21 h fun _ _ e=>nomatch e) fun h=>x11 h fun _ e=>nomatch e⟩,on,fw⟩
structure MaI (σ₀:Sto)(xs dx r nl gl:Addr)(k:K)(S:Ss)(nm:List (X×X))(ρ:Loc)(σ:Sto):Prop where
 hle:σ₀.le σ
 hS:SsAt σ xs dx r S
 hn:σ nl=some (.list (nm.map pxV))
 hg:σ gl=some (.list [])
 r1:ρ "sides"=some (.ref xs)
 r2:ρ "names"=some (.ref nl)
 r3:ρ "goals"=some (.ref gl)
 r4:ρ "body"=some k.v
noncomputable abbrev maNs:List Str:=["name","fresh","body","side"]
theorem ma_loop {σ₀:Sto}{xs dx r nl gl:Addr}{Q:Fl→Loc→Sto→Prop}(n1:σ₀ nl=none)(n2:σ₀ gl=none)(n3:σ₀ dx=none)(n4:σ₀ r=none)(hng:nl≠gl)(n:Nat):
  ∀{k:K} {S:Ss} {nm:List (X×X)} {o:List (X×X)×K×Ss} {ρ:Loc} {σ:Sto},m_opens n k S=some o→nm.length+o.1.length≤100→MaI σ₀ xs dx r nl gl k S nm ρ σ→
   (∀ρ' σ',(∀y:Str,y∉maNs→ρ' y=ρ y)→MaI σ₀ xs dx r nl gl o.2.1 o.2.2 (nm++o.1) ρ' σ'→Q .next ρ' σ')→
   TWh (d+35) (aH (defAt 34)) (stTest maW) (aI maW) ρ σ Q:=by
 induction n with
 |zero=>exact fun h=>nS h
 |succ n ih=>
  intro k S nm o ρ σ hm hz I q
  obtain⟨hle,hS,hn,hg,r1,r2,r3,r4⟩:=I
  refine TWh_step ?_
  got_up
  refine v_item0 k ?_
  got_up
  refine iE hm fun hf hm=> ?_
  induction ha:k.asAll using Option.casesOn with
  |none=>
   rw[ha] at hm
   obtain rfl:=sI hm
   refine T2_eqSf (K.asAll_no ha) ?_
   got_up
   exact q ρ σ (fun _ _=>rfl) ⟨hle,hS,by rw[List.append_nil];exact hn,hg,r1,r2,r3,r4⟩
  |some p=>
   rw[ha] at hm
   obtain⟨y,lo,up,bd⟩:=p
   obtain rfl:=K.asAll_is ha
   clear ha
   refine iE hm fun h1 hm=>bE hm fun f h2 hm=>bE hm fun dg h3 hm=>bE hm fun bd' h4 hm=>mE hm fun o' h5 e=> ?_
   subst e
   obtain⟨h1,rfl⟩:S.rows.length≤50∧lo= .bot:=h1
   have hf:=fits_is hf
   refine T2_eqS (by kernel_rfl) ?_
   got_up
   refine Ml_own hS.inst hS.attrs b.m_Sides_opened (by rfl) ?_
   got_up
   refine(c_opened hS h2 (lt3 hf.1) (m:=10) hf.2 (by decide) h3 h4 h1 fun σ1 hch hS1=> ?_).v.le (by lia)
   refine x12 hS.rows fun es₀ g₀ _=> ?_
   have hle1:σ₀.le σ1:=fun a o e=>hch a o (hle a o e) (fun q=>nS (n4.symm.trans (q▸e))) fun q=>nS (n3.symm.trans (q▸e))
   have hn1:=hch _ _ hn (ne_at hn g₀ nofun) (ne_at hn hS.attrs nofun)
   have hg1:=hch _ _ hg (ne_at hg g₀ nofun) (ne_at hg hS.attrs nofun)
   have hS1:SsAt σ1 xs dx r (openS S f up dg):=hS1
   clear hch hS hn hg hle g₀
   got_up
   refine Ml_own hS1.inst hS1.attrs b.m_Sides_side (by rfl) ?_
   got_up
   refine((c_side hS1 (y:=f) (s:=sdOf true (S.many+1) .bot up dg) (by show rget (rput _ _ _) _=_;rw[rget_put,if_pos rfl]) fun a ha=> ?_).v.le (l_d))
   got_up
   refine x12 ha fun da a1 a2=> ?_;clear ha
   refine Ml_bi (GM_extend hg1) ?_
   got_up
   refine TE_comp rfl dkk ?_
   got_up
   refine aL a1 a2 b.n_Side_lowers (by rfl) (by rfl) ?_
   got_up
   refine kSrc.i .tup (TCo_end rfl rfl trivial (by rfl) fun c hc=> ?_)
   got_up
   refine C_extend (aC hg1 hc) sps (aK (Nat.zero_le _)) ⟨rfl,?_⟩
   have hle2:=aR (aE hle1 hc (.list [])) n2 (.list ([]++ []))
   have hg2:=aA (σ1.put c (.list [])) gl (.list ([]++ []))
   have hn2:=aF (y:= .list ([]++ [])) (aC (y:= .list []) hn1 hc) hng
   have hS2:=(hS1.mono (aB hc (.list []))).putL (l':=[]++ []) (aC hg1 hc)
   generalize (σ1.put c (.list [])).put gl (.list ([]++ []))=σ2 at hle2 hg2 hn2 hS2⊢
   clear hle1 hg1 hn1 hS1 a1 a2 hc
   got_up
   refine Ml_bi (GM_append hn2) ?_
   got_up
   refine C_append hn2 (aK (by rw[List.length_map];exact lt3 (l_al hz))) ⟨rfl,?_⟩
   got_up
   refine ih (nm:=nm++ [(y,f)]) h5 (by rw[List.length_append,Nat.add_assoc];exact nT (Nat.le_of_eq (congrArg (nm.length+ ·) (Nat.add_comm 1 _))) hz) ⟨aR hle2 n1 _,hS2.putL hn2,by rw[List.map_append];exact aA _ _ _,aF hg2 hng.symm,by exact r1,by exact r2,by exact r3,by rfl⟩ fun ρ' σ' k1 I'=> ?_
   refine q ρ' σ' (fun z hz=> ?_) (by rw[List.append_assoc] at I';exact I')
   have ne:∀{x:Str},x∈maNs→z≠x:=fun {x} hx e=>hz (e▸hx)
   rw[k1 z hz]
   dsimp only[Loc.put]
   rw[if_neg (ne dkk),if_neg (ne dkk),if_neg (ne dkk),if_neg (ne dkk)]
theorem dput_new {es:List (Str×V)}{k:Str}{v:V}(h:k∉es.map (·.1)):dput es k v=es++ [(k,v)]:=by
 have e:(es.any fun kv=>decide (kv.1=k))=false:=List.any_eq_false.mpr fun p hp e=>h ((oD e:p.1=k)▸List.mem_map_of_mem hp)
 unfold dput
 rw[e];rfl
noncomputable def TbQ (σ:Sto) (Q:V→Sto→Prop):Option XTb→Prop
 |none=>Q .none σ
 |some t=>∀c,σ c=none→Q (.ref c) (σ.put c (.dict (tbE t)))
inductive MtI (σ8:Sto)(xk xs tc:Addr)(S:Ss)(t:XTb)(td:List (X×X))(ρ:Loc)(σ:Sto):Prop
 |mk (acc:XTb) (hl:σ8.le σ) (q1:ρ "kinds"=some (.ref xk)) (q2:ρ "found"=some (.ref xs)) (q3:ρ "table"=some (.ref tc)) (hz:acc.length+td.length≤100) (e2:m_table S td acc=some t) (q4:σ tc=some (.dict (tbE acc)))
noncomputable def maFor:Stmt:=nthS (aI (defAt 34)) 6
theorem ma_tab {xk xs dx r nl tc:Addr}{S:Ss}{t:XTb}{nm:List (X×X)}{ρ:Loc}{Q:Fl→Loc→Sto→Prop}(hk:KsAt σ xk dcT)(hS:SsAt σ xs dx r S)(hn:σ nl=some (.list (nm.map pxV)))(htc:σ tc=none)(hz:nm.length≤50)(ht:m_table S nm []=some t)
  (r1:ρ "kinds"=some (.ref xk)) (r2:ρ "found"=some (.ref xs)) (r3:ρ "table"=some (.ref tc)) (r5:ρ "names"=some (.ref nl)) (q:∀ρ' σ',σ.le σ'→ρ' "table"=some (.ref tc)→σ' tc=some (.dict (tbE t))→Q .next ρ' σ'):
  TS1 (d+35) (aH (defAt 34)) maFor ρ (σ.put tc (.dict [])) Q:=by
 have l9:=aB htc (.dict [])
 refine TS_for ?_
 got_up
 refine kSrc.i (.list (l9 _ _ hn)) ?_
 refine TFor_rec (f:=pxV) (MtI σ xk xs tc S t) (fun σ1=>σ.le σ1) (fun _ _ _ h=>h.casesOn fun _ l _ _ _ _ _ _=>l) ?_ ?_ (l:=nm) rfl (fun σ1 h=>h _ _ hn) ⟨[],l9,r1,r2,r3,nT (Nat.le_of_eq (Nat.zero_add _)) (lt3 hz),ht,aA _ _ _⟩
 ·intro p td ρ1 σ1 h
  refine h.casesOn fun acc hl1 q1 q2 q3 hz e2 q4=>bE e2 fun s hs e2=>bE e2 fun o ho e2=> ?_
  have hS1:=hS.mono hl1
  have hk1:=hk.mono hl1
  have hz2:acc.length+1+td.length≤100:=by rw[Nat.add_assoc,Nat.add_comm 1];exact hz
  got_up
  refine Ml_own hS1.inst hS1.attrs b.m_Sides_side (by rfl) ?_
  got_up
  refine((c_side hS1 (y:=p.2) hs fun a1 ha1=> ?_).v.le (l_d))
  got_up
  induction o using Option.casesOn with
  |none=>
   refine((c_told hk1 hS1 ha1 ho ?_).v)
   got_up
   exact⟨acc,hl1,by exact q1,by exact q2,by exact q3,nT (Nat.add_le_add_left (Nat.le_succ _) _) hz,e2,q4⟩
  |some k=>
   refine iteE e2 (fun _ h=>nS h) fun hy e2=> ?_
   refine((c_told hk1 hS1 ha1 ho ?_).v)
   got_up
   refine T2_isnot_none (K.noBi k) ?_
   rw[show(optV (some k)).isN=false from K.notN k]
   got_up
   refine T3_item_dict (v:=k.v) q4 (aK (by rw[tbE,List.length_map];exact lt3 (l_al hz))) ?_
   have hkey:p.1.s∉(tbE acc).map (·.1):=fun hm=>by
    rw[tbE,List.map_map] at hm
    exact x12 (List.mem_map.mp hm) fun u hu e=>hy (X.inj e▸List.mem_map_of_mem hu)
   have e5:dput (tbE acc) p.1.s k.v=tbE (acc++ [(p.1,k)]):=by rw[dput_new hkey,tbE,tbE,List.map_append];rfl
   rw[e5]
   got_up
   exact⟨_,aR hl1 htc _,by exact q1,by exact q2,by exact q3,by rw[List.length_append];exact hz2,e2,aA _ _ _⟩
 ·intro ρ1 σ1 h
  refine h.casesOn fun acc hl1 q1 q2 q3 hz e2 q4=> ?_
  obtain rfl:=sI e2
  exact q ρ1 σ1 hl1 q3 q4
theorem c_matched {xk:Addr}{a sig:K}{o:Option XTb}{Q:V→Sto→Prop}(hk:KsAt σ xk dcT)(hm:m_matched a sig=some o)
  (q:TbQ σ Q o):CallT (d+36) (.ref 389) [.ref xk,a.v,sig.v] σ Q:=by
 refine bE hm fun p ho hm=>iE hm fun hnm hm=>bE hm fun R hr hm=> ?_
 obtain⟨nm,bd,S⟩:=p
 refine CallT.forget (aG b.f_matched_3 rfl dkk dkk ?_)
 refine TS_cons (TS_sw false (by rfl) dkk (by rfl) ?_)
 got_up
 refine(((c_Sides_new0 fun xs dx r σ1 l1 m1 m2 m3 hS=> ?_).v.le (l_d)))
 got_up
 refine fun nl hnl=> ?_
 got_up
 refine fun gl hgl=> ?_
 got_up
 have l2:=aB hnl (.list [])
 have l3:=aB hgl (.list [])
 have hne:=none_put hgl
 have nn:∀{a:Addr},σ1 a=none→σ a=none:=fun {a} h=>by
  induction z:σ a using Option.casesOn with
  |none=>rfl
  |some o=>exact nS (h.symm.trans (l1 _ _ z))
 refine TS_while (ma_loop (σ₀:=σ) (nl:=nl) (gl:=gl) (nn hnl) (nn hne.1) m2 m3 hne.2.symm 9 (nm:=[]) ho (nT (Nat.le_of_eq (Nat.zero_add _)) (lt3 hnm)) ⟨aD l1 (aD l2 l3),hS.mono (aD l2 l3),l3 _ _ sps,aA _ _ _,by rfl,by rfl,by rfl,by rfl⟩ fun ρ' σ2 k1 I=> ?_)
 clear l1 l2 l3 hne nn hS hnl hgl
 have r1:ρ' "kinds"=some (.ref xk):=(k1 "kinds" dkk).trans (by rfl)
 have r2:ρ' "one"=some a.v:=(k1 "one" dkk).trans (by rfl)
 have r3:ρ' "fuel"=some (.int 4000):=(k1 "fuel" dkk).trans (by rfl)
 have k3:SsAt σ2 xs dx r S:=I.hS
 have k4:σ2 nl=some (.list (nm.map pxV)):=I.hn
 have r6:ρ' "body"=some bd.v:=I.r4
 have r4:=I.r1
 have r5:=I.r2
 have r7:=I.r3
 got_up
 refine(((c_Search_new (xk:=xk) (f:=4000) fun x ds σ3 l4 n1 n2 s1 s2=> ?_).v.le (l_d)))
 got_up
 refine Ml_own s1 s2 b.m_Search_run (by rfl) ?_
 got_up
 refine fun c1 hc1=> ?_
 got_up
 have l5:σ3.le (σ3.put c1 (.list [gV ⟨false,a,bd⟩])):=aB hc1 _
 refine T2_add_list (l5 _ _ (l4 _ _ I.hg)) sps (aK (Nat.le_of_ble_eq_true rfl)) fun ga hga=> ?_
 have l6:(σ3.put c1 (.list [gV ⟨false,a,bd⟩])).le ((σ3.put c1 (.list [gV ⟨false,a,bd⟩])).put ga (.list ([]++ [gV ⟨false,a,bd⟩]))):=aB hga _
 have l56:=aD l5 l6
 have l456:=aD l4 l56
 have hS6:=k3.mono l456
 have hga6:=aA (σ3.put c1 (.list [gV ⟨false,a,bd⟩])) ga (.list ([]++ [gV ⟨false,a,bd⟩]))
 have s1':=l56 _ _ s1
 have s2':=l56 _ _ s2
 have nl6:=l456 _ _ k4
 have hle6:=aD I.hle l456
 have nds:σ ds=none:=by
  induction z:σ ds using Option.casesOn with
  |none=>rfl
  |some o=>exact nS (n2.symm.trans (I.hle _ _ z))
 got_up
 change CallV _ _ _ ((σ3.put c1 (.list [gV ⟨false,a,bd⟩])).put ga (.list ([]++ [gV ⟨false,a,bd⟩]))) _
 generalize (σ3.put c1 (.list [gV ⟨false,a,bd⟩])).put ga (.list ([]++ [gV ⟨false,a,bd⟩]))=σ6 at hS6 hga6 s1' s2' nl6 hle6⊢
 clear l4 l5 l6 l56 l456 s1 s2 n1 n2 hc1 hga k3 k4 I
 have hh:∀{z:Addr} {o:AO},σ6 z=some o→z≠ds→z≠dx→z≠r→(σ6.hide [ds,dx,r]) z=some o:=fun {z o} e e1 e2 e3=>Sto.hide_at e fun h=>by cases h with
  |head=>exact e1 rfl
  |tail _ h=>cases h with
   |head=>exact e2 rfl
   |tail _ h=>cases h with
    |head=>exact e3 rfl
    |tail _ h=>exact nomatch h
 refine x12 hS6.rows fun esr gr _=> ?_
 have hnlh:=hh nl6 (ne_at nl6 s2' nofun) (ne_at nl6 hS6.attrs nofun) (ne_at nl6 gr nofun)
 have hle7:σ.le (σ6.hide [ds,dx,r]):=fun z o e=>hh (hle6 _ _ e) (fun q=>nS (nds.symm.trans (q▸e))) (fun q=>nS (m2.symm.trans (q▸e))) fun q=>nS (m3.symm.trans (q▸e))
 have nh:∀z∈ [ds,dx,r],(σ6.hide [ds,dx,r]) z=none:=fun z hz=>if_pos hz
 refine(c_run (σ₀:=σ6.hide [ds,dx,r]) (hk.mono hle7) (Sto.hide_le _ _) s1' s2' (gs:=[⟨false,a,bd⟩]) hga6 hS6 (nh ds (.head _)) (nh dx (.tail _ (.head _))) (nh r (.tail _ (.tail _ (.head _)))) (Nat.le_of_ble_eq_true rfl) hr fun v σ8 h8 hv=> ?_).v.le (l_d)
 clear nh hh s1' s2' hga6 nl6 hS6 gr
 have hle8:=aD hle7 h8
 have nl8:=h8 _ _ hnlh
 got_up
 induction R using Option.casesOn with
 |none=>
  subst hv
  obtain rfl:=sI hm
  got_up
  exact⟨_,hle8,q⟩
 |some S'=>
  refine x32 hv fun xs' dx' r' z1 hS'=> ?_;clear hv;subst z1
  refine mE hm fun t ht e=> ?_
  subst e
  got_up
  refine TE_dict0 b.low fun tc htc=> ?_
  got_up
  refine ma_tab (hk.mono hle8) hS' nl8 htc hnm ht (by exact r1) (by rfl) (by rfl) (by exact r5) fun ρ1 σ1 hl1 q3 q4=> ?_
  got_up
  have htn:σ tc=none:=by
   induction z:σ tc using Option.casesOn with
   |none=>rfl
   |some o=>exact nS (htc.symm.trans (hle8 _ _ z))
  exact⟨_,Sto.put_le (aD hle8 hl1) q4,q tc htn⟩
end
noncomputable def cntT (l:List (Nat×Bool)):Nat×Bool:=((l.map (·.1)).sum,(l.map (·.2)).contains true)
mutual
noncomputable def K.cnt (x:X):K→Option (Nat×Bool)
 | .var y=>some (if y=x then 1 else 0,false)
 | .tup ks=>(K.cnts x ks).map cntT
 | .union ks=>(K.cnts x ks).bind occU
 | .name _ ps=>some (0,K.isws x ps)
 | .typ k=>some (0,k.isw x)
 | .all _ _ _ _=>none
 | .bot=>none
 | .num _=>none
noncomputable def K.cnts (x:X):List K→Option (List (Nat×Bool))
 | []=>some []
 |k::l=>(k.cnt x).bind fun p=>(K.cnts x l).map (p:: ·)
end
theorem cnts_pts {x:X}{P:V→V→Prop}{ks:List K}:∀{l:List (Nat×Bool)},K.cnts x ks=some l→(∀k∈ks,∀p,k.cnt x=some p→P k.v (occV p))→All2 P (K.vs ks) (l.map occV):=by
 induction ks with
 |nil=>exact fun h _=>sI h▸trivial
 |cons k ks ih=>exact fun h hp=>bE h fun a h1 h=>mE h fun r h2 e=>e▸⟨hp k (.head _) a h1,ih h2 fun k hk=>hp k (.tail _ hk)⟩
theorem cnts_len {x:X}{ks:List K}:∀{l:List (Nat×Bool)},K.cnts x ks=some l→l.length=ks.length:=by
 induction ks with
 |nil=>exact fun h=>sI h▸rfl
 |cons k ks ih=>exact fun h=>bE h fun a h1 h=>mE h fun r h2 e=>e▸congrArg (·+1) (ih h2)
theorem sum_cast (l:List (Nat×Bool)):(l.map fun p=>(p.1:Int)).sum=(((l.map (·.1)).sum:Nat):Int):=by
 induction l with
 |nil=>rfl
 |cons p l ih=>rw[List.map_cons,List.map_cons,List.sum_cons,List.sum_cons,ih];rfl
section
variable {d:Nat}{σ:Sto}
theorem T2_in2 {a u v:Str}{r:Bool}{Q:V→Sto→Prop}(h:(PyData.strOk a&&(PyData.strOk u&&(PyData.strOk v&&true))&&(decide (a=u∨a=v)==r))=true)(q:Q (.bool r) σ):T2 d (compareOp .In) (.str a) (.tup [.str u,.str v]) σ Q:=by
 refine an2 (bA h) fun h e=>an2 (bA h) fun h1 h2=> ?_
 refine T2_in_tup (r:=r) ?_ h1 h2 (Nat.zero_le _) q
 rw[←beq_iff_eq.mp e,decide_eq_true_iff,List.mem_cons,List.mem_singleton]
 exact⟨fun h=>h.imp (congrArg _) (congrArg _),fun h=>h.imp V.str.inj V.str.inj⟩
theorem lc_rows {x:X}{ks:List K}{l:List (Nat×Bool)}{p:Nat×Bool}{w:Str}{rest:List V}{Q:V→Sto→Prop}(hks:ks.length≤1000)(hl:K.cnts x ks=some l)(ih:∀{k:K} {p:Nat×Bool} {σ:Sto} {Q:V→Sto→Prop},k∈ks→k.cnt x=some p→Q (occV p) σ→CallV (d+6) (.ref 657) [k.v,.str x.s] σ Q)
  (hw:(w="tuple"∧p=cntT l)∨(w="union"∧occU l=some p)) (q:Q (occV p) σ):CallT (d+7) (.ref 657) [.tup (.str w:: .tup (K.vs ks)::rest),.str x.s] σ Q:=by
 have hll:l.length≤1000:=nT (Nat.le_of_eq (cnts_len hl)) hks
 refine CallT.forget (aG b.f_law_count_2 rfl dkk dkk ?_)
 w_fin
 refine T2_eqSf (by rcases hw with⟨rfl,_⟩|⟨rfl,_⟩<;>decide +kernel) ?_
 w_fin
 refine T2_in2 (r:=true) (by rcases hw with⟨rfl,_⟩|⟨rfl,_⟩<;>decide +kernel) ?_
 w_fin
 refine TS_compx (.inl dkk) rfl dkk ?_
 w_fin
 refine kSrc.i .tup ?_
 refine TCo_pts (ys:=l.map occV) rfl rfl dkk trivial (fun _=>rfl) (by rw[List.length_map];exact nT (Nat.le_of_eq (Nat.zero_add _)) (lt3 hll)) (cnts_pts hl fun k hk p hp=> ?_) ?_
 ·w_fin
  refine ih hk hp ?_
  w_fin
  exact⟨rfl,rfl⟩
 intro ρ' c hc
 w_fin
 refine TS_compx (.inl dkk) rfl dkk ?_
 w_fin
 refine kSrc.i (.list sps) (TCo_col (f:=fun p=> .int p.1) rfl rfl dkk dkk (fun _=>rfl) sps hll fun ρ₁ c₁ hc₁=> ?_)
 have s1:=aA (σ.put c (.list ([]++l.map occV))) c₁ (.list (l.map fun p=>V.int p.1))
 have s2:=aC (y:= .list (l.map fun p=>V.int p.1)) (aA σ c (.list ([]++l.map occV))) hc₁
 have hle:=aE (aB hc (.list ([]++l.map occV))) hc₁ (.list (l.map fun p=>V.int p.1))
 generalize (σ.put c (.list ([]++l.map occV))).put c₁ (.list (l.map fun p=>V.int p.1))=σ1 at s1 s2 hle⊢
 clear hc hc₁
 rcases hw with⟨rfl,rfl⟩|⟨rfl,hu⟩
 ·w_fin
  refine(C_sum (ns:=l.map fun p=>(p.1:Int)) (by rw[s1,List.map_map];rfl) ?_)
  rw[sum_cast]
  w_fin
  refine TE_comp rfl dkk ?_
  w_fin
  refine kSrc.i (.list s2) (TCo_col (f:=fun p=> .bool p.2) rfl rfl dkk dkk (fun _=>rfl) s2 hll fun ρ₂ c₂ hc₂=> ?_)
  w_fin
  refine T2_in_bools (bs:=l.map (·.2)) (by rw[aA,List.map_map];rfl) ?_
  w_fin
  exact⟨_,aE hle hc₂ _,q⟩
 ·rcases l with _|⟨p0,l⟩
  ·exact nS hu
  obtain rfl:=sI hu
  w_fin
  refine(C_max (ns:=(p0::l).map fun p=>(p.1:Int)) (by rw[s1,List.map_map];rfl) int_max.1 int_max.2 ?_)
  w_fin
  refine TE_comp rfl dkk ?_
  w_fin
  refine kSrc.i (.list s2) (TCo_col (f:=fun p=> .bool p.2) rfl rfl dkk dkk (fun _=>rfl) s2 hll fun ρ₂ c₂ hc₂=> ?_)
  w_fin
  refine T2_in_bools (bs:=(p0::l).map (·.2)) (by rw[aA,List.map_map];rfl) ?_
  w_fin
  exact⟨_,aE hle hc₂ _,q⟩
theorem c_law_count {x:X}:∀(m:Nat) {k:K} {p:Nat×Bool} {σ:Sto} {Q:V→Sto→Prop},k.dp≤m→m≤90→k.sz≤1000→k.cnt x=some p→Q (occV p) σ→CallT (d+2 * m+100) (.ref 657) [k.v,.str x.s] σ Q:=by
 intro m
 induction m with
 |zero=>intro k p σ Q hd;exact K.dp0 hd
 |succ m ih=>
  intro k p σ Q hd hm90 hz hp q
  have ih:∀{k':K} {p:Nat×Bool} {σ:Sto} {Q:V→Sto→Prop},k'∈k.parts→k'.cnt x=some p→Q (occV p) σ→CallV (d+2 * (m+1)+99) (.ref 657) [k'.v,.str x.s] σ Q:=fun h hp q=>
   (ih (Nat.le_of_succ_le_succ (nT (K.part_lt h).1 hd)) (l_al hm90) (Nat.le_of_succ_le (nT (K.part_lt h).2 hz)) hp q).v.le (Nat.le_succ _)
  have wi:∀{k':K} {σ:Sto} {Q:V→Sto→Prop},k'∈k.parts→Q (.bool (k'.isw x)) σ→CallV (d+2 * (m+1)+99) (.ref 662) [k'.v,.str x.s] σ Q:=fun h q=>
   (c_law_is_within (d:=d) m (Nat.le_of_succ_le_succ (nT (K.part_lt h).1 hd)) (lt3 (l_al hm90)) (Nat.le_of_succ_le (nT (K.part_lt h).2 hz)) q).v.le (by omega)
  have hks:k.parts.length≤1000:=nT (K.szs_len _) (k.parts_sz.elim (fun h=>Nat.le_of_succ_le (nT h hz)) fun h=>by rw[h];exact Nat.zero_le _)
  induction k using K.casesOn with
  |var y=>
   obtain rfl:=sI hp
   refine aG b.f_law_count_2 rfl dkk dkk ?_
   w_fin
   refine T2_eq (r:=decide (y=x)) (by rw[decide_eq_true_iff];exact⟨fun e=>by rw[e],fun e=>X.inj (V.str.inj e)⟩) y.ok x.ok (Nat.zero_le _) ?_
   w_fin
   refine(C_int_bool ?_)
   w_fin
   by_cases h:y=x
   ·rw[decide_eq_true h];rw[if_pos h] at q;exact q
   ·rw[decide_eq_false h];rw[if_neg h] at q;exact q
  |tup ks=>exact mE hp fun l hl e=>lc_rows (d:=d+2 * (m+1)+93) (w:="tuple") hks hl ih (.inl ⟨rfl,e.symm⟩) q
  |union ks=>exact bE hp fun l hl e=>lc_rows (d:=d+2 * (m+1)+93) (w:="union") hks hl ih (.inr ⟨rfl,e⟩) q
  |name n ks=>
   obtain rfl:=sI hp
   refine CallT.forget (aG b.f_law_count_2 rfl dkk dkk ?_)
   w_fin
   refine T2_in2 (r:=false) dkk ?_
   w_fin
   refine TE_comp rfl dkk ?_
   w_fin
   refine kSrc.i .tup ?_
   refine TCo_pts (ys:=(ks.map (K.isw x)).map V.bool) rfl rfl dkk trivial (fun _=>rfl) (by rw[List.length_map,List.length_map];exact nT (Nat.le_of_eq (Nat.zero_add _)) (lt3 hks)) ?_ ?_
   ·refine All2.eq (All2.of (f:=fun k=>V.bool (k.isw x)) fun k hk=> ?_) (by rw[List.map_map];rfl)
    w_fin
    refine wi hk ?_
    w_fin
    exact⟨rfl,rfl⟩
   intro ρ' c hc
   w_fin
   refine T2_in_bools sps ?_
   w_fin
   rw[isws_any ks]
   exact⟨_,aB hc _,q⟩
  |typ k=>
   obtain rfl:=sI hp
   refine CallT.forget (aG b.f_law_count_2 rfl dkk dkk ?_)
   w_fin
   refine T2_in2 (r:=false) dkk ?_
   w_fin
   refine TE_sliceT ?_
   w_fin
   refine⟨1,rfl,?_⟩
   w_fin
   refine⟨_,rfl,aK (Nat.le_of_ble_eq_true rfl),.inl ⟨1,rfl,rfl,rfl,Nat.le_refl _,Nat.le_of_ble_eq_true rfl,?_⟩⟩
   w_fin
   refine TE_comp rfl dkk ?_
   w_fin
   refine kSrc.i .tup ?_
   refine TCo_pts (ys:=[V.bool (k.isw x)]) rfl rfl dkk trivial (fun _=>rfl) (Nat.le_of_ble_eq_true rfl) ⟨?_,trivial⟩ ?_
   ·w_fin
    refine wi (.head _) ?_
    w_fin
    exact⟨rfl,rfl⟩
   intro ρ' c hc
   w_fin
   refine T2_in_bools (bs:=[k.isw x]) sps ?_
   rw[show[k.isw x].contains true=k.isw x by cases k.isw x<;>rfl]
   w_fin
   exact⟨_,aB hc _,q⟩
  |_=>exact nS hp
end
section
variable {d:Nat}{sc:Nms}{ρ:Loc}{σ:Sto}
theorem St.thaw {h:Heap}{a:Addr}{o:Obj}{es:List (Str×V)}(S:St σ h)(ha:σ a=some (.frz o es)):St (σ.put a (.dict es)) h:=by
 refine an3 (S.obj _ _ ha) fun p lo z1=> ?_;refine x12 z1 fun kvs hd r=> ?_
 refine⟨S.base,fun b e=> ?_,fun b x e=> ?_⟩
 ·by_cases z:b=a
  ·subst z;exact S.apart b (by rw[ha];simp)
  ·rw[aM _ _ z] at e;exact S.apart b e
 ·by_cases z:b=a
  ·replace z:=z.symm;subst z;rw[aA] at e;replace e:=sI e;subst e;exact⟨lo,kvs,Heap.dictOf_iff.mpr ⟨o,p,hd⟩,r⟩
  ·rw[aM _ _ z] at e;exact S.obj b x e
theorem TS1.freezeT {st:Stmt}{a:Addr}{es:List (Str×V)}{Q:Fl→Loc→Sto→Prop}(ha:σ a=some (.dict es))(h:∀o,TS1 d sc st ρ (σ.put a (.frz o es)) fun f ρ' σ'=>σ' a=some (.frz o es)∧Q f ρ' (σ'.put a (.dict es))):TS1 d sc st ρ σ Q:=fun env A s R F S=>by
 refine x11 (S.frozen ha) fun o S'=> ?_
 refine wpAny_mono (h o env A s R (F.put ha) S') (fun f s' ⟨fl,ρ',σ',r,⟨hf,q⟩,F',S'',T⟩=>⟨fl,ρ',_,r,q,F'.put hf,S''.thaw hf,?_⟩) fun _ _ x=>x
 have T':=T.unput ha
 exact⟨T'.keep,fun b e n=>by rw[aM _ _ (fun z=>by rw[z,ha] at n;exact nS' n)];exact T'.dom b e n,T'.live,T'.os,T'.gens⟩
theorem put_back {a:Addr}{x y:AO}(h:σ a=some x):(σ.put a y).put a x=σ:=by
 rw[Sto.put_put];funext b;dsimp only[Sto.put]
 by_cases z:b=a
 ·rw[if_pos z,z,h]
 ·rw[if_neg z]
end
noncomputable def bigN (n:N):Bool:=decide (n= .nInteger∨n= .nReal∨n= .nAny)
noncomputable def m_conc (body:K):List (X×N)→Option Bool
 | []=>some true
 |p::l=>(body.cnt p.1).bind fun c=>if decide (c.1>1)&& !c.2&&bigN p.2 then some false else m_conc body l
noncomputable def tnE (t:List (X×N)):List (Str×V):=t.map fun p=>(p.1.s,(nK p.2).v)
theorem dget_tnE {t:List (X×N)}(hn:(t.map (·.1)).Nodup){p:X×N}(hp:p∈t):dget (tnE t) p.1.s=some (nK p.2).v:=by
 induction t with
 |nil=>cases hp
 |cons q t ih=>
  simp only[List.map_cons,List.nodup_cons] at hn
  show dget ((q.1.s,(nK q.2).v)::tnE t) p.1.s=_
  rw[dget_cons]
  cases hp with
  |head=>rw[if_pos rfl]
  |tail _ hp=>
   rw[if_neg fun e=>hn.1 (by rw[X.inj e];exact List.mem_map_of_mem hp)]
   exact ih hn.2 hp
theorem big_eq (n:N):decide (n.s=("Integer":Str)∨n.s=("Real":Str)∨n.s=("Any":Str))=bigN n:=by induction n using N.casesOn<;>decide +kernel
inductive LcI (body:K)(ta:Addr)(t:List (X×N))(o:Bool)(σ1:Sto)(td:List (X×N))(ρ:Loc)(σ:Sto):Prop
 |mk (e:σ=σ1) (r1:ρ "body"=some body.v) (r2:ρ "table"=some (.ref ta)) (h1:∀p∈td,p∈t) (m:m_conc body td=some o)
section
variable {σ:Sto}
theorem T2_in3 {d:Nat}{a u v z:Str}{Q:V→Sto→Prop}(ha:PyData.strOk a=true)(h:(PyData.strOk u&&PyData.strOk v&&PyData.strOk z)=true)(q:Q (.bool (decide (a=u∨a=v∨a=z))) σ):T2 d (compareOp .In) (.str a) (.tup [.str u,.str v,.str z]) σ Q:=by
 simp only[Bool.and_eq_true] at h
 refine T2_in_tup (r:=decide (a=u∨a=v∨a=z)) ?_ ha (ban h.1.1 (ban h.1.2 (ban h.2 rfl))) (Nat.zero_le _) q
 rw[decide_eq_true_iff]
 simp
set_option tactic.hygienic true in
theorem c_law_are_concrete {ta:Addr}{body:K}{t:List (X×N)}{o:Bool}{Q:V→Sto→Prop}(ht:σ ta=some (.dict (tnE t)))(hn:(t.map (·.1)).Nodup)(hd:body.dp≤10)(hz:body.sz≤1000)(hm:m_conc body t=some o)(q:Q (.bool o) σ):
  CallT (d+121) (.ref 669) [body.v,.ref ta] σ Q:=by
 refine aG b.f_law_are_concrete_2 rfl dkk dkk ?_
 refine TS_cons (TS1.freezeT ht fun ob=> ?_)
 have hf:=aA σ ta (.frz ob (tnE t))
 have hb:(σ.put ta (.frz ob (tnE t))).put ta (.dict (tnE t))=σ:=put_back ht
 generalize σ.put ta (.frz ob (tnE t))=σ1 at hf hb⊢
 refine TS_for ?_
 got_up
 refine kSrc.i (.keys hf) ?_
 got_up
 refine TFor_rec (f:=fun p:X×N=>V.str p.1.s) (LcI body ta t o σ1) (fun σ'=>σ'=σ1) (fun _ _ _ h=>h.casesOn fun e _ _ _ _=>e) ?_ ?_ (l:=t) (List.map_map ..) (fun σ' e=>e▸hf) ⟨rfl,by rfl,by rfl,fun _ h=>h,hm⟩
 ·intro p td ρ' σ' hI
  refine hI.casesOn fun e r1 r2 h1 e2=> ?_
  subst e
  clear hI
  obtain⟨y,n⟩:=p
  refine bE e2 fun c hc e2=> ?_
  obtain⟨c1,c2⟩:=c
  got_up
  refine((c_law_count (d:=d) 10 hd (by decide) hz hc ?_).v)
  got_up
  refine T2_gt_int ?_
  got_up
  have hcont:∀{ρ'':Loc},ρ'' "body"=some body.v→ρ'' "table"=some (.ref ta)→m_conc body td=some o→LcI body ta t o σ' td ρ'' σ':=fun r1 r2 e=>⟨rfl,r1,r2,fun p hp=>h1 p (.tail _ hp),e⟩
  by_cases h2:c1>1
  ·rw[show decide ((c1:Int)>1)=true by simp;lia]
   got_up
   induction c2 using Bool.casesOn with
   |true=>
    rw[show(decide ((c1,true).1>1)&& !(c1,true).2&&bigN n)=false by simp] at e2
    got_up
    exact hcont (by exact r1) (by exact r2) e2
   |false=>
    got_up
    refine T2_item_frz hf (dget_tnE hn (h1 (y,n) (.head _))) ?_
    got_up
    refine T2_in3 n.ok dkk ?_
    got_up
    rw[big_eq]
    induction hbg:bigN n using Bool.casesOn with
    |true=>
     rw[show(decide ((c1,false).1>1)&& !(c1,false).2&&bigN n)=true by simp[h2,hbg]] at e2
     replace e2:=sI e2;subst e2
     got_up
     refine⟨hf,?_⟩
     rw[hb]
     got_up
     exact q
    |false=>
     rw[show(decide ((c1,false).1>1)&& !(c1,false).2&&bigN n)=false by simp[hbg]] at e2
     got_up
     exact hcont (by exact r1) (by exact r2) e2
  ·rw[show decide ((c1:Int)>1)=false by simp;lia]
   rw[show(decide ((c1,c2).1>1)&& !(c1,c2).2&&bigN n)=false by simp[h2]] at e2
   got_up
   exact hcont (by exact r1) (by exact r2) e2
 ·intro ρ' σ' hI
  refine hI.casesOn fun e _ _ _ e2=> ?_
  subst e
  obtain rfl:=sI e2
  refine⟨hf,?_⟩
  rw[hb]
  got_up
  exact q
noncomputable def tbK (t:XTb):X→Option K:=fun x=>t.lookup x
theorem tbE_tb (t:XTb):Tb (tbE t) (tbK t):=fun x=>look_tb t x
noncomputable abbrev Bnds:=List (X×K×K)
noncomputable def m_left (t:XTb):Bnds→Option Bnds
 | []=>some []
 |p::r=>(tbK t p.1).elim ((p.2.2.sub (tbK t)).bind fun u=>(m_left t r).map ((p.1,p.2.1,u):: ·)) fun _=>m_left t r
noncomputable def m_each (t:XTb) (lf:Bnds):Bnds→Option Bool
 | []=>some true
 |p::r=>(tbK t p.1).elim (m_each t lf r) fun k=>(p.2.2.sub (tbK t)).bind fun u=>(m_sub k (closedK lf u)).bind fun o=>match o with
   |false=>some false
   |true=>m_each t lf r
noncomputable def bndsOk (bs:Bnds):Bool:=bs.all fun p=>decide (p.2.2.dp≤10)&&decide (p.2.2.sz≤100)
noncomputable def upFew (t:XTb) (lf:Bnds) (p:X×K×K):Bool:=match p.2.2.sub (tbK t) with
 |some u=>decide (szB lf+u.sz≤900)
 |none=>true
noncomputable def m_told_right (a:K) (bs:Bnds) (body:K) (t:XTb):Option Bool:=
 if bndsOk bs&&decide (body.dp≤10)&&decide (body.sz≤100)&&decide (bs.length≤50)&&decide (t.length≤50) then(m_left t bs).bind fun lf=>(body.sub (tbK t)).bind fun bd=>
  if szB lf+bd.sz≤900∧bs.all (upFew t lf)=true then(m_sub a (closedK lf bd)).bind fun o=>match o with
   |false=>some false
   |true=>m_each t lf bs
  else none
 else none
theorem m_left_len {t:XTb}{bs:Bnds}:∀{lf:Bnds},m_left t bs=some lf→lf.length≤bs.length:=by
 induction bs with
 |nil=>exact fun h=>sI h▸Nat.le_refl _
 |cons p r ih=>
  intro lf h
  have h:(tbK t p.1).elim ((p.2.2.sub (tbK t)).bind fun u=>(m_left t r).map ((p.1,p.2.1,u):: ·)) (fun _=>m_left t r)=some lf:=h
  induction hy:tbK t p.1 using Option.casesOn with
  |some k=>rw[hy] at h;exact Nat.le_succ_of_le (ih h)
  |none=>rw[hy] at h;exact bE h fun u _ h=>mE h fun l h2 e=>e▸Nat.succ_le_succ (ih h2)
theorem bndOk {bs:Bnds}(h:bndsOk bs=true){p:X×K×K}(hp:p∈bs):p.2.2.dp≤10∧p.2.2.sz≤100:=
 an2 (bA (lA h p hp)) fun h1 h2=>⟨oD h1,oD h2⟩
inductive LlI (t:XTb)(bs lf:Bnds)(σ0:Sto)(td:Bnds)(acc:List V)(σ:Sto):Prop
 |mk (lf' dn:Bnds) (e:σ=σ0) (ea:acc=dn.map bV) (h1:m_left t td=some lf') (h2:dn++lf'=lf) (h3:∀p∈td,p∈bs) (h4:acc.length+td.length≤50)
inductive LeI (t:XTb)(bs lf:Bnds)(o:Bool)(xk ta la:Addr)(σ0:Sto)(td:Bnds)(ρ:Loc)(σ:Sto):Prop
 |mk (e:σ=σ0) (q1:ρ "kinds"=some (.ref xk)) (q2:ρ "told"=some (.ref ta)) (q3:ρ "left"=some (.ref la)) (h1:m_each t lf td=some o) (h3:∀p∈td,p∈bs)
theorem c_law_told_right {xk ba ta:Addr}{a body:K}{bs:Bnds}{t:XTb}{o:Bool}{Q:V→Sto→Prop}(hk:KsAt σ xk dcT)(hb:σ ba=some (.list (bs.map bV)))(ht:σ ta=some (.dict (tbE t)))(hm:m_told_right a bs body t=some o)(q:Q (.bool o) σ):
  CallT (d+40) (.ref 647) [.ref xk,a.v,.ref ba,body.v,.ref ta] σ Q:=by
 refine iE hm fun hok hm=>bE hm fun lf hlf hm=>bE hm fun bd hbd hm=>iE hm fun hsz hm=>bE hm fun r hr hm=> ?_
 have A:=fun {a b:Bool}=>(Bool.and_eq_true_iff (x:=a) (y:=b)).mp
 refine an2 (A hok) fun hok k5=>an2 (A hok) fun hok k4=>an2 (A hok) fun hok k3=>an2 (A hok) fun k1 k2=> ?_
 have k2:=oD k2
 have k3:=oD k3
 have k4:=oD k4
 have hel:(tbE t).length≤1000:=by rw[tbE,List.length_map];exact lt3 (oD k5)
 clear A k5 hok
 refine CallT.forget (aG b.f_law_told_right_5 rfl dkk dkk ?_)
 got_up
 refine TS_compx (.inl dkk) rfl dkk ?_
 got_up
 refine kSrc.i (.list hb) ?_
 refine TCo_rec (f:=bV) (LlI t bs lf σ) (fun σ'=>σ'=σ) (fun ρ=>ρ "told"=some (.ref ta)) (fun p ρ=>((ρ.put "name" (.str p.1.s)).put "lower" p.2.1.v).put "upper" p.2.2.v) rfl rfl (fun _ _ _ h=>h.casesOn fun _ _ e _ _ _ _ h4=>⟨e,lt3 h4⟩)
  (fun _ _ _=>TL_tup (ns:=["name","lower","upper"]) rfl rfl (by rfl) dkk) (fun _ _ h=>h) ?_ ?_ (l:=bs) rfl (fun σ' e=>e▸hb) (by rfl) ⟨lf,[],rfl,rfl,hlf,rfl,fun _ h=>h,nT (Nat.le_of_eq (Nat.zero_add _)) k4⟩
 ·intro p td acc σ' ρ h hj
  refine h.casesOn fun lf' dn e ea h1 h2 h3 h4=> ?_
  subst e
  have hup:=bndOk k1 (h3 p (.head _))
  have h3':∀p∈td,p∈bs:=fun p hp=>h3 p (.tail _ hp)
  refine TB_cmp ?_
  got_up
  refine T2_notin_dict ht ?_
  rw[tbE_tb t p.1]
  have h1:(tbK t p.1).elim _ _=_:=h1
  induction hy:tbK t p.1 using Option.casesOn with
  |some k=>
   rw[hy] at h1
   got_up
   exact⟨lf',dn,rfl,ea,h1,h2,h3',Nat.le_of_succ_le h4⟩
  |none=>
   rw[hy] at h1
   refine bE h1 fun u h5 h1=>mE h1 fun l' h6 e=> ?_
   got_up
   show TE _ _ _ (((ρ.put "name" (.str p.1.s)).put "lower" p.2.1.v).put "upper" p.2.2.v) σ' _
   got_up
   refine(((c_substituted (d:=d) 10 hup.1 (lt3 hup.2) h5 (tbE_tb t) hel ht ?_).v.le (by omega)))
   got_up
   exact⟨l',dn++ [(p.1,p.2.1,u)],rfl,by rw[List.map_append,ea];rfl,h6,by rw[List.append_assoc,←h2,←e];rfl,h3',by rw[List.length_append,Nat.add_assoc,Nat.add_comm [_].length];exact h4⟩
 intro acc ρ' σ' h
 refine h.casesOn fun lf' dn e ea h1 h2 _ _=> ?_
 subst e;subst ea
 obtain rfl:=sI h1
 rw[List.append_nil] at h2
 subst h2
 intro la hla
 have hle:=aB hla (.list (dn.map bV))
 have hL:=aA σ' la (.list (dn.map bV))
 generalize σ'.put la (.list (dn.map bV))=σ1 at hle hL⊢
 have ht1:=hle _ _ ht
 have hb1:=hle _ _ hb
 have hk1:=hk.mono hle
 have hll:dn.length≤100:=nT (m_left_len hlf) (lt3 k4)
 clear hk hb ht hla h h1
 got_up
 refine(((c_substituted (d:=d) 10 (k:=body) k2 (lt3 k3) hbd (tbE_tb t) hel ht1 ?_).v.le (by omega)))
 got_up
 refine(((c_closed hL hll hsz.1 ?_).v.le (l_d)))
 got_up
 refine(((c_is_subtype hk1 hr ?_).v.le (l_d)))
 induction r using Bool.casesOn with
 |false=>
  obtain rfl:=sI hm
  got_up
  exact⟨_,hle,q⟩
 |true=>
 clear hr hbd k2 k3
 got_up
 refine TS_for ?_
 got_up
 refine kSrc.i (.list hb1) ?_
 refine TFor_rec (f:=bV) (LeI t bs dn o xk ta la σ1) (fun σ'=>σ'=σ1) (fun _ _ _ h=>h.casesOn fun e _ _ _ _ _=>e) ?_ ?_ (l:=bs) rfl (fun σ' e=>e▸hb1) ⟨rfl,by rfl,by rfl,by rfl,hm,fun _ h=>h⟩
 ·intro p td ρ1 σ2 h
  refine h.casesOn fun e q1 q2 q3 e2 h3=> ?_
  subst e
  have hup:=bndOk k1 (h3 p (.head _))
  have hcont:m_each t dn td=some o→LeI t bs dn o xk ta la σ2 td (((ρ1.put "name" (.str p.1.s)).put "lower" p.2.1.v).put "upper" p.2.2.v) σ2:=fun e=>⟨rfl,q1,q2,q3,e,fun p hp=>h3 p (.tail _ hp)⟩
  have e2:(tbK t p.1).elim _ _=_:=e2
  got_up
  refine T2_in_dict ht1 ?_
  rw[tbE_tb t p.1]
  induction hy:tbK t p.1 using Option.casesOn with
  |none=>
   rw[hy] at e2
   got_up
   exact hcont e2
  |some k=>
   rw[hy] at e2
   refine bE e2 fun u hu e2=>bE e2 fun r hr e2=> ?_
   have hsz2:szB dn+u.sz≤900:=by
    have:=lA hsz.2 p (h3 _ (.head _))
    unfold upFew at this
    rw[hu] at this
    exact oD this
   got_up
   refine T2_item_dict ht1 (show dget (tbE t) p.1.s=some k.v by rw[tbE_tb t p.1,hy];rfl) ?_
   got_up
   refine(((c_substituted (d:=d) 10 (k:=p.2.2) hup.1 (lt3 hup.2) hu (tbE_tb t) hel ht1 ?_).v.le (by omega)))
   got_up
   refine(((c_closed hL hll hsz2 ?_).v.le (l_d)))
   got_up
   refine(((c_is_subtype hk1 hr ?_).v.le (l_d)))
   induction r using Bool.casesOn with
   |false=>
    obtain rfl:=sI e2
    got_up
    exact⟨_,hle,q⟩
   |true=>
    got_up
    exact hcont e2
 ·intro ρ1 σ2 h
  refine h.casesOn fun e q1 q2 q3 e2 h3=> ?_
  subst e
  obtain rfl:=sI e2
  got_up
  exact⟨_,hle,q⟩
noncomputable def nmT (n m:N):XTb:=[(.T1,nK n),(.S2,nK m)]
noncomputable def thenB (o k:Option Bool):Option Bool:=o.bind fun b=>match b with
 |false=>some false
 |true=>k
noncomputable def m_hit (a up bound body:K) (n m:N):Option Bool:=thenB (m_sub (nK n) up) ((bound.sub (tbK (nmT n m))).bind fun u=>thenB (m_sub (nK m) u) ((body.sub (tbK (nmT n m))).bind fun bd=>thenB (m_sub a bd) (m_conc body [(.T1,n),(.S2,m)])))
noncomputable def m_hits (f:N→Option Bool):List N→Option Bool
 | []=>some true
 |n::l=>(f n).bind fun b=>match b with
  |true=>some false
  |false=>m_hits f l
noncomputable def m_none2 (f:N→Option Bool):List N→Option Bool
 | []=>some true
 |n::l=>thenB (f n) (m_none2 f l)
noncomputable def m_none (a up bound body:K):Option Bool:=if(decide (bound.dp≤10)&&decide (bound.sz≤100)&&decide (body.dp≤10)&&decide (body.sz≤100)) then
 m_none2 (fun n=>m_hits (m_hit a up bound body n) [.nBool,.nString,.nInteger]) [.nInt64,.nString,.nReal] else none
structure NrF (xk ba cs:Addr)(a body:K)(ρ:Loc):Prop where
 r1:ρ "kinds"=some (.ref xk)
 r2:ρ "brought"=some a.v
 r3:ρ "binders"=some (.ref ba)
 r4:ρ "body"=some body.v
 r5:ρ "some"=some (.ref cs)
inductive NrO (f:N→Option Bool)(o:Bool)(xk ba cs:Addr)(a body:K)(σ2:Sto)(td:List N)(ρ:Loc)(σ:Sto):Prop
 |mk (l:σ2.le σ) (F:NrF xk ba cs a body ρ) (m:m_none2 f td=some o)
inductive NrI (f:N→Option Bool)(o:Bool)(xk ba cs:Addr)(a body:K)(n:N)(σ2:Sto)(td:List N)(ρ:Loc)(σ:Sto):Prop
 |mk (l:σ2.le σ) (F:NrF xk ba cs a body ρ) (r6:ρ "one"=some (nK n).v) (m:m_hits f td=some o)
noncomputable def nrFor:Stmt:=nthS (aI (defAt 61)) 1
noncomputable def nrIn:Stmt:=nthS (aI nrFor) 0
theorem nr_body {xk ba:Addr}{a up bound body:K}{n m:N}{o:Bool}{ρ:Loc}{Q:Fl→Loc→Sto→Prop}(hk:KsAt σ xk dcT)(hb:σ ba=some (.list [bV (.T1,.bot,up),bV (.S2,.bot,bound)]))(h1:bound.dp≤10)(h2:bound.sz≤100)(h3:body.dp≤10)(h4:body.sz≤100)(hm:m_hit a up bound body n m=some o)
  (r1:ρ "kinds"=some (.ref xk)) (r2:ρ "brought"=some a.v) (r3:ρ "binders"=some (.ref ba)) (r4:ρ "body"=some body.v) (r5:ρ "one"=some (nK n).v) (r6:ρ "other"=some (nK m).v)
  (q1:o=true→∀ρ' σ',σ.le σ'→Q (.ret (.bool false)) ρ' σ') (q2:o=false→∀σ' v,σ.le σ'→Q .next (ρ.put "table" v) σ'):TS (d+122) (aH (defAt 61)) (aI nrIn) ρ σ Q:=by
 refine TS_cons ?_
 refine TS_loc (Q:=_) (e:=Expr.Dict _ _ _) ?_ ?_ ?_
 ·decide +kernel
 rotate_left
 ·intro env;kernel_rfl
 with_reducible refine TE_dict b.low ?_ ?_ ?_ ?_ ?_
 ·rfl
 ·rfl
 ·exact List.cons_ne_nil _ _
 ·exact Nat.le_of_ble_eq_true rfl
 with_reducible refine TPs_cons ?_
 w_fin
 refine⟨_,rfl,?_⟩
 w_fin
 with_reducible refine TPs_cons ?_
 w_fin
 refine⟨_,rfl,?_⟩
 w_fin
 with_reducible refine TPs_nil fun tc htc=> ?_
 have e0:dmerge [(Str.ofString "T.1",(nK n).v),(Str.ofString "S.2",(nK m).v)]=tbE (nmT n m):=dmerge_nodup _ (by simp;decide +kernel)
 change thenS _ _ _ _ _ _ (σ.put tc (.dict (dmerge [(Str.ofString "T.1",(nK n).v),(Str.ofString "S.2",(nK m).v)])))
 rw[e0]
 have hle:=aB htc (.dict (tbE (nmT n m)))
 have hT:=aA σ tc (.dict (tbE (nmT n m)))
 generalize σ.put tc (.dict (tbE (nmT n m)))=σ1 at hle hT⊢
 have hb1:=hle _ _ hb
 have hk1:=hk.mono hle
 have hel:(tbE (nmT n m)).length≤1000:=by simp[tbE,nmT]
 have q2:=fun e=>q2 e σ1 (.ref tc) hle
 have q1:=fun {ρ'} e=>q1 e ρ' σ1 hle
 clear htc hle hb hk
 refine bE hm fun rA hA hm=> ?_
 w_fin
 refine aP hb1 (by decide) (by decide) (by rfl) ?_
 w_fin
 refine(((c_is_subtype hk1 hA ?_).v.le (l_d)))
 induction rA using Bool.casesOn with
 |false=>
  w_fin
  exact q2 (sI hm).symm
 |true=>
 refine bE hm fun u hB hm=>bE hm fun rC hC hm=> ?_
 w_fin
 refine aP hb1 (by decide) (by decide) (by rfl) ?_
 w_fin
 refine(((c_substituted (d:=d) 10 (k:=bound) h1 (lt3 h2) hB (tbE_tb _) hel hT ?_).v.le (by omega)))
 w_fin
 refine(((c_is_subtype hk1 hC ?_).v.le (l_d)))
 induction rC using Bool.casesOn with
 |false=>
  w_fin
  exact q2 (sI hm).symm
 |true=>
 refine bE hm fun bd hD hm=>bE hm fun rE hE hm=> ?_
 w_fin
 refine(((c_substituted (d:=d) 10 (k:=body) h3 (lt3 h4) hD (tbE_tb _) hel hT ?_).v.le (by omega)))
 w_fin
 refine(((c_is_subtype hk1 hE ?_).v.le (l_d)))
 induction rE using Bool.casesOn with
 |false=>
  w_fin
  exact q2 (sI hm).symm
 |true=>
 w_fin
 refine(((c_law_are_concrete (t:=[(.T1,n),(.S2,m)]) hT (by simp) h3 (lt3 h4) hm ?_).v.le (l_d)))
 induction o using Bool.casesOn with
 |true=>
  w_fin
  exact q1 rfl
 |false=>
  w_fin
  exact q2 rfl
noncomputable abbrev nrN:List N:=[.nInt64,.nBool,.nString,.nInteger,.nReal,.nAny]
theorem c_law_none_right {xk ba:Addr}{a up bound body:K}{o:Bool}{Q:V→Sto→Prop}(hk:KsAt σ xk dcT)(hb:σ ba=some (.list [bV (.T1,.bot,up),bV (.S2,.bot,bound)]))(hm:m_none a up bound body=some o)(q:Q (.bool o) σ):
  CallT (d+123) (.ref 652) [.ref xk,a.v,.ref ba,body.v] σ Q:=by
 refine iE hm fun hok hm=> ?_
 have A:=fun {a b:Bool}=>(Bool.and_eq_true_iff (x:=a) (y:=b)).mp
 refine an2 (A hok) fun hok k4=>an2 (A hok) fun hok k3=>an2 (A hok) fun k1 k2=> ?_
 clear A hok
 refine CallT.forget (aG b.f_law_none_right_4 rfl dkk dkk ?_)
 got_up
 refine TS_compx (.inl dkk) rfl dkk ?_
 got_up
 refine kSrc.i .tup ?_
 have pt:∀(n:N) {P:PV},P (nK n).v σ→CallV (d+122) (.ref 609) [.str n.s] σ P:=fun n {P} p=>(c_law_name (n:=n) p).v.le (l_d)
 refine TCo_pts (ys:=nrN.map fun n=>(nK n).v) rfl rfl dkk trivial (fun _=>rfl) (Nat.le_of_ble_eq_true rfl) ⟨?_,?_,?_,?_,?_,?_,trivial⟩ ?_
 ·got_up;exact(pt .nInt64 (Lf.i ⟨rfl,rfl⟩))
 ·got_up;exact(pt .nBool (Lf.i ⟨rfl,rfl⟩))
 ·got_up;exact(pt .nString (Lf.i ⟨rfl,rfl⟩))
 ·got_up;exact(pt .nInteger (Lf.i ⟨rfl,rfl⟩))
 ·got_up;exact(pt .nReal (Lf.i ⟨rfl,rfl⟩))
 ·got_up;exact(pt .nAny (Lf.i ⟨rfl,rfl⟩))
 intro ρ0 cs hcs
 have hle:=aB hcs (.list ([]++nrN.map fun n=>(nK n).v))
 have hL:=aA σ cs (.list ([]++nrN.map fun n=>(nK n).v))
 generalize σ.put cs (.list ([]++nrN.map fun n=>(nK n).v))=σ1 at hle hL⊢
 clear pt hcs
 got_up
 refine TS_for (TE_slice ?_)
 got_up
 refine⟨_,rfl,?_⟩
 got_up
 refine⟨cs,_,rfl,hL,aK (Nat.le_of_ble_eq_true rfl),by decide,fun c1 hc1=> ?_⟩
 rw[show pickL ([]++nrN.map fun n=>(nK n).v) none none (some 2)=[N.nInt64,.nString,.nReal].map fun n=>(nK n).v by rfl]
 have hL0:=aB hc1 (.list ([N.nInt64,.nString,.nReal].map fun n=>(nK n).v)) _ _ hL
 have hle2:=aD hle (aB hc1 (.list ([N.nInt64,.nString,.nReal].map fun n=>(nK n).v)))
 have hL1:=aA σ1 c1 (.list ([N.nInt64,.nString,.nReal].map fun n=>(nK n).v))
 generalize σ1.put c1 (.list ([N.nInt64,.nString,.nReal].map fun n=>(nK n).v))=σ2 at hL0 hle2 hL1⊢
 clear hc1 hL hle
 refine kSrc.i (.list hL1) ?_
 refine TFor_rec (f:=fun n=>(nK n).v) (NrO (fun n=>m_hits (m_hit a up bound body n) [.nBool,.nString,.nInteger]) o xk ba cs a body σ2) (fun σ'=>σ2.le σ') (fun _ _ _ h=>h.casesOn fun l _ _=>l) ?_ ?_ (l:=[.nInt64,.nString,.nReal]) rfl (fun σ' h=>h _ _ hL1) ⟨aQ _,⟨by rfl,by rfl,by rfl,by rfl,by rfl⟩,hm⟩
 ·intro n td ρ1 σ3 h
  refine h.casesOn fun h3 F e2=>bE e2 fun r hr e2=> ?_
  obtain⟨r1,r2,r3,r4,r5⟩:=F
  have hL3:=h3 _ _ hL0
  got_up
  refine TS_for (TE_slice ?_)
  got_up
  refine⟨_,rfl,?_⟩
  got_up
  refine⟨_,rfl,?_⟩
  got_up
  refine⟨cs,_,rfl,hL3,aK (Nat.le_of_ble_eq_true rfl),by decide,fun c2 hc2=> ?_⟩
  rw[show pickL ([]++nrN.map fun n=>(nK n).v) (some 1) (some 4) none=[N.nBool,.nString,.nInteger].map fun n=>(nK n).v by rfl]
  have hl4:=aD h3 (aB hc2 (.list ([N.nBool,.nString,.nInteger].map fun n=>(nK n).v)))
  have hL4:=aA σ3 c2 (.list ([N.nBool,.nString,.nInteger].map fun n=>(nK n).v))
  generalize σ3.put c2 (.list ([N.nBool,.nString,.nInteger].map fun n=>(nK n).v))=σ4 at hl4 hL4⊢
  clear hc2 hL3 h3
  refine kSrc.i (.list hL4) ?_
  refine TFor_rec (f:=fun n=>(nK n).v) (NrI (m_hit a up bound body n) r xk ba cs a body n σ4) (fun σ'=>σ4.le σ') (fun _ _ _ h=>h.casesOn fun l _ _ _=>l) ?_ ?_ (l:=[.nBool,.nString,.nInteger]) rfl (fun σ' h=>h _ _ hL4) ⟨aQ _,⟨by exact r1,by exact r2,by exact r3,by exact r4,by exact r5⟩,by rfl,hr⟩
  ·intro m td2 ρ2 σ5 h
   refine h.casesOn fun h5 F s6 e4=>bE e4 fun hv hh e4=> ?_
   obtain⟨s1,s2,s3,s4,s5⟩:=F
   have hle5:=aD hle2 (aD hl4 h5)
   refine TA_loc dkk ?_
   refine nr_body (n:=n) (m:=m) (o:=hv) (hk.mono hle5) (hle5 _ _ hb) (oD k1) (oD k2) (oD k3) (oD k4) hh (by exact s1) (by exact s2) (by exact s3) (by exact s4) (by exact s6) (by rfl) (fun e ρ' σ' hl'=> ?_) fun e σ' v hl'=> ?_
   ·subst e
    obtain rfl:=sI e4
    obtain rfl:=sI e2
    got_up
    exact⟨_,aD hle5 hl',q⟩
   ·subst e
    exact⟨aD h5 hl',⟨by exact s1,by exact s2,by exact s3,by exact s4,by exact s5⟩,by exact s6,e4⟩
  ·intro ρ2 σ5 h
   refine h.casesOn fun h5 F s6 e4=> ?_
   obtain rfl:=sI e4
   got_up
   exact⟨aD hl4 h5,F,e2⟩
 ·intro ρ1 σ3 h
  refine h.casesOn fun h3 F e2=> ?_
  obtain rfl:=sI e2
  got_up
  exact⟨_,aD hle2 h3,q⟩
noncomputable def lowN (n:N):List N:= .nNothing::lowsOf n
noncomputable def PartOk (n m:N) (way:Nat) (k:K):Prop:=
 (way=0∧∃l∈lowN n,k=nK l)∨(way=1∧∃l∈lowN m,k=nK l)∨(way=5∧∃l∈lowN n,∃l'∈lowN m,k= .tup [nK l,nK l'])∨(way=6∧((∃l∈lowN n,k=nK l)∨k=nK .nString))∨
 (way=7∧(k=nK .nInt64∨k=nK .nBool∨k=nK .nString))∨((way=2∨way=3∨way=4∨way=8)∧(partsK (.nm n) (.nm m))[way]? =some k)
noncomputable def PartsOk (n m:N):List Nat→List K→Prop
 | [],[]=>True
 |w::ws,k::ks=>PartOk n m w k∧PartsOk n m ws ks
 |_,_=>False
theorem PartsOk.snoc {n m:N}{w:Nat}{k:K}(h:PartOk n m w k):∀{ws:List Nat} {ks:List K},PartsOk n m ws ks→PartsOk n m (ws++ [w]) (ks++ [k])
 | [],[],_=>⟨h,trivial⟩
 |_::_,_::_,⟨a,r⟩=>⟨a,r.snoc h⟩
theorem PartsOk.len {n m:N}:∀{ws:List Nat} {ks:List K},PartsOk n m ws ks→ks.length=ws.length
 | [],[],_=>rfl
 |_::_,_::_,⟨_,r⟩=>by simp[r.len]
noncomputable def lmFor:Stmt:=nthS (aI (defAt 59)) 1
noncomputable def Chg (σ σ':Sto) (c:Addr):Prop:=∀a o,σ a=some o→a≠c→σ' a=some o
theorem T2_in3i {d:Nat}{a u v z:Int}{Q:V→Sto→Prop}(q:Q (.bool (decide (a=u∨a=v∨a=z))) σ):T2 d (compareOp .In) (.int a) (.tup [.int u,.int v,.int z]) σ Q:=by
 refine T2_in_tup (r:=decide (a=u∨a=v∨a=z)) ?_ rfl rfl (Nat.zero_le _) q
 rw[decide_eq_true_iff]
 simp
theorem lm_body {c pl:Addr}{n m:N}{way:Nat}{ks:List K}{ρ:Loc}{Q:Fl→Loc→Sto→Prop}(hn:n∈ [N.nInt64,.nInteger,.nReal,.nBool,.nAny,.nString])(hm:m∈ [N.nInt64,.nInteger,.nReal,.nBool,.nAny,.nString])(hc:CaskAt σ c)(hpl:σ pl=some (.list (K.vs ks)))(hpc:pl≠c)(hz:ks.length≤100)(hw:way<9)
  (r1:ρ "cask"=some (.ref c)) (r2:ρ "one"=some (nK n).v) (r3:ρ "other"=some (nK m).v) (r4:ρ "parts"=some (.ref pl)) (r5:ρ "way"=some (.int way))
  (q:∀ρ' σ' k,(∀y:Str,y≠Str.ofString "low"→y≠Str.ofString "down"→ρ' y=ρ y)→PartOk n m way k→(∀a o,σ a=some o→a≠c→a≠pl→σ' a=some o)→CaskAt σ' c→σ' pl=some (.list (K.vs (ks++ [k])))→Q .next ρ' σ'):
  TS (d+10) (aH (defAt 59)) (aI lmFor) ρ σ Q:=by
 refine TS_cons (TS_sw true (by rfl) dkk (by rfl) ?_)
 got_up
 refine(((c_law_low hc hn fun l σ1 hl ch1 hc1=> ?_).v.le (l_d)))
 got_up
 refine(((c_law_low hc1 hm fun l' σ2 hl' ch2 hc2=> ?_).v.le (l_d)))
 got_up
 have ch:Chg σ σ2 c:=fun a o e n=>ch2 a o (ch1 a o e n) n
 have hp2:=ch _ _ hpl hpc
 have fin:∀(ρ':Loc) (σ3:Sto) (k:K),(∀y:Str,y≠Str.ofString "low"→y≠Str.ofString "down"→ρ' y=ρ y)→PartOk n m way k→Chg σ2 σ3 c→CaskAt σ3 c→Q .next ρ' (σ3.put pl (.list (K.vs ks++ [k.v]))):=by
  intro ρ' σ3 k hρ hk ch3 hc3
  have hne:c≠pl:=fun e=>hpc e.symm
  refine q ρ' _ k hρ hk (fun a o e n1 n2=>aF (ch3 a o (ch a o e n1) n1) n2) ?_ (by rw[aA];simp[K.vs_map])
  refine x24 hc3 fun x y z1 z2 z3 z4=> ?_
  exact⟨x,y,z1,z2,z3,aF z4 hne⟩
 have hlen:(K.vs ks).length≤1000:=by rw[aO];exact lt3 hz
 refine T2_in3i ?_
 got_up
 by_cases hA:way=0∨way=1∨way=5
 ·rw[show decide ((way:Int)=0∨(way:Int)=1∨(way:Int)=5)=true by simp;lia]
  got_up
  refine Ml_bi (GM_append hp2) ?_
  got_up
  refine fun c1 h1=> ?_
  got_up
  have hl1:=aB h1 (.list [(nK l).v,(nK l').v])
  refine(((c_tuple_of (d:=d) (l:=[(nK l).v,(nK l').v]) sps (by simp) ?_).v.le (l_d)))
  got_up
  refine fun c2 h2=> ?_
  got_up
  have hl2:=aB h2 (.list [(nK l).v,(nK l').v,(nK l).v,(nK l).v,(nK l).v,(K.tup [nK l,nK l']).v])
  have hl12:=aD hl1 hl2
  obtain⟨k,hk1,hk2⟩:∃k:K,[(nK l).v,(nK l').v,(nK l).v,(nK l).v,(nK l).v,(K.tup [nK l,nK l']).v][(way:Int).toNat]? =some k.v∧PartOk n m way k:=by
   rcases hA with rfl|rfl|rfl
   ·exact⟨_,rfl,.inl ⟨rfl,l,hl,rfl⟩⟩
   ·exact⟨_,rfl,.inr (.inl ⟨rfl,l',hl',rfl⟩)⟩
   ·exact⟨_,rfl,.inr (.inr (.inl ⟨rfl,l,hl,l',hl',rfl⟩))⟩
  refine aP (x:=k.v) sps (by lia) (by lia) hk1 ?_
  got_up
  refine C_append (hl12 _ _ hp2) (aK (lt3 hlen)) ⟨rfl,?_⟩
  got_up
  exact fin _ _ k (fun y h1 h2=>by show((ρ.put "down" (nK l').v).put "low" (nK l).v) y=ρ y;dsimp only[Loc.put];rw[if_neg h1,if_neg h2]) hk2 (fun a o e _=>hl12 a o e) (hc2.mono hl12)
 rw[show decide ((way:Int)=0∨(way:Int)=1∨(way:Int)=5)=false by simp;lia]
 got_up
 refine T2_eqI ?_
 got_up
 by_cases h6:way=6
 ·rw[show decide ((way:Int)=6)=true by simp;lia]
  got_up
  refine Ml_bi (GM_append hp2) ?_
  got_up
  refine(((c_law_name (n:= .nString) ?_).v.le (l_d)))
  got_up
  refine fun c1 h1=> ?_
  got_up
  have hl1:=aB h1 (.list [(nK l).v,(nK .nString).v])
  have e1:=aA σ2 c1 (.list [(nK l).v,(nK .nString).v])
  have hc1c:c1≠c:=fun e=>by
   refine x24 hc2 fun x y z1 z2 z3 z4=> ?_
   rw[e,z4] at h1;exact nS' h1
  refine(((c_law_pour (top:=2) (hc2.mono hl1) (by decide) (by decide) fun j σ3 hj ch3 hc3=> ?_).v.le (l_d)))
  got_up
  obtain⟨k,hk1,hk2⟩:∃k:K,[(nK l).v,(nK .nString).v][(j:Int).toNat]? =some k.v∧PartOk n m way k:=by
   rcases(show j=0∨j=1 by lia) with rfl|rfl
   ·exact⟨_,rfl,.inr (.inr (.inr (.inl ⟨h6,.inl ⟨l,hl,rfl⟩⟩)))⟩
   ·exact⟨_,rfl,.inr (.inr (.inr (.inl ⟨h6,.inr rfl⟩)))⟩
  refine aP (x:=k.v) (ch3 _ _ e1 hc1c) (by lia) (by lia) hk1 ?_
  got_up
  refine C_append (ch3 _ _ (hl1 _ _ hp2) hpc) (aK (lt3 hlen)) ⟨rfl,?_⟩
  got_up
  exact fin _ _ k (fun y h1 h2=>by show((ρ.put "down" (nK l').v).put "low" (nK l).v) y=ρ y;dsimp only[Loc.put];rw[if_neg h1,if_neg h2]) hk2 (fun a o e n=>ch3 a o (hl1 a o e) n) hc3
 rw[show decide ((way:Int)=6)=false by simp;lia]
 got_up
 refine T2_eqI ?_
 got_up
 by_cases h7:way=7
 ·rw[show decide ((way:Int)=7)=true by simp;lia]
  got_up
  refine Ml_bi (GM_append hp2) ?_
  got_up
  refine fun c1 h1=> ?_
  got_up
  have hl1:=aB h1 (.list ([N.nInt64,.nBool,.nString].map fun n=>V.str n.s))
  have e1:=aA σ2 c1 (.list ([N.nInt64,.nBool,.nString].map fun n=>V.str n.s))
  have hc1c:c1≠c:=fun e=>by
   refine x24 hc2 fun x y z1 z2 z3 z4=> ?_
   rw[e,z4] at h1;exact nS' h1
  refine(((c_law_pour (top:=3) (hc2.mono hl1) (by decide) (by decide) fun j σ3 hj ch3 hc3=> ?_).v.le (l_d)))
  got_up
  obtain⟨n',hk1,hk2⟩:∃n':N,([N.nInt64,.nBool,.nString].map fun n=>V.str n.s)[(j:Int).toNat]? =some (.str n'.s)∧PartOk n m way (nK n'):=by
   rcases(show j=0∨j=1∨j=2 by lia) with rfl|rfl|rfl
   ·exact⟨_,rfl,.inr (.inr (.inr (.inr (.inl ⟨h7,.inl rfl⟩))))⟩
   ·exact⟨_,rfl,.inr (.inr (.inr (.inr (.inl ⟨h7,.inr (.inl rfl)⟩))))⟩
   ·exact⟨_,rfl,.inr (.inr (.inr (.inr (.inl ⟨h7,.inr (.inr rfl)⟩))))⟩
  refine aP (x:= .str n'.s) (ch3 _ _ e1 hc1c) (by lia) (by lia) hk1 ?_
  got_up
  refine(((c_law_name (n:=n') ?_).v.le (l_d)))
  got_up
  refine C_append (ch3 _ _ (hl1 _ _ hp2) hpc) (aK (lt3 hlen)) ⟨rfl,?_⟩
  got_up
  exact fin _ _ (nK n') (fun y h1 h2=>by show((ρ.put "down" (nK l').v).put "low" (nK l).v) y=ρ y;dsimp only[Loc.put];rw[if_neg h1,if_neg h2]) hk2 (fun a o e n=>ch3 a o (hl1 a o e) n) hc3
 rw[show decide ((way:Int)=7)=false by simp;lia]
 got_up
 refine Ml_bi (GM_append hp2) ?_
 got_up
 obtain⟨k,hk⟩:∃k,(partsK (.nm n) (.nm m))[way]? =some k:=⟨_,List.getElem?_eq_getElem (by simp[partsK];exact hw)⟩
 refine(((c_law_part (one:= .nm n) (other:= .nm m) hk ?_).v.le (l_d)))
 got_up
 refine C_append hp2 (aK (lt3 hlen)) ⟨rfl,?_⟩
 got_up
 exact fin _ _ k (fun y h1 h2=>by show((ρ.put "down" (nK l').v).put "low" (nK l).v) y=ρ y;dsimp only[Loc.put];rw[if_neg h1,if_neg h2]) (.inr (.inr (.inr (.inr (.inr ⟨by lia,hk⟩))))) (fun a o e _=>e) hc2
inductive MdI (c wa pl:Addr)(n m:N)(ways:List Nat)(σ₀:Sto)(td:List Nat)(ρ:Loc)(σ:Sto):Prop
 |mk (r1:ρ "cask"=some (.ref c)) (r2:ρ "one"=some (nK n).v) (r3:ρ "other"=some (nK m).v) (r4:ρ "parts"=some (.ref pl)) (h1:σ wa=some (.list (ways.map fun(n:Nat)=>V.int n))) (h2:Chg σ₀ σ c) (h3:CaskAt σ c)
  (dn:List Nat) (ks:List K) (e2:dn++td=ways) (h4:PartsOk n m dn ks) (h5:σ pl=some (.list (K.vs ks)))
theorem c_law_made {c wa:Addr}{n m:N}{ways:List Nat}{Q:V→Sto→Prop}(hn:n∈ [N.nInt64,.nInteger,.nReal,.nBool,.nAny,.nString])(hm:m∈ [N.nInt64,.nInteger,.nReal,.nBool,.nAny,.nString])(hc:CaskAt σ c)(hw:σ wa=some (.list (ways.map fun(n:Nat)=>V.int n)))(hwc:wa≠c)(hz:ways.length≤50)(h9:∀w∈ways,w<9)
  (q:∀ks σ',PartsOk n m ways ks→Chg σ σ' c→CaskAt σ' c→Q (K.tup ks).v σ'):CallT (d+11) (.ref 642) [.ref c,.ref wa,(nK n).v,(nK m).v] σ Q:=by
 refine aG b.f_law_made_4 rfl dkk dkk ?_
 got_up
 refine fun pl hpl=> ?_
 got_up
 have hle:=aB hpl (.list [])
 have hP:=aA σ pl (.list [])
 have hpc:pl≠c:=fun e=>by
  refine x24 hc fun x y z1 z2 z3 z4=> ?_;clear hc
  rw[e,z4] at hpl;exact nS' hpl
 have hpw:wa≠pl:=fun e=>by rw[←e,hw] at hpl;exact nS' hpl
 have hc1:=hc.mono hle
 have hpn:=hpl
 generalize σ.put pl (.list [])=σ1 at hle hP hc1⊢
 got_up
 refine TS_for ?_
 got_up
 refine kSrc.i (.list (hle _ _ hw)) ?_
 got_up
 refine TFor_rec (f:=fun(n:Nat)=>V.int n) (MdI c wa pl n m ways σ) (fun σ'=>σ' wa=some (.list (ways.map fun(n:Nat)=>V.int n))) (fun _ _ _ h=>h.casesOn fun _ _ _ _ h _ _ _ _ _ _ _=>h) ?_ ?_ (l:=ways) rfl (fun σ' h=>h) ⟨by rfl,by rfl,by rfl,by rfl,hle _ _ hw,fun a o e _=>hle a o e,hc1,[],[],rfl,trivial,hP⟩
 ·intro way td ρ' σ' hI
  refine hI.casesOn fun r1 r2 r3 r4 h1 h2 h3 dn ks e2 h4 h5=> ?_
  clear hI
  have hlen:=h4.len
  have e3:=congrArg List.length e2
  simp at e3
  refine TA_loc dkk ?_
  refine lm_body (n:=n) (m:=m) (way:=way) (ks:=ks) hn hm h3 h5 hpc (nT (Nat.le_of_eq hlen) (nT (l_al (Nat.le_of_eq e3)) (lt3 hz))) (h9 way (by rw[←e2];simp)) (by exact r1) (by exact r2) (by exact r3) (by exact r4) (by rfl) fun ρ2 σ2 k hρ hk hch hc2 hp2=> ?_
  got_up
  refine⟨?_,?_,?_,?_,hch _ _ h1 hwc hpw,fun a o e n1=>hch a o (h2 a o e n1) n1 (fun z=>by replace z:=z.symm;subst z;rw[hpn] at e;exact nS e),hc2,dn++ [way],ks++ [k],by rw[List.append_assoc];exact e2,h4.snoc hk,hp2⟩
  ·exact(hρ "cask" dkk dkk).trans (by exact r1)
  ·exact(hρ "one" dkk dkk).trans (by exact r2)
  ·exact(hρ "other" dkk dkk).trans (by exact r3)
  ·exact(hρ "parts" dkk dkk).trans (by exact r4)
 ·intro ρ' σ' hI
  refine hI.casesOn fun _ _ _ _ _ h2 h3 dn ks e2 h4 h5=> ?_
  rw[List.append_nil] at e2
  subst e2
  have hlen:=h4.len
  got_up
  refine(((c_tuple_of (d:=d) h5 (by rw[aO];exact nT (Nat.le_of_eq hlen) (lt3 hz)) ?_).v.le (l_d)))
  got_up
  exact q ks σ' h4 h2 h3
noncomputable def sigK (up bound:K) (ps:List K):K:= .all .T1 .bot up (.all .S2 .bot bound (.tup ps))
noncomputable def bndsK (up bound:K):Bnds:=[(.T1,.bot,up),(.S2,.bot,bound)]
noncomputable def fixA:K:= .tup [listK (nK .nInteger),nK .nInt64]
noncomputable def fixPs:List K:=[listK (.var .T1),.var .T1]
noncomputable def fixOk:Bool:=((m_matched fixA (sigK (nK .nAny) (nK .nAny) fixPs)).bind fun o=>o.bind fun t=>m_told_right fixA (bndsK (nK .nAny) (nK .nAny)) (.tup fixPs) t)==some true
theorem fix_ok:fixOk=true:=by decide +kernel
set_option tactic.hygienic true in
theorem c_law_fixed_right {xk:Addr}{Q:V→Sto→Prop}(hk:KsAt σ xk dcT)(q:Q (.bool true) σ):CallT (d+50) (.ref 676) [.ref xk] σ Q:=by
 refine bE (eq_of_beq fix_ok) fun o ht hf=>bE hf fun t e hr=> ?_
 subst e
 refine CallT.forget (aG b.f_law_fixed_right_1 rfl dkk dkk ?_)
 w_fin
 refine fun wa hwa=> ?_
 w_fin
 have l1:=aB hwa (.list [V.int 2,V.int 0])
 refine(((c_law_name (n:= .nAny) ?_).v.le (l_d)))
 w_fin
 refine(((c_law_name (n:= .nAny) ?_).v.le (l_d)))
 w_fin
 refine(((c_law_sig (ways:=[2,0]) (up:=nK .nAny) (bound:=nK .nAny) (ks:=fixPs) sps rfl (by simp) fun ba σ2 l2 hba eba=> ?_).v.le (l_d)))
 w_fin
 refine(((c_law_name (n:= .nInteger) ?_).v.le (l_d)))
 w_fin
 refine(((c_law_list_of (k:=nK .nInteger) ?_).v.le (l_d)))
 w_fin
 refine(((c_law_name (n:= .nInt64) ?_).v.le (l_d)))
 w_fin
 refine fun c1 h1=> ?_
 w_fin
 have l3:=aB h1 (.list [(listK (nK .nInteger)).v,(nK .nInt64).v])
 refine(((c_tuple_of (d:=d) (l:=[(listK (nK .nInteger)).v,(nK .nInt64).v]) sps (by simp) ?_).v.le (l_d)))
 w_fin
 have hle:=aD l1 (aD l2 l3)
 refine(((c_matched (a:=fixA) (sig:=sigK (nK .nAny) (nK .nAny) fixPs) (hk.mono hle) ht ?_).v.le (l_d)))
 w_fin
 intro ta hta
 have l4:=aB hta (.dict (tbE t))
 have hT:=aA (σ2.put c1 (.list [(listK (nK .nInteger)).v,(nK .nInt64).v])) ta (.dict (tbE t))
 have hle4:=aD hle l4
 have hb4:=l4 _ _ (l3 _ _ eba)
 generalize (σ2.put c1 (.list [(listK (nK .nInteger)).v,(nK .nInt64).v])).put ta (.dict (tbE t))=σ3 at hT hle4 hb4⊢
 w_fin
 refine TE_andS ?_
 w_fin
 refine TE_bool1 ?_
 w_fin
 refine(((c_law_told_right (a:=fixA) (body:= .tup fixPs) (bs:=bndsK (nK .nAny) (nK .nAny)) (hk.mono hle4) hb4 hT hr ?_).v.le (l_d)))
 w_fin
 exact⟨_,hle4,q⟩
noncomputable def ups:List K:=[nK .nAny,nK .nReal,nK .nInteger]
noncomputable def bnds:List K:=[nK .nAny,nK .nInteger,.var .T1]
noncomputable def ones:List N:=[.nInt64,.nInteger,.nReal,.nBool,.nAny]
noncomputable def others:List N:=[.nInt64,.nInteger,.nBool,.nString]
noncomputable def Verdict (up bound:K) (ps ks:List K):Prop:=∃o,m_matched (.tup ks) (sigK up bound ps)=some o∧m_sub (.tup ks) (sigK up bound ps)=some o.isSome∧
 (o=none→m_none (.tup ks) up bound (.tup ps)=some true)∧(∀t,o=some t→m_told_right (.tup ks) (bndsK up bound) (.tup ps) t=some true)
noncomputable def partsOf (ways:List Nat):Option (List K):=ways.mapM (fun(n:Nat)=>(partsK (.vr .T1) (.vr .S2))[n]?)
noncomputable def LawOk:Prop:=∀(ways:List Nat) (up bound:K) (n m:N) (ps ks:List K),1≤ways.length→ways.length≤3→(∀w∈ways,w<9)→up∈ups→bound∈bnds→n∈ones→m∈others→partsOf ways=some ps→PartsOk n m ways ks→Verdict up bound ps ks
theorem partsOf_some:∀{ways:List Nat},(∀w∈ways,w<9)→∃ps,partsOf ways=some ps
 | [],_=>⟨[],rfl⟩
 |w::ws,h=>by
  refine x11 (partsOf_some (ways:=ws) fun w hw=>h w (.tail _ hw)) fun ps e=> ?_
  have hw:=h w (.head _)
  have:∃k,(partsK (.vr .T1) (.vr .S2))[w]? =some k:=⟨_,List.getElem?_eq_getElem (by simp[partsK];exact hw)⟩
  refine x11 this fun k hk=> ?_
  refine⟨k::ps,?_⟩
  unfold partsOf at e⊢
  rw[List.mapM_cons,hk,e];rfl
noncomputable abbrev LawAt (a:Addr):Prop:=FnAt a 1 ["script"] [] (aH (defAt 66)) (aI (defAt 66))
noncomputable abbrev StartT (d:Nat):Prop:=∀(σ:Sto) (Q:V→Sto→Prop),(∀xk σ',σ.le σ'→KsAt σ' xk dcT→Q (.ref xk) σ')→CallT d (.ref 574) [] σ Q
noncomputable def lwFor:Stmt:=nthS (aI (defAt 66)) 6
theorem T2_neB {d:Nat}{x y:Bool}{Q:V→Sto→Prop}(q:Q (.bool (x !=y)) σ):T2 d (compareOp .NotEq) (.bool x) (.bool y) σ Q:=
 fun A s va vb R S ra rb=>by
  cases ra;cases rb
  refine SeqAt.compareNe_reads (.bool x) (.bool y) rfl rfl (by have:=R.line;show _+min 0 0<_;lia) ?_
  have e:(!PyData.eqv (.bool x) (.bool y))=(x !=y):=by induction x using Bool.casesOn<;>cases y<;>rfl
  rw[e]
  exact here S rfl (.bool _) q
noncomputable abbrev turnNames:List Str:=["one","other","brought","told"]
theorem law_turn {c xk wa ba:Addr}{σK:Sto}{ways:List Nat}{un:N}{bound:K}{ps:List K}{ρ:Loc}{Q:Fl→Loc→Sto→Prop}(ok:LawOk)(hK:KsAt σK xk dcT)(hKc:σK c=none)(hl1:1≤ways.length)(hl3:ways.length≤3)(h9:∀w∈ways,w<9)(hun:nK un∈ups)(hbd:bound∈bnds)(hps:partsOf ways=some ps)
  (hle:σK.le σ) (hc:CaskAt σ c) (hW:σ wa=some (.list (ways.map fun(n:Nat)=>V.int n))) (hb:σ ba=some (.list ((bndsK (nK un) bound).map bV))) (hwc:wa≠c) (hbc:ba≠c)
  (r1:ρ "cask"=some (.ref c)) (r2:ρ "kinds"=some (.ref xk)) (r3:ρ "ways"=some (.ref wa)) (r4:ρ "binders"=some (.ref ba)) (r5:ρ "body"=some (K.tup ps).v) (r6:ρ "sig"=some (sigK (nK un) bound ps).v)
  (q:∀ρ' σ',(∀y:Str,y∉turnNames→ρ' y=ρ y)→σK.le σ'→CaskAt σ' c→σ' wa=some (.list (ways.map fun(n:Nat)=>V.int n))→σ' ba=some (.list ((bndsK (nK un) bound).map bV))→Q .next ρ' σ'):
  TS (d+130) (aH (defAt 66)) (aI lwFor) ρ σ Q:=by
 have chK:∀{σa σb:Sto},σK.le σa→Chg σa σb c→σK.le σb:=fun h ch a o e=>ch a o (h a o e) fun z=>by replace z:=z.symm;subst z;rw[hKc] at e;exact nS e
 w_fin
 refine fun c1 h1=> ?_
 w_fin
 have l1:=aB h1 (.list (ones.map fun n=>V.str n.s))
 have e1:=aA σ c1 (.list (ones.map fun n=>V.str n.s))
 have n1:c1≠c:=fun e=>by
  refine x24 hc fun x y z1 z2 z3 z4=> ?_
  rw[e,z4] at h1;exact nS' h1
 change CallV _ _ _ (σ.put c1 (.list (ones.map fun n=>V.str n.s))) _
 have hK1:=aD hle l1
 have hc1:=hc.mono l1
 have hW1:=l1 _ _ hW
 have hb1:=l1 _ _ hb
 generalize σ.put c1 (.list (ones.map fun n=>V.str n.s))=σ1 at hK1 hc1 hW1 hb1 e1⊢
 w_fin
 refine(((c_law_pour (top:=5) hc1 (by decide) (by decide) fun j2 σ2 hj2 ch2 hc2=> ?_).v.le (l_d)))
 w_fin
 have hK2:=chK hK1 ch2
 have hW2:=ch2 _ _ hW1 hwc
 have hb2:=ch2 _ _ hb1 hbc
 have hn2:ones[j2]? =some ones[j2]:=List.getElem?_eq_getElem hj2
 obtain⟨n,hn⟩:∃n,n=ones[j2]:=⟨_,rfl⟩
 have hno:n∈ones:=hn▸List.getElem_mem hj2
 refine aP (x:= .str n.s) (ch2 _ _ e1 n1) (by lia) (by lia) (by rw[Int.toNat_natCast,List.getElem?_map,hn2,hn];rfl) ?_
 w_fin
 refine(((c_law_name (n:=n) ?_).v.le (l_d)))
 w_fin
 refine fun c3 h3=> ?_
 w_fin
 have l3:=aB h3 (.list (others.map fun n=>V.str n.s))
 have e3:=aA σ2 c3 (.list (others.map fun n=>V.str n.s))
 have n3:c3≠c:=fun e=>by
  refine x24 hc2 fun x y z1 z2 z3 z4=> ?_
  rw[e,z4] at h3;exact nS' h3
 change CallV _ _ _ (σ2.put c3 (.list (others.map fun n=>V.str n.s))) _
 have hK3:=aD hK2 l3
 have hc3:=hc2.mono l3
 have hW3:=l3 _ _ hW2
 have hb3:=l3 _ _ hb2
 generalize σ2.put c3 (.list (others.map fun n=>V.str n.s))=σ3 at hK3 hc3 hW3 hb3 e3⊢
 w_fin
 refine(((c_law_pour (top:=4) hc3 (by decide) (by decide) fun j4 σ4 hj4 ch4 hc4=> ?_).v.le (l_d)))
 w_fin
 have hK4:=chK hK3 ch4
 have hW4:=ch4 _ _ hW3 hwc
 have hb4:=ch4 _ _ hb3 hbc
 have hm2:others[j4]? =some others[j4]:=List.getElem?_eq_getElem hj4
 obtain⟨m,hm⟩:∃m,m=others[j4]:=⟨_,rfl⟩
 have hmo:m∈others:=hm▸List.getElem_mem hj4
 refine aP (x:= .str m.s) (ch4 _ _ e3 n3) (by lia) (by lia) (by rw[Int.toNat_natCast,List.getElem?_map,hm2,hm];rfl) ?_
 w_fin
 refine(((c_law_name (n:=m) ?_).v.le (l_d)))
 w_fin
 refine(((c_law_made (n:=n) (m:=m) (ways:=ways) ?_ ?_ hc4 hW4 hwc (lt3 hl3) h9 fun ks σ5 hks ch5 hc5=> ?_).v.le (l_d)))
 ·revert hno;simp only[ones,List.mem_cons,List.not_mem_nil,or_false];rintro(e|e|e|e|e)<;>simp[e]
 ·revert hmo;simp only[others,List.mem_cons,List.not_mem_nil,or_false];rintro(e|e|e|e)<;>simp[e]
 have hK5:=chK hK4 ch5
 have hW5:=ch5 _ _ hW4 hwc
 have hb5:=ch5 _ _ hb4 hbc
 refine x14 (ok ways (nK un) bound n m ps ks hl1 hl3 h9 hun hbd hno hmo hps hks) fun o v1 v2 v3 v4=> ?_
 have hk5:=hK.mono hK5
 w_fin
 refine(((c_matched (a:= .tup ks) (sig:=sigK (nK un) bound ps) hk5 v1 ?_).v.le (l_d)))
 w_fin
 have hρ:∀(a1 a2 a3 a4:V) (y:Str),y∉turnNames→((((ρ.put "one" a1).put "other" a2).put "brought" a3).put "told" a4) y=ρ y:=by
  intro a1 a2 a3 a4 y hy
  simp only[turnNames,List.mem_cons,List.not_mem_nil,or_false,not_or] at hy
  dsimp only[Loc.put]
  rw[if_neg hy.2.2.2,if_neg hy.2.2.1,if_neg hy.2.1,if_neg hy.1]
 induction o using Option.casesOn with
 |none=>
  w_fin
  refine(((c_is_subtype (a:= .tup ks) (k:=sigK (nK un) bound ps) hk5 v2 ?_).v.le (l_d)))
  w_fin
  refine T2_neB ?_
  w_fin
  refine(((c_law_none_right (a:= .tup ks) (up:=nK un) (bound:=bound) (body:= .tup ps) hk5 hb5 (v3 rfl) ?_).v.le (l_d)))
  w_fin
  exact q _ _ (hρ _ _ _ _) hK5 hc5 hW5 hb5
 |some t=>
  intro tc htc
  have l6:=aB htc (.dict (tbE t))
  have hT:=aA σ5 tc (.dict (tbE t))
  have hK6:=aD hK5 l6
  have hc6:=hc5.mono l6
  have hW6:=l6 _ _ hW5
  have hb6:=l6 _ _ hb5
  generalize σ5.put tc (.dict (tbE t))=σ6 at hK6 hc6 hW6 hb6 hT⊢
  have hk6:=hK.mono hK6
  w_fin
  refine(((c_is_subtype (a:= .tup ks) (k:=sigK (nK un) bound ps) hk6 v2 ?_).v.le (l_d)))
  w_fin
  refine T2_neB ?_
  w_fin
  refine(((c_law_told_right (a:= .tup ks) (body:= .tup ps) (bs:=bndsK (nK un) bound) hk6 hb6 hT (v4 t rfl) ?_).v.le (l_d)))
  w_fin
  exact q _ _ (hρ _ _ _ _) hK6 hc6 hW6 hb6
inductive WyI (c:Addr)(σK:Sto)(n:Nat)(l:List Nat)(acc:List V)(σ:Sto):Prop
 |mk (h1:σK.le σ) (h2:CaskAt σ c) (ns:List Nat) (ea:acc=ns.map fun(n:Nat)=>V.int n) (h9:∀n∈ns,n<9) (e:ns.length+l.length=n)
inductive LwI (c xk wa ba:Addr)(σK:Sto)(ways:List Nat)(up bound:K)(ps:List K)(l:List Nat)(ρ:Loc)(σ:Sto):Prop
 |mk (r1:ρ "cask"=some (.ref c)) (r2:ρ "kinds"=some (.ref xk)) (r3:ρ "ways"=some (.ref wa)) (r4:ρ "binders"=some (.ref ba)) (r5:ρ "body"=some (K.tup ps).v) (r6:ρ "sig"=some (sigK up bound ps).v)
  (k1:σK.le σ) (k2:CaskAt σ c) (k3:σ wa=some (.list (ways.map fun(n:Nat)=>V.int n))) (k4:σ ba=some (.list ((bndsK up bound).map bV)))
theorem rng_rest (n:Nat):(Src.rng 0 n).rest=(List.range n).map fun(i:Nat)=>V.int i:=by
 simp[Src.rest,List.range_eq_range']
theorem c_law {la a:Addr}{is:List Int}{Q:V→Sto→Prop}(hl:LawAt la)(hstart:StartT (d+130))(ok:LawOk)(ha:BL a (is.map V.int))(q:∀σ',Q (.bool true) σ'):CallT (d+131) (.ref la) [.ref a] σ Q:=by
 refine aG hl rfl dkk dkk ?_
 refine TS_cons (TS_asg (hw:=fun env hn hk=>swapOf_spec hn hk (by rfl)) ?_)
 got_up
 refine(((c_law_cask ha fun c σ1 l1 hc0 hc1=> ?_).v.le (l_d)))
 got_up
 refine(CallV.frame [c] (hstart _ _ fun xk σK lK hK hap=> ?_))
 got_up
 refine x24 (id hc1) fun x1 x2 z1 z2 z3 z4=> ?_
 have hKc:σK c=none:=hap c (.head _) (by rw[z4];simp)
 have hc2:CaskAt (σK.join σ1 [c]) c:=⟨x1,x2,z1,z2,z3,Sto.join_old z4 (.head _) hKc⟩
 have hKle:σK.le (σK.join σ1 [c]):=Sto.join_new
 generalize σK.join σ1 [c]=σ2 at hc2 hKle⊢
 have chK:∀{σa σb:Sto},σK.le σa→Chg σa σb c→σK.le σb:=fun h ch a o e=>ch a o (h a o e) fun z=>by replace z:=z.symm;subst z;rw[hKc] at e;exact nS e
 got_up
 refine(((c_law_fixed_right (hK.mono hKle) ?_).v.le (l_d)))
 got_up
 refine TS_compx (.inl dkk) rfl dkk ?_
 got_up
 refine(((c_law_pour (top:=3) hc2 (by decide) (by decide) fun k3 σ3 hk3 ch3 hc3=> ?_).v.le (l_d)))
 got_up
 have hK3:=chK hKle ch3
 refine T2_add_int ?_
 got_up
 rw[show(1:Int)+(k3:Int)=((1+k3:Nat):Int) by lia]
 refine(C_range fun rg hrg=> ?_)
 got_up
 have lr:=aB hrg (.rng (1+k3))
 refine kSrc.i (.rng sps (by lia)) ?_
 have hK4:=aD hK3 lr
 have hc4:=hc3.mono lr
 generalize σ3.put rg (.rng (1+k3))=σ4 at hK4 hc4⊢
 refine TCo_rec (f:=fun(i:Nat)=>V.int i) (WyI c σK (1+k3)) (fun _=>True) (fun ρ=>ρ "cask"=some (.ref c)) (fun i ρ=>ρ.put "turn" (.int i)) rfl rfl (fun l acc _ h=>h.casesOn fun _ _ ns ea _ e=>⟨trivial,ea▸(by rw[List.length_map,e];exact lt3 (Nat.add_le_add (Nat.le_refl 1) (Nat.le_of_lt hk3)))⟩)
  (fun _ _ _=>TL_name dkk) (fun _ _ h=>h) ?_ ?_ (l:=List.range (1+k3)) (rng_rest (1+k3)) (fun _ _=>trivial) (by rfl) ⟨hK4,hc4,[],rfl,nofun,by rw[List.length_range,List.length_nil,Nat.zero_add]⟩
 ·intro i l acc σ' ρ h hj
  refine h.casesOn fun i1 i2 ns ea i3 i4=> ?_
  clear h
  subst ea
  show TE _ _ _ _ _ _
  got_up
  refine(((c_law_pour (top:=9) i2 (by decide) (by decide) fun j σ5 hj ch5 hc5=> ?_).v.le (l_d)))
  got_up
  refine⟨chK i1 ch5,hc5,ns++ [j],by rw[List.map_append];rfl,?_,by rw[List.length_append,←i4,List.length_cons];exact Nat.add_right_comm ..⟩
  intro n hn
  rcases List.mem_append.mp hn with h|h
  ·exact i3 n h
  ·rw[List.mem_singleton.mp h];exact hj
 intro acc ρ' σ5 h
 refine h.casesOn fun hK5 hc5 ways ea h9 hlen=> ?_
 clear h
 subst ea
 intro wa hwa
 have l6:=aB hwa (.list (ways.map fun(n:Nat)=>V.int n))
 have hW:=aA σ5 wa (.list (ways.map fun(n:Nat)=>V.int n))
 have hwc:wa≠c:=fun e=>by
  refine x24 hc5 fun x y z1 z2 z3 z4=> ?_
  rw[e,z4] at hwa;exact nS' hwa
 have hK6:=aD hK5 l6
 have hc6:=hc5.mono l6
 have hKw:σK wa=none:=by
  induction z:σK wa using Option.casesOn with
  |none=>rfl
  |some o=>rw[hK5 _ _ z] at hwa;exact nS' hwa
 generalize σ5.put wa (.list (ways.map fun(n:Nat)=>V.int n))=σ6 at hK6 hc6 hW⊢
 got_up
 refine fun c7 h7=> ?_
 got_up
 have l7:=aB h7 (.list ([N.nAny,.nReal,.nInteger].map fun n=>V.str n.s))
 have e7:=aA σ6 c7 (.list ([N.nAny,.nReal,.nInteger].map fun n=>V.str n.s))
 have n7:c7≠c:=fun e=>by
  refine x24 hc6 fun x y z1 z2 z3 z4=> ?_
  rw[e,z4] at h7;exact nS' h7
 change CallV _ _ _ (σ6.put c7 (.list ([N.nAny,.nReal,.nInteger].map fun n=>V.str n.s))) _
 have hK7:=aD hK6 l7
 have hc7:=hc6.mono l7
 have hW7:=l7 _ _ hW
 generalize σ6.put c7 (.list ([N.nAny,.nReal,.nInteger].map fun n=>V.str n.s))=σ7 at hK7 hc7 hW7 e7⊢
 got_up
 refine(((c_law_pour (top:=3) hc7 (by decide) (by decide) fun j8 σ8 hj8 ch8 hc8=> ?_).v.le (l_d)))
 got_up
 have hK8:=chK hK7 ch8
 have hW8:=ch8 _ _ hW7 hwc
 obtain⟨un,hun1,hun2⟩:∃un:N,([N.nAny,.nReal,.nInteger].map fun n=>V.str n.s)[(j8:Int).toNat]? =some (.str un.s)∧nK un∈ups:=by
  rcases(show j8=0∨j8=1∨j8=2 by lia) with rfl|rfl|rfl
  ·exact⟨_,rfl,by simp[ups]⟩
  ·exact⟨_,rfl,by simp[ups]⟩
  ·exact⟨_,rfl,by simp[ups]⟩
 refine aP (x:= .str un.s) (ch8 _ _ e7 n7) (by lia) (by lia) hun1 ?_
 got_up
 refine(((c_law_name (n:=un) ?_).v.le (l_d)))
 got_up
 refine(((c_law_name (n:= .nAny) ?_).v.le (l_d)))
 got_up
 refine(((c_law_name (n:= .nInteger) ?_).v.le (l_d)))
 got_up
 refine fun c9 h9'=> ?_
 got_up
 have l9:=aB h9' (.list [(nK .nAny).v,(nK .nInteger).v,(K.var .T1).v])
 have e9:=aA σ8 c9 (.list [(nK .nAny).v,(nK .nInteger).v,(K.var .T1).v])
 have n9:c9≠c:=fun e=>by
  refine x24 hc8 fun x y z1 z2 z3 z4=> ?_
  rw[e,z4] at h9';exact nS' h9'
 change CallV _ _ _ (σ8.put c9 (.list [(nK .nAny).v,(nK .nInteger).v,(K.var .T1).v])) _
 have hK9:=aD hK8 l9
 have hc9:=hc8.mono l9
 have hW9:=l9 _ _ hW8
 generalize σ8.put c9 (.list [(nK .nAny).v,(nK .nInteger).v,(K.var .T1).v])=σ9 at hK9 hc9 hW9 e9⊢
 got_up
 refine(((c_law_pour (top:=3) hc9 (by decide) (by decide) fun j10 σ10 hj10 ch10 hc10=> ?_).v.le (l_d)))
 got_up
 have hK10:=chK hK9 ch10
 have hW10:=ch10 _ _ hW9 hwc
 obtain⟨bound,hbd1,hbd2⟩:∃bound:K,[(nK .nAny).v,(nK .nInteger).v,(K.var .T1).v][(j10:Int).toNat]? =some bound.v∧bound∈bnds:=by
  rcases(show j10=0∨j10=1∨j10=2 by lia) with rfl|rfl|rfl
  ·exact⟨_,rfl,by simp[bnds]⟩
  ·exact⟨_,rfl,by simp[bnds]⟩
  ·exact⟨_,rfl,by simp[bnds]⟩
 refine aP (x:=bound.v) (ch10 _ _ e9 n9) (by lia) (by lia) hbd1 ?_
 got_up
 refine x11 (partsOf_some h9) fun ps hps=> ?_
 refine(((c_law_sig (ways:=ways) (up:=nK un) (bound:=bound) (ks:=ps) hW10 hps (nT (Nat.le_of_eq hlen) (lt3 (Nat.add_le_add (Nat.le_refl 1) (Nat.le_of_lt hk3)))) fun ba σ11 l11 hba eba=> ?_).v.le (l_d)))
 got_up
 have hK11:=aD hK10 l11
 have hc11:=hc10.mono l11
 have hW11:=l11 _ _ hW10
 have hbc:ba≠c:=fun e=>by
  refine x24 hc10 fun x y z1 z2 z3 z4=> ?_
  rw[e,z4] at hba;exact nS' hba
 refine TS_for ?_
 got_up
 refine(C_range (n:=2) fun rg2 hrg2=> ?_)
 got_up
 have l12:=aB hrg2 (.rng 2)
 refine kSrc.i (.rng sps (by lia)) ?_
 have hK12:=aD hK11 l12
 have hc12:=hc11.mono l12
 have hW12:=l12 _ _ hW11
 have hb12:=l12 _ _ eba
 generalize σ11.put rg2 (.rng 2)=σ12 at hK12 hc12 hW12 hb12⊢
 refine TFor_rec (f:=fun(i:Nat)=>V.int i) (LwI c xk wa ba σK ways (nK un) bound ps) (fun _=>True) (fun _ _ _ _=>trivial) ?_ ?_ (l:=List.range 2) (rng_rest 2) (fun _ _=>trivial) ⟨by rfl,by rfl,by rfl,by rfl,by rfl,by rfl,hK12,hc12,hW12,hb12⟩
 ·intro i l ρ1 s1 h
  refine h.casesOn fun r1 r2 r3 r4 r5 r6 hK13 hc13 hW13 hb13=> ?_
  refine TA_loc dkk ?_
  refine law_turn ok hK hKc (l_al (l_ge hlen)) (by lia) h9 hun2 hbd2 hps hK13 hc13 hW13 hb13 hwc hbc (by exact r1) (by exact r2) (by exact r3) (by exact r4) (by exact r5) (by exact r6) fun ρ2 s2 hρ k1 k2 k3 k4=> ?_
  got_up
  refine⟨?_,?_,?_,?_,?_,?_,k1,k2,k3,k4⟩
  ·exact(hρ "cask" dkk).trans (by exact r1)
  ·exact(hρ "kinds" dkk).trans (by exact r2)
  ·exact(hρ "ways" dkk).trans (by exact r3)
  ·exact(hρ "binders" dkk).trans (by exact r4)
  ·exact(hρ "body" dkk).trans (by exact r5)
  ·exact(hρ "sig" dkk).trans (by exact r6)
 ·intro ρ1 s1 _
  got_up
  exact q _
noncomputable def declL (n:N) (lp:Addr) (sup:V) (ab mu:Bool) (lf:Addr):List (Str×V):=[("name",.str n.s),("params",.ref lp),("super",sup),("is_abstract",.bool ab),("is_mutable",.bool mu),("fields",.ref lf)]
noncomputable abbrev Flds:=List (Str×K)
noncomputable def fV (p:Str×K):V:= .tup [.str p.1,p.2.v]
structure DdAt (σ:Sto)(a:Addr)(n:N)(ps:Bnds)(sup:V)(ab:Bool)(fs:Flds):Prop where
 it:∃da lp lf mu,σ a=some (.inst 468 da)∧σ da=some (.attrs (declL n lp sup ab mu lf))∧σ lp=some (.list (ps.map bV))∧σ lf=some (.list (fs.map fV))
theorem DdAt.mono {σ σ':Sto}{a:Addr}{n:N}{ps:Bnds}{sup:V}{ab:Bool}{fs:Flds}(h:DdAt σ a n ps sup ab fs)(l:σ.le σ'):DdAt σ' a n ps sup ab fs:=by
 refine x44 h.it fun da lp lf mu h1 h2 h3 h4=> ?_
 exact⟨da,lp,lf,mu,l _ _ h1,l _ _ h2,l _ _ h3,l _ _ h4⟩
theorem DdAt.dc {σ:Sto}{a:Addr}{n:N}{ps:Bnds}{sup:V}{ab:Bool}{fs:Flds}(h:DdAt σ a n ps sup ab fs):DcAt σ a n ⟨ps,sup,ab⟩:=by
 refine x44 h.it fun da lp lf mu h1 h2 h3 h4=> ?_
 exact⟨da,lp,lf,mu,h1,h2,h3⟩
inductive ItsOf:V→Sto→List V→Prop where
 |list {l:Addr} {xs:List V} {σ:Sto} (h:σ l=some (.list xs)):ItsOf (.ref l) σ xs
 |tup {xs:List V} {σ:Sto}:ItsOf (.tup xs) σ xs
theorem C_list_its {d:Nat}{v:V}{xs:List V}{Q:V→Sto→Prop}(h:ItsOf v σ xs)(hz:xs.length≤100)(q:∀c,σ c=none→Q (.ref c) (σ.put c (.list xs))):CallV d (.ty "list") [v] σ Q:=by
 cases h with
 |list h=>exact C_list_list h (aK (lt3 hz)) q
 |tup=>exact C_list_tup (aK (lt3 hz)) q
theorem decl_body {x dx:Addr}{n:N}{vp vf sup:V}{ps:Bnds}{fs:Flds}{ab mu:Bool}{ρ:Loc}{Q:V→Sto→Prop}(hx:σ x=some (.inst 468 dx))(hd:σ dx=some (.attrs []))(hp:ItsOf vp σ (ps.map bV))(hf:ItsOf vf σ (fs.map fV))(hz1:ps.length≤100)(hz2:fs.length≤100)
  (r0:ρ "self"=some (.ref x)) (r1:ρ "name"=some (.str n.s)) (r2:ρ "params"=some vp) (r3:ρ "above"=some sup) (r4:ρ "is_abstract"=some (.bool ab)) (r5:ρ "is_mutable"=some (.bool mu)) (r6:ρ "fields"=some vf)
  (q:∀σ',(∀a o,σ a=some o→a≠dx→σ' a=some o)→DdAt σ' x n ps sup ab fs→Q .none σ'):TS d (aH (aJ 45 0)) (aI (aJ 45 0)) ρ σ (backOf Q):=by
 have ex:x≠dx:=ne_at hx hd (by simp)
 have step:∀{σa:Sto} {l:List (Str×V)},σa x=some (.inst 468 dx)→(σa.put dx (.attrs l)) x=some (.inst 468 dx):=fun h=>aF h ex
 w_fin
 refine T2_setE hx hd b.n_Decl_name (l':=[("name",.str n.s)]) (by simp) (by rfl) ?_
 w_fin
 have x1:=step (l:=[("name",V.str n.s)]) hx
 have d1:=aA σ dx (.attrs [("name",V.str n.s)])
 have nl:∀{a:Addr} {l:List V},σ a=some (.list l)→a≠dx:=fun h=>ne_at h hd (by simp)
 have hp1:ItsOf vp (σ.put dx (.attrs [("name",V.str n.s)])) (ps.map bV):=by
  cases hp with
  |list h=>exact .list (aF h (nl h))
  |tup=>exact .tup
 refine(C_list_its hp1 (by simpa using hz1) fun lp hlp=> ?_)
 w_fin
 have l2:=aB hlp (.list (ps.map bV))
 have elp:=aA (σ.put dx (.attrs [("name",V.str n.s)])) lp (.list (ps.map bV))
 refine T2_setE (l2 _ _ x1) (l2 _ _ d1) b.n_Decl_params (l':=[("name",.str n.s),("params",.ref lp)]) (by simp) (by rfl) ?_
 w_fin
 have nlp:lp≠dx:=(Sto.ne_new d1 hlp).symm
 have k0:∀a o,σ a=some o→a≠dx→(((σ.put dx (.attrs [("name",V.str n.s)])).put lp (.list (ps.map bV))).put dx (.attrs [("name",.str n.s),("params",.ref lp)])) a=some o:=fun a o e ne=>aF (l2 _ _ (aF e ne)) ne
 have elp2:=aF (y:= .attrs [("name",.str n.s),("params",.ref lp)]) elp nlp
 have x2:=step (l:=[("name",.str n.s),("params",.ref lp)]) (l2 _ _ x1)
 have d2:=aA ((σ.put dx (.attrs [("name",V.str n.s)])).put lp (.list (ps.map bV))) dx (.attrs [("name",.str n.s),("params",.ref lp)])
 generalize ((σ.put dx (.attrs [("name",V.str n.s)])).put lp (.list (ps.map bV))).put dx (.attrs [("name",.str n.s),("params",.ref lp)])=σ2 at k0 elp2 x2 d2⊢
 w_fin
 refine T2_setE x2 d2 b.n_Decl_super (l':=[("name",.str n.s),("params",.ref lp),("super",sup)]) (by simp) (by rfl) ?_
 w_fin
 refine T2_setE (step x2) sps b.n_Decl_is_abstract (l':=[("name",.str n.s),("params",.ref lp),("super",sup),("is_abstract",.bool ab)]) (by simp) (by rfl) ?_
 w_fin
 rw[Sto.put_put]
 w_fin
 refine T2_setE (step x2) sps b.n_Decl_is_mutable (l':=[("name",.str n.s),("params",.ref lp),("super",sup),("is_abstract",.bool ab),("is_mutable",.bool mu)]) (by simp) (by rfl) ?_
 w_fin
 rw[Sto.put_put]
 have x3:=step (l:=[("name",.str n.s),("params",.ref lp),("super",sup),("is_abstract",.bool ab),("is_mutable",.bool mu)]) x2
 have d3:=aA σ2 dx (.attrs [("name",.str n.s),("params",.ref lp),("super",sup),("is_abstract",.bool ab),("is_mutable",.bool mu)])
 have k3:∀a o,σ a=some o→a≠dx→(σ2.put dx (.attrs [("name",.str n.s),("params",.ref lp),("super",sup),("is_abstract",.bool ab),("is_mutable",.bool mu)])) a=some o:=fun a o e ne=>aF (k0 a o e ne) ne
 have elp3:=aF (y:= .attrs [("name",.str n.s),("params",.ref lp),("super",sup),("is_abstract",.bool ab),("is_mutable",.bool mu)]) elp2 nlp
 generalize σ2.put dx (.attrs [("name",.str n.s),("params",.ref lp),("super",sup),("is_abstract",.bool ab),("is_mutable",.bool mu)])=σ3 at x3 d3 k3 elp3⊢
 have hf3:ItsOf vf σ3 (fs.map fV):=by
  cases hf with
  |list h=>exact .list (k3 _ _ h (nl h))
  |tup=>exact .tup
 w_fin
 refine(C_list_its hf3 (by simpa using hz2) fun lf hlf=> ?_)
 w_fin
 have l4:=aB hlf (.list (fs.map fV))
 have elf:=aA σ3 lf (.list (fs.map fV))
 have nlf:lf≠dx:=(Sto.ne_new d3 hlf).symm
 refine T2_setE (l4 _ _ x3) (l4 _ _ d3) b.n_Decl_fields (l':=declL n lp sup ab mu lf) (by simp) (by rfl) ?_
 w_fin
 exact q _ (fun a o e ne=>aF (l4 _ _ (k3 a o e ne)) ne) ⟨dx,lp,lf,mu,step (l4 _ _ x3),aA _ _ _,aF (l4 _ _ elp3) nlp,aF elf nlf⟩
theorem decl_new {n:N}{sup:V}{ps:Bnds}{fs:Flds}{ab:Bool}{as:List V}{Q:V→Sto→Prop}(q:∀a σ',σ.le σ'→σ a=none→DdAt σ' a n ps sup ab fs→Q (.ref a) σ')
  (h:∀(x dx:Addr) (σ1:Sto) (P:V→Sto→Prop),σ.le σ1→σ1 x=some (.inst 468 dx)→σ1 dx=some (.attrs [])→(∀σ',(∀a o,σ1 a=some o→a≠dx→σ' a=some o)→DdAt σ' x n ps sup ab fs→P .none σ')→CallT (d+1) (.ref 448) (.ref x::as) σ1 P):
  CallT (d+2) (.ref 468) as σ Q:=by
 refine C_make b.i_Decl fun dx x hne h1 h2=> ?_
 have hle:σ.le ((σ.put dx (.attrs [])).put x (.inst 468 dx)):=aE (aB h1 _) (by rw[aM _ _ hne.symm];exact h2) _
 refine h x dx _ _ hle sps (aF sps hne) fun σ' k1 k2=>⟨rfl,q x σ' (fun a o e=>k1 a o (hle a o e) fun z=> ?_) h2 k2⟩
 replace z:=z.symm;subst z;rw[h1] at e;exact nS e
theorem c_Decl_new5 {n:N}{sup vp:V}{ps:Bnds}{ab:Bool}{Q:V→Sto→Prop}(hp:ItsOf vp σ (ps.map bV))(hz1:ps.length≤100)(q:∀a σ',σ.le σ'→σ a=none→DdAt σ' a n ps sup ab []→Q (.ref a) σ'):
  CallT (d+2) (.ref 468) [.str n.s,vp,sup,.bool ab] σ Q:=
 decl_new q fun x dx σ1 P hle hx hd hq=>aG b.f_Decl_init_5 rfl dkk dkk (decl_body (vp:=vp) (vf:= .tup []) (mu:=false) (fs:=[]) hx hd (by cases hp with|list h=>exact .list (hle _ _ h)|tup=>exact .tup) .tup hz1 (by simp) (by rfl) (by rfl) (by rfl) (by rfl) (by rfl) (by rfl) (by rfl) hq)
theorem c_Decl_new6 {n:N}{sup vp:V}{ps:Bnds}{ab mu:Bool}{Q:V→Sto→Prop}(hp:ItsOf vp σ (ps.map bV))(hz1:ps.length≤100)(q:∀a σ',σ.le σ'→σ a=none→DdAt σ' a n ps sup ab []→Q (.ref a) σ'):
  CallT (d+2) (.ref 468) [.str n.s,vp,sup,.bool ab,.bool mu] σ Q:=
 decl_new q fun x dx σ1 P hle hx hd hq=>aG b.f_Decl_init_6 rfl dkk dkk (decl_body (vp:=vp) (vf:= .tup []) (mu:=mu) (fs:=[]) hx hd (by cases hp with|list h=>exact .list (hle _ _ h)|tup=>exact .tup) .tup hz1 (by simp) (by rfl) (by rfl) (by rfl) (by rfl) (by rfl) (by rfl) (by rfl) hq)
theorem c_Decl_new7 {n:N}{sup vp vf:V}{ps:Bnds}{fs:Flds}{ab mu:Bool}{Q:V→Sto→Prop}(hp:ItsOf vp σ (ps.map bV))(hf:ItsOf vf σ (fs.map fV))(hz1:ps.length≤100)(hz2:fs.length≤100)(q:∀a σ',σ.le σ'→σ a=none→DdAt σ' a n ps sup ab fs→Q (.ref a) σ'):
  CallT (d+2) (.ref 468) [.str n.s,vp,sup,.bool ab,.bool mu,vf] σ Q:=
 decl_new q fun x dx σ1 P hle hx hd hq=>aG b.f_Decl_init_7 rfl dkk dkk (decl_body (vp:=vp) (vf:=vf) (mu:=mu) (fs:=fs) hx hd (by cases hp with|list h=>exact .list (hle _ _ h)|tup=>exact .tup) (by cases hf with|list h=>exact .list (hle _ _ h)|tup=>exact .tup) hz1 hz2 (by rfl) (by rfl) (by rfl) (by rfl) (by rfl) (by rfl) (by rfl) hq)
end
noncomputable def dcOf (n:N):Dc:=⟨psT n,(match supT n with|some k=>k.v|none=> .none),absT n⟩
structure KdAt (σ₀ σ:Sto)(x:Addr)(L:List N):Prop where
 le:σ₀.le σ
 it:∃dk r es,σ x=some (.inst 555 dk)∧σ dk=some (.attrs [("decls",.ref r)])∧σ r=some (.dict es)∧σ₀ r=none∧es.map (·.1)=L.map N.s∧∀n∈L,∃a,dget es n.s=some (.ref a)∧DcAt σ a n (dcOf n)
section
variable {σ₀ σ σ':Sto}{x:Addr}{L:List N}
theorem KdAt.mono (h:KdAt σ₀ σ x L)(l:σ.le σ'):KdAt σ₀ σ' x L:=by
 obtain⟨le,dk,r,es,h1,h2,h3,h4,h5,h6⟩:=h
 exact⟨aD le l,dk,r,es,l _ _ h1,l _ _ h2,l _ _ h3,h4,h5,fun n hn=>let ⟨a,e,ha⟩:=h6 n hn;⟨a,e,ha.mono l⟩⟩
theorem KdAt.rebase (h:KdAt σ₀ σ x L):∃σ₁,KdAt σ₁ σ x L∧σ₀.le σ₁∧∀a o,σ a=some o→(∀es,o≠ .dict es)→σ₁ a=some o:=by
 obtain⟨le,dk,r,es,h1,h2,h3,h4,h5,h6⟩:=h
 refine⟨σ.hide [r],⟨Sto.hide_le _ _,dk,r,es,h1,h2,h3,by unfold Sto.hide;rw[if_pos (by simp)],h5,h6⟩,fun a o e=>Sto.hide_at (le a o e) ?_,fun a o e n=>Sto.hide_at e ?_⟩
 ·simp only[List.mem_cons,List.not_mem_nil,or_false]
  intro z;replace z:=z.symm;subst z;rw[h4] at e;exact nS e
 ·simp only[List.mem_cons,List.not_mem_nil,or_false]
  exact ne_at e h3 (n _)
theorem dget_of_keys {es:List (Str×V)}{k:Str}:(dget es k).isSome=decide (k∈es.map (·.1)):=by
 induction es with
 |nil=>simp[dget]
 |cons p es ih=>
  obtain⟨a,v⟩:=p
  rw[dget_cons]
  by_cases h:a=k
  ·replace h:=h.symm;subst h;simp
  ·rw[if_neg h,ih]
   have:(k=a)=False:=by simp;exact fun e=>h e.symm
   simp[this]
theorem KdAt.keys {es:List (Str×V)}{L:List N}(h:es.map (·.1)=L.map N.s)(n:N):(dget es n.s).isSome=decide (n∈L):=by
 rw[dget_of_keys,h]
 have:(n.s∈L.map N.s)↔n∈L:=by
  rw[List.mem_map]
  exact⟨fun⟨m,hm,e⟩=>N.inj e▸hm,fun hm=>⟨n,hm,rfl⟩⟩
 simp[this]
theorem KdAt.all (h:KdAt σ₀ σ x L)(hL:∀n,n∈L):KsAt σ x dcT:=by
 obtain⟨le,dk,r,es,h1,h2,h3,h4,h5,h6⟩:=h
 refine⟨dk,r,es,h1,h2,h3,fun n c hc=> ?_⟩
 refine x12 (h6 n (hL n)) fun a e ha=> ?_
 exact⟨a,e,by replace hc:=sI hc;subst hc;exact ha⟩
theorem KdAt.add (h:KdAt σ₀ σ x L){n:N}{a:Addr}(hn:n∉L)(ha:DcAt σ a n (dcOf n)):∃dk r es,σ x=some (.inst 555 dk)∧σ dk=some (.attrs [("decls",.ref r)])∧σ r=some (.dict es)∧es.length=L.length∧KdAt σ₀ (σ.put r (.dict (dput es n.s (.ref a)))) x (L++ [n]):=by
 obtain⟨le,dk,r,es,h1,h2,h3,h4,h5,h6⟩:=h
 have hk:n.s∉es.map (·.1):=by
  have:=KdAt.keys h5 n
  rw[dget_of_keys] at this
  intro hm
  simp[hm,hn] at this
 have ed:dput es n.s (.ref a)=es++ [(n.s,.ref a)]:=dput_new hk
 refine⟨dk,r,es,h1,h2,h3,by simpa using congrArg List.length h5,aR le h4 _,dk,r,_,aF h1 (ne_at h1 h3 (by simp)),aF h2 (ne_at h2 h3 (by simp)),aA _ _ _,h4,by rw[ed];simp[h5],fun m hm=> ?_⟩
 have keep:∀{a:Addr} {m:N} {c:Dc},DcAt σ a m c→DcAt (σ.put r (.dict (dput es n.s (.ref a)))) a m c:=fun {a m c} hd=>by
  refine x43 hd fun da lp lf mu d1 d2 d3=> ?_
  exact⟨da,lp,lf,mu,aF d1 (ne_at d1 h3 (by simp)),aF d2 (ne_at d2 h3 (by simp)),aF d3 (ne_at d3 h3 (by simp))⟩
 have keep2:∀{z:AO} {a:Addr} {m:N} {c:Dc},DcAt σ a m c→DcAt (σ.put r z) a m c:=fun {z a m c} hd=>by
  refine x43 hd fun da lp lf mu d1 d2 d3=> ?_
  exact⟨da,lp,lf,mu,aF d1 (ne_at d1 h3 (by simp)),aF d2 (ne_at d2 h3 (by simp)),aF d3 (ne_at d3 h3 (by simp))⟩
 have dl:∀k,k≠n.s→dget (es++ [(n.s,V.ref a)]) k=dget es k:=fun k hk=>by
  unfold dget
  rw[List.find?_append]
  induction hf:es.find? (fun kv=>kv.1=k) using Option.casesOn with
  |some p=>simp
  |none=>simp[Ne.symm hk]
 rcases List.mem_append.mp hm with hm|hm
 ·refine x12 (h6 m hm) fun a' e' ha'=> ?_
  refine⟨a',?_,keep2 ha'⟩
  rw[ed,dl _ (fun e=>hn (N.inj e▸hm))];exact e'
 ·have:m=n:=by simpa using hm
  subst this
  refine⟨a,?_,keep2 ha⟩
  rw[ed]
  unfold dget
  rw[List.find?_append]
  have:es.find? (fun kv=>kv.1=m.s)=none:=by
   rw[List.find?_eq_none]
   intro p hp e
   have e:p.1=m.s:=by simpa using e
   exact hk (e▸List.mem_map_of_mem hp)
  rw[this];simp
end
noncomputable def declOk (L:List N) (n m:N) (qs:List K) (fs:Flds):Bool:=
 (decide (n∉L)&&decide (m∈L)&&absT m&&decide (K.name m qs≠nK .nType))&&(decide (qs.length=(psT m).length)&&((K.name m qs).fv [] []).all (fun x=>decide (x∈(psT n).map (·.1))))&&
 (fs.all (fun p=>(p.2.fv [] []).all (fun x=>decide (x∈(psT n).map (·.1)))&&decide (p.2.sz≤100))&&decide ((fs.map (·.1)).Nodup)&&decide (fs.length≤50)&&decide ((K.name m qs).sz≤100)&&decide ((K.name m qs).dp≤10))
noncomputable def owns (n:N):List V:=(psT n).map fun p=>V.str p.1.s
theorem owns_mem {n:N}{x:X}:V.str x.s∈owns n↔x∈(psT n).map (·.1):=by
 simp only[owns,List.mem_map]
 constructor
 ·rintro⟨p,hp,e⟩
  refine⟨p,hp,X.inj ?_⟩
  injection e
 ·rintro⟨p,hp,rfl⟩
  exact⟨p,hp,rfl⟩
theorem owns_gr (n:N):V.grs (owns n)=true:=V.grs_of fun v hv=>by
 simp only[owns,List.mem_map] at hv
 refine x12 hv fun p _ z1=> ?_;clear hv;subst z1
 exact p.1.ok
theorem fvV_pair (fs:Flds):fs.map fV=(fs.map fun p=>(p.1,p.2.v)).map pairV:=by rw[List.map_map];rfl
theorem fv_len_gen:∀(m:Nat) (k:K) (bd acc:List X),k.sz≤m→(k.fv bd acc).length≤acc.length+k.sz:=by
 intro m
 induction m with
 |zero=>intro k bd acc h;have:=k.sz_pos;lia
 |succ m ih=>
  have lst:∀(l:List K) (bd acc:List X),K.szs l≤m→(K.fvs bd l acc).length≤acc.length+K.szs l:=by
   intro l
   induction l with
   |nil=>exact fun _ _ _=>Nat.le_refl _
   |cons k l ihl=>
    intro bd acc h
    have h1:=ih k bd acc (l_al h)
    have h2:=ihl bd (k.fv bd acc) (l_ar h)
    exact nT h2 (nT (Nat.add_le_add_right h1 _) (Nat.le_of_eq (Nat.add_assoc _ _ _)))
  intro k bd acc h
  induction k using K.casesOn with
  |name n ps=>exact Nat.le_succ_of_le (lst ps bd acc (Nat.le_of_succ_le_succ h))
  |tup ks=>exact Nat.le_succ_of_le (lst ks bd acc (Nat.le_of_succ_le_succ h))
  |union ks=>exact Nat.le_succ_of_le (lst ks bd acc (Nat.le_of_succ_le_succ h))
  |typ k=>exact Nat.le_succ_of_le (ih k bd acc (Nat.le_of_succ_le_succ h))
  |var x=>
   show(if _ then acc else acc++ [x]).length≤acc.length+1
   split
   ·exact Nat.le_succ _
   ·exact Nat.le_of_eq List.length_append
  |bot=>exact Nat.le_succ _
  |num i=>exact Nat.le_succ _
  |all x lo up b=>
   have h:lo.sz+up.sz+b.sz≤m:=Nat.le_of_succ_le_succ h
   have h1:=ih lo bd acc (l_al (l_al h))
   have h2:=ih up bd (lo.fv bd acc) (l_ar (l_al h))
   have h3:=ih b (bd++ [x]) (up.fv bd (lo.fv bd acc)) (l_ar h)
   show(b.fv (bd++ [x]) (up.fv bd (lo.fv bd acc))).length≤acc.length+(lo.sz+up.sz+b.sz+1)
   lia
theorem fv_len (k:K)(h:k.sz≤1000):(k.fv [] []).length≤1000:=by have:=fv_len_gen k.sz k [] [] (Nat.le_refl _);simp at this;exact nT this h
inductive DclI (fs:Flds)(x a ol:Addr)(σ3:Sto)(td:Flds)(ρ:Loc)(σ:Sto):Prop
 |mk (l:σ3.le σ) (r1:ρ "self"=some (.ref x)) (r2:ρ "decl"=some (.ref a)) (r3:ρ "own"=some (.ref ol)) (wl:Addr) (r4:ρ "wild"=some (.ref wl)) (k2:σ wl=some (.list [])) (k1:∀p∈td,p∈fs)
section
variable {σ:Sto}
theorem wild_none {d:Nat}{sc:Nms}{cs:Scope}{cp tp p1 p2 p3 p4:Pos}{t:Str}{iter:Expr}{n:N}{fv:List X}{ol fl:Addr}{ρ:Loc}{Q:List V→Loc→Sto→Prop}(h:∀x∈fv,x∈(psT n).map (·.1))(ho:σ ol=some (.list (owns n)))(hf:σ fl=some (.list (xs fv)))(hz:fv.length≤1000)
  (ht:sc.lookup t=some .local) (hto:t≠Str.ofString "own") (hc:sc.lookup (Str.ofString "own")=some .cell) (hd:(t==("__debug__":Str))=false) (hρ:ρ "own"=some (.ref ol)) (q:∀ρ',Q [] ρ' σ):
  TCo d sc (.Name t p1) [⟨.Name t tp,iter,[.Compare (.Name t p2) [.NotIn] [.Name "own" p3] p4],0⟩] cs cp 0 (.list fl (xs fv) 0) [] ρ σ Q:=by
 refine TCo_map (fun _=>false) id rfl rfl ht hf (fun _=>rfl) (by simp[Src.rest,xs];exact lt3 hz) ?_ (fun x _ e=>by exact nB e) ?_
 ·intro v hv
  have hv:v∈xs fv:=by simpa[Src.rest] using hv
  simp only[xs,List.mem_map] at hv
  refine x12 hv fun x hx z2=> ?_;clear hv;subst z2
  refine TB_cmp (TE_loc ht (by dsimp only[Loc.put];rw[if_pos rfl]) ?_ hd)
  refine TE_cell hc (by dsimp only[Loc.put];rw[if_neg (fun e=>hto e.symm)];exact hρ) ?_
  refine T2_notin_list ho (r:=true) (by simp only[true_iff];exact owns_mem.mpr (h x hx)) x.ok (owns_gr n) (by simp[V.dep]) ?_
  exact TT_bool ⟨rfl,rfl⟩
 ·intro ρ'
  have e:∀l:List V,(l.filter fun _=>false)=[]:=fun l=>by induction l<;>simp_all
  rw[e]
  exact q ρ'
theorem c_declare {σ₀:Sto}{x a:Addr}{L:List N}{n m:N}{qs:List K}{fs:Flds}{Q:V→Sto→Prop}(h:KdAt σ₀ σ x L)(ha:DdAt σ a n (psT n) (K.name m qs).v (absT n) fs)(hs:supT n=some (.name m qs))(hok:declOk L n m qs fs=true)(hL:L.length≤1000)
  (q:∀σ',KdAt σ₀ σ' x (L++ [n])→Q .none σ'):CallT (d+8) (.ref 491) [.ref x,.ref a] σ Q:=by
 simp only[declOk,Bool.and_eq_true,decide_eq_true_eq,List.all_eq_true] at hok
 refine an2 hok fun z3 z4=> ?_;clear hok;refine an2 z3 ?_;clear z3;intro z2 z3;refine an2 z2 ?_;clear z2;intro z2 o4;obtain⟨⟨o1,o2⟩,o3⟩:=z2;refine an2 z3 fun o5 o6=> ?_;clear z3;refine an2 z4 fun z1 o11=> ?_;clear z4;refine an2 z1 ?_;clear z1;intro z1 o10;obtain⟨⟨o7,o8⟩,o9⟩:=z1
 refine x44 (id ha.it) fun da lp lf mu a1 a2 a3 a4=> ?_
 obtain⟨le,dk,r,es,h1,h2,h3,h4,h5,h6⟩:=id h
 have kn:dget es n.s=none:=by
  have:=KdAt.keys h5 n
  induction z:dget es n.s using Option.casesOn with
  |none=>rfl
  |some v=>rw[z] at this;simp[o1] at this
 refine x12 (h6 m o2) fun am em hm=> ?_
 refine x43 (id hm) fun dm lpm lfm mum m1 m2 m3=> ?_
 refine aG b.f_Kinds_declare_2 rfl dkk dkk ?_
 got_up
 refine aL a1 a2 b.n_Decl_name (by rfl) (by rfl) ?_
 got_up
 refine aL h1 h2 b.n_Kinds_decls (by rfl) (by rfl) ?_
 got_up
 refine T2_in_dict h3 ?_
 got_up
 rw[kn]
 got_up
 refine aL a1 a2 b.n_Decl_super (by rfl) (K.noBi (K.name m qs)) ?_
 got_up
 refine T2_neS dkk ?_
 got_up
 refine aL h1 h2 b.n_Kinds_decls (by rfl) (by rfl) ?_
 got_up
 refine T2_notin_dict h3 ?_
 got_up
 rw[em]
 got_up
 refine aL h1 h2 b.n_Kinds_decls (by rfl) (by rfl) ?_
 got_up
 refine T2_item_dict h3 em ?_
 got_up
 refine aL m1 m2 b.n_Decl_is_abstract (by rfl) (by rfl) ?_
 got_up
 rw[show(dcOf m).abs=true from o3]
 got_up
 refine T2_eqK (a:= .name m qs) (b:=nK .nType) (l_min (lt3 o11)) ?_
 got_up
 rw[show decide (K.name m qs=nK .nType)=false by simpa using o4]
 got_up
 have hqs:=K.szs_len qs
 have o10':K.szs qs+1≤100:=o10
 refine(C_len_tup (aK (by rw[aO];exact nT (Nat.le_of_eq o5) (nT (l_ge o5) (nT hqs (lt3 (l_al o10')))))) ?_)
 got_up
 refine aL h1 h2 b.n_Kinds_decls (by rfl) (by rfl) ?_
 got_up
 refine T2_item_dict h3 em ?_
 got_up
 refine aL m1 m2 b.n_Decl_params (by rfl) (by rfl) ?_
 got_up
 have hpm:(psT m).length≤2:=psT_len m
 refine(C_len_list m3 (aK (by simp[dcOf];exact lt3 hpm)) ?_)
 got_up
 refine T2_ne (r:=true) (by rw[aO,o5];simp[dcOf]) rfl rfl (by simp[V.dep]) ?_
 got_up
 refine TS_compx (.inr dkk) rfl dkk ?_
 got_up
 refine aL a1 a2 b.n_Decl_params (by rfl) (by rfl) ?_
 got_up
 refine kSrc.i (.list a3) ?_
 have hpn:(psT n).length≤2:=psT_len n
 refine TCo_pts (ys:=owns n) rfl rfl dkk a3 (fun _=>rfl) (by simp[owns];exact lt3 hpn) ?_ ?_
 ·show All2 _ (((psT n).map bV).drop 0) _
  rw[List.drop_zero]
  refine All2.map fun p _=> ?_
  got_up
  exact⟨rfl,rfl⟩
 intro ρ1 ol hol
 have l1:=aB hol (.list (owns n))
 have e1:=aA σ ol (.list (owns n))
 change kTh _ _ _ _ (σ.put ol (.list (owns n)))
 generalize σ.put ol (.list (owns n))=σ1 at l1 e1⊢
 got_up
 refine TS_compx (.inl dkk) rfl dkk ?_
 got_up
 refine(((c_free_vars (d:=d) (k:= .name m qs) (lt3 o10) fun fl hfl=> ?_).v.le (l_d)))
 got_up
 have l2:=aB hfl (.list (xs ((K.name m qs).fv [] [])))
 have e2:=aA σ1 fl (.list (xs ((K.name m qs).fv [] [])))
 generalize σ1.put fl (.list (xs ((K.name m qs).fv [] [])))=σ2 at l2 e2⊢
 refine kSrc.i (.list e2) ?_
 have fvz:((K.name m qs).fv [] []).length≤1000:=fv_len _ (lt3 o10)
 refine wild_none (n:=n) o6 (l2 _ _ e1) e2 fvz dkk dkk dkk dkk (by rfl) fun ρ2 w1 hw1=> ?_
 have l3:=aB hw1 (.list [])
 have e3:=aA σ2 w1 (.list [])
 have l123:=aD l1 (aD l2 l3)
 have eo:=l3 _ _ (l2 _ _ e1)
 generalize σ2.put w1 (.list [])=σ3 at l123 e3 eo⊢
 got_up
 refine TS_for ?_
 got_up
 refine aL (l123 _ _ a1) (l123 _ _ a2) b.n_Decl_fields (by rfl) (by rfl) ?_
 got_up
 refine kSrc.i (.list (l123 _ _ a4)) ?_
 got_up
 refine TFor_rec (f:=fV) (DclI fs x a ol σ3) (fun σ'=>σ3.le σ') (fun _ _ _ h=>h.casesOn fun l _ _ _ _ _ _ _=>l) ?_ ?_ (l:=fs) rfl (fun σ' h=>h _ _ (l123 _ _ a4)) ⟨aQ _,by rfl,by rfl,by rfl,w1,by rfl,e3,fun _ h=>h⟩
 ·intro p td ρ' σ' hI
  refine hI.casesOn fun hle r1 r2 r3 wl r4 k2 k1=> ?_
  clear hI a1 a2 a3 a4 h1 h2 h3 h4 h5 h6 kn hs o1 o2 o3 o4 o5 o6 o8 o9 o10 o11 h ha hL em m1 m2 m3 q l1 e1 l2 e2 l123
  obtain⟨pn,pk⟩:=p
  have hp:=o7 _ (k1 _ (.head _))
  got_up
  refine TE_comp rfl dkk ?_
  got_up
  refine(((c_free_vars (d:=d) (k:=pk) (nT hp.2 (by decide)) fun fl hfl=> ?_).v.le (l_d)))
  got_up
  have m2':=aB hfl (.list (xs (pk.fv [] [])))
  refine kSrc.i (.list sps) ?_
  have r3':(((ρ'.put "name" (.str pn)).put "kind" pk.v)) "own"=some (.ref ol):=r3
  refine wild_none (n:=n) hp.1 (m2' _ _ (hle _ _ eo)) sps (fv_len _ (nT hp.2 (by decide))) dkk dkk dkk dkk (by exact r3) fun ρ5 w2 hw2=> ?_
  have m3':=aB hw2 (.list [])
  got_up
  refine T2_add_list (m3' _ _ (m2' _ _ k2)) sps (aK (by simp)) fun w3 hw3=> ?_
  got_up
  have m4':=aB hw3 (.list ([]++ []))
  exact⟨aD hle (aD m2' (aD m3' m4')),r1,r2,r3,w3,by rfl,aA _ _ _,fun p hp=>k1 p (.tail _ hp)⟩
 ·intro ρ' σ' hI
  refine hI.casesOn fun hle r1 r2 r3 wl r4 k2 k1=> ?_
  clear hI k1
  have hle':=aD l123 hle
  have a1':=hle' _ _ a1
  have a2':=hle' _ _ a2
  have a4':=hle' _ _ a4
  got_up
  refine fun c1 hc1=> ?_
  got_up
  have n1:=aB hc1 (.list [])
  refine T2_ne_nil (r:=true) (n1 _ _ k2) sps (by simp) ?_
  got_up
  refine aL (n1 _ _ a1') (n1 _ _ a2') b.n_Decl_fields (by rfl) (by rfl) ?_
  got_up
  refine(C_dict_pairs b.low (es:=fs.map fun p=>(p.1,p.2.v)) (by rw[←fvV_pair];exact n1 _ _ a4') (by simp;exact lt3 o9) fun c2 hc2=> ?_)
  got_up
  have n2:=aB hc2 (.dict (dmerge (fs.map fun p=>(p.1,p.2.v))))
  have hdm:dmerge (fs.map fun p=>(p.1,p.2.v))=fs.map fun p=>(p.1,p.2.v):=dmerge_nodup _ (by rw[List.map_map];exact o8)
  refine(C_len_dict sps (aK (by rw[hdm];simp;exact lt3 o9)) ?_)
  got_up
  refine aL (n2 _ _ (n1 _ _ a1')) (n2 _ _ (n1 _ _ a2')) b.n_Decl_fields (by rfl) (by rfl) ?_
  got_up
  refine(C_len_list (n2 _ _ (n1 _ _ a4')) (aK (by simp;exact lt3 o9)) ?_)
  got_up
  refine T2_ne (r:=true) (by rw[hdm];simp) rfl rfl (by simp[V.dep]) ?_
  got_up
  have nn:=aD hle' (aD n1 n2)
  have hn:=h.mono nn
  have hd':=(ha.mono nn).dc
  generalize ((σ'.put c1 (.list [])).put c2 (.dict (dmerge (fs.map fun p=>(p.1,p.2.v)))))=σ8 at nn hn hd'⊢
  have hds:(⟨psT n,(K.name m qs).v,absT n⟩:Dc)=dcOf n:=by unfold dcOf;rw[hs]
  rw[hds] at hd'
  refine x35 (hn.add o1 hd') fun dk' r' es' z1 z2 z3 z4 z5=> ?_
  refine aL z1 z2 b.n_Kinds_decls (by rfl) (by rfl) ?_
  got_up
  refine aL (nn _ _ a1) (nn _ _ a2) b.n_Decl_name (by rfl) (by rfl) ?_
  got_up
  refine T3_item_dict z3 (aK (nT (Nat.le_of_eq z4) (lt3 hL))) ?_
  got_up
  exact q _ z5
noncomputable def chk (L:List N) (n:N) (fs:Flds):Bool:=((supT n).any fun k=>k.nmE false fun m qs=>declOk L n m qs fs&&decide (L.length≤1000))
noncomputable def chks (fs:Flds):List N→List N→Bool
 |_,[]=>true
 |L,n::td=>chk L n fs&&chks fs (L++ [n]) td
noncomputable abbrev supV (n:N):V:=(dcOf n).sup
set_option tactic.hygienic true in
theorem c_dec {σ₀:Sto}{x a:Addr}{L:List N}{n:N}{fs:Flds}{Q:V→Sto→Prop}(h:KdAt σ₀ σ x L)(ha:DdAt σ a n (psT n) (supV n) (absT n) fs)(hok:chk L n fs=true)(q:∀σ',KdAt σ₀ σ' x (L++ [n])→Q .none σ'):
  CallT (d+8) (.ref 491) [.ref x,.ref a] σ Q:=by
 refine(Option.any_eq_true _ _).mp hok|>.elim fun k hk=> ?_
 refine K.nmT hk.2 fun m qs e hok=> ?_
 have hs:=e▸hk.1
 have e:supV n=(K.name m qs).v:=by show(match supT n with|some k=>k.v|none=> .none)=_;rw[hs]
 exact c_declare h (e▸ha) hs (bA hok).1 (oD (bA hok).2) q
theorem kd_meth {σ₀:Sto}{x:Addr}{L:List N}(h:KdAt σ₀ σ x L):GM "declare" (.ref x) σ (.ref 491) [.ref x]:=by
 obtain⟨le,dk,r,es,h1,h2,_⟩:=h
 exact GM_own h1 h2 b.m_Kinds_declare (by rfl)
theorem nominal_body {σ₀:Sto}{x:Addr}{L:List N}{n:N}{ρ:Loc}{Q:V→Sto→Prop}(h:KdAt σ₀ σ x L)(hp:psT n=[])(hok:chk L n []=true)(r1:ρ "kinds"=some (.ref x))(r2:ρ "name"=some (.str n.s))(r3:ρ "above"=some (supV n))(r4:ρ "is_abstract"=some (.bool (absT n)))(q:∀σ',KdAt σ₀ σ' x (L++ [n])→Q .none σ'):
  TS (d+8) (aH (defAt 47)) (aI (defAt 47)) ρ σ (backOf Q):=by
 refine TS_cons (TS_expr ?_)
 w_fin
 refine⟨_,_,kd_meth h,b.f_Kinds_declare_2.kp,?_⟩
 w_fin
 refine fun c hc=> ?_
 w_fin
 have l1:=aB hc (.list [])
 refine(((c_Decl_new5 (n:=n) (sup:=supV n) (ps:=psT n) (ab:=absT n) (.list (by rw[hp];exact aA _ _ _)) (by rw[hp];simp) fun a σ' l2 _ ha=> ?_).v.le (l_d)))
 w_fin
 refine(c_dec (h.mono (aD l1 l2)) ha hok fun σ2 h2=> ?_).v
 w_fin
 refine⟨rfl,?_⟩
 w_fin
 exact q σ2 h2
theorem c_nominal4 {σ₀:Sto}{x:Addr}{L:List N}{n:N}{sv:V}{ab:Bool}{Q:V→Sto→Prop}(h:KdAt σ₀ σ x L)(hp:psT n=[])(hok:chk L n []=true)(e1:sv=supV n)(e2:ab=absT n)(q:∀σ',KdAt σ₀ σ' x (L++ [n])→Q .none σ'):
  CallT (d+9) (.ref 567) [.ref x,.str n.s,sv,.bool ab] σ Q:=by
 subst e1;subst e2
 exact aG b.f_nominal_4 rfl dkk dkk (nominal_body h hp hok (by rfl) (by rfl) (by rfl) (by rfl) q)
theorem c_nominal3 {σ₀:Sto}{x:Addr}{L:List N}{n:N}{sv:V}{Q:V→Sto→Prop}(h:KdAt σ₀ σ x L)(hp:psT n=[])(hok:chk L n []=true)(e1:sv=supV n)(e2:false=absT n)(q:∀σ',KdAt σ₀ σ' x (L++ [n])→Q .none σ'):
  CallT (d+9) (.ref 567) [.ref x,.str n.s,sv] σ Q:=by
 subst e1
 exact aG b.f_nominal_3 rfl dkk dkk (nominal_body h hp hok (by rfl) (by rfl) (by rfl) (by rw[←e2];rfl) q)
inductive DeI (σ₀:Sto)(x:Addr)(fs:Flds)(L1 ns:List N)(J:Loc→Prop)(td:List N)(ρ:Loc)(σ:Sto):Prop
 |mk (j:J ρ) (L':List N) (h1:∀n∈td,n∈ns) (h2:chks fs L' td=true) (h3:L'++td=L1) (h4:KdAt σ₀ σ x L')
theorem TFor_decl {d:Nat}{sc:Nms}{t:Str}{tp:Pos}{body:List Stmt}{σ₀:Sto}{x:Addr}{fs:Flds}{L L1:List N}{J:Loc→Prop}{ns:List N}{ρ:Loc}{Q:Fl→Loc→Sto→Prop}(ht:sc.lookup t=some .local)(h:KdAt σ₀ σ x L)(hc:chks fs L ns=true)(hL:L++ns=L1)(hJ:J ρ)(jt:∀ρ v,J ρ→J (ρ.put t v))
  (step:∀(n:N) (L':List N) (ρ':Loc) (σ':Sto) (P:Fl→Loc→Sto→Prop),n∈ns→J ρ'→KdAt σ₀ σ' x L'→chk L' n fs=true→ρ' t=some (.str n.s)→(∀σ'',KdAt σ₀ σ'' x (L'++ [n])→P .next ρ' σ'')→TS d sc body ρ' σ' P)
  (done:∀ρ' σ',J ρ'→KdAt σ₀ σ' x L1→Q .next ρ' σ'):TFor d sc (.Name t tp) body (.tup (ns.map fun n=>V.str n.s) 0) ρ σ Q:=by
 refine TFor_rec (f:=fun n:N=>V.str n.s) (DeI σ₀ x fs L1 ns J) (fun _=>True) (fun _ _ _ _=>trivial) (fun n td ρ' σ' hI=> ?_) (fun ρ' σ' hI=> ?_) (l:=ns) List.drop_zero (fun _ _=>trivial) ⟨hJ,L,fun _ h=>h,hc,hL,h⟩
 ·refine hI.casesOn fun j L' h1 h2 h3 h4=> ?_
  refine an2 (bA h2) fun h2 h2'=> ?_
  exact TA_loc ht (step n L' _ σ' _ (h1 n (.head _)) (jt _ _ j) h4 h2 (by dsimp only[Loc.put];rw[if_pos rfl]) fun σ'' h5=>⟨jt _ _ j,L'++ [n],fun m hm=>h1 m (.tail _ hm),h2',by rw[List.append_assoc];exact h3,h5⟩)
 ·refine hI.casesOn fun j L' _ _ h3 h4=> ?_
  rw[List.append_nil] at h3
  subst h3
  exact done ρ' σ' j h4
noncomputable def plainE:List N:=[.nDivideError,.nInexactError,.nTypeError,.nStackOverflowError]
noncomputable def textE:List N:=[.nArgumentError,.nOverflowError,.nDimensionMismatch,.nErrorException]
noncomputable def callE:List N:=[.nMethodError,.nAmbiguousError]
noncomputable def L0:List N:=[.nAny,.nType,.nFunction,.nNumber,.nAbstractChar,.nAbstractString,.nException,.nReal,.nInteger,.nSigned,.nUnsigned,.nInt8,.nInt16,.nInt32,.nInt64,.nBigInt,.nUInt8,.nUInt16,.nUInt32,.nUInt64,.nBool,.nChar,.nString,.nSymbol,.nNothing,.nExpr]
noncomputable def nomC (n:N) (k:K) (ab:Bool):Bool:=(psT n).isEmpty&&decide (supT n=some k)&&(absT n==ab)
theorem nomC_is {n:N}{k:K}{ab:Bool}(h:nomC n k ab=true):psT n=[]∧supV n=k.v∧absT n=ab:=by
 simp only[nomC,Bool.and_eq_true,List.isEmpty_iff,decide_eq_true_eq,beq_iff_eq] at h
 refine⟨h.1.1,?_,h.2⟩
 show(match supT n with|some k=>k.v|none=> .none)=_
 rw[h.1.2]
theorem nomC_all {l:List N}{k:K}{ab:Bool}(h:(l.all fun n=>nomC n k ab)=true):∀n∈l,psT n=[]∧supV n=k.v∧absT n=ab:=fun n hn=>nomC_is (lA h n hn)
noncomputable abbrev excK:K:=nK .nException
theorem c_start_errors {σ₀:Sto}{x:Addr}{Q:V→Sto→Prop}(h:KdAt σ₀ σ x L0)(q:∀σ',KdAt σ₀ σ' x (L0++plainE++textE++callE++ [.nUndefVarError]++ [.nBoundsError])→Q .none σ'):
  CallT (d+10) (.ref 581) [.ref x] σ Q:=by
 refine aG b.f_start_errors_1 rfl dkk dkk ?_
 got_up
 refine(((c_named1 (d:=d) (n:="Exception") ?_).v.le (l_d)))
 got_up
 refine TS_for ?_
 got_up
 refine kSrc.i .tup ?_
 got_up
 refine TFor_decl (fs:=[]) (J:=fun ρ=>ρ "kinds"=some (.ref x)∧ρ "above"=some excK.v) (ns:=plainE) (L1:=L0++plainE) dkk h dkk rfl ⟨by rfl,by rfl⟩ (fun ρ v hj=>⟨hj.1,hj.2⟩) ?_ ?_
 ·rintro n L' ρ' σ' P hn ⟨j1,j2⟩ hK hc r1 k
  obtain⟨e1,e2,e3⟩:=nomC_all (l:=plainE) (k:=excK) (ab:=false) dkk n hn
  refine TS_cons (TS_expr ?_)
  got_up
  refine(((c_nominal3 hK e1 hc e2.symm e3.symm fun σ2 h2=> ?_).v.le (Nat.le_refl _)))
  got_up
  refine⟨rfl,?_⟩
  got_up
  exact k σ2 h2
 rintro ρ1 σ1 ⟨j1,j2⟩ h1
 got_up
 refine TS_for ?_
 got_up
 refine kSrc.i .tup ?_
 got_up
 refine TFor_decl (fs:=[(Str.ofString "msg",anyK)]) (J:=fun ρ=>ρ "kinds"=some (.ref x)∧ρ "above"=some excK.v) (ns:=textE) (L1:=L0++plainE++textE) dkk h1 dkk rfl ⟨j1,j2⟩ (fun ρ v hj=>⟨hj.1,hj.2⟩) ?_ ?_
 ·rintro n L' ρ' σ' P hn ⟨j1,j2⟩ hK hc r1 k
  obtain⟨e1,e2,e3⟩:=nomC_all (l:=textE) (k:=excK) (ab:=false) dkk n hn
  refine TS_cons (TS_expr ?_)
  got_up
  refine⟨_,_,kd_meth hK,b.f_Kinds_declare_2.kp,?_⟩
  got_up
  refine fun c hc'=> ?_
  got_up
  have l1:=aB hc' (.list [])
  refine fun c2 hc2=> ?_
  got_up
  have l2:=aB hc2 (.list [.tup [.str "msg",anyK.v]])
  refine(((c_Decl_new7 (n:=n) (sup:=excK.v) (ps:=[]) (fs:=[(Str.ofString "msg",anyK)]) (ab:=false) (mu:=false) (.list (l2 _ _ sps)) (.list sps) (by simp) (by simp) fun a σ3 l3 _ ha=> ?_).v.le (l_d)))
  got_up
  rw[←e1,←e2,←e3] at ha
  refine((c_dec (hK.mono (aD l1 (aD l2 l3))) ha hc fun σ2 h2=> ?_).v.le (l_d))
  got_up
  refine⟨rfl,?_⟩
  got_up
  exact k σ2 h2
 rintro ρ2 σ2 ⟨j1,j2⟩ h2
 got_up
 refine TS_for ?_
 got_up
 refine kSrc.i .tup ?_
 got_up
 refine TFor_decl (fs:=[(Str.ofString "f",anyK),(Str.ofString "args",anyK)]) (J:=fun ρ=>ρ "kinds"=some (.ref x)∧ρ "above"=some excK.v) (ns:=callE) (L1:=L0++plainE++textE++callE) dkk h2 dkk rfl ⟨j1,j2⟩ (fun ρ v hj=>⟨hj.1,hj.2⟩) ?_ ?_
 ·rintro n L' ρ' σ' P hn ⟨j1,j2⟩ hK hc r1 k
  obtain⟨e1,e2,e3⟩:=nomC_all (l:=callE) (k:=excK) (ab:=false) dkk n hn
  refine TS_cons (TS_expr ?_)
  got_up
  refine⟨_,_,kd_meth hK,b.f_Kinds_declare_2.kp,?_⟩
  got_up
  refine fun c hc'=> ?_
  got_up
  have l1:=aB hc' (.list [])
  refine fun c2 hc2=> ?_
  got_up
  have l2:=aB hc2 (.list [.tup [.str "f",anyK.v],.tup [.str "args",anyK.v]])
  refine(((c_Decl_new7 (n:=n) (sup:=excK.v) (ps:=[]) (fs:=[(Str.ofString "f",anyK),(Str.ofString "args",anyK)]) (ab:=false) (mu:=false) (.list (l2 _ _ sps)) (.list sps) (by simp) (by simp) fun a σ3 l3 _ ha=> ?_).v.le (l_d)))
  got_up
  rw[←e1,←e2,←e3] at ha
  refine((c_dec (hK.mono (aD l1 (aD l2 l3))) ha hc fun σ2 h2=> ?_).v.le (l_d))
  got_up
  refine⟨rfl,?_⟩
  got_up
  exact k σ2 h2
 rintro ρ3 σ3 ⟨j1,j2⟩ h3
 got_up
 refine⟨_,_,kd_meth h3,b.f_Kinds_declare_2.kp,?_⟩
 got_up
 refine fun c hc'=> ?_
 got_up
 have l1:=aB hc' (.list [])
 refine fun c2 hc2=> ?_
 got_up
 have l2:=aB hc2 (.list [.tup [.str "var",anyK.v]])
 refine(((c_Decl_new7 (n:= .nUndefVarError) (sup:=excK.v) (ps:=[]) (fs:=[(Str.ofString "var",anyK)]) (ab:=false) (mu:=false) (.list (l2 _ _ sps)) (.list sps) (by simp) (by simp) fun a σ4 l3 _ ha=> ?_).v.le (l_d)))
 got_up
 refine((c_dec (n:= .nUndefVarError) (h3.mono (aD l1 (aD l2 l3))) ha dkk fun σ5 h5=> ?_).v.le (l_d))
 got_up
 refine⟨rfl,?_⟩
 got_up
 refine⟨_,_,kd_meth h5,b.f_Kinds_declare_2.kp,?_⟩
 got_up
 refine fun c hc'=> ?_
 got_up
 have l1:=aB hc' (.list [])
 refine fun c2 hc2=> ?_
 got_up
 have l2:=aB hc2 (.list [.tup [.str "a",anyK.v],.tup [.str "i",anyK.v]])
 refine(((c_Decl_new7 (n:= .nBoundsError) (sup:=excK.v) (ps:=[]) (fs:=[(Str.ofString "a",anyK),(Str.ofString "i",anyK)]) (ab:=false) (mu:=false) (.list (l2 _ _ sps)) (.list sps) (by simp) (by simp) fun a σ6 l3 _ ha=> ?_).v.le (l_d)))
 got_up
 refine((c_dec (n:= .nBoundsError) (h5.mono (aD l1 (aD l2 l3))) ha dkk fun σ7 h7=> ?_).v.le (l_d))
 got_up
 refine⟨rfl,?_⟩
 got_up
 exact q σ7 h7
noncomputable def LE:List N:=L0++plainE++textE++callE++ [.nUndefVarError]++ [.nBoundsError]
theorem KdAt.lower {σ₀ σ₁ σ:Sto}{x:Addr}{L:List N}(h:KdAt σ₁ σ x L)(l:σ₀.le σ₁):KdAt σ₀ σ x L:=by
 obtain⟨le,dk,r,es,h1,h2,h3,h4,h5,h6⟩:=h
 refine⟨aD l le,dk,r,es,h1,h2,h3,?_,h5,h6⟩
 induction z:σ₀ r using Option.casesOn with
 |none=>rfl
 |some o=>rw[l _ _ z] at h4;exact nS' h4
theorem KdAt.keep {σ₀ σ:Sto}{x a:Addr}{L:List N}{xs:List V}(h:KdAt σ₀ σ x L)(n:σ a=none):∃σ₁,σ₀.le σ₁∧σ₁ a=some (.list xs)∧KdAt σ₁ (σ.put a (.list xs)) x L:=by
 refine x13 ((h.mono (aB n (.list xs))).rebase) fun σ₁ h1 h2 h3=> ?_
 exact⟨σ₁,h2,h3 _ _ sps (by simp),h1⟩
theorem c_start_rows {σ₀:Sto}{x:Addr}{Q:V→Sto→Prop}(h:KdAt σ₀ σ x LE)(q:∀σ',KdAt σ₀ σ' x (LE++ [.nAbstractArray]++ [.nArray,.nSubArray]++ [.nAbstractRange]++ [.nUnitRange]++ [.nStepRange]++ [.nRef]++ [.nRational])→Q .none σ'):
  CallT (d+10) (.ref 588) [.ref x] σ Q:=by
 refine aG b.f_start_rows_1 rfl dkk dkk ?_
 got_up
 refine fun aa haa=> ?_
 got_up
 refine x13 (h.keep (xs:=(psT .nArray).map bV) haa) fun σ₁ k1 k2 h=> ?_
 change TS1 _ _ _ _ (σ.put aa (.list ((psT .nArray).map bV))) _
 generalize σ.put aa (.list ((psT .nArray).map bV))=σa at h⊢
 refine TS_asg (hw:=fun env hn hk=>swapOf_spec hn hk (by rfl)) ?_
 got_up
 refine⟨_,_,kd_meth h,b.f_Kinds_declare_2.kp,?_⟩
 got_up
 refine(((c_Decl_new5 (n:= .nAbstractArray) (sup:=anyK.v) (ps:=psT .nArray) (ab:=true) (.list (h.le _ _ k2)) (by decide) fun a σ' l2 _ ha=> ?_).v.le (l_d)))
 got_up
 refine(c_dec (n:= .nAbstractArray) (h.mono l2) ha dkk fun σ2 h2=> ?_).v.le (l_d)
 got_up
 refine⟨rfl,?_⟩
 got_up
 refine TS_for ?_
 got_up
 refine kSrc.i .tup ?_
 got_up
 refine TFor_decl (fs:=[]) (J:=fun ρ=>ρ "kinds"=some (.ref x)∧ρ "anything"=some (.ref aa)∧ρ "item"=some (K.var .T0).v∧ρ "rank"=some (K.var .N0).v) (ns:=[.nArray,.nSubArray]) (L1:=LE++ [.nAbstractArray]++ [.nArray,.nSubArray]) dkk h2 dkk rfl ⟨by rfl,by rfl,by rfl,by rfl⟩ (fun ρ v hj=>⟨hj.1,hj.2.1,hj.2.2.1,hj.2.2.2⟩) ?_ ?_
 ·rintro n L' ρ' σ' P hn ⟨j1,j2,j3,j4⟩ hK hc r1 k
  have hp:psT n=psT .nArray∧supV n=(K.name .nAbstractArray [.var .T0,.var .N0]).v∧absT n=false:=by
   simp only[List.mem_cons,List.not_mem_nil,or_false] at hn
   rcases hn with rfl|rfl
   ·exact⟨rfl,rfl,rfl⟩
   ·exact⟨rfl,rfl,rfl⟩
  refine an3 hp fun e1 e2 e3=> ?_;clear hp
  refine TS_cons (TS_expr ?_)
  got_up
  refine⟨_,_,kd_meth hK,b.f_Kinds_declare_2.kp,?_⟩
  got_up
  refine(((c_named2 (d:=d) (n:="AbstractArray") (ps:=[(K.var .T0).v,(K.var .N0).v]) ?_).v.le (l_d)))
  got_up
  refine(((c_Decl_new6 (n:=n) (sup:=(K.name .nAbstractArray [.var .T0,.var .N0]).v) (ps:=psT .nArray) (ab:=false) (mu:=true) (.list (hK.le _ _ k2)) (by decide) fun a σ3 l3 _ ha=> ?_).v.le (l_d)))
  got_up
  rw[←e1,←e2,←e3] at ha
  refine(c_dec (hK.mono l3) ha hc fun σ4 h4=> ?_).v.le (l_d)
  got_up
  refine⟨rfl,?_⟩
  got_up
  exact k σ4 h4
 rintro ρ3 σ3 ⟨j1,j2,j3,j4⟩ h3
 got_up
 refine fun oa hoa=> ?_
 got_up
 refine x13 (h3.keep (xs:=(psT .nRef).map bV) hoa) fun σ₂ k3 k4 h3=> ?_
 change Ml _ _ _ _ _ (σ3.put oa (.list ((psT .nRef).map bV)))
 generalize σ3.put oa (.list ((psT .nRef).map bV))=σb at h3⊢
 got_up
 refine⟨_,_,kd_meth h3,b.f_Kinds_declare_2.kp,?_⟩
 got_up
 refine(((c_named2 (d:=d) (n:="AbstractArray") (ps:=[(K.var .T0).v,(K.num 1).v]) ?_).v.le (l_d)))
 got_up
 refine(((c_Decl_new5 (n:= .nAbstractRange) (sup:=(K.name .nAbstractArray [.var .T0,.num 1]).v) (ps:=psT .nRef) (ab:=true) (.list (h3.le _ _ k4)) (by decide) fun a σ4 l4 _ ha=> ?_).v.le (l_d)))
 got_up
 refine(c_dec (n:= .nAbstractRange) (h3.mono l4) ha dkk fun σ5 h5=> ?_).v.le (l_d)
 got_up
 refine⟨rfl,?_⟩
 got_up
 refine(((c_named2 (d:=d) (n:="AbstractRange") (ps:=[(K.var .T0).v]) ?_).v.le (l_d)))
 got_up
 refine⟨_,_,kd_meth h5,b.f_Kinds_declare_2.kp,?_⟩
 got_up
 refine fun c10 hc10=> ?_
 got_up
 have l10:=aB hc10 (.list [.tup [.str "start",(K.var .T0).v],.tup [.str "stop",(K.var .T0).v]])
 refine(((c_Decl_new7 (n:= .nUnitRange) (sup:=(K.name .nAbstractRange [.var .T0]).v) (ps:=psT .nRef) (fs:=[(Str.ofString "start",K.var .T0),(Str.ofString "stop",K.var .T0)]) (ab:=false) (mu:=false) (.list (l10 _ _ (h5.le _ _ k4))) (.list sps) (by decide) (by simp) fun a s10 m10 _ ha=> ?_).v.le (l_d)))
 got_up
 refine(c_dec (n:= .nUnitRange) (h5.mono (aD l10 m10)) ha dkk fun t10 h10=> ?_).v.le (l_d)
 got_up
 refine⟨rfl,?_⟩
 got_up
 refine⟨_,_,kd_meth h10,b.f_Kinds_declare_2.kp,?_⟩
 got_up
 refine fun c11 hc11=> ?_
 got_up
 have l11:=aB hc11 (.list [.tup [.str "start",(K.var .T0).v],.tup [.str "step",(K.var .T0).v],.tup [.str "stop",(K.var .T0).v]])
 refine(((c_Decl_new7 (n:= .nStepRange) (sup:=(K.name .nAbstractRange [.var .T0]).v) (ps:=psT .nRef) (fs:=[(Str.ofString "start",K.var .T0),(Str.ofString "step",K.var .T0),(Str.ofString "stop",K.var .T0)]) (ab:=false) (mu:=false) (.list (l11 _ _ (h10.le _ _ k4))) (.list sps) (by decide) (by simp) fun a s11 m11 _ ha=> ?_).v.le (l_d)))
 got_up
 refine(c_dec (n:= .nStepRange) (h10.mono (aD l11 m11)) ha dkk fun t11 h11=> ?_).v.le (l_d)
 got_up
 refine⟨rfl,?_⟩
 got_up
 refine⟨_,_,kd_meth h11,b.f_Kinds_declare_2.kp,?_⟩
 got_up
 refine fun c12 hc12=> ?_
 got_up
 have l12:=aB hc12 (.list [.tup [.str "x",(K.var .T0).v]])
 refine(((c_Decl_new7 (n:= .nRef) (sup:=anyK.v) (ps:=psT .nRef) (fs:=[(Str.ofString "x",K.var .T0)]) (ab:=false) (mu:=true) (.list (l12 _ _ (h11.le _ _ k4))) (.list sps) (by decide) (by simp) fun a s12 m12 _ ha=> ?_).v.le (l_d)))
 got_up
 refine(c_dec (n:= .nRef) (h11.mono (aD l12 m12)) ha dkk fun t12 h12=> ?_).v.le (l_d)
 got_up
 refine⟨rfl,?_⟩
 got_up
 refine(((c_named1 (d:=d) (n:="Integer") ?_).v.le (l_d)))
 got_up
 refine fun wa hwa=> ?_
 got_up
 refine x13 (h12.keep (xs:=(psT .nRational).map bV) hwa) fun σ₃ k5 k6 h13=> ?_
 change Ml _ _ _ _ _ (t12.put wa (.list ((psT .nRational).map bV)))
 generalize t12.put wa (.list ((psT .nRational).map bV))=σc at h13⊢
 got_up
 refine⟨_,_,kd_meth h13,b.f_Kinds_declare_2.kp,?_⟩
 got_up
 refine(((c_named1 (d:=d) (n:="Real") ?_).v.le (l_d)))
 got_up
 refine fun c14 hc14=> ?_
 got_up
 have l14:=aB hc14 (.list [.tup [.str "num",(K.var .T0).v],.tup [.str "den",(K.var .T0).v]])
 refine(((c_Decl_new7 (n:= .nRational) (sup:=(nK .nReal).v) (ps:=psT .nRational) (fs:=[(Str.ofString "num",K.var .T0),(Str.ofString "den",K.var .T0)]) (ab:=false) (mu:=false) (.list (l14 _ _ (h13.le _ _ k6))) (.list sps) (by decide) (by simp) fun a s14 m14 _ ha=> ?_).v.le (l_d)))
 got_up
 refine(c_dec (n:= .nRational) (h13.mono (aD l14 m14)) ha dkk fun t14 h14=> ?_).v.le (l_d)
 got_up
 refine⟨rfl,?_⟩
 got_up
 exact q t14 (h14.lower (aD k1 (aD k3 k5)))
theorem c_Kinds_new {Q:V→Sto→Prop}(q:∀x σ',KdAt σ σ' x [.nAny]→Q (.ref x) σ'):CallT (d+5) (.ref 555) [] σ Q:=by
 refine C_make b.i_Kinds fun dx x hne h1 h2=> ?_
 w_fin
 have hx:((σ.put dx (.attrs [])).put x (.inst 555 dx)) x=some (.inst 555 dx):=aA _ _ _
 have hd:((σ.put dx (.attrs [])).put x (.inst 555 dx)) dx=some (.attrs []):=aF sps hne
 have hle:σ.le ((σ.put dx (.attrs [])).put x (.inst 555 dx)):=aE (aB h1 _) (by rw[aM _ _ hne.symm];exact h2) _
 generalize (σ.put dx (.attrs [])).put x (.inst 555 dx)=σ1 at hx hd hle⊢
 refine aG b.f_Kinds_init_1 rfl dkk dkk ?_
 refine TS_cons (TS_attr ?_)
 with_reducible refine TE_dict b.low ?_ ?_ ?_ ?_ ?_
 ·rfl
 ·rfl
 ·exact List.cons_ne_nil _ _
 ·exact Nat.le_of_ble_eq_true rfl
 with_reducible refine TPs_cons ?_
 w_fin
 refine⟨_,rfl,?_⟩
 w_fin
 refine fun c hc=> ?_
 w_fin
 have l1:=aB hc (.list [])
 refine(((c_Decl_new5 (n:= .nAny) (sup:= .none) (ps:=[]) (ab:=true) (.list sps) (by simp) fun a σ2 l2 _ ha=> ?_).v.le (l_d)))
 w_fin
 with_reducible refine TPs_nil fun r hr=> ?_
 have l3:=aB hr (.dict (dmerge [(Str.ofString "Any",.ref a)]))
 w_fin
 have l123:=aD l1 (aD l2 l3)
 have e0:dmerge [(Str.ofString "Any",V.ref a)]=[(N.nAny.s,V.ref a)]:=dmerge_nodup _ (by simp)
 refine T2_setE (l123 _ _ hx) (l123 _ _ hd) b.n_Kinds_decls (l':=[("decls",.ref r)]) (by simp) (by rfl) ?_
 w_fin
 have hr':=aA σ2 r (.dict (dmerge [(Str.ofString "Any",V.ref a)]))
 have ha3:=(ha.mono l3).dc
 rw[e0] at hr' ha3
 have hnr:σ r=none:=by
  induction z:σ r using Option.casesOn with
  |none=>rfl
  |some o=>rw[l2 _ _ (l1 _ _ (hle _ _ z))] at hr;exact nS' hr
 refine⟨rfl,q x _ ⟨aR (aD hle l123) h1 _,dx,r,[(N.nAny.s,.ref a)],aF (l123 _ _ hx) (ne_at hx hd (by simp)),aA _ _ _,?_,hnr,rfl,?_⟩⟩
 ·rw[e0]
  exact aF hr' (ne_at hr' (by rw[←e0];exact l123 _ _ hd) (by simp))
 ·intro n hn
  have:n= .nAny:=by simpa using hn
  subst this
  refine⟨a,by rw[dget_cons,if_pos rfl],?_⟩
  refine x43 ha3 fun da lp lf mu d1 d2 d3=> ?_;clear ha3
  rw[e0]
  have hdx:((σ2.put r (.dict [(N.nAny.s,V.ref a)]))) dx=some (.attrs []):=by rw[←e0];exact l123 _ _ hd
  exact⟨da,lp,lf,mu,aF d1 (ne_at d1 hdx (by simp)),aF d2 (ne_at d2 hdx (by simp)),aF d3 (ne_at d3 hdx (by simp))⟩
noncomputable def six:List N:=[.nType,.nFunction,.nNumber,.nAbstractChar,.nAbstractString,.nException]
noncomputable def sgn:List N:=[.nInt8,.nInt16,.nInt32,.nInt64,.nBigInt]
noncomputable def usg:List N:=[.nUInt8,.nUInt16,.nUInt32,.nUInt64]
noncomputable def LZ:List N:=LE++ [.nAbstractArray]++ [.nArray,.nSubArray]++ [.nAbstractRange]++ [.nUnitRange]++ [.nStepRange]++ [.nRef]++ [.nRational]
theorem LZ_all (n:N):n∈LZ:=by induction n using N.casesOn<;>decide +kernel
noncomputable def La:List N:=[.nAny]++six++ [.nReal]++ [.nInteger]++ [.nSigned]++ [.nUnsigned]
theorem nom4 {σ₀:Sto}{x:Addr}{L:List N}(n:N)(k:K){ab:Bool}{Q:V→Sto→Prop}(h:KdAt σ₀ σ x L)(hc:(nomC n k ab&&chk L n [])=true)(q:∀σ',KdAt σ₀ σ' x (L++ [n])→Q .none σ'):CallT (d+9) (.ref 567) [.ref x,.str n.s,k.v,.bool ab] σ Q:=by
 rw[Bool.and_eq_true] at hc
 refine an3 (nomC_is hc.1) fun e1 e2 e3=> ?_
 exact c_nominal4 h e1 hc.2 e2.symm e3.symm q
theorem nom3 {σ₀:Sto}{x:Addr}{L:List N}(n:N)(k:K){Q:V→Sto→Prop}(h:KdAt σ₀ σ x L)(hc:(nomC n k false&&chk L n [])=true)(q:∀σ',KdAt σ₀ σ' x (L++ [n])→Q .none σ'):CallT (d+9) (.ref 567) [.ref x,.str n.s,k.v] σ Q:=by
 rw[Bool.and_eq_true] at hc
 refine an3 (nomC_is hc.1) fun e1 e2 e3=> ?_
 exact c_nominal3 h e1 hc.2 e2.symm e3.symm q
theorem c_start_kinds:StartT (d+130):=by
 intro σ Q q
 refine aG b.f_start_kinds_0 rfl dkk dkk ?_
 got_up
 refine(((c_Kinds_new fun x σ1 h1=> ?_).v.le (l_d)))
 got_up
 refine TS_for ?_
 got_up
 refine kSrc.i .tup ?_
 got_up
 refine TFor_decl (fs:=[]) (J:=fun ρ=>ρ "kinds"=some (.ref x)) (ns:=six) (L1:=[.nAny]++six) dkk h1 dkk rfl (by rfl) (fun ρ v hj=>hj) ?_ ?_
 ·rintro n L' ρ' σ' P hn j1 hK hc r1 k
  obtain⟨e1,e2,e3⟩:=nomC_all (l:=six) (k:=anyK) (ab:=true) dkk n hn
  refine TS_cons (TS_expr ?_)
  got_up
  refine(((c_nominal4 hK e1 hc e2.symm e3.symm fun σ2 h2=> ?_).v.le (l_d)))
  got_up
  refine⟨rfl,?_⟩
  got_up
  exact k σ2 h2
 rintro ρ2 σ2 j2 h2
 got_up
 refine(((c_named1 (d:=d) (n:="Number") ?_).v.le (l_d)))
 got_up
 refine(((nom4 .nReal (nK .nNumber) h2 dkk fun σ3 h3=> ?_).v.le (l_d)))
 got_up
 refine⟨rfl,?_⟩
 got_up
 refine(((c_named1 (d:=d) (n:="Real") ?_).v.le (l_d)))
 got_up
 refine(((nom4 .nInteger (nK .nReal) h3 dkk fun σ4 h4=> ?_).v.le (l_d)))
 got_up
 refine⟨rfl,?_⟩
 got_up
 refine(((c_named1 (d:=d) (n:="Integer") ?_).v.le (l_d)))
 got_up
 refine(((nom4 .nSigned (nK .nInteger) h4 dkk fun σ5 h5=> ?_).v.le (l_d)))
 got_up
 refine⟨rfl,?_⟩
 got_up
 refine(((c_named1 (d:=d) (n:="Integer") ?_).v.le (l_d)))
 got_up
 refine(((nom4 .nUnsigned (nK .nInteger) h5 dkk fun σ6 h6=> ?_).v.le (l_d)))
 got_up
 refine⟨rfl,?_⟩
 got_up
 refine TS_for ?_
 got_up
 refine kSrc.i .tup ?_
 got_up
 refine TFor_decl (fs:=[]) (J:=fun ρ=>ρ "kinds"=some (.ref x)) (ns:=sgn) (L1:=La++sgn) dkk h6 dkk rfl j2 (fun ρ v hj=>hj) ?_ ?_
 ·rintro n L' ρ' σ' P hn j1 hK hc r1 k
  obtain⟨e1,e2,e3⟩:=nomC_all (l:=sgn) (k:=nK .nSigned) (ab:=false) dkk n hn
  refine TS_cons (TS_expr ?_)
  got_up
  refine(((c_named1 (d:=d) (n:="Signed") ?_).v.le (l_d)))
  got_up
  refine(((c_nominal3 hK e1 hc e2.symm e3.symm fun σ2 h2=> ?_).v.le (l_d)))
  got_up
  refine⟨rfl,?_⟩
  got_up
  exact k σ2 h2
 rintro ρ7 σ7 j7 h7
 got_up
 refine TS_for ?_
 got_up
 refine kSrc.i .tup ?_
 got_up
 refine TFor_decl (fs:=[]) (J:=fun ρ=>ρ "kinds"=some (.ref x)) (ns:=usg) (L1:=La++sgn++usg) dkk h7 dkk rfl j7 (fun ρ v hj=>hj) ?_ ?_
 ·rintro n L' ρ' σ' P hn j1 hK hc r1 k
  obtain⟨e1,e2,e3⟩:=nomC_all (l:=usg) (k:=nK .nUnsigned) (ab:=false) dkk n hn
  refine TS_cons (TS_expr ?_)
  got_up
  refine(((c_named1 (d:=d) (n:="Unsigned") ?_).v.le (l_d)))
  got_up
  refine(((c_nominal3 hK e1 hc e2.symm e3.symm fun σ2 h2=> ?_).v.le (l_d)))
  got_up
  refine⟨rfl,?_⟩
  got_up
  exact k σ2 h2
 rintro ρ8 σ8 j8 h8
 got_up
 refine TS_for ?_
 got_up
 refine kSrc.i .tup ?_
 got_up
 refine TFor_turn trivial rfl ?_
 got_up
 refine(((c_named1 (d:=d) (n:="Integer") ?_).v.le (l_d)))
 got_up
 refine(((nom3 .nBool (nK .nInteger) h8 dkk fun s0 k0=> ?_).v.le (l_d)))
 got_up
 refine⟨rfl,?_⟩
 got_up
 refine TFor_turn trivial rfl ?_
 got_up
 refine(((c_named1 (d:=d) (n:="AbstractChar") ?_).v.le (l_d)))
 got_up
 refine(((nom3 .nChar (nK .nAbstractChar) k0 dkk fun s1 k1=> ?_).v.le (l_d)))
 got_up
 refine⟨rfl,?_⟩
 got_up
 refine TFor_turn trivial rfl ?_
 got_up
 refine(((c_named1 (d:=d) (n:="AbstractString") ?_).v.le (l_d)))
 got_up
 refine(((nom3 .nString (nK .nAbstractString) k1 dkk fun s2 k2=> ?_).v.le (l_d)))
 got_up
 refine⟨rfl,?_⟩
 got_up
 refine TFor_end trivial rfl ?_
 got_up
 refine(((nom3 .nSymbol anyK k2 dkk fun s3 k3=> ?_).v.le (l_d)))
 got_up
 refine⟨rfl,?_⟩
 got_up
 refine(((nom3 .nNothing anyK k3 dkk fun s4 k4=> ?_).v.le (l_d)))
 got_up
 refine⟨rfl,?_⟩
 got_up
 refine⟨_,_,kd_meth k4,b.f_Kinds_declare_2.kp,?_⟩
 got_up
 refine fun c hc'=> ?_
 got_up
 have l1:=aB hc' (.list [])
 refine(((c_named1 (d:=d) (n:="Symbol") ?_).v.le (l_d)))
 got_up
 refine fun c2 hc2=> ?_
 got_up
 have l2:=aB hc2 (.list [.tup [.str "head",(nK .nSymbol).v],.tup [.str "args",anyK.v]])
 refine(((c_Decl_new7 (n:= .nExpr) (sup:=anyK.v) (ps:=[]) (fs:=[(Str.ofString "head",nK .nSymbol),(Str.ofString "args",anyK)]) (ab:=false) (mu:=true) (.list (l2 _ _ sps)) (.list sps) (by simp) (by simp) fun a s5 l3 _ ha=> ?_).v.le (l_d)))
 got_up
 refine((c_dec (n:= .nExpr) (k4.mono (aD l1 (aD l2 l3))) ha dkk fun s6 k6=> ?_).v.le (l_d))
 got_up
 refine⟨rfl,?_⟩
 got_up
 refine(((c_start_errors k6 fun s7 k7=> ?_).v.le (l_d)))
 got_up
 refine⟨rfl,?_⟩
 got_up
 refine(((c_start_rows k7 fun s8 k8=> ?_).v.le (l_d)))
 got_up
 refine⟨rfl,?_⟩
 got_up
 exact q x s8 k8.le (k8.all LZ_all)
end
inductive M where
 |no
 |i6
 |bo
 |ig
 |re
 |an
 |st
 deriving DecidableEq
noncomputable def M.n:M→N
 | .no=> .nNothing
 | .i6=> .nInt64
 | .bo=> .nBool
 | .ig=> .nInteger
 | .re=> .nReal
 | .an=> .nAny
 | .st=> .nString
noncomputable abbrev M.k (a:M):K:=nK a.n
noncomputable def le (a b:M):Bool:=a==b||b== .an||(b== .re&&(a== .ig||a== .i6||a== .bo))||(b== .ig&&(a== .i6||a== .bo))
theorem le_refl (a:M):le a a=true:=by induction a using M.casesOn<;>rfl
noncomputable def M.all:List M:=[.no,.i6,.bo,.ig,.re,.an,.st]
theorem M.mem (a:M):a∈M.all:=by induction a using M.casesOn<;>decide
theorem M.one {p:M→Bool}(h:M.all.all p=true)(a:M):p a=true:=lA h a a.mem
theorem le_tr:(M.all.all fun a=>M.all.all fun b=>M.all.all fun c=> !(le a b&&le b c)||le a c)=true:=by decide +kernel
theorem le_an:(M.all.all fun a=>M.all.all fun b=> !(le a b&&le b a)||decide (a=b))=true:=by decide +kernel
theorem n_an:(M.all.all fun a=>M.all.all fun b=> !decide (a.n=b.n)||decide (a=b))=true:=by decide +kernel
theorem le_trans {a b c:M}(h:le a b=true)(h':le b c=true):le a c=true:=by
 have:=M.one (M.one (M.one le_tr a) b) c
 rwa [h,h'] at this
theorem le_anti {a b:M}(h:le a b=true)(h':le b a=true):a=b:=by
 have:=M.one (M.one le_an a) b
 rw[h,h'] at this
 exact oD this
theorem M.inj {a b:M}:a.n=b.n↔a=b:=by
 refine⟨fun e=> ?_,fun e=>by rw[e]⟩
 have:=M.one (M.one n_an a) b
 rw[decide_eq_true e] at this
 exact oD this
theorem M.kinj {a b:M}:a.k=b.k↔a=b:=⟨fun e=>M.inj.mp (nK_inj e),fun e=>by rw[e]⟩
theorem ks_mem {a:M}{l:List M}:a.k∈l.map M.k↔a∈l:=by
 rw[List.mem_map]
 exact⟨fun⟨x,h,e⟩=>by rw[←M.kinj.mp e];exact h,fun h=>⟨a,h,rfl⟩⟩
noncomputable def okS (S:Ss):Bool:=allOk dcT S.rows==some true
noncomputable def Good (S:Ss):Prop:=S.rows.length<60∧S.rows.all (fun p=>decide (p.2.lo.length≤1000))=true∧(allOk dcT S.rows).isSome=true
inductive LvW:Wt→List Ss→Nat→Prop
 |nil:LvW [] [] 0
 |leaf {S W L c}:Good S→LvW W L c→LvW (([],S)::W) (S::L) (c+1)
 |dead {g st S S' W L c}:m_step g S=some ([],S')→LvW W L c→LvW ((g::st,S)::W) L (c+1)
 |step {g st S S' v vs W L c}:m_step g S=some (v::vs,S')→(∀u∈v::vs,u.length≤10)→LvW ((v.reverse++st,S')::(vs.map (fun u=>(u.reverse++st,S'))++W)) L c→LvW ((g::st,S)::W) L (c+1)
theorem LvW.len {W:Wt}{L:List Ss}{c:Nat}(h:LvW W L c):W.length≤c:=by
 induction h with
 |nil=>exact Nat.le_refl _
 |leaf _ _ ih=>simp;exact ih
 |dead _ _ ih=>simp;exact ih
 |step _ _ _ ih=>simp at ih⊢;exact l_ar (l_al ih)
theorem LvW.app {W:Wt}{L:List Ss}{c:Nat}(h:LvW W L c){W':Wt}{L':List Ss}{c':Nat}(h':LvW W' L' c'):LvW (W++W') (L++L') (c+c'):=by
 induction h with
 |nil=>rw[Nat.zero_add];exact h'
 |leaf g _ ih=>rw[Nat.add_right_comm];exact .leaf g ih
 |dead g _ ih=>rw[Nat.add_right_comm];exact .dead g ih
 |step g z _ ih=>rw[Nat.add_right_comm];exact .step g z (by simpa[List.append_assoc] using ih)
theorem run_nil {n f:Nat}:m_run n f []=some none:=by induction n using Nat.casesAuxOn<;>rfl
section
variable {n f:Nat}{g:G}{st:List G}{S S':Ss}{W:Wt}{v:List G}{vs:Wys}{o:Bool}
theorem run_s (h:f≠0):m_run (n+1) f ((st,S)::W)=(m_settled f st S W).bind (rnGo (m_run n)):=if_neg h
theorem run_leaf (g1:S.rows.length<60)(g2:S.rows.all (fun p=>decide (p.2.lo.length≤1000))=true)(ho:allOk dcT S.rows=some o):m_run (n+1) (f+1) (([],S)::W)=if o=true then some (some S) else m_run n (f+1) W:=
 (run_s (Nat.succ_ne_zero f)).trans (ob1 ((if_pos ⟨g1,g2⟩).trans (congrArg (Option.map _) ho)) (by induction o using Bool.casesOn<;>rfl))
theorem run_dead (e:m_step g S=some ([],S')):m_run (n+1) (f+1) ((g::st,S)::W)=m_run n f W:=(run_s (Nat.succ_ne_zero f)).trans (ob1 (ob1 e rfl) rfl)
theorem run_step {c:Nat}(e:m_step g S=some (v::vs,S'))(hf:f≠0)(z:∀u∈v::vs,u.length≤10)(hc:1≤c)(h3:st.length+1+10 * (c+1)≤10000)(h0:vs.length+W.length≤10000):
  m_run (n+1) (f+1) ((g::st,S)::W)=m_run (n+1) f ((v.reverse++st,S')::(vs.map (fun u=>(u.reverse++st,S'))++W)):=by
 have h:∀u∈v::vs,st.length+u.length≤10000:=fun u hu=>by have:=z u hu;lia
 rw[run_s (Nat.succ_ne_zero f),run_s hf]
 exact congrArg (fun z=>Option.bind z _) (ob1 e (if_pos ⟨⟨h v (.head _),List.all_eq_true.mpr fun u hu=>decide_eq_true (h u (.tail _ hu))⟩,h0⟩))
theorem step_few {c:Nat}(z:∀u∈v::vs,u.length≤10)(h3:∀e∈(g::st,S)::W,e.1.length+10 * (c+1)≤10000):∀e∈(v.reverse++st,S')::(vs.map (fun u=>(u.reverse++st,S'))++W),e.1.length+10 * c≤10000:=by
 have h4:st.length+1+10 * (c+1)≤10000:=h3 _ (.head _)
 have h:∀u∈v::vs,(u.reverse++st).length+10 * c≤10000:=fun u hu=>by have:=z u hu;rw[List.length_append,List.length_reverse];lia
 intro e he
 rcases List.mem_cons.mp he with he|he
 ·exact he▸h v (.head _)
 ·rcases List.mem_append.mp he with he|he
  ·exact x12 (List.mem_map.mp he) fun u hu e=>e▸h u (.tail _ hu)
  ·have:=h3 e (.tail _ he);lia
theorem tail_few {p:List G×Ss}{c:Nat}(h3:∀e∈p::W,e.1.length+10 * (c+1)≤10000):∀e∈W,e.1.length+10 * c≤10000:=fun e he=>nT (Nat.add_le_add_left (Nat.mul_le_mul_left 10 (Nat.le_succ c)) _) (h3 e (.tail _ he))
end
theorem run_at {W:Wt}{L:List Ss}{c:Nat}(h:LvW W L c):∀n f,c≤900→(∀e∈W,e.1.length+10 * c≤10000)→m_run (n+c) (f+c) W=some (L.find? okS):=by
 induction h with
 |nil=>exact fun _ _ _ _=>run_nil
 | @leaf S W L c g hW ih=>
  intro n f h0 h3
  refine an3 g fun g1 g2 g3=>x11 (Option.isSome_iff_exists.mp g3) fun o ho=> ?_
  have i:=ih n (f+1) (Nat.le_of_succ_le h0) (tail_few h3)
  rw[Nat.add_right_comm] at i
  refine(run_leaf g1 g2 ho).trans ?_
  rw[List.find?_cons]
  unfold okS
  rw[ho]
  induction o using Bool.casesOn
  ·exact i
  ·rfl
 | @dead g st S S' W L c e hW ih=>exact fun n f h0 h3=>(run_dead e).trans (ih n f (Nat.le_of_succ_le h0) (tail_few h3))
 | @step g st S S' v vs W L c e z hW ih=>
  intro n f h0 h3
  have hl:(vs.map (fun u=>(u.reverse++st,S'))++W).length+1≤c:=hW.len
  rw[List.length_append,List.length_map] at hl
  have i:=ih (n+1) f (Nat.le_of_succ_le h0) (step_few z h3)
  rw[Nat.add_right_comm] at i
  exact(run_step (c:=c) e (by lia) z (nT (Nat.le_add_left 1 _) hl) (h3 _ (.head _)) (by lia)).trans i
theorem run_of {W:Wt}{L:List Ss}{c:Nat}(h:LvW W L c)(n f:Nat)(h1:c≤n)(h2:c≤f)(h0:c≤900)(h3:∀e∈W,e.1.length+10 * c≤10000):m_run n f W=some (L.find? okS):=by
 have:=run_at h (n-c) (f-c) h0 h3
 rwa [Nat.sub_add_cancel h1,Nat.sub_add_cancel h2] at this
noncomputable def Ct {α:Type} (e:α→Ss) (gs:List G) (S:Ss) (os:List α) (k r:Nat):Prop:=∀(st:List G) (C:Nat) (L:α→List Ss),(∀o∈os,∃c,c≤C∧LvW [(st,e o)] (L o) c)→∃c,c≤k+r * C∧LvW [(gs++st,S)] (os.flatMap L) c
noncomputable def Cw {α:Type} (e:α→Ss) (ws:Wys) (S:Ss) (os:List α) (k r:Nat):Prop:=∀(st:List G) (C:Nat) (L:α→List Ss),(∀o∈os,∃c,c≤C∧LvW [(st,e o)] (L o) c)→∃c,c≤k+r * C∧LvW (ws.map fun u=>(u.reverse++st,S)) (os.flatMap L) c
section
variable {α β:Type}{e:α→Ss}{e':β→Ss}{gs gs':List G}{g:G}{S S':Ss}{v:List G}{vs:Wys}{os os':List α}{k r k' r':Nat}
theorem Ct.nil {o:α}:Ct e [] (e o) [o] 0 1:=fun st C L h=>by
 refine x12 (h o (.head _)) fun c h1 h2=> ?_
 exact⟨c,by lia,by simpa using h2⟩
theorem Ct.app {F:α→List β}(h:Ct e gs S os k r)(h':∀o∈os,Ct e' gs' (e o) (F o) k' r'):Ct e' (gs++gs') S (os.flatMap F) (k+r * k') (r * r'):=fun st C L hL=>by
 refine x12 (h (gs'++st) (k'+r' * C) (fun o=>(F o).flatMap L) fun o ho=>h' o ho st C L fun p hp=>hL p (List.mem_flatMap.mpr ⟨o,ho,hp⟩)) fun c h1 h2=> ?_
 refine⟨c,?_,?_⟩
 ·rw[Nat.mul_add,←Nat.mul_assoc] at h1;lia
 ·rw[List.flatMap_assoc,List.append_assoc];exact h2
theorem Ct.cons {F:α→List β}(h:Ct e [g] S os k r)(h':∀o∈os,Ct e' gs (e o) (F o) k' r'):Ct e' (g::gs) S (os.flatMap F) (k+r * k') (r * r'):=h.app h'
theorem Ct.le (h:Ct e gs S os k r)(hk:k≤k')(hr:r≤r'):Ct e gs S os k' r':=fun st C L hL=>by
 refine x12 (h st C L hL) fun c h1 h2=> ?_
 exact⟨c,nT h1 (Nat.add_le_add hk (Nat.mul_le_mul_right _ hr)),h2⟩
theorem Ct.dead (h:m_step g S=some ([],S')):Ct e [g] S [] 1 0:=fun st C L _=>⟨1,(Nat.le_add_right _ _),.dead h .nil⟩
theorem Ct.one (h:m_step g S=some ([v],S'))(hv:v.length≤10)(h':Ct e v.reverse S' os k r):Ct e [g] S os (k+1) r:=fun st C L hL=>by
 refine x12 (h' st C L hL) fun c h1 h2=> ?_
 exact⟨c+1,by lia,.step h (by simpa using hv) (by simpa using h2)⟩
theorem Cw.nil:Cw e [] S [] 0 0:=fun st C L _=>⟨0,(Nat.zero_le _),.nil⟩
theorem Cw.cons (h:Ct e v.reverse S os k r)(h':Cw e vs S os' k' r'):Cw e (v::vs) S (os++os') (k+k') (r+r'):=fun st C L hL=>by
 refine x12 (h st C L fun o ho=>hL o (List.mem_append_left _ ho)) fun c h1 h2=> ?_
 refine x12 (h' st C L fun o ho=>hL o (List.mem_append_right _ ho)) fun c' h1' h2'=> ?_
 refine⟨c+c',by rw[Nat.add_mul];lia,?_⟩
 rw[List.flatMap_append]
 exact h2.app h2'
theorem Ct.ways (h:m_step g S=some (v::vs,S'))(hv:∀u∈v::vs,u.length≤10)(h':Cw e (v::vs) S' os k r):Ct e [g] S os (k+1) r:=fun st C L hL=>by
 refine x12 (h' st C L hL) fun c h1 h2=> ?_
 exact⟨c+1,by lia,.step h hv (by simpa using h2)⟩
theorem run_out {n f:Nat}(h:Ct e gs S os k r)(hg:∀o∈os,Good (e o))(hk:k+r≤900)(hl:gs.length≤100)(hn:900≤n)(hf:900≤f):m_run n f [(gs,S)]=some ((os.map e).find? okS):=by
 refine x12 (h [] 1 (fun o=> [e o]) fun o ho=>⟨1,Nat.le_refl _,.leaf (hg o ho) .nil⟩) fun c h1 h2=> ?_
 rw[List.append_nil] at h2
 have:=run_of h2 n f (by lia) (by lia) (by lia) fun e he=>by simp at he;subst he;simp;lia
 rw[this,List.map_eq_flatMap]
end
structure A where
 tl:List M
 tu:List M
 sl:List M
 su:List M
structure Pm where
 b:Bool
 t:Bool
 s:Bool
noncomputable def sdT (l u:List M) (d:Bool):Sd:=⟨true,1,l.map M.k,u.map M.k,d⟩
noncomputable def sdS (b:Bool) (l u:List M) (d:Bool):Sd:=⟨true,2,l.map M.k,(if b then[.var .T1a] else[])++u.map M.k,d⟩
noncomputable def enc (p:Pm) (a:A):Ss:=⟨[(.T1a,sdT a.tl a.tu p.t),(.S2b,sdS p.b a.sl a.su p.s)],2⟩
noncomputable def addT (x:M) (a:A):List A:=if x∈a.tl then[a] else if a.tu.all (le x) then[{a with tl:=a.tl++ [x]}] else[]
noncomputable def capT (x:M) (a:A):List A:=if x= .an∨x∈a.tu then[a] else if a.tl.all (fun y=>le y x) then[{a with tu:=a.tu++ [x]}] else[]
noncomputable def addS (b:Bool) (x:M) (a:A):List A:=if x∈a.sl then[a] else if a.su.all (le x) then(if b then addT x {a with sl:=a.sl++ [x]} else[{a with sl:=a.sl++ [x]}]) else[]
noncomputable def capS (x:M) (a:A):List A:=if x= .an∨x∈a.su then[a] else if a.sl.all (fun y=>le y x) then[{a with su:=a.su++ [x]}] else[]
structure Nd (a:A):Prop where
 tl:a.tl.Nodup
 tu:a.tu.Nodup
 sl:a.sl.Nodup
 su:a.su.Nodup
theorem M.few {l:List M}(h:l.Nodup):l.length≤7:=by
 have gen:∀(l m:List M),l.Nodup→(∀x∈l,x∈m)→l.length≤m.length:=by
  intro l
  induction l with
  |nil=>intro m _ _;simp
  |cons x l ih=>
   intro m h hs
   rw[List.nodup_cons] at h
   have hx:=hs x (.head _)
   have:=ih (m.erase x) h.2 fun y hy=>(List.mem_erase_of_ne fun e=>h.1 (by rw[←e];exact hy)).mpr (hs y (.tail _ hy))
   rw[List.length_erase_of_mem hx] at this
   have:=List.length_pos_of_mem hx
   simp;lia
 exact gen l M.all h fun x _=>x.mem
theorem nodup_snoc {l:List M}{x:M}(h:l.Nodup)(n:x∉l):(l++ [x]).Nodup:=by
 rw[List.nodup_append]
 exact⟨h,by simp,fun a ha b hb e=>by simp at hb;subst hb;subst e;exact n ha⟩
section
variable {α:Type}{e:α→Ss}{S:Ss}
theorem st_n (a b:M)(S:Ss):m_step ⟨false,a.k,b.k⟩ S=some (if le a b then[[]] else[],S):=by induction a using M.casesOn<;>cases b<;>rfl
theorem ct_n {o:α}(a b:M):Ct e [⟨false,a.k,b.k⟩] (e o) (if le a b then[o] else[]) 1 1:=by
 have h:=st_n a b (e o)
 cases z:le a b<;>rw[z] at h
 ·exact(Ct.dead h).le (Nat.le_refl _) (by decide)
 ·exact Ct.one h (by simp) .nil
theorem ct_ns {o:α}:∀(l:List (M×M)),Ct e (l.map fun p=>⟨false,p.1.k,p.2.k⟩) (e o) (if l.all (fun p=>le p.1 p.2) then[o] else[]) l.length 1
 | []=> .nil
 |(a,b)::l=>by
  have h:=Ct.cons (F:=fun o=>if l.all (fun p=>le p.1 p.2) then[o] else[]) (ct_n (e:=e) (o:=o) a b) fun o' ho=>by
   have:o'=o:=by split at ho<;>simp at ho;exact ho
   replace this:=this.symm;subst this
   exact ct_ns l
  rw[List.map_cons]
  have z:(if((a,b)::l).all (fun p=>le p.1 p.2) then[o] else[])=(if le a b then[o] else[]).flatMap fun o=>if l.all (fun p=>le p.1 p.2) then[o] else[]:=by
   cases h1:le a b<;>cases h2:l.all (fun p=>le p.1 p.2)<;>simp[h1,h2]
  rw[z]
  exact h.le (by simp;lia) (by decide)
end
section
variable {p:Pm}{a:A}{l u:List M}{d:Bool}{R:List (X×Sd)}{m:Nat}
theorem sdT_fits (h:l.length≤7)(h':u.length≤7):(sdT l u d).fits=true:=by simp[Sd.fits,sdT];exact⟨(lt3 h),(lt3 h')⟩
theorem sdS_fits {b:Bool}(h:l.length≤7)(h':u.length≤7):(sdS b l u d).fits=true:=by induction b using Bool.casesOn<;>simp[Sd.fits,sdS]<;>lia
theorem st_Tl (x:M)(h:l.length≤7)(h':u.length≤7):m_step ⟨false,x.k,.var .T1a⟩ ⟨(.T1a,sdT l u d)::R,m⟩=some (if x∈l then([[]],⟨(.T1a,sdT l u d)::R,m⟩) else([u.map fun y=>⟨false,x.k,y.k⟩],⟨(.T1a,sdT (l++ [x]) u d)::R,m⟩)):=by
 have e:m_step ⟨false,x.k,.var .T1a⟩ ⟨(.T1a,sdT l u d)::R,m⟩=if(sdT l u d).fits&&true then some (m_above ⟨(.T1a,sdT l u d)::R,m⟩ .T1a (sdT l u d) x.k) else none:=rfl
 rw[e,sdT_fits h h']
 have e2:m_above ⟨(.T1a,sdT l u d)::R,m⟩ .T1a (sdT l u d) x.k=if x.k∈l.map M.k then([[]],⟨(.T1a,sdT l u d)::R,m⟩) else([(u.map M.k).map fun y=>⟨false,x.k,y⟩],⟨(.T1a,{sdT l u d with lo:=l.map M.k++ [x.k]})::R,m⟩):=rfl
 rw[e2]
 simp only[ks_mem,Bool.and_self,if_true,sdT,List.map_map,List.map_append,List.map_cons,List.map_nil]
 rfl
theorem st_Tu (x:M)(h:l.length≤7)(h':u.length≤7):m_step ⟨false,.var .T1a,x.k⟩ ⟨(.T1a,sdT l u d)::R,m⟩=some (if x= .an∨x∈u then([[]],⟨(.T1a,sdT l u d)::R,m⟩) else([l.map fun y=>⟨false,y.k,x.k⟩],⟨(.T1a,sdT l (u++ [x]) d)::R,m⟩)):=by
 by_cases hx:x= .an
 ·subst hx;simp only[true_or,if_true];rfl
 have e:m_step ⟨false,.var .T1a,x.k⟩ ⟨(.T1a,sdT l u d)::R,m⟩=if(sdT l u d).fits&&true then some (m_below ⟨(.T1a,sdT l u d)::R,m⟩ .T1a (sdT l u d) x.k) else none:=by induction x using M.casesOn<;>first|exact absurd rfl hx|rfl
 rw[e,sdT_fits h h']
 have e2:m_below ⟨(.T1a,sdT l u d)::R,m⟩ .T1a (sdT l u d) x.k=if x.k∈u.map M.k then([[]],⟨(.T1a,sdT l u d)::R,m⟩) else([(l.map M.k).map fun y=>⟨false,y,x.k⟩],⟨(.T1a,{sdT l u d with up:=u.map M.k++ [x.k]})::R,m⟩):=rfl
 rw[e2]
 simp only[ks_mem,hx,false_or,Bool.and_self,if_true,sdT,List.map_map,List.map_append,List.map_cons,List.map_nil]
 rfl
theorem st_Sl (x:M)(h:l.length≤7)(h':u.length≤7){b:Bool}{t:Sd}:m_step ⟨false,x.k,.var .S2b⟩ ⟨(.T1a,t)::(.S2b,sdS b l u d)::R,m⟩=some (if x∈l then([[]],⟨(.T1a,t)::(.S2b,sdS b l u d)::R,m⟩) else([(if b then[⟨false,x.k,.var .T1a⟩] else[])++u.map fun y=>⟨false,x.k,y.k⟩],⟨(.T1a,t)::(.S2b,sdS b (l++ [x]) u d)::R,m⟩)):=by
 have e:m_step ⟨false,x.k,.var .S2b⟩ ⟨(.T1a,t)::(.S2b,sdS b l u d)::R,m⟩=if(sdS b l u d).fits&&true then some (m_above ⟨(.T1a,t)::(.S2b,sdS b l u d)::R,m⟩ .S2b (sdS b l u d) x.k) else none:=rfl
 rw[e,sdS_fits h h']
 have e2:m_above ⟨(.T1a,t)::(.S2b,sdS b l u d)::R,m⟩ .S2b (sdS b l u d) x.k=if x.k∈l.map M.k then([[]],⟨(.T1a,t)::(.S2b,sdS b l u d)::R,m⟩) else([((if b then[K.var .T1a] else[])++u.map M.k).map fun y=>⟨false,x.k,y⟩],⟨(.T1a,t)::(.S2b,{sdS b l u d with lo:=l.map M.k++ [x.k]})::R,m⟩):=rfl
 rw[e2]
 induction b using Bool.casesOn<;>simp only[ks_mem,Bool.and_self,if_true,sdS,List.map_map,List.map_append,List.map_cons,List.map_nil,Bool.false_eq_true,if_false]<;>rfl
theorem st_Su (x:M)(h:l.length≤7)(h':u.length≤7){b:Bool}{t:Sd}:m_step ⟨false,.var .S2b,x.k⟩ ⟨(.T1a,t)::(.S2b,sdS b l u d)::R,m⟩=some (if x= .an∨x∈u then([[]],⟨(.T1a,t)::(.S2b,sdS b l u d)::R,m⟩) else([l.map fun y=>⟨false,y.k,x.k⟩],⟨(.T1a,t)::(.S2b,sdS b l (u++ [x]) d)::R,m⟩)):=by
 by_cases hx:x= .an
 ·subst hx;simp only[true_or,if_true];rfl
 have e:m_step ⟨false,.var .S2b,x.k⟩ ⟨(.T1a,t)::(.S2b,sdS b l u d)::R,m⟩=if(sdS b l u d).fits&&true then some (m_below ⟨(.T1a,t)::(.S2b,sdS b l u d)::R,m⟩ .S2b (sdS b l u d) x.k) else none:=by induction x using M.casesOn<;>first|exact absurd rfl hx|rfl
 rw[e,sdS_fits h h']
 have e2:m_below ⟨(.T1a,t)::(.S2b,sdS b l u d)::R,m⟩ .S2b (sdS b l u d) x.k=if x.k∈(if b then[.var .T1a] else[])++u.map M.k then([[]],⟨(.T1a,t)::(.S2b,sdS b l u d)::R,m⟩) else([(l.map M.k).map fun y=>⟨false,y,x.k⟩],⟨(.T1a,t)::(.S2b,{sdS b l u d with up:=((if b then[.var .T1a] else[])++u.map M.k)++ [x.k]})::R,m⟩):=rfl
 have e3:x.k∈(if b then[K.var .T1a] else[])++u.map M.k↔x∈u:=by
  rw[List.mem_append,ks_mem]
  induction b using Bool.casesOn<;>simp
  intro e;cases e
 rw[e2]
 simp only[e3,hx,false_or,Bool.and_self,if_true,sdS,List.map_map,List.map_append,List.map_cons,List.map_nil,List.append_assoc]
 rfl
theorem Nd.tl7 {a:A}(h:Nd a):a.tl.length≤7:=M.few h.tl
theorem Nd.tu7 {a:A}(h:Nd a):a.tu.length≤7:=M.few h.tu
theorem Nd.sl7 {a:A}(h:Nd a):a.sl.length≤7:=M.few h.sl
theorem Nd.su7 {a:A}(h:Nd a):a.su.length≤7:=M.few h.su
theorem ct_above {α:Type}{e:α→Ss}{o:α}(x:M)(h:u.length≤7):Ct e (u.map fun y=>⟨false,x.k,y.k⟩).reverse (e o) (if u.all (le x) then[o] else[]) 7 1:=by
 have:=(ct_ns (e:=e) (o:=o) (u.reverse.map fun y=>(x,y))).le (k':=7) (by simpa using h) (Nat.le_refl _)
 simp only[List.map_map,List.all_map,List.all_reverse,Function.comp_def] at this
 rw[←List.map_reverse];exact this
theorem ct_under {α:Type}{e:α→Ss}{o:α}(x:M)(h:l.length≤7):Ct e (l.map fun y=>⟨false,y.k,x.k⟩).reverse (e o) (if l.all (fun y=>le y x) then[o] else[]) 7 1:=by
 have:=(ct_ns (e:=e) (o:=o) (l.reverse.map fun y=>(y,x))).le (k':=7) (by simpa using h) (Nat.le_refl _)
 simp only[List.map_map,List.all_map,List.all_reverse,Function.comp_def] at this
 rw[←List.map_reverse];exact this
theorem ct_skip {α:Type}{e:α→Ss}{g:G}{o:α}(s:m_step g (e o)=some ([[]],e o)):Ct e [g] (e o) [o] 1 1:=Ct.one s (by simp) .nil
theorem ct_T {R:List (X×Sd)}{m:Nat}{α:Type}{e:α→Ss}{o o':α}{l u:List M}(x:M)(h:l.length≤7)(h':u.length≤7)(e1:e o=⟨(.T1a,sdT l u d)::R,m⟩)(e2:e o'=⟨(.T1a,sdT (l++ [x]) u d)::R,m⟩):
  Ct e [⟨false,x.k,.var .T1a⟩] (e o) (if x∈l then[o] else if u.all (le x) then[o'] else[]) 8 1:=by
 have s:=st_Tl (R:=R) (m:=m) (d:=d) x h h'
 rw[←e1,←e2] at s
 by_cases hx:x∈l
 ·rw[if_pos hx] at s⊢
  exact(ct_skip s).le (by decide) (Nat.le_refl _)
 ·rw[if_neg hx] at s⊢
  exact Ct.one s (by simp;exact lt3 h') (ct_above x h')
theorem ct_addT {x:M}(h:Nd a):Ct (enc p) [⟨false,x.k,.var .T1a⟩] (enc p a) (addT x a) 8 1:=ct_T x h.tl7 h.tu7 rfl rfl
theorem ct_capT {x:M}(h:Nd a):Ct (enc p) [⟨false,.var .T1a,x.k⟩] (enc p a) (capT x a) 8 1:=by
 have s:=st_Tu (R:=[(.S2b,sdS p.b a.sl a.su p.s)]) (m:=2) (d:=p.t) x h.tl7 h.tu7
 unfold capT
 by_cases hx:x= .an∨x∈a.tu
 ·rw[if_pos hx] at s⊢
  exact(ct_skip (e:=enc p) (o:=a) s).le (k':=8) (by decide) (Nat.le_refl _)
 ·rw[if_neg hx] at s⊢
  have h7:=h.tl7
  exact Ct.one s (by simp;exact lt3 h7) (ct_under (e:=enc p) (o:={a with tu:=a.tu++ [x]}) x h7)
theorem ct_capS {x:M}(h:Nd a):Ct (enc p) [⟨false,.var .S2b,x.k⟩] (enc p a) (capS x a) 8 1:=by
 have s:=st_Su (R:=[]) (m:=2) (d:=p.s) (b:=p.b) (t:=sdT a.tl a.tu p.t) x h.sl7 h.su7
 unfold capS
 by_cases hx:x= .an∨x∈a.su
 ·rw[if_pos hx] at s⊢
  exact(ct_skip (e:=enc p) (o:=a) s).le (k':=8) (by decide) (Nat.le_refl _)
 ·rw[if_neg hx] at s⊢
  have h7:=h.sl7
  exact Ct.one s (by simp;exact lt3 h7) (ct_under (e:=enc p) (o:={a with su:=a.su++ [x]}) x h7)
theorem ct_addS {x:M}(h:Nd a):Ct (enc p) [⟨false,x.k,.var .S2b⟩] (enc p a) (addS p.b x a) 17 1:=by
 have s:=st_Sl (R:=[]) (m:=2) (d:=p.s) (b:=p.b) (t:=sdT a.tl a.tu p.t) x h.sl7 h.su7
 have h7:=h.su7
 unfold addS
 by_cases hx:x∈a.sl
 ·rw[if_pos hx] at s⊢
  exact(ct_skip (e:=enc p) (o:=a) s).le (k':=17) (by decide) (Nat.le_refl _)
 ·rw[if_neg hx] at s⊢
  have hd:Nd {a with sl:=a.sl++ [x]}:=⟨h.tl,h.tu,nodup_snoc h.sl hx,h.su⟩
  have hn:=ct_above (e:=enc p) (o:={a with sl:=a.sl++ [x]}) x h7
  refine Ct.one s (by cases p.b<;>simp<;>lia) (k:=16) (r:=1) ?_
  rw[List.reverse_append]
  have hT:Ct (enc p) (if p.b then[⟨false,x.k,.var .T1a⟩] else[]) (enc p {a with sl:=a.sl++ [x]}) (if p.b then addT x {a with sl:=a.sl++ [x]} else[{a with sl:=a.sl++ [x]}]) 8 1:=by
   cases p.b
   ·exact Ct.nil.le (by decide) (Nat.le_refl _)
   ·exact ct_addT hd
  have hT':(if p.b then[(⟨false,x.k,.var .T1a⟩:G)] else[]).reverse=if p.b then[⟨false,x.k,.var .T1a⟩] else[]:=by cases p.b<;>rfl
  rw[hT']
  have:=hn.app (F:=fun _=>if p.b then addT x {a with sl:=a.sl++ [x]} else[{a with sl:=a.sl++ [x]}]) fun o ho=>by
   have:o={a with sl:=a.sl++ [x]}:=by split at ho<;>simp at ho;exact ho
   subst this
   exact hT
  have z:(if a.su.all (le x) then(if p.b then addT x {a with sl:=a.sl++ [x]} else[{a with sl:=a.sl++ [x]}]) else[])=(if a.su.all (le x) then[{a with sl:=a.sl++ [x]}] else[]).flatMap fun _=>if p.b then addT x {a with sl:=a.sl++ [x]} else[{a with sl:=a.sl++ [x]}]:=by
   cases a.su.all (le x)<;>simp
  rw[z]
  exact this.le (by decide) (by decide)
end
set_option backward.eqns.nonrecursive true
structure Clz (b:Bool)(a:A):Prop where
 nd:Nd a
 tt:∀x∈a.tl,∀u∈a.tu,le x u=true
 ss:∀x∈a.sl,∀u∈a.su,le x u=true
 bb:b=true→∀x∈a.sl,x∈a.tl
structure Ge (a a':A):Prop where
 tl:∀x∈a.tl,x∈a'.tl
 tu:∀x∈a.tu,x∈a'.tu
 sl:∀x∈a.sl,x∈a'.sl
 su:∀x∈a.su,x∈a'.su
theorem Ge.rfl {a:A}:Ge a a:=⟨fun _ h=>h,fun _ h=>h,fun _ h=>h,fun _ h=>h⟩
theorem Ge.trans {a b c:A}(h:Ge a b)(h':Ge b c):Ge a c:=⟨fun x z=>h'.tl x (h.tl x z),fun x z=>h'.tu x (h.tu x z),fun x z=>h'.sl x (h.sl x z),fun x z=>h'.su x (h.su x z)⟩
structure Sat (t s:M)(a:A):Prop where
 tl:∀x∈a.tl,le x t=true
 tu:∀x∈a.tu,le t x=true
 sl:∀x∈a.sl,le x s=true
 su:∀x∈a.su,le s x=true
theorem all_le {x:M}{l:List M}:l.all (le x)=true↔∀y∈l,le x y=true:=List.all_eq_true
theorem all_ge {x:M}{l:List M}:(l.all fun y=>le y x)=true↔∀y∈l,le y x=true:=List.all_eq_true
theorem or_snoc {P:M→Prop}{l:List M}{x:M}(h:∀y∈l,P y)(hx:P x):∀y∈l++ [x],P y:=fun y hy=>by
 rcases List.mem_append.mp hy with h'|h'
 ·exact h y h'
 ·simp at h';subst h';exact hx
theorem in_snoc {l:List M}{x:M}:∀y∈l,y∈l++ [x]:=fun _ h=>List.mem_append_left _ h
section
variable {b:Bool}{a a':A}{x t s:M}
set_option tactic.hygienic true in
theorem addT_ok (h:Clz b a)(m:a'∈addT x a):Clz b a'∧Ge a a'∧x∈a'.tl:=by
 unfold addT at m
 split at m
 ·simp at m;replace m:=m.symm;subst m;exact⟨h,Ge.rfl,by assumption⟩
 ·rename_i hx
  split at m
  ·rename_i hu
   simp at m;subst m
   exact⟨⟨⟨nodup_snoc h.nd.tl hx,h.nd.tu,h.nd.sl,h.nd.su⟩,or_snoc h.tt (all_le.mp hu),h.ss,fun hb y hy=>in_snoc y (h.bb hb y hy)⟩,⟨in_snoc,fun _ h=>h,fun _ h=>h,fun _ h=>h⟩,by simp⟩
  ·simp at m
set_option tactic.hygienic true in
theorem capT_ok (h:Clz b a)(m:a'∈capT x a):Clz b a'∧Ge a a'∧(x= .an∨x∈a'.tu):=by
 unfold capT at m
 split at m
 ·simp at m;replace m:=m.symm;subst m;exact⟨h,Ge.rfl,by assumption⟩
 ·rename_i hx
  split at m
  ·rename_i hu
   simp at m;subst m
   exact⟨⟨⟨h.nd.tl,nodup_snoc h.nd.tu fun z=>hx (.inr z),h.nd.sl,h.nd.su⟩,fun y hy=>or_snoc (h.tt y hy) (all_ge.mp hu y hy),h.ss,h.bb⟩,⟨fun _ h=>h,in_snoc,fun _ h=>h,fun _ h=>h⟩,.inr (by simp)⟩
  ·simp at m
set_option tactic.hygienic true in
theorem capS_ok (h:Clz b a)(m:a'∈capS x a):Clz b a'∧Ge a a'∧(x= .an∨x∈a'.su):=by
 unfold capS at m
 split at m
 ·simp at m;replace m:=m.symm;subst m;exact⟨h,Ge.rfl,by assumption⟩
 ·rename_i hx
  split at m
  ·rename_i hu
   simp at m;subst m
   exact⟨⟨⟨h.nd.tl,h.nd.tu,h.nd.sl,nodup_snoc h.nd.su fun z=>hx (.inr z)⟩,h.tt,fun y hy=>or_snoc (h.ss y hy) (all_ge.mp hu y hy),h.bb⟩,⟨fun _ h=>h,fun _ h=>h,fun _ h=>h,in_snoc⟩,.inr (by simp)⟩
  ·simp at m
set_option tactic.hygienic true in
theorem addS_ok (h:Clz b a)(m:a'∈addS b x a):Clz b a'∧Ge a a'∧x∈a'.sl:=by
 unfold addS at m
 split at m
 ·simp at m;subst m;exact⟨h,Ge.rfl,by assumption⟩
 ·rename_i hx
  split at m
  ·rename_i hu
   have hs:=nodup_snoc h.nd.sl hx
   have hss:∀y∈a.sl++ [x],∀u∈a.su,le y u=true:=or_snoc h.ss (all_le.mp hu)
   induction b using Bool.casesOn
   ·simp at m;subst m
    exact⟨⟨⟨h.nd.tl,h.nd.tu,hs,h.nd.su⟩,h.tt,hss,fun z=>absurd z (by decide)⟩,⟨fun _ h=>h,fun _ h=>h,in_snoc,fun _ h=>h⟩,by simp⟩
   ·have m:a'∈addT x {a with sl:=a.sl++ [x]}:=m
    unfold addT at m
    split at m
    ·rename_i hxt
     simp at m;replace m:=m.symm;subst m
     exact⟨⟨⟨h.nd.tl,h.nd.tu,hs,h.nd.su⟩,h.tt,hss,fun _=>or_snoc (h.bb rfl) hxt⟩,⟨fun _ h=>h,fun _ h=>h,in_snoc,fun _ h=>h⟩,by simp⟩
    ·rename_i hxt
     split at m
     ·rename_i hu'
      simp at m;subst m
      exact⟨⟨⟨nodup_snoc h.nd.tl hxt,h.nd.tu,hs,h.nd.su⟩,or_snoc h.tt (all_le.mp hu'),hss,fun _=>or_snoc (fun y hy=>in_snoc y (h.bb rfl y hy)) (by simp)⟩,⟨in_snoc,fun _ h=>h,in_snoc,fun _ h=>h⟩,by simp⟩
     ·simp at m
  ·simp at m
theorem addT_sat (h:Sat t s a)(hx:le x t=true):∃a'∈addT x a,Sat t s a':=by
 unfold addT
 split
 ·exact⟨a,by simp,h⟩
 ·rw[if_pos (all_le.mpr fun y hy=>le_trans hx (h.tu y hy))]
  exact⟨_,.head _,⟨or_snoc h.tl hx,h.tu,h.sl,h.su⟩⟩
theorem capT_sat (h:Sat t s a)(hx:le t x=true):∃a'∈capT x a,Sat t s a':=by
 unfold capT
 split
 ·exact⟨a,by simp,h⟩
 ·rw[if_pos (all_ge.mpr fun y hy=>le_trans (h.tl y hy) hx)]
  exact⟨_,.head _,⟨h.tl,or_snoc h.tu hx,h.sl,h.su⟩⟩
theorem capS_sat (h:Sat t s a)(hx:le s x=true):∃a'∈capS x a,Sat t s a':=by
 unfold capS
 split
 ·exact⟨a,by simp,h⟩
 ·rw[if_pos (all_ge.mpr fun y hy=>le_trans (h.sl y hy) hx)]
  exact⟨_,.head _,⟨h.tl,h.tu,h.sl,or_snoc h.su hx⟩⟩
theorem addS_sat (h:Sat t s a)(hx:le x s=true)(hb:b=true→le s t=true):∃a'∈addS b x a,Sat t s a':=by
 unfold addS
 split
 ·exact⟨a,by simp,h⟩
 ·rw[if_pos (all_le.mpr fun y hy=>le_trans hx (h.su y hy))]
  have h':Sat t s {a with sl:=a.sl++ [x]}:=⟨h.tl,h.tu,or_snoc h.sl hx,h.su⟩
  induction b using Bool.casesOn
  ·exact⟨_,.head _,h'⟩
  ·exact addT_sat h' (le_trans hx (hb rfl))
end
inductive Pt where
 |t (l:M)
 |s (l:M)
 |«at» (x:M)
 |as (x:M)
 |aat (x:M)
 |ts (l l':M)
 |un (l:M)
 |ii
 |ib
 |is
 |ys (x:M)
noncomputable def Pt.k:Pt→K
 | .t l=>l.k
 | .s l=>l.k
 | .at x=>listK x.k
 | .as x=>listK x.k
 | .aat x=>listK (listK x.k)
 | .ts l l'=> .tup [l.k,l'.k]
 | .un l=>l.k
 | .ii=>M.i6.k
 | .ib=>M.bo.k
 | .is=>M.st.k
 | .ys x=> .typ x.k
noncomputable def Pt.p (T S U:K):Pt→K
 | .t _=>T
 | .s _=>S
 | .at _=>listK T
 | .as _=>listK S
 | .aat _=>listK (listK T)
 | .ts _ _=> .tup [T,S]
 | .un _=>U
 | .ys _=> .typ S
 | .ii=>M.ig.k
 | .ib=>M.ig.k
 | .is=>M.ig.k
noncomputable def Pt.out (b:Bool):Pt→A→List A
 | .t l,a=>addT l a
 | .s l,a=>addS b l a
 | .at x,a=>(capT x a).flatMap (addT x)
 | .as x,a=>(capS x a).flatMap (addS b x)
 | .aat x,a=>(((addT x a).flatMap (capT x)).flatMap (capT x)).flatMap (addT x)
 | .ts l l',a=>(addS b l' a).flatMap (addT l)
 | .un l,a=>(if le l .st then[a] else[])++addT l a
 | .is,_=> []
 | .ys x,a=>(capS x a).flatMap (addS b x)
 | .ii,a=> [a]
 | .ib,a=> [a]
noncomputable def Pt.post:Pt→A→Prop
 | .t l,a=>l∈a.tl
 | .s l,a=>l∈a.sl
 | .at x,a=>x∈a.tl∧(x= .an∨x∈a.tu)
 | .as x,a=>x∈a.sl∧(x= .an∨x∈a.su)
 | .aat x,a=>x∈a.tl∧(x= .an∨x∈a.tu)
 | .ts l l',a=>l∈a.tl∧l'∈a.sl
 | .un l,a=>le l .st=true∨l∈a.tl
 | .is,_=>False
 | .ys x,a=>x∈a.sl∧(x= .an∨x∈a.su)
 | .ii,_=>True
 | .ib,_=>True
noncomputable def Pt.req (t s:M):Pt→Bool
 | .t l=>le l t
 | .s l=>le l s
 | .at x=>x==t
 | .as x=>x==s
 | .aat x=>x==t
 | .ts l l'=>le l t&&le l' s
 | .un l=>le l .st||le l t
 | .is=>false
 | .ys x=>x==s
 | .ii=>true
 | .ib=>true
theorem Pt.mono {a a':A}(h:Ge a a'):∀{q:Pt},q.post a→q.post a'
 | .t _,z=>h.tl _ z
 | .s _,z=>h.sl _ z
 | .at _,z=>⟨h.tl _ z.1,z.2.imp id (h.tu _)⟩
 | .as _,z=>⟨h.sl _ z.1,z.2.imp id (h.su _)⟩
 | .aat _,z=>⟨h.tl _ z.1,z.2.imp id (h.tu _)⟩
 | .ts _ _,z=>⟨h.tl _ z.1,h.sl _ z.2⟩
 | .un _,z=>z.imp id (h.tl _)
 | .ys _,z=>⟨h.sl _ z.1,z.2.imp id (h.su _)⟩
 | .ii,_=>trivial
 | .ib,_=>trivial
section
variable {b:Bool}{a a':A}{t s:M}
theorem sameT_ok {x:M}(h:Clz b a)(m:a'∈(capT x a).flatMap (addT x)):Clz b a'∧Ge a a'∧x∈a'.tl∧(x= .an∨x∈a'.tu):=by
 refine x12 (List.mem_flatMap.mp m) fun c h1 h2=> ?_
 refine an3 (capT_ok h h1) fun k1 k2 k3=> ?_
 refine an3 (addT_ok k1 h2) fun l1 l2 l3=> ?_
 exact⟨l1,k2.trans l2,l3,k3.imp id (l2.tu _)⟩
theorem sameS_ok {x:M}(h:Clz b a)(m:a'∈(capS x a).flatMap (addS b x)):Clz b a'∧Ge a a'∧x∈a'.sl∧(x= .an∨x∈a'.su):=by
 refine x12 (List.mem_flatMap.mp m) fun c h1 h2=> ?_
 refine an3 (capS_ok h h1) fun k1 k2 k3=> ?_
 refine an3 (addS_ok k1 h2) fun l1 l2 l3=> ?_
 exact⟨l1,k2.trans l2,l3,k3.imp id (l2.su _)⟩
theorem Pt.ok (h:Clz b a):∀{q:Pt},a'∈q.out b a→Clz b a'∧Ge a a'∧q.post a'
 | .t _,m=>addT_ok h m
 | .s _,m=>addS_ok h m
 | .at _,m=>sameT_ok h m
 | .as _,m=>sameS_ok h m
 | .ys _,m=>sameS_ok h m
 | .aat x,m=>by
  refine x12 (List.mem_flatMap.mp m) fun c h1 h2=> ?_
  refine x12 (List.mem_flatMap.mp h1) fun c' h1' h2'=> ?_
  refine x12 (List.mem_flatMap.mp h1') fun c'' h3 h4=> ?_
  refine an3 (addT_ok h h3) fun k1 k2 k3=> ?_
  refine an3 (capT_ok k1 h4) fun l1 l2 l3=> ?_
  refine an3 (capT_ok l1 h2') fun m1 m2 m3=> ?_
  refine an3 (addT_ok m1 h2) fun n1 n2 n3=> ?_
  exact⟨n1,((k2.trans l2).trans m2).trans n2,n3,m3.imp id (n2.tu _)⟩
 | .ts _ _,m=>by
  refine x12 (List.mem_flatMap.mp m) fun c h1 h2=> ?_
  refine an3 (addS_ok h h1) fun k1 k2 k3=> ?_
  refine an3 (addT_ok k1 h2) fun l1 l2 l3=> ?_
  exact⟨l1,k2.trans l2,l3,l2.sl _ k3⟩
 | .un l,m=>by
  rcases List.mem_append.mp m with m|m
  ·split at m
   ·simp at m;subst m;exact⟨h,Ge.rfl,.inl (by assumption)⟩
   ·simp at m
  ·refine an3 (addT_ok h m) fun k1 k2 k3=> ?_
   exact⟨k1,k2,.inr k3⟩
 | .ii,m=>by obtain rfl:=List.mem_singleton.mp m;exact⟨h,Ge.rfl,trivial⟩
 | .ib,m=>by obtain rfl:=List.mem_singleton.mp m;exact⟨h,Ge.rfl,trivial⟩
 | .is,m=>nomatch m
theorem sat_fm {f g:A→List A}(h:∃a'∈f a,Sat t s a')(h':∀a',Sat t s a'→∃c∈g a',Sat t s c):∃c∈(f a).flatMap g,Sat t s c:=by
 refine x12 h fun a' h1 h2=> ?_
 refine x12 (h' a' h2) fun c h3 h4=> ?_
 exact⟨c,List.mem_flatMap.mpr ⟨a',h1,h3⟩,h4⟩
theorem Pt.sat (h:Sat t s a)(hb:b=true→le s t=true):∀{q:Pt},q.req t s=true→∃a'∈q.out b a,Sat t s a'
 | .t _,r=>addT_sat h r
 | .s _,r=>addS_sat h r hb
 | .at x,r=>by
  obtain rfl:x=t:=eq_of_beq r
  exact sat_fm (capT_sat h (le_refl _)) fun _ z=>addT_sat z (le_refl _)
 | .as x,r=>by
  obtain rfl:x=s:=eq_of_beq r
  exact sat_fm (capS_sat h (le_refl _)) fun _ z=>addS_sat z (le_refl _) hb
 | .ys x,r=>by
  obtain rfl:x=s:=eq_of_beq r
  exact sat_fm (capS_sat h (le_refl _)) fun _ z=>addS_sat z (le_refl _) hb
 | .aat x,r=>by
  obtain rfl:x=t:=eq_of_beq r
  refine x12 (sat_fm (addT_sat h (le_refl _)) fun _ z=>capT_sat z (le_refl x)) fun c h1 h2=> ?_
  refine x12 (capT_sat h2 (le_refl x)) fun c' h3 h4=> ?_
  refine x12 (addT_sat h4 (le_refl x)) fun c'' h5 h6=> ?_
  exact⟨c'',List.mem_flatMap.mpr ⟨c',List.mem_flatMap.mpr ⟨c,h1,h3⟩,h5⟩,h6⟩
 | .ts l l',r=>by
  have r:le l t=true∧le l' s=true:=bA r
  exact sat_fm (addS_sat h r.2 hb) fun _ z=>addT_sat z r.1
 | .un l,r=>by
  rcases(Bool.or_eq_true_iff.mp r:le l .st=true∨le l t=true) with r|r
  ·exact⟨a,List.mem_append_left _ (by rw[if_pos r];exact .head _),h⟩
  ·refine x12 (addT_sat h r) fun c h1 h2=> ?_
   exact⟨c,List.mem_append_right _ h1,h2⟩
 | .ii,_=>⟨a,.head _,h⟩
 | .ib,_=>⟨a,.head _,h⟩
 | .is,r=>nomatch r
end
set_option backward.eqns.nonrecursive false
set_option backward.eqns.nonrecursive true
noncomputable abbrev vT:K:= .var .T1a
noncomputable abbrev vS:K:= .var .S2b
noncomputable abbrev vU:K:= .union [M.st.k,vT]
section
variable {x y:M}{S:Ss}
theorem st_sameT:m_step ⟨true,x.k,vT⟩ S=some ([[⟨false,x.k,vT⟩,⟨false,vT,x.k⟩]],S):=by induction x using M.casesOn<;>rfl
theorem st_sameT':m_step ⟨true,vT,x.k⟩ S=some ([[⟨false,vT,x.k⟩,⟨false,x.k,vT⟩]],S):=by induction x using M.casesOn<;>rfl
theorem st_sameS:m_step ⟨true,x.k,vS⟩ S=some ([[⟨false,x.k,vS⟩,⟨false,vS,x.k⟩]],S):=by induction x using M.casesOn<;>rfl
theorem st_at:m_step ⟨false,listK x.k,listK vT⟩ S=some ([[⟨true,x.k,vT⟩,⟨true,.num 1,.num 1⟩]],S):=by induction x using M.casesOn<;>rfl
theorem st_at':m_step ⟨false,listK vT,listK x.k⟩ S=some ([[⟨true,vT,x.k⟩,⟨true,.num 1,.num 1⟩]],S):=by induction x using M.casesOn<;>rfl
theorem st_as:m_step ⟨false,listK x.k,listK vS⟩ S=some ([[⟨true,x.k,vS⟩,⟨true,.num 1,.num 1⟩]],S):=by induction x using M.casesOn<;>rfl
theorem st_aat:m_step ⟨false,listK (listK x.k),listK (listK vT)⟩ S=some ([[⟨true,listK x.k,listK vT⟩,⟨true,.num 1,.num 1⟩]],S):=by induction x using M.casesOn<;>rfl
theorem st_saat:m_step ⟨true,listK x.k,listK vT⟩ S=some ([[⟨false,listK x.k,listK vT⟩,⟨false,listK vT,listK x.k⟩]],S):=by induction x using M.casesOn<;>rfl
theorem st_one:m_step ⟨true,.num 1,.num 1⟩ S=some ([[]],S):=rfl
theorem st_ts:m_step ⟨false,.tup [x.k,y.k],.tup [vT,vS]⟩ S=some ([[⟨false,x.k,vT⟩,⟨false,y.k,vS⟩]],S):=by induction x using M.casesOn<;>cases y<;>rfl
theorem st_un:m_step ⟨false,x.k,vU⟩ S=some ([[⟨false,x.k,M.st.k⟩],[⟨false,x.k,vT⟩]],S):=by induction x using M.casesOn<;>rfl
theorem st_ys:m_step ⟨false,.typ x.k,.typ vS⟩ S=some ([[⟨true,x.k,vS⟩]],S):=by induction x using M.casesOn<;>rfl
end
section
variable {p:Pm}{a:A}{x y:M}
theorem Nd.addT (h:Nd a){c:A}(m:c∈addT x a):Nd c:=by
 unfold Mine.addT at m
 split at m
 ·simp at m;subst m;exact h
 ·split at m
  ·simp at m;subst m;exact⟨nodup_snoc h.tl (by assumption),h.tu,h.sl,h.su⟩
  ·simp at m
set_option tactic.hygienic true in
theorem Nd.capT (h:Nd a){c:A}(m:c∈capT x a):Nd c:=by
 unfold Mine.capT at m
 split at m
 ·simp at m;subst m;exact h
 ·rename_i hx
  split at m
  ·simp at m;subst m;exact⟨h.tl,nodup_snoc h.tu fun z=>hx (.inr z),h.sl,h.su⟩
  ·simp at m
set_option tactic.hygienic true in
theorem Nd.capS (h:Nd a){c:A}(m:c∈capS x a):Nd c:=by
 unfold Mine.capS at m
 split at m
 ·simp at m;subst m;exact h
 ·rename_i hx
  split at m
  ·simp at m;subst m;exact⟨h.tl,h.tu,h.sl,nodup_snoc h.su fun z=>hx (.inr z)⟩
  ·simp at m
theorem Nd.addS (h:Nd a){b:Bool}{c:A}(m:c∈addS b x a):Nd c:=by
 unfold Mine.addS at m
 split at m
 ·simp at m;subst m;exact h
 ·split at m
  ·have hd:Nd {a with sl:=a.sl++ [x]}:=⟨h.tl,h.tu,nodup_snoc h.sl (by assumption),h.su⟩
   split at m
   ·exact hd.addT m
   ·simp at m;subst m;exact hd
  ·simp at m
theorem ct_1 {α:Type}{e:α→Ss}{gs:List G}{o:α}{β:Type}{e':β→Ss}{os:List β}{k r:Nat}(h:Ct e' gs (e o) os k r):Ct e' (⟨true,.num 1,.num 1⟩::gs) (e o) os (k+1) r:=by
 have:=(ct_skip (o:=o) (e:=e) st_one).cons (F:=fun _=>os) fun o' ho=>by
  simp at ho;subst ho;exact h
 simpa[Nat.add_comm] using this
theorem ct_sameT (h:Nd a):Ct (enc p) [⟨true,x.k,vT⟩] (enc p a) ((capT x a).flatMap (addT x)) 17 1:=
 (Ct.one st_sameT (by simp) ((ct_capT h).cons fun o ho=>ct_addT (h.capT ho))).le (by decide) (by decide)
theorem ct_sameT' (h:Nd a):Ct (enc p) [⟨true,vT,x.k⟩] (enc p a) ((addT x a).flatMap (capT x)) 17 1:=
 (Ct.one st_sameT' (by simp) ((ct_addT h).cons fun o ho=>ct_capT (h.addT ho))).le (by decide) (by decide)
theorem ct_sameS (h:Nd a):Ct (enc p) [⟨true,x.k,vS⟩] (enc p a) ((capS x a).flatMap (addS p.b x)) 26 1:=
 (Ct.one st_sameS (by simp) ((ct_capS h).cons fun o ho=>ct_addS (h.capS ho))).le (by decide) (by decide)
theorem ct_at (h:Nd a):Ct (enc p) [⟨false,listK x.k,listK vT⟩] (enc p a) ((capT x a).flatMap (addT x)) 19 1:=Ct.one st_at (by simp) (ct_1 (ct_sameT h))
theorem ct_at' (h:Nd a):Ct (enc p) [⟨false,listK vT,listK x.k⟩] (enc p a) ((addT x a).flatMap (capT x)) 19 1:=Ct.one st_at' (by simp) (ct_1 (ct_sameT' h))
theorem ct_as (h:Nd a):Ct (enc p) [⟨false,listK x.k,listK vS⟩] (enc p a) ((capS x a).flatMap (addS p.b x)) 28 1:=Ct.one st_as (by simp) (ct_1 (ct_sameS h))
theorem Pt.ct (h:Nd a):∀(q:Pt),Ct (enc p) [⟨false,q.k,q.p vT vS vU⟩] (enc p a) (q.out p.b a) 60 2
 | .t _=>(ct_addT h).le (by decide) (by decide)
 | .s _=>(ct_addS h).le (by decide) (by decide)
 | .at _=>(ct_at h).le (by decide) (by decide)
 | .as _=>(ct_as h).le (by decide) (by decide)
 | .aat x=>by
  have n1:∀c∈(addT x a).flatMap (capT x),Nd c:=fun c hc=>by
   refine x12 (List.mem_flatMap.mp hc) fun d h1 h2=> ?_
   exact(h.addT h1).capT h2
  have:=Ct.one (e:=enc p) (S':=enc p a) st_saat (by simp) ((ct_at' (x:=x) h).cons fun o ho=>ct_at (x:=x) (n1 o ho))
  have:=Ct.one (e:=enc p) (S':=enc p a) st_aat (by simp) (ct_1 this)
  refine Ct.le (k:=41) (r:=1) ?_ (by decide) (by decide)
  show Ct _ _ _ ((((addT x a).flatMap (capT x)).flatMap (capT x)).flatMap (addT x)) _ _
  rw[List.flatMap_assoc]
  exact this
 | .ts l l'=>(Ct.one st_ts (by simp) ((ct_addS h).cons fun o ho=>ct_addT (h.addS ho))).le (by decide) (by decide)
 | .un l=>by
  have:=Ct.ways (e:=enc p) (S':=enc p a) st_un (by simp) (.cons (ct_n l .st) (.cons (ct_addT h) .nil))
  rw[List.append_nil] at this
  exact this.le (by decide) (by decide)
 | .ii=>(ct_n .i6 .ig).le (by decide) (by decide)
 | .ib=>(ct_n .bo .ig).le (by decide) (by decide)
 | .is=>(ct_n .st .ig).le (by decide) (by decide)
 | .ys _=>(Ct.one st_ys (by simp) (ct_sameS h)).le (by decide) (by decide)
noncomputable def outs (b:Bool):List Pt→A→List A
 | [],a=> [a]
 |q::l,a=>(q.out b a).flatMap (outs b l)
theorem outs_ok {b:Bool}{a':A}:∀{l:List Pt} {a:A},Clz b a→a'∈outs b l a→Clz b a'∧Ge a a'∧∀q∈l,q.post a'
 | [],a,h,m=>by have m:=List.mem_singleton.mp m;subst m;exact⟨h,Ge.rfl,nMem⟩
 |q::l,a,h,m=>by
  refine x12 (List.mem_flatMap.mp m) fun c h1 h2=> ?_
  refine an3 (Pt.ok h h1) fun k1 k2 k3=> ?_
  refine an3 (outs_ok k1 h2) fun l1 l2 l3=> ?_
  refine⟨l1,k2.trans l2,fun r hr=> ?_⟩
  cases hr with
  |head=>exact Pt.mono l2 k3
  |tail _ hr=>exact l3 r hr
theorem outs_sat {b:Bool}{t s:M}(hb:b=true→le s t=true):∀{l:List Pt} {a:A},Sat t s a→(∀q∈l,q.req t s=true)→∃a'∈outs b l a,Sat t s a'
 | [],a,h,_=>⟨a,.head _,h⟩
 |q::l,a,h,r=>sat_fm (Pt.sat h hb (r q (.head _))) fun c z=>outs_sat hb z fun q' h'=>r q' (.tail _ h')
noncomputable def cost:Nat→Nat
 |0=>0
 |n+1=>60+2 * cost n
theorem outs_ct:∀(l:List Pt) {a:A},Clz p.b a→Ct (enc p) (l.map fun q=>⟨false,q.k,q.p vT vS vU⟩) (enc p a) (outs p.b l a) (cost l.length) (2 ^ l.length)
 | [],a,_=> .nil
 |q::l,a,h=>((Pt.ct h.nd q).cons fun o ho=>outs_ct l (Pt.ok h ho).1).le (Nat.le_refl _) (by rw[List.length_cons,Nat.pow_succ,Nat.mul_comm];exact Nat.le_refl _)
end
set_option backward.eqns.nonrecursive false
inductive Bk where
 |an
 |ig
 |t
noncomputable def Bk.k (T:K):Bk→K
 | .an=>M.an.k
 | .ig=>M.ig.k
 | .t=>T
noncomputable abbrev wT:K:= .var .T1
noncomputable abbrev wSx:K:= .var .S2
noncomputable abbrev wUx:K:= .union [M.st.k,wT]
section
variable {tb:X→Option K}{T S U T' S' U':K}
theorem Bk.sub (h:T.sub tb=some T')(c:Bk):(c.k T).sub tb=some (c.k T'):=by induction c using Bk.casesOn<;>first|exact h|rfl
theorem listK_sub {T T':K}(h:T.sub tb=some T'):(listK T).sub tb=some (listK T'):=by
 show((T.sub tb).bind fun a=>(some [.num 1]).map (a:: ·)).map _=_
 rw[h];rfl
theorem Pt.sub (h1:T.sub tb=some T')(h2:S.sub tb=some S')(h3:U.sub tb=some U')(q:Pt):(q.p T S U).sub tb=some (q.p T' S' U'):=by
 refine q.casesOn (fun _=>h1) (fun _=>h2) (fun _=>listK_sub h1) (fun _=>listK_sub h2) (fun _=>listK_sub (listK_sub h1)) (fun _ _=> ?_) (fun _=>h3) rfl rfl rfl fun _=> ?_
 ·show((T.sub tb).bind fun a=>((S.sub tb).bind fun b=>(some []).map (b:: ·)).map (a:: ·)).map K.tup=_
  rw[h1,h2];rfl
 ·show(S.sub tb).map K.typ=_
  rw[h2];rfl
theorem Pt.subs (h1:T.sub tb=some T')(h2:S.sub tb=some S')(h3:U.sub tb=some U'):∀(l:List Pt),K.subs tb (l.map (Pt.p T S U))=some (l.map (Pt.p T' S' U'))
 | []=>rfl
 |q::l=>ob2 (Pt.sub h1 h2 h3 q) (Pt.subs h1 h2 h3 l)
theorem Pt.tsub (h1:T.sub tb=some T')(h2:S.sub tb=some S')(h3:U.sub tb=some U')(l:List Pt):(K.tup (l.map (Pt.p T S U))).sub tb=some (.tup (l.map (Pt.p T' S' U'))):=by
 show(K.subs tb (l.map (Pt.p T S U))).map K.tup=_
 rw[Pt.subs h1 h2 h3 l];rfl
end
section
variable {T S U:K}{d z:Nat}
theorem Pt.p_dp (h1:T.dp≤d)(h2:S.dp≤d)(h3:U.dp≤d)(hd:1≤d)(q:Pt):(q.p T S U).dp≤d+2:=by
 have l1:∀{T:K} {n},T.dp≤d+n→(listK T).dp≤d+n+1:=fun h=>Nat.succ_le_succ (mx h (mx (Nat.le_add_right_of_le hd) (Nat.zero_le _)))
 have e:∀{n},n≤d→n≤d+2:=fun h=>Nat.le_add_right_of_le h
 exact q.casesOn (fun _=>e h1) (fun _=>e h2) (fun _=>Nat.le_succ_of_le (l1 (n:=0) h1)) (fun _=>Nat.le_succ_of_le (l1 (n:=0) h2)) (fun _=>l1 (n:=1) (l1 (n:=0) h1)) (fun _ _=>Nat.succ_le_succ (Nat.le_succ_of_le (mx h1 (mx h2 (Nat.zero_le _))))) (fun _=>e h3) (e hd) (e hd) (e hd) fun _=>Nat.le_succ_of_le (Nat.succ_le_succ h2)
theorem Pt.p_sz (h1:T.sz≤z)(h2:S.sz≤z)(h3:U.sz≤z)(q:Pt):(q.p T S U).sz≤2 * z+4:=by
 have l1:∀{T:K} {n},T.sz≤n→(listK T).sz≤n+2:=fun h=>Nat.succ_le_succ (Nat.add_le_add_right h 1)
 have e:∀{n m},n≤z+m→m≤4→n≤2 * z+4:=fun h k=>nT h (Nat.add_le_add (Nat.le_mul_of_pos_left z (by decide)) k)
 exact q.casesOn (fun _=>e (m:=0) h1 (by decide)) (fun _=>e (m:=0) h2 (by decide)) (fun _=>e (l1 h1) (by decide)) (fun _=>e (l1 h2) (by decide)) (fun _=>e (m:=4) (l1 (l1 h1)) (by decide)) (fun _ _=>nT (Nat.succ_le_succ (Nat.add_le_add h1 (Nat.add_le_add_right h2 0))) (by lia)) (fun _=>e (m:=0) h3 (by decide)) (Nat.le_add_left_of_le (by decide:1≤4)) (Nat.le_add_left_of_le (by decide:1≤4)) (Nat.le_add_left_of_le (by decide:1≤4)) fun _=>e (m:=1) (Nat.succ_le_succ h2) (by decide)
theorem dps_le {f:Pt→K}(h:∀q,(f q).dp≤d):∀l:List Pt,K.dps (l.map f)≤d
 | []=>Nat.zero_le _
 |q::l=>Nat.max_le.mpr ⟨h q,dps_le h l⟩
theorem szs_le {f:Pt→K}(h:∀q,(f q).sz≤z):∀l:List Pt,K.szs (l.map f)≤l.length * z
 | []=>Nat.zero_le _
 |q::l=>nT (Nat.add_le_add (h q) (szs_le h l)) (Nat.le_of_eq ((Nat.add_comm _ _).trans (Nat.succ_mul _ _).symm))
theorem Pt.k_dp (q:Pt):q.k.dp≤3:=by induction q using Pt.casesOn<;>exact Nat.le_of_ble_eq_true rfl
theorem Pt.k_sz (q:Pt):q.k.sz≤5:=by induction q using Pt.casesOn<;>exact Nat.le_of_ble_eq_true rfl
theorem Pt.k_pl (q:Pt):q.k.pl=true:=by induction q using Pt.casesOn<;>rfl
theorem Pt.k_emp (q:Pt):q.k.emp=false:=by induction q using Pt.casesOn<;>rfl
theorem k_pls:∀l:List Pt,K.pls (l.map Pt.k)=true
 | []=>rfl
 |q::l=>ban q.k_pl (k_pls l)
theorem k_emps:∀l:List Pt,K.emps (l.map Pt.k)=false
 | []=>rfl
 |q::l=>congr (congrArg or q.k_emp) (k_emps l)
theorem tup_dp {f:Pt→K}(h:∀q,(f q).dp≤d)(l:List Pt):(K.tup (l.map f)).dp≤d+1:=Nat.succ_le_succ (dps_le h l)
theorem tup_sz {f:Pt→K}(h:∀q,(f q).sz≤z){l:List Pt}(hl:l.length≤3):(K.tup (l.map f)).sz≤3 * z+1:=by
 exact Nat.succ_le_succ (nT (szs_le h l) (Nat.mul_le_mul_right _ hl))
end
theorem fits_of {k:K}(h:k.sz≤100)(h':k.dp≤10):k.fits=true:=by simp[K.fits,h,h']
theorem zipG_map (f g:Pt→K):∀l:List Pt,zipG (l.map f) (l.map g)=l.map fun q=>⟨false,f q,g q⟩
 | []=>rfl
 |q::l=>congrArg (_:: ·) (zipG_map f g l)
theorem st_tup {ks ps:List K}(S:Ss)(h1:(K.tup ks).fits=true)(h2:(K.tup ps).fits=true)(ne:ks≠ps)(he:K.emps ks=false)(hl:ks.length=ps.length):m_step ⟨false,.tup ks,.tup ps⟩ S=some ([zipG ks ps],S):=by
 refine(if_pos (Bool.and_eq_true_iff.mpr ⟨h1,h2⟩)).trans ((if_neg fun e=> ?_).trans ?_)
 ·injection e with e;exact ne e
 show m_st3 (.tup ks) (.tup ps) S=_
 refine(if_neg ?_).trans ?_
 ·show¬((K.emps ks||decide (K.tup ps=anyK))=true)
  rw[he];simp[anyK]
 show some (m_tuple_ways ks ps,S)=_
 unfold m_tuple_ways
 rw[if_pos hl]
theorem Pt.nev (q:Pt):q.k≠q.p vT vS vU:=fun e=>by
 induction q using Pt.casesOn<;>first|exact nB (congrArg (fun k:K=>(k.fv [] []).isEmpty) e).symm|exact absurd (M.kinj.mp e) (by decide)
section
variable {pts:List Pt}{p:Pm}{a:A}
theorem ks_ne (h1:1≤pts.length):pts.map Pt.k≠pts.map (Pt.p vT vS vU):=by
 induction pts using List.casesOn with
 |nil=>simp at h1
 |cons q l=>intro e;rw[List.map_cons,List.map_cons] at e;injection e with e _;exact q.nev e
theorem ks_fits (h3:pts.length≤3):(K.tup (pts.map Pt.k)).fits=true:=fits_of (nT (tup_sz Pt.k_sz h3) (by decide)) (nT (tup_dp Pt.k_dp pts) (by decide))
theorem ps_fits {T S U:K}{d z:Nat}(h1:T.dp≤d)(h2:S.dp≤d)(h3:U.dp≤d)(hd:1≤d)(g1:T.sz≤z)(g2:S.sz≤z)(g3:U.sz≤z)(hd':d≤7)(hz:z≤13)(hl:pts.length≤3):(K.tup (pts.map (Pt.p T S U))).fits=true:=
 fits_of (nT (tup_sz (Pt.p_sz g1 g2 g3) hl) (by lia)) (nT (tup_dp (Pt.p_dp h1 h2 h3 hd) pts) (lt3 (Nat.add_le_add (Nat.add_le_add hd' (Nat.le_refl 2)) (Nat.le_refl 1))))
theorem ct_tup (h1:1≤pts.length)(h3:pts.length≤3)(h:Clz p.b a):Ct (enc p) [⟨false,.tup (pts.map Pt.k),.tup (pts.map (Pt.p vT vS vU))⟩] (enc p a) (outs p.b pts.reverse a) 421 8:=by
 have s:=st_tup (enc p a) (ks_fits h3) (ps_fits (d:=2) (z:=3) (pts:=pts) (T:=vT) (S:=vS) (U:=vU) (by decide) (by decide) (by decide) (by decide) (by decide) (by decide) (by decide) (by decide) (by decide) h3) (ks_ne h1) (k_emps pts) (by simp)
 rw[zipG_map] at s
 have:=outs_ct (p:=p) pts.reverse h
 rw[List.map_reverse] at this
 refine Ct.one s (by simp;exact lt3 h3) (this.le ?_ ?_)
 ·rw[List.length_reverse]
  rcases(show pts.length=1∨pts.length=2∨pts.length=3 by lia) with e|e|e<;>rw[e]<;>decide
 ·rw[List.length_reverse]
  rcases(show pts.length=1∨pts.length=2∨pts.length=3 by lia) with e|e|e<;>rw[e]<;>decide
end
theorem nsOf_k:∀l:List M,nsOf (l.map M.k)=some (l.map M.n)
 | []=>rfl
 |x::l=>by rw[List.map_cons];show(nsOf (l.map M.k)).map (x.n:: ·)=_;rw[nsOf_k l];rfl
noncomputable def one1:List M→Bool
 | []=>true
 |x::l=>l.all (fun y=>y==x)&& !(x== .an||x== .re||x== .ig)
theorem isOne_k (l:List M):isOne dcT (l.map M.n)=some (one1 l):=by
 induction l using List.casesOn with
 |nil=>rfl
 |cons x l=>
  have e:((l.map M.n).all fun m=>decide (m=x.n))=l.all fun y=>y==x:=by
   induction l with
   |nil=>rfl
   |cons y l ih=>simp only[List.map_cons,List.all_cons,ih,M.inj];rfl
  simp only[List.map_cons,isOne,one1,e]
  cases l.all fun y=>y==x
  ·rfl
  ·induction x using M.casesOn<;>rfl
noncomputable def okA (p:Pm) (a:A):Bool:=(!p.t||one1 a.tl)&&(!p.s||one1 a.sl)
theorem allOk_enc (p:Pm)(a:A):allOk dcT (enc p a).rows=some (okA p a):=by
 have r:∀(s:Sd) (l:List M),s.lo=l.map M.k→okRow dcT s=some (!(s.asked&&s.dg&& !one1 l)):=fun s l e=>ob1 ((congrArg nsOf e).trans (nsOf_k l)) (congrArg (Option.map _) (isOne_k l))
 refine(ob2 (r _ a.tl rfl) (ob2 (r _ a.sl rfl) rfl)).trans (congrArg some ?_)
 show(!(true&&p.t&& !one1 a.tl)&&(!(true&&p.s&& !one1 a.sl)&&true))=((!p.t||one1 a.tl)&&(!p.s||one1 a.sl))
 cases p.t<;>cases p.s<;>cases one1 a.tl<;>cases one1 a.sl<;>rfl
theorem okS_enc (p:Pm)(a:A):okS (enc p a)=okA p a:=by
 unfold okS;rw[allOk_enc];cases okA p a<;>rfl
theorem good_enc {p:Pm}{a:A}(h:Nd a):Good (enc p a):=by
 have:=h.tl7;have:=h.sl7
 refine⟨by simp[enc],by simp[enc,sdT,sdS];lia,by rw[allOk_enc];rfl⟩
noncomputable def found (p:Pm) (pts:List Pt) (a:A):Option A:=(outs p.b pts.reverse a).find? (okA p)
theorem run_tup {pts:List Pt}{p:Pm}{a:A}(h1:1≤pts.length)(h3:pts.length≤3)(h:Clz p.b a):m_run 4000 4000 [([⟨false,.tup (pts.map Pt.k),.tup (pts.map (Pt.p vT vS vU))⟩],enc p a)]=some ((found p pts a).map (enc p)):=by
 rw[run_out (ct_tup h1 h3 h) (fun o ho=>good_enc (outs_ok h ho).1.nd) (by decide) (by simp) (by decide) (by decide),List.find?_map]
 have:okS∘enc p=okA p:=by funext a;exact okS_enc p a
 rw[this];rfl
noncomputable def Pt.oT:Pt→Nat×Bool
 | .t _=>(1,false)
 | .at _=>(0,true)
 | .aat _=>(0,true)
 | .ts _ _=>(1,false)
 | .un _=>(1,false)
 |_=>(0,false)
noncomputable def Pt.oS:Pt→Nat×Bool
 | .s _=>(1,false)
 | .as _=>(0,true)
 | .ys _=>(0,true)
 | .ts _ _=>(1,false)
 |_=>(0,false)
theorem Pt.occT (q:Pt):(q.p wT wSx wUx).occ .T1=some q.oT:=by induction q using Pt.casesOn<;>rfl
theorem Pt.occS (q:Pt):(q.p vT wSx vU).occ .S2=some q.oS:=by induction q using Pt.casesOn<;>rfl
theorem Pt.cntT (q:Pt):(q.p wT wSx wUx).cnt .T1=some q.oT:=by induction q using Pt.casesOn<;>rfl
theorem Pt.cntS (q:Pt):(q.p wT wSx wUx).cnt .S2=some q.oS:=by induction q using Pt.casesOn<;>rfl
theorem occs_map {f:Pt→K}{o:Pt→Nat×Bool}{x:X}(h:∀q,(f q).occ x=some (o q)):∀l:List Pt,K.occs x (l.map f)=some (l.map o)
 | []=>rfl
 |q::l=>ob2 (h q) (occs_map h l)
theorem cnts_map {f:Pt→K}{o:Pt→Nat×Bool}{x:X}(h:∀q,(f q).cnt x=some (o q)):∀l:List Pt,K.cnts x (l.map f)=some (l.map o)
 | []=>rfl
 |q::l=>ob2 (h q) (cnts_map h l)
noncomputable def manyO (o:Pt→Nat×Bool) (l:List Pt):Nat×Bool:=(((l.map o).map (·.1)).sum,((l.map o).map (·.2)).contains true)
noncomputable def twice (o:Pt→Nat×Bool) (l:List Pt):Bool:=decide ((manyO o l).1>1)&& !(manyO o l).2
theorem tup_occ {f:Pt→K}{o:Pt→Nat×Bool}{x:X}(h:∀q,(f q).occ x=some (o q))(l:List Pt):(K.tup (l.map f)).occ x=some (min 2 (manyO o l).1,(manyO o l).2):=by
 show(K.occs x (l.map f)).map occT=_
 rw[occs_map h l];rfl
theorem tup_cnt {f:Pt→K}{o:Pt→Nat×Bool}{x:X}(h:∀q,(f q).cnt x=some (o q))(l:List Pt):(K.tup (l.map f)).cnt x=some (manyO o l):=by
 show(K.cnts x (l.map f)).map cntT=_
 rw[cnts_map h l];rfl
noncomputable def Bk.isT:Bk→Bool
 | .t=>true
 |_=>false
noncomputable def pm (c:Bk) (pts:List Pt):Pm:=⟨c.isT,twice Pt.oT pts&& !c.isT,twice Pt.oS pts⟩
noncomputable def Bk.bs:Bk→List M
 | .an=> []
 | .ig=> [.ig]
 | .t=> []
noncomputable def a0 (u:M) (c:Bk):A:=⟨[],if u= .an then[] else[u],[],c.bs⟩
theorem a0_cl (b:Bool)(u:M)(c:Bk):Clz b (a0 u c):=⟨⟨.nil,by unfold a0;split<;>simp,.nil,by induction c using Bk.casesOn<;>first|exact .nil|exact .cons nMem .nil⟩,nMem,nMem,fun _=>nMem⟩
noncomputable def psK (T S U:K) (pts:List Pt):K:= .tup (pts.map (Pt.p T S U))
theorem Bk.occA (c:Bk)(p:Nat×Bool):occA .T1 .bot (c.k wT) p=(p.1,p.2||c.isT):=by
 obtain⟨n,b⟩:=p
 induction c using Bk.casesOn<;>cases b<;>rfl
theorem diagT (c:Bk)(pts:List Pt):(K.all .S2 .bot (c.k wT) (psK wT wSx wUx pts)).diag .T1=some (pm c pts).t:=by
 show(((psK wT wSx wUx pts).occ .T1).map (occA .T1 .bot (c.k wT))).map (fun p=>decide (p.1>1)&& !p.2)=_
 rw[psK,tup_occ Pt.occT,Option.map_some,Bk.occA]
 simp only[Option.map_some,pm,twice]
 cases c.isT<;>cases (manyO Pt.oT pts).2<;>simp<;>lia
theorem diagS (c:Bk)(pts:List Pt):(psK vT wSx vU pts).diag .S2=some (pm c pts).s:=by
 unfold K.diag
 rw[psK,tup_occ Pt.occS]
 simp only[Option.map_some,pm,twice]
 cases (manyO Pt.oS pts).2<;>simp<;>lia
section
variable {pts:List Pt}{u:M}{c:Bk}
theorem psK_fits {T S U:K}(h1:T.dp≤2)(h2:S.dp≤2)(h3:U.dp≤2)(g1:T.sz≤3)(g2:S.sz≤3)(g3:U.sz≤3)(hl:pts.length≤3):(psK T S U pts).sz≤31∧(psK T S U pts).dp≤5:=
 ⟨nT (tup_sz (Pt.p_sz g1 g2 g3) hl) (by decide),nT (tup_dp (Pt.p_dp h1 h2 h3 (by decide)) pts) (by decide)⟩
theorem Bk.k_sz {T:K}(h:T.sz≤1)(c:Bk):(c.k T).sz≤1:=by induction c using Bk.casesOn<;>first|exact h|exact Nat.le_refl _
theorem Bk.k_dp {T:K}(h:T.dp≤1)(c:Bk):(c.k T).dp≤1:=by induction c using Bk.casesOn<;>first|exact h|exact Nat.le_refl _
theorem subT (c:Bk)(pts:List Pt):(K.all .S2 .bot (c.k wT) (psK wT wSx wUx pts)).sub (one .T1 vT)=some (.all .S2 .bot (c.k vT) (psK vT wSx vU pts)):=by
 show((c.k wT).sub (one .T1 vT)).bind (fun up'=>((psK wT wSx wUx pts).sub (one .T1 vT)).map fun b'=>K.all .S2 .bot up' b')=_
 exact ob2 (Bk.sub (T':=vT) rfl c) (Pt.tsub (T':=vT) (S':=wSx) (U':=vU) rfl rfl rfl pts)
theorem subS (pts:List Pt):(psK vT wSx vU pts).sub (one .S2 vS)=some (psK vT vS vU pts):=Pt.tsub rfl rfl rfl _
theorem all_dp {x:X}{lo up b:K}{n:Nat}(h0:lo.dp≤n)(h1:up.dp≤n)(h2:b.dp≤n):(K.all x lo up b).dp≤n+1:=Nat.succ_le_succ (Nat.max_le.mpr ⟨h0,Nat.max_le.mpr ⟨h1,h2⟩⟩)
theorem all_sz {x:X}{lo up b:K}{a c e:Nat}(h0:lo.sz≤a)(h1:up.sz≤c)(h2:b.sz≤e):(K.all x lo up b).sz≤a+c+e+1:=by
 show lo.sz+up.sz+b.sz+1≤_;lia
theorem fits1 (hu:u.k.sz≤1∧u.k.dp≤1)(h3:pts.length≤3):(K.all .T1 .bot u.k (.all .S2 .bot (c.k wT) (psK wT wSx wUx pts))).fits=true:=
 an2 (psK_fits (pts:=pts) (T:=wT) (S:=wSx) (U:=wUx) (by decide) (by decide) (by decide) (by decide) (by decide) (by decide) h3) fun k1 k2=>
 fits_of (nT (all_sz (Nat.le_refl _) hu.1 (all_sz (Nat.le_refl _) (c.k_sz (by decide)) k1)) (by decide))
  (nT (all_dp (n:=6) (by decide) (nT hu.2 (by decide)) (all_dp (n:=5) (by decide) (nT (c.k_dp (by decide)) (by decide)) k2)) (by decide))
theorem fits2 (h3:pts.length≤3):(K.all .S2 .bot (c.k vT) (psK vT wSx vU pts)).fits=true:=
 an2 (psK_fits (pts:=pts) (T:=vT) (S:=wSx) (U:=vU) (by decide) (by decide) (by decide) (by decide) (by decide) (by decide) h3) fun k1 k2=>
 fits_of (nT (all_sz (Nat.le_refl _) (c.k_sz (by decide)) k1) (by decide)) (nT (all_dp (n:=5) (by decide) (nT (c.k_dp (by decide)) (by decide)) k2) (by decide))
theorem fits3 (h3:pts.length≤3):(psK vT vS vU pts).fits=true:=by
 obtain⟨k1,k2⟩:=psK_fits (pts:=pts) (T:=vT) (S:=vS) (U:=vU) (by decide) (by decide) (by decide) (by decide) (by decide) (by decide) h3
 exact fits_of (lt3 k1) (lt3 k2)
theorem uk1 (u:M):u.k.sz≤1∧u.k.dp≤1:=⟨Nat.le_refl 1,Nat.le_refl 1⟩
noncomputable def S1 (p:Pm) (u:M):Ss:=⟨[(.T1a,sdOf true 1 .bot u.k p.t)],1⟩
theorem S2_enc (p:Pm)(u:M)(c:Bk)(hp:p.b=c.isT):(⟨rput (S1 p u).rows .S2b (sdOf true 2 .bot (c.k vT) p.s),2⟩:Ss)=enc p (a0 u c):=by
 obtain⟨b,t,s⟩:=p
 dsimp only at hp
 subst hp
 induction u using M.casesOn<;>cases c<;>rfl
theorem m_opens_all {n:Nat}{y f:X}{up bd bd':K}{dg:Bool}{S:Ss}(hk:(K.all y .bot up bd).fits=true)(hr:S.rows.length≤50)(hf:y.fresh (S.many+1)=some f)(hd:bd.diag y=some dg)(hs:bd.sub (one y (.var f))=some bd'):
  m_opens (n+1) (.all y .bot up bd) S=(m_opens n bd' (openS S f up dg)).map fun o=>((y,f)::o.1,o.2):=by
 refine(if_pos hk).trans ((if_pos ⟨hr,rfl⟩).trans ?_)
 show((y.fresh (S.many+1)).bind fun f=>(bd.diag y).bind fun dg=>(bd.sub (one y (.var f))).bind fun bd'=>(m_opens n bd' (openS S f up dg)).map fun o=>((y,f)::o.1,o.2))=_
 rw[hf,hd]
 refine(congrArg (fun z=>Option.bind z _) hs).trans rfl
theorem opens_is (h3:pts.length≤3):m_opens 9 (sigK u.k (c.k wT) (pts.map (Pt.p wT wSx wUx))) ⟨[],0⟩=some ([(.T1,.T1a),(.S2,.S2b)],psK vT vS vU pts,enc (pm c pts) (a0 u c)):=by
 have e:=S2_enc (pm c pts) u c rfl
 have f:=fits3 (pts:=pts) h3
 have h0:m_opens 7 (psK vT vS vU pts) (enc (pm c pts) (a0 u c))=some ([],psK vT vS vU pts,enc (pm c pts) (a0 u c)):=(if_pos f).trans rfl
 refine(m_opens_all (f:= .T1a) (fits1 (uk1 u) h3) (Nat.zero_le _) rfl (diagT c pts) (subT c pts)).trans ?_
 show Option.map _ (m_opens 8 _ (S1 (pm c pts) u))=_
 rw[m_opens_all (S:=S1 (pm c pts) u) (f:= .S2b) (fits2 h3) (show 1≤50 by decide) rfl (diagS c pts) (subS pts)]
 show Option.map _ (Option.map _ (m_opens 7 _ ⟨rput (S1 (pm c pts) u).rows .S2b (sdOf true 2 .bot (c.k vT) (pm c pts).s),2⟩))=_
 rw[e,h0];rfl
theorem m_open_eq {a bd bd' up:K}{y f:X}{dg:Bool}{S:Ss}(hf:y.fresh (S.many+1)=some f)(hd:bd.diag y=some dg)(hs:bd.sub (one y (.var f))=some bd')(hr:S.rows.length≤50):m_open a y .bot up bd S=some ([[⟨false,a,bd'⟩]],⟨rput S.rows f (sdOf true (S.many+1) .bot up dg),S.many+1⟩):=by
 refine(if_pos rfl).trans ?_
 rw[hf,hd]
 refine(congrArg (fun z=>Option.bind z _) hs).trans ?_
 exact if_pos hr
theorem st_open {ks:List K}{lo up bd:K}{y:X}{S:Ss}(h1:(K.tup ks).fits=true)(h2:(K.all y lo up bd).fits=true)(he:K.emps ks=false):m_step ⟨false,.tup ks,.all y lo up bd⟩ S=m_open (.tup ks) y lo up bd S:=by
 refine(if_pos (Bool.and_eq_true_iff.mpr ⟨h1,h2⟩)).trans ((if_neg fun e=> ?_).trans ?_)
 ·injection e
 show m_st3 (.tup ks) (.all y lo up bd) S=_
 refine(if_neg ?_).trans rfl
 show¬((K.emps ks||decide (K.all y lo up bd=anyK))=true)
 rw[he];simp[anyK]
theorem sub1_sig (h1:1≤pts.length)(h3:pts.length≤3):sub1 (sigK u.k (c.k wT) (pts.map (Pt.p wT wSx wUx))) (.tup (pts.map Pt.k))=some ((found (pm c pts) pts (a0 u c)).map (enc (pm c pts))):=by
 have hcl:=a0_cl (pm c pts).b u c
 have s1:=st_open (S:=⟨[],0⟩) (ks_fits (pts:=pts) h3) (fits1 (c:=c) (uk1 u) h3) (k_emps pts)
 rw[m_open_eq (f:= .T1a) rfl (diagT c pts) (subT c pts) (by decide)] at s1
 have s2:=st_open (S:=S1 (pm c pts) u) (ks_fits (pts:=pts) h3) (fits2 (c:=c) h3) (k_emps pts)
 rw[m_open_eq (f:= .S2b) rfl (diagS c pts) (subS pts) (by simp[S1])] at s2
 have e:=S2_enc (pm c pts) u c rfl
 have hc:=ct_tup (p:=pm c pts) h1 h3 hcl
 rw[←e] at hc
 have:=Ct.one s1 (by simp) (Ct.one s2 (by simp) hc)
 unfold sub1
 show m_run 4000 4000 [([⟨false,.tup (pts.map Pt.k),K.all .T1 .bot u.k (.all .S2 .bot (c.k wT) (psK wT wSx wUx pts))⟩],⟨[],0⟩)]=_
 rw[run_out this (fun o ho=>good_enc (outs_ok hcl ho).1.nd) (by decide) (by simp) (by decide) (by decide),List.find?_map]
 have:okS∘enc (pm c pts)=okA (pm c pts):=by funext a;exact okS_enc _ a
 rw[this];rfl
theorem ks_cases (h3:pts.length≤3):casesOf (.tup (pts.map Pt.k))=some [.tup (pts.map Pt.k)]:=by
 refine if_pos ?_
 show(K.pls (pts.map Pt.k)&&_&&_)=true
 have k1:(K.tup (pts.map Pt.k)).dp≤4:=tup_dp Pt.k_dp pts
 have k2:(K.tup (pts.map Pt.k)).sz≤16:=tup_sz Pt.k_sz h3
 rw[k_pls,decide_eq_true (lt3 k1:_≤10),decide_eq_true (lt3 k2:_≤60)];rfl
theorem sub_sig (h1:1≤pts.length)(h3:pts.length≤3):m_sub (.tup (pts.map Pt.k)) (sigK u.k (c.k wT) (pts.map (Pt.p wT wSx wUx)))=some (found (pm c pts) pts (a0 u c)).isSome:=by
 have k1:(K.tup (pts.map Pt.k)).dp≤4:=tup_dp Pt.k_dp pts
 unfold m_sub
 rw[if_pos (l_min (lt3 k1)),if_neg (by unfold sigK;simp),ks_cases h3]
 refine ob1 (sub1_sig h1 h3) ?_
 cases found (pm c pts) pts (a0 u c)<;>rfl
theorem matched_sig (h1:1≤pts.length)(h3:pts.length≤3):m_matched (.tup (pts.map Pt.k)) (sigK u.k (c.k wT) (pts.map (Pt.p wT wSx wUx)))=(match found (pm c pts) pts (a0 u c) with
  |none=>some none
  |some a=>(m_table (enc (pm c pts) a) [(.T1,.T1a),(.S2,.S2b)] []).map some):=by
 unfold m_matched
 rw[opens_is h3]
 show(if([(.T1,.T1a),(.S2,.S2b)]:List (X×X)).length≤50 then(m_run 4000 4000 [([⟨false,.tup (pts.map Pt.k),psK vT vS vU pts⟩],enc (pm c pts) (a0 u c))]).bind (m_tabO [(.T1,.T1a),(.S2,.S2b)]) else none)=_
 rw[if_pos (by decide)]
 unfold psK
 rw[run_tup h1 h3 (a0_cl _ u c)]
 cases found (pm c pts) pts (a0 u c)<;>rfl
end
inductive Fd:Wt→Nat→Prop
 |leaf {S W c}:Good S→okS S=true→1≤c→Fd (([],S)::W) c
 |dead {g st S S' W c}:m_step g S=some ([],S')→Fd W c→Fd ((g::st,S)::W) (c+1)
 |step {g st S S' v vs W c}:m_step g S=some (v::vs,S')→(∀u∈v::vs,u.length≤10)→vs.length≤10→Fd ((v.reverse++st,S')::(vs.map (fun u=>(u.reverse++st,S'))++W)) c→Fd ((g::st,S)::W) (c+1)
theorem Fd.pos {W:Wt}{c:Nat}(h:Fd W c):1≤c:=by cases h<;>lia
theorem Fd.mono {W:Wt}{c:Nat}(h:Fd W c):∀{c':Nat},c≤c'→Fd W c':=by
 induction h with
 |leaf g o h=>intro c' hc;exact .leaf g o (nT h hc)
 |dead e _ ih=>
  intro c' hc
  obtain⟨c',rfl⟩:∃k,c'=k+1:=⟨c'-1,by lia⟩
  exact .dead e (ih (Nat.le_of_add_le_add_right hc))
 |step e z z' _ ih=>
  intro c' hc
  obtain⟨c',rfl⟩:∃k,c'=k+1:=⟨c'-1,by lia⟩
  exact .step e z z' (ih (Nat.le_of_add_le_add_right hc))
theorem run_fd0 {W:Wt}{c:Nat}(h:Fd W c):∀n f,W.length+10 * c≤10000→(∀e∈W,e.1.length+10 * c≤10000)→∃S,m_run (n+c) (f+c) W=some (some S):=by
 induction h with
 | @leaf S W c g ho hc=>
  intro n f h0 h3
  induction c using Nat.casesAuxOn with
  |zero=>exact absurd hc (by decide)
  |succ c=>exact⟨S,(run_leaf g.1 g.2.1 (eq_of_beq ho)).trans rfl⟩
 | @dead g st S S' W c e hW ih=>
  intro n f h0 h3
  have h0:W.length+1+10 * (c+1)≤10000:=h0
  exact x11 (ih n f (by lia) (tail_few h3)) fun S h=>⟨S,(run_dead e).trans h⟩
 | @step g st S S' v vs W c e z z' hW ih=>
  intro n f h0 h3
  have h0:W.length+1+10 * (c+1)≤10000:=h0
  have hc:=hW.pos
  refine x11 (ih (n+1) f (by rw[List.length_cons,List.length_append,List.length_map];lia) (step_few z h3)) fun S i=>⟨S,?_⟩
  rw[Nat.add_right_comm] at i
  exact(run_step (c:=c) e (by lia) z hc (h3 _ (.head _)) (by lia)).trans i
theorem run_fd {W:Wt}{c:Nat}(h:Fd W c)(n f:Nat)(h1:c≤n)(h2:c≤f)(h0:W.length+10 * c≤10000)(h3:∀e∈W,e.1.length+10 * c≤10000):∃S,m_run n f W=some (some S):=by
 have:=run_fd0 h (n-c) (f-c) h0 h3
 rwa [Nat.sub_add_cancel h1,Nat.sub_add_cancel h2] at this
noncomputable def Rs (gs:List G) (S:Ss) (k:Nat):Prop:=∀(st:List G) (c:Nat),(∀W,Fd ((st,S)::W) c)→∀W,Fd ((gs++st,S)::W) (c+k)
section
variable {gs gs' v:List G}{g:G}{S:Ss}{k k':Nat}
theorem Rs.nil:Rs [] S 0:=fun _ _ h W=>h W
theorem Rs.cons (h:Rs [g] S k)(h':Rs gs S k'):Rs (g::gs) S (k+k'):=fun st c hc W=>by
 have:=h (gs++st) (c+k') (fun W=>h' st c hc W) W
 exact this.mono (by lia)
theorem Rs.le (h:Rs gs S k)(hk:k≤k'):Rs gs S k':=fun st c hc W=>(h st c hc W).mono (Nat.add_le_add_left hk _)
theorem Rs.one (e:m_step g S=some ([v],S))(hv:v.length≤10)(h:Rs v.reverse S k):Rs [g] S (k+1):=fun st c hc W=>
 .step e (by simpa using hv) (by simp) (h st c hc _)
theorem Rs.skip (e:m_step g S=some ([[]],S)):Rs [g] S 1:=Rs.one e (by simp) .nil
theorem rs_n {a b:M}(h:le a b=true):Rs [⟨false,a.k,b.k⟩] S 1:=Rs.skip (by rw[st_n,h];rfl)
theorem st_refl {S:Ss}{k:K}{sm:Bool}(h:k.fits=true):m_step ⟨sm,k,k⟩ S=some ([[]],S):=(if_pos (Bool.and_eq_true_iff.mpr ⟨h,h⟩)).trans (if_pos rfl)
theorem rs_eq {k:K}{sm:Bool}(h:k.fits=true):Rs [⟨sm,k,k⟩] S 1:=Rs.skip (st_refl h)
theorem fd_alt {x:M}{S:Ss}{st:List G}{c:Nat}(hc:∀W,Fd ((st,S)::W) c):∀(l:List M),(∃y∈l,le x y=true)→∀W,Fd ((l.map fun y=>([⟨false,x.k,y.k⟩]++st,S))++W) (c+l.length)
 | [],h,_=>by refine x12 h ?_;intro _ h _;cases h
 |y::l,h,W=>by
  induction z:le x y using Bool.casesOn with
  |true=>exact Fd.mono (rs_n z st c hc _) (by simp)
  |false=>
   refine x12 h fun y' h1 h2=> ?_
   have h1:y'∈l:=by
    cases h1 with
    |head=>rw[z] at h2;exact nB h2
    |tail _ h=>exact h
   exact .dead (by rw[st_n,z];rfl) (fd_alt hc l ⟨y',h1,h2⟩ W)
end
noncomputable def nmM (x:M):At:= .nm x.n
noncomputable def uM (D:List M):K:=unionA (D.map nmM)
theorem nmM_all:(M.all.all fun x=>M.all.all fun y=> !decide (nmM x=nmM y)||decide (x=y))=true:=by decide +kernel
theorem nmM_inj {x y:M}(h:nmM x=nmM y):x=y:=by
 have:=M.one (M.one nmM_all x) y
 rw[decide_eq_true h] at this
 exact oD this
theorem nmM_mem {x:M}{l:List M}:nmM x∈l.map nmM↔x∈l:=by
 rw[List.mem_map]
 exact⟨fun⟨y,h,e⟩=>by rw[←nmM_inj e];exact h,fun h=>⟨x,h,rfl⟩⟩
theorem an_mem {l:List M}:At.nm .nAny∈l.map nmM↔ .an∈l:=nmM_mem (x:= .an)
theorem insA_M (x:M):∀l:List M,∃m:List M,insA (nmM x) (l.map nmM)=m.map nmM
 | []=>⟨[x],rfl⟩
 |y::l=>by
  show∃m:List M,(if(nmM x).rk≤(nmM y).rk then _ else _)=_
  split
  ·exact⟨x::y::l,rfl⟩
  ·refine x11 (insA_M x l) fun m e=> ?_
   exact⟨y::m,by rw[e];rfl⟩
theorem sortA_M:∀l:List M,∃m:List M,sortA (l.map nmM)=m.map nmM
 | []=>⟨[],rfl⟩
 |x::l=>by
  refine x11 (sortA_M l) fun m e=> ?_
  refine x11 (insA_M x m) fun m' e'=> ?_
  exact⟨m',(congrArg (insA (nmM x)) e).trans e'⟩
theorem uM_cases {D:List M}(h:D≠ []):(.an∈D∧uM D=anyK)∨(∃x,D=[x]∧uM D=x.k)∨(.an∉D∧2≤D.length∧∃E:List M,sortA (D.map nmM)=E.map nmM∧(∀x,x∈E↔x∈D)∧E.length=D.length∧uM D= .union (E.map M.k)):=by
 unfold uM unionA
 by_cases ha: .an∈D
 ·rw[if_pos (an_mem.mpr ha)];exact .inl ⟨ha,rfl⟩
 ·rw[if_neg fun z=>ha (an_mem.mp z)]
  match D,h with
  | [x],_=>exact .inr (.inl ⟨x,rfl,rfl⟩)
  |x::y::r,_=>
   refine x11 (sortA_M (x::y::r)) fun E e=> ?_
   have p:=sortA_perm ((x::y::r).map nmM)
   rw[e] at p
   refine .inr (.inr ⟨ha,by simp,E,e,fun z=> ?_,by simpa using p.length_eq,?_⟩)
   ·rw[←nmM_mem,←nmM_mem];exact p.mem_iff
   ·show K.union ((sortA ((x::y::r).map nmM)).map At.k)=_
    rw[e,List.map_map];rfl
theorem szs_ks:∀l:List M,K.szs (l.map M.k)=l.length
 | []=>rfl
 |x::l=>(congrArg (1+ ·) (szs_ks l)).trans (Nat.add_comm _ _)
theorem dps_ks:∀l:List M,K.dps (l.map M.k)≤1
 | []=>Nat.zero_le _
 |x::l=>mx (Nat.le_refl 1) (dps_ks l)
theorem uM_size {D:List M}(h:D≠ [])(hd:D.length≤8):(uM D).sz≤9∧(uM D).dp≤2:=by
 rcases uM_cases h with⟨_,e⟩|⟨x,_,e⟩|⟨_,_,E,_,_,e2,e⟩
 ·rw[e];decide
 ·rw[e];exact⟨(by decide:1≤9),(by decide:1≤2)⟩
 ·rw[e];exact⟨Nat.succ_le_succ (nT (Nat.le_of_eq ((szs_ks E).trans e2)) hd),Nat.succ_le_succ (dps_ks E)⟩
theorem uM_fits {D:List M}(h:D≠ [])(hd:D.length≤8):(uM D).fits=true:=by
 have:=uM_size h hd;exact fits_of (lt3 this.1) (lt3 this.2)
theorem k_fits (x:M):x.k.fits=true:=rfl
theorem rs_u {S:Ss}{x:M}{D:List M}(hd:D.length≤8)(h:∃y∈D,le x y=true):Rs [⟨false,x.k,uM D⟩] S 9:=by
 refine x12 h fun y h1 h2=> ?_;clear h
 have hne:D≠ []:=by rintro rfl;cases h1
 rcases uM_cases hne with⟨_,e⟩|⟨z,e1,e⟩|⟨_,hl,E,_,e1,e2,e⟩
 ·rw[e];exact(rs_n (b:= .an) (by induction x using M.casesOn<;>rfl)).le (by decide)
 ·subst e1;rw[e];simp at h1;replace h1:=h1.symm;subst h1;exact(rs_n h2).le (by decide)
 ·have hf:=uM_fits hne hd
  rw[e] at hf⊢
  intro st c hc W
  have s:m_step ⟨false,x.k,.union (E.map M.k)⟩ S=some (E.map fun y=> [⟨false,x.k,y.k⟩],S):=by
   refine(if_pos (Bool.and_eq_true_iff.mpr ⟨k_fits x,hf⟩)).trans ((if_neg fun e=> ?_).trans ?_)
   ·injection e
   show some ((E.map M.k).map fun p=> [(⟨false,x.k,p⟩:G)],S)=_
   rw[List.map_map];rfl
  have:=fd_alt (x:=x) hc E ⟨y,(e1 y).mpr h1,h2⟩ W
  induction E using List.casesOn with
  |nil=>simp at e2;lia
  |cons z E=>
   refine Fd.mono (.step s (by simp) (by simp at e2⊢;exact nT (l_al (Nat.le_of_eq e2)) (lt3 hd)) (by simpa[List.map_map,Function.comp_def] using this)) (by simp at e2⊢;lia)
theorem sub_all:(M.all.all fun a=>M.all.all fun b=>decide (m_sub a.k b.k=some (le a b)))=true:=by decide +kernel
theorem sub_nn (a b:M):m_sub a.k b.k=some (le a b):=oD (M.one (M.one sub_all a) b)
theorem unionA_perm {L L':List At}(p:L.Perm L'):unionA L=unionA L':=by
 unfold unionA
 by_cases h:At.nm .nAny∈L
 ·rw[if_pos h,if_pos (p.mem_iff.mp h)]
 ·rw[if_neg h,if_neg fun z=>h (p.mem_iff.mpr z)]
  have hl:=p.length_eq
  match L,L' with
  | [],[]=>rfl
  | [a],[b]=>simp at p;rw[p]
  |a::b::r,a'::b'::r'=>
   show K.union ((sortA _).map At.k)=K.union ((sortA _).map At.k)
   rw[sorted_uniq (((sortA_perm _).trans p).trans (sortA_perm _).symm) (sortA_sorted _) (sortA_sorted _)]
  | [],_::_=>simp at hl
  |_::_,[]=>simp at hl
  | [_],_::_::_=>simp at hl
  |_::_::_,[_]=>simp at hl
theorem uM_perm {D D':List M}(h:D.Nodup)(h':D'.Nodup)(e:∀x,x∈D↔x∈D'):uM D=uM D':=unionA_perm (((List.perm_ext_iff_of_nodup h h').mpr e).map nmM)
noncomputable def dedM (acc:List M) (a:M):List M:=if a∈acc then acc else acc++ [a]
theorem ded_M:∀(l acc:List M),(l.map nmM).foldl ded (acc.map nmM)=(l.foldl dedM acc).map nmM
 | [],_=>rfl
 |x::l,acc=>by
  rw[List.map_cons,List.foldl_cons,List.foldl_cons,←ded_M l]
  congr 1
  unfold ded dedM
  by_cases h:x∈acc
  ·rw[if_pos h,if_pos (nmM_mem.mpr h)]
  ·rw[if_neg h,if_neg fun z=>h (nmM_mem.mp z)];simp
set_option tactic.hygienic true in
theorem dedM_ok:∀(l acc:List M),acc.Nodup→(l.foldl dedM acc).Nodup∧∀x,x∈l.foldl dedM acc↔x∈acc∨x∈l
 | [],acc,h=>⟨h,fun x=>by simp⟩
 |y::l,acc,h=>by
  have hn:(dedM acc y).Nodup:=by
   unfold dedM;split
   ·exact h
   ·exact nodup_snoc h (by assumption)
  refine an2 (dedM_ok l _ hn) fun k1 k2=> ?_
  refine⟨k1,fun x=> ?_⟩
  rw[List.foldl_cons,k2 x]
  have:x∈dedM acc y↔x∈acc∨x=y:=by
   unfold dedM;split
   ·rename_i hy
    exact⟨.inl,fun z=>z.elim id fun e=>by rw[e];exact hy⟩
   ·simp
  rw[this,List.mem_cons,or_assoc]
theorem atsOf_M:∀l:List M,atsOf (l.map M.k)=some (l.map nmM)
 | []=>rfl
 |x::l=>ob2 rfl (atsOf_M l)
theorem usOf_M:∀l:List M,usOf (l.map M.k)=some (l.map fun x=>U.at (nmM x))
 | []=>rfl
 |x::l=>ob2 rfl (usOf_M l)
theorem subs_M (tb:X→Option K):∀l:List M,K.subs tb (l.map M.k)=some (l.map M.k)
 | []=>rfl
 |x::l=>ob2 rfl (subs_M tb l)
theorem flat_M (l:List M):(l.map fun x=>U.at (nmM x)).flatMap U.ats=l.map nmM:=by
 induction l with
 |nil=>rfl
 |cons x l ih=>rw[List.map_cons,List.flatMap_cons,ih];rfl
theorem unionOf_M {l:List M}(h:l.Nodup):unionOf (l.map fun x=>U.at (nmM x))=uM l:=by
 unfold unionOf
 rw[flat_M,show([]:List At)=([]:List M).map nmM from rfl,ded_M]
 refine an2 (dedM_ok l [] .nil) fun k1 k2=> ?_
 exact uM_perm k1 h fun x=>by rw[k2];simp
theorem szU_M (l:List M):szU (l.map fun x=>U.at (nmM x))=l.length:=by
 induction l with
 |nil=>rfl
 |cons x l ih=>simp only[szU,List.map_cons,List.sum_cons,List.length_cons] at ih⊢;rw[ih];simp[U.wt];lia
theorem perm_nodup {D E:List M}(h:D.Nodup)(e:sortA (D.map nmM)=E.map nmM):E.Nodup:=by
 have h1:(D.map nmM).Nodup:=List.Pairwise.map _ (fun a b n e=>n (nmM_inj e)) h
 have h2:=(sortA_perm (D.map nmM)).nodup_iff.mpr h1
 rw[e] at h2
 exact(List.pairwise_map.mp h2).imp fun n e=>n (by rw[e])
theorem fewU_is {us:List U}(h:szU us≤60):fewU us=some (unionOf us):=by
 unfold fewU
 rw[Nat.ble_eq_true_of_le h]
theorem uM_sub {D:List M}(h:D.Nodup)(hn:D≠ [])(tb:X→Option K):(uM D).sub tb=some (uM D):=by
 rcases uM_cases hn with⟨_,e⟩|⟨z,_,e⟩|⟨_,hl,E,e0,e1,e2,e⟩
 ·rw[e];rfl
 ·rw[e];rfl
 ·have hE:=perm_nodup h e0
  have h7:=M.few hE
  rw[uM_perm h hE fun x=>(e1 x).symm] at e⊢
  have hs:=subs_M tb E
  have hu:=usOf_M E
  have hz:=szU_M E
  rw[e]
  induction E using List.casesOn with
  |nil=>simp at e2;lia
  |cons z E=>
   show(K.subs tb ((z::E).map M.k)).bind unK=_
   rw[hs]
   show(usOf ((z::E).map M.k)).bind fewU=_
   rw[hu]
   exact(fewU_is (nT (Nat.le_of_eq hz) (lt3 h7))).trans (by rw[unionOf_M hE,e])
theorem uM_toU {D:List M}(h:D.Nodup)(hn:D≠ []):∃(u:U) (E:List M),(uM D).toU=some u∧u.ats=E.map nmM∧u.wt≤10∧(∀x∈D,∃y∈E,le x y=true):=by
 rcases uM_cases hn with⟨ha,e⟩|⟨z,e1,e⟩|⟨_,hl,E,e0,e1,e2,e⟩
 ·exact⟨.at (nmM .an),[.an],by rw[e];rfl,rfl,by decide,fun x _=>⟨.an,by simp,by induction x using M.casesOn<;>rfl⟩⟩
 ·exact⟨.at (nmM z),[z],by rw[e];rfl,rfl,by simp[U.wt],fun x hx=>⟨x,by rw[←e1];exact hx,le_refl x⟩⟩
 ·have h7:=M.few (perm_nodup h e0)
  refine⟨.un (E.map nmM),E,?_,rfl,by simp[U.wt];exact lt3 (Nat.add_le_add (Nat.le_refl 1) h7),fun x hx=>⟨x,(e1 x).mpr hx,le_refl x⟩⟩
  rw[e]
  show(atsOf (E.map M.k)).map U.un=_
  rw[atsOf_M];rfl
theorem wU_sub {D:List M}(h:D.Nodup)(hn:D≠ []){tb:X→Option K}(ht:tb .T1=some (uM D)):∃D':List M,D'.Nodup∧ .st∈D'∧(∀x∈D,∃y∈D',le x y=true)∧wUx.sub tb=some (uM D'):=by
 refine x24 (uM_toU h hn) fun u E h1 h2 h3 h4=> ?_
 refine an2 (dedM_ok (.st::E) [] .nil) fun k1 k2=> ?_
 refine⟨(M.st::E).foldl dedM [],k1,(k2 _).mpr (.inr (.head _)),fun x hx=> ?_,?_⟩
 ·refine x12 (h4 x hx) fun y hy hl=> ?_
  exact⟨y,(k2 _).mpr (.inr (.tail _ hy)),hl⟩
 ·have e1:wT.sub tb=some (uM D):=by show some ((tb .T1).getD _)=_;rw[ht];rfl
  have e2:usOf [M.st.k,uM D]=some [.at (nmM .st),u]:=by
   show(some (U.at (nmM .st))).bind (fun a=>((uM D).toU.bind fun b=>(some []).map (b:: ·)).map (a:: ·))=_
   rw[h1];rfl
  have e3:K.subs tb [M.st.k,wT]=some [M.st.k,uM D]:=by
   show(some M.st.k).bind (fun a=>((wT.sub tb).bind fun b=>(some []).map (b:: ·)).map (a:: ·))=_
   rw[e1];rfl
  show(K.subs tb [M.st.k,wT]).bind unK=_
  rw[e3]
  show(usOf [M.st.k,uM D]).bind fewU=_
  rw[e2]
  refine(fewU_is (by simp[szU,U.wt] at h3⊢;lia)).trans (congrArg some ?_)
  unfold unionOf uM
  rw[show[U.at (nmM .st),u].flatMap U.ats=(M.st::E).map nmM by rw[List.flatMap_cons,List.flatMap_cons,h2,List.flatMap_nil,List.append_nil];rfl,show([]:List At)=([]:List M).map nmM from rfl,ded_M]
theorem uM_casesOf {D:List M}(hn:D≠ [])(hd:D.length≤7):∃E:List M,casesOf (uM D)=some (E.map M.k)∧∀x∈E,x∈D:=by
 rcases uM_cases hn with⟨ha,e⟩|⟨z,e1,e⟩|⟨_,hl,E,e0,e1,e2,e⟩
 ·exact⟨[.an],by rw[e];rfl,by simpa using ha⟩
 ·exact⟨[z],by rw[e];rfl,by rw[e1];simp⟩
 ·refine⟨E,?_,fun x hx=>(e1 x).mp hx⟩
  rw[e]
  unfold casesOf
  dsimp only
  rw[if_pos]
  simp only[List.all_map,Bool.and_eq_true,List.length_map]
  refine⟨List.all_eq_true.mpr fun x _=>by rfl,by simp;exact nT (Nat.le_of_eq e2) (lt3 hd)⟩
theorem good0:Good ⟨[],0⟩∧okS ⟨[],0⟩=true:=⟨⟨by decide,rfl,rfl⟩,rfl⟩
theorem run_rs {g:G}{k:Nat}(h:Rs [g] ⟨[],0⟩ k)(hk:k≤500):∃S,m_run 4000 4000 [([g],⟨[],0⟩)]=some (some S):=by
 have:=h [] 1 (fun W=> .leaf good0.1 good0.2 (Nat.le_refl _)) []
 exact run_fd this 4000 4000 (lt3 (Nat.add_le_add (Nat.le_refl 1) hk)) (lt3 (Nat.add_le_add (Nat.le_refl 1) hk)) (by simp;lia) fun e he=>by simp at he;subst he;simp;lia
theorem sub_u {D D':List M}(hD:D.Nodup)(hD':D'.Nodup)(hn:D≠ [])(hn':D'≠ [])(h:∀x∈D,∃y∈D',le x y=true):m_sub (uM D) (uM D')=some true:=by
 have h7:=M.few hD
 have h7':=M.few hD'
 have hs:=uM_size hn (lt3 h7)
 unfold m_sub
 rw[if_pos (l_min (lt3 hs.2))]
 split
 ·rfl
 refine x12 (uM_casesOf hn h7) fun E e1 e2=> ?_
 rw[e1]
 have:∀l:List M,(∀x∈l,x∈D)→m_subs (sub1 (uM D')) (l.map M.k)=some true:=by
  intro l
  induction l with
  |nil=>intro _;rfl
  |cons x l ih=>
   intro hl
   obtain⟨S,e⟩:=run_rs (rs_u (lt3 h7') (h x (hl x (.head _)))) (by decide)
   exact ob1 e (ih fun y hy=>hl y (.tail _ hy))
 exact this E e2
noncomputable def topM (l:List M):Option M:=l.find? fun x=>l.all fun y=>le y x
noncomputable def dT (l:List M):List M:=match topM l with
 |some x=> [x]
 |none=>l
theorem tops_M (x:M):∀l:List M,topsOf x.n (l.map M.n)=some (l.map fun y=>le y x)
 | []=>rfl
 |y::l=>by
  have:topOf x.n y.n=some (le y x):=by
   unfold topOf
   by_cases h:x=y
   ·subst h;rw[if_pos rfl,le_refl]
   ·rw[if_neg fun e=>h (M.inj.mp e),sub_nn]
  exact ob2 this (tops_M x l)
theorem top_M (all:List M):∀l:List M,m_top (all.map M.n) (l.map M.n)=match l.find? (fun x=>all.all fun y=>le y x) with
  |some x=>some (some x.k)
  |none=>some (if all=[] then none else some (unionOf (all.map fun x=>U.at (nmM x))))
 | []=>by
  show some (if all.map M.n=[] then none else some (unionOf ((all.map M.n).map fun n=>U.at (.nm n))))=_
  simp only[List.find?_nil,List.map_eq_nil_iff,List.map_map]
  rfl
 |x::l=>by
  refine ob1 (tops_M x all) ?_
  have:((all.map fun y=>le y x).contains false)= !(all.all fun y=>le y x):=by
   induction all with
   |nil=>rfl
   |cons y all ih=>rw[List.map_cons,List.contains_cons,ih,List.all_cons];cases le y x<;>simp
  rw[this,List.find?_cons]
  cases all.all fun y=>le y x
  ·exact top_M all l
  ·rfl
theorem told_is {l u:List M}{ord:Nat}{up:List K}{d:Bool}(h:l.Nodup):m_told ⟨true,ord,l.map M.k,up,d⟩=some (if l=[] then none else some (uM (dT l))):=by
 have h7:=M.few h
 unfold m_told
 rw[nsOf_k,Option.bind_some,if_pos (by simp;exact lt3 h7),top_M]
 unfold dT topM
 induction e:l.find? fun x=>l.all fun y=>le y x using Option.casesOn with
 |none=>
  dsimp only
  rw[unionOf_M h]
 |some x=>
  have:=List.mem_of_find?_eq_some e
  have hne:l≠ []:=by rintro rfl;cases this
  simp only[hne,if_false]
  induction x using M.casesOn<;>rfl
theorem dT_ok {l:List M}(h:l.Nodup)(hn:l≠ []):(dT l).Nodup∧dT l≠ []∧(∀x∈dT l,x∈l)∧∀x∈l,∃y∈dT l,le x y=true:=by
 unfold dT topM
 induction e:l.find? fun x=>l.all fun y=>le y x using Option.casesOn with
 |none=>exact⟨h,hn,fun _ h=>h,fun x hx=>⟨x,hx,le_refl x⟩⟩
 |some x=>
  have h1:=List.mem_of_find?_eq_some e
  have h2:=List.find?_some e
  exact⟨by simp,by simp,by simpa using h1,fun y hy=>⟨x,by simp,all_ge.mp h2 y hy⟩⟩
theorem dT_top {l:List M}{x:M}(h:x∈l)(ht:∀y∈l,le y x=true):dT l=[x]:=by
 unfold dT topM
 induction e:l.find? fun x=>l.all fun y=>le y x using Option.casesOn with
 |none=>
  have:=List.find?_eq_none.mp e x h
  exact absurd (all_ge.mpr ht) this
 |some z=>
  have h1:=List.mem_of_find?_eq_some e
  have h2:=List.find?_some e
  rw[le_anti (ht z h1) (all_ge.mp h2 x h)]
theorem uM_one (x:M):uM [x]=x.k:=by induction x using M.casesOn<;>rfl
theorem Rs.first {g:G}{S:Ss}{v:List G}{vs:Wys}{k:Nat}(e:m_step g S=some (v::vs,S))(hv:∀u∈v::vs,u.length≤10)(hl:vs.length≤10)(h:Rs v.reverse S k):Rs [g] S (k+1):=fun st c hc W=>
 .step e hv hl (h st c hc _)
structure Tld (a:A)(KT KS KU:K):Prop where
 t:a.tl≠ []→KT=uM (dT a.tl)
 s:a.sl≠ []→KS=uM (dT a.sl)
 u:(a.tl≠ []∧∃D':List M,D'.Nodup∧ .st∈D'∧(∀x∈dT a.tl,∃y∈D',le x y=true)∧KU=uM D')∨(a.tl=[]∧(KU=vU∨KU=wUx))
 f:(K.tup [KT,KS]).fits=true
section
variable {b:Bool}{a:A}{KT KS KU:K}{S:Ss}{q:Pt}
theorem Clz.topT (h:Clz b a){x:M}(hx:x= .an∨x∈a.tu):∀y∈a.tl,le y x=true:=fun y hy=>by
 rcases hx with rfl|hx
 ·induction y using M.casesOn<;>rfl
 ·exact h.tt y hy x hx
theorem Clz.topS (h:Clz b a){x:M}(hx:x= .an∨x∈a.su):∀y∈a.sl,le y x=true:=fun y hy=>by
 rcases hx with rfl|hx
 ·induction y using M.casesOn<;>rfl
 ·exact h.ss y hy x hx
theorem ne_of {x:M}{l:List M}(h:x∈l):l≠ []:=by rintro rfl;cases h
theorem Tld.one_t (h:Clz b a)(H:Tld a KT KS KU){x:M}(h1:x∈a.tl)(h2:x= .an∨x∈a.tu):KT=x.k:=by
 rw[H.t (ne_of h1),dT_top h1 (h.topT h2),uM_one]
theorem Tld.one_s (h:Clz b a)(H:Tld a KT KS KU){x:M}(h1:x∈a.sl)(h2:x= .an∨x∈a.su):KS=x.k:=by
 rw[H.s (ne_of h1),dT_top h1 (h.topS h2),uM_one]
theorem rs_t (h:Clz b a)(H:Tld a KT KS KU){l:M}(hl:l∈a.tl):Rs [⟨false,l.k,KT⟩] S 9:=by
 refine an4 (dT_ok h.nd.tl (ne_of hl)) fun k1 k2 k3 k4=> ?_
 rw[H.t (ne_of hl)]
 exact rs_u (Nat.le_succ_of_le (M.few k1)) (k4 l hl)
theorem rs_s (h:Clz b a)(H:Tld a KT KS KU){l:M}(hl:l∈a.sl):Rs [⟨false,l.k,KS⟩] S 9:=by
 refine an4 (dT_ok h.nd.sl (ne_of hl)) fun k1 k2 k3 k4=> ?_
 rw[H.s (ne_of hl)]
 exact rs_u (Nat.le_succ_of_le (M.few k1)) (k4 l hl)
theorem st_unw {x:M}:m_step ⟨false,x.k,wUx⟩ S=some ([[⟨false,x.k,M.st.k⟩],[⟨false,x.k,wT⟩]],S):=by induction x using M.casesOn<;>rfl
theorem Pt.rs (h:Clz b a)(H:Tld a KT KS KU):∀{q:Pt},q.post a→Rs [⟨false,q.k,q.p KT KS KU⟩] S 30
 | .t _,z=>(rs_t h H z).le (by decide)
 | .s _,z=>(rs_s h H z).le (by decide)
 | .at x,z=>by
  rw[Pt.p,Pt.k,H.one_t h z.1 z.2]
  exact(rs_eq rfl).le (by decide)
 | .as x,z=>by
  rw[Pt.p,Pt.k,H.one_s h z.1 z.2]
  exact(rs_eq rfl).le (by decide)
 | .aat x,z=>by
  rw[Pt.p,Pt.k,H.one_t h z.1 z.2]
  exact(rs_eq rfl).le (by decide)
 | .ys x,z=>by
  rw[Pt.p,Pt.k,H.one_s h z.1 z.2]
  exact(rs_eq rfl).le (by decide)
 | .ts l l',z=>by
  show Rs [⟨false,.tup [l.k,l'.k],.tup [KT,KS]⟩] S 30
  by_cases e: [l.k,l'.k]=[KT,KS]
  ·rw[←e]
   exact(rs_eq rfl).le (by decide)
  ·exact(Rs.one (st_tup S rfl H.f e rfl rfl) (by simp[zipG]) (Rs.cons (rs_s h H z.2) (rs_t h H z.1))).le (by decide)
 | .un l,z=>by
  show Rs [⟨false,l.k,KU⟩] S 30
  rcases H.u with⟨hn,D',d1,d2,d3,rfl⟩|⟨hn,hu⟩
  ·refine(rs_u (Nat.le_succ_of_le (M.few d1)) ?_).le (by decide)
   rcases z with z|z
   ·exact⟨_,d2,z⟩
   ·refine x12 ((dT_ok h.nd.tl hn).2.2.2 l z) fun y y1 y2=> ?_
    refine x12 (d3 y y1) fun y' z1 z2=> ?_
    exact⟨y',z1,le_trans y2 z2⟩
  ·have z:le l .st=true:=z.elim id fun z=>absurd hn (ne_of z)
   rcases hu with rfl|rfl
   ·exact(Rs.first st_un (by simp) (by simp) (rs_n z)).le (by decide)
   ·exact(Rs.first st_unw (by simp) (by simp) (rs_n z)).le (by decide)
 | .ii,_=>(rs_n (a:= .i6) (b:= .ig) rfl).le (by decide)
 | .ib,_=>(rs_n (a:= .bo) (b:= .ig) rfl).le (by decide)
theorem rs_list {f g:Pt→K}{k:Nat}:∀{l:List Pt},(∀q∈l,Rs [⟨false,f q,g q⟩] S k)→Rs (l.map fun q=>⟨false,f q,g q⟩) S (l.length * k)
 | [],_=>Rs.nil.le (by simp)
 |q::l,h=>((h q (.head _)).cons (rs_list fun q hq=>h q (.tail _ hq))).le (by rw[List.length_cons,Nat.succ_mul];lia)
theorem rs_tup {pts:List Pt}(h3:pts.length≤3)(hf:(psK KT KS KU pts).fits=true)(h:∀q∈pts,Rs [⟨false,q.k,q.p KT KS KU⟩] S 30):Rs [⟨false,.tup (pts.map Pt.k),psK KT KS KU pts⟩] S 91:=by
 by_cases e:pts.map Pt.k=pts.map (Pt.p KT KS KU)
 ·unfold psK at hf⊢
  rw[←e] at hf⊢
  exact(rs_eq hf).le (by decide)
 ·have s:=st_tup S (ks_fits h3) hf e (k_emps pts) (by simp)
  rw[zipG_map] at s
  have:=rs_list (l:=pts.reverse) fun q hq=>h q (List.mem_reverse.mp hq)
  rw[List.map_reverse] at this
  refine Rs.one s (by simp;exact lt3 h3) (this.le ?_)
  rw[List.length_reverse];lia
theorem sub_tup {pts:List Pt}(h3:pts.length≤3){k:K}(h:∃S,sub1 k (.tup (pts.map Pt.k))=some (some S)):m_sub (.tup (pts.map Pt.k)) k=some true:=by
 have k1:(K.tup (pts.map Pt.k)).dp≤4:=tup_dp Pt.k_dp pts
 refine x11 h fun S e=> ?_;clear h
 unfold m_sub
 rw[if_pos (l_min (lt3 k1))]
 split
 ·rfl
 ·rw[ks_cases h3]
  exact ob1 e rfl
end
noncomputable def Nf (x:X) (k:K):Prop:=∀acc,x∉acc→x∉k.fv [] acc
theorem nf_fvs {x:X}:∀{l:List K},(∀k∈l,Nf x k)→∀acc,x∉acc→x∉K.fvs [] l acc
 | [],_,acc,h=>h
 |k::l,hk,acc,h=>nf_fvs (fun k hk'=>hk k (.tail _ hk')) (k.fv [] acc) (hk k (.head _) acc h)
theorem nf_name {x:X}{n:N}{l:List K}(h:∀k∈l,Nf x k):Nf x (.name n l):=fun acc ha=>nf_fvs h acc ha
theorem nf_tup {x:X}{l:List K}(h:∀k∈l,Nf x k):Nf x (.tup l):=fun acc ha=>nf_fvs h acc ha
theorem nf_union {x:X}{l:List K}(h:∀k∈l,Nf x k):Nf x (.union l):=fun acc ha=>nf_fvs h acc ha
theorem nf_k (x:X)(y:M):Nf x y.k:=nf_name (by simp)
theorem nf_var {x y:X}(h:x≠y):Nf x (.var y):=fun acc ha=>by
 show x∉(if _ then acc else acc++ [y])
 split
 ·exact ha
 ·simp[ha,h]
theorem nf_num {x:X}(i:Int):Nf x (.num i):=fun acc ha=>ha
theorem nf_list {x:X}{k:K}(h:Nf x k):Nf x (listK k):=nf_name fun k' hk=>by
 simp at hk;rcases hk with rfl|rfl
 ·exact h
 ·exact nf_num 1
theorem nf_uM (x:X){D:List M}(hn:D≠ []):Nf x (uM D):=by
 rcases uM_cases hn with⟨ha,e⟩|⟨z,e1,e⟩|⟨_,hl,E,e0,e1,e2,e⟩
 ·rw[e];exact nf_k x .an
 ·rw[e];exact nf_k x z
 ·rw[e]
  refine nf_union fun k hk=> ?_
  refine x12 (List.mem_map.mp hk) fun y _ z1=> ?_;subst z1
  exact nf_k x y
theorem Pt.nf {a:A}{KT KS KU:K}(h:a.sl=[])(hT:Nf .S2 KT)(hU:Nf .S2 KU):∀{q:Pt},q.post a→Nf .S2 (q.p KT KS KU)
 | .t _,_=>hT
 | .at _,_=>nf_list hT
 | .aat _,_=>nf_list (nf_list hT)
 | .un _,_=>hU
 | .ii,_=>nf_k _ .ig
 | .ib,_=>nf_k _ .ig
 | .is,_=>nf_k _ .ig
 | .s _,z=>absurd h (ne_of z)
 | .as _,z=>absurd h (ne_of z.1)
 | .ys _,z=>absurd h (ne_of z.1)
 | .ts _ _,z=>absurd h (ne_of z.2)
theorem closed_nil {k:K}(h:∀x:X,Nf x k):∀lf:Bnds,closedK lf k=k
 | []=>rfl
 |p::lf=>by
  show closeK p (closedK lf k)=k
  rw[closed_nil h lf]
  unfold closeK
  rw[if_neg (h p.1 [] (by simp))]
noncomputable def tabA (a:A):XTb:=(if a.tl=[] then[] else[(.T1,uM (dT a.tl))])++(if a.sl=[] then[] else[(.S2,uM (dT a.sl))])
noncomputable def KTa (a:A):K:=if a.tl=[] then wT else uM (dT a.tl)
noncomputable def KSa (a:A):K:=if a.sl=[] then wSx else uM (dT a.sl)
theorem mt_none {S:Ss}{x y:X}{l:List (X×X)}{acc:XTb}{s:Sd}(h1:rget S.rows y=some s)(h2:m_told s=some none):m_table S ((x,y)::l) acc=m_table S l acc:=by
 refine(congrArg (fun z=>Option.bind z _) h1).trans ?_
 exact(congrArg (fun z=>Option.bind z _) h2).trans rfl
theorem mt_some {S:Ss}{x y:X}{l:List (X×X)}{acc:XTb}{s:Sd}{k:K}(h1:rget S.rows y=some s)(h2:m_told s=some (some k))(h:x∉acc.map (·.1)):m_table S ((x,y)::l) acc=m_table S l (acc++ [(x,k)]):=by
 refine(congrArg (fun z=>Option.bind z _) h1).trans ?_
 exact(congrArg (fun z=>Option.bind z _) h2).trans (if_neg h)
theorem table_is {p:Pm}{a:A}(h:Nd a):m_table (enc p a) [(.T1,.T1a),(.S2,.S2b)] []=some (tabA a):=by
 have e1:m_told (sdT a.tl a.tu p.t)=_:=told_is (u:=a.tu) h.tl
 have e2:m_told (sdS p.b a.sl a.su p.s)=_:=told_is (u:=a.su) h.sl
 have last:∀(acc:XTb),.S2∉acc.map (·.1)→m_table (enc p a) [(.S2,.S2b)] acc=some (acc++(if a.sl=[] then[] else[(.S2,uM (dT a.sl))])):=by
  intro acc hacc
  by_cases hs:a.sl=[]
  ·rw[if_pos hs] at e2⊢
   exact(mt_none rfl e2).trans (by rw[List.append_nil];rfl)
  ·rw[if_neg hs] at e2⊢
   exact(mt_some rfl e2 hacc).trans rfl
 unfold tabA
 by_cases ht:a.tl=[]
 ·rw[if_pos ht] at e1⊢;exact(mt_none rfl e1).trans (last [] (by simp))
 ·rw[if_neg ht] at e1⊢
  exact(mt_some rfl e1 (by simp)).trans (last _ (by simp))
section
variable {a:A}
theorem tb_T:tbK (tabA a) .T1=if a.tl=[] then none else some (uM (dT a.tl)):=by
 unfold tabA tbK
 by_cases h:a.tl=[]<;>by_cases h':a.sl=[]<;>simp[h,h']
theorem tb_S:tbK (tabA a) .S2=if a.sl=[] then none else some (uM (dT a.sl)):=by
 unfold tabA tbK
 by_cases h:a.tl=[]<;>by_cases h':a.sl=[]<;>simp[h,h']<;>rfl
theorem sub_T:wT.sub (tbK (tabA a))=some (KTa a):=by
 show some ((tbK (tabA a) .T1).getD wT)=_
 rw[tb_T,KTa];split<;>rfl
theorem sub_S:wSx.sub (tbK (tabA a))=some (KSa a):=by
 show some ((tbK (tabA a) .S2).getD wSx)=_
 rw[tb_S,KSa];split<;>rfl
theorem dT_size {l:List M}(h:l.Nodup)(hn:l≠ []):(uM (dT l)).sz≤9∧(uM (dT l)).dp≤2:=by
 refine an4 (dT_ok h hn) fun k1 k2 _ _=> ?_
 exact uM_size k2 (Nat.le_succ_of_le (M.few k1))
theorem KTa_size (h:Nd a):(KTa a).sz≤9∧(KTa a).dp≤2:=by
 unfold KTa;split
 ·decide
 ·exact dT_size h.tl (by assumption)
theorem KSa_size (h:Nd a):(KSa a).sz≤9∧(KSa a).dp≤2:=by
 unfold KSa;split
 ·decide
 ·exact dT_size h.sl (by assumption)
theorem KU_ex (h:Nd a):∃KU,wUx.sub (tbK (tabA a))=some KU∧(KU.sz≤9∧KU.dp≤2)∧Nf .S2 KU∧((a.tl≠ []∧∃D':List M,D'.Nodup∧ .st∈D'∧(∀x∈dT a.tl,∃y∈D',le x y=true)∧KU=uM D')∨(a.tl=[]∧KU=wUx)):=by
 by_cases ht:a.tl=[]
 ·refine⟨wUx,?_,by decide,?_,.inr ⟨ht,rfl⟩⟩
  ·show((some M.st.k).bind fun k'=>((wT.sub (tbK (tabA a))).bind fun b=>(some []).map (b:: ·)).map (k':: ·)).bind unK=_
   rw[sub_T,KTa,if_pos ht];rfl
  ·exact nf_union fun k hk=>by
    simp at hk;rcases hk with rfl|rfl
    ·exact nf_k _ .st
    ·exact nf_var (by decide)
 ·refine an4 (dT_ok h.tl ht) fun k1 k2 _ _=> ?_
  obtain⟨D',d1,d2,d3,d4⟩:=wU_sub k1 k2 (tb:=tbK (tabA a)) (by rw[tb_T,if_neg ht])
  exact⟨_,d4,uM_size (ne_of d2) (Nat.le_succ_of_le (M.few d1)),nf_uM _ (ne_of d2),.inl ⟨ht,D',d1,d2,d3,rfl⟩⟩
theorem pair_fits (h:Nd a){KT:K}(h1:KT.sz≤9∧KT.dp≤2):(K.tup [KT,KSa a]).fits=true:=by
 have:=KSa_size h
 refine fits_of ?_ ?_
 ·exact nT (Nat.succ_le_succ (Nat.add_le_add h1.1 this.1)) (by decide)
 ·exact Nat.succ_le_succ (mx (lt3 h1.2:_≤9) (mx (lt3 this.2) (Nat.zero_le _)))
theorem ps9_fits {KT KS KU:K}{pts:List Pt}(h1:KT.sz≤9∧KT.dp≤2)(h2:KS.sz≤9∧KS.dp≤2)(h3:KU.sz≤9∧KU.dp≤2)(hl:pts.length≤3):(psK KT KS KU pts).sz≤67∧(psK KT KS KU pts).dp≤5:=
 ⟨nT (tup_sz (Pt.p_sz h1.1 h2.1 h3.1) hl) (by decide),nT (tup_dp (Pt.p_dp h1.2 h2.2 h3.2 (by decide)) pts) (by decide)⟩
theorem KSa_sub (h:Nd a){x:X}{k:K}(hx:x≠ .S2):(KSa a).sub (one x k)=some (KSa a):=by
 unfold KSa;split
 ·exact congrArg (fun z=>some (Option.getD z _)) (if_neg hx.symm)
 ·obtain⟨k1,k2,_,_⟩:=dT_ok h.sl (by assumption)
  exact uM_sub k1 k2 _
theorem occs_ex {x:X}:∀l:List M,∃o,K.occs x (l.map M.k)=some o∧o.length=l.length
 | []=>⟨[],rfl,rfl⟩
 |y::l=>by
  refine x12 (occs_ex (x:=x) l) fun o e hl=> ?_
  exact⟨_::o,ob2 rfl e,congrArg (·+1) hl⟩
theorem KSa_occ (h:Nd a)(x:X):∃o,(KSa a).occ x=some o:=by
 unfold KSa;split
 ·exact⟨_,rfl⟩
 ·obtain⟨k1,k2,_,_⟩:=dT_ok h.sl (by assumption)
  rcases uM_cases k2 with⟨ha,e⟩|⟨z,e1,e⟩|⟨_,hl,E,e0,e1,e2,e⟩
  ·rw[e];exact⟨_,rfl⟩
  ·rw[e];exact⟨_,rfl⟩
  ·rw[e]
   refine x12 (occs_ex (x:=x) E) fun o ho hlen=> ?_
   induction E using List.casesOn with
   |nil=>simp at e2;lia
   |cons z E=>
    induction o using List.casesOn with
    |nil=>cases hlen
    |cons p o=>exact⟨_,by show(K.occs x ((z::E).map M.k)).bind occU=_;rw[ho];rfl⟩
theorem occ_all {f:Pt→K}{x:X}(h:∀q,∃o,(f q).occ x=some o):∀l:List Pt,∃o,K.occs x (l.map f)=some o
 | []=>⟨[],rfl⟩
 |q::l=>by
  refine x11 (h q) fun o e=> ?_
  refine x11 (occ_all h l) fun os e'=> ?_
  exact⟨_,ob2 e e'⟩
theorem diag_ex (h:Nd a)(pts:List Pt):∃dg,(psK wT (KSa a) wUx pts).diag .T1=some dg:=by
 refine x11 (KSa_occ h .T1) fun o e=> ?_
 have:∀q:Pt,∃o,(q.p wT (KSa a) wUx).occ .T1=some o:=by
  intro q
  induction q using Pt.casesOn with
  |s _=>exact⟨_,e⟩
  |ts _ _=>exact⟨_,by show((some (1,false)).bind fun p=>(((KSa a).occ .T1).bind fun q=>(some []).map (q:: ·)).map (p:: ·)).map occT=_;rw[e];rfl⟩
  |_=>exact⟨_,rfl⟩
 refine x11 (occ_all this pts) fun os e'=> ?_
 exact⟨_,by show((K.occs .T1 (pts.map (Pt.p wT (KSa a) wUx))).map occT).map (fun p=>decide (p.1>1)&& !p.2)=_;rw[e'];rfl⟩
end
theorem told_body {b:Bool}{a:A}{pts:List Pt}{u:M}{KU:K}(h:Clz b a)(h3:pts.length≤3)(hp:∀q∈pts,q.post a)(hu:(KU.sz≤9∧KU.dp≤2))(hU:(a.tl≠ []∧∃D':List M,D'.Nodup∧ .st∈D'∧(∀x∈dT a.tl,∃y∈D',le x y=true)∧KU=uM D')∨(a.tl=[]∧KU=wUx)):
  m_sub (.tup (pts.map Pt.k)) (psK (KTa a) (KSa a) KU pts)=some true∧(a.tl=[]→m_sub (.tup (pts.map Pt.k)) (.all .T1 .bot u.k (psK (KTa a) (KSa a) KU pts))=some true):=by
 have z1:=KTa_size h.nd
 have z2:=KSa_size h.nd
 have H:Tld a (KTa a) (KSa a) KU:=⟨fun n=>if_neg n,fun n=>if_neg n,hU.imp id fun x=>⟨x.1,.inr x.2⟩,pair_fits h.nd z1⟩
 have f1:=ps9_fits z1 z2 hu h3
 refine⟨sub_tup h3 (run_rs (rs_tup h3 (fits_of (lt3 f1.1) (lt3 f1.2)) fun q hq=>Pt.rs h H (hp q hq)) (by decide)),fun ht=>sub_tup h3 ?_⟩
 have e:KU=wUx:=hU.elim (fun x=>absurd ht x.1) (·.2)
 subst e
 rw[KTa,if_pos ht] at f1⊢
 have f2:=ps9_fits (KT:=vT) (KU:=vU) (pts:=pts) (by decide) z2 (by decide) h3
 refine x11 (diag_ex h.nd pts) fun dg hd=> ?_
 have hs:(psK wT (KSa a) wUx pts).sub (one .T1 vT)=some (psK vT (KSa a) vU pts):=Pt.tsub rfl (KSa_sub h.nd (by decide)) rfl _
 have uk:=uk1 u
 have s1:=st_open (ks:=pts.map Pt.k) (y:= .T1) (lo:= .bot) (up:=u.k) (bd:=psK wT (KSa a) wUx pts) (S:=⟨[],0⟩) (ks_fits h3) (fits_of (nT (all_sz (Nat.le_refl 1) uk.1 f1.1) (by decide)) (nT (all_dp (n:=5) (by decide) (nT uk.2 (by decide)) f1.2) (by decide))) (k_emps pts)
 rw[m_open_eq (f:= .T1a) rfl hd hs (by decide)] at s1
 have H':Tld a vT (KSa a) vU:=⟨fun n=>absurd ht n,fun n=>if_neg n,.inr ⟨ht,.inl rfl⟩,pair_fits h.nd (by decide)⟩
 have hr:Rs [⟨false,.tup (pts.map Pt.k),psK vT (KSa a) vU pts⟩] ⟨[(.T1a,sdOf true 1 .bot u.k dg)],1⟩ 91:=rs_tup h3 (fits_of (lt3 f2.1) (lt3 f2.2)) fun q hq=>Pt.rs h H' (hp q hq)
 have g1:Good ⟨[(.T1a,sdOf true 1 .bot u.k dg)],1⟩∧okS ⟨[(.T1a,sdOf true 1 .bot u.k dg)],1⟩=true:=by
  induction u using M.casesOn<;>cases dg<;>exact⟨⟨by decide,rfl,rfl⟩,rfl⟩
 have hf:Fd [([⟨false,.tup (pts.map Pt.k),.all .T1 .bot u.k (psK wT (KSa a) wUx pts)⟩],⟨[],0⟩)] 93:=
  .step s1 (by simp) (by simp) (hr [] 1 (fun W=> .leaf g1.1 g1.2 (Nat.le_refl _)) [])
 exact run_fd hf 4000 4000 (by decide) (by decide) (by simp) fun e he=>by simp at he;subst he;simp
noncomputable def lfA (a:A) (u:M) (c:Bk):Bnds:=(if a.tl=[] then[(.T1,.bot,u.k)] else[])++(if a.sl=[] then[(.S2,.bot,c.k (KTa a))] else[])
section
variable {a:A}{u:M}{c:Bk}{pts:List Pt}
theorem uk_sub (u:M)(tb:X→Option K):u.k.sub tb=some u.k:=rfl
theorem lf_some {t:XTb}{p:X×K×K}{r:Bnds}{k:K}(h:tbK t p.1=some k):m_left t (p::r)=m_left t r:=congrArg (fun z=>Option.elim z _ _) h
theorem lf_none {t:XTb}{p:X×K×K}{r l:Bnds}{k:K}(h:tbK t p.1=none)(hu:p.2.2.sub (tbK t)=some k)(hl:m_left t r=some l):m_left t (p::r)=some ((p.1,p.2.1,k)::l):=by
 exact(congrArg (fun z=>Option.elim z _ _) h).trans (ob2 hu hl)
theorem me_none {t:XTb}{lf:Bnds}{p:X×K×K}{r:Bnds}(h:tbK t p.1=none):m_each t lf (p::r)=m_each t lf r:=congrArg (fun z=>Option.elim z _ _) h
theorem me_some {t:XTb}{lf:Bnds}{p:X×K×K}{r:Bnds}{k u:K}(h:tbK t p.1=some k)(hu:p.2.2.sub (tbK t)=some u)(hs:m_sub k (closedK lf u)=some true):m_each t lf (p::r)=m_each t lf r:=by
 exact(congrArg (fun z=>Option.elim z _ _) h).trans (ob1 hu (ob1 hs rfl))
theorem left_is:m_left (tabA a) (bndsK u.k (c.k wT))=some (lfA a u c):=by
 have e1:=tb_T (a:=a)
 have e2:=tb_S (a:=a)
 have e3:(c.k wT).sub (tbK (tabA a))=some (c.k (KTa a)):=Bk.sub sub_T c
 have last:m_left (tabA a) [(.S2,.bot,c.k wT)]=some (if a.sl=[] then[(.S2,.bot,c.k (KTa a))] else[]):=by
  by_cases hs:a.sl=[]
  ·rw[if_pos hs] at e2⊢;exact lf_none e2 e3 rfl
  ·rw[if_neg hs] at e2⊢;exact(lf_some e2).trans rfl
 unfold bndsK lfA
 by_cases ht:a.tl=[]
 ·rw[if_pos ht] at e1⊢;exact lf_none e1 (uk_sub u _) last
 ·rw[if_neg ht] at e1⊢;exact(lf_some e1).trans last
theorem ck_size (h:Nd a):(c.k (KTa a)).sz≤9:=by
 have:=KTa_size h
 induction c using Bk.casesOn<;>first|exact this.1|exact Nat.le_of_ble_eq_true rfl
theorem lf_size (h:Nd a):szB (lfA a u c)≤20:=by
 have h1:=(uk1 u).1
 have h2:=ck_size (c:=c) h
 have e:szB [((.T1:X),K.bot,u.k)]≤3:=Nat.succ_le_succ (Nat.add_le_add_left h1 1)
 have e':szB [((.S2:X),K.bot,c.k (KTa a))]≤11:=Nat.succ_le_succ (Nat.add_le_add_left h2 1)
 have sm:∀{n:Nat} {p:Prop} [Decidable p] {l:List (X×K×K)},szB l≤n→szB (if p then l else[])≤n:=fun {n p} _ {l} h=>by
  by_cases hp:p
  ·rw[if_pos hp];exact h
  ·rw[if_neg hp];exact Nat.zero_le _
 have ap:∀l m:List (X×K×K),szB (l++m)=szB l+szB m:=fun l m=>by unfold szB;rw[List.map_append,List.sum_append]
 rw[lfA,ap]
 exact nT (Nat.add_le_add (sm e) (sm e')) (by decide)
theorem nf_KTa (h:Nd a)(hx:a.tl≠ [])(x:X):Nf x (KTa a):=by
 rw[KTa,if_neg hx];exact nf_uM x (dT_ok h.tl hx).2.1
set_option tactic.hygienic true in
theorem told_right {b:Bool}(h:Clz b a)(hb:b=c.isT)(hg:Ge (a0 u c) a)(h3:pts.length≤3)(hp:∀q∈pts,q.post a):m_told_right (.tup (pts.map Pt.k)) (bndsK u.k (c.k wT)) (psK wT wSx wUx pts) (tabA a)=some true:=by
 refine x14 (KU_ex h.nd) fun KU u1 u2 u3 u4=> ?_
 refine an2 (told_body (u:=u) h h3 hp u2 u4) fun t1 t2=> ?_
 have f0:=psK_fits (pts:=pts) (T:=wT) (S:=wSx) (U:=wUx) (by decide) (by decide) (by decide) (by decide) (by decide) (by decide) h3
 have f1:=ps9_fits (pts:=pts) (KTa_size h.nd) (KSa_size h.nd) u2 h3
 have fl:=lf_size (u:=u) (c:=c) h.nd
 have fc:=ck_size (c:=c) h.nd
 have fu:=uk1 u
 have hck:=c.k_sz (T:=wT) (by decide)
 have hcd:=c.k_dp (T:=wT) (by decide)
 have es:(psK wT wSx wUx pts).sub (tbK (tabA a))=some (psK (KTa a) (KSa a) KU pts):=Pt.tsub sub_T sub_S u1 pts
 have ec:(c.k wT).sub (tbK (tabA a))=some (c.k (KTa a)):=Bk.sub sub_T c
 unfold m_told_right
 have hl:(tabA a).length≤2:=by unfold tabA;split<;>split<;>simp
 rw[if_pos (by simp[bndsOk,bndsK];exact⟨⟨⟨⟨⟨(lt3 fu.2),(lt3 fu.1)⟩,⟨(lt3 hcd),(lt3 hck)⟩⟩,(lt3 f0.2)⟩,(lt3 f0.1)⟩,(lt3 hl)⟩),left_is,Option.bind_some,es,Option.bind_some,if_pos ⟨(lt3 (Nat.add_le_add fl f1.1)),by simp[bndsK,upFew,uk_sub,ec];exact⟨(lt3 (Nat.add_le_add fl fu.1)),(lt3 (Nat.add_le_add fl fc))⟩⟩]
 have hbody:m_sub (.tup (pts.map Pt.k)) (closedK (lfA a u c) (psK (KTa a) (KSa a) KU pts))=some true:=by
  have hS:closedK (if a.sl=[] then[((.S2:X),K.bot,c.k (KTa a))] else[]) (psK (KTa a) (KSa a) KU pts)=psK (KTa a) (KSa a) KU pts:=by
   split
   ·rename_i hs
    show closeK _ (psK (KTa a) (KSa a) KU pts)=_
    unfold closeK
    rw[if_neg]
    refine nf_tup (fun k hk=> ?_) [] (by simp)
    refine x12 (List.mem_map.mp hk) fun q hq z1=> ?_;subst z1
    refine Pt.nf hs ?_ u3 (hp q hq)
    by_cases ht:a.tl=[]
    ·rw[KTa,if_pos ht];exact nf_var (by decide)
    ·exact nf_KTa h.nd ht _
   ·rfl
  have e:closedK (lfA a u c) (psK (KTa a) (KSa a) KU pts)=closedK (if a.tl=[] then[((.T1:X),K.bot,u.k)] else[]) (psK (KTa a) (KSa a) KU pts):=by
   unfold lfA
   conv=>lhs;unfold closedK
   rw[List.foldr_append]
   unfold closedK at hS
   rw[hS];rfl
  rw[e]
  split
  ·rename_i ht
   show m_sub _ (closeK _ (psK (KTa a) (KSa a) KU pts))=_
   unfold closeK
   split
   ·exact t2 ht
   ·exact t1
  ·exact t1
 rw[hbody]
 show m_each (tabA a) (lfA a u c) (bndsK u.k (c.k wT))=_
 have hS:m_each (tabA a) (lfA a u c) [(.S2,.bot,c.k wT)]=some true:=by
  have e2:=tb_S (a:=a)
  by_cases hs:a.sl=[]
  ·rw[if_pos hs] at e2;exact(me_none e2).trans rfl
  ·rw[if_neg hs] at e2
   refine an4 (dT_ok h.nd.sl hs) fun s1 s2 s3 s4=> ?_
   have:m_sub (uM (dT a.sl)) (closedK (lfA a u c) (c.k (KTa a)))=some true:=by
    induction c using Bk.casesOn with
    |an=>
     show m_sub _ (closedK _ M.an.k)=_
     rw[closed_nil (fun x=>nf_k x .an),←uM_one]
     exact sub_u s1 (by simp) s2 (by simp) fun x _=>⟨.an,by simp,by induction x using M.casesOn<;>rfl⟩
    |ig=>
     show m_sub _ (closedK _ M.ig.k)=_
     rw[closed_nil (fun x=>nf_k x .ig),←uM_one]
     exact sub_u s1 (by simp) s2 (by simp) fun x hx=>⟨.ig,by simp,h.ss x (s3 x hx) .ig (hg.su .ig (.head _))⟩
    |t=>
     have hbt:b=true:=hb
     refine x11 (List.exists_mem_of_ne_nil _ hs) fun y hy=> ?_
     have ht:=ne_of (h.bb hbt y hy)
     refine an4 (dT_ok h.nd.tl ht) fun k1 k2 k3 k4=> ?_
     show m_sub _ (closedK _ (KTa a))=_
     rw[closed_nil (fun x=>nf_KTa h.nd ht x),KTa,if_neg ht]
     exact sub_u s1 k1 s2 k2 fun x hx=>k4 x (h.bb hbt x (s3 x hx))
   exact(me_some e2 ec this).trans rfl
 unfold bndsK
 have e1:=tb_T (a:=a)
 by_cases ht:a.tl=[]
 ·rw[if_pos ht] at e1;exact(me_none e1).trans hS
 ·rw[if_neg ht] at e1
  refine an4 (dT_ok h.nd.tl ht) fun k1 k2 k3 k4=> ?_
  have:m_sub (uM (dT a.tl)) (closedK (lfA a u c) u.k)=some true:=by
   rw[closed_nil (fun x=>nf_k x u),←uM_one]
   refine sub_u k1 (by simp) k2 (by simp) fun x hx=>⟨u,by simp,?_⟩
   by_cases hu:u= .an
   ·subst hu;induction x using M.casesOn<;>rfl
   ·exact h.tt x (k3 x hx) u (hg.tu u (by simp[a0,hu]))
  exact(me_some e1 (uk_sub u _) this).trans hS
end
noncomputable def dU (x:M):List M:=if x= .st then[.st] else[.st,x]
noncomputable abbrev e0 (_:Unit):Ss:=⟨[],0⟩
noncomputable def Yes (gs:List G) (o:Bool) (k r:Nat):Prop:=∃os:List Unit,Ct e0 gs (e0 ()) os k r∧(os≠ []↔o=true)
section
variable {gs gs':List G}{g:G}{o o':Bool}{k r k' r':Nat}
theorem Yes.cons (h:Yes [g] o k r)(h':Yes gs o' k' r'):Yes (g::gs) (o&&o') (k+r * k') (r * r'):=by
 refine x12 h fun os h1 h2=> ?_
 refine x12 h' fun os' h1' h2'=> ?_
 refine⟨os.flatMap fun _=>os',h1.cons fun _ _=>h1',?_⟩
 rw[Bool.and_eq_true,←h2,←h2']
 induction os using List.casesOn<;>cases os'<;>simp
theorem Yes.le (h:Yes gs o k r)(hk:k≤k')(hr:r≤r'):Yes gs o k' r':=by
 refine x12 h fun os h1 h2=> ?_
 exact⟨os,h1.le hk hr,h2⟩
theorem Yes.nil:Yes [] true 0 1:=⟨[()],.nil,by simp⟩
theorem Yes.one {v:List G}(e:m_step g ⟨[],0⟩=some ([v],⟨[],0⟩))(hv:v.length≤10)(h:Yes v.reverse o k r):Yes [g] o (k+1) r:=by
 refine x12 h fun os h1 h2=> ?_
 exact⟨os,Ct.one e hv h1,h2⟩
theorem Yes.two {u v:List G}(e:m_step g ⟨[],0⟩=some ([u,v],⟨[],0⟩))(hu:u.length≤10)(hv:v.length≤10)(h:Yes u.reverse o k r)(h':Yes v.reverse o' k' r'):Yes [g] (o||o') (k+k'+1) (r+r'):=by
 refine x12 h fun os h1 h2=> ?_
 refine x12 h' fun os' h1' h2'=> ?_
 refine⟨os++os',?_,?_⟩
 ·have:=Ct.ways e (by simp[hu,hv]) (.cons h1 (.cons h1' .nil))
  rw[List.append_nil] at this
  exact this.le (by lia) (by lia)
 ·rw[Bool.or_eq_true,←h2,←h2']
  induction os using List.casesOn<;>cases os'<;>simp
theorem Yes.skip (e:m_step g ⟨[],0⟩=some ([[]],⟨[],0⟩)):Yes [g] true 1 1:=Yes.one e (by simp) .nil
theorem yes_n (a b:M):Yes [⟨false,a.k,b.k⟩] (le a b) 1 1:=⟨_,ct_n a b,by cases le a b<;>simp⟩
noncomputable def st0 (g:G) (W:List (List G)):Bool:=match m_step g ⟨[],0⟩ with
 |some (ws,S)=>decide (ws=W)&&(S.rows.isEmpty&&decide (S.many=0))
 |none=>false
theorem st0_ok {g:G}{W:List (List G)}(h:st0 g W=true):m_step g ⟨[],0⟩=some (W,⟨[],0⟩):=by
 unfold st0 at h
 induction hm:m_step g ⟨[],0⟩ using Option.casesOn with
 |none=>rw[hm] at h;exact nB h
 |some r=>
  obtain⟨ws,S⟩:=r
  rw[hm] at h
  refine an2 (bA (show(decide (ws=W)&&(S.rows.isEmpty&&decide (S.many=0)))=true from h)) fun h1 h2=> ?_
  refine an2 (bA h2) fun h2 h3=> ?_
  obtain⟨rows,many⟩:=S
  have h2:=List.isEmpty_iff.mp h2
  have h3:=oD h3
  have h1:=oD h1
  subst h1;subst h2;subst h3;rfl
theorem st0_M {g:M→M→G}{W:M→M→List (List G)}(h:(M.all.all fun a=>M.all.all fun b=>decide (a=b)||st0 (g a b) (W a b))=true){a b:M}(n:¬a=b):m_step (g a b) ⟨[],0⟩=some (W a b,⟨[],0⟩):=by
 have:=M.one (M.one h a) b
 rw[decide_eq_false n,Bool.false_or] at this
 exact st0_ok this
theorem st0_1 {g:M→G}{W:M→List (List G)}(h:(M.all.all fun a=>st0 (g a) (W a))=true)(a:M):m_step (g a) ⟨[],0⟩=some (W a,⟨[],0⟩):=st0_ok (M.one h a)
theorem eq_le:(M.all.all fun a=>M.all.all fun b=>(a==b)==(le b a&&le a b))=true:=by decide +kernel
theorem yes_same (a b:M):Yes [⟨true,a.k,b.k⟩] (a==b) 3 1:=by
 by_cases h:a=b
 ·subst h
  rw[show(a==a)=true by simp]
  exact(Yes.skip (st_refl rfl)).le (by decide) (by decide)
 ·have e:=st0_M (g:=fun a b=>⟨true,a.k,b.k⟩) (W:=fun a b=> [[⟨false,a.k,b.k⟩,⟨false,b.k,a.k⟩]]) dkk h
  rw[eq_of_beq (M.one (M.one eq_le a) b)]
  exact(Yes.one e (by simp) ((yes_n b a).cons (yes_n a b))).le (by decide) (by decide)
theorem yes_11:Yes [⟨true,.num 1,.num 1⟩] true 1 1:=Yes.skip rfl
theorem yes_list (a b:M):Yes [⟨false,listK a.k,listK b.k⟩] (a==b) 5 1:=by
 by_cases h:a=b
 ·subst h
  rw[show(a==a)=true by simp]
  exact(Yes.skip (st_refl rfl)).le (by decide) (by decide)
 ·have e:=st0_M (g:=fun a b=>⟨false,listK a.k,listK b.k⟩) (W:=fun a b=> [[⟨true,a.k,b.k⟩,⟨true,.num 1,.num 1⟩]]) dkk h
  exact(Yes.one e (by simp) (yes_11.cons (yes_same a b))).le (by decide) (by decide)
theorem yes_llist (a b:M):Yes [⟨false,listK (listK a.k),listK (listK b.k)⟩] (a==b) 14 1:=by
 by_cases h:a=b
 ·subst h
  rw[show(a==a)=true by simp]
  exact(Yes.skip (st_refl rfl)).le (by decide) (by decide)
 ·have e:=st0_M (g:=fun a b=>⟨false,listK (listK a.k),listK (listK b.k)⟩) (W:=fun a b=> [[⟨true,listK a.k,listK b.k⟩,⟨true,.num 1,.num 1⟩]]) dkk h
  have e':=st0_M (g:=fun a b=>⟨true,listK a.k,listK b.k⟩) (W:=fun a b=> [[⟨false,listK a.k,listK b.k⟩,⟨false,listK b.k,listK a.k⟩]]) dkk h
  have:=Yes.one e' (by simp) ((yes_list b a).cons (yes_list a b))
  have z:(a==b)=(true&&((b==a)&&(a==b))):=by rw[Bool.true_and,BEq.comm (a:=b),Bool.and_self]
  rw[z]
  exact(Yes.one e (by simp) (yes_11.cons this)).le (by decide) (by decide)
theorem un_st:(M.all.all fun x=>M.all.all fun l=>if(x== .an||x== .st)=true then decide (uM (dU x)=x.k)&&decide ((le l .st||le l x)=le l x) else st0 ⟨false,l.k,uM (dU x)⟩ [[⟨false,l.k,x.k⟩],[⟨false,l.k,M.st.k⟩]])=true:=by decide +kernel
theorem Pt.yes (x y:M):∀q:Pt,Yes [⟨false,q.k,q.p x.k y.k (uM (dU x))⟩] (q.req x y) 20 2
 | .t l=>(yes_n l x).le (by decide) (by decide)
 | .s l=>(yes_n l y).le (by decide) (by decide)
 | .at a=>(yes_list a x).le (by decide) (by decide)
 | .as a=>(yes_list a y).le (by decide) (by decide)
 | .aat a=>(yes_llist a x).le (by decide) (by decide)
 | .ts l l'=>by
  show Yes [⟨false,.tup [l.k,l'.k],.tup [x.k,y.k]⟩] (le l x&&le l' y) 20 2
  by_cases e: [l.k,l'.k]=[x.k,y.k]
  ·have e2:l=x∧l'=y:=by simpa[M.kinj] using e
   refine an2 e2 fun z1 z2=> ?_;clear e2;subst z1;subst z2
   rw[le_refl,le_refl]
   exact(Yes.skip (st_refl rfl)).le (by decide) (by decide)
  ·rw[Bool.and_comm]
   exact(Yes.one (st_tup _ rfl rfl e rfl rfl) (Nat.le_of_ble_eq_true rfl) ((yes_n l' y).cons (yes_n l x))).le (by decide) (by decide)
 | .un l=>by
  show Yes [⟨false,l.k,uM (dU x)⟩] (le l .st||le l x) 20 2
  have z:=M.one (M.one un_st x) l
  by_cases h:(x== .an||x== .st)=true
  ·rw[if_pos h] at z
   refine an2 (bA z) fun z1 z2=> ?_
   rw[oD z1,oD z2]
   exact(yes_n l x).le (by decide) (by decide)
  ·rw[if_neg h] at z
   have e:=st0_ok z
   rw[Bool.or_comm]
   exact(Yes.two e (by simp) (by simp) (yes_n l x) (yes_n l .st)).le (by decide) (by decide)
 | .ii=>(yes_n .i6 .ig).le (by decide) (by decide)
 | .ib=>(yes_n .bo .ig).le (by decide) (by decide)
 | .is=>(yes_n .st .ig).le (by decide) (by decide)
 | .ys a=>by
  show Yes [⟨false,.typ a.k,.typ y.k⟩] (a==y) 20 2
  by_cases h:a=y
  ·subst h
   rw[show(a==a)=true by simp]
   exact(Yes.skip (st_refl rfl)).le (by decide) (by decide)
  ·have e:=st0_M (g:=fun a b=>⟨false,.typ a.k,.typ b.k⟩) (W:=fun a b=> [[⟨true,a.k,b.k⟩]]) dkk h
   exact(Yes.one e (by simp) (yes_same a y)).le (by decide) (by decide)
noncomputable def cst:Nat→Nat
 |0=>0
 |n+1=>20+2 * cst n
theorem yes_all (x y:M):∀l:List Pt,Yes (l.map fun q=>⟨false,q.k,q.p x.k y.k (uM (dU x))⟩) (l.all (Pt.req x y)) (cst l.length) (2 ^ l.length)
 | []=> .nil
 |q::l=>((Pt.yes x y q).cons (yes_all x y l)).le (Nat.le_refl _) (by rw[List.length_cons,Nat.pow_succ,Nat.mul_comm];exact Nat.le_refl _)
end
theorem un_eq:(M.all.all fun x=>M.all.all fun l=> !decide (l.k=uM (dU x))||(le l .st||le l x))=true:=by decide +kernel
theorem beqM {a b:M}(e:a.k=b.k):(a==b)=true:=by rw[M.kinj.mp e];exact beq_self_eq_true b
theorem list_inj {a b:K}(e:listK a=listK b):a=b:=by
 injection e with _ e
 injection e
theorem Pt.eq_req {x y:M}{q:Pt}:q.k=q.p x.k y.k (uM (dU x))→q.req x y=true:=by
 refine q.casesOn ?_ ?_ ?_ ?_ ?_ ?_ ?_ ?_ ?_ ?_ ?_
 ·intro l e;obtain rfl:=M.kinj.mp e;exact le_refl _
 ·intro l e;obtain rfl:=M.kinj.mp e;exact le_refl _
 ·exact fun a e=>beqM (list_inj e)
 ·exact fun a e=>beqM (list_inj e)
 ·exact fun a e=>beqM (list_inj (list_inj e))
 ·intro l l' e
  replace e:K.tup [l.k,l'.k]= .tup [x.k,y.k]:=e
  injection e with e
  injection e with e1 e
  injection e with e2 _
  obtain rfl:=M.kinj.mp e1
  obtain rfl:=M.kinj.mp e2
  exact Bool.and_eq_true_iff.mpr ⟨le_refl _,le_refl _⟩
 ·intro l e
  have z:=M.one (M.one un_eq x) l
  rw[decide_eq_true (show l.k=uM (dU x) from e)] at z
  exact z
 ·exact fun _=>rfl
 ·exact fun _=>rfl
 ·exact fun e=>nomatch (show M.st.k=M.ig.k from e)
 ·intro a e
  replace e:K.typ a.k= .typ y.k:=e
  injection e with e
  exact beqM e
theorem dU_ok (x:M):(uM (dU x)).sz≤3∧(uM (dU x)).dp≤2:=by induction x using M.casesOn<;>decide
theorem sub_named {pts:List Pt}(h3:pts.length≤3)(x y:M):m_sub (.tup (pts.map Pt.k)) (psK x.k y.k (uM (dU x)) pts)=some (pts.all (Pt.req x y)):=by
 have k1:(K.tup (pts.map Pt.k)).dp≤4:=tup_dp Pt.k_dp pts
 have hx:=uk1 x
 have hy:=uk1 y
 have hu:=dU_ok x
 have hf:=psK_fits (pts:=pts) (T:=x.k) (S:=y.k) (U:=uM (dU x)) (lt3 hx.2) (lt3 hy.2) hu.2 (lt3 hx.1) (lt3 hy.1) hu.1 h3
 unfold m_sub
 rw[if_pos (l_min (lt3 k1))]
 by_cases e:pts.map Pt.k=pts.map (Pt.p x.k y.k (uM (dU x)))
 ·rw[if_pos (by unfold psK;rw[e])]
  have:∀l:List Pt,l.map Pt.k=l.map (Pt.p x.k y.k (uM (dU x)))→l.all (Pt.req x y)=true:=by
   intro l
   induction l with
   |nil=>intro _;rfl
   |cons q l ih=>
    intro e
    rw[List.map_cons,List.map_cons] at e
    injection e with e1 e2
    rw[List.all_cons,Pt.eq_req e1,ih e2];rfl
  rw[this pts e]
 ·rw[if_neg (by unfold psK;simpa using e),ks_cases h3]
  dsimp only
  have s:=st_tup ⟨[],0⟩ (ks_fits h3) (fits_of (by unfold psK at hf;exact lt3 hf.1) (by unfold psK at hf;exact lt3 hf.2)) e (k_emps pts) (by simp)
  rw[zipG_map] at s
  have:=yes_all x y pts.reverse
  rw[List.map_reverse] at this
  obtain⟨os,h1,h2⟩:=Yes.one s (by simp;exact lt3 h3) this
  have hr:=run_out (n:=4000) (f:=4000) h1 (fun _ _=>good0.1) (by
   rw[List.length_reverse]
   rcases(show pts.length=0∨pts.length=1∨pts.length=2∨pts.length=3 by lia) with e|e|e|e<;>rw[e]<;>decide) (by simp) (by decide) (by decide)
  rw[List.all_reverse] at h2
  unfold m_subs
  unfold sub1 psK
  rw[hr]
  induction os using List.casesOn with
  |nil=>
   have:pts.all (Pt.req x y)=false:=by
    induction z:pts.all (Pt.req x y) using Bool.casesOn with
    |false=>rfl
    |true=>exact absurd rfl (h2.mpr z)
   rw[this];rfl
  |cons o os=>
   rw[h2.mp (by simp),List.map_cons,List.find?_cons,good0.2];rfl
noncomputable def big (x:M):Bool:=x== .an||x== .re||x== .ig
theorem big_all:(M.all.all fun x=>M.all.all fun y=>big x|| !le y x||decide (y=x))=true:=by decide +kernel
theorem big_le {x y:M}(h:big x=false)(h':le y x=true):y=x:=by
 have:=M.one (M.one big_all x) y
 rw[h,h'] at this
 exact oD this
theorem one1_of {l:List M}{x:M}(h:∀y∈l,le y x=true)(hb:big x=false):one1 l=true:=by
 induction l using List.casesOn with
 |nil=>rfl
 |cons z l=>
  have hz:=big_le hb (h z (.head _))
  subst hz
  show((l.all fun y=>y==z)&& !(z==M.an||z==M.re||z==M.ig))=true
  rw[show(l.all fun y=>y==z)=true from List.all_eq_true.mpr fun y hy=>by rw[big_le hb (h y (.tail _ hy))];simp]
  unfold big at hb
  rw[hb];rfl
noncomputable def bkOk (c:Bk) (x y:M):Bool:=match c with
 | .an=>le y .an
 | .ig=>le y .ig
 | .t=>le y x
section
variable {u x y:M}{c:Bk}{pts:List Pt}
theorem hit_found (h1:le x u=true)(h2:bkOk c x y=true)(h3:∀q∈pts,q.req x y=true)(h4:twice Pt.oT pts=true→big x=false)(h5:twice Pt.oS pts=true→big y=false):found (pm c pts) pts (a0 u c)≠none:=by
 have hs:Sat x y (a0 u c):=by
  refine⟨nMem,fun z hz=> ?_,nMem,fun z hz=> ?_⟩
  ·replace hz:z∈(if u= .an then[] else[u]):=hz
   split at hz
   ·exfalso;cases hz
   ·simp at hz;replace hz:=hz.symm;subst hz;exact h1
  ·induction c using Bk.casesOn with
   |ig=>exact List.mem_singleton.mp hz▸h2
   |_=>exact(List.not_mem_nil hz).elim
 obtain⟨a',m,s⟩:=outs_sat (b:=(pm c pts).b) (fun hb=>by
  induction c using Bk.casesOn with
  |t=>exact h2
  |_=>cases hb) hs fun q hq=>h3 q (List.mem_reverse.mp hq)
 intro hn
 have:=List.find?_eq_none.mp hn a' m
 refine this ?_
 have e1:((pm c pts).t=true→one1 a'.tl=true):=fun ht=>one1_of s.tl (h4 (by simp[pm] at ht;exact ht.1))
 have e2:((pm c pts).s=true→one1 a'.sl=true):=fun ht=>one1_of s.sl (h5 ht)
 unfold okA
 cases z1:(pm c pts).t<;>cases z2:(pm c pts).s<;>simp[z1,z2] at e1 e2⊢<;>simp[e1,e2]
theorem tb_nm (x y:M):wT.sub (tbK (nmT x.n y.n))=some x.k∧wSx.sub (tbK (nmT x.n y.n))=some y.k∧wUx.sub (tbK (nmT x.n y.n))=some (uM (dU x)):=⟨rfl,rfl,by induction x using M.casesOn<;>rfl⟩
theorem bigN_M (x:M):bigN x.n=big x:=by induction x using M.casesOn<;>rfl
theorem conc_cons {k:K}{x:X}{n:N}{l:List (X×N)}{p:Nat×Bool}(h:k.cnt x=some p):m_conc k ((x,n)::l)=if decide (p.1>1)&& !p.2&&bigN n then some false else m_conc k l:=(congrArg (fun z=>Option.bind z _) h).trans rfl
theorem hits_cons {f:N→Option Bool}{n:N}{l:List N}(h:f n=some false):m_hits f (n::l)=m_hits f l:=ob1 h rfl
theorem none2_cons {f:N→Option Bool}{n:N}{l:List N}(h:f n=some true):m_none2 f (n::l)=m_none2 f l:=congrArg (fun z=>thenB z _) h
theorem hit_false (h3:pts.length≤3)(hn:found (pm c pts) pts (a0 u c)=none)(x y:M):m_hit (.tup (pts.map Pt.k)) u.k (c.k wT) (psK wT wSx wUx pts) x.n y.n=some false:=by
 refine an3 (tb_nm x y) fun t1 t2 t3=> ?_
 have ec:(c.k wT).sub (tbK (nmT x.n y.n))=some (c.k x.k):=Bk.sub t1 c
 have es:(psK wT wSx wUx pts).sub (tbK (nmT x.n y.n))=some (psK x.k y.k (uM (dU x)) pts):=Pt.tsub t1 t2 t3 pts
 have eb:m_sub y.k (c.k x.k)=some (bkOk c x y):=by induction c using Bk.casesOn<;>exact sub_nn _ _
 have hc:m_conc (psK wT wSx wUx pts) [(.T1,x.n),(.S2,y.n)]=some (!(twice Pt.oT pts&&big x)&& !(twice Pt.oS pts&&big y)):=by
  have e1:(psK wT wSx wUx pts).cnt .T1=some (manyO Pt.oT pts):=tup_cnt Pt.cntT pts
  have e2:(psK wT wSx wUx pts).cnt .S2=some (manyO Pt.oS pts):=tup_cnt Pt.cntS pts
  refine(conc_cons e1).trans ?_
  rw[conc_cons e2,bigN_M,bigN_M]
  show(if(twice Pt.oT pts&&big x)=true then some false else if(twice Pt.oS pts&&big y)=true then some false else some true)=_
  cases twice Pt.oT pts&&big x<;>cases twice Pt.oS pts&&big y<;>rfl
 unfold m_hit
 rw[sub_nn,ec,Option.bind_some,eb,es,Option.bind_some,sub_named h3,hc]
 cases z1:le x u
 ·rfl
 cases z2:bkOk c x y
 ·rfl
 cases z3:pts.all (Pt.req x y)
 ·rfl
 cases z4: !(twice Pt.oT pts&&big x)&& !(twice Pt.oS pts&&big y)
 ·rfl
 ·exfalso
  simp only[Bool.and_eq_true,Bool.not_eq_true'] at z4
  refine hit_found z1 z2 (lA z3) (fun h=> ?_) (fun h=> ?_) hn
  ·have:=z4.1;rw[h] at this;exact this
  ·have:=z4.2;rw[h] at this;exact this
theorem none_right (h3:pts.length≤3)(hn:found (pm c pts) pts (a0 u c)=none):m_none (.tup (pts.map Pt.k)) u.k (c.k wT) (psK wT wSx wUx pts)=some true:=by
 have f0:=psK_fits (pts:=pts) (T:=wT) (S:=wSx) (U:=wUx) (by decide) (by decide) (by decide) (by decide) (by decide) (by decide) h3
 have hck:=c.k_sz (T:=wT) (by decide)
 have hcd:=c.k_dp (T:=wT) (by decide)
 have hh:=fun x:M=>fun y:M=>hit_false h3 hn x y
 have row:∀x:M,m_hits (m_hit (.tup (pts.map Pt.k)) u.k (c.k wT) (psK wT wSx wUx pts) x.n) [.nBool,.nString,.nInteger]=some true:=fun x=>
  (hits_cons (hh x .bo)).trans ((hits_cons (hh x .st)).trans ((hits_cons (hh x .ig)).trans rfl))
 unfold m_none
 rw[if_pos (by simp;exact⟨⟨⟨(lt3 hcd),(lt3 hck)⟩,(lt3 f0.2)⟩,(lt3 f0.1)⟩)]
 exact(none2_cons (row .i6)).trans ((none2_cons (row .st)).trans ((none2_cons (row .re)).trans rfl))
theorem verdict (h1:1≤pts.length)(h3:pts.length≤3)(u:M)(c:Bk):Verdict u.k (c.k wT) (pts.map (Pt.p wT wSx wUx)) (pts.map Pt.k):=by
 have e1:=matched_sig (u:=u) (c:=c) h1 h3
 have e2:=sub_sig (u:=u) (c:=c) h1 h3
 induction hf:found (pm c pts) pts (a0 u c) using Option.casesOn with
 |none=>
  rw[hf] at e1 e2
  exact⟨none,e1,e2,fun _=>none_right h3 hf,fun t ht=>by exact nS ht⟩
 |some a=>
  rw[hf] at e1 e2
  have hm:a∈outs (pm c pts).b pts.reverse (a0 u c):=List.mem_of_find?_eq_some hf
  refine an3 (outs_ok (a0_cl _ u c) hm) fun k1 k2 k3=> ?_
  dsimp only at e1
  rw[table_is k1.nd] at e1
  refine⟨some (tabA a),e1,e2,fun z=>(by exact nS' z),fun t ht=> ?_⟩
  obtain rfl:=Option.some.inj ht
  exact told_right k1 rfl k2 h3 fun q hq=>k3 q (List.mem_reverse.mpr hq)
end
theorem low_n {n l:N}(hn:n∈ones∨n∈others)(hl:l∈lowN n):∃x:M,nK l=x.k:=
 have h:=lA (lA (show((ones++others).all fun n=>(lowN n).all fun l=>M.all.any fun x=>decide (nK l=x.k))=true by decide +kernel) n (List.mem_append.mpr hn)) l hl
 x12 (List.any_eq_true.mp h) fun x _ e=>⟨x,oD e⟩
theorem name_m {n:N}(hn:n∈ones∨n∈others):∃x:M,n=x.n:=
 have h:=lA (show((ones++others).all fun n=>M.all.any fun x=>decide (n=x.n))=true by decide +kernel) n (List.mem_append.mpr hn)
 x12 (List.any_eq_true.mp h) fun x _ e=>⟨x,oD e⟩
theorem part_pt {n m:N}{w:Nat}{k p:K}(hn:n∈ones)(hm:m∈others)(h:PartOk n m w k)(hp:(partsK (.vr .T1) (.vr .S2))[w]? =some p):∃q:Pt,k=q.k∧p=q.p wT wSx wUx:=by
 refine x11 (name_m (.inl hn)) fun x z1=> ?_;subst z1
 refine x11 (name_m (.inr hm)) fun y z2=> ?_;subst z2
 rcases h with⟨rfl,l,hl,rfl⟩|⟨rfl,l,hl,rfl⟩|⟨rfl,l,hl,l',hl',rfl⟩|⟨rfl,h⟩|⟨rfl,h⟩|⟨h,hk⟩
 ·refine x11 (low_n (.inl hn) hl) fun z e=> ?_
  exact⟨.t z,e,(Option.some.inj hp).symm⟩
 ·refine x11 (low_n (.inr hm) hl) fun z e=> ?_
  exact⟨.s z,e,(Option.some.inj hp).symm⟩
 ·refine x11 (low_n (.inl hn) hl) fun z e=> ?_
  refine x11 (low_n (.inr hm) hl') fun z' e'=> ?_
  exact⟨.ts z z',by rw[e,e'];rfl,(Option.some.inj hp).symm⟩
 ·have hU:p=wUx:=(Option.some.inj hp).symm
  rcases h with⟨l,hl,rfl⟩|rfl
  ·refine x11 (low_n (.inl hn) hl) fun z e=> ?_
   exact⟨.un z,e,hU⟩
  ·exact⟨.un .st,rfl,hU⟩
 ·rcases h with rfl|rfl|rfl
  ·exact⟨.ii,rfl,(Option.some.inj hp).symm⟩
  ·exact⟨.ib,rfl,(Option.some.inj hp).symm⟩
  ·exact⟨.is,rfl,(Option.some.inj hp).symm⟩
 ·rcases h with rfl|rfl|rfl|rfl
  ·exact⟨.at x,(Option.some.inj hk).symm,(Option.some.inj hp).symm⟩
  ·exact⟨.as y,(Option.some.inj hk).symm,(Option.some.inj hp).symm⟩
  ·exact⟨.aat x,(Option.some.inj hk).symm,(Option.some.inj hp).symm⟩
  ·exact⟨.ys y,(Option.some.inj hk).symm,(Option.some.inj hp).symm⟩
theorem parts_pts {n m:N}(hn:n∈ones)(hm:m∈others):∀{ways:List Nat} {ps ks:List K},PartsOk n m ways ks→partsOf ways=some ps→∃pts:List Pt,pts.length=ways.length∧ks=pts.map Pt.k∧ps=pts.map (Pt.p wT wSx wUx)
 | [],ps,[],_,e=>⟨[],rfl,rfl,by replace e:=sI e;subst e;rfl⟩
 |w::ws,ps,k::ks,⟨h1,h2⟩,e=>by
  unfold partsOf at e
  rw[List.mapM_cons] at e
  induction e1:(partsK (.vr .T1) (.vr .S2))[w]? using Option.casesOn with
  |none=>rw[e1] at e;cases e
  |some p=>
   rw[e1] at e
   induction e2:partsOf ws using Option.casesOn with
   |none=>unfold partsOf at e2;rw[e2] at e;cases e
   |some ps'=>
    refine x13 (parts_pts hn hm h2 e2) fun pts g1 g2 g3=> ?_
    unfold partsOf at e2
    rw[e2] at e
    refine x12 (part_pt hn hm h1 e1) fun q q1 q2=> ?_
    refine⟨q::pts,by simp[g1],by rw[List.map_cons,←q1,←g2],?_⟩
    rw[List.map_cons,←q2,←g3]
    exact(Option.some.inj e).symm
theorem law_ok:LawOk:=by
 intro ways up bound n m ps ks h1 h3 _ hu hb hn hm hp hk
 refine x13 (parts_pts hn hm hk hp) fun pts e z3 z4=> ?_;subst z3;subst z4
 have hu:∃u:M,up=u.k:=by
  simp[ups] at hu
  rcases hu with rfl|rfl|rfl
  ·exact⟨.an,rfl⟩
  ·exact⟨.re,rfl⟩
  ·exact⟨.ig,rfl⟩
 have hb:∃c:Bk,bound=c.k wT:=by
  simp[bnds] at hb
  rcases hb with rfl|rfl|rfl
  ·exact⟨.an,rfl⟩
  ·exact⟨.ig,rfl⟩
  ·exact⟨.t,rfl⟩
 refine x11 hu fun u z5=> ?_;clear hu;subst z5
 refine x11 hb fun c z6=> ?_;clear hb;subst z6
 exact verdict (nT h1 (l_ge e)) (nT (Nat.le_of_eq e) h3) u c
theorem wint {x:WData}(e:WShape.has [] x .int=true):∃i,x= .int i:=by
 induction x using WData.casesOn<;>first|exact⟨_,rfl⟩|exact nB e
theorem ints_of {cl:Str→Option Addr}{h:Heap}{xs:List WData}:∀{vs:List Value} {as:List Addr},WShape.hasItems [] xs .int=true→ReadsAllW [] cl h vs xs as→∃is:List Int,RVs h vs (is.map V.int):=by
 induction xs with
 |nil=>exact fun _ r=>⟨[],(readsAllW_nil_inv r).1▸ .nil⟩
 |cons x xs ih=>
  exact fun e r=>an2 (bA (show(WShape.has [] x .int&&WShape.hasItems [] xs .int)=true from e)) fun e1 e2=>x11 (wint e1) fun i z=>
   x41 (readsAllW_cons_inv r) fun v vs as1 as2 k=>an4 k fun z1 _ r1 r2=>x11 (ih e2 r2) fun is q=>⟨i::is,z1▸ .cons ((readsW_int_inv (show ReadsW [] cl h v (.int i) as1 from z▸r1)).elim fun t k=>k.1▸RV.int i t) q⟩
theorem wlist1 {x:WData}(e:WShape.has [] x (.list .int)=true):∃xs,x= .list xs∧WShape.hasItems [] xs .int=true:=by
 induction x using WData.casesOn<;>first|exact⟨_,rfl,(Bool.or_eq_true_iff.mp e).elim id fun h=>nB h⟩|exact nB e
theorem wlist {args:List WData}(e:WShape.hasAll [] args [.list .int]=true):∃xs,args=[.list xs]∧WShape.hasItems [] xs .int=true:=by
 induction args using List.casesOn with
 |nil=>exact nB e
 |cons x l=>
  refine an2 (bA (show(WShape.has [] x (.list .int)&&WShape.hasAll [] l [])=true from e)) fun q1 q2=> ?_
  induction l using List.casesOn with
  |cons _ _=>exact nB q2
  |nil=>exact x12 (wlist1 q1) fun xs z h=>⟨xs,z▸rfl,h⟩
theorem asked:Ask tt:=fun s la vs is e hl r=>by
 have c:=(c_law (la:=681) (σ:=fun _=>none) (Q:=fun v _=>v= .bool true) b.f_law c_start_kinds law_ok ⟨vs,hl,r⟩ fun _=>rfl).v
 refine wpAny_mono (c callerA s (.ref 681) [.ref la] ⟨rfl,by rw[d_is];decide +kernel,by rw[d_is];decide +kernel⟩ ⟨fun b o x=>by rw[e];exact x,fun _ e=>absurd rfl e,fun _ _ e=>by exact nS e⟩ (.ref _) (.cons (.ref _) .nil)) (fun v s' ⟨x,σ',rv,hq,S',T'⟩=> ?_) fun _ _ x=>x.elim
 subst hq
 cases rv
 exact⟨rfl,fun b o x=>T'.keep b o (by rw[e];exact x) rfl,T'.os,T'.gens⟩
theorem asked_all {w:World}{h:Heap}(y:∃h₀,datOf h₀=datA∧∀b o,h₀.get? b=some o→h.get? b=some o):∀h₀,Ask (w,h,h₀):=fun h₀=>y.elim fun h₁ y=>tt_ok.2 asked (w,h,h₁) y
theorem law_at {h₀ h:Heap}(e:datOf h₀=datA)(k:∀b o,h₀.get? b=some o→h.get? b=some o):∃mg,h.Ns mainGlobals mg∧mg "law"=some (.ref 681):=by
 have i:okAll h₀=true:=congrArg (·.1) e
 have g:gvD h₀ "law"=some (.ref 681):=lookup_at (g:=fun _=>none) (congrArg (·.2.2.1) e) rfl
 exact bE g fun val hv g=>⟨_,(Heap.Ns.of_isNs (bA i).1).keeps k,hv.trans (congrArg some (rdV_ok g).ref_inv)⟩
theorem holds:PySem.Challenge.rw_pq0712_01.Holds:=by
 w_on
 refine holds_law ws fun said=> ?_
 refine holds_open (q:=qv) (loose:=looseN) (Xt:=fun s=>xlAt qv [] s&&recOk [] s) (XP:=XL qv []) (Yf:=fun s=>datOf s.heap) (Ya:=fun _=>datA) (YP:=fun _ h=>∃h₀,datOf h₀=datA∧∀b o,h₀.get? b=some o→h.get? b=some o) (N:=100000)
  (left_of seen_top) (fun w s e=>⟨s.heap,e,fun _ _ e=>e⟩) (fun w h h' ⟨h₀,e,k⟩ kk=>⟨h₀,e,fun b o x=>kk b o (k b o x)⟩) (fun s e=>xl_of s (bA e).1) XL.keeps (by rfl) (by rfl) (by rfl) (fun s e=>recFacts_of (bA e).2) (by rfl) said (by show(_&&opensWell pw&&_)=true;rw[ow];decide +kernel) ⟨rfl,rfl,rfl,rfl,rfl,by decide +kernel⟩ ?hw ?hc
 case hw=>w_witness2
 case hc=>
  intro w s₀ s₁ mg mb G Y fa o pm cd doc dV kV ho hd hcd hD hmg hg args vals as hpre hlay hrd hwl hlo
  refine x12 Y fun h₀ e k=>x12 (law_at e k) fun mg' hn hv=> ?_
  rw[hn.eq_nsMap,←G.T.g.eq_nsMap] at hv
  obtain rfl:fa=681:=Value.ref.inj (sI ((show mg "law"=some (.ref fa) from hmg).symm.trans hv))
  refine an2 (bA (show(WShape.hasAll [] args [.list .int]&&_)=true from hpre)) fun p1 _=> ?_
  refine x12 (wlist p1) fun xs z hx=> ?_
  subst z
  replace hrd:ReadsAllW [] (classAt s₀.heap) s₁.heap vals [.list xs] as:=hrd
  cases hrd with
  |cons r1 r2=>
  cases r2
  refine x41 (readsW_list_open r1) fun la o' its n z1=> ?_;refine x16 z1 ?_;clear z1;intro ai z1 ho' hc' hd' ra z2;subst z1;subst z2
  refine x11 (ints_of hx ra) fun is ri=> ?_
  refine wpAny_mono (asked_all (w:=w) Y h₀ s₁ la its.toList is rfl ⟨o',ho',hc',n,by rw[Array.toArray_toList];exact hd'⟩ ri) (fun v s' ⟨q,k,os,gs⟩=> ?_) fun _ _ x=>x.elim
  subst q
  exact⟨.inl ⟨_,.bool true,[],rfl,fun _=>rfl,.bool _,(by first|rfl|kernel_rfl|(simp[OpenLaw.row];done)),fun _=>⟨.nil,fun _ x=>by cases x⟩⟩,.of_keep k,os,.of_eq (gs.trans hg)⟩
end Mine
theorem PySem.Challenge.cw_pq0712_01_holds : PySem.Challenge.rw_pq0712_01.Holds := by
  exact Mine.holds
