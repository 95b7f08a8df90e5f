import PyProof.Rows.All
import Wide.All
import OpenK.AllK
import Wide.FinOn
import KE.BytesMulAny
import KE.KBytesMore
import KE.BytesMake
import KE.KBytesCut
import KE.KRevSl
import KE.KSortTup
import KE.KxFormat
import PySem.Challenge.RW_nz0226_02
set_option Elab.async false
set_option maxRecDepth 100000
set_option maxHeartbeats 0
set_option linter.unusedVariables false
namespace Mine
section
open PySem PySem.W PyProof.Rows PySem.Calls
section
set_option genSizeOf false
abbrev BOp:=Operator
abbrev COp:=CmpOp
abbrev BI:=Operator
noncomputable abbrev BOp.add:BOp:= .Add
noncomputable abbrev BOp.sub:BOp:= .Sub
noncomputable abbrev BOp.mul:BOp:= .Mult
noncomputable abbrev BOp.fdiv:BOp:= .FloorDiv
noncomputable abbrev BOp.mod:BOp:= .Mod
noncomputable abbrev BOp.shl:BOp:= .LShift
noncomputable abbrev BOp.shr:BOp:= .RShift
noncomputable abbrev BOp.pow:BOp:= .Pow
noncomputable abbrev BOp.and:BOp:= .BitAnd
noncomputable abbrev BOp.or:BOp:= .BitOr
noncomputable abbrev COp.lt:COp:= .Lt
noncomputable abbrev COp.le:COp:= .LtE
noncomputable abbrev COp.gt:COp:= .Gt
noncomputable abbrev COp.ge:COp:= .GtE
noncomputable abbrev COp.eq:COp:= .Eq
noncomputable abbrev COp.ne:COp:= .NotEq
noncomputable abbrev COp.isIn:COp:= .In
noncomputable abbrev COp.notIn:COp:= .NotIn
noncomputable abbrev COp.isNot:COp:= .IsNot
noncomputable abbrev COp.is:COp:= .Is
noncomputable abbrev BI.len:BI:= .Add
noncomputable abbrev BI.min:BI:= .Sub
noncomputable abbrev BI.max:BI:= .Mult
noncomputable abbrev BI.abs:BI:= .MatMult
noncomputable abbrev BI.sum:BI:= .Div
noncomputable abbrev BI.range:BI:= .Mod
noncomputable abbrev BI.sorted:BI:= .Pow
noncomputable abbrev BI.int:BI:= .LShift
noncomputable abbrev BI.bool:BI:= .RShift
noncomputable abbrev BI.bytes:BI:= .BitOr
noncomputable abbrev BI.enum:BI:= .BitXor
noncomputable abbrev BI.verr:BI:= .BitAnd
inductive KA |i (n:Int) |s (x:Nat)
 deriving DecidableEq
inductive AV
 |undef |none |bool (b:Bool) |int (i:Int) |str (x:Nat) |text
 |bytes (l:List Nat) |fn (f:Nat) |cls (c:Nat) |bi (b:BI) |obj (id:Nat)
 |tup (l:List AV) |lst (l:List AV) |arg (l:List Int) |rng (n:Int) |sdict (d:List (Nat×Int))
inductive AO
 |inst (c:Nat) (f:Nat->AV)
 |list (l:List AV)
 |idict (d:List (Int×AV))
 |tdict (d:List (List KA×Int))
 |exc (c:Nat) (f:Nat->AV) (flying:Bool)
 |pidict (d:List (Int×AV))
 |ptdict (d:List (List KA×Int))
abbrev H:=List AO
abbrev Loc:=Nat->AV
noncomputable def upd(l:Nat->AV)(x:Nat)(v:AV):Nat->AV:=λy=>if y=x then v else l y
inductive R (α:Type) |ok (a:α) (J:H) |exc (id:Nat) (J:H) |bad
noncomputable def R.bind{α β:Type}(r:R α)(f:α->H->R β):R β:=match r with
 | .ok a J=>f a J
 | .exc id J=> .exc id J
 | .bad=> .bad
inductive RS |next (l:Loc) (J:H) |ret (v:AV) (J:H) |cont (l:Loc) (J:H) |exc (id:Nat) (l:Loc) (J:H) |bad
set_option genInjectivity false
mutual
inductive ME
 |int (i:Int) |str (x:Nat) |none |bool (b:Bool)
 |loc (x:Nat) |glo (x:Nat)
 |bin (op:BOp) (a b:ME)
 |neg (a:ME) |inv (a:ME) |not (t:MB)
 |boolop (isAnd:Bool) (es:MEs)
 |cmp (op:COp) (a b:ME)
 |chain (a:ME) (o1:COp) (b:ME) (o2:COp) (c:ME)
 |ite (t:MB) (a b:ME)
 |call (f:ME) (args:MEs)
 |meth (o:ME) (name:Nat) (args:MEs)
 |initOf (g:Nat) (args:MEs)
 |attr (o:ME) (name:Nat)
 |idx (o i:ME)
 |sliceTo (o hi:ME)
 |slice2 (o lo hi:ME)
 |rev (o:ME)
 |tup (es:MEs) |lstF (es:MEs) |lstM (es:MEs) |dict0 |dictT
 |lcomp (x:Nat) (free:List Nat) (it:ME) (conds:MBs) (elt:ME)
 |dcomp (x:Nat) (free:List Nat) (it:ME) (conds:MBs) (key val:ME)
 |fstr (parts:MEs)
inductive MEs |nil |cons (e:ME) (r:MEs)
inductive MB |of (e:ME) |not (t:MB) |ops (isAnd:Bool) (ts:MBs) |ite (t a b:MB)
 |chain3 (a:ME) (o1:COp) (b:ME) (o2:COp) (c:ME) (o3:COp) (d:ME)
inductive MBs |nil |cons (t:MB) (r:MBs)
end
inductive MT
 |name (x:Nat) |cname (x:Nat) |attr (o:ME) (name:Nat) |idx (o i:ME) |names (xs:List Nat)
mutual
inductive MS
 |assign (t:MT) (e:ME)
 |aug (x:Nat) (e:ME)
 |augAttr (o:Nat) (name:Nat) (e:ME)
 |expr (e:ME)
 |ret (e:ME) |retNone
 |ifS (t:MB) (a b:MSs)
 |forS (xs:MT) (it:ME) (body:MSs)
 |forEnum (g i x:Nat) (it:ME) (body:MSs)
 |whileS (fuel:Nat) (t:MB) (body:MSs)
 |raise (e:ME)
 |tryS (body:MSs) (g:Nat) (as:Option Nat) (h:MSs)
 |cont |pass |dead
inductive MSs |nil |cons (s:MS) (r:MSs)
end
structure FnRec where
 params:List Nat
 defaults:List AV
 body:MSs
structure Tab where
 glob:Nat->AV
 meth:Nat->Nat->Option Nat
 init:Nat->Option Nat
 isExc:Nat->Bool
 sub:Nat->Nat->Bool
 fld:Nat->Nat->Bool
 fldE:Nat->Nat->Bool
 fn:Nat->Option FnRec
structure Cx where
 call:Nat->List AV->H->R AV
 hz:Bool
 T:Tab
noncomputable def tg{β:Type}(z:β)(n k:Nat)(f:n=k->β):β:=Bool.casesOn (motive:=λb=>Nat.beq n k=b->β) (Nat.beq n k) (λ_=>z) (λh=>f (Nat.eq_of_beq_eq_true h)) rfl
theorem v9{β:Type}{z:β}{n k:Nat}{f:n=k->β}(m:β->Prop)(h:m (tg z n k f)){p:Prop}(k1: ∀e,m (f e)->p)(k2:m z->p):p:=
 Bool.casesOn (motive:=λb=> ∀q:Nat.beq n k=b,m (Bool.casesOn (motive:=λb=>Nat.beq n k=b->β) b (λ_=>z) (λh=>f (Nat.eq_of_beq_eq_true h)) q)->p) (Nat.beq n k) (λ_ h=>k2 h) (λ_ h=>k1 _ h) rfl h
theorem q0{n k:Nat}{f:n=k->Bool}(h:tg false n k f=true){p:Prop}(k1: ∀e,f e=true->p):p:=v9 (· =true) h k1 λz=>(Bool.false_ne_true z).elim
abbrev VP:=Value->Shared->Prop
section
variable{β:Type}(z:β)
noncomputable def d8(a:AV)(f:Int->β):β:=tg z a.ctorIdx 3 λe=>AV.int.elim a e f
noncomputable def u9(a:AV)(f:Bool->β):β:=tg z a.ctorIdx 2 λe=>AV.bool.elim a e f
noncomputable def K0(a:AV)(f:Nat->β):β:=tg z a.ctorIdx 4 λe=>AV.str.elim a e f
noncomputable def q9(a:AV)(f:List Nat->β):β:=tg z a.ctorIdx 6 λe=>AV.bytes.elim a e f
noncomputable def c4v(a:AV)(f:Nat->β):β:=AV.casesOn (motive_1:=λ_=>β) a z z (λ_=>z) (λ_=>z) (λ_=>z) z (λ_=>z) f (λ_=>z) (λ_=>z) (λ_=>z) (λ_=>z) (λ_=>z) (λ_=>z) (λ_=>z) (λ_=>z)
noncomputable def z9(a:AV)(f:Nat->β):β:=AV.casesOn (motive_1:=λ_=>β) a z z (λ_=>z) (λ_=>z) (λ_=>z) z (λ_=>z) (λ_=>z) f (λ_=>z) (λ_=>z) (λ_=>z) (λ_=>z) (λ_=>z) (λ_=>z) (λ_=>z)
noncomputable def a3c(a:AV)(f:BI->β):β:=AV.casesOn (motive_1:=λ_=>β) a z z (λ_=>z) (λ_=>z) (λ_=>z) z (λ_=>z) (λ_=>z) (λ_=>z) f (λ_=>z) (λ_=>z) (λ_=>z) (λ_=>z) (λ_=>z) (λ_=>z)
noncomputable def n4(a:AV)(f:Nat->β):β:=AV.casesOn (motive_1:=λ_=>β) a z z (λ_=>z) (λ_=>z) (λ_=>z) z (λ_=>z) (λ_=>z) (λ_=>z) (λ_=>z) f (λ_=>z) (λ_=>z) (λ_=>z) (λ_=>z) (λ_=>z)
noncomputable def q5(a:AV)(f:List AV->β):β:=tg z a.ctorIdx 11 λe=>AV.tup.elim a e f
noncomputable def o4(a:AV)(f:List AV->β):β:=tg z a.ctorIdx 12 λe=>AV.lst.elim a e f
noncomputable def c12(a:AV)(f:List Int->β):β:=tg z a.ctorIdx 13 λe=>AV.arg.elim a e f
noncomputable def c5h(a:AV)(f:Int->β):β:=tg z a.ctorIdx 14 λe=>AV.rng.elim a e f
noncomputable def c1x(a:AV)(f:List (Nat×Int)->β):β:=tg z a.ctorIdx 15 λe=>AV.sdict.elim a e f
noncomputable def onText(a:AV)(f:β):β:=tg z a.ctorIdx 5 λ_=>f
noncomputable def q6(a:AV)(f:β):β:=tg z a.ctorIdx 1 λ_=>f
noncomputable def c6(p:Bool)(f:β):β:=match p with |true=>f |false=>z
noncomputable def isU(a:AV):Bool:=Nat.beq a.ctorIdx 0
noncomputable def l9(a:AV)(f:β):β:=AV.casesOn (motive_1:=λ_=>β) a z f (λ_=>f) (λ_=>f) (λ_=>f) f (λ_=>f) (λ_=>f) (λ_=>f) (λ_=>f) (λ_=>f) (λ_=>f) (λ_=>f) (λ_=>f) (λ_=>f) (λ_=>f)
noncomputable def g9{α:Type}(o:Option α)(f:α->β):β:=match o with |some a=>f a |none=>z
noncomputable def opI(o:Option AO)(f:Nat->(Nat->AV)->β):β:=g9 z o λb=>tg z b.ctorIdx 0 λe=>AO.inst.elim b e f
noncomputable def W6(o:Option AO)(f:List AV->β):β:=g9 z o λb=>tg z b.ctorIdx 1 λe=>AO.list.elim b e f
noncomputable def W9(o:Option AO)(f:List (Int×AV)->β):β:=g9 z o λb=>tg z b.ctorIdx 2 λe=>AO.idict.elim b e f
noncomputable def opT(o:Option AO)(f:List (List KA×Int)->β):β:=g9 z o λb=>tg z b.ctorIdx 3 λe=>AO.tdict.elim b e f
noncomputable def b4n(o:Option AO)(f:List (Int×AV)->β):β:=g9 z o λb=>tg z b.ctorIdx 5 λe=>AO.pidict.elim b e f
noncomputable def c13(o:Option AO)(f:List (List KA×Int)->β):β:=g9 z o λb=>tg z b.ctorIdx 6 λe=>AO.ptdict.elim b e f
noncomputable def R6(o:Option AO)(f:Nat->(Nat->AV)->Bool->β):β:=g9 z o λb=>tg z b.ctorIdx 4 λe=>AO.exc.elim b e f
noncomputable def u6{α:Type}(l:List α)(f:α->β):β:=List.casesOn (motive:=λ_=>β) l z λa r=>List.casesOn (motive:=λ_=>β) r (f a) λ_ _=>z
noncomputable def a1f{α:Type}(l:List α)(f:α->α->β):β:=List.casesOn (motive:=λ_=>β) l z λa r=>u6 z r (f a)
end
section
variable{β:Type}{z:β}{a:AV}(m:β->Prop)
theorem n3{f}(h:m (d8 z a f)){p:Prop}(k: ∀n,a= .int n->m (f n)->p)(k2:m z->p):p:=v9 m h (λe h=>AV.int.elim (motive_1:=λb=> ∀e,a=b->m (AV.int.elim b e f)->p) a e (λn _ e h=>k n e h) e rfl h) k2
theorem a61{f}(h:m (d8 z a f)):(∃n,a= .int n/\m (f n))\/m z:=n3 m h (λn e h=> .inl ⟨n,e,h⟩) .inr
theorem n6{f}(h:m (u9 z a f)){p:Prop}(k: ∀n,a= .bool n->m (f n)->p)(k2:m z->p):p:=v9 m h (λe h=>AV.bool.elim (motive_1:=λb=> ∀e,a=b->m (AV.bool.elim b e f)->p) a e (λn _ e h=>k n e h) e rfl h) k2
theorem b3j{f}(h:m (u9 z a f)):(∃n,a= .bool n/\m (f n))\/m z:=n6 m h (λn e h=> .inl ⟨n,e,h⟩) .inr
theorem P5{f}(h:m (K0 z a f)){p:Prop}(k: ∀n,a= .str n->m (f n)->p)(k2:m z->p):p:=v9 m h (λe h=>AV.str.elim (motive_1:=λb=> ∀e,a=b->m (AV.str.elim b e f)->p) a e (λn _ e h=>k n e h) e rfl h) k2
theorem b6g{f}(h:m (K0 z a f)):(∃n,a= .str n/\m (f n))\/m z:=P5 m h (λn e h=> .inl ⟨n,e,h⟩) .inr
theorem A6{f}(h:m (q9 z a f)){p:Prop}(k: ∀n,a= .bytes n->m (f n)->p)(k2:m z->p):p:=v9 m h (λe h=>AV.bytes.elim (motive_1:=λb=> ∀e,a=b->m (AV.bytes.elim b e f)->p) a e (λn _ e h=>k n e h) e rfl h) k2
theorem a9q{f}(h:m (q9 z a f)):(∃n,a= .bytes n/\m (f n))\/m z:=A6 m h (λn e h=> .inl ⟨n,e,h⟩) .inr
theorem b6i{f}(h:m (c4v z a f)){p:Prop}(k: ∀n,a= .fn n->m (f n)->p)(k2:m z->p):p:=AV.casesOn (motive_1:=λb=>a=b->m (c4v z b f)->p) a (λ_=>k2) (λ_=>k2) (λ_ _=>k2) (λ_ _=>k2) (λ_ _=>k2) (λ_=>k2) (λ_ _=>k2) (λn e h=>k n e h) (λ_ _=>k2) (λ_ _=>k2) (λ_ _=>k2) (λ_ _=>k2) (λ_ _=>k2) (λ_ _=>k2) (λ_ _=>k2) (λ_ _=>k2) rfl h
theorem a3f{f}(h:m (z9 z a f)){p:Prop}(k: ∀n,a= .cls n->m (f n)->p)(k2:m z->p):p:=AV.casesOn (motive_1:=λb=>a=b->m (z9 z b f)->p) a (λ_=>k2) (λ_=>k2) (λ_ _=>k2) (λ_ _=>k2) (λ_ _=>k2) (λ_=>k2) (λ_ _=>k2) (λ_ _=>k2) (λn e h=>k n e h) (λ_ _=>k2) (λ_ _=>k2) (λ_ _=>k2) (λ_ _=>k2) (λ_ _=>k2) (λ_ _=>k2) (λ_ _=>k2) rfl h
theorem a7f{f}(h:m (z9 z a f)):(∃n,a= .cls n/\m (f n))\/m z:=a3f m h (λn e h=> .inl ⟨n,e,h⟩) .inr
theorem a9g{f}(h:m (a3c z a f)){p:Prop}(k: ∀n,a= .bi n->m (f n)->p)(k2:m z->p):p:=AV.casesOn (motive_1:=λb=>a=b->m (a3c z b f)->p) a (λ_=>k2) (λ_=>k2) (λ_ _=>k2) (λ_ _=>k2) (λ_ _=>k2) (λ_=>k2) (λ_ _=>k2) (λ_ _=>k2) (λ_ _=>k2) (λn e h=>k n e h) (λ_ _=>k2) (λ_ _=>k2) (λ_ _=>k2) (λ_ _=>k2) (λ_ _=>k2) (λ_ _=>k2) rfl h
theorem a95{f}(h:m (a3c z a f)):(∃n,a= .bi n/\m (f n))\/m z:=a9g m h (λn e h=> .inl ⟨n,e,h⟩) .inr
theorem u0{f}(h:m (n4 z a f)){p:Prop}(k: ∀n,a= .obj n->m (f n)->p)(k2:m z->p):p:=AV.casesOn (motive_1:=λb=>a=b->m (n4 z b f)->p) a (λ_=>k2) (λ_=>k2) (λ_ _=>k2) (λ_ _=>k2) (λ_ _=>k2) (λ_=>k2) (λ_ _=>k2) (λ_ _=>k2) (λ_ _=>k2) (λ_ _=>k2) (λn e h=>k n e h) (λ_ _=>k2) (λ_ _=>k2) (λ_ _=>k2) (λ_ _=>k2) (λ_ _=>k2) rfl h
theorem a7n{f}(h:m (n4 z a f)):(∃n,a= .obj n/\m (f n))\/m z:=u0 m h (λn e h=> .inl ⟨n,e,h⟩) .inr
theorem y4{f}(h:m (q5 z a f)){p:Prop}(k: ∀n,a= .tup n->m (f n)->p)(k2:m z->p):p:=v9 m h (λe h=>AV.tup.elim (motive_1:=λb=> ∀e,a=b->m (AV.tup.elim b e f)->p) a e (λn _ e h=>k n e h) e rfl h) k2
theorem c0y{f}(h:m (q5 z a f)):(∃n,a= .tup n/\m (f n))\/m z:=y4 m h (λn e h=> .inl ⟨n,e,h⟩) .inr
theorem y3{f}(h:m (o4 z a f)){p:Prop}(k: ∀n,a= .lst n->m (f n)->p)(k2:m z->p):p:=v9 m h (λe h=>AV.lst.elim (motive_1:=λb=> ∀e,a=b->m (AV.lst.elim b e f)->p) a e (λn _ e h=>k n e h) e rfl h) k2
theorem a7q{f}(h:m (o4 z a f)):(∃n,a= .lst n/\m (f n))\/m z:=y3 m h (λn e h=> .inl ⟨n,e,h⟩) .inr
theorem b1f{f}(h:m (c12 z a f)){p:Prop}(k: ∀n,a= .arg n->m (f n)->p)(k2:m z->p):p:=v9 m h (λe h=>AV.arg.elim (motive_1:=λb=> ∀e,a=b->m (AV.arg.elim b e f)->p) a e (λn _ e h=>k n e h) e rfl h) k2
theorem c2q{f}(h:m (c5h z a f)){p:Prop}(k: ∀n,a= .rng n->m (f n)->p)(k2:m z->p):p:=v9 m h (λe h=>AV.rng.elim (motive_1:=λb=> ∀e,a=b->m (AV.rng.elim b e f)->p) a e (λn _ e h=>k n e h) e rfl h) k2
theorem c7a{f}(h:m (c1x z a f)){p:Prop}(k: ∀n,a= .sdict n->m (f n)->p)(k2:m z->p):p:=v9 m h (λe h=>AV.sdict.elim (motive_1:=λb=> ∀e,a=b->m (AV.sdict.elim b e f)->p) a e (λn _ e h=>k n e h) e rfl h) k2
theorem P6{f}(h:m (q6 z a f)){p:Prop}(k:a= .none->m f->p)(k2:m z->p):p:=v9 m h (λe h=>AV.none.elim (motive_1:=λb=>a=b->p) a e (λe=>k e h) rfl) k2
theorem a16{f}(h:m (q6 z a f)):(a= .none/\m f)\/m z:=P6 m h (λe h=> .inl ⟨e,h⟩) .inr
theorem Z2{b:Bool}{f}(h:m (c6 z b f)){p:Prop}(k:b=true->m f->p)(k2:m z->p):p:=Bool.casesOn (motive:=λc=>b=c->m (c6 z c f)->p) b (λ_=>k2) k rfl h
theorem X7{p:Bool}{f}(h:m (c6 z p f)):(p=true/\m f)\/m z:=Z2 m h (λe h=> .inl ⟨e,h⟩) .inr
theorem b5k(h:isU a=true):a= .undef:=AV.undef.elim (motive_1:=λa=>a= .undef) a (Nat.eq_of_beq_eq_true h) rfl
theorem b0y(z:β)(a:AV)(f:β):l9 z a f=c6 f (isU a) z:=by cases a<;>rfl
theorem a76{f}(hn:a≠ .undef)(h:m f):m (l9 z a f):=by
 rw[b0y];exact Bool.casesOn (motive:=λb=>isU a=b->m (c6 f b z)) (isU a) (λ_=>h) (λe=>absurd (b5k e) hn) rfl
theorem a02{f}(h:m (l9 z a f))(hz: ¬m z):a≠ .undef/\m f:=by
 rw[b0y]at h;exact Bool.casesOn (motive:=λb=>isU a=b->m (c6 f b z)->a≠ .undef/\m f) (isU a) (λe h=>⟨λz=>Bool.noConfusion (e.symm.trans (congrArg isU z)),h⟩) (λ_ h=>absurd h hz) rfl h
theorem j5{α:Type}{o:Option α}{f}(h:m (g9 z o f)){p:Prop}(k: ∀a,o=some a->m (f a)->p)(k2:m z->p):p:=Option.casesOn (motive:=λb=>o=b->m (g9 z b f)->p) o (λ_=>k2) k rfl h
theorem H6{α:Type}{o:Option α}{f}(h:m (g9 z o f)):(∃a,o=some a/\m (f a))\/m z:=j5 m h (λa e h=> .inl ⟨a,e,h⟩) .inr
variable{o:Option AO}
theorem b6p{f}(h:m (opI z o f)){p:Prop}(k: ∀u v,o=some (.inst u v)->m (f u v)->p)(k2:m z->p):p:=j5 m h (λb e0 h=>v9 m h (λe h=>AO.inst.elim (motive:=λb=> ∀e,o=some b->m (AO.inst.elim b e f)->p) b e (λu v _ e h=>k u v e h) e e0 h) k2) k2
theorem K9{f}(h:m (W6 z o f)){p:Prop}(k: ∀u,o=some (.list u)->m (f u)->p)(k2:m z->p):p:=j5 m h (λb e0 h=>v9 m h (λe h=>AO.list.elim (motive:=λb=> ∀e,o=some b->m (AO.list.elim b e f)->p) b e (λu _ e h=>k u e h) e e0 h) k2) k2
theorem c8u{f}(h:m (W6 z o f)):(∃u,o=some (.list u)/\m (f u))\/m z:=K9 m h (λu e h=> .inl ⟨u,e,h⟩) .inr
theorem K7{f}(h:m (W9 z o f)){p:Prop}(k: ∀u,o=some (.idict u)->m (f u)->p)(k2:m z->p):p:=j5 m h (λb e0 h=>v9 m h (λe h=>AO.idict.elim (motive:=λb=> ∀e,o=some b->m (AO.idict.elim b e f)->p) b e (λu _ e h=>k u e h) e e0 h) k2) k2
theorem c7e{f}(h:m (W9 z o f)):(∃u,o=some (.idict u)/\m (f u))\/m z:=K7 m h (λu e h=> .inl ⟨u,e,h⟩) .inr
theorem a05{f}(h:m (opT z o f)){p:Prop}(k: ∀u,o=some (.tdict u)->m (f u)->p)(k2:m z->p):p:=j5 m h (λb e0 h=>v9 m h (λe h=>AO.tdict.elim (motive:=λb=> ∀e,o=some b->m (AO.tdict.elim b e f)->p) b e (λu _ e h=>k u e h) e e0 h) k2) k2
theorem c76{f}(h:m (opT z o f)):(∃u,o=some (.tdict u)/\m (f u))\/m z:=a05 m h (λu e h=> .inl ⟨u,e,h⟩) .inr
theorem c8a{f}(h:m (b4n z o f)){p:Prop}(k: ∀u,o=some (.pidict u)->m (f u)->p)(k2:m z->p):p:=j5 m h (λb e0 h=>v9 m h (λe h=>AO.pidict.elim (motive:=λb=> ∀e,o=some b->m (AO.pidict.elim b e f)->p) b e (λu _ e h=>k u e h) e e0 h) k2) k2
theorem c87{f}(h:m (c13 z o f)){p:Prop}(k: ∀u,o=some (.ptdict u)->m (f u)->p)(k2:m z->p):p:=j5 m h (λb e0 h=>v9 m h (λe h=>AO.ptdict.elim (motive:=λb=> ∀e,o=some b->m (AO.ptdict.elim b e f)->p) b e (λu _ e h=>k u e h) e e0 h) k2) k2
theorem b0z{f}(h:m (R6 z o f)){p:Prop}(k: ∀u v w,o=some (.exc u v w)->m (f u v w)->p)(k2:m z->p):p:=j5 m h (λb e0 h=>v9 m h (λe h=>AO.exc.elim (motive:=λb=> ∀e,o=some b->m (AO.exc.elim b e f)->p) b e (λu v w _ e h=>k u v w e h) e e0 h) k2) k2
theorem c0x{f}(h:m (R6 z o f)):(∃u v w,o=some (.exc u v w)/\m (f u v w))\/m z:=b0z m h (λu v w e h=> .inl ⟨u,v,w,e,h⟩) .inr
theorem c0v{α:Type}{l:List α}{f}(h:m (u6 z l f)){p:Prop}(k: ∀a,l=[a]->m (f a)->p)(k2:m z->p):p:=List.casesOn (motive:=λb=>l=b->m (u6 z b f)->p) l (λ_=>k2) (λa r=>List.casesOn (motive:=λb=>l=a::b->m (u6 z (a::b) f)->p) r (k a) λ_ _ _=>k2) rfl h
theorem c2o{α:Type}{l:List α}{f}(h:m (u6 z l f)):(∃a,l=[a]/\m (f a))\/m z:=c0v m h (λa e h=> .inl ⟨a,e,h⟩) .inr
theorem c2v{α:Type}{l:List α}{f}(h:m (a1f z l f)):(∃a b,l=[a,b]/\m (f a b))\/m z:=List.casesOn (motive:=λb=>l=b->m (a1f z b f)->(∃a b,l=[a,b]/\m (f a b))\/m z) l (λ_=> .inr) (λa r e h=>c0v m h (λb e2 h=> .inl ⟨a,b,e.trans (congrArg _ e2),h⟩) .inr) rfl h
end
theorem an{a b:Bool}(h:(a&&b)=true):a=true/\b=true:=Bool.casesOn (motive:=λc=>a=c->(c&&b)=true->a=true/\b=true) a (λ_ h=>(Bool.false_ne_true h).elim) (λe h=>⟨e,h⟩) rfl h
theorem a8{g:Prop}(h: ∀p:Prop,(g->p)->p):g:=h g id
theorem q7{p:Prop}[Decidable p](h:decide p=true):p:=of_decide_eq_true h
noncomputable def small(a:Int):Bool:=decide (a.natAbs<2^60)
noncomputable def a1q(op:BOp)(a b:Int):Option Int:=match op with
 | .Add=>some (a+b) | .Sub=>some (a-b)
 | .Mult=>c6 none (small a||small b) (some (a*b))
 | .FloorDiv=>c6 none (decide (b≠0)&&small b) (some (a.fdiv b))
 | .Mod=>c6 none (decide (b≠0)) (some (a.fmod b))
 | .LShift=>c6 none (decide (0<=b)&&decide (b<=64)&&small a) (some (a*2^b.toNat))
 | .RShift=>c6 none (decide (0<=b)) (some (a.fdiv (2^b.toNat)))
 | .BitAnd=>some (Builtin.bitAnd a b) | .BitOr=>some (Builtin.bitOr a b)
 | .Pow=>c6 none (decide (0<=b)&&decide (b<=64)&&small a) (some (a^b.toNat))
 |_=>none
noncomputable def b88(o:BOp):Bool:=Nat.beq o.ctorIdx 0
noncomputable def b4s(o:BOp):Bool:=Nat.beq o.ctorIdx 2
noncomputable def n9(n:Nat):Bool:=decide (n<=100000)
noncomputable def c3j(op:BOp)(a b:AV)(J:H):R AV:=
 d8 (o4 (q5 (q9 .bad a λl=>d8 .bad b λn=>u6 .bad l λx=>c6 .bad (b4s op&&decide (0<=n)&&decide (n<=1000)) (.ok (.bytes (List.replicate n.toNat x)) J))
   a λx=>q5 .bad b λy=>c6 .bad (b88 op&&n9 (x.length+y.length)&& !x.isEmpty&& !y.isEmpty) (.ok (.tup (x++y)) J))
  a λx=>o4 (d8 .bad b λn=>c6 .bad (b4s op&&decide (0<=n)&&decide (n<=1)&&n9 x.length) (.ok (.lst (if n=1 then x else [])) J)) b λy=>c6 .bad (b88 op&&n9 (x.length+y.length)) (.ok (.lst (x++y)) J))
 a λx=>d8 .bad b λy=>g9 .bad (a1q op x y) λr=> .ok (.int r) J
noncomputable def c89(a:AV):Option PyData:=d8 (u9 none a λb=>some (.bool b)) a λn=>some (.int n)
noncomputable def a36(f:AV->Option PyData):List AV->Option (List PyData)
 |[]=>some []
 |a::r=>g9 none (f a) λx=>g9 none (a36 f r) λy=>some (x::y)
noncomputable def U9(a:AV):Option PyData:=q5 (c89 a) a λl=>(a36 c89 l).map .tuple
noncomputable def a5u(a:AV):Option PyData:=o4 (c12 (U9 a) a λl=>some (.list (l.map .int))) a λl=>(a36 U9 l).map .list
noncomputable def eqD(a b:AV):Option Bool:=g9 none (a5u a) λx=>g9 none (a5u b) λy=>some (PyData.eqv x y)
@[irreducible] noncomputable def eqA(a b:AV):Option Bool:=K0 (eqD a b) a λx=>K0 (eqD a b) b λy=>some (x==y)
noncomputable def items(J:H)(a:AV):Option (List AV):=o4 (q5 (n4 none a λid=>W6 none J[id]? some) a some) a some
noncomputable def D9(J:H)(v:AV):AV:=n4 v v λid=>W6 (.obj id) J[id]? .lst
noncomputable def inL(x:AV)(l:List AV):Option Bool:=g9 none (a36 U9 l) λxs=>g9 none (U9 x) λd=>some (xs.any λy=>PyData.eqv y d)
noncomputable def a9{α:Type}[DecidableEq α]{β:Type}(d:List (α×β))(k:α):Option β:=(d.find? λp=>p.1=k).map (·.2)
noncomputable def i5{α:Type}[DecidableEq α]{β:Type}(d:List (α×β))(k:α)(v:β):List (α×β):=
 if d.any (λp=>p.1=k)then d.map (λp=>if p.1=k then (p.1,v)else p)else d++[(k,v)]
noncomputable def o8{α:Type}[DecidableEq α]{β:Type}(d:List (α×β))(k:α):List (α×β):=d.filter λp=>p.1≠k
noncomputable def c8y(a:AV):Option KA:=d8 (K0 none a λx=>some (.s x)) a λn=>some (.i n)
noncomputable def s5:List AV->Option (List KA)
 |[]=>some []
 |a::r=>g9 none (c8y a) λx=>g9 none (s5 r) λy=>some (x::y)
noncomputable def v8:KA->AV | .i n=> .int n | .s x=> .str x
noncomputable def a0a:R AV->R AV
 | .ok a J=>u9 .bad a λb=> .ok (.bool !b) J
 | .exc id J=> .exc id J
 | .bad=> .bad
noncomputable def Y8(a b:AV)(J:H):R AV:=
 n4 (o4 .bad b λl=>g9 .bad (inL a l) λy=> .ok (.bool y) J) b λid=>
  W9 (W6 .bad J[id]? λl=>g9 .bad (inL a l) λy=> .ok (.bool y) J) J[id]? λd=>d8 .bad a λk=> .ok (.bool (a9 d k).isSome) J
noncomputable def I7(a b:AV)(J:H):R AV:=l9 .bad a (q6 .bad b (.ok (.bool (q6 false a true)) J))
noncomputable def a84(a b:AV)(J:H)(f:Int->Int->Bool):R AV:=d8 .bad a λx=>d8 .bad b λy=> .ok (.bool (f x y)) J
noncomputable def a7c(a b:AV)(J:H):R AV:=g9 .bad (eqA (D9 J a) (D9 J b)) λx=> .ok (.bool x) J
noncomputable def w0(op:COp)(a b:AV)(J:H):R AV:=match op with
 | .Lt=>a84 a b J λx y=>decide (x<y)
 | .LtE=>a84 a b J λx y=>decide (x<=y)
 | .Gt=>a84 a b J λx y=>decide (y<x)
 | .GtE=>a84 a b J λx y=>decide (y<=x)
 | .Eq=>a7c a b J
 | .NotEq=>a0a (a7c a b J)
 | .In=>Y8 a b J
 | .NotIn=>a0a (Y8 a b J)
 | .Is=>I7 a b J
 | .IsNot=>a0a (I7 a b J)
noncomputable def c7n(v:AV):Option Bool:=u9 (d8 (q6 none v (some false)) v λi=>some (i != 0)) v some
noncomputable def fits(n:Int):Bool:=decide (0<=n)&&decide (n<2^60)
noncomputable def nth(l:List AV)(n:Int)(J:H):R AV:=c6 .bad (fits n) (g9 .bad l[n.toNat]? λv=> .ok v J)
noncomputable def a67{β:Type}(z:β)(i:AV)(f:List KA->β):β:=q5 z i λks=>g9 z (s5 ks) f
noncomputable def a8p(o:Option AO)(i:AV)(J:H):R AV:=
 W6 (W9 (opT (b4n (c13 .bad o λd=>a67 .bad i λk=>g9 .bad (a9 d k) λv=> .ok (.int v) J)
   o λd=>d8 .bad i λn=>g9 .bad (a9 d n) λv=> .ok v J)
  o λd=>a67 .bad i λk=>g9 .bad (a9 d k) λv=> .ok (.int v) J)
  o λd=>d8 .bad i λn=>g9 .bad (a9 d n) λv=> .ok v J)
 o λl=>d8 .bad i λn=>nth l n J
noncomputable def a2v(o i:AV)(J:H):R AV:=
 o4 (q5 (c1x (n4 .bad o λid=>a8p J[id]? i J)
   o λd=>K0 .bad i λx=>g9 .bad (a9 d x) λv=> .ok (.int v) J)
  o λl=>d8 .bad i λn=>nth l n J)
 o λl=>d8 .bad i λn=>nth l n J
noncomputable def b5b(o i v:AV)(J:H):Option H:=n4 none o λid=>
 W6 (W9 (opT none J[id]? λd=>a67 none i λk=>d8 none v λn=>c6 none (n9 d.length) (some (J.set id (.tdict (i5 d k n)))))
  J[id]? λd=>d8 none i λn=>c6 none (n9 d.length) (some (J.set id (.idict (i5 d n v)))))
 J[id]? λl=>d8 none i λn=>c6 none (decide (0<=n)&&decide (n.toNat<l.length)&&n9 l.length) (some (J.set id (.list (l.set n.toNat v))))
noncomputable def a0n(fld fldE:Nat->Nat->Bool)(o:AV)(x:Nat)(J:H):R AV:=n4 .bad o λid=>
 opI (R6 .bad J[id]? λc f _=>c6 .bad (fldE c x) (l9 .bad (f x) (.ok (f x) J)))
 J[id]? λc f=>c6 .bad (fld c x) (l9 .bad (f x) (.ok (f x) J))
noncomputable def A7(fld fldE:Nat->Nat->Bool)(o:AV)(x:Nat)(v:AV)(J:H):Option H:=n4 none o λid=>
 opI (R6 none J[id]? λc f b=>c6 none (!b&&fldE c x&&decide (x<256)) (some (J.set id (.exc c (upd f x v) false))))
 J[id]? λc f=>c6 none (fld c x&&decide (x<256)) (some (J.set id (.inst c (upd f x v))))
noncomputable def M3:List AV->Option (List Int)
 |[]=>some []
 |a::r=>d8 none a λn=>(M3 r).map (n:: ·)
noncomputable def d13:List Int->List Int->Bool
 |[],[]=>false
 |[],_::_=>true
 |_::_,[]=>false
 |a::r,b::q=>if a=b then d13 r q else decide (a<b)
noncomputable def b2o(le:α->α->Bool)(x:α):List α->List α
 |[]=>[x]
 |y::r=>if le x y then x::y::r else y::b2o le x r
noncomputable def K8(le:α->α->Bool):List α->List α
 |[]=>[]
 |x::r=>b2o le x (K8 le r)
noncomputable def c7j:List AV->Option (List (List Int))
 |[]=>some []
 |a::r=>q5 none a λl=>g9 none (M3 l) λx=>(c7j r).map (x:: ·)
noncomputable def A1(n:Nat):Bool:=decide (n<=1000000)
noncomputable def c71(J:H)(a:AV):R AV:=
 o4 (q9 (n4 .bad a λid=>W6 (opT .bad J[id]? λd=>c6 .bad (A1 d.length) (.ok (.int d.length) J)) J[id]? λl=>c6 .bad (A1 l.length) (.ok (.int l.length) J))
  a λl=>c6 .bad (A1 l.length) (.ok (.int l.length) J))
 a λl=>c6 .bad (A1 l.length) (.ok (.int l.length) J)
noncomputable def c3b(J:H)(a:AV):R AV:=
 n4 .bad a λid=>W9 .bad J[id]? λd=>c6 .bad (decide (d.length<64)) (.ok (.lst ((K8 (λa b=>decide (a<b)) (d.map (·.1))).map .int)) J)
noncomputable def biA(b:BI)(args:List AV)(J:H):R AV:=match b with
 | .Add=>u6 .bad args (c71 J)
 | .Sub=>a1f .bad args λa b=>d8 .bad a λa=>d8 .bad b λb=> .ok (.int (if b<a then b else a)) J
 | .Mult=>a1f .bad args λa b=>d8 .bad a λa=>d8 .bad b λb=> .ok (.int (if a<b then b else a)) J
 | .MatMult=>u6 .bad args λa=>d8 .bad a λa=> .ok (.int a.natAbs) J
 | .Div=>u6 .bad args λa=>o4 .bad a λl=>g9 .bad (M3 l) λxs=> .ok (.int xs.sum) J
 | .Mod=>u6 .bad args λa=>d8 .bad a λn=> .ok (.rng n) J
 | .LShift=>u6 .bad args λa=>u9 .bad a λb=> .ok (.int (if b then 1 else 0)) J
 | .RShift=>u6 .bad args λa=>d8 .bad a λn=> .ok (.bool (n != 0)) J
 | .BitOr=>u6 .bad args λa=>o4 .bad a λl=>u6 .bad l λc=>d8 .bad c λn=>c6 .bad (decide (0<=n)&&decide (n<256)) (.ok (.bytes [n.toNat]) J)
 | .Pow=>u6 .bad args (c3b J)
 |_=> .bad
end
section
noncomputable abbrev nAppend:Nat:=0
noncomputable abbrev nExtend:Nat:=1
noncomputable abbrev nGet:Nat:=2
noncomputable abbrev nPop:Nat:=3
noncomputable def s6(o:Option AO)(n:Nat):Option String:=match n with
 |0=>W6 none o λ_=>some "list.append"
 |1=>W6 none o λ_=>some "list.extend"
 |2=>W9 (opT none o λ_=>some "dict.get") o λ_=>some "dict.get"
 |3=>W9 none o λ_=>some "dict.pop"
 |_=>none
noncomputable def W8(id:Nat)(J:H)(args:List AV):R AV:=u6 .bad args λv=>W6 .bad J[id]? λl=>c6 .bad (n9 l.length) (.ok .none (J.set id (.list (l++[v]))))
noncomputable def b1q(id:Nat)(J:H)(args:List AV):R AV:=u6 .bad args λv=>n4 .bad v λj=>W6 .bad J[id]? λl=>W6 .bad J[j]? λq=>
 c6 .bad (decide (j≠id)&&n9 (l.length+q.length)) (.ok .none (J.set id (.list (l++q))))
noncomputable def a7p(id:Nat)(J:H)(args:List AV):R AV:=W9
 (opT .bad J[id]? λd=>u6 .bad args λk=>q5 .bad k λks=>g9 .bad (s5 ks) λk=> .ok (g9 .none (a9 d k) .int) J)
 J[id]? λd=>u6 (a1f .bad args λk v=>d8 .bad k λk=> .ok (g9 v (a9 d k) λv=>v) J) args λk=>d8 .bad k λk=> .ok (g9 .none (a9 d k) λv=>v) J
noncomputable def c24(id:Nat)(J:H)(args:List AV):R AV:=W9 .bad J[id]? λd=>c6 .bad (n9 d.length)
 (u6 (a1f .bad args λk v=>d8 .bad k λk=> .ok (g9 v (a9 d k) λv=>v) (J.set id (.idict (o8 d k)))) args λk=>d8 .bad k λk=>g9 .bad (a9 d k) λv=> .ok v (J.set id (.idict (o8 d k))))
noncomputable def a0k(id name:Nat)(args:List AV)(J:H):R AV:=match name with
 |0=>W8 id J args
 |1=>b1q id J args
 |2=>a7p id J args
 |3=>c24 id J args
 |_=> .bad
noncomputable def R.tru(r:R AV):R Bool:=r.bind λv J=>g9 .bad (c7n v) λb=> .ok b J
noncomputable def T0{α:Type}(o:Option α)(l:List α):List α:=match o with |some y=>y::l |none=>l
noncomputable def okO{α β:Type}(r:R α)(k:α->H->R β):R β:=R.casesOn (motive:=λ_=>R β) r k (λ_ _=> .bad) .bad
theorem b8k{α β:Type}{r:R α}{k:α->H->R β}{y:β}{aJ:H}(h:okO r k= .ok y aJ): ∃a J,r= .ok a J/\k a J= .ok y aJ:=by cases r<;>first |exact⟨_,_,rfl,h⟩ |cases h
theorem c0p{α β:Type}{r:R α}{k:α->H->R β}{id:Nat}{aJ:H}(h: ∀a J,k a J≠ .exc id aJ):okO r k≠ .exc id aJ:=by cases r<;>first |exact h _ _ |exact nofun
noncomputable def j9{α:Type}(f:AV->H->R (Option α)):List AV->H->R (List α)
 |[],J=> .ok [] J
 |x::r,J=>okO (f x J) λo af=>okO (j9 f r af) λl ax=> .ok (T0 o l) ax
noncomputable def l8(f:AV->Loc->H->RS):List AV->Loc->H->RS
 |[],l,J=> .next l J
 |x::r,l,J=>match f x l J with
  | .next aq af=>l8 f r aq af
  | .cont aq af=>l8 f r aq af
  | .ret v af=> .ret v af
  |_=> .bad
noncomputable def n7(t:Loc->H->R Bool)(f:Loc->H->RS):Nat->Loc->H->RS
 |0,_,_=> .bad
 |n+1,l,J=>match t l J with
  | .ok false af=> .next l af
  | .ok true af=>(match f l af with
   | .next aP ax=>n7 t f n aP ax
   | .cont aP ax=>n7 t f n aP ax
   |_=> .bad)
  |_=> .bad
noncomputable def only(free:List Nat)(l:Loc):Loc:=λx=>if free.contains x then l x else .undef
noncomputable def d1n:COp->Bool | .isIn=>false | .notIn=>false |_=>true
mutual
noncomputable def p7:ME->Bool
 | .int _ | .str _ | .none | .bool _ | .loc _ | .glo _=>true
 | .bin _ a b=>p7 a&&p7 b
 | .cmp op a b=>d1n op&&p7 a&&p7 b
 | .idx a b=>p7 a&&p7 b
 | .tup es=>pureEs es
 | .attr a _=>p7 a
 |_=>false
noncomputable def pureEs:MEs->Bool
 | .nil=>true
 | .cons e r=>p7 e&&pureEs r
end
noncomputable def G5:MBs->Bool
 | .nil=>true
 | .cons (.of e) r=>p7 e&&G5 r
 |_=>false
noncomputable def b6s(J:H)(a:AV):Option (List AV×Bool):=
 o4 (q5 (n4 none a λid=>W9 (opT none J[id]? λd=>some (d.map λp=> .tup (p.1.map v8),true)) J[id]? λd=>some (d.map λp=> .int p.1,true))
  a λl=>some (l,false)) a λl=>some (l,false)
noncomputable def b3w(a:AV):Option (List AV):=
 o4 (q5 (c5h (q9 none a λl=>some (l.map λi=> .int (i:Nat)))
  a λn=>c6 none (decide (0<=n)&&decide (n<=100000)) (some ((List.range n.toNat).map λi=> .int (i:Nat)))) a some) a some
noncomputable def a6g(C:Cx)(g:AV)(vs:List AV)(J:H):R AV:=
 c4v (a3c (z9 .bad g λc=>g9 .bad (C.T.init c) λi=>(C.call i (.obj J.length::vs) (J++[match C.T.isExc c with |true=> .exc c (λ_=> .undef) false |false=> .inst c (λ_=> .undef)])).bind λr ae=>q6 .bad r (.ok (.obj J.length) ae))
  g λb=>c6 .bad C.hz (biA b vs J)) g λi=>C.call i vs J
noncomputable def d2d(b:BI):Bool:=Nat.beq b.ctorIdx 11
noncomputable def d4t(ix:Nat->Bool)(vs:List AV)(J:H):R AV:=a1f .bad vs λo a=>n4 .bad o λid=>R6 .bad J[id]? λc _ b=>c6 .bad (ix c&& !b) (.ok .none J)
noncomputable def d4f(x y:AV)(J:H):R AV:=d8 .bad y λn=>c6 .bad (decide (0<=n))
 (o4 (c12 .bad x λq=>c6 .bad (A1 q.length) (.ok (.lst ((q.take n.toNat).map .int)) J)) x λq=>c6 .bad (A1 q.length) (.ok (.lst (q.take n.toNat)) J))
noncomputable def cutA(x y z:AV)(J:H):R AV:=q9 .bad x λq=>d8 .bad y λn=>d8 .bad z λm=>c6 .bad (decide (0<=n)&&decide (n<=m)&&A1 q.length) (.ok (.bytes ((q.drop n.toNat).take (m-n).toNat)) J)
noncomputable def revA(x:AV)(J:H):R AV:=q9 .bad x λq=>c6 .bad (A1 q.length) (.ok (.bytes q.reverse) J)
noncomputable def tstA(a:AV)(J:H):R Bool:=u9 .bad a λb=> .ok b J
mutual
noncomputable def a6(C:Cx)(l:Loc):ME->H->R AV
 | .int i,J=> .ok (.int i) J
 | .str x,J=> .ok (.str x) J
 | .none,J=> .ok .none J
 | .bool b,J=> .ok (.bool b) J
 | .loc x,J=>l9 .bad (l x) (.ok (l x) J)
 | .glo x,J=>l9 .bad (C.T.glob x) (.ok (C.T.glob x) J)
 | .bin op a b,J=>(a6 C l a J).bind λx J=>(a6 C l b J).bind λy J=>c3j op x y J
 | .neg a,J=>(a6 C l a J).bind λx J=>d8 .bad x λn=> .ok (.int (-n)) J
 | .inv a,J=>(a6 C l a J).bind λx J=>d8 .bad x λn=> .ok (.int (Builtin.bitNot n)) J
 | .not t,J=>(tstE C l t J).bind λb J=> .ok (.bool !b) J
 | .boolop k es,J=>boolE C l k es J
 | .cmp op a b,J=>(a6 C l a J).bind λx J=>(a6 C l b J).bind λy J=>w0 op x y J
 | .chain a aO b aT c,J=>(a6 C l a J).bind λx J=>(a6 C l b J).bind λy J=>(w0 aO x y J).bind λr J=>
  u9 .bad r λr=>match r with |true=>(a6 C l c J).bind λz J=>w0 aT y z J |false=> .ok (.bool false) J
 | .ite t a b,J=>(tstE C l t J).bind λx J=>match x with |true=>a6 C l a J |false=>a6 C l b J
 | .call f args,J=>(a6 C l f J).bind λg J=>(evalEs C l args J).bind λvs J=>a6g C g vs J
 | .meth o n args,J=>(a6 C l o J).bind λx J=>n4 .bad x λid=>
  opI (g9 .bad (s6 J[id]? n) λb=>(evalEs C l args J).bind λvs ae=>c6 .bad (s6 ae[id]? n==some b) (a0k id n vs ae))
  J[id]? λc f=>g9 .bad (C.T.meth c n) λi=>c6 .bad (isU (f n)) ((evalEs C l args J).bind λvs ae=>C.call i (.obj id::vs) ae)
 | .initOf g args,J=>z9 (a3c .bad (C.T.glob g) λb=>c6 .bad (d2d b) ((evalEs C l args J).bind λvs J=>d4t C.T.isExc vs J))
  (C.T.glob g) λc=>c6 .bad (C.T.isExc c) (g9 .bad (C.T.init c) λi=>(evalEs C l args J).bind λvs J=>C.call i vs J)
 | .attr o n,J=>(a6 C l o J).bind λx J=>a0n C.T.fld C.T.fldE x n J
 | .idx o i,J=>(a6 C l o J).bind λx J=>(a6 C l i J).bind λy J=>a2v x y J
 | .sliceTo o hi,J=>(a6 C l o J).bind λx J=>(a6 C l hi J).bind λy J=>d4f x y J
 | .slice2 o lo hi,J=>(a6 C l o J).bind λx J=>(a6 C l lo J).bind λy J=>(a6 C l hi J).bind λz J=>cutA x y z J
 | .rev o,J=>(a6 C l o J).bind λx J=>revA x J
 | .tup es,J=>(evalEs C l es J).bind λvs J=> .ok (.tup vs) J
 | .lstF es,J=>(evalEs C l es J).bind λvs J=> .ok (.lst vs) J
 | .lstM es,J=>(evalEs C l es J).bind λvs J=> .ok (.obj J.length) (J++[.list vs])
 | .dict0,J=> .ok (.obj J.length) (J++[.idict []])
 | .dictT,J=> .ok (.obj J.length) (J++[.tdict []])
 | .lcomp x free it conds elt,J=>(a6 C l it J).bind λv J=>g9 .bad (b6s J v) λp=>
   c6 .bad (C.hz&&n9 p.1.length&&(!p.2||(G5 conds&&p7 elt)))
   ((j9 (λa J=>(allE C (upd (only free l) x a) conds J).bind λb J=>match b with
    |true=>(a6 C (upd (only free l) x a) elt J).bind λy J=> .ok (some y) J
    |false=> .ok none J) p.1 J).bind λys J=> .ok (.lst ys) J)
 | .dcomp x free it conds key val,J=>(a6 C l it J).bind λv J=>g9 .bad (b6s J v) λp=>
   c6 .bad (C.hz&&n9 p.1.length&&(G5 conds&&p7 key&&p7 val))
   ((j9 (λa J=>(allE C (upd (only free l) x a) conds J).bind λb J=>match b with
    |true=>(a6 C (upd (only free l) x a) key J).bind λy J=>(a6 C (upd (only free l) x a) val J).bind λz J=>a67 .bad y λk=>d8 .bad z λn=> .ok (some (k,n)) J
    |false=> .ok none J) p.1 J).bind λys J=> .ok (.obj J.length) (J++[.tdict (ys.foldl (λd p=>i5 d p.1 p.2) [])]))
 | .fstr es,J=>fstrE C l es J
noncomputable def evalEs(C:Cx)(l:Loc):MEs->H->R (List AV)
 | .nil,J=> .ok [] J
 | .cons e r,J=>(a6 C l e J).bind λv J=>(evalEs C l r J).bind λvs J=> .ok (v::vs) J
noncomputable def fstrE(C:Cx)(l:Loc):MEs->H->R AV
 | .nil,J=> .ok .text J
 | .cons e r,J=>(a6 C l e J).bind λv J=>d8 .bad v λn=>c6 .bad (small n) (fstrE C l r J)
noncomputable def boolE(C:Cx)(l:Loc)(k:Bool):MEs->H->R AV
 | .nil,_=> .bad
 | .cons e r,J=>(a6 C l e J).bind λv J=>match r with
  | .nil=> .ok v J
  |_=>g9 .bad (c7n v) λb=>match b==k with |true=>boolE C l k r J |false=> .ok v J
noncomputable def tstE(C:Cx)(l:Loc):MB->H->R Bool
 | .of e,J=>(a6 C l e J).tru
 | .not a,J=>(tstE C l a J).bind λb J=> .ok (!b) J
 | .ops k es,J=>tstEs C l k es J
 | .ite t a b,J=>(tstE C l t J).bind λx J=>match x with |true=>tstE C l a J |false=>tstE C l b J
 | .chain3 a aO b aT c bH d,J=>(a6 C l a J).bind λx J=>(a6 C l b J).bind λy J=>(w0 aO x y J).bind λr J=>
  u9 .bad r λr=>match r with
   |true=>(a6 C l c J).bind λz J=>(w0 aT y z J).bind λr J=>u9 .bad r λr=>match r with
    |true=>(a6 C l d J).bind λw J=>(w0 bH z w J).bind tstA
    |false=> .ok false J
   |false=> .ok false J
noncomputable def tstEs(C:Cx)(l:Loc)(k:Bool):MBs->H->R Bool
 | .nil,J=> .ok k J
 | .cons e r,J=>(tstE C l e J).bind λb J=>match b==k with |true=>tstEs C l k r J |false=> .ok b J
noncomputable def allE(C:Cx)(l:Loc):MBs->H->R Bool
 | .nil,J=> .ok true J
 | .cons e r,J=>(tstE C l e J).bind λb J=>match b with |true=>allE C l r J |false=> .ok false J
end
noncomputable def v7:List Nat->List AV->Loc->Option Loc
 |[],[],l=>some l
 |x::xs,v::vs,l=>v7 xs vs (upd l x v)
 |_,_,_=>none
noncomputable def v5(C:Cx)(v:AV):MT->Loc->H->R Loc
 | .name x,l,J=> .ok (upd l x v) J
 | .cname x,l,J=>c6 .bad (isU (l x)) (.ok (upd l x v) J)
 | .attr o n,l,J=>(a6 C l o J).bind λa J=>g9 .bad (A7 C.T.fld C.T.fldE a n v J) λae=> .ok l ae
 | .idx o i,l,J=>(a6 C l o J).bind λa J=>(a6 C l i J).bind λb J=>g9 .bad (b5b a b v J) λae=> .ok l ae
 | .names xs,l,J=>c6 .bad C.hz (o4 (q5 .bad v λvs=>g9 .bad (v7 xs vs l) λl'=> .ok l' J) v λvs=>g9 .bad (v7 xs vs l) λl'=> .ok l' J)
noncomputable def R.then(r:R AV)(l:Loc)(f:AV->H->RS):RS:=match r with
 | .ok v J=>f v J
 | .exc id J=> .exc id l J
 | .bad=> .bad
noncomputable def R.thenB(r:R Bool)(l:Loc)(f:Bool->H->RS):RS:=match r with
 | .ok v J=>f v J
 | .exc id J=> .exc id l J
 | .bad=> .bad
noncomputable def R.thenL(r:R Loc)(l:Loc):RS:=match r with
 | .ok l' J=> .next l' J
 | .exc id J=> .exc id l J
 | .bad=> .bad
noncomputable def E0(id:Nat)(J:H):H:=R6 J J[id]? λc f _=>J.set id (.exc c f true)
noncomputable def quiet(C:Cx):Cx:={ C with call:=λ_ _ _=> .bad,hz:=false }
noncomputable def RS.caught(keep:Bool):RS->RS
 | .next l J=>match keep with |true=> .next l J |false=> .bad
 | .ret v J=> .ret v J
 |_=> .bad
noncomputable def RS.orTry(r:RS)(f:Nat->Loc->H->RS):RS:=match r with
 | .exc id l J=>f id l J
 | .next l J=> .next l J
 | .ret v J=> .ret v J
 | .cont l J=> .cont l J
 | .bad=> .bad
noncomputable def RS.and(r:RS)(f:Loc->H->RS):RS:=match r with
 | .next l J=>f l J
 | .exc id l J=> .exc id l J
 | .ret v J=> .ret v J
 | .cont l J=> .cont l J
 | .bad=> .bad
noncomputable def asL(as:Option Nat)(id:Nat)(l:Loc):Loc:=match as with |none=>l |some x=>upd l x (.obj id)
mutual
noncomputable def a60(C:Cx):MS->Loc->H->RS
 | .assign t e,l,J=>(a6 C l e J).then l λv J=>(v5 C v t l J).thenL l
 | .aug x e,l,J=>d8 .bad (l x) λa=>(a6 C l e J).then l λv J=>d8 .bad v λb=> .next (upd l x (.int (a+b))) J
 | .augAttr o n e,l,J=>l9 .bad (l o) ((a0n C.T.fld C.T.fldE (l o) n J).then l λx J=>(a6 C l e J).then l λv J=>d8 .bad x λi=>d8 .bad v λj=>
   g9 .bad (A7 C.T.fld C.T.fldE (l o) n (.int (i+j)) J) λae=> .next l ae)
 | .expr e,l,J=>(a6 C l e J).then l λ_ J=> .next l J
 | .ret e,l,J=>(a6 C l e J).then l λv J=> .ret v J
 | .retNone,l,J=> .ret .none J
 | .ifS t a b,l,J=>(tstE C l t J).thenB l λx J=>match x with |true=>execB C a l J |false=>execB C b l J
 | .forS xs it body,l,J=>c6 .bad C.hz ((a6 C l it J).then l λv J=>g9 .bad (b3w v) λvs=>
   l8 (λa l J=>match v5 C a xs l J with | .ok l' ae=>execB C body l' ae |_=> .bad) vs l J)
 | .forEnum g i x it body,l,J=>c6 .bad C.hz (a3c .bad (C.T.glob g) λb=>match b with
  | .enum=>(a6 C l it J).then l λv J=>o4 .bad v λvs=>l8 (λa l J=>q5 .bad a λp=>a1f .bad p λk v=>execB C body (upd (upd l i k) x v) J) (vs.zipIdx.map λp=> .tup [.int (p.2:Nat),p.1]) l J
  |_=> .bad)
 | .whileS n t body,l,J=>n7 (λl J=>tstE C l t J) (λl J=>execB C body l J) n l J
 | .raise e,l,J=>c6 .bad C.hz ((a6 C l e J).then l λv J=>n4 .bad v λid=>R6 .bad J[id]? λc f b=>c6 .bad (!b&&C.T.isExc c) (.exc id l J))
 | .tryS body g as h,l,J=>(execB C body l J).orTry λid l J=>R6 .bad J[id]? λc f fl=>z9 .bad (C.T.glob g) λd=>
   c6 .bad (C.hz&&C.T.isExc c&&C.T.sub c d) ((execB (quiet C) h (asL as id l) (E0 id J)).caught as.isNone)
 | .cont,l,J=> .cont l J
 | .pass,l,J=> .next l J
 | .dead,_,_=> .bad
noncomputable def execB(C:Cx):MSs->Loc->H->RS
 | .nil,l,J=> .next l J
 | .cons s r,l,J=>(a60 C s l J).and λl J=>execB C r l J
end
noncomputable def D6:List Nat->List AV->List AV->Loc->Option Loc
 |[],_,[],l=>some l
 |x::xs,ds,v::vs,l=>D6 xs ds vs (upd l x v)
 |x::xs,ds,[],l=>c6 none (decide (xs.length<ds.length)) (g9 none ds[ds.length-1-xs.length]? λd=>D6 xs ds [] (upd l x d))
 |[],_,_::_,_=>none
noncomputable def RS.back(r:RS):R AV:=match r with
 | .next _ J=> .ok .none J
 | .ret v J=> .ok v J
 | .exc id _ J=>R6 .bad J[id]? λ_ _ _=> .exc id (E0 id J)
 |_=> .bad
noncomputable def a7(T:Tab):Nat->Nat->List AV->H->R AV
 |0,_,_,_=> .bad
 |n+1,f,args,J=>g9 .bad (T.fn f) λr=>g9 .bad (D6 r.params r.defaults args (λ_=> .undef)) λl=>(execB ⟨a7 T n,true,T⟩ r.body l J).back
end
section
structure Adr where
 nm:Nat->Str
 inj: ∀x y,nm x=nm y->x=y
 fnA:Nat->Addr
 clsA:Nat->Addr
structure Par where
 prog:Program
 w:World
 D:Adr
 base:Heap
 cq:Array GenState
 bX:OsState
 K:Frag
noncomputable abbrev Par.M(P:Par):Model:=model P.prog P.w
inductive Own |none |fz (o:Obj) |ob (id:Nat) |fr (k:Nat) |he (k:Nat) |ce (k:Nat)
structure Gh where
 ρ:Nat->Option (Addr×Addr)
 own:Addr->Own
structure Gh.le (G G':Gh):Prop where
 fz: ∀a o,G.own a= .fz o->G'.own a= .fz o
 rho: ∀i p,G.ρ i=some p->G'.ρ i=some p
theorem Gh.le.refl(G:Gh):G.le G:=⟨λ_ _ h=>h,λ_ _ h=>h⟩
theorem Gh.le.trans{G G' G'':Gh}(x:G.le G')(y:G'.le G''):G.le G'':=
 ⟨λa o h=>y.fz a o (x.fz a o h),λi p h=>y.rho i p (x.rho i p h)⟩
theorem R9{n i:Nat}(h:i<n):n+1-(i+1)<n+1-i:=Nat.sub_lt_sub_left (Nat.lt_succ_of_lt h) (Nat.lt_succ_self i)
theorem b1l{n i:Nat}(h:i<=n)(h': ¬i<n):i=n:=Nat.le_antisymm h (Nat.le_of_not_lt h')
noncomputable def biV:BI->Value
 | .Add=> .builtin "len" | .Sub=> .builtin "min" | .Mult=> .builtin "max" | .MatMult=> .builtin "abs" | .Div=> .builtin "sum"
 | .Mod=> .type "range" | .Pow=> .builtin "sorted" | .LShift=> .type "int" | .RShift=> .type "bool" | .BitOr=> .type "bytes" | .BitXor=> .type "enumerate" |_=> .type "ValueError"
section
variable(Pp:Par)
mutual
noncomputable def VR(G:Gh):AV->Value->Prop
 | .undef,_=>False
 | .none,v=>v= .none
 | .bool b,v=>v= .bool b
 | .int i,v=> ∃t,v= .int i t
 | .str x,v=> ∃t,v= .str (Pp.D.nm x) t
 | .text,v=> ∃x t,v= .str x t
 | .bytes l,v=> ∃b t,v= .bytes b t/\b.toList.map UInt8.toNat=l
 | .fn f,v=>v= .ref (Pp.D.fnA f)
 | .cls c,v=>v= .ref (Pp.D.clsA c)
 | .bi b,v=>v=biV b
 | .obj id,v=> ∃p,G.ρ id=some p/\v= .ref p.1
 | .tup l,v=> ∃a vs n,v= .ref a/\G.own a= .fz ⟨.type "tuple",none, .seq (Array.mk vs) n, #[]⟩/\VRs G l vs
 | .lst l,v=> ∃a vs n,v= .ref a/\G.own a= .fz ⟨.type "list",none, .seq (Array.mk vs) n, #[]⟩/\VRs G l vs
 | .arg l,v=> ∃a o vs n,v= .ref a/\G.own a= .fz o/\o.cls= .type "list" /\o.data= .seq (Array.mk vs) n/\PyProof.Rows.IntsAre vs l
 | .rng n,v=> ∃a dw bN bY,v= .ref a/\G.own a= .fz ⟨.type "range",none, .fields #[.int 0 dw, .int n bN, .int 1 bY], #[]⟩
 | .sdict d,v=> ∃a o kvs,v= .ref a/\G.own a= .fz o/\o.IsDictOf (strKind Pp.prog Pp.w) kvs/\kvs.map (·.1)=d.map (λp=>Pp.D.nm p.1)/\ ∃ts,kvs.map (·.2)=(d.zip ts).map (λp=>Value.int p.1.2 p.2)/\ts.length=d.length
noncomputable def VRs(G:Gh):List AV->List Value->Prop
 |[],[]=>True
 |a::r,v::q=>VR G a v/\VRs G r q
 |_,_=>False
end
mutual
theorem VR.mono{G G':Gh}(x:G.le G'): ∀{a:AV}{v:Value},VR Pp G a v->VR Pp G' a v
 | .undef,_,h=>h | .none,_,h=>h | .bool _,_,h=>h | .int _,_,h=>h | .str _,_,h=>h | .text,_,h=>h | .bytes _,_,h=>h | .fn _,_,h=>h | .cls _,_,h=>h | .bi _,_,h=>h
 | .obj _,_,h=>by obtain⟨p,h1,h2⟩:=h;exact⟨p,x.rho _ _ h1,h2⟩
 | .tup l,_,h=>by obtain⟨a,vs,n,h1,h2,h3⟩:=h;exact⟨a,vs,n,h1,x.fz _ _ h2,VRs.mono x h3⟩
 | .lst l,_,h=>by obtain⟨a,vs,n,h1,h2,h3⟩:=h;exact⟨a,vs,n,h1,x.fz _ _ h2,VRs.mono x h3⟩
 | .arg l,_,h=>by obtain⟨a,o,vs,n,h1,h2,h3⟩:=h;exact⟨a,o,vs,n,h1,x.fz _ _ h2,h3⟩
 | .rng n,_,h=>by obtain⟨a,t0,t1,t2,h1,h2⟩:=h;exact⟨a,t0,t1,t2,h1,x.fz _ _ h2⟩
 | .sdict d,_,h=>by obtain⟨a,o,kvs,h1,h2,h3⟩:=h;exact⟨a,o,kvs,h1,x.fz _ _ h2,h3⟩
theorem VRs.mono{G G':Gh}(x:G.le G'): ∀{a:List AV}{v:List Value},VRs Pp G a v->VRs Pp G' a v
 |[],[],_=>trivial
 |_::_,_::_,h=>⟨VR.mono x h.1,VRs.mono x h.2⟩
 |[],_::_,h=>h.elim
 |_::_,[],h=>h.elim
end
structure Fm where
 env:Env
 loc:Loc
 real:Bool
def LocR(G:Gh)(env:Env)(loc:Loc)(m:Str->Option Value):Prop:=
 ∀x,loc x≠ .undef-> ∃v,VR Pp G (loc x) v/\((env.kindOf (Pp.D.nm x)=some .local/\m (Pp.D.nm x)=some v)\/
  (env.kindOf (Pp.D.nm x)=some .cell/\ ∃c o,env.cells.lookup (Pp.D.nm x)=some c/\G.own c= .fz o/\o.data= .cell (some v)))
def d2g(G:Gh)(k:Nat)(real:Bool)(env:Env)(loc:Loc):Prop:=
 (∀x,env.kindOf (Pp.D.nm x)=some .cell->loc x= .undef-> ∃c j,env.cells.lookup (Pp.D.nm x)=some c/\G.own c= .ce j/\j<=k/\(real=true->j=k))/\
 (∀x y c,env.cells.lookup x=some c->env.cells.lookup y=some c->x=y)
structure Fm1 (G:Gh) (h:Heap) (k:Nat) (f:Fm):Prop where
 own:G.own f.env.locals= .fr k
 kind:f.env.scope.kind= .function
 glob:f.env.globals=mainGlobals
 bins:f.env.builtins=builtinsNs
 frame:f.real=true->f.env.frame=some f.env.locals
 loc: ∃m,h.Ns f.env.locals m/\LocR Pp G f.env f.loc m
 cell:d2g Pp G k f.real f.env f.loc
noncomputable def FrOk(G:Gh)(h:Heap):List Fm->Prop
 |[]=>True
 |f::r=>Fm1 Pp G h r.length f/\FrOk G h r
inductive He |he (a:Addr) (o:Obj) |pin (id:Nat) (o:Obj)
noncomputable abbrev Hs:=List He
noncomputable def L5:AO->Bool | .pidict _=>true | .ptdict _=>true |_=>false
noncomputable def HeOk(G:Gh)(J:H)(h:Heap):Hs->Prop
 |[]=>True
 | .he a o::r=>G.own a= .he r.length/\h.get? a=some o/\HeOk G J h r
 | .pin id o::r=>(∃p ao,G.ρ id=some p/\J[id]? =some ao/\L5 ao=true/\G.own p.1= .ob id/\h.get? p.1=some o)/\(∀o',He.pin id o'∉r)/\HeOk G J h r
noncomputable def w9:List Str:=(List.range 256).map Pp.D.nm
def FldR(G:Gh)(f:Nat->AV)(m:Str->Option Value):Prop:=
 ∀x,(f x= .undef/\m (Pp.D.nm x)=none)\/ ∃v,VR Pp G (f x) v/\m (Pp.D.nm x)=some v
noncomputable def KVR(G:Gh):List (Int×AV)->List (Int×Value)->Prop
 |[],[]=>True
 |a::r,v::q=>a.1=v.1/\VR Pp G a.2 v.2/\KVR G r q
 |_,_=>False
noncomputable def a88:KA->Value->Bool
 | .i n,v=>v.isInt n
 | .s x,v=>Value.isStrOf (Pp.D.nm x) v
noncomputable def c9y:KA->Int
 | .i n=>hashInt n
 | .s x=>hashStr Pp.w (Pp.D.nm x)
noncomputable def k9:KeyKind Pp.prog Pp.w KA where
 is:=a88 Pp
 hash:=c9y Pp
 inj:=λv a b ha hb=>by
  cases a with
  |i n=>cases b with
   |i k=>exact congrArg _ (Value.isInt_inj _ _ _ ha hb)
   |s y=>obtain⟨t,rfl⟩:=Value.isInt_shape ha;simp [a88,Value.isStrOf]at hb
  |s x=>cases b with
   |i k=>obtain⟨t,rfl⟩:=Value.isInt_shape hb;simp [a88,Value.isStrOf]at ha
   |s y=>exact congrArg _ (Pp.D.inj _ _ (Value.isStrOf_inj _ _ _ ha hb))
 byValue:=λk v h=>by
  cases k with
  |i n=>obtain⟨t,rfl⟩:=Value.isInt_shape h;rfl
  |s x=>obtain⟨t,rfl⟩:=Value.isStrOf_shape h;rfl
 pyHash:=λ{A E s k v Q} hv h=>by
  cases k with
  |i n=>obtain⟨t,rfl⟩:=Value.isInt_shape hv;exact wpAny_pyHash_int h
  |s x=>obtain⟨t,rfl⟩:=Value.isStrOf_shape hv;exact wpAny_pyHash_str h
 eqBool:=λ{A E s a b u v Q} hu hv h=>by
  cases a with
  |i n=>
   obtain⟨t,rfl⟩:=Value.isInt_shape hu;cases b with
   |i k=>
    obtain⟨t,rfl⟩:=Value.isInt_shape hv;refine wpAny_eqBool_int ?_;have e:(n==k)=decide (KA.i n=KA.i k):=by by_cases z:n=k<;>simp [z]
    rw[e];exact h
   |s y=>obtain⟨t',rfl⟩:=Value.isStrOf_shape hv;exact PySem.SeqAt.EqAt.int_str _ _ _ _ Pp.prog Pp.w _ _ (by simpa using h)
  |s x=>
   obtain⟨t,rfl⟩:=Value.isStrOf_shape hu;cases b with
   |i k=>obtain⟨t',rfl⟩:=Value.isInt_shape hv;exact PySem.SeqAt.EqAt.str_int _ _ _ _ Pp.prog Pp.w _ _ (by simpa using h)
   |s y=>
    obtain⟨t,rfl⟩:=Value.isStrOf_shape hv;refine wpAny_eqBool_str ?_;have e:decide (Pp.D.nm x=Pp.D.nm y)=decide (KA.s x=KA.s y):=by
     by_cases z:x=y
     ·subst z;simp
     ·have:Pp.D.nm x≠Pp.D.nm y:=λq=>z (Pp.D.inj _ _ q)
      simp [z,this]
    rw[e];exact h
 «strs»:=λk x t v h=>by
  cases k with
  |i n=>simp [a88,Value.isInt]at h
  |s y=>
   have e:Pp.D.nm y=x:=by
    obtain⟨u,hu⟩:=Value.isStrOf_shape (show Value.isStrOf (Pp.D.nm y) (.str x t)=true from h);injection hu with hx;exact hx.symm
   subst e;cases v<;>rfl
def TVR(G:Gh)(d:List (List KA×Int))(xs:List (List KA×Addr×Value)):Prop:=
 xs.map (·.1)=d.map (·.1)/\(∀x∈xs, ∃vs n,G.own x.2.1= .fz ⟨.type "tuple",none, .seq (Array.mk vs) n, #[]⟩)/\ ∃ts:List Tok,ts.length=d.length/\xs.map (·.2.2)=(d.zip ts).map (λp=>Value.int p.1.2 p.2)
noncomputable def FlyR(G:Gh)(h:Heap)(id:Nat)(p:Addr×Addr)(dd:Option Addr)(vs:Array Value):Bool->Prop
 |false=>vs[1]? =some .none
 |true=> ∃T oT ts,vs[1]? =some (.ref T)/\G.own T= .ob id/\T≠p.1/\dd≠some T/\h.get? T=some oT/\oT.data= .fields ts/\ts[3]? =some .none
noncomputable def b1p(G:Gh)(h:Heap)(id:Nat)(p:Addr×Addr)(f:Nat->AV):Option Addr->Prop
 |none=> ∀x,f x= .undef
 |some d=>G.own d= .ob id/\d≠p.1/\ ∃m,h.Ns1 d m/\Within m (w9 Pp)/\FldR Pp G f m
noncomputable def OR(G:Gh)(h:Heap)(id:Nat)(p:Addr×Addr):AO->Prop
 | .inst c f=>G.own p.1= .fz (instObj (Pp.D.clsA c) p.2)/\G.own p.2= .ob id/\ ∃m,h.Ns1 p.2 m/\Within m (w9 Pp)/\FldR Pp G f m
 | .list l=>G.own p.1= .ob id/\ ∃vs n,h.get? p.1=some ⟨.type "list",none, .seq (Array.mk vs) n, #[]⟩/\VRs Pp G l vs
 | .idict d=>G.own p.1= .ob id/\ ∃kvs,h.DictOf (intKind Pp.prog Pp.w) p.1 kvs/\KVR Pp G d kvs
 | .tdict d=>G.own p.1= .ob id/\ ∃xs,h.DictOfH (tupleKind (k9 Pp)) p.1 xs/\TVR G d xs
 | .pidict d=>G.own p.1= .ob id/\ ∃kvs,h.DictOf (intKind Pp.prog Pp.w) p.1 kvs/\KVR Pp G d kvs
 | .ptdict d=>G.own p.1= .ob id/\ ∃xs,h.DictOfH (tupleKind (k9 Pp)) p.1 xs/\TVR G d xs
 | .exc c f fl=>G.own p.1= .ob id/\ ∃vs sl dd,h.get? p.1=some ⟨.ref (Pp.D.clsA c),dd, .fields vs,sl⟩/\b1p Pp G h id p f dd/\FlyR G h id p dd vs fl
structure St (G:Gh) (fs:List Fm) (hs:Hs) (J:H) (s:Shared):Prop where
 lt: ∀a,G.own a≠ .none->(s.heap.get? a).isSome=true
 fz: ∀a o,G.own a= .fz o->s.heap.get? a=some o
 ce: ∀a k,G.own a= .ce k-> ∃o,s.heap.get? a=some o/\o.data= .cell none
 base: ∀a o,Pp.base.get? a=some o->G.own a= .fz o
 fr:FrOk Pp G s.heap fs
 he:HeOk G J s.heap hs
 ob: ∀id ao,J[id]? =some ao-> ∃p,G.ρ id=some p/\OR Pp G s.heap id p ao
 dom: ∀id p,G.ρ id=some p->id<J.length
 gens:s.gens=Pp.cq
 os:s.os=Pp.bX
end
end
section
section
variable{Pp:Par}
variable{G G':Gh}{fs:List Fm}{hs:Hs}{J:H}{s:Shared}
def c3e(G:Gh)(t:Own)(h h':Heap):Prop:= ∀a o,G.own a≠ .none->G.own a≠t->h.get? a=some o->h'.get? a=some o
theorem a2e{h h':Heap}{a:Addr}{m:Str->Option Value}(n:h.Ns a m)(k: ∀o,h.get? a=some o->h'.get? a=some o):h'.Ns a m:=
 let⟨o,es,ep,ho,r⟩:=n;⟨o,es,ep,k _ ho,r⟩
theorem J1{knd:KeyKind Pp.prog Pp.w Int}{h h':Heap}{a:Addr}{kvs:List (Int×Value)}(n:h.DictOf knd a kvs)(k: ∀o,h.get? a=some o->h'.get? a=some o):h'.DictOf knd a kvs:=
 let⟨o,es,ep,ho,r⟩:=n;⟨o,es,ep,k _ ho,r⟩
theorem LocR.mono(x:G.le G'){env:Env}{loc:Loc}{m:Str->Option Value}(h:LocR Pp G env loc m):LocR Pp G' env loc m:=λy hy=>by
 obtain⟨v,h1,h2⟩:=h y hy;refine⟨v,h1.mono Pp x, ?_⟩;rcases h2 with h2 |⟨a,c,o,b,e,d⟩
 ·exact .inl h2
 ·exact .inr ⟨a,c,o,b,x.fz _ _ e,d⟩
theorem FldR.mono(x:G.le G'){f:Nat->AV}{m:Str->Option Value}(h:FldR Pp G f m):FldR Pp G' f m:=λy=>by
 rcases h y with h |⟨v,a,b⟩
 ·exact .inl h
 ·exact .inr ⟨v,a.mono Pp x,b⟩
theorem KVR.mono(x:G.le G'): ∀{d:List (Int×AV)}{kvs:List (Int×Value)},KVR Pp G d kvs->KVR Pp G' d kvs
 |[],[],_=>trivial
 |_::_,_::_,h=>⟨h.1,h.2.1.mono Pp x,KVR.mono x h.2.2⟩
 |[],_::_,h=>h.elim
 |_::_,[],h=>h.elim
theorem TVR.mono(x:G.le G'){d:List (List KA×Int)}{xs:List (List KA×Addr×Value)}(h:TVR G d xs):TVR G' d xs:=
 ⟨h.1,λy hy=>let⟨vs,n,ho⟩:=h.2.1 y hy;⟨vs,n,x.fz _ _ ho⟩,h.2.2⟩
structure Gh.ext (G G':Gh):Prop where
 own: ∀a,G.own a≠ .none->G'.own a=G.own a
 rho: ∀i p,G.ρ i=some p->G'.ρ i=some p
theorem Gh.ext.le(x:G.ext G'):G.le G':=⟨λa o h=>by rw[x.own a (by rw[h];intro z;cases z),h],x.rho⟩
theorem Gh.ext.tag(x:G.ext G'){a:Addr}{t:Own}(h:G.own a=t)(n:t≠ .none):G'.own a=t:=by rw[x.own a (by rw[h];exact n),h]
theorem Fm1.keep{h h':Heap}{k:Nat}{f:Fm}(x:G.ext G')(r:Fm1 Pp G h k f)(kp: ∀a o,G.own a≠ .none->h.get? a=some o->G.own a= .fr k->h'.get? a=some o):Fm1 Pp G' h' k f:=by
 obtain⟨r1,r2,r3,r4,r5,⟨m,r6,r7⟩,r8⟩:=r;refine⟨x.tag r1 (by intro z;cases z),r2,r3,r4,r5,⟨m,a2e r6 λo ho=>kp _ o (by rw[r1];intro z;cases z) ho r1,r7.mono x.le⟩, ?_⟩;obtain⟨c1,c2⟩:=r8;exact⟨λy a b=>let⟨c,j,e,d,r⟩:=c1 y a b;⟨c,j,e,x.tag d (by intro z;cases z),r⟩,c2⟩
theorem FrOk.keep{h h':Heap}(x:G.ext G'): ∀{fs:List Fm},FrOk Pp G h fs->(∀a o k,G.own a= .fr k->k<fs.length->h.get? a=some o->h'.get? a=some o)->FrOk Pp G' h' fs
 |[],_,_=>trivial
 |f::r,⟨a,b⟩,k=>⟨a.keep x λad o hn ho hk=>k ad o _ hk (Nat.lt_succ_self _) ho,FrOk.keep x b λad o j hj hl ho=>k ad o j hj (Nat.lt_succ_of_lt hl) ho⟩
theorem HeOk.keep{h h':Heap}{ae:H}(x:G.ext G'): ∀{hs:Hs},HeOk G J h hs->(∀a o k,G.own a= .he k->k<hs.length->h.get? a=some o->h'.get? a=some o)->
  (∀(id:Nat)(ao:AO),J[id]? =some ao->L5 ao=true->ae[id]? =some ao/\ ∀(a:Addr)(o:Obj),G.own a= .ob id->h.get? a=some o->h'.get? a=some o)->HeOk G' ae h' hs
 |[],_,_,_=>trivial
 | .he ad ob::r,⟨a,b,c⟩,k,kp=>⟨x.tag a (by intro z;cases z),k _ _ _ a (Nat.lt_succ_self _) b,HeOk.keep x c (λad o j hj hl ho=>k ad o j hj (Nat.lt_succ_of_lt hl) ho) kp⟩
 | .pin id ob::r,⟨⟨p,ao,a1,a2,a3,a4,a5⟩,b,c⟩,k,kp=>⟨⟨p,ao,x.rho _ _ a1,(kp _ _ a2 a3).1,a3,x.tag a4 (by intro z;cases z),(kp _ _ a2 a3).2 _ _ a4 a5⟩,b,HeOk.keep x c (λad o j hj hl ho=>k ad o j hj (Nat.lt_succ_of_lt hl) ho) kp⟩
theorem A8{knd:KeyKind Pp.prog Pp.w KA}{h h':Heap}{ks:List KA}{a:Addr}(x:IsTupleKey knd h ks a)(k: ∀o,h.get? a=some o->h'.get? a=some o):IsTupleKey knd h' ks a:=
 let⟨o,i,n,ho,r⟩:=x;⟨o,i,n,k _ ho,r⟩
theorem OR.keep{h h':Heap}{id:Nat}{p:Addr×Addr}{ao:AO}(x:G.ext G')(bT: ∀a o,G.own a= .fz o->h.get? a=some o)(fz: ∀a o,G.own a= .fz o->h'.get? a=some o)(r:OR Pp G h id p ao)
  (kp: ∀a o,G.own a= .ob id->h.get? a=some o->h'.get? a=some o):OR Pp G' h' id p ao:=by
 cases ao with
 |inst c f=>
  refine a8 λp_ ah=> ?_;obtain⟨r1,r2,m,r3,r4,r5⟩:=r;refine ah ?_;exact⟨x.le.fz _ _ r1,x.tag r2 (by intro z;cases z),m,r3.at λo ho=>kp _ o r2 ho,r4,r5.mono x.le⟩
 |list l=>
  refine a8 λp_ ah=> ?_;obtain⟨r1,vs,n,r2,r3⟩:=r;refine ah ?_;exact⟨x.tag r1 (by intro z;cases z),vs,n,kp _ _ r1 r2,VRs.mono Pp x.le r3⟩
 |idict d=>
  refine a8 λp_ ah=> ?_;obtain⟨r1,kvs,r2,r3⟩:=r;refine ah ?_;exact⟨x.tag r1 (by intro z;cases z),kvs,J1 r2 λo ho=>kp _ o r1 ho,r3.mono x.le⟩
 |tdict d=>
  refine a8 λp_ ah=> ?_;obtain⟨r1,xs,r2,r3⟩:=r;refine ah ?_;refine⟨x.tag r1 (by intro z;cases z),xs, ?_,r3.mono x.le⟩;refine a8 λp_ ah=> ?_;obtain⟨o,es,ep,ho,e1,e2,e3,e4,e5⟩:=r2;refine ah ?_;refine⟨o,es,ep,kp _ _ r1 ho,e1,e2,e3,λy hy=>A8 (e4 y hy) λo' ho'=> ?_,e5⟩;refine a8 λp_ ah=> ?_;obtain⟨vs'',n'',ho''⟩:=r3.2.1 y hy;have:=bT _ _ ho'';rw[ho']at this;cases this;refine ah ?_;exact fz _ _ ho''
 |pidict d=>
  refine a8 λp_ ah=> ?_;obtain⟨r1,kvs,r2,r3⟩:=r;refine ah ?_;exact⟨x.tag r1 (by intro z;cases z),kvs,J1 r2 λo ho=>kp _ o r1 ho,r3.mono x.le⟩
 |ptdict d=>
  refine a8 λp_ ah=> ?_;obtain⟨r1,xs,r2,r3⟩:=r;refine ah ?_;refine⟨x.tag r1 (by intro z;cases z),xs, ?_,r3.mono x.le⟩;refine a8 λp_ ah=> ?_;obtain⟨o,es,ep,ho,e1,e2,e3,e4,e5⟩:=r2;refine ah ?_;refine⟨o,es,ep,kp _ _ r1 ho,e1,e2,e3,λy hy=>A8 (e4 y hy) λo' ho'=> ?_,e5⟩;refine a8 λp_ ah=> ?_;obtain⟨vs'',n'',ho''⟩:=r3.2.1 y hy;have:=bT _ _ ho'';rw[ho']at this;cases this;refine ah ?_;exact fz _ _ ho''
 |exc c f fl=>
  refine a8 λp_ ah=> ?_;obtain⟨r1,vs,sl,dd,r2,r3,r4⟩:=r;refine ah ?_;refine⟨x.tag r1 (by intro z;cases z),vs,sl,dd,kp _ _ r1 r2, ?_, ?_⟩
  ·cases dd with
   |none=>exact r3
   |some d=>
    refine a8 λp_ ah=> ?_;obtain⟨e1,e2,m,e3,e4,e5⟩:=r3;refine ah ?_;exact⟨x.tag e1 (by intro z;cases z),e2,m,e3.at λo ho=>kp _ o e1 ho,e4,e5.mono x.le⟩
  ·cases fl with
   |false=>exact r4
   |true=>
    refine a8 λp_ ah=> ?_;obtain⟨T,oT,ts,e1,e2,e3,e4,e5,e6,e7⟩:=r4;refine ah ?_;exact⟨T,oT,ts,e1,x.tag e2 (by intro z;cases z),e3,e4,kp _ _ e2 e5,e6,e7⟩
structure Sh (s s':Shared):Prop where
 gens:s'.gens=s.gens
 os:s'.os=s.os
theorem St.grow{s':Shared}(S:St Pp G fs hs J s)(x:G.ext G')(aY: ∀i,G'.ρ i=G.ρ i)(hn: ∀a,G.own a= .none->G'.own a≠ .none-> ∃o,G'.own a= .fz o/\s'.heap.get? a=some o)
  (sh:Sh s s')(kp: ∀a o,G.own a≠ .none->s.heap.get? a=some o->s'.heap.get? a=some o):St Pp G' fs hs J s':=by
 have old: ∀a t,G'.own a=t->t≠ .none->(∀o,t≠ .fz o)->G.own a=t:=λa t h n nf=>by
  by_cases q:G.own a= .none
  ·obtain⟨o,h1,_⟩:=hn a q (by rw[h];exact n)
   exact absurd (h1▸h).symm (nf o)
  ·rw[<-x.own a q,h]
 have fz': ∀a o,G'.own a= .fz o->s'.heap.get? a=some o:=λa o h=>by
  by_cases q:G.own a= .none
  ·obtain⟨o',h1,h2⟩:=hn a q (by rw[h];intro z;cases z)
   rw[h]at h1;cases h1;exact h2
  ·have:G.own a= .fz o:=by rw[<-x.own a q,h]
   exact kp a o q (S.fz a o this)
 refine⟨λa h=> ?_,fz',λa kk h=> ?_,λa o h=>x.le.fz _ _ (S.base a o h),S.fr.keep x λa o k h _ ho=>kp a o (by rw[h];intro z;cases z) ho,
  S.he.keep x (λa o k h _ ho=>kp a o (by rw[h];intro z;cases z) ho) (λid ao h _=>⟨h,λa o h ho=>kp a o (by rw[h];intro z;cases z) ho⟩),λid ao h=> ?_,λid p h=>S.dom id p (by rw[<-aY];exact h),sh.gens.trans S.gens,sh.os.trans S.os⟩
 ·by_cases q:G.own a= .none
  ·obtain⟨o,_,h2⟩:=hn a q h;rw[h2];rfl
  ·obtain⟨o,ho⟩:=Option.isSome_iff_exists.mp (S.lt a q);rw[kp a o q ho];rfl
 ·obtain⟨o,h1,h2⟩:=S.ce a _ (old a _ h (by intro z;cases z) (by intro o z;cases z))
  exact⟨o,kp a o (by rw[old a _ h (by intro z;cases z) (by intro o z;cases z)];intro z;cases z) h1,h2⟩
 ·obtain⟨p,h1,h2⟩:=S.ob id ao h
  exact⟨p,by rw[aY];exact h1,h2.keep x S.fz (λa o h=>fz' a o (x.le.fz _ _ h)) λa o h ho=>kp a o (by rw[h];intro z;cases z) ho⟩
theorem St.kept{s':Shared}(S:St Pp G fs hs J s)(sh:Sh s s')(kp: ∀a o,G.own a≠ .none->s.heap.get? a=some o->s'.heap.get? a=some o):St Pp G fs hs J s':=
 S.grow ⟨λ_ _=>rfl,λ_ _ h=>h⟩ (λ_=>rfl) (λa h h'=>absurd h h') sh kp
theorem St.setOb{s':Shared}{id:Nat}{ao ao':AO}{p:Addr×Addr}(S:St Pp G fs hs J s)(hid:J[id]? =some ao)(hp:G.ρ id=some p)(x:G.ext G')(aY: ∀i,G'.ρ i=G.ρ i)
  (hn: ∀a,G.own a= .none->G'.own a≠ .none->G'.own a= .ob id)(al: ∀a,G'.own a= .ob id->(s'.heap.get? a).isSome=true)(sh:Sh s s')(kp:c3e G (.ob id) s.heap s'.heap)(ho:OR Pp G' s'.heap id p ao')(hpin:L5 ao=false:=by rfl):
  St Pp G' fs hs (J.set id ao') s':=by
 have old: ∀a t,G'.own a=t->t≠ .none->t≠ .ob id->G.own a=t:=λa t h n nf=>by
  by_cases q:G.own a= .none
  ·exact absurd ((hn a q (by rw[h];exact n))▸h).symm nf
  ·rw[<-x.own a q,h]
 have k: ∀{a o t},G.own a=t->t≠ .none->t≠ .ob id->s.heap.get? a=some o->s'.heap.get? a=some o:=λh n m ho=>kp _ _ (by rw[h];exact n) (by rw[h];exact m) ho;have fz': ∀a o,G'.own a= .fz o->s'.heap.get? a=some o:=λa o h=>by
  have q:=old a _ h (by intro z;cases z) (by intro z;cases z);exact k q (by intro z;cases z) (by intro z;cases z) (S.fz a o q)
 refine⟨λa h=> ?_,fz',λa kk h=> ?_,λa o h=>x.le.fz _ _ (S.base a o h),S.fr.keep x λa o j h _ ho=>k h (by intro z;cases z) (by intro z;cases z) ho,
  S.he.keep x (λa o j h _ ho=>k h (by intro z;cases z) (by intro z;cases z) ho) (λi bo h hb=>by
   have ne:id≠i:=λe=>by subst e;rw[hid]at h;cases h;rw[hpin]at hb;cases hb
   exact⟨by rw[List.getElem?_set_ne ne];exact h,λa o h ho=>k h (by intro z;cases z) (by intro z;cases z;exact ne rfl) ho⟩),λi bo h=> ?_,λi q h=>by rw[List.length_set];exact S.dom i q (by rw[<-aY];exact h),sh.gens.trans S.gens,sh.os.trans S.os⟩
 ·by_cases q:G'.own a= .ob id
  ·exact al a q
  ·have q':=old a _ rfl h q
   obtain⟨o,ho⟩:=Option.isSome_iff_exists.mp (S.lt a (by rw[q'];exact h));rw[k q' h q ho];rfl
 ·have q:=old a _ h (by intro z;cases z) (by intro z;cases z)
  obtain⟨o,h1,h2⟩:=S.ce a _ q;exact⟨o,k q (by intro z;cases z) (by intro z;cases z) h1,h2⟩
 ·by_cases e:id=i
  ·subst e
   have hl:id<J.length:=(List.getElem?_eq_some_iff.mp hid).1;rw[List.getElem?_set_self hl]at h;cases h;exact⟨p,by rw[aY];exact hp,ho⟩
  ·rw[List.getElem?_set_ne e]at h
   obtain⟨q,h1,h2⟩:=S.ob i bo h;refine⟨q,by rw[aY];exact h1,h2.keep x S.fz (λa o h=>fz' a o (x.le.fz _ _ h)) λa o h ho=>k h (by intro z;cases z) (by intro z;cases z;exact e rfl) ho⟩
theorem St.setOb1{s':Shared}{id:Nat}{ao ao':AO}{p:Addr×Addr}{q:Addr}(S:St Pp G fs hs J s)(hid:J[id]? =some ao)(hp:G.ρ id=some p)(hq:G.own q= .ob id)(hs':Heap.SameBut q s.heap s'.heap)
  (hsome:(s'.heap.get? q).isSome=true)(hg:s'.gens=s.gens)(hos:s'.os=s.os)(ho:OR Pp G s'.heap id p ao')(hpin:L5 ao=false:=by rfl):St Pp G fs hs (J.set id ao') s':=
 S.setOb (hpin:=hpin) hid hp ⟨λ_ _=>rfl,λ_ _ h=>h⟩ (λ_=>rfl) (λa q q'=>absurd q q') (λa ha=>by
  by_cases e:a=q
  ·rw[e];exact hsome
  ·rw[hs'.2 a e];exact S.lt a (by rw[ha];intro z;cases z)) ⟨hg,hos⟩ (λb o _ hn e=>(hs'.2 b λz=>hn (z▸hq)).trans e) ho
theorem F7{knd:KeyKind Pp.prog Pp.w Int}{h:Heap}{a:Addr}{kvs:List (Int×Value)}(x:h.DictOf knd a kvs):(h.get? a).isSome=true:=by obtain⟨o,_,_,ho,_⟩:=x;rw[ho];rfl
theorem O5{K:Type}[DecidableEq K]{knd:HeapKind Pp.prog Pp.w K}{h:Heap}{a:Addr}{xs:List (K×Addr×Value)}(x:h.DictOfH knd a xs):(h.get? a).isSome=true:=by obtain⟨o,_,_,ho,_⟩:=x;rw[ho];rfl
theorem Y9{h:Heap}{a:Addr}{m:Str->Option Value}(x:h.Ns1 a m):(h.get? a).isSome=true:=by obtain⟨o,_,_,ho,_⟩:=x;rw[ho];rfl
theorem St.pushOb{s':Shared}{ao':AO}{p:Addr×Addr}(S:St Pp G fs hs J s)(x:G.ext G')(aY: ∀i,i≠J.length->G'.ρ i=G.ρ i)(hp:G'.ρ J.length=some p)
  (hn: ∀a,G.own a= .none->G'.own a≠ .none->(G'.own a= .ob J.length/\(s'.heap.get? a).isSome=true)\/ ∃o,G'.own a= .fz o/\s'.heap.get? a=some o)(sh:Sh s s')(kp: ∀a o,G.own a≠ .none->s.heap.get? a=some o->s'.heap.get? a=some o)
  (ho:OR Pp G' s'.heap J.length p ao'):St Pp G' fs hs (J++[ao']) s':=by
 have old: ∀a t,G'.own a=t->t≠ .none->t≠ .ob J.length->(∀o,t≠ .fz o)->G.own a=t:=λa t h n nf nz=>by
  by_cases q:G.own a= .none
  ·rcases hn a q (by rw[h];exact n)with h1 |⟨o,h1,_⟩
   ·exact absurd (h1.1▸h).symm nf
   ·exact absurd (h1▸h).symm (nz o)
  ·rw[<-x.own a q,h]
 have k: ∀{a o t},G.own a=t->t≠ .none->s.heap.get? a=some o->s'.heap.get? a=some o:=λh n ho=>kp _ _ (by rw[h];exact n) ho;have fz': ∀a o,G'.own a= .fz o->s'.heap.get? a=some o:=λa o h=>by
  by_cases q:G.own a= .none
  ·rcases hn a q (by rw[h];intro z;cases z)with h1 |⟨o',h1,h2⟩
   ·rw[h]at h1;cases h1.1
   ·rw[h]at h1;cases h1;exact h2
  ·have:G.own a= .fz o:=by rw[<-x.own a q,h]
   exact k this (by intro z;cases z) (S.fz a o this)
 refine⟨λa h=> ?_,fz',λa kk h=> ?_,λa o h=>x.le.fz _ _ (S.base a o h),S.fr.keep x λa o j h _ ho=>k h (by intro z;cases z) ho,
  S.he.keep x (λa o j h _ ho=>k h (by intro z;cases z) ho) (λi bo h _=>⟨by rw[List.getElem?_append_left (List.getElem?_eq_some_iff.mp h).1];exact h,λa o h ho=>k h (by intro z;cases z) ho⟩),λi bo h=> ?_,λi q h=> ?_,sh.gens.trans S.gens,sh.os.trans S.os⟩
 ·by_cases q:G.own a= .none
  ·rcases hn a q h with h1 |⟨o,_,h2⟩
   ·exact h1.2
   ·rw[h2];rfl
  ·obtain⟨o,ho⟩:=Option.isSome_iff_exists.mp (S.lt a q);rw[kp a o q ho];rfl
 ·have q:=old a _ h (by intro z;cases z) (by intro z;cases z) (by intro o z;cases z)
  obtain⟨o,h1,h2⟩:=S.ce a _ q;exact⟨o,k q (by intro z;cases z) h1,h2⟩
 ·by_cases e:i<J.length
  ·rw[List.getElem?_append_left e]at h
   obtain⟨q,h1,h2⟩:=S.ob i bo h;exact⟨q,by rw[aY i (Nat.ne_of_lt e)];exact h1,h2.keep x S.fz (λa o h=>fz' a o (x.le.fz _ _ h)) λa o h ho=>k h (by intro z;cases z) ho⟩
  ·have e':i=J.length:=by
    have:=(List.getElem?_eq_some_iff.mp h).1;rw[List.length_append,List.length_singleton]at this;lia
   subst e';rw[List.getElem?_append_right (Nat.le_refl _),Nat.sub_self]at h;cases h;exact⟨p,hp,ho⟩
 ·rw[List.length_append,List.length_singleton]
  by_cases e:i=J.length
  ·lia
  ·have:=S.dom i q (by rw[<-aY i e];exact h);lia
theorem St.setFr{s':Shared}{f f':Fm}(S:St Pp G (f::fs) hs J s)(sh:Sh s s')(kp: ∀b o,b≠f'.env.locals->G.own b≠ .none->s.heap.get? b=some o->s'.heap.get? b=some o)(hf:Fm1 Pp G s'.heap fs.length f'):
  St Pp G (f'::fs) hs J s':=by
 have k: ∀{a o t},G.own a=t->t≠ .none->t≠ .fr fs.length->s.heap.get? a=some o->s'.heap.get? a=some o:=λ{a} {o} {t} h n m ho=>kp _ _ (λe=>by rw[e,hf.own]at h;exact m h.symm) (by rw[h];exact n) ho;have x:G.ext G:=⟨λ_ _=>rfl,λ_ _ h=>h⟩
 have fz': ∀a o,G.own a= .fz o->s'.heap.get? a=some o:=λa o h=>k h (by intro z;cases z) (by intro z;cases z) (S.fz a o h);refine⟨λa h=> ?_,fz',λa kk h=> ?_,S.base,⟨hf,S.fr.2.keep x λa o j h hj ho=>k h (by intro z;cases z) (by intro z;cases z;exact Nat.lt_irrefl _ hj) ho⟩,
  S.he.keep x (λa o j h _ ho=>k h (by intro z;cases z) (by intro z;cases z) ho) (λi bo h _=>⟨h,λa o h ho=>k h (by intro z;cases z) (by intro z;cases z) ho⟩),λi bo h=> ?_,S.dom,sh.gens.trans S.gens,sh.os.trans S.os⟩
 ·by_cases e:a=f'.env.locals
  ·obtain⟨m,⟨o,es,ep,ho,_⟩,_⟩:=hf.loc;rw[e,ho];rfl
  ·obtain⟨o,ho⟩:=Option.isSome_iff_exists.mp (S.lt a h);rw[kp a o e h ho];rfl
 ·obtain⟨o,h1,h2⟩:=S.ce a _ h
  exact⟨o,k h (by intro z;cases z) (by intro z;cases z) h1,h2⟩
 ·obtain⟨q,h1,h2⟩:=S.ob i bo h
  exact⟨q,h1,h2.keep x S.fz fz' λa o h ho=>k h (by intro z;cases z) (by intro z;cases z) ho⟩
theorem St.popFr{f:Fm}(S:St Pp G (f::fs) hs J s):St Pp G fs hs J s:={ S with fr:=S.fr.2 }
theorem St.popHe{a:Addr}{o:Obj}(S:St Pp G fs (.he a o::hs) J s):St Pp G fs hs J s:={ S with he:=S.he.2.2 }
theorem St.setHe{s':Shared}{a:Addr}{o o':Obj}(S:St Pp G fs (.he a o::hs) J s)(sh:Sh s s')(kp: ∀b o,b≠a->G.own b≠ .none->s.heap.get? b=some o->s'.heap.get? b=some o)(ho:s'.heap.get? a=some o'):
  St Pp G fs (.he a o'::hs) J s':=by
 have ha:G.own a= .he hs.length:=S.he.1;have k: ∀{b o t},G.own b=t->t≠ .none->t≠ .he hs.length->s.heap.get? b=some o->s'.heap.get? b=some o:=λ{b} {o} {t} h n m ho=>kp _ _ (λe=>by rw[e,ha]at h;exact m h.symm) (by rw[h];exact n) ho;have x:G.ext G:=⟨λ_ _=>rfl,λ_ _ h=>h⟩
 have fz': ∀a o,G.own a= .fz o->s'.heap.get? a=some o:=λa o h=>k h (by intro z;cases z) (by intro z;cases z) (S.fz a o h);refine⟨λb h=> ?_,fz',λa kk h=> ?_,S.base,S.fr.keep x λa o j h hj ho=>k h (by intro z;cases z) (by intro z;cases z) ho,
  ⟨ha,ho,S.he.2.2.keep x (λa o j h hj ho=>k h (by intro z;cases z) (by intro z;cases z;exact Nat.lt_irrefl _ hj) ho) (λi bo h _=>⟨h,λa o h ho=>k h (by intro z;cases z) (by intro z;cases z) ho⟩)⟩,λi bo h=> ?_,S.dom,sh.gens.trans S.gens,sh.os.trans S.os⟩
 ·by_cases e:b=a
  ·rw[e,ho];rfl
  ·obtain⟨o,ho⟩:=Option.isSome_iff_exists.mp (S.lt b h);rw[kp b o e h ho];rfl
 ·obtain⟨o,h1,h2⟩:=S.ce a _ h
  exact⟨o,k h (by intro z;cases z) (by intro z;cases z) h1,h2⟩
 ·obtain⟨q,h1,h2⟩:=S.ob i bo h
  exact⟨q,h1,h2.keep x S.fz fz' λa o h ho=>k h (by intro z;cases z) (by intro z;cases z) ho⟩
noncomputable def Gh.add(G:Gh)(a:Addr)(t:Own):Gh:=⟨G.ρ,λb=>if b=a then t else G.own b⟩
theorem Gh.add_ext{a:Addr}{t:Own}(h:G.own a= .none):G.ext (G.add a t):=⟨λb hb=>if_neg (λ(e:b=a)=>hb (by rw[e];exact h)),λ_ _ h=>h⟩
theorem Gh.add_self{a:Addr}{t:Own}:(G.add a t).own a=t:=if_pos rfl
theorem Gh.add_ne{a b:Addr}{t:Own}(h:b≠a):(G.add a t).own b=G.own b:=if_neg h
theorem St.fresh(S:St Pp G fs hs J s){a:Addr}(h:s.heap.objs.size<=a):G.own a= .none:=by
 by_cases q:G.own a= .none
 ·exact q
 ·obtain⟨o,ho⟩:=Option.isSome_iff_exists.mp (S.lt a q)
  exact absurd (Heap.lt_size ho) (Nat.not_lt.mpr h)
theorem St.freeze{a:Addr}{o:Obj}(S:St Pp G fs hs J s)(hn:G.own a= .none)(ho:s.heap.get? a=some o):St Pp (G.add a (.fz o)) fs hs J s:=
 S.grow (Gh.add_ext hn) (λ_=>rfl) (λb hb hb'=>by
  by_cases e:b=a
  ·subst e;exact⟨o,Gh.add_self,ho⟩
  ·rw[Gh.add_ne e]at hb';exact absurd hb hb') ⟨rfl,rfl⟩ λ_ _ _ h=>h
theorem St.pushHe{a:Addr}{o:Obj}(S:St Pp G fs hs J s)(hn:G.own a= .none)(ho:s.heap.get? a=some o):St Pp (G.add a (.he hs.length)) fs (.he a o::hs) J s:=by
 have x:=Gh.add_ext (t:= .he hs.length) hn;have old: ∀b t,(G.add a (.he hs.length)).own b=t->t≠ .none->t≠ .he hs.length->G.own b=t:=λb t h n m=>by
  by_cases e:b=a
  ·subst e;rw[Gh.add_self]at h;exact absurd h.symm m
  ·rw[Gh.add_ne e]at h;exact h
 refine⟨λb h=> ?_,λb o h=>S.fz b o (old b _ h (by intro z;cases z) (by intro z;cases z)),λb k h=>S.ce b k (old b _ h (by intro z;cases z) (by intro z;cases z)),λb o h=>x.le.fz _ _ (S.base b o h),
  S.fr.keep x λ_ _ _ _ _ h=>h,⟨Gh.add_self,ho,S.he.keep x (λ_ _ _ _ _ h=>h) (λi bo h _=>⟨h,λ_ _ _ h=>h⟩)⟩,λi bo h=> ?_,S.dom,S.gens,S.os⟩
 ·by_cases e:b=a
  ·subst e;rw[ho];rfl
  ·rw[Gh.add_ne e]at h;exact S.lt b h
 ·obtain⟨q,h1,h2⟩:=S.ob i bo h
  exact⟨q,h1,h2.keep x S.fz S.fz λ_ _ _ h=>h⟩
theorem St.pushFr{f:Fm}{s':Shared}(S:St Pp G fs hs J s)(x:G.ext G')(aY: ∀i,G'.ρ i=G.ρ i)
  (hn: ∀a,G.own a= .none->G'.own a≠ .none->(G'.own a= .fr fs.length/\(s'.heap.get? a).isSome=true)\/(∃o,G'.own a= .fz o/\s'.heap.get? a=some o)\/((∃k,G'.own a= .ce k)/\ ∃o,s'.heap.get? a=some o/\o.data= .cell none))
  (sh:Sh s s')(kp: ∀a o,G.own a≠ .none->s.heap.get? a=some o->s'.heap.get? a=some o)(hf:Fm1 Pp G' s'.heap fs.length f):St Pp G' (f::fs) hs J s':=by
 have k: ∀{a o t},G.own a=t->t≠ .none->s.heap.get? a=some o->s'.heap.get? a=some o:=λh n ho=>kp _ _ (by rw[h];exact n) ho;have fz': ∀a o,G'.own a= .fz o->s'.heap.get? a=some o:=λa o h=>by
  by_cases q:G.own a= .none
  ·rcases hn a q (by rw[h];intro z;cases z)with h1 |⟨o',h1,h2⟩ |h1
   ·rw[h]at h1;cases h1.1
   ·rw[h]at h1;cases h1;exact h2
   ·obtain⟨⟨_,h1⟩,_⟩:=h1;rw[h]at h1;cases h1
  ·have:G.own a= .fz o:=by rw[<-x.own a q,h]
   exact k this (by intro z;cases z) (S.fz a o this)
 refine⟨λa h=> ?_,fz',λa kk h=> ?_,λa o h=>x.le.fz _ _ (S.base a o h),⟨hf,S.fr.keep x λa o j h _ ho=>k h (by intro z;cases z) ho⟩,
  S.he.keep x (λa o j h _ ho=>k h (by intro z;cases z) ho) (λi bo h _=>⟨h,λa o h ho=>k h (by intro z;cases z) ho⟩),λi bo h=> ?_,λi q h=>S.dom i q (by rw[<-aY];exact h),sh.gens.trans S.gens,sh.os.trans S.os⟩
 ·by_cases q:G.own a= .none
  ·rcases hn a q h with h1 |⟨o,_,h2⟩ |⟨_,o,h2,_⟩
   ·exact h1.2
   ·rw[h2];rfl
   ·rw[h2];rfl
  ·obtain⟨o,ho⟩:=Option.isSome_iff_exists.mp (S.lt a q);rw[kp a o q ho];rfl
 ·by_cases q:G.own a= .none
  ·rcases hn a q (by rw[h];intro z;cases z)with h1 |⟨o,h1,_⟩ |⟨_,h2⟩
   ·rw[h]at h1;cases h1.1
   ·rw[h]at h1;cases h1
   ·exact h2
  ·have q':G.own a= .ce kk:=by rw[<-x.own a q,h]
   obtain⟨o,h1,h2⟩:=S.ce a _ q';exact⟨o,k q' (by intro z;cases z) h1,h2⟩
 ·obtain⟨q,h1,h2⟩:=S.ob i bo h
  exact⟨q,by rw[aY];exact h1,h2.keep x S.fz (λa o h=>fz' a o (x.le.fz _ _ h)) λa o h ho=>k h (by intro z;cases z) ho⟩
theorem St.pinOb{id:Nat}{ao ao':AO}{p:Addr×Addr}{o:Obj}(S:St Pp G fs hs J s)(hid:J[id]? =some ao)(hp:G.ρ id=some p)(hpin:L5 ao=false)(hpin':L5 ao'=true)(ho:G.own p.1= .ob id)(hg:s.heap.get? p.1=some o)
  (hr:OR Pp G s.heap id p ao'):St Pp G fs (.pin id o::hs) (J.set id ao') s:=by
 have S':=S.setOb (s':=s) (ao':=ao') hid hp ⟨λ_ _=>rfl,λ_ _ h=>h⟩ (λ_=>rfl) (λa h h'=>absurd h h') (λa ha=>S.lt a (by rw[ha];intro z;cases z)) ⟨rfl,rfl⟩ (λ_ _ _ _ h=>h) hr hpin;have hl:id<J.length:=(List.getElem?_eq_some_iff.mp hid).1;refine{ S' with he:=⟨⟨p,ao',hp,List.getElem?_set_self hl,hpin',ho,hg⟩, ?_,S'.he⟩ };have no: ∀{hs:Hs},HeOk G J s.heap hs-> ∀o',He.pin id o'∉hs:=λ{hs} h=>by
  induction hs with
  |nil=>intro o' h';cases h'
  |cons x r ih=>
   intro o' h';cases x with
   |he a b=>cases h' with |tail _ h'=>exact ih h.2.2 o' h'
   |pin j b=>cases h' with
    |head=>
     obtain⟨q,bo,_,b2,b3,_⟩:=h.1;rw[hid]at b2;cases b2;rw[hpin]at b3;cases b3
    |tail _ h'=>exact ih h.2.2 o' h'
 exact no S.he
theorem HeOk.unpin{h:Heap}{id:Nat}{ao:AO}: ∀{hs:Hs},HeOk G J h hs->(∀o',He.pin id o'∉hs)->HeOk G (J.set id ao) h hs
 |[],_,_=>trivial
 | .he _ _::r,⟨a,b,c⟩,n=>⟨a,b,HeOk.unpin c λo' h=>n o' (.tail _ h)⟩
 | .pin j ob::r,⟨⟨p,ao,a1,a2,a3⟩,b,c⟩,n=>⟨⟨p,ao,a1,by rw[List.getElem?_set_ne (λe=>by subst e;exact n ob (.head _))];exact a2,a3⟩,b,HeOk.unpin c λo' h=>n o' (.tail _ h)⟩
theorem St.unpin{id:Nat}{ao:AO}{p:Addr×Addr}{o:Obj}(S:St Pp G fs (.pin id o::hs) J s)(hp:G.ρ id=some p)(hr:OR Pp G s.heap id p ao):St Pp G fs hs (J.set id ao) s:=by
 refine⟨S.lt,S.fz,S.ce,S.base,S.fr,HeOk.unpin S.he.2.2 S.he.2.1,λi bo h=> ?_,λi q h=>by rw[List.length_set];exact S.dom i q h,S.gens,S.os⟩
 by_cases e:id=i
 ·subst e
  have hl:id<J.length:=S.dom _ _ hp;rw[List.getElem?_set_self hl]at h;cases h;exact⟨p,hp,hr⟩
 ·rw[List.getElem?_set_ne e]at h
  exact S.ob i bo h
end
end
section
theorem B3{a:Int}(h:small a=true):Builtin.Int.intBits a<=60:=PyProof.Rows.intBits_le (of_decide_eq_true h)
theorem b2r{a:Int}(h:small a=true):a.natAbs.log2<9000:=by
 have h:=of_decide_eq_true h
 by_cases h0:a.natAbs=0
 ·rw[h0];decide+kernel
 ·have:=(Nat.log2_lt h0).mpr h
  lia
section
variable{Pp:Par}
variable{G G':Gh}{fs:List Fm}{hs:Hs}{J:H}{s:Shared}{A:Around}{E:VP}{Q:VP}
variable(Pp) in
def SP(G:Gh)(fs:List Fm)(hs:Hs)(r:R AV)(Q:VP)(E:VP):Prop:=match r with
 | .ok a ae=> ∀G' v s',G.le G'->St Pp G' fs hs ae s'->VR Pp G' a v->Q v s'
 | .exc id ae=> ∀G' p s',G.le G'->St Pp G' fs hs ae s'->G'.ρ id=some p->E (.ref p.1) s'
 | .bad=>False
theorem SP.mono{r:R AV}{Q' E':VP}(x:G.le G')(h:SP Pp G fs hs r Q E)(hQ: ∀v s,Q v s->Q' v s)(hE: ∀v s,E v s->E' v s):SP Pp G' fs hs r Q' E':=by
 cases r with
 |ok a ae=>exact λG'' v s' y S V=>hQ _ _ (h G'' v s' (x.trans y) S V)
 |exc id ae=>exact λG'' p s' y S V=>hE _ _ (h G'' p s' (x.trans y) S V)
 |bad=>exact h
section
variable{z:R AV}{a:AV}{o:Option AO}
theorem SP.int{f}(h:SP Pp G fs hs (d8 z a f) Q E):(∃n,a= .int n/\SP Pp G fs hs (f n) Q E)\/SP Pp G fs hs z Q E:=a61 (λr=>SP Pp G fs hs r Q E) h
theorem SP.bool{f}(h:SP Pp G fs hs (u9 z a f) Q E):(∃n,a= .bool n/\SP Pp G fs hs (f n) Q E)\/SP Pp G fs hs z Q E:=b3j (λr=>SP Pp G fs hs r Q E) h
theorem SP.str{f}(h:SP Pp G fs hs (K0 z a f) Q E):(∃n,a= .str n/\SP Pp G fs hs (f n) Q E)\/SP Pp G fs hs z Q E:=b6g (λr=>SP Pp G fs hs r Q E) h
theorem SP.bytes{f}(h:SP Pp G fs hs (q9 z a f) Q E):(∃n,a= .bytes n/\SP Pp G fs hs (f n) Q E)\/SP Pp G fs hs z Q E:=a9q (λr=>SP Pp G fs hs r Q E) h
theorem SP.cls{f}(h:SP Pp G fs hs (z9 z a f) Q E):(∃n,a= .cls n/\SP Pp G fs hs (f n) Q E)\/SP Pp G fs hs z Q E:=a7f (λr=>SP Pp G fs hs r Q E) h
theorem SP.bi{f}(h:SP Pp G fs hs (a3c z a f) Q E):(∃n,a= .bi n/\SP Pp G fs hs (f n) Q E)\/SP Pp G fs hs z Q E:=a95 (λr=>SP Pp G fs hs r Q E) h
theorem SP.obj{f}(h:SP Pp G fs hs (n4 z a f) Q E):(∃n,a= .obj n/\SP Pp G fs hs (f n) Q E)\/SP Pp G fs hs z Q E:=a7n (λr=>SP Pp G fs hs r Q E) h
theorem SP.tup{f}(h:SP Pp G fs hs (q5 z a f) Q E):(∃n,a= .tup n/\SP Pp G fs hs (f n) Q E)\/SP Pp G fs hs z Q E:=c0y (λr=>SP Pp G fs hs r Q E) h
theorem SP.lst{f}(h:SP Pp G fs hs (o4 z a f) Q E):(∃n,a= .lst n/\SP Pp G fs hs (f n) Q E)\/SP Pp G fs hs z Q E:=a7q (λr=>SP Pp G fs hs r Q E) h
theorem SP.dfd{f}(h:SP Pp G fs hs (l9 .bad a f) Q E):a≠ .undef/\SP Pp G fs hs f Q E:=a02 (λr=>SP Pp G fs hs r Q E) h id
theorem SP.pL{f}(h:SP Pp G fs hs (W6 z o f) Q E):(∃u,o=some (.list u)/\SP Pp G fs hs (f u) Q E)\/SP Pp G fs hs z Q E:=c8u (λr=>SP Pp G fs hs r Q E) h
theorem SP.pD{f}(h:SP Pp G fs hs (W9 z o f) Q E):(∃u,o=some (.idict u)/\SP Pp G fs hs (f u) Q E)\/SP Pp G fs hs z Q E:=c7e (λr=>SP Pp G fs hs r Q E) h
theorem SP.pT{f}(h:SP Pp G fs hs (opT z o f) Q E):(∃u,o=some (.tdict u)/\SP Pp G fs hs (f u) Q E)\/SP Pp G fs hs z Q E:=c76 (λr=>SP Pp G fs hs r Q E) h
theorem SP.pE{f}(h:SP Pp G fs hs (R6 z o f) Q E):(∃u v w,o=some (.exc u v w)/\SP Pp G fs hs (f u v w) Q E)\/SP Pp G fs hs z Q E:=c0x (λr=>SP Pp G fs hs r Q E) h
theorem SP.sm{α:Type}{o:Option α}{f}(h:SP Pp G fs hs (g9 .bad o f) Q E): ∃a,o=some a/\SP Pp G fs hs (f a) Q E:=(H6 (λr=>SP Pp G fs hs r Q E) h).resolve_right id
theorem SP.wh{p:Bool}{f}(h:SP Pp G fs hs (c6 .bad p f) Q E):p=true/\SP Pp G fs hs f Q E:=(X7 (λr=>SP Pp G fs hs r Q E) h).resolve_right id
theorem SP.a1{α:Type}{l:List α}{f}(h:SP Pp G fs hs (u6 z l f) Q E):(∃a,l=[a]/\SP Pp G fs hs (f a) Q E)\/SP Pp G fs hs z Q E:=c2o (λr=>SP Pp G fs hs r Q E) h
theorem SP.a2{α:Type}{l:List α}{f}(h:SP Pp G fs hs (a1f z l f) Q E):(∃a b,l=[a,b]/\SP Pp G fs hs (f a b) Q E)\/SP Pp G fs hs z Q E:=c2v (λr=>SP Pp G fs hs r Q E) h
end
theorem SP.intk{f}(h:SP Pp G fs hs (d8 z a f) Q E){P:Prop}(k: ∀n,a= .int n->SP Pp G fs hs (f n) Q E->P)(k2:SP Pp G fs hs z Q E->P):P:=n3 (λr=>SP Pp G fs hs r Q E) h k k2
theorem SP.bytesk{f}(h:SP Pp G fs hs (q9 z a f) Q E){P:Prop}(k: ∀n,a= .bytes n->SP Pp G fs hs (f n) Q E->P)(k2:SP Pp G fs hs z Q E->P):P:=A6 (λr=>SP Pp G fs hs r Q E) h k k2
theorem SP.objk{f}(h:SP Pp G fs hs (n4 z a f) Q E){P:Prop}(k: ∀n,a= .obj n->SP Pp G fs hs (f n) Q E->P)(k2:SP Pp G fs hs z Q E->P):P:=u0 (λr=>SP Pp G fs hs r Q E) h k k2
theorem SP.tupk{f}(h:SP Pp G fs hs (q5 z a f) Q E){P:Prop}(k: ∀n,a= .tup n->SP Pp G fs hs (f n) Q E->P)(k2:SP Pp G fs hs z Q E->P):P:=y4 (λr=>SP Pp G fs hs r Q E) h k k2
theorem SP.lstk{f}(h:SP Pp G fs hs (o4 z a f) Q E){P:Prop}(k: ∀n,a= .lst n->SP Pp G fs hs (f n) Q E->P)(k2:SP Pp G fs hs z Q E->P):P:=y3 (λr=>SP Pp G fs hs r Q E) h k k2
theorem SP.sdk{f}(h:SP Pp G fs hs (c1x z a f) Q E){P:Prop}(k: ∀n,a= .sdict n->SP Pp G fs hs (f n) Q E->P)(k2:SP Pp G fs hs z Q E->P):P:=c7a (λr=>SP Pp G fs hs r Q E) h k k2
theorem SP.dfdk{f}(h:SP Pp G fs hs (l9 .bad a f) Q E){P:Prop}(k:a≠ .undef->SP Pp G fs hs f Q E->P):P:=k (SP.dfd h).1 (SP.dfd h).2
theorem SP.pLk{f}(h:SP Pp G fs hs (W6 z o f) Q E){P:Prop}(k: ∀u,o=some (.list u)->SP Pp G fs hs (f u) Q E->P)(k2:SP Pp G fs hs z Q E->P):P:=K9 (λr=>SP Pp G fs hs r Q E) h k k2
theorem SP.pDk{f}(h:SP Pp G fs hs (W9 z o f) Q E){P:Prop}(k: ∀u,o=some (.idict u)->SP Pp G fs hs (f u) Q E->P)(k2:SP Pp G fs hs z Q E->P):P:=K7 (λr=>SP Pp G fs hs r Q E) h k k2
theorem SP.pTk{f}(h:SP Pp G fs hs (opT z o f) Q E){P:Prop}(k: ∀u,o=some (.tdict u)->SP Pp G fs hs (f u) Q E->P)(k2:SP Pp G fs hs z Q E->P):P:=a05 (λr=>SP Pp G fs hs r Q E) h k k2
theorem SP.pPDk{f}(h:SP Pp G fs hs (b4n z o f) Q E){P:Prop}(k: ∀u,o=some (.pidict u)->SP Pp G fs hs (f u) Q E->P)(k2:SP Pp G fs hs z Q E->P):P:=c8a (λr=>SP Pp G fs hs r Q E) h k k2
theorem SP.pPTk{f}(h:SP Pp G fs hs (c13 z o f) Q E){P:Prop}(k: ∀u,o=some (.ptdict u)->SP Pp G fs hs (f u) Q E->P)(k2:SP Pp G fs hs z Q E->P):P:=c87 (λr=>SP Pp G fs hs r Q E) h k k2
theorem SP.smk{α:Type}{o:Option α}{f}(h:SP Pp G fs hs (g9 .bad o f) Q E){P:Prop}(k: ∀a,o=some a->SP Pp G fs hs (f a) Q E->P):P:=j5 (λr=>SP Pp G fs hs r Q E) h k False.elim
theorem SP.whk{p:Bool}{f}(h:SP Pp G fs hs (c6 .bad p f) Q E){P:Prop}(k:p=true->SP Pp G fs hs f Q E->P):P:=Z2 (λr=>SP Pp G fs hs r Q E) h k False.elim
theorem SP.a1k{α:Type}{l:List α}{f}(h:SP Pp G fs hs (u6 z l f) Q E){P:Prop}(k: ∀a,l=[a]->SP Pp G fs hs (f a) Q E->P)(k2:SP Pp G fs hs z Q E->P):P:=(SP.a1 h).elim (λ⟨a,e,h⟩=>k a e h) k2
theorem SP.le{r:R AV}(x:G.le G')(h:SP Pp G fs hs r Q E):SP Pp G' fs hs r Q E:=h.mono x (λ_ _ h=>h) λ_ _ h=>h
theorem St.toks(S:St Pp G fs hs J s)(k:Nat):St Pp G fs hs J { s with toks:=k }:=
 ⟨S.lt,S.fz,S.ce,S.base,S.fr,S.he,S.ob,S.dom,S.gens,S.os⟩
theorem St.push(S:St Pp G fs hs J s)(o:Obj)(k:Nat):St Pp G fs hs J { s with heap:=s.heap.push o,toks:=k }:=
 S.kept ⟨rfl,rfl⟩ λa o' _ h=>Heap.get?_push_of_some o h
theorem St.alloc(S:St Pp G fs hs J s){o:Obj}(ho:o.isFreed=false)(k:Nat):
  St Pp (G.add s.heap.objs.size (.fz o)) fs hs J { s with heap:=s.heap.push o,toks:=k }:=
 (S.push o k).freeze (S.fresh (Nat.le_refl _)) (Heap.get?_push_size _ ho)
theorem St.alloc_le(S:St Pp G fs hs J s){t:Own}:G.le (G.add s.heap.objs.size t):=(Gh.add_ext (S.fresh (Nat.le_refl _))).le
theorem VRs.length: ∀{l:List AV}{vs:List Value},VRs Pp G l vs->vs.length=l.length
 |[],[],_=>rfl
 |_::r,_::q,h=>by rw[List.length_cons,List.length_cons,VRs.length h.2]
 |[],_::_,h=>h.elim
 |_::_,[],h=>h.elim
theorem VRs.append: ∀{l l':List AV}{vs vs':List Value},VRs Pp G l vs->VRs Pp G l' vs'->VRs Pp G (l++l') (vs++vs')
 |[],_,[],_,_,h=>h
 |_::r,_,_::q,_,h,h'=>⟨h.1,VRs.append h.2 h'⟩
 |[],_,_::_,_,h,_=>h.elim
 |_::_,_,[],_,h,_=>h.elim
theorem VRs.get: ∀{l:List AV}{vs:List Value}{i:Nat}{a:AV},VRs Pp G l vs->l[i]? =some a-> ∃v,vs[i]? =some v/\VR Pp G a v
 |a::_,v::_,0,_,h,e=>by cases e;exact⟨v,rfl,h.1⟩
 |_::r,_::q,i+1,_,h,e=>VRs.get (l:=r) (vs:=q) (i:=i) h.2 e
 |[],_,_,_,_,e=>by cases e
 |_::_,[],_,_,h,_=>h.elim
theorem VRs.set: ∀{l:List AV}{vs:List Value}(i:Nat){a:AV}{v:Value},VRs Pp G l vs->VR Pp G a v->VRs Pp G (l.set i a) (vs.set i v)
 |[],[],_,_,_,_,_=>trivial
 |_::_,_::_,0,_,_,h,h'=>⟨h',h.2⟩
 |_::r,_::q,i+1,_,_,h,h'=>⟨h.1,VRs.set i h.2 h'⟩
 |[],_::_,_,_,_,h,_=>h.elim
 |_::_,[],_,_,_,h,_=>h.elim
theorem VRs.take: ∀{l:List AV}{vs:List Value}(n:Nat),VRs Pp G l vs->VRs Pp G (l.take n) (vs.take n)
 |[],[],n,_=>by rw[List.take_nil,List.take_nil];trivial
 |_::_,_::_,0,_=>trivial
 |_::r,_::q,n+1,h=>⟨h.1,VRs.take n h.2⟩
 |[],_::_,_,h=>h.elim
 |_::_,[],_,h=>h.elim
theorem G9(S:St Pp G fs hs J s){a:Addr}{vs:List Value}{n:Nat}(h:G.own a= .fz ⟨.type "tuple",none, .seq (Array.mk vs) n, #[]⟩):IsT s.heap a (Array.mk vs) n:=S.fz _ _ h
theorem p6(S:St Pp G fs hs J s){a:Addr}{vs:List Value}{n:Nat}(h:G.own a= .fz ⟨.type "list",none, .seq (Array.mk vs) n, #[]⟩):IsL s.heap a (Array.mk vs) n:=S.fz _ _ h
theorem VR.newTup(S:St Pp G fs hs J s){l:List AV}{vs:List Value}(h:VRs Pp G l vs):
  VR Pp (G.add s.heap.objs.size (.fz ⟨.type "tuple",none, .seq (Array.mk vs) 0, #[]⟩)) (.tup l) (.ref s.heap.objs.size):=
 ⟨_,vs,0,rfl,Gh.add_self,VRs.mono Pp S.alloc_le h⟩
theorem VR.newLst(S:St Pp G fs hs J s){l:List AV}{vs:List Value}(h:VRs Pp G l vs):
  VR Pp (G.add s.heap.objs.size (.fz ⟨.type "list",none, .seq (Array.mk vs) 0, #[]⟩)) (.lst l) (.ref s.heap.objs.size):=
 ⟨_,vs,0,rfl,Gh.add_self,VRs.mono Pp S.alloc_le h⟩
theorem j8{α:Type}{p:Bool}{x r:α}(h:c6 none p (some x)=some r):p=true/\x=r:=by
 cases p with
 |true=>cases h;exact⟨rfl,rfl⟩
 |false=>cases h
theorem b59{op:BOp}{a b r:Int}{t u:Tok}(e:a1q op a b=some r)(S:St Pp G fs hs J s)(h:SP Pp G fs hs (.ok (.int r) J) Q E):
  wpAny Pp.M A (binaryOp op (.int a t) (.int b u)) Q E s:=by
 have q:Q (.int r s.toks) { s with toks:=s.toks+1 }:=h G _ _ (.refl _) (S.toks _) ⟨_,rfl⟩;clear h S;cases op with
 |Add=>cases e;exact PyProof.Rows.add_int q
 |MatMult=>cases e
 |Div=>cases e
 |BitXor=>cases e
 |Sub=>cases e;exact PyProof.Rows.sub_int q
 |Mult=>
  obtain⟨hs,rfl⟩:=j8 e;refine PyProof.Rows.mul_int q ?_;rcases Bool.or_eq_true_iff.mp hs with hs |hs
  ·exact IntMulOk.of_left (Nat.le_trans (B3 hs) (by decide))
  ·exact IntMulOk.of_right (Nat.le_trans (B3 hs) (by decide))
 |FloorDiv=>
  obtain⟨hb,rfl⟩:=j8 e;obtain⟨h1,h2⟩:=an hb;exact PyProof.Rows.floordiv_int (q7 h1) q (.inl (PyProof.noPylong_of_log2 (b2r h2)))
 |Mod=>obtain⟨hb,rfl⟩:=j8 e;exact PyProof.Rows.mod_int' (q7 hb) q
 |LShift=>
  obtain⟨hb,rfl⟩:=j8 e;obtain⟨h1,h3⟩:=an hb;obtain⟨h1,h2⟩:=an h1;exact PyProof.Rows.lshift_int (q7 h1) (by have:=B3 h3;have:=q7 h2;lia) q
 |RShift=>obtain⟨hb,rfl⟩:=j8 e;exact PyProof.Rows.rshift_int (q7 hb) q
 |BitAnd=>cases e;exact PyProof.Rows.and_int q
 |BitOr=>cases e;exact PyProof.Rows.or_int q
 |Pow=>
  obtain⟨hb,rfl⟩:=j8 e;obtain⟨h1,h3⟩:=an hb;obtain⟨h1,h2⟩:=an h1;exact PyProof.Rows.pow_int (q7 h1) (by
    have h1:=B3 h3;have h2:(Builtin.Int.intBits a:Int)*b<=60*b:=Int.mul_le_mul_of_nonneg_right (by lia) (q7 (an (an hb).1).1);have:=q7 (an (an hb).1).2;lia) q
end
end
section
section
variable{Pp:Par}
variable{G G':Gh}{fs:List Fm}{hs:Hs}{J:H}{s:Shared}{A:Around}{E:VP}{Q:VP}
theorem V0{n:Nat}(h:n<=1000000):n<=sizeLine:=by rw[sizeLine_eq];lia
theorem a5e{vs:List Value}(h:0<vs.length): ¬(Array.mk vs).isEmpty=true:=λz=>by
 have:vs=[]:=by simpa using z
 subst this;simp at h
theorem d3r{a:Nat}{x:Int}(h0:0<=x)(h1:x<=1)(hsz:a<=1000000): ¬a*x.toNat>(2^63-1)/8/\ ¬a*x.toNat>sizeLine:=by
 have:x.toNat<=1:=by lia
 have:a*x.toNat<=a*1:=Nat.mul_le_mul_left _ this;rw[sizeLine_eq];lia
theorem d1g{l:Addr}{items:Array Value}{k:Nat}{x:Int}{u:Tok}{Q:VP}(hl:s.heap.get? l=some { cls:= .type "list",dict:=none,data:= .seq items k,slots:= #[] })
  (h0:0<=x)(h1:x<=1)(hsz:items.size<=1000000)
  (h:Q (.ref s.heap.objs.size) { s with heap:=s.heap.push { cls:= .type "list",data:= .seq (Array.mk (if x=1 then items.toList else [])) } }):
  wpAny Pp.M A (binaryOp .Mult (.ref l) (.int x u)) Q E s:=by
 refine wpAny_binaryOp_repeat_ref (T:= "list") (U:= "int") (by decide) ⟨_,hl,rfl⟩ (λs'=>typeIs_int s' x u) noFill_list_mul F.fills_int_mul F.slot_int_rmul repeat_list F.slot_int_index.lookup
  (call_meets F.slot_int_rmul (typeIs_int s x u) F.entry_int_rmul (F.args_int_rmul_2 _ _) (int___rmul___int_list x u l items k)
   ⟨hl,rfl,⟨_,hl,rfl⟩,call_meets F.slot_list_mul ⟨_,hl,rfl⟩ F.entry_list_mul (F.args_list_mul_2 _ _)
    (AutoListH.list___mul___list_int_3 l items k x u (by simp [Builtin.List.listFitsIndex];omega) (d3r h0 h1 hsz).1 (by simp [Builtin.List.listTooLong];exact Nat.not_lt.mp (d3r h0 h1 hsz).2))
    ⟨hl, ?_⟩⟩)
 have e:List.foldl (λx1 x2=>x1++x2) #[] (List.replicate (if items.isEmpty=true then 0 else x.toNat) items)=Array.mk (if x=1 then items.toList else []):=by
  rcases(show x=0\/x=1 by lia)with rfl |rfl
  ·simp
  ·by_cases he:items.isEmpty=true
   ·rw[if_pos he]
    have:items= #[]:=Array.isEmpty_iff.mp he;subst this;rfl
   ·rw[if_neg he];simp
 rw[e];exact h
theorem b1t{op:BOp}(h:b88 op=true):op= .add:=by cases op<;>first |rfl |cases h
theorem c9b{b:BI}(h:d2d b=true):b= .verr:=by cases b<;>first |rfl |cases h
theorem b0j{op:BOp}(h:b4s op=true):op= .mul:=by cases op<;>first |rfl |cases h
theorem a5m{α:Type}{l:List α}(h:(!l.isEmpty)=true):0<l.length:=by cases l with
 |nil=>cases h
 |cons a r=>exact Nat.succ_pos _
theorem b6j{op:BOp}{a b:AV}{u v:Value}(S:St Pp G fs hs J s)(ha:VR Pp G a u)(hb:VR Pp G b v)(h:SP Pp G fs hs (c3j op a b J) Q E):
  wpAny Pp.M A (binaryOp op u v) Q E s:=by
 replace h:=SP.int h;rcases h with ⟨x,rfl,h⟩ |h
 ·replace h:=h.int;rcases h with ⟨y,rfl,h⟩ |h
  ·refine h.smk λr e h=> ?_
   obtain⟨t,rfl⟩:=ha;obtain⟨t',rfl⟩:=hb;exact b59 e S h
  ·exact h.elim
 replace h:=h.lst;rcases h with ⟨x,rfl,h⟩ |h
 ·obtain⟨l,vs,n,rfl,h1,h2⟩:=ha
  have e1:=h2.length;replace h:=h.lst;rcases h with ⟨y,rfl,h⟩ |h
  ·obtain⟨l',vs',n',rfl,h1',h2'⟩:=hb
   refine h.whk λhz h=> ?_;obtain⟨hz,hz2⟩:=an hz;have hz2:x.length+y.length<=100000:=q7 hz2;rw[b1t hz];have e2:=h2'.length;have e3:(Array.mk vs++Array.mk vs')=Array.mk (vs++vs'):=by simp
   refine P.add_list (p6 S h1) (p6 S h1') ?_ (V0 (by show vs.length+vs'.length<=_;lia));rw[e3];exact h _ _ _ S.alloc_le (S.alloc rfl _) (VR.newLst S (h2.append h2'))
  ·replace h:=h.int;rcases h with ⟨y,rfl,h⟩ |h
   ·refine h.whk λhz h=> ?_
    obtain⟨hz,z4⟩:=an hz;obtain⟨hz,z3⟩:=an hz;obtain⟨hz,z2⟩:=an hz;have z4:x.length<=100000:=q7 z4;obtain⟨t',rfl⟩:=hb;rw[b0j hz];refine d1g (p6 S h1) (q7 z2) (q7 z3) (by show vs.length<=_;lia) ?_;refine h _ _ _ S.alloc_le (S.alloc rfl _) (VR.newLst S ?_)
    split
    ·exact h2
    ·trivial
   ·exact h.elim
 replace h:=h.tup;rcases h with ⟨x,rfl,h⟩ |h
 ·replace h:=h.tup;rcases h with ⟨y,rfl,h⟩ |h
  ·obtain⟨l,vs,n,rfl,h1,h2⟩:=ha
   obtain⟨l',vs',n',rfl,h1',h2'⟩:=hb;refine h.whk λhz h=> ?_;obtain⟨hz,z4⟩:=an hz;obtain⟨hz,z3⟩:=an hz;obtain⟨hz,z2⟩:=an hz;have z2:x.length+y.length<=100000:=q7 z2;have z3:=a5m z3;have z4:=a5m z4;have e1:=h2.length;have e2:=h2'.length;have e3:(Array.mk vs++Array.mk vs')=Array.mk (vs++vs'):=by simp
   rw[b1t hz];refine P.add_tuple (G9 S h1) (G9 S h1') (a5e (by lia)) (a5e (by lia)) ?_ (V0 (by show vs.length+vs'.length<=_;lia));rw[e3];exact h _ _ _ S.alloc_le (S.alloc rfl _) (VR.newTup S (h2.append h2'))
  ·exact h.elim
 replace h:=h.bytes;rcases h with ⟨l,rfl,h⟩ |h
 ·replace h:=h.int;rcases h with ⟨n,rfl,h⟩ |h
  ·replace h:=h.a1;rcases h with ⟨x,rfl,h⟩ |h
   ·refine h.whk λhz h=> ?_
    obtain⟨hz,z3⟩:=an hz;obtain⟨hz,z2⟩:=an hz;have z3:=q7 z3;have z2:=q7 z2;obtain⟨b,t,rfl,hb'⟩:=ha;obtain⟨t',rfl⟩:=hb;rw[b0j hz];obtain⟨y,hy,hx⟩: ∃y,b.toList=[y]/\y.toNat=x:=by
     cases hl:b.toList with
     |nil=>rw[hl]at hb';cases hb'
     |cons y r=>rw[hl]at hb';cases r with
      |nil=>exact⟨y,rfl,by simpa using hb'⟩
      |cons _ _=>simp at hb'
    have eb:b=[y].toArray:=by rw[<-hy]
    subst eb;refine bytes_mul_any (by simp) (by lia) (by lia) (by simp) λt' k=>h G _ _ (.refl _) (S.toks _) ⟨_,_,rfl, ?_⟩;simp [hx]
   ·exact h.elim
  ·exact h.elim
 ·exact h.elim
end
end
section
section
variable{Pp:Par}
variable{G G':Gh}{fs:List Fm}{hs:Hs}{J:H}{s:Shared}{A:Around}{E:VP}{Q:VP}
def Dat(h:Heap)(v:Value)(d:PyData)(n:Nat):Prop:=(∃as,Reads h v d as)/\d.canLay0=true/\d.depth<=n
theorem a6i{a:AV}{d:PyData}{v:Value}(V:VR Pp G a v)(e:c89 a=some d)(h:Heap):Dat h v d 1:=by
 refine n3 (· =some d) e (λn q_ e=> ?_) λe=>n6 (· =some d) e (λn q_ e=> ?_) nofun
 ·subst q_;cases e;obtain⟨t,rfl⟩:=V;exact⟨⟨_, .int _ _⟩,rfl,by simp [PyData.depth]⟩
 ·subst q_;cases e;cases V;exact⟨⟨_, .bool _⟩,rfl,by simp [PyData.depth]⟩
theorem F4{f:AV->Option PyData}{n:Nat}{h:Heap}(hf: ∀a d v,VR Pp G a v->f a=some d->Dat h v d n):
  ∀{l:List AV}{ds:List PyData}{vs:List Value},VRs Pp G l vs->a36 f l=some ds->(∃as,ReadsAll h vs ds as)/\PyData.canLayAll0 ds=true/\PyData.depthAll ds<=n
 |[],ds,[],_,e=>by cases e;exact⟨⟨_, .nil⟩,rfl,by simp [PyData.depthAll]⟩
 |a::r,ds,v::q,V,e=>by
  refine j5 (· =some ds) e (λx h1 e=>j5 (· =some ds) e (λy h2 e=> ?_) nofun) nofun;cases e;obtain⟨⟨as,r1⟩,c1,d1⟩:=hf a x v V.1 h1;obtain⟨⟨bs,r2⟩,c2,d2⟩:=F4 hf V.2 h2;exact⟨⟨_, .cons r1 r2⟩,by simp only [PyData.canLayAll0,c1,c2,Bool.and_self],by simp only [PyData.depthAll];lia⟩
 |[],_,_::_,V,_=>V.elim
 |_::_,_,[],V,_=>V.elim
theorem H4(S:St Pp G fs hs J s){a:AV}{d:PyData}{v:Value}(V:VR Pp G a v)(e:U9 a=some d):Dat s.heap v d 2:=by
 refine y4 (· =some d) e (λl q_ e=> ?_) λe=> ?_
 ·subst q_
  obtain⟨ds,hd,rfl⟩:=Option.map_eq_some_iff.mp e;obtain⟨t,vs,n,rfl,h1,h2⟩:=V;obtain⟨⟨as,r⟩,c,dp⟩:=F4 (h:=s.heap) (n:=1) (λa d v V e=>a6i V e s.heap) h2 hd;exact⟨⟨_, .tuple (G9 S h1) rfl rfl r⟩,by simp only [PyData.canLay0,c],by simp only [PyData.depth];lia⟩
 ·obtain⟨a1,a2,a3⟩:=a6i V e s.heap;exact⟨a1,a2,by lia⟩
theorem Y6{h:Heap}: ∀{vs:List Value}{l:List Int},PyProof.Rows.IntsAre vs l->(∃as,ReadsAll h vs (l.map .int) as)/\PyData.canLayAll0 (l.map .int)=true/\PyData.depthAll (l.map .int)<=1
 |_,_, .nil=>⟨⟨_, .nil⟩,rfl,by simp [PyData.depthAll]⟩
 |_,_, .cons n t r=>by
  obtain⟨⟨as,q⟩,c,d⟩:=Y6 (h:=h) r;exact⟨⟨_, .cons (.int n t) q⟩,by simp only [List.map_cons,PyData.canLayAll0,PyData.canLay0,c,Bool.and_self],by simp only [List.map_cons,PyData.depthAll,PyData.depth];lia⟩
theorem b8m(S:St Pp G fs hs J s){a:AV}{d:PyData}{v:Value}(V:VR Pp G a v)(e:a5u a=some d):Dat s.heap v d 3:=by
 refine y3 (· =some d) e (λl q_ e=> ?_) λe=>b1f (· =some d) e (λl q_ e=> ?_) λe=> ?_
 ·subst q_
  obtain⟨ds,hd,rfl⟩:=Option.map_eq_some_iff.mp e;obtain⟨t,vs,n,rfl,h1,h2⟩:=V;obtain⟨⟨as,r⟩,c,dp⟩:=F4 (h:=s.heap) (n:=2) (λa d v V e=>H4 S V e) h2 hd;exact⟨⟨_, .list (p6 S h1) rfl rfl r⟩,by simp only [PyData.canLay0,c],by simp only [PyData.depth];lia⟩
 ·subst q_
  cases e;obtain⟨t,o,vs,n,rfl,h1,h2,h3,h4⟩:=V;obtain⟨⟨as,r⟩,c,dp⟩:=Y6 (h:=s.heap) h4;exact⟨⟨_, .list (S.fz _ _ h1) h2 h3 r⟩,by simp only [PyData.canLay0,c],by simp only [PyData.depth];lia⟩
 ·obtain⟨a1,a2,a3⟩:=H4 S V e;exact⟨a1,a2,by lia⟩
theorem J3(S:St Pp G fs hs J s){a:AV}{d:PyData}{v:Value}(V:VR Pp G a v)(e:a5u (D9 J a)=some d):Dat s.heap v d 3:=by
 refine u0 (λr=>a5u r=some d) e (λid q_ e=> ?_) λe=> ?_
 ·subst q_
  refine K9 (λr=>a5u r=some d) e (λl hl e=> ?_) nofun
  ·obtain⟨p,hp,rfl⟩:=V
   obtain⟨p',hp',_,vs,n,h1,h2⟩:=S.ob _ _ hl;rw[hp]at hp';cases hp';obtain⟨ds,hd,rfl⟩:=Option.map_eq_some_iff.mp (show(a36 U9 l).map PyData.list=some d from e);obtain⟨⟨as,r⟩,c,dp⟩:=F4 (h:=s.heap) (n:=2) (λa d v V e=>H4 S V e) h2 hd;exact⟨⟨_, .list h1 rfl rfl r⟩,by simp only [PyData.canLay0,c],by simp only [PyData.depth];lia⟩
 ·exact b8m S V e
theorem J4{J:H}{a:AV}{x:Nat}(e:D9 J a= .str x):a= .str x:=by
 exact u0 (λr:AV=>r=AV.str x) e (λ_ _ e=>K9 (λr:AV=>r=AV.str x) e (λ_ _ z=>nomatch z) (λz=>nomatch z)) id
theorem Dat.shaped{h:Heap}{v:Value}{d:PyData}{n:Nat}(x:Dat h v d n)(hn:n<=64):SeqAt.shaped d=true:=by
 unfold SeqAt.shaped;rw[x.2.1,decide_eq_true (Nat.le_trans x.2.2 hn)];rfl
theorem a1h(x y:Nat):((Pp.D.nm x).cps.toList==(Pp.D.nm y).cps.toList)=(x==y):=by
 rw[SeqAt.str_beq]
 by_cases h:x=y
 ·subst h;simp
 ·rw[beq_false_of_ne h,beq_false_of_ne λe=>h (Pp.D.inj _ _ e)]
inductive EqAs (a b:AV) (k:Bool):Prop
 |s (x y:Nat) (h1:a= .str x) (h2:b= .str y) (h:(x==y)=k)
 |d (x y:PyData) (h1:a5u a=some x) (h2:a5u b=some y) (h:PyData.eqv x y=k)
theorem c1u{a b:AV}{k:Bool}(e:eqD a b=some k):EqAs a b k:=
 j5 (· =some k) e (λx h1 e=>j5 (· =some k) e (λy h2 e=> .d x y h1 h2 (Option.some.inj e)) nofun) nofun
theorem b6q{a b:AV}{k:Bool}(e:eqA a b=some k):EqAs a b k:=by
 unfold eqA at e;exact P5 (· =some k) e (λx h1 e=>P5 (· =some k) e (λy h2 e=> .s x y h1 h2 (Option.some.inj e)) c1u) c1u
theorem c7s{a b:AV}{u v:Value}{k:Bool}(S:St Pp G fs hs J s)(ha:VR Pp G a u)(hb:VR Pp G b v)(hu:A.units+64<cLine)(e:eqA (D9 J a) (D9 J b)=some k)(h:Q (.bool k) s):
  wpAny Pp.M A (compareOp .Eq u v) Q E s:=by
 cases b6q e with
 |s x y e1 e2 e=>
  subst e;cases J4 e1;cases J4 e2;obtain⟨t,rfl⟩:=ha;obtain⟨t',rfl⟩:=hb;refine PySem.P.eq_str ?_;rw[a1h];exact h
 |d x y e1 e2 e=>
   subst e;have d1:=J3 S ha e1;have d2:=J3 S hb e2;obtain⟨⟨as,r1⟩,_⟩:=id d1;obtain⟨⟨bs,r2⟩,_⟩:=id d2;exact SeqAt.compareEq_shaped r1 r2 (d1.shaped (by decide)) (d2.shaped (by decide)) hu h
theorem c7y{a b:AV}{u v:Value}{k:Bool}(S:St Pp G fs hs J s)(ha:VR Pp G a u)(hb:VR Pp G b v)(hu:A.units+64<cLine)(e:eqA (D9 J a) (D9 J b)=some k)(h:Q (.bool (!k)) s):
  wpAny Pp.M A (compareOp .NotEq u v) Q E s:=by
 cases b6q e with
 |s x y e1 e2 e=>
  subst e;cases J4 e1;cases J4 e2;obtain⟨t,rfl⟩:=ha;obtain⟨t',rfl⟩:=hb;refine PySem.P.ne_str ?_;have:((Pp.D.nm x).cps.toList != (Pp.D.nm y).cps.toList)= !(x==y):=by rw[bne,a1h]
  rw[this];exact h
 |d x y e1 e2 e=>
   subst e;have d1:=J3 S ha e1;have d2:=J3 S hb e2;obtain⟨⟨as,r1⟩,_⟩:=id d1;obtain⟨⟨bs,r2⟩,_⟩:=id d2;exact SeqAt.compareNe_shaped r1 r2 (d1.shaped (by decide)) (d2.shaped (by decide)) hu h
end
end
section
section
variable{Pp:Par}
variable{G G':Gh}{fs:List Fm}{hs:Hs}{J:H}{s:Shared}{A:Around}{E:VP}{Q:VP}
theorem KVR.len: ∀{d:List (Int×AV)}{kvs:List (Int×Value)},KVR Pp G d kvs->kvs.length=d.length
 |[],[],_=>rfl
 |_::_,_::_,h=>by rw[List.length_cons,List.length_cons,KVR.len h.2.2]
 |[],_::_,h=>h.elim
 |_::_,[],h=>h.elim
theorem KVR.none: ∀{d:List (Int×AV)}{kvs:List (Int×Value)}{k:Int},KVR Pp G d kvs->a9 d k=none->valueAt kvs k=none
 |[],[],k,_,_=>rfl
 |a::r,v::q,k,h,e=>by
  unfold a9 at e;unfold valueAt;rw[List.find?_cons]at e⊢;rw[<-h.1]
  by_cases hk:a.1=k
  ·simp [hk]at e
  ·simp only [hk,decide_false]at e⊢
   exact KVR.none (d:=r) (kvs:=q) h.2.2 e
 |[],_::_,_,h,_=>h.elim
 |_::_,[],_,h,_=>h.elim
theorem KVR.some: ∀{d:List (Int×AV)}{kvs:List (Int×Value)}{k:Int}{a:AV},KVR Pp G d kvs->a9 d k=some a-> ∃v,valueAt kvs k=some v/\VR Pp G a v
 |[],[],k,_,_,e=>by cases e
 |a::r,v::q,k,_,h,e=>by
  unfold a9 at e;unfold valueAt;rw[List.find?_cons]at e⊢;rw[<-h.1]
  by_cases hk:a.1=k
  ·simp only [hk,decide_true,Option.map_some,Option.some.injEq]at e⊢
   subst e;exact⟨_,rfl,h.2.1⟩
  ·simp only [hk,decide_false]at e⊢
   exact KVR.some (d:=r) (kvs:=q) h.2.2 e
 |[],_::_,_,_,h,_=>h.elim
 |_::_,[],_,_,h,_=>h.elim
theorem KVR.any: ∀{d:List (Int×AV)}{kvs:List (Int×Value)}(k:Int),KVR Pp G d kvs->kvs.any (λkv=>kv.1=k)=d.any (λp=>p.1=k)
 |[],[],_,_=>rfl
 |a::r,v::q,k,h=>by rw[List.any_cons,List.any_cons,h.1,KVR.any k h.2.2]
 |[],_::_,_,h=>h.elim
 |_::_,[],_,h=>h.elim
theorem KVR.map: ∀{d:List (Int×AV)}{kvs:List (Int×Value)}(k:Int){a:AV}{v:Value},KVR Pp G d kvs->VR Pp G a v->
  KVR Pp G (d.map λp=>if p.1=k then (p.1,a)else p) (kvs.map λp=>if p.1=k then (p.1,v)else p)
 |[],[],_,_,_,_,_=>trivial
 |x::r,y::q,k,_,_,h,hv=>by
  rw[List.map_cons,List.map_cons, <-h.1];refine⟨?_, ?_,KVR.map k h.2.2 hv⟩
  ·split<;>simp [h.1]
  ·split
   ·exact hv
   ·exact h.2.1
 |[],_::_,_,_,_,h,_=>h.elim
 |_::_,[],_,_,_,h,_=>h.elim
theorem KVR.snoc: ∀{d:List (Int×AV)}{kvs:List (Int×Value)}(k:Int){a:AV}{v:Value},KVR Pp G d kvs->VR Pp G a v->KVR Pp G (d++[(k,a)]) (kvs++[(k,v)])
 |[],[],_,_,_,_,hv=>⟨rfl,hv,trivial⟩
 |_::_,_::_,k,_,_,h,hv=>⟨h.1,h.2.1,KVR.snoc k h.2.2 hv⟩
 |[],_::_,_,_,_,h,_=>h.elim
 |_::_,[],_,_,_,h,_=>h.elim
theorem KVR.set{d:List (Int×AV)}{kvs:List (Int×Value)}(k:Int){a:AV}{v:Value}(h:KVR Pp G d kvs)(hv:VR Pp G a v):KVR Pp G (i5 d k a) (stored kvs k v):=by
 unfold i5 stored;rw[h.any k]
 split
 ·exact h.map k hv
 ·exact h.snoc k hv
theorem KVR.del: ∀{d:List (Int×AV)}{kvs:List (Int×Value)}(k:Int),KVR Pp G d kvs->KVR Pp G (o8 d k) (without kvs k)
 |[],[],_,_=>trivial
 |a::r,v::q,k,h=>by
  unfold o8 without;rw[List.filter_cons,List.filter_cons, <-h.1]
  split
  ·exact⟨h.1,h.2.1,KVR.del k h.2.2⟩
  ·exact KVR.del k h.2.2
 |[],_::_,_,h=>h.elim
 |_::_,[],_,h=>h.elim
theorem VR.notNone{a:AV}{v:Value}(h:VR Pp G a v)(h1:a≠ .undef)(h2:a≠ .none):(v==Value.none)=false:=by
 cases a with
 |undef=>exact absurd rfl h1
 |none=>exact absurd rfl h2
 |bool b=>cases h;rfl
 |int i=>obtain⟨t,rfl⟩:=h;rfl
 |str x=>obtain⟨t,rfl⟩:=h;rfl
 |text=>obtain⟨x,t,rfl⟩:=h;rfl
 |bytes l=>obtain⟨x,t,rfl,_⟩:=h;rfl
 |fn f=>cases h;rfl
 |cls f=>cases h;rfl
 |bi b=>cases h;cases b<;>rfl
 |obj id=>obtain⟨p,_,rfl⟩:=h;rfl
 |tup l=>obtain⟨a,vs,n,rfl,_⟩:=h;rfl
 |lst l=>obtain⟨a,vs,n,rfl,_⟩:=h;rfl
 |arg l=>obtain⟨a,vs,n,_,rfl,_⟩:=h;rfl
 |rng l=>obtain⟨a,_,_,_,rfl,_⟩:=h;rfl
 |sdict l=>obtain⟨a,_,_,rfl,_⟩:=h;rfl
theorem I0(S:St Pp G fs hs J s)(hb:(Pp.base.get? sysModules).isSome=true){a:Addr}{id:Nat}(h:G.own a= .ob id):(a==sysModules)=false:=by
 obtain⟨o,ho⟩:=Option.isSome_iff_exists.mp hb;refine beq_false_of_ne λe=> ?_;rw[e,S.base _ _ ho]at h;cases h
def NB(r:R AV):Prop:=r≠ .bad
theorem a6v{a b:AV}{u v:Value}(S:St Pp G fs hs J s)(hb:(Pp.base.get? sysModules).isSome=true)(hu:A.units+70<cLine)(ha:VR Pp G a u)(hv:VR Pp G b v)(h:Y8 a b J≠ .bad):
  ∃k,Y8 a b J= .ok (.bool k) J/\(∀Q:Value->Shared->Prop,(∀t,Q (.bool k) { s with toks:=t })->wpAny Pp.M A (compareOp .In u v) Q E s)/\(∀Q:Value->Shared->Prop,(∀t,Q (.bool !k) { s with toks:=t })->wpAny Pp.M A (compareOp .NotIn u v) Q E s):=by
 have lst: ∀{l:List AV}{vs:List Value}{n:Nat}{q:Addr}{y:Bool},v= .ref q->IsL s.heap q (Array.mk vs) n->VRs Pp G l vs->inL a l=some y->
   (∀Q:Value->Shared->Prop,(∀t,Q (.bool y) { s with toks:=t })->wpAny Pp.M A (compareOp .In u v) Q E s)/\(∀Q:Value->Shared->Prop,(∀t,Q (.bool !y) { s with toks:=t })->wpAny Pp.M A (compareOp .NotIn u v) Q E s):=λ{l} {vs} {n} {q} {y} e1 e2 e3 e=>by
  replace e:=(H6 (λr=>r=some y) e).resolve_right (nomatch ·);obtain⟨xs,e4,e⟩:=e;replace e:=(H6 (λr=>r=some y) e).resolve_right (nomatch ·);obtain⟨d,e5,e⟩:=e;cases e;subst e1;obtain⟨⟨as,r⟩,c,dp⟩:=F4 (h:=s.heap) (n:=2) (λa d v V e=>H4 S V e) e3 e4;obtain⟨⟨bs,r'⟩,c',dp'⟩:=H4 S ha e5;exact⟨λQ hQ=>SeqAt.in_list_reads (.list e2 rfl rfl r) r' c c' (by lia) (hQ _),λQ hQ=>SeqAt.notIn_list_reads (.list e2 rfl rfl r) r' c c' (by lia) (hQ _)⟩
 refine u0 NB h (λid q_ h'=> ?_) λh'=> ?_
 ·subst q_
  refine a8 λp_ ah=> ?_;obtain⟨p,hp,rfl⟩:=hv;refine ah ?_;refine K7 NB h' (λd ho h'=> ?_) λh'=> ?_
  ·refine n3 NB h' (λk q_ _=> ?_) λz_=>absurd z_ (λz=>z rfl)
   subst q_;refine a8 λp_ ah=> ?_;obtain⟨t,rfl⟩:=ha;obtain⟨p',hp',h1,kvs,h2,h3⟩:=S.ob _ _ ho;rw[hp]at hp';cases hp';have e:(valueAt kvs k).isSome=(a9 d k).isSome:=by
    cases q:a9 d k with
    |none=>rw[h3.none q];rfl
    |some a=>obtain⟨v,e,_⟩:=h3.some q;rw[e];rfl
   refine ah ?_;refine⟨(a9 d k).isSome,by unfold Y8;show W9 _ J[id]? _=_;rw[ho];rfl,λQ hQ=> ?_,λQ hQ=> ?_⟩
   ·exact wpAny_in_of (knd:=intKind Pp.prog Pp.w) (k:=k) (by simp [intKind,Value.isInt]) (I0 S hb h1) h2.mapOf (by rw[e];exact hQ _)
   ·exact wpAny_notIn_of (knd:=intKind Pp.prog Pp.w) (k:=k) (by simp [intKind,Value.isInt]) (I0 S hb h1) h2.mapOf (by rw[e];exact hQ _)
  ·refine K9 NB h' (λl ho h'=> ?_) λz_=>absurd z_ (λz=>z rfl)
   refine j5 NB h' (λy e _=> ?_) λz_=>absurd z_ (λz=>z rfl);refine a8 λp_ ah=> ?_;obtain⟨p',hp',h1,vs,n,h2,h3⟩:=S.ob _ _ ho;rw[hp]at hp';cases hp';refine ah ?_;exact⟨y,by unfold Y8;show W9 _ J[id]? _=_;rw[ho];show g9 _ (inL a l) _=_;rw[e];rfl,lst rfl h2 h3 e⟩
 ·refine y3 NB h' (λl q_ h'=> ?_) λz_=>absurd z_ (λz=>z rfl)
  subst q_;refine j5 NB h' (λy e _=> ?_) λz_=>absurd z_ (λz=>z rfl);refine a8 λp_ ah=> ?_;obtain⟨q,vs,n,rfl,h1,h2⟩:=hv;refine ah ?_;exact⟨y,by unfold Y8;show g9 _ (inL a l) _=_;rw[e];rfl,lst rfl (p6 S h1) h2 e⟩
theorem b1m{a b:AV}(h:a7c a b J≠ .bad): ∃k,eqA (D9 J a) (D9 J b)=some k/\a7c a b J= .ok (.bool k) J:=by
 refine j5 NB h (λk e _=> ?_) λz_=>absurd z_ (λz=>z rfl);exact⟨k,e,by unfold a7c;rw[e];rfl⟩
theorem Z0{a b:AV}{u v:Value}(ha:VR Pp G a u)(hv:VR Pp G b v)(h:I7 a b J≠ .bad):v= .none/\I7 a b J= .ok (.bool (u== .none)) J:=by
 obtain⟨h1,h2⟩:=a02 NB h λz=>z rfl;obtain⟨rfl,_⟩:=(a16 NB h2).resolve_right λz=>z rfl;cases hv;refine⟨rfl, ?_⟩;cases a<;>first |exact absurd rfl h1 |(cases ha;rfl) |skip
 all_goals exact congrArg (λx=>R.ok (AV.bool x) J) (ha.notNone h1 (nomatch ·)).symm
theorem a2r{r:R AV}(h:SP Pp G fs hs (a0a r) Q E):r≠ .bad:=λz=>by rw[z]at h;exact h
theorem a1b{r:R AV}(h:SP Pp G fs hs r Q E):r≠ .bad:=λz=>by rw[z]at h;exact h
theorem W7{a b:AV}{u v:Value}{f:Int->Int->Bool}(ha:VR Pp G a u)(hv:VR Pp G b v)(h:SP Pp G fs hs (a84 a b J f) Q E):
  ∃x y t t',u= .int x t/\v= .int y t'/\SP Pp G fs hs (.ok (.bool (f x y)) J) Q E:=by
 replace h:=SP.int h;rcases h with ⟨x,rfl,h⟩ |h
 ·replace h:=h.int
  rcases h with ⟨y,rfl,h⟩ |h
  ·obtain⟨t,rfl⟩:=ha;obtain⟨t',rfl⟩:=hv
   exact⟨x,y,t,t',rfl,rfl,h⟩
  ·exact h.elim
 ·exact h.elim
theorem s2{op:COp}{a b:AV}{u v:Value}(S:St Pp G fs hs J s)(hb:(Pp.base.get? sysModules).isSome=true)(hu:A.units+70<cLine)(ha:VR Pp G a u)(hv:VR Pp G b v)
  (h:SP Pp G fs hs (w0 op a b J) Q E):wpAny Pp.M A (compareOp op u v) Q E s:=by
 have stay: ∀{k:Bool}{t:Nat},SP Pp G fs hs (.ok (.bool k) J) Q E->Q (.bool k) { s with toks:=t }:=λh=>h G _ _ (.refl _) (S.toks _) rfl;cases op with
 |Lt=>obtain⟨x,y,t,t',rfl,rfl,h⟩:=W7 ha hv h;exact PyProof.Rows.lt_int (stay h)
 |LtE=>obtain⟨x,y,t,t',rfl,rfl,h⟩:=W7 ha hv h;exact PyProof.Rows.le_int (stay h)
 |Gt=>obtain⟨x,y,t,t',rfl,rfl,h⟩:=W7 ha hv h;exact PyProof.Rows.gt_int (stay h)
 |GtE=>obtain⟨x,y,t,t',rfl,rfl,h⟩:=W7 ha hv h;exact PyProof.Rows.ge_int (stay h)
 |Eq=>obtain⟨k,e,e'⟩:=b1m (a1b h);exact c7s S ha hv (by lia) e (stay (e'▸h))
 |NotEq=>obtain⟨k,e,e'⟩:=b1m (a2r h);exact c7y S ha hv (by lia) e (stay (show SP Pp G fs hs (a0a (.ok (.bool k) J)) Q E from e'▸h))
 |In=>obtain⟨k,e,e1,_⟩:=a6v (E:=E) S hb hu ha hv (a1b h);exact e1 _ λt=>stay (e▸h)
 |NotIn=>obtain⟨k,e,_,e1⟩:=a6v (E:=E) S hb hu ha hv (a2r h);exact e1 _ λt=>stay (show SP Pp G fs hs (a0a (.ok (.bool k) J)) Q E from e▸h)
 |Is=>obtain⟨rfl,e⟩:=Z0 ha hv (a1b h);exact is_none (stay (e▸h))
 |IsNot=>obtain⟨rfl,e⟩:=Z0 ha hv (a2r h);exact isNot_none (stay (show SP Pp G fs hs (a0a (.ok (.bool (u== .none)) J)) Q E from e▸h))
theorem a0y{a:AV}{u:Value}{k:Bool}{Q:Bool->Shared->Prop}(ha:VR Pp G a u)(e:c7n a=some k)(h:Q k s):wpAny Pp.M A (truthy u) Q E s:=by
 refine n6 (λr=>r=some k) e (λb q_ e=> ?_) λe=> ?_
 ·subst q_
  cases ha;cases e;exact wpAny_truthy_bool h
 refine n3 (λr=>r=some k) e (λb q_ e=> ?_) λe=> ?_
 ·subst q_
  obtain⟨t,rfl⟩:=ha;cases e;exact PyProof.Rows.truthy_int h
 refine P6 (λr=>r=some k) e (λq_ e=> ?_) λe=> ?_
 ·subst q_
  cases ha;cases e;exact PyProof.Rows.truthy_none h
 ·cases e
end
end
section
section
variable{Pp:Par}
variable{G G':Gh}{fs:List Fm}{hs:Hs}{J:H}{s:Shared}{A:Around}{E:VP}{Q:VP}
theorem a12: ∀{ks:List AV}{k:List KA}{vs:List Value},VRs Pp G ks vs->s5 ks=some k->ItemsAre (k9 Pp) k vs
 |[],_,[],_,e=>by cases e;exact .nil
 |a::r,k,v::q,h,e=>j5 (· =some k) e (λx e1 e=>j5 (· =some k) e (λy e2 e=>by
   cases e;refine .cons ?_ (a12 h.2 e2);refine n3 (· =some x) e1 (λn q_ e'=> ?_) λe'=>P5 (· =some x) e' (λn q_ e'=> ?_) nofun
   ·subst q_;obtain⟨t,rfl⟩:=h.1;cases e';simp [k9,a88,Value.isInt]
   ·subst q_;obtain⟨t,rfl⟩:=h.1;cases e';simp [k9,a88,Value.isStrOf]) nofun) nofun
 |[],_,_::_,h,_=>h.elim
 |_::_,_,[],h,_=>h.elim
theorem a2w(S:St Pp G fs hs J s){a:Addr}{ks:List AV}{vs:List Value}{n:Nat}{k:List KA}(h:G.own a= .fz ⟨.type "tuple",none, .seq (Array.mk vs) n, #[]⟩)(hv:VRs Pp G ks vs)(e:s5 ks=some k):
  IsTupleKey (k9 Pp) s.heap k a:=⟨_,_,_,G9 S h,rfl,rfl,a12 hv e⟩
theorem P7: ∀{d:List (List KA×Int)}{xs:List (List KA×Addr×Value)}{ts:List Tok}{k:List KA},xs.map (·.1)=d.map (·.1)->ts.length=d.length->xs.map (·.2.2)=(d.zip ts).map (λp=>Value.int p.1.2 p.2)->
  match a9 d k with |some n=> ∃a t,atKey xs k=some (a, .int n t) |none=>atKey xs k=none
 |[],[],_,k,_,_,_=>rfl
 |p::r,x::q,t::ts,k,h1,h2,h3=>by
  simp only [List.map_cons,List.cons.injEq,List.zip_cons_cons,List.length_cons,Nat.add_right_cancel_iff]at h1 h2 h3;have ih:=P7 (d:=r) (xs:=q) (ts:=ts) (k:=k) h1.2 h2 h3.2;unfold a9 atKey at ih⊢;rw[List.find?_cons,List.find?_cons,h1.1]
  by_cases hk:p.1=k
  ·simp only [hk,decide_true,Option.map_some]
   exact⟨x.2.1,t,by rw[<-h3.1]⟩
  ·simp only [hk,decide_false]
   exact ih
 |[],_::_,_,_,h,_,_=>by cases h
 |_::_,[],_,_,h,_,_=>by cases h
 |_::_,_::_,[],_,_,h,_=>by cases h
theorem TVR.some{d:List (List KA×Int)}{xs:List (List KA×Addr×Value)}{k:List KA}{n:Int}(h:TVR G d xs)(e:a9 d k=some n): ∃a t,atKey xs k=some (a, .int n t):=by
 obtain⟨h1,_,ts,h2,h3⟩:=h;have:=P7 (k:=k) h1 h2 h3;rw[e]at this;exact this
theorem TVR.none{d:List (List KA×Int)}{xs:List (List KA×Addr×Value)}{k:List KA}(h:TVR G d xs)(e:a9 d k=Option.none):atKey xs k=Option.none:=by
 obtain⟨h1,_,ts,h2,h3⟩:=h;have:=P7 (k:=k) h1 h2 h3;rw[e]at this;exact this
theorem b1h{x:Nat}: ∀{d:List (Nat×Int)}{kvs:List (Str×Value)}{ts:List Tok},kvs.map (·.1)=d.map (λp=>Pp.D.nm p.1)->kvs.map (·.2)=(d.zip ts).map (λp=>Value.int p.1.2 p.2)->ts.length=d.length->
  match a9 d x with |some n=> ∃t',valueAt kvs (Pp.D.nm x)=some (.int n t') |none=>True
 |[],[],_,_,_,_=>trivial
 |p::r,y::q,t::ts,h3,h4,h5=>by
  simp only [List.map_cons,List.cons.injEq,List.zip_cons_cons,List.length_cons,Nat.add_right_cancel_iff]at h3 h4 h5;have ih:=b1h (x:=x) (d:=r) (kvs:=q) (ts:=ts) h3.2 h4.2 h5;unfold a9 valueAt at ih⊢;rw[List.find?_cons,List.find?_cons]
  by_cases hk:p.1=x
  ·have hk':y.1=Pp.D.nm x:=by rw[h3.1,hk]
   simp only [hk,hk',decide_true,Option.map_some];exact⟨t,by rw[h4.1]⟩
  ·have hk': ¬y.1=Pp.D.nm x:=λe=>hk (Pp.D.inj _ _ (h3.1.symm.trans e))
   simp only [hk,hk',decide_false];exact ih
 |[],_::_,_,h,_,_=>by cases h
 |_::_,[],_,h,_,_=>by cases h
 |_::_,_::_,[],_,_,h=>by cases h
theorem Q8:typeLookup (.type "list") "__getitem__" =pure (some (.builtin "list.__getitem__")):=slot_list_getitem.lookup
theorem a86:typeLookup (.type "tuple") "__getitem__" =pure (some (.builtin "tuple.__getitem__")):=F.slot_tuple_getitem.lookup
theorem Q9:typeLookup (.type "dict") "__getitem__" =pure (some (.builtin "dict.__getitem__")):=slot_dict_getitem.lookup
def a17(prog:Program)(w:World)(A:Around)(u v:Value)(Q:VP)(E:VP)(s:Shared):Prop:=
 ∃T id,s.TypeIs u T/\typeLookup (.type T) "__getitem__" =pure (some (.builtin id))/\wpAny (model prog w) A (getItem u v) Q E s
theorem b1i{l:List AV}{n:Int}(h:SP Pp G fs hs (nth l n J) Q E):0<=n/\n<2^60/\ ∃y,l[n.toNat]? =some y/\SP Pp G fs hs (.ok y J) Q E:=by
 refine SP.whk h λh0 h=> ?_;refine h.smk λy hy h=> ?_;obtain⟨h1,h2⟩:=an h0;exact⟨q7 h1,q7 h2,y,hy,h⟩
theorem b5s{b:AV}{v:Value}{f:List KA->R AV}(hv:VR Pp G b v)(S:St Pp G fs hs J s)(h:SP Pp G fs hs (a67 .bad b f) Q E):
  ∃ks k q vs n,b= .tup ks/\s5 ks=some k/\v= .ref q/\G.own q= .fz ⟨.type "tuple",none, .seq (Array.mk vs) n, #[]⟩/\IsTupleKey (k9 Pp) s.heap k q/\SP Pp G fs hs (f k) Q E:=by
 refine SP.tupk h (λks q_ h=> ?_) λh=> ?_
 ·subst q_
  refine a8 λp_ ah=> ?_;replace h:=h.sm;obtain⟨k,hk,h⟩:=h;obtain⟨q,vs,n,rfl,e1,e2⟩:=hv;refine ah ?_;exact⟨ks,k,q,vs,n,rfl,hk,rfl,e1,a2w S e1 e2 hk,h⟩
 ·exact h.elim
theorem a4a{q:Addr}{vs:List Value}{k:Nat}{l:List AV}{b:AV}{v:Value}(S:St Pp G fs hs J s)(hv:VR Pp G b v)(h1:IsL s.heap q (Array.mk vs) k)(h2:VRs Pp G l vs)
  (h:SP Pp G fs hs (d8 .bad b λn=>nth l n J) Q E):a17 Pp.prog Pp.w A (.ref q) v Q E s:=by
 refine SP.intk h (λn q_ h=> ?_) λh=> ?_
 ·subst q_
  obtain⟨t,rfl⟩:=hv;obtain⟨g1,g2,y,hy,h⟩:=b1i h;obtain⟨z,hz,V⟩:=h2.get hy;exact⟨"list",_,⟨_,h1,rfl⟩,Q8,wpAny_getItem_list h1.isList g1 (by lia) (by simpa using hz) (h G _ _ (.refl _) S V)⟩
 ·exact h.elim
theorem a4b{q:Addr}{kvs:List (Int×Value)}{d:List (Int×AV)}{b:AV}{v:Value}(S:St Pp G fs hs J s)(hv:VR Pp G b v)(h2:s.heap.DictOf (intKind Pp.prog Pp.w) q kvs)(h3:KVR Pp G d kvs)
  (h:SP Pp G fs hs (d8 .bad b λn=>g9 .bad (a9 d n) λv=> .ok v J) Q E):a17 Pp.prog Pp.w A (.ref q) v Q E s:=by
 refine SP.intk h (λn q_ h=> ?_) λh=> ?_
 ·subst q_
  obtain⟨t,rfl⟩:=hv;refine h.smk λy hy h=> ?_;obtain⟨z,hz,V⟩:=h3.some hy;exact⟨"dict",_,h2.typeIs,Q9,wpAny_getItem_of (knd:=intKind Pp.prog Pp.w) (k:=n) (by simp [intKind,Value.isInt]) h2.mapOf hz (h G _ _ (.refl _) (S.toks _) V)⟩
 ·exact h.elim
theorem a57{q:Addr}{xs:List (List KA×Addr×Value)}{d:List (List KA×Int)}{b:AV}{v:Value}(S:St Pp G fs hs J s)(hu:A.units+70<cLine)(hv:VR Pp G b v)(h2:s.heap.DictOfH (tupleKind (k9 Pp)) q xs)(h3:TVR G d xs)
  (h:SP Pp G fs hs (a67 .bad b λk=>g9 .bad (a9 d k) λv=> .ok (.int v) J) Q E):a17 Pp.prog Pp.w A (.ref q) v Q E s:=by
 refine a8 λp_ ah=> ?_;obtain⟨ks,k,q',vs,n,rfl,hk,rfl,_,ht,h⟩:=b5s hv S h;refine ah ?_;refine h.smk λn hn h=> ?_;refine a8 λp_ ah=> ?_;obtain⟨a',t',hat⟩:=h3.some hn;refine ah ?_;exact⟨"dict",_,h2.typeIs,Q9,wpAny_getItem_heap (knd:=tupleKind (k9 Pp)) (by show A.units+1<cLine;lia) ht h2 hat (h G _ _ (.refl _) (S.toks _) ⟨_,rfl⟩)⟩
theorem b86{a b:AV}{u v:Value}(S:St Pp G fs hs J s)(hu:A.units+70<cLine)(ha:VR Pp G a u)(hv:VR Pp G b v)
  (h:SP Pp G fs hs (a2v a b J) Q E):a17 Pp.prog Pp.w A u v Q E s:=by
 refine SP.lstk h (λl q_ h=> ?_) λh=> ?_
 ·subst q_
  obtain⟨q,vs,k,rfl,h1,h2⟩:=ha;exact a4a S hv (p6 S h1) h2 h
 refine SP.tupk h (λl q_ h=> ?_) λh=> ?_
 ·subst q_
  obtain⟨q,vs,k,rfl,h1,h2⟩:=ha;refine SP.intk h (λn q_ h=> ?_) λh=> ?_
  ·subst q_
   obtain⟨t,rfl⟩:=hv;obtain⟨g1,g2,y,hy,h⟩:=b1i h;obtain⟨z,hz,V⟩:=h2.get hy;have hl:n.toNat<vs.length:=(List.getElem?_eq_some_iff.mp hz).1;exact⟨"tuple",_,⟨_,G9 S h1,rfl⟩,a86,P.getItem_tuple (G9 S h1) (by lia) (by lia) (seqIndex_of (n:=(Array.mk vs).size) g1 (by show n<(vs.length:Int);lia)) (by simpa using hz) (h G _ _ (.refl _) S V)⟩
  ·exact h.elim
 refine SP.sdk h (λd q_ h=> ?_) λh=> ?_
 ·subst q_
  replace h:=h.str;rcases h with ⟨x,rfl,h⟩ |h
  ·obtain⟨q,o,kvs,rfl,h1,h2,h3,ts,h4,h5⟩:=ha
   obtain⟨t,rfl⟩:=hv;refine h.smk λn hn h=> ?_;have hD:s.heap.DictOf (PySem.strKind Pp.prog Pp.w) q kvs:=Heap.dictOf_iff.mpr ⟨o,S.fz _ _ h1,h2⟩;obtain⟨t',ht'⟩: ∃t',valueAt kvs (Pp.D.nm x)=some (.int n t'):=by
    have:=b1h (Pp:=Pp) (x:=x) h3 h4 h5;rw[hn]at this;exact this
   exact⟨"dict",_,hD.typeIs,Q9,wpAny_getItem_of (knd:=PySem.strKind Pp.prog Pp.w) (k:=Pp.D.nm x) (by simp [PySem.strKind,Value.isStrOf]) hD.mapOf ht' (h G _ _ (.refl _) (S.toks _) ⟨_,rfl⟩)⟩
  ·exact h.elim
 refine SP.objk h (λid q_ h=> ?_) λh=> ?_
 ·subst q_
  obtain⟨p,hp,rfl⟩:=ha;have at_: ∀{ao},J[id]? =some ao->OR Pp G s.heap id p ao:=λho=>by
   obtain⟨p',hp',r⟩:=S.ob _ _ ho;rw[hp]at hp';cases hp';exact r
  refine SP.pLk h (λl ho h=> ?_) λh=> ?_
  ·obtain⟨h1,vs,k,h2,h3⟩:=at_ ho
   exact a4a S hv h2 h3 h
  refine SP.pDk h (λd ho h=> ?_) λh=> ?_
  ·obtain⟨h1,kvs,h2,h3⟩:=at_ ho
   exact a4b S hv h2 h3 h
  refine SP.pTk h (λd ho h=> ?_) λh=> ?_
  ·obtain⟨h1,kvs,h2,h3⟩:=at_ ho
   exact a57 S hu hv h2 h3 h
  refine SP.pPDk h (λd ho h=> ?_) λh=> ?_
  ·obtain⟨h1,kvs,h2,h3⟩:=at_ ho
   exact a4b S hv h2 h3 h
  refine SP.pPTk h (λd ho h=> ?_) λh=> ?_
  ·obtain⟨h1,kvs,h2,h3⟩:=at_ ho
   exact a57 S hu hv h2 h3 h
  ·exact h.elim
 ·exact h.elim
end
end
section
structure InstOk (K:Frag) (C:Addr):Prop where
 ga:findIn K (.ref C) "__getattribute__" =some (some (.builtin "object.__getattribute__"))
 gk:findIn K (.ref C) "__getattr__" =some none
 sa:findIn K (.ref C) "__setattr__" =some (some (.builtin "object.__setattr__"))
 po:plainOver K C=true
 hd:hasDictIn K C=true
section
variable{Pp:Par}
variable{G G':Gh}{fs:List Fm}{hs:Hs}{J:H}{s:Shared}{A:Around}{E:VP}{Q:VP}
theorem St.kin(S:St Pp G fs hs J s)(X:Pp.K.In Pp.base):Pp.K.In s.heap:=λa o e=>S.fz a o (S.base a o (X a o e))
theorem Q7{h:Heap}{a:Addr}{m:Str->Option Value}(n:h.Ns a m): ∃o,h.get? a=some o/\(∀x,lookIn x o=some (m x)):=by
 refine a8 λp_ ah=> ?_;obtain⟨o,es,ep,ho,hd,hk,hf⟩:=n;refine ah ?_;refine⟨o,ho,λx=> ?_⟩;unfold lookIn;rw[hd];dsimp only;have:nsFind es x=m x:=hf x;unfold nsFind findBy at this;rw[<-Array.find?_toList]at this;have nr:es.toList.any (·.refKey)=false:=by
  rw[List.any_eq_false];intro e he;obtain⟨n,t,h⟩:=hk e (Array.mem_toList_iff.mp he);simp [DictEntry.refKey,h]
 split
 ·rename_i e he;rw[he]at this;rw[<-this];rfl
 ·rename_i he;rw[he]at this;rw[nr, <-this];rfl
theorem a8n(S:St Pp G fs hs J s){c:Nat}{p:Addr×Addr}(h1:G.own p.1= .fz (instObj (Pp.D.clsA c) p.2)){o:Obj}(ho:s.heap.get? p.2=some o):InstAt s.heap p.1 (instObj (Pp.D.clsA c) p.2) (Pp.D.clsA c) (some o):=
 ⟨S.fz _ _ h1,rfl,rfl,ho⟩
theorem VR.handed{a:AV}{v:Value}(h:VR Pp G a v):handedIn v=true:=by
 cases a with
 |undef=>exact h.elim
 |none=>cases h;rfl
 |bool b=>cases h;rfl
 |int i=>obtain⟨t,rfl⟩:=h;rfl
 |str x=>obtain⟨t,rfl⟩:=h;rfl
 |text=>obtain⟨x,t,rfl⟩:=h;rfl
 |bytes l=>obtain⟨x,t,rfl,_⟩:=h;rfl
 |fn f=>cases h;rfl
 |cls f=>cases h;rfl
 |bi b=>cases h;cases b<;>first |rfl |decide+kernel
 |obj id=>obtain⟨p,_,rfl⟩:=h;rfl
 |tup l=>obtain⟨a,vs,n,rfl,_⟩:=h;rfl
 |lst l=>obtain⟨a,vs,n,rfl,_⟩:=h;rfl
 |arg l=>obtain⟨a,vs,n,_,rfl,_⟩:=h;rfl
 |rng l=>obtain⟨a,_,_,_,rfl,_⟩:=h;rfl
 |sdict l=>obtain⟨a,_,_,rfl,_⟩:=h;rfl
theorem FldR.get{f:Nat->AV}{m:Str->Option Value}(h:FldR Pp G f m){x:Nat}(n:f x≠ .undef): ∃v,VR Pp G (f x) v/\m (Pp.D.nm x)=some v:=by
 rcases h x with ⟨h,_⟩ |h
 ·exact absurd h n
 ·exact h
theorem FldR.none{f:Nat->AV}{m:Str->Option Value}(h:FldR Pp G f m){x:Nat}(n:f x= .undef):m (Pp.D.nm x)=Option.none:=by
 rcases h x with ⟨_,h⟩ |⟨v,h,_⟩
 ·exact h
 ·rw[n]at h;exact h.elim
theorem FldR.upd{f:Nat->AV}{m:Str->Option Value}(h:FldR Pp G f m)(x:Nat){a:AV}{v:Value}(V:VR Pp G a v):FldR Pp G (upd f x a) (λy=>if y=Pp.D.nm x then some v else m y):=λy=>by
 unfold Mine.upd
 by_cases e:y=x
 ·subst e;exact .inr ⟨v,by rw[if_pos rfl];exact V,if_pos rfl⟩
 ·have e':Pp.D.nm y≠Pp.D.nm x:=λz=>e (Pp.D.inj _ _ z)
  rw[if_neg e];rcases h y with ⟨h1,h2⟩ |⟨u,h1,h2⟩
  ·exact .inl ⟨h1,by show(if Pp.D.nm y=Pp.D.nm x then _ else _)=_;rw[if_neg e'];exact h2⟩
  ·exact .inr ⟨u,h1,by show(if Pp.D.nm y=Pp.D.nm x then _ else _)=_;rw[if_neg e'];exact h2⟩
theorem FldR.empty:FldR Pp G (λ_=> .undef) (λ_=>Option.none):=λ_=> .inl ⟨rfl,rfl⟩
theorem M7{m:Str->Option Value}(h:Within m (w9 Pp)){x:Nat}(hx:x<256){v:Value}:Within (λy=>if y=Pp.D.nm x then some v else m y) (w9 Pp):=λy hy=>by
 by_cases e:y=Pp.D.nm x
 ·rw[e];exact List.mem_map.mpr ⟨x,List.mem_range.mpr hx,rfl⟩
 ·exact h y λz=>hy (by show(if y=Pp.D.nm x then some v else m y)=none;rw[if_neg e];exact z)
theorem c4y{c:Nat}{f:Nat->AV}{id:Nat}{p:Addr×Addr}{x:Nat}{expr:Bool}(S:St Pp G fs hs J s)(X:Pp.K.In Pp.base)(I:InstOk Pp.K (Pp.D.clsA c))(hf:findIn Pp.K (.ref (Pp.D.clsA c)) (Pp.D.nm x)=some none)
  (ho:J[id]? =some (.inst c f))(hp:G.ρ id=some p)(n:f x≠ .undef)(h: ∀v,VR Pp G (f x) v->Q v { s with toks:=s.toks+1 }):wpAny Pp.M A (getAttr (.ref p.1) (Pp.D.nm x) expr) Q E s:=by
 refine a8 λp_ ah=> ?_;obtain⟨p',hp',h1,h2,m,h3,h3',h4⟩:=S.ob _ _ ho;rw[hp]at hp';cases hp';obtain⟨o,e1,e2⟩:=Q7 h3.ns;obtain⟨v,V,hv⟩:=h4.get n;refine ah ?_;exact get_value (S.kin X) (a8n S h1 e1) I.ga (findObj_own I.hd hf rfl (by rw[e2,hv])) V.handed (h v V)
theorem c05{c:Nat}{f:Nat->AV}{id:Nat}{p:Addr×Addr}{x:Nat}{g:Addr}{pl:Sem Bool}{Q:Value×List Value->Shared->Prop}(S:St Pp G fs hs J s)(X:Pp.K.In Pp.base)(I:InstOk Pp.K (Pp.D.clsA c))
  (hf:findIn Pp.K (.ref (Pp.D.clsA c)) (Pp.D.nm x)=some (some (.ref g)))(hg:isFn Pp.K (.ref g)=true)(ho:J[id]? =some (.inst c f))(hp:G.ρ id=some p)(n:f x= .undef)(h:Q (.ref g,[.ref p.1]) s):
  wpAny Pp.M A (getMethod (.ref p.1) (Pp.D.nm x) pl) Q E s:=by
 refine a8 λp_ ah=> ?_;obtain⟨p',hp',h1,h2,m,h3,h3',h4⟩:=S.ob _ _ ho;rw[hp]at hp';cases hp';obtain⟨o,e1,e2⟩:=Q7 h3.ns;refine ah ?_;exact method_fn (S.kin X) (a8n S h1 e1) I.ga I.gk hf (beq_iff_eq.mp hg) (by unfold shadowIn;dsimp only;rw[e2,h4.none n];rfl) h
theorem c3q{c:Nat}{f:Nat->AV}{id:Nat}{p:Addr×Addr}{x:Nat}{a:AV}{v:Value}{Q:Unit->Shared->Prop}(S:St Pp G fs hs J s)(X:Pp.K.In Pp.base)(I:InstOk Pp.K (Pp.D.clsA c))(hf:findIn Pp.K (.ref (Pp.D.clsA c)) (Pp.D.nm x)=some none)
  (hx:x<256)(ho:J[id]? =some (.inst c f))(hp:G.ρ id=some p)(V:VR Pp G a v)(h: ∀s',St Pp G fs hs (J.set id (.inst c (upd f x a))) s'->Q () s'):
  wpAny Pp.M A (setAttr (.ref p.1) (Pp.D.nm x) v) Q E s:=by
 refine a8 λp_ ah=> ?_;obtain⟨p',hp',h1,h2,m,h3,h3',h4⟩:=S.ob _ _ ho;rw[hp]at hp';cases hp';obtain⟨o,e1,e2⟩:=Q7 h3.ns;have IA:=a8n S h1 e1;refine ah ?_;refine set_plain (S.kin X) IA I.sa (osa_open (s:={ s with toks:=s.toks+1 }) (r:=none) (S.kin X) IA I.po (by unfold takerIn;rw[hf];rfl) λb=> ?_);refine a8 λp_ ah=> ?_;obtain⟨cd,hc,hd'⟩:=any_some I.hd;refine ah ?_;refine wpAny_bind (wpAny_pure (wpAny_bind (wpAny_bind (wpAny_loadPart (o:=instObj (Pp.D.clsA c) p.2) (S.fz _ _ h1) (wpAny_bind (looks_clsIn (S.kin X) hc _ _ _ _ (λ_ _ e=>e) ?_))))));rw[hd'];refine wpAny_pure (a:=some p.2) (wpAny_bind (wpAny_pure (wpAny_bind (wpAny_nsSet1 (s:={ s with toks:=s.toks+1 }) h3 λh' hn hs'=> ?_))));refine a8 λp_ ah=> ?_;have hw:=M7 (Pp:=Pp) h3' hx (v:=v);obtain⟨o',es',ep',g1,g2,g3⟩:=hn.count hw;have g3':es'.size<=256:=by simpa [w9]using g3
 refine ah ?_;refine wpAny_bind (wpAny_lookBehind g1 (by rw[g2];exact pastItsLine_dict (by rw[sizeLine_eq];lia)) ?_);exact wpAny_pure (h { s with heap:=h',toks:=s.toks+1+1 } (S.setOb1 ho hp h2 hs' (Y9 hn) rfl rfl ⟨h1,h2,_,hn,hw,h4.upd x V⟩))
end
end
section
section
variable{Pp:Par}
variable{G G':Gh}{fs:List Fm}{hs:Hs}{J:H}{s:Shared}{A:Around}{E:VP}{Q:VP}
theorem a1m{l:Addr}{vs:List Value}{n:Nat}{k:Int}{t:Tok}{v:Value}{Q:Unit->Shared->Prop}(hl:s.heap.get? l=some ⟨.type "list",none, .seq (Array.mk vs) n, #[]⟩)(h0:0<=k)(hn:k.toNat<vs.length)(hz:vs.length<=1000000)
  (hQ: ∀h',h'.get? l=some ⟨.type "list",none, .seq (Array.mk (vs.set k.toNat v)) n, #[]⟩->Heap.SameBut l s.heap h'->Q () { s with heap:=h' }):
  wpAny Pp.M A (setItem (.ref l) (.int k t) v) Q E s:=by
 have hT:s.TypeIs (.ref l) "list" :=⟨_,hl,rfl⟩
 unfold setItem;refine wpAny_holding ?_;refine wpAny_bind (wpAny_sequenceKey hT (by decide) ?_);refine wpAny_bind (wpAny_callSpecial?_slot (name:=Str.ofString "__setitem__") hT slot_list_setitem
  (wpAny_call_entry slot_list_setitem hT entry_list_setitem ?_ (args_list_setitem _ _ _)))
 show wpAny _ _ (Builtin.List.listSubscript? (.int k t)>>=_) _ _ s;refine wpAny_bind (wpAny_listSubscript_int (fitsIndex_of h0 (by lia)) ?_);obtain⟨j,rfl⟩:=Int.eq_ofNat_of_zero_le h0;have hj:j<vs.length:=hn;have hx':(Array.mk vs)[j]? =some vs[j]:=by simp [hj]
 show wpAny _ _ ((seqItemAt l j>>=λr=>pure (r.map (j, ·)))>>=_) _ _ s;refine wpAny_bind (wpAny_bind (wpAny_seqItemAt hl rfl (wpAny_pure ?_)));rw[hx'];show wpAny _ _ (setSeqItemAt l j v>>=_) _ _ s;have hfin:(s.heap.update l (Obj.mapSeq (·.setIfInBounds j v))).get? l=some ⟨.type "list",none, .seq (Array.mk (vs.set j v)) n, #[]⟩:=by
  refine(Heap.get?_update_self _ hl rfl).trans ?_;show some (Obj.mapSeq _ ⟨.type "list",none, .seq (Array.mk vs) n, #[]⟩)=_;unfold Obj.mapSeq;simp
 refine wpAny_bind (wpAny_setSeqItemAt hl rfl ?_);exact wpAny_pure ⟨.none,rfl,wpAny_pure (hQ _ hfin (Heap.SameBut.update ..))⟩
theorem TVR.set{d:List (List KA×Int)}{xs:List (List KA×Addr×Value)}(h:TVR G d xs){k:List KA}{a:Addr}{vs:List Value}{m:Nat}(ho:G.own a= .fz ⟨.type "tuple",Option.none, .seq (Array.mk vs) m, #[]⟩)(n:Int)(t:Tok):TVR G (i5 d k n) (storedH xs k a (.int n t)):=by
 obtain⟨h1,h2,ts,h3,h4⟩:=h;have hany:(atKey xs k).isSome=d.any (λp=>p.1=k):=by
  have:=P7 (k:=k) h1 h3 h4;cases q:a9 d k with
  |none=>
   rw[q]at this;rw[this];unfold a9 at q;rw[Option.map_eq_none_iff,List.find?_eq_none]at q;have:d.any (λp=>decide (p.1=k))=false:=by rw[List.any_eq_false];intro x hx;simpa using q x hx
   rw[this];rfl
  |some m=>
   rw[q]at this;obtain⟨a',t',e⟩:=this;rw[e];unfold a9 at q;obtain⟨y,hy,_⟩:=Option.map_eq_some_iff.mp q;have:=List.any_eq_true.mpr ⟨y,List.mem_of_find?_eq_some hy,List.find?_some hy⟩;rw[this];rfl
 unfold i5 storedH;rw[hany]
 split
 ·refine⟨?_, ?_, ?_⟩
  ·rw[keys_map_putAt,h1,List.map_map]
   apply List.map_congr_left;intro p _;show p.1=(if p.1=k then (p.1,n)else p).1
   split<;>rfl
  ·intro x hx
   obtain⟨y,hy,rfl⟩:=List.mem_map.mp hx;unfold putAt
   split
   ·exact h2 y hy
   ·exact h2 y hy
  ·rename_i hcase;clear hcase hany h2 ho
   induction d generalizing xs ts with
   |nil=>cases xs with
    |nil=>exact⟨[],rfl,rfl⟩
    |cons _ _=>cases h1
   |cons p r ih=>
    cases xs with
    |nil=>cases h1
    |cons y q=>
     cases ts with
     |nil=>cases h3
     |cons t0 ts=>
      simp only [List.map_cons,List.cons.injEq,List.zip_cons_cons,List.length_cons,Nat.add_right_cancel_iff]at h1 h3 h4;obtain⟨ts',e1,e2⟩:=ih h1.2 ts h3 h4.2;refine⟨(if p.1=k then t else t0)::ts',by simp [e1], ?_⟩;simp only [List.map_cons,List.zip_cons_cons,e2];congr 1;unfold putAt;rw[h1.1]
      split
      ·rfl
      ·exact h4.1
 ·refine⟨?_, ?_,ts++[t], ?_, ?_⟩
  ·rw[List.map_append,List.map_append,h1];rfl
  ·intro x hx
   rcases List.mem_append.mp hx with hx |hx
   ·exact h2 x hx
   ·rw[List.mem_singleton.mp hx];exact⟨vs,m,ho⟩
  ·simp [h3]
  ·rw[List.map_append,h4,List.zip_append h3.symm,List.map_append];rfl
theorem a9y{a b c:AV}{u v x:Value}{ae:H}{Q:Unit->Shared->Prop}(S:St Pp G fs hs J s)(hu:A.units+70<cLine)(ha:VR Pp G a u)(hv:VR Pp G b v)(hx:VR Pp G c x)
  (e:b5b a b c J=some ae)(h: ∀s',St Pp G fs hs ae s'->Q () s'):wpAny Pp.M A (setItem u v x) Q E s:=by
 refine u0 (· =some ae) e (λid q_ e=> ?_) λz_=>absurd z_ ((nomatch ·));subst q_;refine a8 λp_ ah=> ?_;obtain⟨p,hp,rfl⟩:=ha;have at_: ∀{ao},J[id]? =some ao->OR Pp G s.heap id p ao:=λho=>by
  obtain⟨p',hp',r⟩:=S.ob _ _ ho;rw[hp]at hp';cases hp';exact r
 refine ah ?_;refine K9 (· =some ae) e (λl ho e=> ?_) λe=> ?_
 ·refine n3 (· =some ae) e (λn q_ e=> ?_) λz_=>absurd z_ ((nomatch ·))
  subst q_;refine a8 λp_ ah=> ?_;obtain⟨t,rfl⟩:=hv;obtain⟨h0,rfl⟩:=j8 e;obtain⟨h0,z3⟩:=an h0;obtain⟨z1,z2⟩:=an h0;have z2:=q7 z2;have z3:l.length<=100000:=q7 z3;obtain⟨h1,vs,k,h2,h3⟩:=at_ ho;have hl:=h3.length;refine ah ?_;refine a1m h2 (q7 z1) (by lia) (by lia) λh' g1 g2=> ?_;exact h { s with heap:=h' } (S.setOb1 ho hp h1 g2 (by rw[g1];rfl) rfl rfl ⟨h1,_,_,g1,h3.set _ hx⟩)
 refine K7 (· =some ae) e (λd ho e=> ?_) λe=> ?_
 ·refine n3 (· =some ae) e (λn q_ e=> ?_) λz_=>absurd z_ ((nomatch ·))
  subst q_;refine a8 λp_ ah=> ?_;obtain⟨t,rfl⟩:=hv;obtain⟨h0,rfl⟩:=j8 e;have h0:d.length<=100000:=q7 h0;obtain⟨h1,kvs,h2,h3⟩:=at_ ho;refine ah ?_;refine wpAny_setItem_pairs (knd:=intKind Pp.prog Pp.w) (k:=n) (by simp [intKind,Value.isInt]) h2 (λh' g1 g2=> ?_) (V0 (by rw[h3.len];lia));exact h { s with heap:=h',toks:=s.toks+1 } (S.setOb1 ho hp h1 g2 (F7 g1) rfl rfl ⟨h1,_,g1,h3.set n hx⟩)
 refine a05 (· =some ae) e (λd ho e=> ?_) λz_=>absurd z_ ((nomatch ·));refine y4 (· =some ae) e (λks q_ e=> ?_) λz_=>absurd z_ ((nomatch ·));subst q_;refine j5 (· =some ae) e (λka hk e=> ?_) λz_=>absurd z_ ((nomatch ·));refine n3 (· =some ae) e (λn q_ e=> ?_) λz_=>absurd z_ ((nomatch ·));subst q_;refine a8 λp_ ah=> ?_;obtain⟨q,vs,k,rfl,e1,e2⟩:=hv;obtain⟨t,rfl⟩:=hx;obtain⟨h0,rfl⟩:=j8 e;have h0:d.length<=100000:=q7 h0;obtain⟨h1,xs,h2,h3⟩:=at_ ho;refine ah ?_;refine wpAny_setItem_heap (knd:=tupleKind (k9 Pp)) (by show A.units+1<cLine;lia) (a2w S e1 e2 hk) h2 (λh' g1 g2=> ?_) (V0 (by have:=congrArg List.length h3.1;simp only [List.length_map]at this;lia));exact h { s with heap:=h',toks:=_ } (S.setOb1 ho hp h1 g2 (O5 g1) rfl rfl ⟨h1,_,g1,h3.set e1 n t⟩)
end
end
section
structure NmOk (D:Adr):Prop where
 ap:D.nm 0= "append"
 ex:D.nm 1= "extend"
 ge:D.nm 2= "get"
 po:D.nm 3= "pop"
section
variable{Pp:Par}
variable{G G':Gh}{fs:List Fm}{hs:Hs}{J:H}{s:Shared}{A:Around}{E:VP}{Q:VP}
theorem St.at(S:St Pp G fs hs J s){id:Nat}{p:Addr×Addr}{ao:AO}(hp:G.ρ id=some p)(ho:J[id]? =some ao):OR Pp G s.heap id p ao:=by
 obtain⟨p',hp',r⟩:=S.ob _ _ ho;rw[hp]at hp';cases hp';exact r
theorem b2h{id n:Nat}{p:Addr×Addr}{b:String}{pl:Sem Bool}{Q:Value×List Value->Shared->Prop}(N:NmOk Pp.D)(S:St Pp G fs hs J s)(hp:G.ρ id=some p)(e:s6 J[id]? n=some b)
  (h:Q (.builtin b,[.ref p.1]) s):wpAny Pp.M A (getMethod (.ref p.1) (Pp.D.nm n) pl) Q E s:=by
 have ls: ∀{l:List AV}{nm:Str}{b:String},J[id]? =some (.list l)->Slot "list" nm b->typeOf (.builtin b)=pure (.type "method_descriptor")->Q (.builtin b,[.ref p.1]) s->wpAny Pp.M A (getMethod (.ref p.1) nm pl) Q E s:=λho sl ty h=>by
  obtain⟨h1,vs,k,h2,h3⟩:=S.at hp ho;exact getMethod_builtin ⟨_,h2,rfl⟩ F.plainAttrs_list sl ty (λa e=>by cases e;exact⟨_,h2,rfl⟩) h
 have ds: ∀{l:List (Int×AV)}{nm:Str}{b:String},J[id]? =some (.idict l)->Slot "dict" nm b->typeOf (.builtin b)=pure (.type "method_descriptor")->Q (.builtin b,[.ref p.1]) s->wpAny Pp.M A (getMethod (.ref p.1) nm pl) Q E s:=λho sl ty h=>by
  obtain⟨h1,vs,h2,h3⟩:=S.at hp ho;exact getMethod_builtin h2.typeIs F.plainAttrs_dict sl ty h2.mapOf.noDict h
 match n,e with
 |0,e=>
  refine K9 (· =some b) e (λl ho e=> ?_) λz_=>absurd z_ ((nomatch ·));cases e;rw[N.ap];exact ls ho F.slot_list_append (by show builtinType _=_;rw[builtinType_eq_fast];kernel_rfl) h
 |1,e=>
  refine K9 (· =some b) e (λl ho e=> ?_) λz_=>absurd z_ ((nomatch ·));cases e;rw[N.ex];exact ls ho F.slot_list_extend (by show builtinType _=_;rw[builtinType_eq_fast];kernel_rfl) h
 |2,e=>
  rw[N.ge];refine K7 (· =some b) e (λl ho e=> ?_) λe=> ?_
  ·cases e;exact ds ho F.slot_dict_get F.type_dict_get h
  ·refine a05 (· =some b) e (λl ho e=> ?_) λz_=>absurd z_ ((nomatch ·))
   cases e;refine a8 λp_ ah=> ?_;obtain⟨h1,vs,h2,h3⟩:=S.at hp ho;refine ah ?_;refine getMethod_builtin h2.typeIs F.plainAttrs_dict F.slot_dict_get F.type_dict_get (λa e=> ?_) h;cases e;refine a8 λp_ ah=> ?_;obtain⟨o,_,_,ho',hc,_⟩:=h2;refine ah ?_;exact⟨o,ho',hc.2.1⟩
 |3,e=>
  refine K7 (· =some b) e (λl ho e=> ?_) λz_=>absurd z_ ((nomatch ·));cases e;rw[N.po];exact ds ho F.slot_dict_pop (by show builtinType _=_;rw[builtinType_eq_fast];kernel_rfl) h
 |n+4,e=>exact nomatch e
theorem U6{a:AV}{vs:List Value}(h:VRs Pp G [a] vs): ∃v,vs=[v]/\VR Pp G a v:=by
 match vs,h with
 |[v],h=>exact⟨v,rfl,h.1⟩
 |[],h=>exact h.elim
 |_::_::_,h=>exact h.2.elim
theorem c7m{a b:AV}{vs:List Value}(h:VRs Pp G [a,b] vs): ∃u v,vs=[u,v]/\VR Pp G a u/\VR Pp G b v:=by
 match vs,h with
 |v::r,h=>obtain⟨u,rfl,h'⟩:=U6 h.2;exact⟨v,u,rfl,h.1,h'⟩
 |[],h=>exact h.elim
theorem b3g{α β:Type}[DecidableEq α]{d:List (α×β)}{k:α}(q:a9 d k=none):o8 d k=d:=by
 unfold o8;rw[List.filter_eq_self];intro x hx;unfold a9 at q;rw[Option.map_eq_none_iff,List.find?_eq_none]at q;simpa using q x hx
theorem a6r{α:Type}{l:List α}{i:Nat}{a:α}(h:l[i]? =some a):l.set i a=l:=by
 obtain⟨hl,e⟩:=List.getElem?_eq_some_iff.mp h;rw[<-e,List.set_getElem_self]
theorem a8f{id:Nat}{p:Addr×Addr}{l args:List AV}{vs:List Value}(S:St Pp G fs hs J s)(hp:G.ρ id=some p)(ho:J[id]? =some (.list l))
  (hv:VRs Pp G args vs)(h:SP Pp G fs hs (W8 id J args) Q E):wpAny Pp.M A (call (.builtin "list.append") (.ref p.1::vs)) Q E s:=by
 refine SP.a1k h (λv q_ h=> ?_) λh=> ?_
 ·subst q_
  replace h:=h.pL;rcases h with ⟨l',ho',h⟩ |h
  ·rw[ho]at ho';cases ho'
   refine h.whk λhz h=> ?_;have hz:l.length<=100000:=q7 hz;obtain⟨h1,ws,k,h2,h3⟩:=S.at hp ho;have hlen:=h3.length;obtain⟨x,rfl,V⟩:=U6 hv;refine call_meets F.slot_list_append ⟨_,h2,rfl⟩ F.entry_list_append (F.args_list_append_2 _ _) (list_append p.1 (Array.mk ws) k x (V0 (by show ws.length<=_;lia))) ⟨h2, ?_⟩;have g:=IsL.update (show IsL s.heap p.1 (Array.mk ws) k from h2) (·.push x);have e3:(Array.mk ws).push x=Array.mk (ws++[x]):=by simp
   rw[e3]at g;exact h G _ { s with heap:=_,toks:=_ } (.refl _) (S.setOb1 ho hp h1 (Heap.SameBut.update ..) (by rw[g];rfl) rfl rfl ⟨h1,_,_,g,h3.append ⟨V,trivial⟩⟩) rfl
  ·exact h.elim
 ·exact h.elim
theorem a8o{id:Nat}{p:Addr×Addr}{l args:List AV}{vs:List Value}(S:St Pp G fs hs J s)(hp:G.ρ id=some p)(ho:J[id]? =some (.list l))
  (hv:VRs Pp G args vs)(h:SP Pp G fs hs (b1q id J args) Q E):wpAny Pp.M A (call (.builtin "list.extend") (.ref p.1::vs)) Q E s:=by
 refine SP.a1k h (λv q_ h=> ?_) λh=> ?_
 ·subst q_
  replace h:=h.obj;rcases h with ⟨j,rfl,h⟩ |h
  ·refine SP.pLk h (λl' ho' h=> ?_) λh=> ?_
   ·rw[ho]at ho';cases ho'
    refine SP.pLk h (λq hoj h=> ?_) λh=> ?_
    ·refine h.whk λhz h=> ?_
     refine a8 λp_ ah=> ?_;have hz:l.length+q.length<=100000:=q7 (an hz).2;obtain⟨h1,ws,k,h2,h3⟩:=S.at hp ho;have hlen:=h3.length;obtain⟨x,rfl,V⟩:=U6 hv;obtain⟨pj,hpj,rfl⟩:=V;obtain⟨j1,us,k',j2,j3⟩:=S.at hpj hoj;have hlen':=j3.length;refine ah ?_;refine call_meets F.slot_list_extend ⟨_,h2,rfl⟩ F.entry_list_extend (F.args_list_extend_2 _ _)
      (AutoSeq1.list_extend_list_list_0 p.1 (Array.mk ws) k pj.1 (Array.mk us) k' (by
       have:Builtin.List.listTooLong (ws.length+us.length)=false:=by simp [Builtin.List.listTooLong,sizeLine];lia
       show ¬(_&&Builtin.List.listTooLong (ws.length+us.length))=true;rw[this,Bool.and_false];decide) (V0 (by show ws.length<=_;lia)) (Nat.le_succ_of_le (V0 (by show ws.length+us.length<=_;lia)))) ⟨h2,j2, ?_⟩
     have g:=IsL.update (show IsL s.heap p.1 (Array.mk ws) k from h2) (· ++Array.mk us);have e3:(Array.mk ws)++Array.mk us=Array.mk (ws++us):=by simp
     rw[e3]at g;exact h G _ { s with heap:=_,toks:=_ } (.refl _) (S.setOb1 ho hp h1 (Heap.SameBut.update ..) (by rw[g];rfl) rfl rfl ⟨h1,_,_,g,h3.append j3⟩) rfl
    ·exact h.elim
   ·exact h.elim
  ·exact h.elim
 ·exact h.elim
theorem a59{k:Int}{t:Tok}:(intKind Pp.prog Pp.w).is k (.int k t)=true:=by simp [intKind,Value.isInt]
theorem c4e{id:Nat}{p:Addr×Addr}{args:List AV}{vs:List Value}(S:St Pp G fs hs J s)(hb:(Pp.base.get? sysModules).isSome=true)(hu:A.units+70<cLine)(hp:G.ρ id=some p)
  (hv:VRs Pp G args vs)(h:SP Pp G fs hs (a7p id J args) Q E):wpAny Pp.M A (call (.builtin "dict.get") (.ref p.1::vs)) Q E s:=by
 replace h:=SP.pD h;rcases h with ⟨d,ho,h⟩ |h
 ·obtain⟨h1,kvs,h2,h3⟩:=S.at hp ho
  have lo:=I0 S hb h1;replace h:=h.a1;rcases h with ⟨k,rfl,h⟩ |h
  ·replace h:=h.int
   rcases h with ⟨k,rfl,h⟩ |h
   ·obtain⟨x,rfl,t,rfl⟩:=U6 hv
    refine call_meetsIn F.slot_dict_get h2.typeIs F.entry_dict_get (F.args_dict_get_2 _ _) (meets_dict_get (intKind Pp.prog Pp.w) p.1 a59 lo) ⟨_,h2.mapOf, ?_⟩;cases q:a9 d k with
    |none=>rw[q]at h;rw[h3.none q];exact h G _ _ (.refl _) (S.toks _) rfl
    |some a=>rw[q]at h;obtain⟨v,e,V⟩:=h3.some q;rw[e];exact h G _ _ (.refl _) (S.toks _) V
   ·exact h.elim
  ·replace h:=h.a2
   rcases h with ⟨k,v,rfl,h⟩ |h
   ·replace h:=h.int
    rcases h with ⟨k,rfl,h⟩ |h
    ·obtain⟨x,y,rfl,⟨t,rfl⟩,W⟩:=c7m hv
     refine call_meetsIn F.slot_dict_get h2.typeIs F.entry_dict_get (F.args_dict_get_3 _ _ _) (meets_dict_get_default (intKind Pp.prog Pp.w) p.1 a59 lo y) ⟨_,h2.mapOf, ?_⟩;cases q:a9 d k with
     |none=>rw[q]at h;rw[h3.none q];exact h G _ _ (.refl _) (S.toks _) W
     |some a=>rw[q]at h;obtain⟨v,e,V⟩:=h3.some q;rw[e];exact h G _ _ (.refl _) (S.toks _) V
    ·exact h.elim
   ·exact h.elim
 ·replace h:=h.pT
  rcases h with ⟨d,ho,h⟩ |h
  ·replace h:=h.a1
   rcases h with ⟨k,rfl,h⟩ |h
   ·replace h:=h.tup
    rcases h with ⟨ks,rfl,h⟩ |h
    ·replace h:=h.sm;obtain⟨ka,hk,h⟩:=h
     obtain⟨h1,xs,h2,h3⟩:=S.at hp ho;obtain⟨x,rfl,V⟩:=U6 hv;obtain⟨q,ws,k,rfl,e1,e2⟩:=V;refine call_meetsIn F.slot_dict_get h2.typeIs F.entry_dict_get (F.args_dict_get_2 _ _) (meetsH_dict_get (tupleKind (k9 Pp)) p.1 q (I0 S hb h1)) ⟨(by show A.units+1<cLine;lia),ka,xs,a2w S e1 e2 hk,h2, ?_⟩;cases z:a9 d ka with
     |none=>rw[z]at h;rw[h3.none z];exact h G _ _ (.refl _) (S.toks _) rfl
     |some a=>rw[z]at h;obtain⟨v,t,e⟩:=h3.some z;rw[e];exact h G _ _ (.refl _) (S.toks _) ⟨_,rfl⟩
    ·exact h.elim
   ·exact h.elim
  ·exact h.elim
theorem c4q{id:Nat}{p:Addr×Addr}{args:List AV}{vs:List Value}(S:St Pp G fs hs J s)(hb:(Pp.base.get? sysModules).isSome=true)(hp:G.ρ id=some p)
  (hv:VRs Pp G args vs)(h:SP Pp G fs hs (c24 id J args) Q E):wpAny Pp.M A (call (.builtin "dict.pop") (.ref p.1::vs)) Q E s:=by
 replace h:=SP.pD h;rcases h with ⟨d,ho,h⟩ |h
 ·replace h:=h.wh;obtain⟨hz,h⟩:=h
  have hz:d.length<=100000:=q7 hz;obtain⟨h1,kvs,h2,h3⟩:=S.at hp ho;have lo:=I0 S hb h1;have hz':kvs.length<=sizeLine:=V0 (by rw[h3.len];lia);replace h:=h.a1;rcases h with ⟨k,rfl,h⟩ |h
  ·replace h:=h.int
   rcases h with ⟨k,rfl,h⟩ |h
   ·obtain⟨x,rfl,t,rfl⟩:=U6 hv
    replace h:=h.sm;obtain⟨a,q,h⟩:=h;obtain⟨v,e,V⟩:=h3.some q;refine call_meetsIn F.slot_dict_pop h2.typeIs F.entry_dict_pop (F.args_dict_pop_2 _ _) (meets_dict_pop_there (intKind Pp.prog Pp.w) p.1 a59 [] (.inl rfl) rfl) ⟨kvs,v,h2,hz',e,λh' g1 g2=> ?_⟩;exact h G _ { s with heap:=h',toks:=_ } (.refl _) (S.setOb1 ho hp h1 g2 (F7 g1) rfl rfl ⟨h1,_,g1,h3.del k⟩) V
   ·exact h.elim
  ·replace h:=h.a2
   rcases h with ⟨k,v,rfl,h⟩ |h
   ·replace h:=h.int
    rcases h with ⟨k,rfl,h⟩ |h
    ·obtain⟨x,y,rfl,⟨t,rfl⟩,W⟩:=c7m hv
     cases q:a9 d k with
     |none=>
      rw[q,b3g q,a6r ho]at h;exact call_meetsIn F.slot_dict_pop h2.typeIs F.entry_dict_pop (F.args_dict_pop_3 _ _ _) (meets_dict_pop_default (intKind Pp.prog Pp.w) p.1 a59 lo rfl y) ⟨kvs,h2,h3.none q,h G _ { s with toks:=_ } (.refl _) (S.toks _) W⟩
     |some a=>
      rw[q]at h;obtain⟨v,e,V⟩:=h3.some q;refine call_meetsIn F.slot_dict_pop h2.typeIs F.entry_dict_pop (F.args_dict_pop_3 _ _ _) (meets_dict_pop_there (intKind Pp.prog Pp.w) p.1 a59 [y] (.inr ⟨_,rfl⟩) rfl) ⟨kvs,v,h2,hz',e,λh' g1 g2=> ?_⟩;exact h G _ { s with heap:=h',toks:=_ } (.refl _) (S.setOb1 ho hp h1 g2 (F7 g1) rfl rfl ⟨h1,_,g1,h3.del k⟩) V
    ·exact h.elim
   ·exact h.elim
 ·exact h.elim
theorem b3x{id n:Nat}{p:Addr×Addr}{b:String}{args:List AV}{vs:List Value}(S:St Pp G fs hs J s)(hb:(Pp.base.get? sysModules).isSome=true)(hu:A.units+70<cLine)(hp:G.ρ id=some p)(e:s6 J[id]? n=some b)
  (hv:VRs Pp G args vs)(h:SP Pp G fs hs (a0k id n args J) Q E):wpAny Pp.M A (call (.builtin b) (.ref p.1::vs)) Q E s:=by
 match n,e,h with
 |0,e,h=>
  refine K9 (· =some b) e (λl ho e=> ?_) λz_=>absurd z_ ((nomatch ·));cases e;exact a8f S hp ho hv h
 |1,e,h=>
  refine K9 (· =some b) e (λl ho e=> ?_) λz_=>absurd z_ ((nomatch ·));cases e;exact a8o S hp ho hv h
 |2,e,h=>
  have e:b= "dict.get" :=by
   refine K7 (· =some b) e (λl ho e=> ?_) λe=> ?_
   ·cases e;rfl
   ·refine a05 (· =some b) e (λl ho e=> ?_) λz_=>absurd z_ ((nomatch ·))
    cases e;rfl
  rw[e];exact c4e S hb hu hp hv h
 |3,e,h=>
  refine K7 (· =some b) e (λl ho e=> ?_) λz_=>absurd z_ ((nomatch ·));cases e;exact c4q S hb hp hv h
 |n+4,e,h=>exact nomatch e
end
end
section
section
variable{Pp:Par}
variable{G G':Gh}{fs:List Fm}{hs:Hs}{J:H}{s:Shared}{A:Around}{E:VP}{Q:VP}
theorem b2n{d:Addr}{knd:HeapKind Pp.prog Pp.w (List KA)}{xs:List (List KA×Addr×Value)}{Q:VP}(hd:(d==sysModules)=false)(hm:s.heap.DictOfH knd d xs)(hfit:xs.length<2^62)
  (h:Q (.int xs.length (s.toks+1)) { s with toks:=s.toks+1+1 }):wpAny Pp.M A (call (.builtin "len") [.ref d]) Q E s:=by
 refine Calls.call_function_entry kind_len plain_len entry_len (args_len1 _) ?_;have meets:MeetsIn Pp.prog Pp.w (Builtin.«dict.__len__» ⟨[.ref d],[]⟩) (λ_ R s=>s.heap.DictOfH knd d xs/\R (.ok (.ret (.int xs.length s.toks))) { s with toks:=s.toks+1 }):=
  .of_wp λA R s ⟨hm,h⟩=>by
   obtain⟨o,es,ep,ho,hc,hdat,he,_⟩:=hm;show wpAny _ _ (dictSize d>>=_) _ _ s;unfold dictSize;refine wpAny_bind (wpAny_bind (wpAny_dictEntries ho hdat (wpAny_pure ?_)));show wpAny _ _ (Builtin.Dict.pendingCount d>>=_) _ _ s;refine wpAny_bind (wpAny_pendingCount_other hd ?_);refine wpAny_ret_mkInt ?_;have:es.size=xs.length:=size_of_entries he;rw[Nat.add_zero,this];exact h
 unfold Builtin.«len»;refine wpAny_bind (m:=oneArg "len" _) (wpAny_pure ?_);refine wpAny_bind (m:=callSpecial? (.ref d) (Str.ofString "__len__")) (wpAny_callSpecial?_slot (name:=Str.ofString "__len__") hm.typeIs F.slot_dict_len
  (call_meetsIn F.slot_dict_len hm.typeIs F.entry_dict_len (F.args_dict_len_1 _) meets ⟨hm, ?_⟩))
 show wpAny _ _ _ _ _ { s with toks:=s.toks+1 };refine wpAny_bind (wpAny_holding (wpAny_pure ?_));refine wpAny_bind (wpAny_letGo ?_);show wpAny _ _ (if((xs.length:Nat):Int)<0 then _ else _) _ _ _;rw[if_neg (by lia)];show wpAny _ _ (if((xs.length:Nat):Int)>=2^63 then _ else _) _ _ _;rw[if_neg (by lia)];exact wpAny_bind (wpAny_mkInt (wpAny_pure ⟨_,rfl,h⟩))
theorem a40: ∀{l:List AV}{xs:List Int}{vs:List Value},VRs Pp G l vs->M3 l=some xs->PyProof.Rows.IntsAre vs xs
 |[],_,[],_,e=>by cases e;exact .nil
 |a::r,xs,v::q,h,e=>by
  refine n3 (· =some xs) e (λn q_ e=> ?_) λz_=>absurd z_ ((nomatch ·));subst q_;obtain⟨y,hy,rfl⟩:=Option.map_eq_some_iff.mp e;obtain⟨t,e2⟩:=h.1;rw[e2];exact .cons n t (a40 h.2 hy)
 |[],_,_::_,h,_=>h.elim
 |_::_,_,[],h,_=>h.elim
theorem a0v: ∀{vs:List Value}{ns:List Int},PyProof.Rows.IntsAre vs ns-> ∃xs:List (Int×Tok),vs=xs.map (λp=>Value.int p.1 p.2)/\xs.map (·.1)=ns
 |_,_, .nil=>⟨[],rfl,rfl⟩
 |_,_, .cons n t r=>by obtain⟨xs,h1,h2⟩:=a0v r;exact⟨(n,t)::xs,by rw[h1];rfl,by rw[List.map_cons,h2]⟩
theorem c2m{a:AV}{vs:List Value}(S:St Pp G fs hs J s)(hb:(Pp.base.get? sysModules).isSome=true)(hv:VRs Pp G [a] vs)(h:SP Pp G fs hs (c71 J a) Q E):wpAny Pp.M A (call (.builtin "len") vs) Q E s:=by
 obtain⟨v,rfl,V⟩:=U6 hv;refine SP.lstk h (λl q_ h=> ?_) λh=> ?_
 ·subst q_
  obtain⟨a,ws,n,rfl,h1,h2⟩:=V;have e:=h2.length;refine h.whk λhz h=> ?_;have hz:l.length<=1000000:=q7 hz;refine call_len_list (p6 S h1).isList (by show(ws.length:Int)<_;lia) ?_;show Q (.int (ws.length:Nat) _) _;rw[e];exact h G _ _ (.refl _) (S.toks _) ⟨_,rfl⟩
 refine SP.bytesk h (λl q_ h=> ?_) λh=> ?_
 ·subst q_
  obtain⟨x,t,rfl,e⟩:=V;refine h.whk λhz h=> ?_;have hz:l.length<=1000000:=q7 hz;have e':=congrArg List.length e;simp only [List.length_map,Array.length_toList]at e';refine len_bytes (by lia) ?_;rw[e'];exact h G _ _ (.refl _) (S.toks _) ⟨_,rfl⟩
 refine SP.objk h (λid q_ h=> ?_) λh=> ?_
 ·subst q_
  obtain⟨p,hp,rfl⟩:=V;refine SP.pLk h (λl ho h=> ?_) λh=> ?_
  ·obtain⟨h1,ws,k,h2,h3⟩:=S.at hp ho
   have e:=h3.length;refine h.whk λhz h=> ?_;have hz:l.length<=1000000:=q7 hz;refine call_len_list (IsL.isList h2) (by show(ws.length:Int)<_;lia) ?_;show Q (.int (ws.length:Nat) _) _;rw[e];exact h G _ _ (.refl _) (S.toks _) ⟨_,rfl⟩
  refine SP.pTk h (λd ho h=> ?_) λh=> ?_
  ·obtain⟨h1,xs,h2,h3⟩:=S.at hp ho
   have e:xs.length=d.length:=by have:=congrArg List.length h3.1;simpa using this
   refine h.whk λhz h=> ?_;have hz:d.length<=1000000:=q7 hz;refine b2n (I0 S hb h1) h2 (by lia) ?_;rw[e];exact h G _ _ (.refl _) (S.toks _) ⟨_,rfl⟩
  ·exact h.elim
 ·exact h.elim
theorem c7x{args:List AV}{vs:List Value}{f:Int->R AV}(hv:VRs Pp G args vs)(h:SP Pp G fs hs (u6 .bad args λa=>d8 .bad a f) Q E): ∃n t,vs=[.int n t]/\SP Pp G fs hs (f n) Q E:=by
 refine SP.a1k h (λa q_ h=> ?_) λh=> ?_
 ·subst q_
  replace h:=h.int;rcases h with ⟨n,rfl,h⟩ |h
  ·obtain⟨v,rfl,t,rfl⟩:=U6 hv
   exact⟨n,t,rfl,h⟩
  ·exact h.elim
 ·exact h.elim
theorem d4k{args:List AV}{vs:List Value}{f:Int->Int->R AV}(hv:VRs Pp G args vs)(h:SP Pp G fs hs (a1f .bad args λa b=>d8 .bad a λa=>d8 .bad b λb=>f a b) Q E): ∃n k t t',vs=[.int n t, .int k t']/\SP Pp G fs hs (f n k) Q E:=by
 replace h:=h.a2;rcases h with ⟨a,b,rfl,h⟩ |h
 ·replace h:=h.int
  rcases h with ⟨n,rfl,h⟩ |h
  ·replace h:=h.int
   rcases h with ⟨k,rfl,h⟩ |h
   ·obtain⟨u,v,rfl,⟨t,rfl⟩,⟨t',rfl⟩⟩:=c7m hv
    exact⟨n,k,t,t',rfl,h⟩
   ·exact h.elim
  ·exact h.elim
 ·exact h.elim
theorem d3u{args:List AV}{vs:List Value}{f:List AV->R AV}(hv:VRs Pp G args vs)(h:SP Pp G fs hs (u6 .bad args λa=>o4 .bad a f) Q E):
  ∃l a ws n,vs=[.ref a]/\G.own a= .fz ⟨.type "list",none, .seq (Array.mk ws) n, #[]⟩/\VRs Pp G l ws/\SP Pp G fs hs (f l) Q E:=by
 refine SP.a1k h (λa q_ h=> ?_) λh=> ?_
 ·subst q_
  replace h:=h.lst;rcases h with ⟨l,rfl,h⟩ |h
  ·obtain⟨v,rfl,a,ws,n,rfl,h1,h2⟩:=U6 hv
   exact⟨l,a,ws,n,rfl,h1,h2,h⟩
  ·exact h.elim
 ·exact h.elim
theorem d0k(a:Int):(if a<0 then-a else a)=(a.natAbs:Int):=by split<;>lia
theorem c2h{b:BI}{args:List AV}{vs:List Value}(S:St Pp G fs hs J s)(hb:(Pp.base.get? sysModules).isSome=true)(hh:A.handled=none)(hv:VRs Pp G args vs)
  (h:SP Pp G fs hs (biA b args J) Q E)(nb:b≠ .sorted):wpAny Pp.M A (call (biV b) vs) Q E s:=by
 cases b with
 |Add=>
  refine SP.a1k h (λa q_ h=> ?_) λh=> ?_
  ·subst q_
   exact c2m S hb hv h
  ·exact h.elim
 |Sub=>
  obtain⟨a,b,t,t',rfl,h⟩:=d4k hv h;refine min_two_ints hh λh' tk hk=> ?_;have S':St Pp G fs hs J { s with heap:=h',toks:=tk }:=S.kept ⟨rfl,rfl⟩ λa o _ e=>hk a o e
  by_cases hlt:b<a
  ·rw[if_pos hlt]at h⊢;exact h G _ _ (.refl _) S' ⟨t',rfl⟩
  ·rw[if_neg hlt]at h⊢;exact h G _ _ (.refl _) S' ⟨t,rfl⟩
 |Mult=>
  obtain⟨a,b,t,t',rfl,h⟩:=d4k hv h;refine max_two_ints hh λh' tk hk=> ?_;have S':St Pp G fs hs J { s with heap:=h',toks:=tk }:=S.kept ⟨rfl,rfl⟩ λa o _ e=>hk a o e
  by_cases hlt:a<b
  ·rw[if_pos hlt]at h⊢;exact h G _ _ (.refl _) S' ⟨t',rfl⟩
  ·rw[if_neg hlt]at h⊢;exact h G _ _ (.refl _) S' ⟨t,rfl⟩
 |MatMult=>
  obtain⟨a,t,rfl,h⟩:=c7x hv h;refine call_abs_int λu tk=> ?_;rw[d0k];exact h G _ _ (.refl _) (S.toks _) ⟨_,rfl⟩
 |Div=>
  obtain⟨l,a,ws,n,rfl,h1,h2,h⟩:=d3u hv h;refine h.smk λxs hx h=> ?_;obtain⟨ys,rfl,e2⟩:=a0v (a40 h2 hx);have hl:s.heap.IsList a (intItems (Array.mk ys)):=by
   have:=(p6 S h1).isList;have e3:intItems (Array.mk ys)=Array.mk (ys.map λp=>Value.int p.1 p.2):=by simp [intItems]
   rw[e3];exact this
  refine PySem.sum_intListG hh hl λh' tk t' hk=> ?_;have S':St Pp G fs hs J { s with heap:=h',toks:=tk }:=S.kept ⟨rfl,rfl⟩ λa o _ e=>hk a o e;rw[preSum_eq,List.take_of_length_le (by simp)];show Q (.int (ys.map (·.1)).sum t') _;rw[e2];exact h G _ _ (.refl _) S' ⟨_,rfl⟩
 |Mod=>
  obtain⟨a,t,rfl,h⟩:=c7x hv h;exact call_range_1 (h _ _ _ S.alloc_le (S.alloc rfl _) ⟨_,_,_,_,rfl,Gh.add_self⟩)
 |LShift=>
  refine SP.a1k h (λa q_ h=> ?_) λh=> ?_
  ·subst q_
   replace h:=h.bool;rcases h with ⟨b,rfl,h⟩ |h
   ·obtain⟨u,rfl,V⟩:=U6 hv
    cases V;exact call_int_bool (h G _ _ (.refl _) (S.toks _) ⟨_,rfl⟩)
   ·exact h.elim
  ·exact h.elim
 |RShift=>
  obtain⟨a,t,rfl,h⟩:=c7x hv h;exact call_bool_int (h G _ _ (.refl _) S rfl)
 |BitOr=>
  obtain⟨l,a,ws,k,rfl,h1,h2,h⟩:=d3u hv h;refine SP.a1k h (λc q_ h=> ?_) λh=> ?_
  ·subst q_
   replace h:=h.int;rcases h with ⟨n,rfl,h⟩ |h
   ·refine h.whk λhz h=> ?_
    obtain⟨z1,z2⟩:=an hz;have z1:=q7 z1;have z2:=q7 z2;obtain⟨y,rfl,⟨t,rfl⟩⟩:=U6 h2;refine PySem.call_bytes_ints (ns:=[n]) (p6 S h1).isList (.cons n t .nil) (by simp;lia) (V0 (by simp)) hh λh' t' k hk=> ?_;have S':St Pp G fs hs J { s with heap:=h',toks:=k }:=S.kept ⟨rfl,rfl⟩ λa o _ e=>hk a o e;refine h G _ _ (.refl _) S' ⟨_,_,rfl, ?_⟩;have:n.toNat<256:=by lia
    simp [byteArr];lia
   ·exact h.elim
  ·exact h.elim
 |Pow=>exact absurd rfl nb
 |BitXor=>exact h.elim
 |FloorDiv=>exact h.elim
 |BitAnd=>exact h.elim
end
end
section
section
noncomputable def F9(x:Expr)(f:Const->Bool):Bool:=tg false x.ctorIdx 19 λe=>Expr.Constant.elim x e λc _ _=>f c
noncomputable def R8(x:Expr)(f:Str->Bool):Bool:=tg false x.ctorIdx 23 λe=>Expr.Name.elim x e λi _=>f i
noncomputable def d27(x:Expr)(f:Expr->Operator->Expr->Bool):Bool:=tg false x.ctorIdx 2 λe=>Expr.BinOp.elim x e λl o r _=>f l o r
noncomputable def xUn(x:Expr)(f:UnaryOp->Expr->Bool):Bool:=tg false x.ctorIdx 3 λe=>Expr.UnaryOp.elim x e λo a _=>f o a
noncomputable def a92(x:Expr)(f:BoolOp->List Expr->Bool):Bool:=tg false x.ctorIdx 0 λe=>Expr.BoolOp.elim x e λo a _=>f o a
noncomputable def c2u(x:Expr)(f:Expr->List CmpOp->List Expr->Bool):Bool:=tg false x.ctorIdx 15 λe=>Expr.Compare.elim x e λl o r _=>f l o r
noncomputable def xIf(x:Expr)(f:Expr->Expr->Expr->Bool):Bool:=tg false x.ctorIdx 5 λe=>Expr.IfExp.elim x e λt a b _=>f t a b
noncomputable def a2l(x:Expr)(f:Expr->List Expr->List Keyword->Pos->Bool):Bool:=tg false x.ctorIdx 16 λe=>Expr.Call.elim x e λg as ks p=>f g as ks p
noncomputable def Z9(x:Expr)(f:Expr->Str->Pos->Bool):Bool:=tg false x.ctorIdx 20 λe=>Expr.Attribute.elim x e λo a p=>f o a p
noncomputable def b2e(x:Expr)(f:Expr->Expr->Bool):Bool:=tg false x.ctorIdx 21 λe=>Expr.Subscript.elim x e λo i _=>f o i
noncomputable def Z5(x:Expr)(f:Option Expr->Option Expr->Option Expr->Bool):Bool:=tg false x.ctorIdx 26 λe=>Expr.Slice.elim x e λa b c _=>f a b c
noncomputable def b9x(x:Expr)(f:List Expr->Bool):Bool:=tg false x.ctorIdx 25 λe=>Expr.Tuple.elim x e λl _ _=>f l
noncomputable def b6n(x:Expr)(f:List Expr->Bool):Bool:=tg false x.ctorIdx 24 λe=>Expr.List.elim x e λl _=>f l
noncomputable def b6x(x:Expr)(f:List (Option Expr)->List Expr->Bool):Bool:=tg false x.ctorIdx 6 λe=>Expr.Dict.elim x e λk v _=>f k v
noncomputable def xLC(x:Expr)(f:Expr->List Comprehension->Scope->Bool):Bool:=tg false x.ctorIdx 8 λe=>Expr.ListComp.elim x e λe g s _=>f e g s
noncomputable def xDC(x:Expr)(f:Expr->Expr->List Comprehension->Scope->Bool):Bool:=tg false x.ctorIdx 10 λe=>Expr.DictComp.elim x e λk v g s _=>f k v g s
noncomputable def a14(x:Expr)(f:List Expr->Bool):Bool:=tg false x.ctorIdx 18 λe=>Expr.JoinedStr.elim x e λl _=>f l
noncomputable def c3y(x:Expr)(f:Expr->Int->Option Expr->Bool):Bool:=tg false x.ctorIdx 17 λe=>Expr.FormattedValue.elim x e λv c s _=>f v c s
noncomputable def T9{α:Type}(o:Option α)(f:α->Bool):Bool:=match o with |some a=>f a |none=>false
noncomputable def l1{α:Type}(l:List α)(f:α->Bool):Bool:=match l with |[a]=>f a |_=>false
noncomputable def l2{α:Type}(l:List α)(f:α->α->Bool):Bool:=match l with |[a,b]=>f a b |_=>false
noncomputable def lC{α:Type}(l:List α)(f:α->List α->Bool):Bool:=match l with |a::r=>f a r |[]=>false
variable{x:Expr}{m:Expr->Prop}
theorem x8{f}(h:F9 x f=true)(k: ∀c a b,f c=true->m (.Constant c a b)):m x:=q0 h λe h=>Expr.Constant.elim (motive_1:=λx=> ∀e,Expr.Constant.elim x e (λc _ _=>f c)=true->m x) x e (λc a b _ h=>k c a b h) e h
theorem D4{f}(h:R8 x f=true)(k: ∀i p,f i=true->m (.Name i p)):m x:=q0 h λe h=>Expr.Name.elim (motive_1:=λx=> ∀e,Expr.Name.elim x e (λi _=>f i)=true->m x) x e (λi p _ h=>k i p h) e h
theorem c8x{f}(h:d27 x f=true)(k: ∀l o r p,f l o r=true->m (.BinOp l o r p)):m x:=q0 h λe h=>Expr.BinOp.elim (motive_1:=λx=> ∀e,Expr.BinOp.elim x e (λl o r _=>f l o r)=true->m x) x e (λl o r p _ h=>k l o r p h) e h
theorem b0h{f}(h:xUn x f=true)(k: ∀o a p,f o a=true->m (.UnaryOp o a p)):m x:=q0 h λe h=>Expr.UnaryOp.elim (motive_1:=λx=> ∀e,Expr.UnaryOp.elim x e (λo a _=>f o a)=true->m x) x e (λo a p _ h=>k o a p h) e h
theorem b02{f}(h:a92 x f=true)(k: ∀o a p,f o a=true->m (.BoolOp o a p)):m x:=q0 h λe h=>Expr.BoolOp.elim (motive_1:=λx=> ∀e,Expr.BoolOp.elim x e (λo a _=>f o a)=true->m x) x e (λo a p _ h=>k o a p h) e h
theorem a8j{f}(h:c2u x f=true)(k: ∀l o r p,f l o r=true->m (.Compare l o r p)):m x:=q0 h λe h=>Expr.Compare.elim (motive_1:=λx=> ∀e,Expr.Compare.elim x e (λl o r _=>f l o r)=true->m x) x e (λl o r p _ h=>k l o r p h) e h
theorem c6h{f}(h:xIf x f=true)(k: ∀l o r p,f l o r=true->m (.IfExp l o r p)):m x:=q0 h λe h=>Expr.IfExp.elim (motive_1:=λx=> ∀e,Expr.IfExp.elim x e (λt a b _=>f t a b)=true->m x) x e (λl o r p _ h=>k l o r p h) e h
theorem X6{f}(h:a2l x f=true)(k: ∀g a b p,f g a b p=true->m (.Call g a b p)):m x:=q0 h λe h=>Expr.Call.elim (motive_1:=λx=> ∀e,Expr.Call.elim x e (λg as ks p=>f g as ks p)=true->m x) x e (λg a b p _ h=>k g a b p h) e h
theorem O8{f}(h:Z9 x f=true)(k: ∀o a p,f o a p=true->m (.Attribute o a p)):m x:=q0 h λe h=>Expr.Attribute.elim (motive_1:=λx=> ∀e,Expr.Attribute.elim x e (λo a p=>f o a p)=true->m x) x e (λo a p _ h=>k o a p h) e h
theorem a0h{f}(h:b2e x f=true)(k: ∀o a p,f o a=true->m (.Subscript o a p)):m x:=q0 h λe h=>Expr.Subscript.elim (motive_1:=λx=> ∀e,Expr.Subscript.elim x e (λo i _=>f o i)=true->m x) x e (λo a p _ h=>k o a p h) e h
theorem a1a{f}(h:Z5 x f=true)(k: ∀a b c p,f a b c=true->m (.Slice a b c p)):m x:=q0 h λe h=>Expr.Slice.elim (motive_1:=λx=> ∀e,Expr.Slice.elim x e (λa b c _=>f a b c)=true->m x) x e (λa b c p _ h=>k a b c p h) e h
theorem a3e{f}(h:b9x x f=true)(k: ∀l a p,f l=true->m (.Tuple l a p)):m x:=q0 h λe h=>Expr.Tuple.elim (motive_1:=λx=> ∀e,Expr.Tuple.elim x e (λl _ _=>f l)=true->m x) x e (λl a p _ h=>k l a p h) e h
theorem b09{f}(h:b6n x f=true)(k: ∀l p,f l=true->m (.List l p)):m x:=q0 h λe h=>Expr.List.elim (motive_1:=λx=> ∀e,Expr.List.elim x e (λl _=>f l)=true->m x) x e (λl p _ h=>k l p h) e h
theorem b0t{f}(h:b6x x f=true)(k: ∀a b p,f a b=true->m (.Dict a b p)):m x:=q0 h λe h=>Expr.Dict.elim (motive_1:=λx=> ∀e,Expr.Dict.elim x e (λk v _=>f k v)=true->m x) x e (λa b p _ h=>k a b p h) e h
theorem c51{f}(h:xLC x f=true)(k: ∀e g s p,f e g s=true->m (.ListComp e g s p)):m x:=q0 h λe h=>Expr.ListComp.elim (motive_1:=λx=> ∀e,Expr.ListComp.elim x e (λe g s _=>f e g s)=true->m x) x e (λe g s p _ h=>k e g s p h) e h
theorem d1z{f}(h:xDC x f=true)(k: ∀e v g s p,f e v g s=true->m (.DictComp e v g s p)):m x:=q0 h λe h=>Expr.DictComp.elim (motive_1:=λx=> ∀e,Expr.DictComp.elim x e (λk v g s _=>f k v g s)=true->m x) x e (λe v g s p _ h=>k e v g s p h) e h
theorem b1k{f}(h:a14 x f=true)(k: ∀l p,f l=true->m (.JoinedStr l p)):m x:=q0 h λe h=>Expr.JoinedStr.elim (motive_1:=λx=> ∀e,Expr.JoinedStr.elim x e (λl _=>f l)=true->m x) x e (λl p _ h=>k l p h) e h
theorem c85{f}(h:c3y x f=true)(k: ∀v c s p,f v c s=true->m (.FormattedValue v c s p)):m x:=q0 h λe h=>Expr.FormattedValue.elim (motive_1:=λx=> ∀e,Expr.FormattedValue.elim x e (λv c s _=>f v c s)=true->m x) x e (λv c s p _ h=>k v c s p h) e h
theorem C5{α:Type}{o:Option α}{f}(h:T9 o f=true): ∃a,o=some a/\f a=true:=by cases o<;>first |exact⟨_,rfl,h⟩ |exact absurd h Bool.false_ne_true
theorem a7b{α:Type}{l:List α}{f}(h:l1 l f=true): ∃a,l=[a]/\f a=true:=by
 match l,h with
 |[],h=>exact absurd h Bool.false_ne_true
 |[a],h=>exact⟨a,rfl,h⟩
 |_::_::_,h=>exact absurd h Bool.false_ne_true
theorem a9f{α:Type}{l:List α}{f}(h:l2 l f=true): ∃a b,l=[a,b]/\f a b=true:=by
 match l,h with
 |[],h=>exact absurd h Bool.false_ne_true
 |[_],h=>exact absurd h Bool.false_ne_true
 |[a,b],h=>exact⟨a,b,rfl,h⟩
 |_::_::_::_,h=>exact absurd h Bool.false_ne_true
theorem N9{α:Type}{l:List α}{f}(h:lC l f=true): ∃a r,l=a::r/\f a r=true:=by cases l<;>first |exact⟨_,_,rfl,h⟩ |exact absurd h Bool.false_ne_true
end
noncomputable def B7{α:Type}(l:List α):Bool:=match l with |[]=>true |_=>false
theorem o0{α:Type}{l:List α}(h:B7 l=true):l=[]:=by cases l<;>first |rfl |exact absurd h Bool.false_ne_true
noncomputable def a4s{α:Type}(l:Option α):Bool:=match l with |none=>true |_=>false
theorem a1c{α:Type}{l:Option α}(h:a4s l=true):l=none:=by cases l<;>first |rfl |exact absurd h Bool.false_ne_true
noncomputable def a3y(x:Expr):Bool:= !Z9 x λ_ _ _=>true
noncomputable def B4(x:Expr):Bool:= !a2l x λ_ _ _ _=>true
noncomputable def a5s(x:Expr):Bool:= !Z5 x λ_ _ _=>true
noncomputable def a0l(x:Expr):Bool:= !Nat.beq x.ctorIdx 7
noncomputable def b0a(nm:Nat->Str)(sc:Scope)(x:Nat)(e:Expr):Bool:=R8 e λid=>id==nm x&&(id==("__debug__" :Str))==false&&(sc.names.lookup id==some .local||sc.names.lookup id==some .cell)
noncomputable def M2(nm:Nat->Str)(sc:Scope)(x:Nat)(e:Expr):Bool:=R8 e λid=>id==nm x&&(id==("__debug__" :Str))==false&&sc.names.lookup id==some .globalImplicit
noncomputable def d7(scope sc:Scope):Scope:=
 { scope with names:=scope.names.map λ(n,k)=>if(k== .free&&sc.kind== .function&&sc.names.lookup n==some .cell)then (n, .cell)else (n,k) }
noncomputable def V8(scope sc:Scope)(nm:Nat->Str)(x:Nat)(free:List Nat):Bool:=
 scope.kind== .function&&scope.names.all (λp=>p.2 != .cell)&&scope.names.all (λp=>p.2 != .local||scope.names.lookup p.1==some .local)&&scope.names.lookup (nm x)==some .local&&
 scope.names.all (λp=>p.2 != .free||(sc.names.lookup p.1==some .cell&&free.any λy=>nm y==p.1))&&free.all (λy=>(d7 scope sc).names.lookup (nm y)==some .cell&&sc.names.lookup (nm y)==some .cell)&& !free.contains x
noncomputable def a1z(x:Expr):Bool:= !(xUn x λo _=>o== .Not)&& !(a92 x λ_ _=>true)&& !(xIf x λ_ _ _=>true)
noncomputable def H7(x:Expr):Bool:=F9 x λc=>match c with | .str y=>decide (y.length<=100) |_=>false
noncomputable def isX(x:Expr):Bool:=F9 x λc=>c== .str ("x" :Str)
noncomputable def c7w(gs:List Comprehension)(nm:Nat->Str)(x:Nat)(f:Expr->List Expr->Bool):Bool:=l1 gs λg=>R8 g.target (λtg=>tg==nm x)&&g.is_async==0&&a0l g.iter&&f g.iter g.ifs
mutual
noncomputable def i6(nm:Nat->Str)(sc:Scope):ME->Expr->Bool
 | .int i,e=>F9 e λc=>c== .int i
 | .str x,e=>F9 e λc=>c== .str (nm x)
 | .none,e=>F9 e λc=>c== .none
 | .bool b,e=>F9 e λc=>c== .bool b
 | .loc x,e=>b0a nm sc x e
 | .glo x,e=>M2 nm sc x e
 | .bin op a b,e=>d27 e λl o r=>o==op&&(i6 nm sc a l&&i6 nm sc b r)
 | .neg a,e=>xUn e λo x=>o== .USub&&i6 nm sc a x
 | .inv a,e=>xUn e λo x=>o== .Invert&&i6 nm sc a x
 | .not _,_=>false
 | .boolop k es,e=>a92 e λop vs=>op==(if k then .And else .Or)&&chkEs nm sc es vs
 | .cmp op a b,e=>c2u e λl os rs=>l1 os λo=>l1 rs λr=>o==op&&(i6 nm sc a l&&(i6 nm sc b r&& !behindInMarks o r))
 | .chain a aO b aT c,e=>c2u e λl os rs=>l2 os λbk bn=>l2 rs λaW aU=>bk==aO&&(bn==aT&&(i6 nm sc a l&&(i6 nm sc b aW&&(i6 nm sc c aU&& !lastMarks [bk,bn] [aW,aU]))))
 | .ite t a b,e=>xIf e λu x y=>chkB nm sc t u&&(i6 nm sc a x&&i6 nm sc b y)
 | .call f args,e=>a2l e λfn as ks _=>B7 ks&&(a3y fn&&(i6 nm sc f fn&&(chkEs nm sc args as&&decide (as.length<=25))))
 | .meth o n args,e=>a2l e λfn as ks pos=>B7 ks&&Z9 fn λob name ap=>name==nm n&&(B4 ob&&(i6 nm sc o ob&&(chkEs nm sc args as&&(decide (as.length<=25)&&ap.endLine==pos.line))))
 | .initOf g args,e=>a2l e λfn as ks pos=>B7 ks&&Z9 fn λob name ap=>name==("__init__" :Str)&&(M2 nm sc g ob&&(chkEs nm sc args as&&(decide (as.length<=25)&&ap.endLine==pos.line)))
 | .attr o n,e=>Z9 e λob name _=>name==nm n&&(B4 ob&&i6 nm sc o ob)
 | .idx o i,e=>b2e e λob ix=>a5s ix&&(i6 nm sc o ob&&i6 nm sc i ix)
 | .sliceTo o hi,e=>b2e e λob ix=>Z5 ix λa b c=>a4s a&&(a4s c&&T9 b λh=>i6 nm sc o ob&&i6 nm sc hi h)
 | .slice2 o lo hi,e=>b2e e λob ix=>Z5 ix λa b c=>a4s c&&T9 a λl=>T9 b λh=>i6 nm sc o ob&&(i6 nm sc lo l&&i6 nm sc hi h)
 | .rev o,e=>b2e e λob ix=>Z5 ix λa b c=>a4s a&&(a4s b&&(T9 c λs=>xUn s λop k=>op== .USub&&(F9 k (λk=>k== .int 1)&&i6 nm sc o ob)))
 | .tup es,e=>b9x e λvs=>chkEs nm sc es vs&&decide (vs.length<=1000)
 | .lstF es,e=>b6n e λvs=>chkEs nm sc es vs&&decide (vs.length<=1000)
 | .lstM es,e=>b6n e λvs=>chkEs nm sc es vs&&decide (vs.length<=1000)
 | .dict0,e=>b6x e λk v=>B7 k&&B7 v
 | .dictT,e=>b6x e λk v=>B7 k&&B7 v
 | .lcomp x free it conds elt,e=>xLC e λel gs scope=>c7w gs nm x λiter ifs=>i6 nm sc it iter&&(V8 scope sc nm x free&&(chkBs nm (d7 scope sc) conds ifs&&i6 nm (d7 scope sc) elt el))
 | .dcomp x free it conds key val,e=>xDC e λk v gs scope=>c7w gs nm x λiter ifs=>i6 nm sc it iter&&(V8 scope sc nm x free&&(chkBs nm (d7 scope sc) conds ifs&&(i6 nm (d7 scope sc) key k&&i6 nm (d7 scope sc) val v)))
 | .fstr es,e=>a14 e λparts=>chkParts nm sc es parts&&(decide (2<=parts.length)&&decide (parts.length<=100))
noncomputable def chkEs(nm:Nat->Str)(sc:Scope):MEs->List Expr->Bool
 | .nil,l=>B7 l
 | .cons e r,l=>lC l λx q=>i6 nm sc e x&&chkEs nm sc r q
noncomputable def chkParts(nm:Nat->Str)(sc:Scope):MEs->List Expr->Bool
 | .nil,l=>l.all H7
 | .cons e r,l=>lC l λx q=>match H7 x with
  |true=>lC q λy q=>(c3y y λv c sp=>c== -1&&(i6 nm sc e v&&match sp with |none=>true |some s=>a14 s λl=>l1 l isX))&&chkParts nm sc r q
  |false=>(c3y x λv c sp=>c== -1&&(i6 nm sc e v&&match sp with |none=>true |some s=>a14 s λl=>l1 l isX))&&chkParts nm sc r q
noncomputable def chkB(nm:Nat->Str)(sc:Scope):MB->Expr->Bool
 | .of a,e=>a1z e&&i6 nm sc a e
 | .not t,e=>xUn e λo x=>o== .Not&&chkB nm sc t x
 | .ops k ts,e=>a92 e λop vs=>op==(if k then .And else .Or)&&chkBs nm sc ts vs
 | .ite t a b,e=>xIf e λu x y=>chkB nm sc t u&&(chkB nm sc a x&&chkB nm sc b y)
 | .chain3 a aO b aT c bH d,e=>c2u e λl os rs=>lC os λbk os=>l2 os λbn cr=>lC rs λaW rs=>l2 rs λaU bI=>bk==aO&&(bn==aT&&(cr==bH&&(i6 nm sc a l&&(i6 nm sc b aW&&(i6 nm sc c aU&&(i6 nm sc d bI&& !lastMarks [bk,bn,cr] [aW,aU,bI]))))))
noncomputable def chkBs(nm:Nat->Str)(sc:Scope):MBs->List Expr->Bool
 | .nil,l=>B7 l
 | .cons t r,l=>lC l λx q=>chkB nm sc t x&&chkBs nm sc r q
end
end
section
structure AOk (A:Around) (fs:List Fm) (hz:Bool) (n:Nat):Prop where
 frames:A.frames=some ((fs.filter (·.real)).map (·.env))
 hz:hz=true->A.handled=none
 depth:A.depth+4*n+8<=recursionLimit
 units:A.units+50*n+300<=cLine
section
variable(Pp:Par)
def SPc(G:Gh)(fs:List Fm)(hs:Hs)(r:R AV)(R:Result->Shared->Prop):Prop:=match r with
 | .ok a ae=> ∀G' v s',G.le G'->St Pp G' fs hs ae s'->VR Pp G' a v->R (.ok (.ret v)) s'
 | .exc id ae=> ∀G' p s',G.le G'->St Pp G' fs hs ae s'->G'.ρ id=some p->R (.error (.ref p.1)) s'
 | .bad=>False
def R7(call:Nat->List AV->H->R AV)(fs:List Fm)(n:Nat):Prop:=
 ∀(A:Around)(G:Gh)(hs:Hs)(J:H)(s:Shared)(i:Nat)(args:List AV)(vs:List Value)(R:Result->Shared->Prop),AOk A fs true n->
  St Pp G fs hs J s->VRs Pp G args vs->SPc Pp G fs hs (call i args J) R->codeAny Pp.M A (.call (.ref (Pp.D.fnA i)) ⟨vs,[]⟩) R s
def SPs(G:Gh)(fs:List Fm)(hs:Hs)(r:R (List AV))(Q:List Value->Shared->Prop)(E:VP):Prop:=match r with
 | .ok l ae=> ∀G' vs s',G.le G'->St Pp G' fs hs ae s'->VRs Pp G' l vs->Q vs s'
 | .exc id ae=> ∀G' p s',G.le G'->St Pp G' fs hs ae s'->G'.ρ id=some p->E (.ref p.1) s'
 | .bad=>False
def SPb(G:Gh)(fs:List Fm)(hs:Hs)(r:R Bool)(Q:Bool->Shared->Prop)(E:VP):Prop:=match r with
 | .ok b ae=> ∀G' s',G.le G'->St Pp G' fs hs ae s'->Q b s'
 | .exc id ae=> ∀G' p s',G.le G'->St Pp G' fs hs ae s'->G'.ρ id=some p->E (.ref p.1) s'
 | .bad=>False
structure Ctx1 (C:Cx) (A:Around) (fs:List Fm) (n:Nat):Prop where
 X:Pp.K.In Pp.base
 sys:(Pp.base.get? sysModules).isSome=true
 nm:NmOk Pp.D
 a:AOk A fs C.hz (n+1)
 call:C.hz=true->R7 Pp C.call fs n
 fnK: ∀i l J,C.call i l J≠ .bad->fnIn Pp.K (Pp.D.fnA i)=true
 quiet:C.hz=false-> ∀i l J,C.call i l J= .bad
def c7(C:Cx)(A:Around)(fm:Fm)(fs:List Fm)(e:ME)(x:Expr):Prop:=
 ∀(G:Gh)(hs:Hs)(J:H)(s:Shared)(Q E:VP),St Pp G (fm::fs) hs J s->SP Pp G (fm::fs) hs (a6 C fm.loc e J) Q E->wpAny Pp.M A (eval x fm.env) Q E s
def F5(C:Cx)(A:Around)(fm:Fm)(fs:List Fm)(es:MEs)(xs:List Expr):Prop:=
 ∀(G:Gh)(hs:Hs)(J:H)(s:Shared)(pos:Pos)(Q:List Value->Shared->Prop)(E:VP),St Pp G (fm::fs) hs J s->SPs Pp G (fm::fs) hs (evalEs C fm.loc es J) Q E->wpAny Pp.M A (spliced (backTo pos (starEach xs fm.env))) Q E s
def G0(C:Cx)(A:Around)(fm:Fm)(fs:List Fm)(t:MB)(x:Expr):Prop:=
 ∀(G:Gh)(hs:Hs)(J:H)(s:Shared)(Q:Bool->Shared->Prop)(E:VP),St Pp G (fm::fs) hs J s->SPb Pp G (fm::fs) hs (tstE C fm.loc t J) Q E->wpAny Pp.M A (isTrue x fm.env (eval x fm.env)) Q E s
def a5f(C:Cx)(A:Around)(fm:Fm)(fs:List Fm)(k:Bool)(ts:MBs)(xs:List Expr):Prop:=
 ∀(G:Gh)(hs:Hs)(J:H)(s:Shared)(Q:Bool->Shared->Prop)(E:VP),St Pp G (fm::fs) hs J s->SPb Pp G (fm::fs) hs (tstEs C fm.loc k ts J) Q E->wpAny Pp.M A (allTrue (if k then .And else .Or) xs fm.env) Q E s
end
section
variable{Pp:Par}
variable{G G':Gh}{fm:Fm}{fs:List Fm}{hs:Hs}{J:H}{s:Shared}{A:Around}{C:Cx}{n:Nat}
theorem SPs.le{fs:List Fm}{r:R (List AV)}{Q:List Value->Shared->Prop}{E:VP}(x:G.le G')(h:SPs Pp G fs hs r Q E):SPs Pp G' fs hs r Q E:=by
 cases r with
 |ok a ae=>exact λG'' v s' y S V=>h G'' v s' (x.trans y) S V
 |exc id ae=>exact λG'' p s' y S V=>h G'' p s' (x.trans y) S V
 |bad=>exact h
theorem SPb.le{fs:List Fm}{r:R Bool}{Q:Bool->Shared->Prop}{E:VP}(x:G.le G')(h:SPb Pp G fs hs r Q E):SPb Pp G' fs hs r Q E:=by
 cases r with
 |ok a ae=>exact λG'' s' y S=>h G'' s' (x.trans y) S
 |exc id ae=>exact λG'' p s' y S V=>h G'' p s' (x.trans y) S V
 |bad=>exact h
theorem SP.bind{fs:List Fm}{r:R AV}{f:AV->H->R AV}{Q Q' E:VP}(h:SP Pp G fs hs (r.bind f) Q E)
  (k: ∀a ae G' v s',r= .ok a ae->G.le G'->St Pp G' fs hs ae s'->VR Pp G' a v->SP Pp G' fs hs (f a ae) Q E->Q' v s'):SP Pp G fs hs r Q' E:=by
 cases r with
 |ok a ae=>exact λG' v s' x S V=>k a ae G' v s' rfl x S V (SP.le x h)
 |exc id ae=>exact h
 |bad=>exact h
theorem SP.bindS{fs:List Fm}{r:R (List AV)}{f:List AV->H->R AV}{Q E:VP}{Q':List Value->Shared->Prop}(h:SP Pp G fs hs (r.bind f) Q E)
  (k: ∀a ae G' v s',r= .ok a ae->G.le G'->St Pp G' fs hs ae s'->VRs Pp G' a v->SP Pp G' fs hs (f a ae) Q E->Q' v s'):SPs Pp G fs hs r Q' E:=by
 cases r with
 |ok a ae=>exact λG' v s' x S V=>k a ae G' v s' rfl x S V (SP.le x h)
 |exc id ae=>exact h
 |bad=>exact h
theorem SP.bindB{fs:List Fm}{r:R Bool}{f:Bool->H->R AV}{Q E:VP}{Q':Bool->Shared->Prop}(h:SP Pp G fs hs (r.bind f) Q E)
  (k: ∀a ae G' s',r= .ok a ae->G.le G'->St Pp G' fs hs ae s'->SP Pp G' fs hs (f a ae) Q E->Q' a s'):SPb Pp G fs hs r Q' E:=by
 cases r with
 |ok a ae=>exact λG' s' x S=>k a ae G' s' rfl x S (SP.le x h)
 |exc id ae=>exact h
 |bad=>exact h
theorem SPs.bind1{fs:List Fm}{r:R AV}{f:AV->H->R (List AV)}{Q:List Value->Shared->Prop}{Q' E:VP}(h:SPs Pp G fs hs (r.bind f) Q E)
  (k: ∀a ae G' v s',r= .ok a ae->G.le G'->St Pp G' fs hs ae s'->VR Pp G' a v->SPs Pp G' fs hs (f a ae) Q E->Q' v s'):SP Pp G fs hs r Q' E:=by
 cases r with
 |ok a ae=>exact λG' v s' x S V=>k a ae G' v s' rfl x S V (SPs.le x h)
 |exc id ae=>exact h
 |bad=>exact h
theorem SPs.bindS{fs:List Fm}{r:R (List AV)}{f:List AV->H->R (List AV)}{Q:List Value->Shared->Prop}{Q':List Value->Shared->Prop}{E:VP}(h:SPs Pp G fs hs (r.bind f) Q E)
  (k: ∀a ae G' v s',r= .ok a ae->G.le G'->St Pp G' fs hs ae s'->VRs Pp G' a v->SPs Pp G' fs hs (f a ae) Q E->Q' v s'):SPs Pp G fs hs r Q' E:=by
 cases r with
 |ok a ae=>exact λG' v s' x S V=>k a ae G' v s' rfl x S V (SPs.le x h)
 |exc id ae=>exact h
 |bad=>exact h
theorem SPb.bindB{fs:List Fm}{r:R Bool}{f:Bool->H->R Bool}{Q:Bool->Shared->Prop}{Q':Bool->Shared->Prop}{E:VP}(h:SPb Pp G fs hs (r.bind f) Q E)
  (k: ∀a ae G' s',r= .ok a ae->G.le G'->St Pp G' fs hs ae s'->SPb Pp G' fs hs (f a ae) Q E->Q' a s'):SPb Pp G fs hs r Q' E:=by
 cases r with
 |ok a ae=>exact λG' s' x S=>k a ae G' s' rfl x S (SPb.le x h)
 |exc id ae=>exact h
 |bad=>exact h
theorem SPb.bind1{fs:List Fm}{r:R AV}{f:AV->H->R Bool}{Q:Bool->Shared->Prop}{Q' E:VP}(h:SPb Pp G fs hs (r.bind f) Q E)
  (k: ∀a ae G' v s',r= .ok a ae->G.le G'->St Pp G' fs hs ae s'->VR Pp G' a v->SPb Pp G' fs hs (f a ae) Q E->Q' v s'):SP Pp G fs hs r Q' E:=by
 cases r with
 |ok a ae=>exact λG' v s' x S V=>k a ae G' v s' rfl x S V (SPb.le x h)
 |exc id ae=>exact h
 |bad=>exact h
noncomputable abbrev SE:= @c7
theorem c9l{i:Int}{kk pos}:c7 Pp C A fm fs (.int i) (.Constant (.int i) kk pos):=λG hs J s Q E S h=>wpAny_Constant_int (h G _ _ (.refl _) (S.toks _) ⟨_,rfl⟩)
theorem c68{x:Nat}{kk pos}:c7 Pp C A fm fs (.str x) (.Constant (.str (Pp.D.nm x)) kk pos):=λG hs J s Q E S h=>wpAny_Constant_str (h G _ _ (.refl _) (S.toks _) ⟨_,rfl⟩)
theorem c3r{kk pos}:c7 Pp C A fm fs .none (.Constant .none kk pos):=λG hs J s Q E S h=>wpAny_Constant_none (h G _ _ (.refl _) S rfl)
theorem c23{b:Bool}{kk pos}:c7 Pp C A fm fs (.bool b) (.Constant (.bool b) kk pos):=λG hs J s Q E S h=>wpAny_Constant_bool (h G _ _ (.refl _) S rfl)
theorem c8j{op:BOp}{a b:ME}{l r:Expr}{pos}(ha:c7 Pp C A fm fs a l)(hb:c7 Pp C A fm fs b r):c7 Pp C A fm fs (.bin op a b) (.BinOp l op r pos):=λG hs J s Q E S h=>by
 exact wpAny_BinOp (ha G hs J s _ E S (h.bind λx af ak u au _ aC am ay aj=>hb ak hs af au _ E am (aj.bind λy ax aA v aD _ az av aG aI=>b6j av (ay.mono Pp az) aG aI)))
theorem c9i{op:COp}{a b:ME}{l r:Expr}{pos}(c:Ctx1 Pp C A (fm::fs) n)(ha:c7 Pp C A fm fs a l)(hb:c7 Pp C A fm fs b r)(hm:behindInMarks op r=false):
  c7 Pp C A fm fs (.cmp op a b) (.Compare l [op] [r] pos):=λG hs J s Q E S h=>by
 exact wpAny_Compare1 (ha G hs J s _ E S (h.bind λx af ak u au _ aC am ay aj=>hb ak hs af au _ E am (aj.bind λy ax aA v aD _ az av aG aI=>s2 av c.sys (by have:=c.a.units;lia) (ay.mono Pp az) aG aI))) hm
theorem c7f{a:ME}{x:Expr}{pos}(ha:c7 Pp C A fm fs a x):c7 Pp C A fm fs (.neg a) (.UnaryOp .USub x pos):=λG hs J s Q E S h=>by
 refine wpAny_UnaryOp (ha G hs J s _ E S (h.bind λx af ak u au _ aC am ay aj=> ?_));replace aj:=aj.int;rcases aj with ⟨n,rfl,aj⟩ |aj
 ·obtain⟨t,rfl⟩:=ay;exact PyProof.Rows.neg_int (aj _ _ _ (.refl _) (am.toks _) ⟨_,rfl⟩)
 ·exact aj.elim
theorem c9h{a:ME}{x:Expr}{pos}(ha:c7 Pp C A fm fs a x):c7 Pp C A fm fs (.inv a) (.UnaryOp .Invert x pos):=λG hs J s Q E S h=>by
 refine wpAny_UnaryOp (ha G hs J s _ E S (h.bind λx af ak u au _ aC am ay aj=> ?_));replace aj:=aj.int;rcases aj with ⟨n,rfl,aj⟩ |aj
 ·obtain⟨t,rfl⟩:=ay;exact PyProof.Rows.invert_int (aj _ _ _ (.refl _) (am.toks _) ⟨_,rfl⟩)
 ·exact aj.elim
theorem c9p{t:MB}{a b:ME}{u x y:Expr}{pos}(ht:G0 Pp C A fm fs t u)(ha:c7 Pp C A fm fs a x)(hb:c7 Pp C A fm fs b y):
  c7 Pp C A fm fs (.ite t a b) (.IfExp u x y pos):=λG hs J s Q E S h=>by
 refine wpAny_IfExp (ht G hs J s _ E S (h.bindB λk af ak au _ aC am aj=> ?_));cases k
 ·exact hb ak hs af au _ E am aj
 ·exact ha ak hs af au _ E am aj
theorem c8e{o i:ME}{ob ix:Expr}{pos}(c:Ctx1 Pp C A (fm::fs) n)(ho:c7 Pp C A fm fs o ob)(hi:c7 Pp C A fm fs i ix)(hn:a5s ix=true):
  c7 Pp C A fm fs (.idx o i) (.Subscript ob ix pos):=λG hs J s Q E S h=>by
 rw[eval_Subscript];refine wpAny_bind (ho G hs J s _ E S (h.bind λx af ak u au _ aC am ay aj=>wpAny_bind (wpAny_holding (hi ak hs af au _ E am (aj.bind λy ax aA v aD _ az av aG aI=>wpAny_bind (wpAny_standAt ?_))))));obtain⟨T,id,hT,hl,hg⟩:=b86 (A:=A) av (by have:=c.a.units;lia) (ay.mono Pp az) aG aI;refine wpAny_bind ?_;rw[getitemInPython_of_ne hT.not_modules];refine wpAny_bind (wpAny_specialOf hT hl ?_);have e:subscripted ix false u v=operate [u,v] (getItem u v):=by cases ix<;>first |rfl |cases hn
 refine wpAny_pure (wpAny_bind ?_);rw[e];exact wpAny_operating (wpAny_mono hg (λr aL aK=>wpAny_bind (wpAny_letTemporaryGo (wpAny_pure aK))) λ_ _ x=>x)
theorem c0b:F5 Pp C A fm fs .nil []:=λG hs J s pos Q E S h=>wpAny_items_nil (h G _ _ (.refl _) S trivial)
end
end
section
section
variable{Pp:Par}
variable{G G':Gh}{fm:Fm}{fs:List Fm}{hs:Hs}{J:H}{s:Shared}{A:Around}{C:Cx}{n:Nat}
theorem c1e{x:Nat}{pos}(hd:(Pp.D.nm x==("__debug__" :Str))=false):c7 Pp C A fm fs (.loc x) (.Name (Pp.D.nm x) pos):=λG hs J s Q E S h=>by
 obtain⟨f1,f2,f3,f4,f5,⟨m,f6,f7⟩,f8⟩:=S.fr.1;refine SP.dfdk h λhn h'=> ?_;obtain⟨v,V,hv⟩:=f7 x hn;refine wpAny_Name ?_ hd;rcases hv with ⟨hk,hm⟩ |⟨hk,c,o,hc,ho,hd'⟩
 ·exact wpAny_loadName_local f2 hk f6 hm (h' G v s (.refl _) S V)
 ·exact wpAny_loadName_cell f2 hk hc ⟨o,S.fz _ _ ho,hd'⟩ (h' G v s (.refl _) S V)
def C6(Pp:Par)(T:Tab):Prop:=
 ∀x,T.glob x≠ .undef-> ∃v,(∀G:Gh,(∀a o,Pp.base.get? a=some o->G.own a= .fz o)->VR Pp G (T.glob x) v)/\
  ∀(A:Around)(s:Shared)(env:Env)(Q E:Value->Shared->_),(∀a o,Pp.base.get? a=some o->s.heap.get? a=some o)->env.globals=mainGlobals->env.builtins=builtinsNs->env.scope.kind= .function->
   env.kindOf (Pp.D.nm x)=some .globalImplicit->Q v s->wpAny Pp.M A (loadName env (Pp.D.nm x)) Q E s
theorem St.baseIn(S:St Pp G fs hs J s): ∀a o,Pp.base.get? a=some o->s.heap.get? a=some o:=λa o e=>S.fz a o (S.base a o e)
theorem a3d{x:Nat}{pos}(T:C6 Pp C.T)(hd:(Pp.D.nm x==("__debug__" :Str))=false)(hk:fm.env.kindOf (Pp.D.nm x)=some .globalImplicit):c7 Pp C A fm fs (.glo x) (.Name (Pp.D.nm x) pos):=λG hs J s Q E S h=>by
 have f:=S.fr.1;refine SP.dfdk h λhn h'=> ?_;obtain⟨v,V,L⟩:=T x hn;exact wpAny_Name (L A s fm.env Q E S.baseIn f.glob f.bins f.kind hk (h' G v s (.refl _) S (V G S.base))) hd
theorem b0w{e:ME}{r:MEs}{x:Expr}{q:List Expr}(he:c7 Pp C A fm fs e x)(hr:F5 Pp C A fm fs r q)(hx:starEach (x::q) fm.env=(false,eval x fm.env)::starEach q fm.env):
  F5 Pp C A fm fs (.cons e r) (x::q):=λG hs J s pos Q E S h=>by
 refine wpAny_items_cons (he G hs J s _ E S (h.bind1 λa af ak u au _ aC am ay aj=>hr ak hs af au pos _ E am (aj.bindS λl ax aA vs aD _ az av aG aI=> ?_))) hx;exact aI aA _ _ (.refl _) av ⟨ay.mono Pp az,aG⟩
theorem c99{es:MEs}{xs:List Expr}{kk pos}(hE:F5 Pp C A fm fs es xs)(hz:xs.length<=1000)(hl: ∀vs J ae,evalEs C fm.loc es J= .ok vs ae->vs.length=xs.length):
  c7 Pp C A fm fs (.tup es) (.Tuple xs kk pos):=λG hs J s Q E S h=>by
 refine wpAny_Tuple (hE G hs J s pos _ E S (h.bindS λl af ak vs au e aC am ay aj=>⟨V0 (by rw[ay.length,hl _ _ _ e];lia), ?_⟩));exact aj _ _ _ am.alloc_le (am.alloc rfl _) (VR.newTup am ay)
theorem c2f{es:MEs}{xs:List Expr}{pos}(hE:F5 Pp C A fm fs es xs)(hz:xs.length<=1000)(hl: ∀vs J ae,evalEs C fm.loc es J= .ok vs ae->vs.length=xs.length):
  c7 Pp C A fm fs (.lstF es) (.List xs pos):=λG hs J s Q E S h=>by
 refine wpAny_List (hE G hs J s pos _ E S (h.bindS λl af ak vs au e aC am ay aj=>⟨V0 (by rw[ay.length,hl _ _ _ e];lia), ?_⟩));exact aj _ _ _ am.alloc_le (am.alloc rfl _) (VR.newLst am ay)
theorem St.newOb(S:St Pp G fs hs J s){o:Obj}(ho:o.isFreed=false){ao:AO}(k:Nat)
  (hR: ∀G',G.ext G'->(∀h:Heap,h.get? s.heap.objs.size=some o->G'.own s.heap.objs.size= .ob J.length->OR Pp G' h J.length (s.heap.objs.size,s.heap.objs.size) ao)):
  ∃G',G.le G'/\St Pp G' fs hs (J++[ao]) { s with heap:=s.heap.push o,toks:=k }/\VR Pp G' (.obj J.length) (.ref s.heap.objs.size):=by
 have hf:=S.fresh (Nat.le_refl s.heap.objs.size);have aY:G.ρ J.length=none:=by
  cases q:G.ρ J.length with
  |none=>rfl
  |some p=>exact absurd (S.dom _ _ q) (Nat.lt_irrefl _)
 let G':Gh:=⟨λi=>if i=J.length then some (s.heap.objs.size,s.heap.objs.size)else G.ρ i,λb=>if b=s.heap.objs.size then .ob J.length else G.own b⟩
 have x:G.ext G':=⟨λa ha=>if_neg λ(e:a=s.heap.objs.size)=>ha (by rw[e];exact hf),λi p hp=>(if_neg λ(e:i=J.length)=>by rw[e,aY]at hp;cases hp).trans hp⟩
 have hs':=Heap.get?_push_size s.heap ho;refine⟨G',x.le,S.pushOb (p:=(s.heap.objs.size,s.heap.objs.size)) x (λi hi=>if_neg hi) (if_pos rfl) (λa ha ha'=> ?_) ⟨rfl,rfl⟩ (λa o' _ e=>Heap.get?_push_of_some o e) (hR G' x _ hs' (if_pos rfl)),⟨_,if_pos rfl,rfl⟩⟩
 by_cases e:a=s.heap.objs.size
 ·subst e;exact .inl ⟨if_pos rfl,by show(Heap.get? (s.heap.push o) _).isSome=true;rw[hs'];rfl⟩
 ·exact absurd ((if_neg e:G'.own a=G.own a).trans ha) ha'
theorem c2t{es:MEs}{xs:List Expr}{pos}(hE:F5 Pp C A fm fs es xs)(hz:xs.length<=1000)(hl: ∀vs J ae,evalEs C fm.loc es J= .ok vs ae->vs.length=xs.length):
  c7 Pp C A fm fs (.lstM es) (.List xs pos):=λG hs J s Q E S h=>by
 refine wpAny_List (hE G hs J s pos _ E S (h.bindS λl af ak vs au e aC am ay aj=>⟨V0 (by rw[ay.length,hl _ _ _ e];lia), ?_⟩));obtain⟨aA,az,av,aG⟩:=am.newOb (o:=⟨.type "list",none, .seq (Array.mk vs) 0, #[]⟩) rfl (ao:= .list l) au.toks (λG' x h hg ht=>⟨ht,vs,0,hg,VRs.mono Pp x.le ay⟩);exact aj _ _ _ az av aG
theorem b5f{pos}:c7 Pp C A fm fs .dict0 (.Dict [] [] pos):=λG hs J s Q E S h=>by
 refine wpAny_Dict_empty ?_;obtain⟨aA,az,av,aG⟩:=S.newOb (o:={ cls:= .type "dict",data:= .dict #[] }) rfl (ao:= .idict []) s.toks
  (λG' x h hg ht=>⟨ht,[],⟨_, #[],0,hg,⟨rfl,rfl,rfl⟩,rfl,λ_ he=>by simp at he,Pairs.nil,List.nodup_nil⟩,trivial⟩)
 exact h _ _ _ az av aG
theorem b84{pos}:c7 Pp C A fm fs .dictT (.Dict [] [] pos):=λG hs J s Q E S h=>by
 refine wpAny_Dict_empty ?_;obtain⟨aA,az,av,aG⟩:=S.newOb (o:={ cls:= .type "dict",data:= .dict #[] }) rfl (ao:= .tdict []) s.toks
  (λG' x h hg ht=>⟨ht,[],⟨_, #[],0,hg,⟨rfl,rfl,rfl⟩,rfl,rfl,(λ_ he=>by simp at he),List.nodup_nil⟩,rfl,(λ_ he=>by simp at he),[],rfl,rfl⟩)
 exact h _ _ _ az av aG
theorem b7f{k:Bool}{e:ME}{x:Expr}{pos}(he:c7 Pp C A fm fs e x): ∀G hs J s Q E,St Pp G (fm::fs) hs J s->SP Pp G (fm::fs) hs (boolE C fm.loc k (.cons e .nil) J) Q E->
  wpAny Pp.M A (boolOp pos (if k then .And else .Or) (evalEach [x] fm.env)) Q E s:=λG hs J s Q E S h=>by
 exact he G hs J s Q E S (h.bind λa af ak u au _ aC am ay aj=>aj ak _ _ (.refl _) am ay)
theorem b7n{k:Bool}{e e':ME}{r:MEs}{x x':Expr}{q:List Expr}{pos}(he:c7 Pp C A fm fs e x)
  (hr: ∀G hs J s Q E,St Pp G (fm::fs) hs J s->SP Pp G (fm::fs) hs (boolE C fm.loc k (.cons e' r) J) Q E->wpAny Pp.M A (boolOp pos (if k then .And else .Or) (evalEach (x'::q) fm.env)) Q E s):
  ∀G hs J s Q E,St Pp G (fm::fs) hs J s->SP Pp G (fm::fs) hs (boolE C fm.loc k (.cons e (.cons e' r)) J) Q E->
  wpAny Pp.M A (boolOp pos (if k then .And else .Or) (evalEach (x::x'::q) fm.env)) Q E s:=λG hs J s Q E S h=>by
 show wpAny _ A (do
  let v <-eval x fm.env
  standAt pos
  let t <-holding [v] (truthy v)
  match(if k then BoolOp.And else BoolOp.Or),t with
  | .And,false | .Or,true=>pure v
  |_,_=>boolOp pos (if k then .And else .Or) (evalEach (x'::q) fm.env)) Q E s
 refine wpAny_bind (he G hs J s _ E S (h.bind λa af ak u au _ aC am ay aj=>wpAny_bind (wpAny_standAt (wpAny_bind (wpAny_holding ?_)))));refine SP.smk aj λb hb aj=> ?_;refine a0y ay hb ?_;cases k<;>cases b
 ·exact hr ak hs af au Q E am aj
 ·exact wpAny_pure (aj ak _ _ (.refl _) am ay)
 ·exact wpAny_pure (aj ak _ _ (.refl _) am ay)
 ·exact hr ak hs af au Q E am aj
theorem d0j{t:MB}{x:Expr}{pos}(ht:G0 Pp C A fm fs t x):G0 Pp C A fm fs (.not t) (.UnaryOp .Not x pos):=λG hs J s Q E S h=>by
 exact wpAny_isTrue_Not (ht G hs J s _ E S (h.bindB λb af ak au _ aC am aj=>aj ak _ (.refl _) am))
theorem c97{k:Bool}{ts:MBs}{xs:List Expr}{pos}(hT:a5f Pp C A fm fs k ts xs):G0 Pp C A fm fs (.ops k ts) (.BoolOp (if k then .And else .Or) xs pos):=λG hs J s Q E S h=>by
 exact wpAny_isTrue_BoolOp (hT G hs J s Q E S h)
theorem c77{k:Bool}:a5f Pp C A fm fs k .nil []:=λG hs J s Q E S h=>by
 cases k
 ·exact wpAny_allTrue_Or_nil (h G _ (.refl _) S)
 ·exact wpAny_allTrue_And_nil (h G _ (.refl _) S)
theorem c2s{k:Bool}{t:MB}{ts:MBs}{x:Expr}{xs:List Expr}(ht:G0 Pp C A fm fs t x)(hT:a5f Pp C A fm fs k ts xs):a5f Pp C A fm fs k (.cons t ts) (x::xs):=λG hs J s Q E S h=>by
 cases k
 ·refine wpAny_allTrue_Or_cons (ht G hs J s _ E S (h.bindB λb af ak au _ aC am aj=> ?_))
  cases b
  ·exact hT ak hs af au Q E am aj
  ·exact aj ak _ (.refl _) am
 ·refine wpAny_allTrue_And_cons (ht G hs J s _ E S (h.bindB λb af ak au _ aC am aj=> ?_))
  cases b
  ·exact aj ak _ (.refl _) am
  ·exact hT ak hs af au Q E am aj
theorem d0i{t a b:MB}{u x y:Expr}{pos}(ht:G0 Pp C A fm fs t u)(ha:G0 Pp C A fm fs a x)(hb:G0 Pp C A fm fs b y):
  G0 Pp C A fm fs (.ite t a b) (.IfExp u x y pos):=λG hs J s Q E S h=>by
 show wpAny _ A (do if <-isTrue u fm.env (eval u fm.env)then isTrue x fm.env (eval x fm.env)else isTrue y fm.env (eval y fm.env)) Q E s;refine wpAny_bind (ht G hs J s _ E S (h.bindB λk af ak au _ aC am aj=> ?_));cases k
 ·exact hb ak hs af au Q E am aj
 ·exact ha ak hs af au Q E am aj
theorem d3x{e:ME}{x:Expr}(he:c7 Pp C A fm fs e x)(hx:isTrue x fm.env (eval x fm.env)=(do let v <-eval x fm.env;standAt x.pos;holding [v] (truthy v))):G0 Pp C A fm fs (.of e) x:=λG hs J s Q E S h=>by
 refine wpAny_isTrue_value (he G hs J s _ E S (h.bind1 λa af ak u au _ aC am ay aj=> ?_)) hx;refine j5 (λr=>SPb Pp ak (fm::fs) hs r Q E) aj (λb hb aj=> ?_) λz_=>absurd z_ (id);exact a0y ay hb (aj ak _ (.refl _) am)
end
end
section
noncomputable def p5(x:Expr):Bool:= !Expr.casesOn x (λ_ _ _=>false) (λ_ _ _=>false) (λ_ _ _ _=>false) (λ_ _ _=>false) (λ_ _ _ _=>false) (λ_ _ _ _=>false) (λ_ _ _=>false) (λ_ _ _=>false) (λ_ _ _ _=>false) (λ_ _ _ _=>false) (λ_ _ _ _ _=>false) (λ_ _ _ _=>false) (λ_ _=>false) (λ_ _=>false) (λ_ _=>false) (λ_ _ _ _=>false) (λ_ _ _ _=>false) (λ_ _ _ _=>false) (λ_ _=>false) (λ_ _ _=>false) (λ_ _ _=>false) (λ_ _ _=>false) (λ_ _=>true) (λ_ _=>false) (λ_ _=>false) (λ_ _ _=>false) (λ_ _ _ _=>false)
structure ClsOk (K:Frag) (D:Adr) (T:Tab):Prop where
 inst: ∀c i,T.init c=some i->T.isExc c=false->InstOk K (D.clsA c)/\makesIn K (D.clsA c)=true/\findIn K (.ref (D.clsA c)) "__init__" =some (some (.ref (D.fnA i)))
 keep: ∀c i,T.init c=some i->keepIn K (.ref (D.clsA c))=true
 initFn: ∀c i,T.init c=some i->isFn K (.ref (D.fnA i))=true
 fld: ∀c x,T.fld c x=true->InstOk K (D.clsA c)/\findIn K (.ref (D.clsA c)) (D.nm x)=some none
 meth: ∀c x i,T.meth c x=some i->T.isExc c=false/\InstOk K (D.clsA c)/\findIn K (.ref (D.clsA c)) (D.nm x)=some (some (.ref (D.fnA i)))/\isFn K (.ref (D.fnA i))=true
section
variable{Pp:Par}
variable{G G':Gh}{fm:Fm}{fs:List Fm}{hs:Hs}{J:H}{s:Shared}{A:Around}{C:Cx}{n:Nat}
theorem A4{x:Expr}{q:List Expr}{env:Env}(h:p5 x=true):starEach (x::q) env=(false,eval x env)::starEach q env:=by cases x<;>first |rfl |cases h
theorem a0f{env:Env}{pos:Pos}: ∀{xs:List Expr},xs.all p5=true->(backTo pos (starEach xs env)).any (·.1)=false
 |[],_=>rfl
 |x::q,h=>by
  rw[List.all_cons,Bool.and_eq_true]at h;rw[A4 h.1];show(false||(backTo pos (starEach q env)).any (·.1))=false;rw[a0f h.2];rfl
theorem a7e{env:Env}{pos:Pos}: ∀{xs:List Expr},xs.all p5=true->(backTo pos (starEach xs env)).all (!·.1)=true
 |[],_=>rfl
 |x::q,h=>by
  rw[List.all_cons,Bool.and_eq_true]at h;rw[A4 h.1];show(true&&(backTo pos (starEach q env)).all (!·.1))=true;rw[a7e h.2];rfl
theorem a1r{M:Model}{E:VP}{f:Value}{Q:Args->Shared->Prop}(h:wpAny M A (spliced []) (λvs s'=>Q ⟨vs,[]⟩ s') E s):wpAny M A (evalArgs f true [] []) Q E s:=by
 unfold evalArgs;show wpAny M A (spliced []>>=_) Q E s;refine wpAny_bind (wpAny_mono h (λvs s' h'=> ?_) λ_ _ x=>x);refine wpAny_bind (wpAny_pure ?_);refine wpAny_holding ?_;refine wpAny_bind (wpAny_pure ?_);exact wpAny_bind (wpAny_pure (by simpa using wpAny_pure h'))
theorem J2{M:Model}{E:VP}{env:Env}{f:Value}{first:List Value}{xs:List Expr}{pos:Pos}{Q:VP}(hx:xs.all p5=true)
  (h:wpAny M A (spliced (backTo pos (starEach xs env))) (λvs au=>(∃k,(k=Keeper.frame\/k=Keeper.machine\/k=Keeper.boundFrame)/\Looks M au.heap (keeperOf f) k)/\wpAny M A (call f (first++vs)) Q E au) E s):
  wpAny M A (callWith pos f first (backTo pos (starEach xs env)) []) Q E s:=by
 refine callWith_of (P:=λh=> ∃k,(k=Keeper.frame\/k=Keeper.machine\/k=Keeper.boundFrame)/\Looks M h (keeperOf f) k) (by rw[a0f hx];rfl) (λ_ h=>h) ?_;cases xs with
 |nil=>exact a1r h
 |cons x q=>
  rw[List.all_cons,Bool.and_eq_true]at hx;rw[A4 hx.1]at h⊢;exact evalArgs_plain h
theorem a5l{A:Around}{c:Addr}{vs:List Value}{kw:List (Str×Value)}{fs:List Fm}{n:Nat}(h:AOk A fs true (n+1)):AOk (A.under (.builtin "type.__call__" ⟨.ref c::vs,kw⟩)) fs true n:=by
 have e1:(Code.builtin "type.__call__" ⟨.ref c::vs,kw⟩).envs=[]:=rfl;refine⟨?_,h.hz, ?_, ?_⟩
 ·show pushEnvs (Code.builtin "type.__call__" ⟨.ref c::vs,kw⟩).envs A.frames=_
  rw[e1];exact h.frames
 ·have:=h.depth
  have e2:(Code.builtin "type.__call__" ⟨.ref c::vs,kw⟩).weight<=4:=Nat.le_of_ble_eq_true (by kernel_rfl);show A.depth+(Code.builtin "type.__call__" ⟨.ref c::vs,kw⟩).weight+4*n+8<=_;lia
 ·have:=h.units
  have e2:(Code.builtin "type.__call__" ⟨.ref c::vs,kw⟩).cUnits<=50:=Nat.le_of_ble_eq_true (by kernel_rfl);show A.units+(Code.builtin "type.__call__" ⟨.ref c::vs,kw⟩).cUnits+50*n+300<=_;lia
theorem Ctx1.hzOf(c:Ctx1 Pp C A fs n){i:Nat}{l:List AV}{J:H}(hb:C.call i l J≠ .bad):C.hz=true:=by
 cases q:C.hz with
 |true=>rfl
 |false=>exact absurd (c.quiet q i l J) hb
theorem Ctx1.a1(c:Ctx1 Pp C A fs n)(hz:C.hz=true):AOk A fs true (n+1):=hz▸c.a
theorem SP.toC{r:R AV}{Q E:VP}(h:SP Pp G fs hs r Q E):SPc Pp G fs hs r (λr s=>match r with | .ok (.ret v)=>Q v s | .ok _=>False | .error e=>E e s):=by
 cases r<;>exact h
theorem a2o{i:Nat}{args:List AV}{vs:List Value}{Q E:VP}(c:Ctx1 Pp C A fs n)(S:St Pp G fs hs J s)(Vs:VRs Pp G args vs)(h:SP Pp G fs hs (C.call i args J) Q E):
  (∃k,(k=Keeper.frame\/k=Keeper.machine\/k=Keeper.boundFrame)/\Looks Pp.M s.heap (keeperOf (.ref (Pp.D.fnA i))) k)/\wpAny Pp.M A (call (.ref (Pp.D.fnA i)) vs) Q E s:=by
 have hb:C.call i args J≠ .bad:=λe=>by rw[e]at h;exact h
 have hf:=c.fnK _ _ _ hb;have hz':=c.hzOf hb;constructor
 ·unfold fnIn at hf
  cases e:Pp.K.lookup (Pp.D.fnA i)with
  |none=>rw[e]at hf;cases hf
  |some o=>
   rw[e]at hf;obtain⟨oc,od,dd,sl⟩:=o;cases dd with
   |func fd=>exact⟨.frame, .inl rfl,(Looks.ld (part:=none) (S.kin c.X _ _ e)).andThen .now⟩
   |_=>cases hf
 ·have a:=c.a1 hz'
  exact wpAny_call (c.call hz' A G hs J s i args vs _ ⟨a.frames,a.hz,by have:=a.depth;lia,by have:=a.units;lia⟩ S Vs h.toC)
theorem c4u{k:Nat}{args:List AV}{vs:List Value}{hh:Heap}{gg:Array GenState}{d:Drawn}{t:Nat}{os:OsState}(S:St Pp G fs hs J ⟨hh,gg,d,t,os⟩)(Vs:VRs Pp G args vs):
  ∃G',G.le G'/\G'.ρ J.length=some (hh.objs.size+1,hh.objs.size)/\St Pp G' fs hs (J++[.inst k (λ_=> .undef)]) ⟨(hh.push emptyDict).push (instObj (Pp.D.clsA k) hh.objs.size),gg,d,t,os⟩/\
   VRs Pp G' (.obj J.length::args) (.ref (hh.objs.size+1)::vs):=by
 have f1:=S.fresh (a:=hh.objs.size) (Nat.le_refl _);have f2:=S.fresh (a:=hh.objs.size+1) (Nat.le_succ _);have aY:G.ρ J.length=none:=by
  cases q:G.ρ J.length with
  |none=>rfl
  |some p=>exact absurd (S.dom _ _ q) (Nat.lt_irrefl _)
 let oI:Obj:=instObj (Pp.D.clsA k) hh.objs.size
 let G':Gh:=⟨λj=>if j=J.length then some (hh.objs.size+1,hh.objs.size)else G.ρ j,λb=>if b=hh.objs.size then .ob J.length else if b=hh.objs.size+1 then .fz oI else G.own b⟩
 have ne:hh.objs.size+1≠hh.objs.size:=by lia
 have o1:G'.own hh.objs.size= .ob J.length:=if_pos rfl;have o2:G'.own (hh.objs.size+1)= .fz oI:=(if_neg ne).trans (if_pos rfl);have o3: ∀b,b≠hh.objs.size->b≠hh.objs.size+1->G'.own b=G.own b:=λb h1 h2=>(if_neg h1).trans (if_neg h2);have x:G.ext G':=⟨λb hb=>o3 b (λe=>hb (by rw[e];exact f1)) (λe=>hb (by rw[e];exact f2)),λj p hp=>(if_neg λ(e:j=J.length)=>by rw[e,aY]at hp;cases hp).trans hp⟩
 have g1:((hh.push emptyDict).push oI).get? hh.objs.size=some emptyDict:=Heap.get?_push_of_some _ (Heap.get?_push_size _ rfl);have g2:((hh.push emptyDict).push oI).get? (hh.objs.size+1)=some oI:=by
  have:=Heap.get?_push_size (hh.push emptyDict) (o:=oI) rfl;rwa [Heap.size_push]at this
 have S':St Pp G' fs hs (J++[.inst k (λ_=> .undef)]) ⟨(hh.push emptyDict).push oI,gg,d,t,os⟩:=
  S.pushOb (p:=(hh.objs.size+1,hh.objs.size)) x (λj hj=>if_neg hj) (if_pos rfl) (λb hb hb'=>by
   by_cases e1:b=hh.objs.size
   ·subst e1;exact .inl ⟨o1,by show(Heap.get? ((hh.push emptyDict).push oI) _).isSome=true;rw[g1];rfl⟩
   ·by_cases e2:b=hh.objs.size+1
    ·subst e2;exact .inr ⟨_,o2,g2⟩
    ·rw[o3 b e1 e2]at hb';exact absurd hb hb') ⟨rfl,rfl⟩ (λb o _ e=>Heap.get?_push_of_some _ (Heap.get?_push_of_some _ e))
   ⟨o2,o1,λ_=>none,⟨_, #[],0,g1,rfl,(λ_ he=>by simp at he),(by unfold UniqKeys;simp),λ_=>rfl⟩,(λy hy=>absurd rfl hy),FldR.empty⟩
 exact⟨G',x.le,if_pos rfl,S',⟨_,if_pos rfl,rfl⟩,VRs.mono Pp x.le Vs⟩
theorem a4o{G':Gh}{r:R AV}{id:Nat}{p:Addr×Addr}{Q E:VP}(le:G.le G')(aY:G'.ρ id=some p)(h:SP Pp G fs hs (r.bind λr ae=>q6 .bad r (.ok (.obj id) ae)) Q E):
  SPc Pp G' fs hs r (InitBack p.1 λr s=>match r with | .ok (.ret v)=>Q v s | .ok _=>False | .error e=>E e s):=by
 cases r with
 |ok a ae=>
  obtain⟨rfl,h⟩:=(a16 (λr=>SP Pp G fs hs r Q E) h).resolve_right λz=>z;intro aA v s' az av aG;cases aG;exact⟨rfl,h aA _ _ (le.trans az) av ⟨_,az.rho _ _ aY,rfl⟩⟩
 |exc id ae=>exact λaA p s' az av e=>h aA p s' (le.trans az) av e
 |bad=>exact h
theorem c02{k:Nat}{args:List AV}{vs:List Value}{Q E:VP}(c:Ctx1 Pp C A fs n)(T:ClsOk Pp.K Pp.D C.T)(S:St Pp G fs hs J s)(Vs:VRs Pp G args vs)
  (h:SP Pp G fs hs (a6g C (.cls k) args J) Q E)(hk:C.T.isExc k=false):
  (∃k',(k'=Keeper.frame\/k'=Keeper.machine\/k'=Keeper.boundFrame)/\Looks Pp.M s.heap (keeperOf (.ref (Pp.D.clsA k))) k')/\wpAny Pp.M A (call (.ref (Pp.D.clsA k)) vs) Q E s:=by
 replace h:SP Pp G fs hs (g9 .bad (C.T.init k) λi=>(C.call i (.obj J.length::args) (J++[match C.T.isExc k with |true=> .exc k (λ_=> .undef) false |false=> .inst k (λ_=> .undef)])).bind λr ae=>q6 .bad r (.ok (.obj J.length) ae)) Q E:=h;rw[hk]at h;refine h.smk λi hi h=> ?_;obtain⟨I,hm,hin⟩:=T.inst k i hi hk;constructor
 ·obtain⟨kk,a,b⟩:=looks_keep (M:=Pp.M) (T.keep k i hi) (S.kin c.X)
  exact⟨kk,a.elim .inl (λe=> .inr (.inl e)),b⟩
 ·have hb:C.call i (.obj J.length::args) (J++[.inst k (λ_=> .undef)])≠ .bad:=λe=>by
   replace h:SP Pp G fs hs ((C.call i (.obj J.length::args) (J++[.inst k (λ_=> .undef)])).bind λr ae=>q6 .bad r (.ok (.obj J.length) ae)) Q E:=h;rw[e]at h;exact h
  have hz':=c.hzOf hb;obtain⟨hh,gg,d,t,os⟩:=s;refine wpAny_call (make_core (makes_of (S.kin c.X) hm) (looks_findIn (S.kin c.X) hin) (λself=>bind_fn (S.kin c.X) self (beq_iff_eq.mp (T.initFn k i hi))) (.inl rfl) ?_);obtain⟨G',le,aY,S',Va⟩:=c4u (k:=k) S Vs;exact c.call hz' _ G' hs _ _ i _ _ _ (a5l (c.a1 hz')) S' Va (a4o le aY h)
theorem b4h{g:AV}{u:Value}{args:List AV}{vs:List Value}{Q E:VP}(c:Ctx1 Pp C A fs n)(T:ClsOk Pp.K Pp.D C.T)(S:St Pp G fs hs J s)(V:VR Pp G g u)(Vs:VRs Pp G args vs)
  (h:SP Pp G fs hs (a6g C g args J) Q E)
  (hexc: ∀k,g= .cls k->C.T.isExc k=false)(hsort:g≠ .bi .sorted):
  (∃k,(k=Keeper.frame\/k=Keeper.machine\/k=Keeper.boundFrame)/\Looks Pp.M s.heap (keeperOf u) k)/\wpAny Pp.M A (call u vs) Q E s:=by
 have bP:=h;refine b6i (λr=>SP Pp G fs hs r Q E) h (λi q_ h=> ?_) λh=> ?_
 ·subst q_
  cases V;exact a2o c S Vs h
 refine a9g (λr=>SP Pp G fs hs r Q E) h (λb q_ h=> ?_) λh=> ?_
 ·subst q_
  cases V;refine h.whk λhz' h=> ?_;refine⟨⟨.machine, .inr (.inl rfl), ?_⟩,c2h S c.sys (c.a.hz hz') Vs h (λe=>hsort (by rw[e]))⟩;cases b<;>exact Looks.of_pure rfl
 refine a3f (λr=>SP Pp G fs hs r Q E) h (λk q_ h=> ?_) λh=> ?_
 ·subst q_
  cases V;exact c02 c T S Vs bP (hexc k rfl)
 ·exact h.elim
end
end
section
section
variable{Pp:Par}
variable{G G':Gh}{fm:Fm}{fs:List Fm}{hs:Hs}{J:H}{s:Shared}{A:Around}{C:Cx}{n:Nat}
theorem E1{fn:Expr}{as:List Expr}{pos:Pos}{env:Env}(h:a3y fn=true):eval (.Call fn as [] pos) env=(do callWith pos (<-eval fn env) [] (backTo pos (starEach as env)) []):=by
 cases fn<;>first |rfl |cases h
theorem a78{o:Expr}{x:Str}{env:Env}{t:Sem Value}(h:B4 o=true):attributeBase o x env t=t:=by
 unfold attributeBase;cases o<;>first |rfl |cases h
theorem b2q{o:Expr}{x:Str}{pos:Pos}{env:Env}(h:B4 o=true):eval (.Attribute o x pos) env=(do
   let v <-eval o env
   standAt pos.atName
   let r <-holding [v] (getAttr v x true)
   letTemporaryGo o v r
   pure r):=by
 show(do let v <-attributeBase o x env (eval o env);standAt pos.atName;let r <-holding [v] (getAttr v x true);letTemporaryGo o v r;pure r)=_;rw[a78 h]
theorem a2a{o:Expr}{x:Str}{ap pos:Pos}{as:List Expr}{env:Env}(h:B4 o=true)(hs:as.all p5=true)(hl:as.length<=25)(hp:ap.endLine==pos.line):eval (.Call (.Attribute o x ap) as [] pos) env=(do
   let ov <-eval o env
   standAt ap.atName
   let(f,first) <-holding [ov] (getMethod ov x (do return (<-importBound o env).getD true))
   callWith pos f first (backTo pos (starEach as env)) []):=by
 show(do let ov <-attributeBase o x env (eval o env);standAt ap.atName;methodCall o x ap pos env ov (as.length+0) (backTo pos (starEach as env)) [])=_;rw[a78 h];have e:methodCallForm (as.length+0) (backTo pos (starEach as env)) []=true:=by
  unfold methodCallForm;rw[a7e hs];simp;lia
 have e2: ∀b,methodCallPos b o env ap pos=pure pos:=λb=>by
  unfold methodCallPos;rw[if_pos (by rw[hp,Bool.or_true])]
 unfold methodCall;rw[e];simp only [calleeOf,if_true,e2,pure_bind]
theorem a46{x:Nat}{fs:List Fm}{a:AV}{u:Value}{Q E:VP}(c:Ctx1 Pp C A fs n)(T:ClsOk Pp.K Pp.D C.T)
  (hexc: ∀(G:Gh) (hs:Hs) (J:H) (s:Shared) id c f fl p (Q E:VP),St Pp G fs hs J s->J[id]? =some (.exc c f fl)->C.T.fldE c x=true->f x≠ .undef->G.ρ id=some p->
   (∀s' v,St Pp G fs hs J s'->VR Pp G (f x) v->Q v s')->wpAny Pp.M A (getAttr (.ref p.1) (Pp.D.nm x) true) Q E s)
  (S:St Pp G fs hs J s)(V:VR Pp G a u)(h:SP Pp G fs hs (a0n C.T.fld C.T.fldE a x J) Q E):wpAny Pp.M A (getAttr u (Pp.D.nm x) true) Q E s:=by
 refine u0 (λr=>SP Pp G fs hs r Q E) h (λid q_ h=> ?_) λh=> ?_
 ·subst q_
  obtain⟨p,hp,rfl⟩:=V;refine b6p (λr=>SP Pp G fs hs r Q E) h (λcc f hid h=> ?_) λh=> ?_
  ·refine h.whk λhf h=> ?_
   refine h.dfdk λhu h=> ?_;obtain⟨I,hfi⟩:=T.fld cc x hf;exact c4y S c.X I hfi hid hp hu λv V=>h G _ _ (.refl _) (S.toks _) V
  refine b0z (λr=>SP Pp G fs hs r Q E) h (λcc f fl hid h=> ?_) λh=> ?_
  ·refine h.whk λhf h=> ?_
   refine h.dfdk λhu h=> ?_;exact hexc G hs J s id cc f fl p Q E S hid hf hu hp λs' v S' V=>h G _ _ (.refl _) S' V
  ·exact h.elim
 ·exact h.elim
theorem c3z{o:ME}{x:Nat}{ob:Expr}{pos}(c:Ctx1 Pp C A (fm::fs) n)(T:ClsOk Pp.K Pp.D C.T)(ho:c7 Pp C A fm fs o ob)(hn:B4 ob=true)
  (hexc: ∀(G:Gh) (hs:Hs) (J:H) (s:Shared) id c f fl p (Q E:VP),St Pp G (fm::fs) hs J s->J[id]? =some (.exc c f fl)->C.T.fldE c x=true->f x≠ .undef->G.ρ id=some p->
   (∀s' v,St Pp G (fm::fs) hs J s'->VR Pp G (f x) v->Q v s')->wpAny Pp.M A (getAttr (.ref p.1) (Pp.D.nm x) true) Q E s):
  c7 Pp C A fm fs (.attr o x) (.Attribute ob (Pp.D.nm x) pos):=λG hs J s Q E S h=>by
 rw[b2q hn];exact wpAny_bind (ho G hs J s _ E S (h.bind λa af ak u au _ aC am ay aj=>wpAny_bind (wpAny_standAt (wpAny_bind (wpAny_holding (wpAny_mono (Q:=Q) (E:=E) (a46 c T hexc am ay aj) (λr aD hr=>wpAny_bind (wpAny_letTemporaryGo (wpAny_pure hr))) λ_ _ e=>e))))))
theorem c2n{o:ME}{x:Nat}{args:MEs}{ob:Expr}{as:List Expr}{ap pos}(c:Ctx1 Pp C A (fm::fs) n)(T:ClsOk Pp.K Pp.D C.T)(ho:c7 Pp C A fm fs o ob)(ha:F5 Pp C A fm fs args as)
  (hn:B4 ob=true)(hs':as.all p5=true)(hl:as.length<=25)(hp:ap.endLine==pos.line):c7 Pp C A fm fs (.meth o x args) (.Call (.Attribute ob (Pp.D.nm x) ap) as [] pos):=λG hs J s Q E S h=>by
 rw[a2a hn hs' hl hp];refine wpAny_bind (ho G hs J s _ E S (h.bind λa af ak u au _ aC am ay aj=>wpAny_bind (wpAny_standAt (wpAny_bind (wpAny_holding ?_)))));clear h S;refine u0 (λr=>SP Pp ak (fm::fs) hs r Q E) aj (λid q_ h=> ?_) λh=> ?_
 ·subst q_
  obtain⟨p,hp',rfl⟩:=ay;refine b6p (λr=>SP Pp ak (fm::fs) hs r Q E) h (λcc f hid h=> ?_) λh=> ?_
  ·refine h.smk λi hm h=> ?_
   refine h.whk λhu h=> ?_;obtain⟨ex,I,hfi,hfn⟩:=T.meth cc x i hm;refine c05 am c.X I hfi hfn hid hp' (b5k hu) (J2 hs' (ha ak hs af au pos _ E am (h.bindS λvs ax aA us aD bC az av aG aK=> ?_)));exact a2o (args:= .obj id::vs) (vs:= .ref p.1::us) c av ⟨⟨_,az.rho _ _ hp',rfl⟩,aG⟩ aK
  ·refine h.smk λb hb h=> ?_
   refine b2h c.nm am hp' hb (J2 hs' (ha ak hs af au pos _ E am (h.bindS λvs ax aA us aD bC az av aG aK=>⟨⟨.machine, .inr (.inl rfl),Looks.of_pure rfl⟩, ?_⟩)));refine aK.whk λe aK=> ?_;exact b3x av c.sys (by have:=c.a.units;lia) (az.rho _ _ hp') (eq_of_beq e) aG aK
 ·exact h.elim
end
end
section
section
variable{Pp:Par}
variable{G G':Gh}{fm:Fm}{fs:List Fm}{hs:Hs}{J:H}{s:Shared}{A:Around}{C:Cx}{n:Nat}
def Tru(Pp:Par)(A:Around)(Q:Bool->Shared->Prop)(E:VP)(v:Value)(s:Shared):Prop:=wpAny Pp.M A (truthy v) Q E s/\(v= .bool false->Q false s)
theorem SPb.tru{r:R AV}{Q:Bool->Shared->Prop}{E:VP}(h:SPb Pp G fs hs r.tru Q E):SP Pp G fs hs r (Tru Pp A Q E) E:=
 h.bind1 λa af ak u au _ aC am ay aj=>by
  refine j5 (λr=>SPb Pp ak fs hs r Q E) aj (λb hb aj=> ?_) λz_=>absurd z_ (id);refine⟨a0y ay hb (aj ak _ (.refl _) am),λe=> ?_⟩;subst e;refine n6 (λr=>r=some b) hb (λk q_ e=> ?_) λe=> ?_
  ·subst q_
   cases ay;cases e;exact aj ak _ (.refl _) am
  refine n3 (λr=>r=some b) e (λk q_ e=> ?_) λe=> ?_
  ·subst q_
   obtain⟨t,ay⟩:=ay;cases ay
  refine P6 (λr=>r=some b) e (λq_ e=> ?_) λe=> ?_
  ·subst q_
   cases ay
  ·cases e
theorem Tru.ask{Q:Bool->Shared->Prop}{E:VP}{x:Sem Value}(h:wpAny Pp.M A x (Tru Pp A Q E) E s):wpAny Pp.M A x (λv s=>wpAny Pp.M A (truthy v) Q E s) E s:=wpAny_mono h (λ_ _ h=>h.1) λ_ _ h=>h
theorem cu{A:Around}{n:Nat}(h:A.units+50*(n+1)+300<=cLine):A.units+70<cLine:=by lia
theorem c8m{op:COp}{a b:ME}{l r:Expr}{pos}(c:Ctx1 Pp C A (fm::fs) n)(ha:c7 Pp C A fm fs a l)(hb:c7 Pp C A fm fs b r)(hm:behindInMarks op r=false):
  G0 Pp C A fm fs (.of (.cmp op a b)) (.Compare l [op] [r] pos):=λG hs J s Q E S h=>
 wpAny_isTrue_Compare1 (ha G hs J s _ E S ((SPb.tru (A:=A) h).bind λx af ak u au _ aC am ay aj=>hb ak hs af au _ E am (aj.bind λy ax aA v aD _ az av aG aI=>
  Tru.ask (s2 av c.sys (cu c.a.units) (ay.mono Pp az) aG aI)))) hm
theorem b63{aO aT:COp}{a b e:ME}{l aW aU:Expr}{pos}(c:Ctx1 Pp C A (fm::fs) n)(ha:c7 Pp C A fm fs a l)(hb:c7 Pp C A fm fs b aW)(he:c7 Pp C A fm fs e aU)
  (hm:lastMarks [aO,aT] [aW,aU]=false):c7 Pp C A fm fs (.chain a aO b aT e) (.Compare l [aO,aT] [aW,aU] pos):=λG hs J s Q E S h=>by
 refine Compare_chain (rs:=[]) (ha G hs J s _ E S (h.bind λx af ak u au _ aC am ay aj=>chain_link (hb ak hs af au _ E am (aj.bind λy ax aA v aD _ az av aG aI=>
  s2 av c.sys (cu c.a.units) (ay.mono Pp az) aG (aI.bind λz aZ aM k aL _ aE aH be aK=> ?_))))) hm
 clear h S;refine n6 (λr=>SP Pp aM (fm::fs) hs r Q E) aK (λb q_ h=> ?_) λh=> ?_
 ·subst q_
  cases be;refine wpAny_truthy_bool ?_;cases b with
  |true=>
   rw[if_pos rfl];exact chain_last (he aM hs aZ aL _ E aH (h.bind λz bf ba k aV _ aS aR bg bp=>s2 aR c.sys (cu c.a.units) (aG.mono Pp (aE.trans aS)) bg bp))
  |false=>
   rw[if_neg (by decide)];exact h _ _ _ (.refl _) aH rfl
 ·exact h.elim
theorem b7l{aO aT:COp}{a b e:ME}{l aW aU:Expr}{pos}(c:Ctx1 Pp C A (fm::fs) n)(ha:c7 Pp C A fm fs a l)(hb:c7 Pp C A fm fs b aW)(he:c7 Pp C A fm fs e aU)
  (hm:lastMarks [aO,aT] [aW,aU]=false):G0 Pp C A fm fs (.of (.chain a aO b aT e)) (.Compare l [aO,aT] [aW,aU] pos):=λG hs J s Q E S h=>by
 refine isTrue_chain (rs:=[]) (ha G hs J s _ E S ((SPb.tru (A:=A) h).bind λx af ak u au _ aC am ay aj=>test_link (hb ak hs af au _ E am (aj.bind λy ax aA v aD _ az av aG aI=>
  s2 av c.sys (cu c.a.units) (ay.mono Pp az) aG (aI.bind λz aZ aM k aL _ aE aH be aK=> ?_))))) hm
 clear h S;refine n6 (λr=>SP Pp aM (fm::fs) hs r (Tru Pp A Q E) E) aK (λb q_ h=> ?_) λh=> ?_
 ·subst q_
  cases be;refine wpAny_truthy_bool ?_;cases b with
  |true=>
   rw[if_pos rfl];exact test_last (he aM hs aZ aL _ E aH (h.bind λz bf ba k aV _ aS aR bg bp=>Tru.ask (s2 aR c.sys (cu c.a.units) (aG.mono Pp (aE.trans aS)) bg bp)))
  |false=>
   rw[if_neg (by decide)];exact(h _ _ _ (.refl _) aH rfl).2 rfl
 ·exact h.elim
theorem b2y{aO aT bH:COp}{a b e d:ME}{l aW aU bI:Expr}{pos}(c:Ctx1 Pp C A (fm::fs) n)(ha:c7 Pp C A fm fs a l)(hb:c7 Pp C A fm fs b aW)(he:c7 Pp C A fm fs e aU)(hd:c7 Pp C A fm fs d bI)
  (hm:lastMarks [aO,aT,bH] [aW,aU,bI]=false):G0 Pp C A fm fs (.chain3 a aO b aT e bH d) (.Compare l [aO,aT,bH] [aW,aU,bI] pos):=λG hs J s Q E S h=>by
 refine isTrue_chain (rs:=[bI]) (ha G hs J s _ E S (h.bind1 λx af ak u au _ aC am ay aj=>test_link (hb ak hs af au _ E am (aj.bind1 λy ax aA v aD _ az av aG aI=>
  s2 av c.sys (cu c.a.units) (ay.mono Pp az) aG (aI.bind1 λz aZ aM k aL _ aE aH be aK=> ?_))))) hm
 clear h S;refine n6 (λr=>SPb Pp aM (fm::fs) hs r Q E) aK (λb q_ h=> ?_) λh=> ?_
 ·subst q_
  cases be;refine wpAny_truthy_bool ?_;cases b with
  |true=>
   rw[if_pos rfl];refine test_link (he aM hs aZ aL _ E aH (h.bind1 λz bf ba k aV _ aS aR bg bp=>s2 aR c.sys (cu c.a.units) (aG.mono Pp (aE.trans aS)) bg (bp.bind1 λz bw bD k bq _ bK bv cv dy=> ?_)));refine n6 (λr=>SPb Pp bD (fm::fs) hs r Q E) dy (λb q_ h=> ?_) λh=> ?_
   ·subst q_
    cases cv;refine wpAny_truthy_bool ?_;cases b with
    |true=>
     rw[if_pos rfl];refine test_last (hd bD hs bw bq _ E bv (h.bind1 λz bV cQ k dz _ bZ bJ cw dA=>s2 bJ c.sys (cu c.a.units) (bg.mono Pp (bK.trans bZ)) cw (dA.bind1 λz dQ dB k dS _ dR dC dD dE=> ?_)));refine n6 (λr=>SPb Pp dB (fm::fs) hs r Q E) dE (λb q_ h=> ?_) λz_=>absurd z_ (id);subst q_;cases dD;exact wpAny_truthy_bool (h _ _ (.refl _) dC)
    |false=>
     rw[if_neg (by decide)];exact h _ _ (.refl _) bv
   ·exact h.elim
  |false=>
   rw[if_neg (by decide)];exact h _ _ (.refl _) aH
 ·exact h.elim
end
end
section
section
variable{Pp:Par}
variable{G G':Gh}{fm:Fm}{fs:List Fm}{hs:Hs}{J:H}{s:Shared}{A:Around}{C:Cx}{n:Nat}
theorem Z3{value:Expr}{lo hi st:Option Expr}{p pos:Pos}{env:Env}{Q E:VP}
  (h:wpAny Pp.M A (eval value env) (λo au=>wpAny Pp.M A (evalPart lo env) (λl aD=>wpAny Pp.M A (evalPart hi env) (λu aL=>wpAny Pp.M A (evalPart st env) (λv aV=>
   a17 Pp.prog Pp.w A o (.ref aV.heap.objs.size) Q E { aV with heap:=aV.heap.push { cls:= .type "slice",data:= .fields #[l,u,v] } }) E aL) E aD) E au) E s):
  wpAny Pp.M A (eval (.Subscript value (.Slice lo hi st p) pos) env) Q E s:=by
 rw[eval_Subscript];refine wpAny_bind (wpAny_mono h (λo au aj=>wpAny_bind (wpAny_holding (wpAny_mono (wpAny_Slice (Q:=λi bq=>a17 Pp.prog Pp.w A o i Q E bq) aj) (λi aD aI=>wpAny_bind (wpAny_standAt ?_)) λ_ _ x=>x))) λ_ _ x=>x);obtain⟨T,id,hT,hl,hg⟩:=aI;have fin: ∀vs,wpAny Pp.M A (operate vs (getItem o i)) (λr aL=>wpAny Pp.M A (letTemporaryGo value o r>>=λ_=>pure r) Q E aL) E aD:=λvs=>
  wpAny_operating (wpAny_mono hg (λr aL aK=>wpAny_bind (wpAny_letTemporaryGo (wpAny_pure aK))) λ_ _ x=>x)
 refine wpAny_bind ?_;rw[getitemInPython_of_ne hT.not_modules];refine wpAny_bind (wpAny_specialOf hT hl ?_);cases st
 ·exact wpAny_pure (wpAny_bind (fin _))
 ·exact wpAny_pure (wpAny_bind (fin _))
theorem VR.ints(G:Gh): ∀{vs:List Value}{l:List Int},IntsAre vs l->VRs Pp G (l.map .int) vs
 |_,_, .nil=>trivial
 |_,_, .cons n t h=>⟨⟨t,rfl⟩,VR.ints G h⟩
theorem a8w{o hi:ME}{ob bP:Expr}{p pos}(c:Ctx1 Pp C A (fm::fs) n)(ho:c7 Pp C A fm fs o ob)(hh:c7 Pp C A fm fs hi bP):
  c7 Pp C A fm fs (.sliceTo o hi) (.Subscript ob (.Slice none (some bP) none p) pos):=λG hs J s Q E S h=>by
 refine Z3 (ho G hs J s _ E S (h.bind λx af ak u au br aC am ay aj=> ?_));clear br;simp only [evalPart_none,evalPart_some];refine wpAny_pure (hh ak hs af au _ E am (aj.bind λy ax aA v aD bC az av aG aI=>wpAny_pure ?_));clear bC;have bx:=ay.mono Pp az;have up:=av.push { cls:= .type "slice",data:= .fields #[.none,v, .none] } aD.toks;have sl:=Heap.IsSliceOf.new aD.heap .none v .none;clear h aj;refine n3 (λr=>SP Pp aA (fm::fs) hs r Q E) aI (λk q_ h=> ?_) λh=> ?_
 ·subst q_
  refine a8 λp_ ah=> ?_;replace h:=h.wh;obtain⟨hc,h⟩:=h;obtain⟨k,rfl⟩: ∃k':Nat,k=k':=⟨k.toNat,by have:=q7 hc;lia⟩
  obtain⟨t,rfl⟩:=aG;refine ah ?_;refine y3 (λr=>SP Pp aA (fm::fs) hs r Q E) h (λq q_ h=> ?_) λh=> ?_
  ·subst q_
   refine a8 λp_ ah=> ?_;replace h:=h.wh;obtain⟨hz,h⟩:=h;have hz:q.length<=1000000:=q7 hz;rw[Int.toNat_natCast]at h;obtain⟨a,vs,m,rfl,e1,e2⟩:=bx;refine ah ?_;refine⟨"list",_,⟨_,p6 up e1,rfl⟩,Q8,wpAny_getItem_list_slice (p6 up e1).isList sl .none (.int k t) .none (by simp) ?_ (by
    have:=e2.length;show vs.length<=sizeLine;rw[sizeLine_eq];lia)⟩
   rw[slicePick_upto'];exact h _ _ _ up.alloc_le (up.alloc rfl _) (VR.newLst up (e2.take k))
  refine b1f (λr=>SP Pp aA (fm::fs) hs r Q E) h (λq q_ h=> ?_) λh=> ?_
  ·subst q_
   refine a8 λp_ ah=> ?_;replace h:=h.wh;obtain⟨hz,h⟩:=h;have hz:q.length<=1000000:=q7 hz;rw[Int.toNat_natCast]at h;obtain⟨a,o,vs,m,rfl,e1,e2,e3,e4⟩:=bx;refine ah ?_;refine⟨"list",_,⟨_,up.fz _ _ e1,e2⟩,Q8,wpAny_getItem_list_slice ⟨_,up.fz _ _ e1,e2,m,e3⟩ sl .none (.int k t) .none (by simp) ?_ (by
    have:=e4.length;show vs.length<=sizeLine;rw[sizeLine_eq];lia)⟩
   rw[slicePick_upto'];exact h _ _ _ up.alloc_le (up.alloc rfl _) (VR.newLst up (VR.ints _ (e4.take k)))
  ·exact h.elim
 ·exact h.elim
theorem a1s(b:Array UInt8)(lo hi:Nat)(h:lo<=hi):(KBy.picked b (some (lo:Int)) (some (hi:Int))).toList=(b.toList.drop lo).take (hi-lo):=by
 rw[KBc.picked_eq];simp only [Option.elim,clipAt_nat];rcases Nat.le_total lo b.size with h1 |h1
 ·rw[Nat.min_eq_left h1]
  rcases Nat.le_total hi b.size with h2 |h2
  ·rw[Nat.min_eq_left h2]
  ·rw[Nat.min_eq_right h2,List.take_of_length_le (by simp),List.take_of_length_le (by rw[List.length_drop,Array.length_toList];lia)]
 ·rw[Nat.min_eq_right h1,List.drop_of_length_le (by simp),List.drop_of_length_le (by simpa using h1)];simp
theorem b2s{o lo hi:ME}{ob aN bP:Expr}{p pos}(c:Ctx1 Pp C A (fm::fs) n)(ho:c7 Pp C A fm fs o ob)(hl:c7 Pp C A fm fs lo aN)(hh:c7 Pp C A fm fs hi bP):
  c7 Pp C A fm fs (.slice2 o lo hi) (.Subscript ob (.Slice (some aN) (some bP) none p) pos):=λG hs J s Q E S h=>by
 refine Z3 (ho G hs J s _ E S (h.bind λx af ak u au br aC am ay aj=> ?_));clear br;simp only [evalPart_none,evalPart_some];refine hl ak hs af au _ E am (aj.bind λy ax aA v aD bC az av aG aI=>hh aA hs ax aD _ E av (aI.bind λz aZ aM cR aL dF aE aH be aK=>wpAny_pure ?_));clear bC dF;have bx:=ay.mono Pp (az.trans aE);have cZ:=aG.mono Pp aE;clear h aj aI;refine A6 (λr=>SP Pp aM (fm::fs) hs r Q E) aK (λq q_ h=> ?_) λh=> ?_
 ·subst q_
  replace h:=h.int;rcases h with ⟨k,rfl,h⟩ |h
  ·replace h:=h.int;rcases h with ⟨m,rfl,h⟩ |h
   ·refine h.whk λhc h=> ?_
    refine a8 λp_ ah=> ?_;obtain⟨hc,z3⟩:=an hc;obtain⟨z1,z2⟩:=an hc;have z1:=q7 z1;have z2:=q7 z2;have z3:q.length<=1000000:=q7 z3;obtain⟨k,rfl⟩: ∃k':Nat,k=k':=⟨k.toNat,by lia⟩
    obtain⟨m,rfl⟩: ∃k':Nat,m=k':=⟨m.toNat,by lia⟩
    rw[Int.toNat_natCast]at h;obtain⟨b,t,rfl,e1⟩:=bx;obtain⟨bN,rfl⟩:=cZ;obtain⟨bY,rfl⟩:=be;have up:=aH.push { cls:= .type "slice",data:= .fields #[.int k bN, .int m bY, .none] } aL.toks;have hb:b.size=q.length:=by rw[<-e1,List.length_map,Array.length_toList]
    refine ah ?_;refine⟨"bytes",_,typeIs_bytes _ _ _,FB.slot_bytes_getitem.lookup,PySem.getItem_meets (typeIs_bytes _ _ _) (by decide) FB.slot_bytes_getitem FB.entry_bytes_getitem (FB.args_bytes_getitem_2 _ _) (KBc.meets_slice2 b t _ (.int k bN) (.int m bY))
     ⟨Heap.IsSliceOf.new _ _ _ _,Nat.le_trans (KBc.size_picked_le b _ _) (by rw[sizeLine_eq];lia),λt' j=> ?_⟩⟩
    refine h aM _ _ (.refl _) (up.toks j) ⟨_,_,rfl, ?_⟩;rw[a1s _ _ _ (by lia),List.map_take,List.map_drop,e1];congr 1;lia
   ·exact h.elim
  ·exact h.elim
 ·exact h.elim
end
section
open Builtin Lean Elab PySem.Spec
theorem a0d(b:Array UInt8):(Bytes.sliced b ((b.size:Int)-1) (-1) (-1)).toList=b.toList.reverse:=by
 unfold Bytes.sliced;rw[krv_sliceRange,krv_range,List.filterMap_reverse,krv_all]
theorem b2a(b:Array UInt8)(t bN:Tok)(a:Addr):
  Meets («bytes.__getitem__» ⟨[.bytes b t, .ref a],[]⟩) (λ_ R s=>s.heap.IsSliceOf a .none .none (.int (-1) bN)/\b.size<=sizeLine/\ ∀t' k,R (.ok (.ret (.bytes (Bytes.sliced b ((b.size:Int)-1) (-1) (-1)) t'))) { s with toks:=k }):=by
 refine .of_wp λprog w A R s hS=> ?_;refine a8 λp_ ah=> ?_;obtain⟨⟨o,ho,hc,hd⟩,hsz,h⟩:=hS;have hT:s.TypeIs (.ref a) "slice" :=⟨o,ho,hc⟩
 refine ah ?_;show wpAny _ _ (Bytes.payload (.bytes b t)>>=λr=>_) _ _ s;refine wpAny_bind (wpAny_of_eq (a:=b) rfl ?_);show wpAny _ _ (Bytes.subscript? (.ref a)>>=λr=>_) _ _ s;refine wpAny_bind ?_;unfold Bytes.subscript?;refine wpAny_bind (wpAny_specialOf hT slice_no_index (wpAny_pure ?_));refine wpAny_bind (wpAny_typeOf hT ?_);show wpAny _ _ (Bytes.sliceParts (.ref a)>>=λr=>_) _ _ s;refine wpAny_bind ?_;unfold Bytes.sliceParts;refine wpAny_bind (wpAny_field (x:= .int (-1) bN) ho hd rfl ?_)
 kby_int
 refine wpAny_ite (KBy.ite_no (show ¬((rawInt (-1)==rawInt 0)=true)from Bool.false_ne_true) ?_);refine wpAny_bind (wpAny_field (x:= .none) ho hd rfl ?_)
 kby_none
 refine wpAny_bind (wpAny_field (x:= .none) ho hd rfl ?_)
 kby_none
 refine wpAny_pure ?_;refine wpAny_bind (wpAny_of_eq (sliceIndices_raw none none (some (-1)) b.size (by decide)) ?_);rw[krv_bounds];refine wpAny_ite (KBy.ite_no (by simp) ?_);refine wpAny_bind (wpAny_mkBytes (wpAny_pure ⟨_,rfl,h _ _⟩) ?_);have:=congrArg List.length (a0d b);rw[List.length_reverse,Array.length_toList,Array.length_toList]at this;rw[this];exact hsz
end
section
variable{Pp:Par}
variable{G G':Gh}{fm:Fm}{fs:List Fm}{hs:Hs}{J:H}{s:Shared}{A:Around}{C:Cx}{n:Nat}
theorem d0d{o:ME}{ob:Expr}{kk bk bn p pos}(c:Ctx1 Pp C A (fm::fs) n)(ho:c7 Pp C A fm fs o ob):
  c7 Pp C A fm fs (.rev o) (.Subscript ob (.Slice none none (some (.UnaryOp .USub (.Constant (.int 1) kk bk) bn)) p) pos):=λG hs J s Q E S h=>by
 refine Z3 (ho G hs J s _ E S (h.bind λx af ak u au br aC am ay aj=> ?_));clear br;simp only [evalPart_none,evalPart_some];refine wpAny_pure (wpAny_pure (wpAny_UnaryOp (wpAny_Constant_int (PyProof.Rows.neg_int ?_))));clear h;refine A6 (λr=>SP Pp ak (fm::fs) hs r Q E) aj (λq q_ h=> ?_) λh=> ?_
 ·subst q_
  refine a8 λp_ ah=> ?_;replace h:=h.wh;obtain⟨hc,h⟩:=h;have hc:q.length<=1000000:=q7 hc;obtain⟨b,t,rfl,e1⟩:=ay;have hb:b.size=q.length:=by rw[<-e1,List.length_map,Array.length_toList]
  refine ah ?_;refine⟨"bytes",_,typeIs_bytes _ _ _,FB.slot_bytes_getitem.lookup,PySem.getItem_meets (typeIs_bytes _ _ _) (by decide) FB.slot_bytes_getitem FB.entry_bytes_getitem (FB.args_bytes_getitem_2 _ _) (b2a b t _ _)
   ⟨Heap.IsSliceOf.new _ _ _ _,by rw[sizeLine_eq];lia,λt' j=> ?_⟩⟩
  refine h ak _ _ (.refl _) ((am.push _ _).toks j) ⟨_,_,rfl, ?_⟩;rw[a0d,List.map_reverse,e1]
 ·exact h.elim
end
end
end
section
open PySem PySem.W PyProof.Rows PySem.Calls
open Builtin Builtin.Int
section
noncomputable def b72:Builtin.Float.FormatSpec:={ align:=62,type:=some 120 }
noncomputable def c9r(a:Int):Str:=intField' b72 (decide (a<0)) [] ((Nat.toDigits 16 a.natAbs).map λc=>(if(120:Nat)==88 then c.toUpper else c).toNat) [] 4
theorem c69{a:Int}(h:a.natAbs<2^60):(c9r a).length<=100:=by
 have hd:(Nat.toDigits 16 a.natAbs).length<=15:=(Nat.length_toDigits_le_iff (by decide) (by decide)).mpr (Nat.lt_of_lt_of_le h (by decide));have hp:0<(Nat.toDigits 16 a.natAbs).length:=Nat.length_toDigits_pos;unfold c9r;rw[intField'_length_plain b72 _ _ 4 rfl rfl (by cases q:Nat.toDigits 16 a.natAbs with
  |nil=>rw[q]at hp;cases hp
  |cons=>rfl),show b72.width=none from rfl,List.length_map]
 cases decide (a<0)<;>simp<;>lia
theorem c9d(a:Int)(t u:Tok):Builtin.«int.__format__» ⟨[.int a t, .str (Str.ofString "x") u],[]⟩=(typeNameOf (.str (Str.ofString "x") u)>>=λ_=>typeNameOfCut 200 (.int a t)>>=λ_=>retStr (c9r a)):=by kernel_rfl
section
variable{prog:Program}{w:World}{A:Around}{E:VP}{s:Shared}
theorem V3{a:Int}{t:Tok}{Q:VP}(hlt:a.natAbs<2^60)(h: ∀y t' k,y.length<=100->Q (.str y t') { s with toks:=k }):
  wpAny (model prog w) A (formatField (.int a t) (Str.ofString "x")) Q E s:=by
 show wpAny _ _ (holding [.int a t] (pyFormat (.int a t) (Str.ofString "x"))) Q E s;refine wpAny_holding ?_;unfold pyFormat;refine wpAny_bind (wpAny_mkStr ?_ (by decide));refine wpAny_bind (m:=callSpecial? (.int a t) (Str.ofString "__format__") [.str (Str.ofString "x") s.toks]) (wpAny_callSpecial?_slot (name:=Str.ofString "__format__") (typeIs_int _ a t) PyProof.Rows.slot_int_format ?_);refine wpAny_call (codeAny_call_builtin PyProof.Rows.slot_int_format.plain PyProof.Rows.entry_int_format (PyProof.Rows.slot_int_format.check _ _ _ _ _ _ _ _ (typeIs_int _ a t) (PyProof.Rows.args_int_format _ _) ?_));rw[c9d];refine wpAny_bind (wpAny_typeNameOf (T:= "str") (typeIs_str _ _ _) (by decide) λ_=> ?_);refine wpAny_bind (wpAny_typeNameOfCut_int ?_);unfold retStr;have hl:=c69 hlt;refine wpAny_bind (wpAny_mkStr (wpAny_pure ?_) (Nat.le_trans hl (by rw[sizeLine_eq];decide)));exact wpAny_bind (wpAny_isInstance (typeIs_str _ _ _) isSubtype_str_str (wpAny_pure (h _ _ _ hl)))
theorem a1y{a:Int}(h:a.natAbs<2^60):a.natAbs.log2<60:=by
 by_cases q:a.natAbs=0
 ·rw[q];decide
 ·exact(Nat.log2_lt q).mpr h
theorem U5{a:Int}{t:Tok}{Q:VP}(hlt:a.natAbs<2^60)(h: ∀y t' k,y.length<=100->Q (.str y t') { s with toks:=k }):
  wpAny (model prog w) A (formatField (.int a t) Str.empty) Q E s:=
 wpAny_formatField_int (Nat.lt_trans (a1y hlt) (by decide)) (h _ _ _ (by
  have e:=int_text_length_le (a:=a) (k:=60) (by decide) (a1y hlt);show(Str.ofString (toString a)).length<=100;rw[PySem.ofString_length];lia))
end
section
variable{Pp:Par}
variable{G G':Gh}{fm:Fm}{fs:List Fm}{hs:Hs}{J:H}{s:Shared}{A:Around}{C:Cx}{n:Nat}
def JP(prog:Program)(w:World)(A:Around)(E:VP)(env:Env)(parts:List Expr)(acc:Str)(Q:VP)(s:Shared):Prop:=
 Joins (model prog w) A E (evalEach parts env) acc (λout au=>out.length<=sizeLine/\Q (.str out au.toks) { au with toks:=au.toks+1 }) s
variable(Pp) in
def a21(C:Cx)(A:Around)(fm:Fm)(fs:List Fm)(es:MEs)(parts:List Expr):Prop:=
 ∀(G:Gh)(hs:Hs)(J:H)(s:Shared)(acc:Str)(Q E:VP),acc.length+100*parts.length<=10000->St Pp G (fm::fs) hs J s->
  SP Pp G (fm::fs) hs (fstrE C fm.loc es J) Q E->JP Pp.prog Pp.w A E fm.env parts acc Q s
theorem X8(a b:Str):(a++b).length=a.length+b.length:=Str.length_append a b
theorem a44{es:MEs}{y:Str}{kk pos}{q:List Expr}(hy:y.length<=100)(h:a21 Pp C A fm fs es q):a21 Pp C A fm fs es (.Constant (.str y) kk pos::q):=λG hs J s acc Q E hl S hp=>by
 show wpAny _ _ _ _ _ _;refine wpAny_Constant_str ⟨y,_,rfl, ?_,h G hs J _ (acc++y) Q E ?_ (S.toks _) hp⟩
 ·rw[X8,sizeLine_eq];rw[List.length_cons]at hl;lia
 ·rw[X8];rw[List.length_cons]at hl;lia
theorem c8r:a21 Pp C A fm fs .nil []:=λG hs J s acc Q E hl S hp=>by
 exact⟨by rw[sizeLine_eq];lia,hp G _ _ (.refl _) (S.toks _) ⟨_,_,rfl⟩⟩
theorem c8v{e:ME}{r:MEs}{v:Expr}{sp:Option Expr}{pos}{q:List Expr}(he:c7 Pp C A fm fs e v)(hsp:sp=none\/ ∃kk p p',sp=some (.JoinedStr [.Constant (.str "x") kk p] p'))(h:a21 Pp C A fm fs r q):
  a21 Pp C A fm fs (.cons e r) (.FormattedValue v (-1) sp pos::q):=λG hs J s acc Q E hl S hp=>by
 show wpAny _ _ _ _ _ _;rw[List.length_cons]at hl;have fin: ∀ak af u au a,St Pp ak (fm::fs) hs af au->VR Pp ak a u->SP Pp ak (fm::fs) hs (d8 .bad a λn=>c6 .bad (small n) (fstrE C fm.loc r af)) Q E->
   ∃n t,u= .int n t/\n.natAbs<2^60/\ ∀y t' k,y.length<=100-> ∃y' t'',(Value.str y t')= .str y' t''/\(acc++y').length<=sizeLine/\JP Pp.prog Pp.w A E fm.env q (acc++y') Q { au with toks:=k }:=λak af u au a am ay aj=>by
  obtain⟨n,rfl,aj⟩:=aj.int.resolve_right id;obtain⟨t,rfl⟩:=ay;refine aj.whk λhn aj=> ?_;refine⟨n,t,rfl,of_decide_eq_true hn,λy t' k hy=>⟨y,t',rfl, ?_,h ak hs af _ _ Q E ?_ (am.toks _) aj⟩⟩
  ·rw[X8,sizeLine_eq];lia
  ·rw[X8];lia
 rcases hsp with rfl |⟨kk,p,p',rfl⟩
 ·refine wpAny_FormattedValue_plain (he G hs J s _ E S (hp.bind λa af ak u au br aC am ay aj=> ?_))
  refine a8 λp_ ah=> ?_;obtain⟨n,t,rfl,hn,k⟩:=fin ak af u au a am ay aj;refine ah ?_;exact U5 hn k
 ·refine wpAny_FormattedValue_spec (he G hs J s _ E S (hp.bind λa af ak u au br aC am ay aj=> ?_))
  refine a8 λp_ ah=> ?_;obtain⟨n,t,rfl,hn,k⟩:=fin ak af u au a am ay aj;refine ah ?_;refine wpAny_JoinedStr_one (wpAny_Constant_str ⟨_,_,rfl,V3 hn λy t' k' hy=>k y t' k' hy⟩)
theorem c38{es:MEs}{parts:List Expr}{pos}(h:a21 Pp C A fm fs es parts)(h2:2<=parts.length)(h3:parts.length<=100):c7 Pp C A fm fs (.fstr es) (.JoinedStr parts pos):=λG hs J s Q E S hp=>by
 match parts,h2 with
 |dG::cx::aa,_=>exact wpAny_JoinedStr (h G hs J s Str.empty Q E (by rw[show Str.empty.length=0 from rfl];lia) S hp)
end
end
end
section
open PySem PySem.W PyProof.Rows PySem.Calls
section
section
variable{prog:Program}{w:World}{A:Around}{E:VP}{s:Shared}
theorem b1v{it d:Addr}{i ep:Nat}{es:Array DictEntry}{od:Obj}{Q:Option Value->Shared->Prop}(hit:s.heap.IsKeyIter it d i es.size ep)(hod:s.heap.get? d=some od)(hdd:od.data= .dict es ep)
  (hQ:match es[i]? with
   |some e=> ∀h',h'.IsKeyIter it d (i+1) es.size ep->Heap.SameBut it s.heap h'->Q (some e.key) { s with heap:=h' }
   |none=>A.handled=none/\ ∀h',Heap.ExtBut it s.heap h'->Q none { s with heap:=h' }):wpAny (model prog w) A (pyNext (.ref it)) Q E s:=by
 have T:=hit.typeIs;obtain⟨o,ho,hc,hd⟩:=id hit;unfold pyNext;refine wpAny_bind (wpAny_attempt (wpAny_callSpecial?_slot (name:=Str.ofString "__next__") T F.slot_dict_keyiterator_next (wpAny_call_entry F.slot_dict_keyiterator_next T F.entry_dict_keyiterator_next ?_ (F.args_dict_keyiterator_next_1 _))));refine wpAny_bind (wpAny_pure ?_);refine wpAny_bind ?_;refine wpAny_bind ?_;refine wpAny_bind (wpAny_typeNameOfWhole_keyiter T (wpAny_pure ?_));refine wpAny_bind (wpAny_fieldsOf ho hd ?_);show wpAny _ _ (if(Value.ref d==Value.none)=true then _ else _) _ _ s;rw[if_neg (show ¬((Value.ref d==Value.none)=true)from Bool.false_ne_true)];refine wpAny_bind (wpAny_pure ?_);refine wpAny_bind (wpAny_dictEntries hod hdd ?_);rw[if_neg (by simp)];refine wpAny_bind (wpAny_pure ?_);refine wpAny_bind (wpAny_dictEpoch hod hdd ?_);rw[if_neg (by simp)];refine wpAny_pure ?_;dsimp only;rw[if_neg (show ¬((i:Int)<0)from by lia),Int.toNat_natCast];cases he:es[i]? with
 |some e=>
  rw[he]at hQ;refine wpAny_bind ?_;refine wpAny_bind (wpAny_typeNameOfWhole_keyiter T (wpAny_pure ?_));refine wpAny_bind (wpAny_isOneOf_keyiter T ?_);show wpAny _ _ (setField (.ref it) 1 (rawInt ((i:Int)+1))>>=_) _ _ s;refine wpAny_bind (wpAny_setField ho hd (by simp) ?_);have hit':(s.heap.update it (Obj.mapFields (·.setIfInBounds 1 (rawInt ((i:Int)+1))))).IsKeyIter it d (i+1) es.size ep:=
   ⟨_,Heap.get?_update_self _ ho (Obj.isFreed_of_fields (Obj.data_mapFields hd _)),(Obj.cls_mapFields ..).trans hc,by rw[Obj.data_mapFields hd];simp [rawInt]⟩
  refine wpAny_bind (wpAny_holding ?_);refine wpAny_bind (wpAny_isOneOf_keyiter (s:={ s with heap:=s.heap.update it (Obj.mapFields (·.setIfInBounds 1 (rawInt ((i:Int)+1)))) }) hit'.typeIs ?_);show wpAny _ _ (pure e.key) _ _ _;exact wpAny_pure (wpAny_pure ⟨_,rfl,wpAny_pure (hQ _ hit' (Heap.SameBut.update ..))⟩)
 |none=>
  rw[he]at hQ;refine wpAny_bind ?_;refine wpAny_bind (wpAny_typeNameOfWhole_keyiter T (wpAny_pure ?_));show wpAny _ _ (setField (.ref it) 0 .none>>=_) _ _ s;refine wpAny_bind (wpAny_setField ho hd (by simp) ?_);show wpAny _ _ (newExc (.type "StopIteration") []>>=_) _ _ _;refine wpAny_bind ?_;unfold newExc newTuple;refine wpAny_bind (wpAny_newObj_type ?_ (by size_fits));refine wpAny_bind (m:=firstArgMember _ _) (wpAny_of_eq (a:=Value.none) (by first |rfl |(simp only [firstArgMember];rfl)) ?_);refine wpAny_newObj_type ?_ (by size_fits);refine wpAny_bind (wpAny_handled ?_);rw[show A.in1.handled=none from hQ.1];refine wpAny_bind (wpAny_pure (wpAny_throw ?_));refine wpAny_bind (wpAny_isInstance (T:= "StopIteration") (b:=true) ⟨_,Heap.get?_push_size _ rfl,rfl⟩ isSubtype_stop ?_);exact wpAny_pure (hQ.2 _ (((Heap.SameBut.update ..).extBut.push _).push _))
theorem b7b{d:Addr}{od:Obj}{es:Array DictEntry}{ep:Nat}{Q:VP}(hd:(d==sysModules)=false)(ho:s.heap.get? d=some od)(hc:od.ExactDict)(hdat:od.data= .dict es ep)
  (hQ:Q (.ref s.heap.objs.size) { s with heap:=s.heap.push { cls:= .type "dict_keyiterator",data:= .fields #[.ref d, .int 0 0, .int es.size 0, .int ep 0] } }):
  wpAny (model prog w) A (pyIter (.ref d)) Q E s:=by
 have hT:s.TypeIs (.ref d) "dict" :=⟨od,ho,hc.1⟩
 refine wpAny_pyIter_slot hT F.slot_dict_iter (wpAny_call_entry F.slot_dict_iter hT F.entry_dict_iter ?_ (F.args_dict_iter_1 _));unfold Builtin.«dict.__iter__»;refine wpAny_bind ?_;unfold Builtin.Dict.dictSlotNone;refine wpAny_bind (wpAny_notOrdered_dict hT ?_);show wpAny _ _ (pure (Value.ref d)) _ _ s;refine wpAny_pure ?_;show wpAny _ _ (Builtin.Dict.showsAll d>>=_) _ _ s;unfold Builtin.Dict.showsAll;rw[if_neg (by rw[hd];exact Bool.false_ne_true)];refine wpAny_bind (wpAny_pure ?_);refine wpAny_bind (wpAny_dictEntries ho hdat ?_);refine wpAny_bind (wpAny_dictEpoch ho hdat ?_);refine wpAny_bind (wpAny_newObj_type (wpAny_pure ⟨_,rfl, "dict_keyiterator",_,⟨_,Heap.get?_push_size _ rfl,rfl⟩,F.slot_dict_keyiterator_next.lookup, ?_⟩));simpa [rawInt]using hQ
end
theorem b4o{prog:Program}{w:World}{A:Around}(hh:A.handled=none)(I d:Addr)(hne:d≠I)(od:Obj)(es:Array DictEntry)(ep:Nat)(hdd:od.data= .dict es ep):
  Walks prog w A I [I,d] [I] es.size (λi v=> ∃e,es[i]? =some e/\v=e.key) (λi h=>h.IsKeyIter I d i es.size ep/\h.get? d=some od) where
 sub:=λb hb=>by simp at hb;simp [hb]
 frame:=λ_ _ _ st hk=>⟨st.1.at λo e=>hk I (by simp) o e,hk d (by simp) _ st.2⟩
 item:=λi s Q E hi st hQ=>by
  refine b1v st.1 st.2 hdd ?_;rw[Array.getElem?_eq_getElem hi];exact λh' hit' hs'=>hQ _ h' s.toks ⟨_,Array.getElem?_eq_getElem hi,rfl⟩ ⟨hit',(hs'.2 d hne).trans st.2⟩ λb o hb e=>hs'.extBut b o (λh=>hb (by simp [h])) e
 done:=λs Q E st hQ=>by
  refine b1v st.1 st.2 hdd ?_;rw[Array.getElem?_eq_none (Nat.le_refl _)];exact⟨hh,λh' he'=>hQ h' s.toks λb o hb e=>he' b o (λh=>hb (by simp [h])) e⟩
 self:=λ_ _ _ _ st hQ=>wpAny_pyIter_keyiter st.1 hQ
section
variable{Pp:Par}
variable{G G':Gh}{fm:Fm}{fs:List Fm}{hs:Hs}{J ae:H}{s s':Shared}{A:Around}{C:Cx}{n:Nat}
def FixAt(G:Gh)(hs:Hs)(b:Addr):Prop:=(∃o,G.own b= .fz o)\/ ∃id o p,He.pin id o∈hs/\G.ρ id=some p/\p.1=b
theorem HeOk.pinAt{h:Heap}{id:Nat}{o:Obj}: ∀{hs:Hs},HeOk G J h hs->He.pin id o∈hs-> ∃p,G.ρ id=some p/\h.get? p.1=some o
 |[],_,m=>nomatch m
 | .he a b::r,x,m=>by cases m with |tail _ m=>exact HeOk.pinAt x.2.2 m
 | .pin j b::r,x,m=>by
  cases m with
  |head=>obtain⟨p,ao,a1,_,_,_,a5⟩:=x.1;exact⟨p,a1,a5⟩
  |tail _ m=>exact HeOk.pinAt x.2.2 m
theorem FixAt.same{b:Addr}{aX bF:Hs}{fs fs':List Fm}(f:FixAt G hs b)(x:G.le G')(S:St Pp G fs aX J s)(S':St Pp G' fs' bF ae s')(aj: ∀e∈hs,e∈aX)(aI: ∀e∈hs,e∈bF):s'.heap.get? b=s.heap.get? b:=by
 rcases f with ⟨o,f⟩ |⟨id,o,p,m,hp,rfl⟩
 ·rw[S.fz _ _ f,S'.fz _ _ (x.fz _ _ f)]
 ·refine a8 λp_ ah=> ?_
  obtain⟨q,hq,hg⟩:=HeOk.pinAt S.he (aj _ m);obtain⟨q',hq',hg'⟩:=HeOk.pinAt S'.he (aI _ m);rw[hp]at hq;cases hq;rw[x.rho _ _ hp]at hq';cases hq';refine ah ?_;rw[hg,hg']
theorem FixAt.mono{b:Addr}{hs':Hs}(f:FixAt G hs b)(x:G.le G')(m: ∀e∈hs,e∈hs'):FixAt G' hs' b:=by
 rcases f with ⟨o,f⟩ |⟨id,o,p,mm,hp,e⟩
 ·exact .inl ⟨o,x.fz _ _ f⟩
 ·exact .inr ⟨id,o,p,m _ mm,x.rho _ _ hp,e⟩
noncomputable def a3m(T:String):Bool:=["enumerate", "zip", "dict_itemiterator", "dict_reverseitemiterator", "odict_iterator", "itertools.zip_longest", "itertools.pairwise"].contains T
structure SrcI (Pp:Par) (A:Around) (G:Gh) (hs:Hs) (xs:List AV) (I:Addr) (P:Nat->Value->Prop) (fp:List Addr) (W:Nat->Heap->Prop):Prop where
 walks:Walks Pp.prog Pp.w A I fp [I] xs.length P W
 fix: ∀b∈fp,b=I\/FixAt G hs b
 live: ∀i h,W i h-> ∃o T,h.get? I=some o/\o.cls= .type T/\a3m T=false
 val: ∀i v,i<xs.length->P i v-> ∃a,xs[i]? =some a/\VR Pp G a v
theorem VRs.at{l:List AV}{vs:List Value}(h:VRs Pp G l vs){i:Nat}{v:Value}(e:vs[i]? =some v): ∃a,l[i]? =some a/\VR Pp G a v:=by
 induction l generalizing vs i with
 |nil=>cases vs with
  |nil=>simp at e
  |cons _ _=>exact h.elim
 |cons a l ih=>cases vs with
  |nil=>exact h.elim
  |cons u vs=>cases i with
   |zero=>rw[List.getElem?_cons_zero]at e;cases e;exact⟨a,rfl,h.1⟩
   |succ i=>exact ih h.2 e
theorem T8{h:Heap}{a:Addr}{items:Array Value}{n:Nat}(x:IsT h a items n):h.IsTuple a items:=⟨_,x,rfl,n,rfl⟩
theorem N7{a:AV}{u:Value}{xs:List AV}{Q E:VP}(S:St Pp G fs hs J s)(V:VR Pp G a u)(hh:A.handled=none)(e:b3w a=some xs)
  (hQ: ∀o P fp W,o.isFreed=false->SrcI Pp A G hs xs s.heap.objs.size P fp W->W 0 (s.heap.push o)->Q (.ref s.heap.objs.size) { s with heap:=s.heap.push o }):wpAny Pp.M A (pyIter u) Q E s:=by
 have fr:=S.fresh (Nat.le_refl s.heap.objs.size);refine y3 (· =some xs) e (λl q_ e=> ?_) λe=> ?_
 ·subst q_
  cases e;obtain⟨b,vs,k,rfl,e1,e2⟩:=V;have il:=p6 S e1;have hne:b≠s.heap.objs.size:=λz=>by rw[z,fr]at e1;cases e1
  have hl:(Array.mk vs).size=xs.length:=by have:=e2.length;show vs.length=_;lia
  refine wpAny_pyIter_list il.isList (hQ _ _ _ _ rfl ⟨hl▸Walks.list hh _ b hne (Array.mk vs), ?_,λi h hw=>by obtain⟨⟨o,ho,hc,_⟩,_⟩:=hw;exact⟨o,_,ho,hc,by decide⟩,λi v _ hv=>e2.at (by simpa using hv)⟩ ⟨⟨_,Heap.get?_push_size _ rfl,rfl,rfl⟩,il.isList.push _⟩);intro c hc;rcases List.mem_cons.mp hc with rfl |hc
  ·exact .inl rfl
  ·rw[List.mem_singleton.mp hc];exact .inr (.inl ⟨_,e1⟩)
 refine y4 (· =some xs) e (λl q_ e=> ?_) λe=> ?_
 ·subst q_
  cases e;obtain⟨b,vs,k,rfl,e1,e2⟩:=V;have il:=G9 S e1;have hne:b≠s.heap.objs.size:=λz=>by rw[z,fr]at e1;cases e1
  have hl:(Array.mk vs).size=xs.length:=by have:=e2.length;show vs.length=_;lia
  refine wpAny_pyIter_tuple (T8 il) (hQ _ _ _ _ rfl ⟨hl▸Walks.tuple hh _ b hne (Array.mk vs), ?_,λi h hw=>by obtain⟨⟨o,ho,hc,_⟩,_⟩:=hw;exact⟨o,_,ho,hc,by decide⟩,λi v _ hv=>e2.at (by simpa using hv)⟩ ⟨⟨_,Heap.get?_push_size _ rfl,rfl,rfl⟩, ?_⟩)
  ·intro c hc
   rcases List.mem_cons.mp hc with rfl |hc
   ·exact .inl rfl
   ·rw[List.mem_singleton.mp hc];exact .inr (.inl ⟨_,e1⟩)
  ·exact(T8 il).at λo ho=>Heap.get?_push_of_some _ ho
 refine c2q (· =some xs) e (λm q_ e=> ?_) λe=> ?_
 ·subst q_
  obtain⟨hm,rfl⟩:=j8 e;obtain⟨h1,h2⟩:=an hm;have hm:0<=m/\m<=100000:=⟨q7 h1,q7 h2⟩
  clear h1 h2;obtain⟨b,t0,t1,t2,rfl,e1⟩:=V;have hg:=S.fz _ _ e1;have hsz:Builtin.Range.rangeSize 0 m 1=(m.toNat:Int):=by
   unfold Builtin.Range.rangeSize;simp;lia
  have hs:Builtin.Range.small 0 m 1=true:=small_one (by decide) (by decide) (by lia) (by lia);refine wpAny_pyIter_range hg hs (hQ _ (λi v=> ∃t,v= .int (0+i*1) t) [s.heap.objs.size] (λi h=>IsRangeIter h s.heap.objs.size (0+(i:Nat)*1) ((m.toNat:Int)-(i:Nat)) 1) rfl ⟨?_,λc hc=> .inl (List.mem_singleton.mp hc),λi h hw=> ?_,λi v hi hv=> ?_⟩ ?_)
  ·rw[List.length_map,List.length_range]
   exact Walks.range hh s.heap.objs.size 0 1 m.toNat
  ·exact⟨_,_,hw,rfl,by decide⟩
  ·obtain⟨t,rfl⟩:=hv
   rw[List.length_map,List.length_range]at hi;refine⟨.int (i:Nat), ?_,⟨t,by congr 1;lia⟩⟩;rw[List.getElem?_map,List.getElem?_range hi];rfl
  ·show Heap.get? _ _=_
   rw[Heap.get?_push_size _ rfl,hsz];simp [rawInt]
 refine A6 (· =some xs) e (λl q_ e=> ?_) λe=> ?_
 ·subst q_
  cases e;obtain⟨b,t,rfl,e1⟩:=V;have hb:b.size=l.length:=by rw[<-e1,List.length_map,Array.length_toList]
  refine KBw.pyIter_bytes (hQ _ (λi v=> ∃c u,b[i]? =some c/\v= .int (c.toNat:Int) u) _ (λi h=>KBw.IsBytesIter h s.heap.objs.size b t i) rfl ⟨?_,λc hc=> .inl (List.mem_singleton.mp hc),λi h hw=>by obtain⟨o,ho,hc,_⟩:=hw;exact⟨o,_,ho,hc,by decide⟩,λi v hi hv=> ?_⟩ ⟨_,Heap.get?_push_size _ rfl,rfl,rfl⟩)
  ·rw[List.length_map, <-hb]
   exact KBw.walks hh s.heap.objs.size b t
  ·obtain⟨c,u,hc,rfl⟩:=hv
   refine⟨.int (c.toNat:Nat), ?_,⟨u,rfl⟩⟩;rw[<-e1,List.map_map,List.getElem?_map,Array.getElem?_toList,hc];rfl
 ·cases e
end
end
section
section
variable{Pp:Par}
variable{G G':Gh}{fm:Fm}{fs:List Fm}{hs:Hs}{J ae:H}{s s':Shared}{A:Around}{C:Cx}{n:Nat}
theorem FrOk.keep2{h h':Heap}(le:G.le G')(ce: ∀a k,G.own a= .ce k->G'.own a= .ce k): ∀{fs:List Fm},FrOk Pp G h fs->(∀a k,G.own a= .fr k->k<fs.length->G'.own a= .fr k)->(∀a o k,G.own a= .fr k->k<fs.length->h.get? a=some o->h'.get? a=some o)->FrOk Pp G' h' fs
 |[],_,_,_=>trivial
 |f::r,⟨⟨r1,r2,r3,r4,r5,⟨m,r6,r7⟩,c1,c2⟩,b⟩,tg,k=>
  ⟨⟨tg _ _ r1 (Nat.lt_succ_self _),r2,r3,r4,r5,⟨m,a2e r6 λo ho=>k _ o _ r1 (Nat.lt_succ_self _) ho,r7.mono le⟩,λy a b=>let⟨c,j,e,d,q⟩:=c1 y a b;⟨c,j,e,ce _ _ d,q⟩,c2⟩,
   FrOk.keep2 le ce b (λa j h hl=>tg a j h (Nat.lt_succ_of_lt hl)) λa o j h hl ho=>k a o j h (Nat.lt_succ_of_lt hl) ho⟩
theorem HeOk.keep2{h h':Heap}(le:G.le G')(ob: ∀a id,G.own a= .ob id->G'.own a= .ob id)(kob: ∀a id o,G.own a= .ob id->h.get? a=some o->h'.get? a=some o):
  ∀{hs:Hs},HeOk G J h hs->(∀a k,G.own a= .he k->k<hs.length->G'.own a= .he k)->(∀a o k,G.own a= .he k->k<hs.length->h.get? a=some o->h'.get? a=some o)->HeOk G' J h' hs
 |[],_,_,_=>trivial
 | .he ad o::r,⟨a,b,c⟩,tg,k=>⟨tg _ _ a (Nat.lt_succ_self _),k _ _ _ a (Nat.lt_succ_self _) b,HeOk.keep2 le ob kob c (λa j h hl=>tg a j h (Nat.lt_succ_of_lt hl)) λa o j h hl ho=>k a o j h (Nat.lt_succ_of_lt hl) ho⟩
 | .pin id o::r,⟨⟨p,ao,a1,a2,a3,a4,a5⟩,b,c⟩,tg,k=>⟨⟨p,ao,le.rho _ _ a1,a2,a3,ob _ _ a4,kob _ _ _ a4 a5⟩,b,HeOk.keep2 le ob kob c (λa j h hl=>tg a j h (Nat.lt_succ_of_lt hl)) λa o j h hl ho=>k a o j h (Nat.lt_succ_of_lt hl) ho⟩
theorem OR.keep2{h h':Heap}{id:Nat}{p:Addr×Addr}{ao:AO}(le:G.le G')(tg: ∀a,G.own a= .ob id->G'.own a= .ob id)(bT: ∀a o,G.own a= .fz o->h.get? a=some o)(fz: ∀a o,G.own a= .fz o->h'.get? a=some o)(r:OR Pp G h id p ao)
  (kp: ∀a o,G.own a= .ob id->h.get? a=some o->h'.get? a=some o):OR Pp G' h' id p ao:=by
 cases ao with
 |inst c f=>
  refine a8 λp_ ah=> ?_;obtain⟨r1,r2,m,r3,r4,r5⟩:=r;refine ah ?_;exact⟨le.fz _ _ r1,tg _ r2,m,r3.at λo ho=>kp _ o r2 ho,r4,r5.mono le⟩
 |list l=>
  refine a8 λp_ ah=> ?_;obtain⟨r1,vs,n,r2,r3⟩:=r;refine ah ?_;exact⟨tg _ r1,vs,n,kp _ _ r1 r2,VRs.mono Pp le r3⟩
 |idict d=>
  refine a8 λp_ ah=> ?_;obtain⟨r1,kvs,r2,r3⟩:=r;refine ah ?_;exact⟨tg _ r1,kvs,J1 r2 λo ho=>kp _ o r1 ho,r3.mono le⟩
 |tdict d=>
  refine a8 λp_ ah=> ?_;obtain⟨r1,xs,r2,r3⟩:=r;refine ah ?_;refine⟨tg _ r1,xs, ?_,r3.mono le⟩;refine a8 λp_ ah=> ?_;obtain⟨o,es,ep,ho,e1,e2,e3,e4,e5⟩:=r2;refine ah ?_;refine⟨o,es,ep,kp _ _ r1 ho,e1,e2,e3,λy hy=>A8 (e4 y hy) λo' ho'=> ?_,e5⟩;refine a8 λp_ ah=> ?_;obtain⟨vs'',n'',ho''⟩:=r3.2.1 y hy;have:=bT _ _ ho'';rw[ho']at this;cases this;refine ah ?_;exact fz _ _ ho''
 |pidict d=>
  refine a8 λp_ ah=> ?_;obtain⟨r1,kvs,r2,r3⟩:=r;refine ah ?_;exact⟨tg _ r1,kvs,J1 r2 λo ho=>kp _ o r1 ho,r3.mono le⟩
 |ptdict d=>
  refine a8 λp_ ah=> ?_;obtain⟨r1,xs,r2,r3⟩:=r;refine ah ?_;refine⟨tg _ r1,xs, ?_,r3.mono le⟩;refine a8 λp_ ah=> ?_;obtain⟨o,es,ep,ho,e1,e2,e3,e4,e5⟩:=r2;refine ah ?_;refine⟨o,es,ep,kp _ _ r1 ho,e1,e2,e3,λy hy=>A8 (e4 y hy) λo' ho'=> ?_,e5⟩;refine a8 λp_ ah=> ?_;obtain⟨vs'',n'',ho''⟩:=r3.2.1 y hy;have:=bT _ _ ho'';rw[ho']at this;cases this;refine ah ?_;exact fz _ _ ho''
 |exc c f fl=>
  refine a8 λp_ ah=> ?_;obtain⟨r1,vs,sl,dd,r2,r3,r4⟩:=r;refine ah ?_;refine⟨tg _ r1,vs,sl,dd,kp _ _ r1 r2, ?_, ?_⟩
  ·cases dd with
   |none=>exact r3
   |some d=>
    refine a8 λp_ ah=> ?_;obtain⟨e1,e2,m,e3,e4,e5⟩:=r3;refine ah ?_;exact⟨tg _ e1,e2,m,e3.at λo ho=>kp _ o e1 ho,e4,e5.mono le⟩
  ·cases fl with
   |false=>exact r4
   |true=>
    refine a8 λp_ ah=> ?_;obtain⟨T,oT,ts,e1,e2,e3,e4,e5,e6,e7⟩:=r4;refine ah ?_;exact⟨T,oT,ts,e1,tg _ e2,e3,e4,kp _ _ e2 e5,e6,e7⟩
theorem St.forget{a:Addr}(S:St Pp G fs hs J s)(hfr: ∀k,G.own a= .fr k->fs.length<=k)(hhe: ∀k,G.own a= .he k->hs.length<=k)(hfz: ∀o,G.own a≠ .fz o)(hob: ∀id,G.own a≠ .ob id)(hce: ∀k,G.own a≠ .ce k)
  (sh:Sh s s')(kp: ∀b o,b≠a->G.own b≠ .none->s.heap.get? b=some o->s'.heap.get? b=some o):G.le (G.add a .none)/\St Pp (G.add a .none) fs hs J s':=by
 have tg: ∀{b t},G.own b=t->G.own a≠t->(G.add a .none).own b=t:=λ{b t} h n=>by
  rw[Gh.add_ne (λe=>n (by rw[<-e];exact h))];exact h
 have k: ∀{b o t},G.own b=t->t≠ .none->G.own a≠t->s.heap.get? b=some o->s'.heap.get? b=some o:=λ{b o t} h m n ho=>kp b o (λe=>n (by rw[<-e];exact h)) (by rw[h];exact m) ho;have old: ∀{b t},(G.add a .none).own b=t->t≠ .none->b≠a/\G.own b=t:=λ{b t} h n=>by
  by_cases e:b=a
  ·subst e;rw[Gh.add_self]at h;exact absurd h.symm n
  ·rw[Gh.add_ne e]at h;exact⟨e,h⟩
 have le:G.le (G.add a .none):=⟨λb o h=>tg h (hfz o),λ_ _ h=>h⟩
 refine⟨le,λb h=> ?_,λb o h=> ?_,λb k h=> ?_,λb o h=>le.fz _ _ (S.base b o h), ?_, ?_,λi bo h=> ?_,S.dom,sh.gens.trans S.gens,sh.os.trans S.os⟩
 ·obtain⟨e,h'⟩:=old rfl h
  obtain⟨o,ho⟩:=Option.isSome_iff_exists.mp (S.lt b (by rw[h'];exact h));rw[kp b o e (by rw[h'];exact h) ho];rfl
 ·obtain⟨e,h'⟩:=old h (by intro z;cases z)
  exact kp b o e (by rw[h'];intro z;cases z) (S.fz b o h')
 ·obtain⟨e,h'⟩:=old h (by intro z;cases z)
  obtain⟨o,h1,h2⟩:=S.ce b _ h';exact⟨o,kp b o e (by rw[h'];intro z;cases z) h1,h2⟩
 ·exact S.fr.keep2 le (λb j h=>tg h (hce j)) (λb j h hl=>tg h λe=>Nat.lt_irrefl _ (Nat.lt_of_lt_of_le hl (hfr j e))) (λb o j h hl ho=>k h (by intro z;cases z) (λe=>Nat.lt_irrefl _ (Nat.lt_of_lt_of_le hl (hfr j e))) ho)
 ·exact S.he.keep2 le (λb j h=>tg h (hob j)) (λb j o h ho=>k h (by intro z;cases z) (hob j) ho) (λb j h hl=>tg h λe=>Nat.lt_irrefl _ (Nat.lt_of_lt_of_le hl (hhe j e))) (λb o j h hl ho=>k h (by intro z;cases z) (λe=>Nat.lt_irrefl _ (Nat.lt_of_lt_of_le hl (hhe j e))) ho)
 ·obtain⟨q,h1,h2⟩:=S.ob i bo h
  exact⟨q,h1,h2.keep2 le (λb h=>tg h (hob i)) S.fz (λb o h=>k h (by intro z;cases z) (hfz o) (S.fz b o h)) λb o h ho=>k h (by intro z;cases z) (hob i) ho⟩
theorem St.dropHe{a:Addr}{o:Obj}(S:St Pp G fs (.he a o::hs) J s)(sh:Sh s s')(kp: ∀b o,b≠a->G.own b≠ .none->s.heap.get? b=some o->s'.heap.get? b=some o):
  G.le (G.add a .none)/\St Pp (G.add a .none) fs hs J s':=
 have ha:G.own a= .he hs.length:=S.he.1
 S.popHe.forget (λk e=>by rw[ha]at e;cases e) (λk e=>by rw[ha]at e;cases e;exact Nat.le_refl _) (λo e=>by rw[ha]at e;cases e) (λi e=>by rw[ha]at e;cases e) (λk e=>by rw[ha]at e;cases e) sh kp
theorem St.dropFr(S:St Pp G (fm::fs) hs J s)(sh:Sh s s')(kp: ∀b o,b≠fm.env.locals->G.own b≠ .none->s.heap.get? b=some o->s'.heap.get? b=some o):
  G.le (G.add fm.env.locals .none)/\St Pp (G.add fm.env.locals .none) fs hs J s':=
 have ha:G.own fm.env.locals= .fr fs.length:=S.fr.1.own
 S.popFr.forget (λk e=>by rw[ha]at e;cases e;exact Nat.le_refl _) (λk e=>by rw[ha]at e;cases e) (λo e=>by rw[ha]at e;cases e) (λi e=>by rw[ha]at e;cases e) (λk e=>by rw[ha]at e;cases e) sh kp
theorem St.heOwn{a:Addr}{o:Obj}(S:St Pp G fs (.he a o::hs) J s):G.own a= .he hs.length/\s.heap.get? a=some o:=⟨S.he.1,S.he.2.1⟩
theorem St.freezeHe{a:Addr}{o:Obj}(S:St Pp G fs (.he a o::hs) J s): ∃G',G.le G'/\G'.own a= .fz o/\(∀b,b≠a->G'.own b=G.own b)/\St Pp G' fs hs J s:=by
 obtain⟨le,S'⟩:=S.dropHe (s':=s) ⟨rfl,rfl⟩ λ_ _ _ _ h=>h;have S'':=S'.freeze (a:=a) (o:=o) Gh.add_self S.heOwn.2;exact⟨_,le.trans (Gh.add_ext Gh.add_self).le,Gh.add_self,λb hb=>by rw[Gh.add_ne hb,Gh.add_ne hb],S''⟩
theorem St.setHe2{a b:Addr}{oa oa' ob:Obj}(S:St Pp G fs (.he b ob:: .he a oa::hs) J s)(sh:Sh s s')(kp: ∀c o,c≠a->G.own c≠ .none->s.heap.get? c=some o->s'.heap.get? c=some o)(ho:s'.heap.get? a=some oa'):
  St Pp G fs (.he b ob:: .he a oa'::hs) J s':=by
 have hb:G.own b= .he (hs.length+1):=S.he.1;have ha:G.own a= .he hs.length:=S.he.2.2.1;have k: ∀{c o t},G.own c=t->t≠ .none->t≠ .he hs.length->s.heap.get? c=some o->s'.heap.get? c=some o:=λ{c} {o} {t} h n m ho=>kp _ _ (λe=>by rw[e,ha]at h;exact m h.symm) (by rw[h];exact n) ho;have x:G.ext G:=⟨λ_ _=>rfl,λ_ _ h=>h⟩
 have fz': ∀a o,G.own a= .fz o->s'.heap.get? a=some o:=λa o h=>k h (by intro z;cases z) (by intro z;cases z) (S.fz a o h);refine⟨λb h=> ?_,fz',λa kk h=> ?_,S.base,S.fr.keep x λa o j h hj ho=>k h (by intro z;cases z) (by intro z;cases z) ho,
  ⟨hb,k hb (by intro z;cases z) (by intro z;injection z with z;lia) S.he.2.1,ha,ho,S.he.2.2.2.2.keep x (λa o j h hj ho=>k h (by intro z;cases z) (by intro z;cases z;exact Nat.lt_irrefl _ hj) ho) (λi bo h _=>⟨h,λa o h ho=>k h (by intro z;cases z) (by intro z;cases z) ho⟩)⟩,λi bo h=> ?_,S.dom,sh.gens.trans S.gens,sh.os.trans S.os⟩
 ·by_cases e:b=a
  ·rw[e,ho];rfl
  ·obtain⟨o,ho⟩:=Option.isSome_iff_exists.mp (S.lt b h);rw[kp b o e h ho];rfl
 ·obtain⟨o,h1,h2⟩:=S.ce a _ h
  exact⟨o,k h (by intro z;cases z) (by intro z;cases z) h1,h2⟩
 ·obtain⟨q,h1,h2⟩:=S.ob i bo h
  exact⟨q,h1,h2.keep x S.fz fz' λa o h ho=>k h (by intro z;cases z) (by intro z;cases z) ho⟩
theorem a3v{h:Heap}{a:Addr}{m:Str->Option Value}(x:h.Ns a m): ∃o,h.get? a=some o:=by obtain⟨o,_,_,ho,_⟩:=x;exact⟨o,ho⟩
theorem m7{x:Nat}{a:AV}{v:Value}{Q:Unit->Shared->Prop}{E:VP}(S:St Pp G (fm::fs) hs J s)(V:VR Pp G a v)(hk:fm.env.kindOf (Pp.D.nm x)=some .local)
  (h: ∀s',St Pp G ({ fm with loc:=upd fm.loc x a }::fs) hs J s'->(∀b o,b≠fm.env.locals->s.heap.get? b=some o->s'.heap.get? b=some o)->Q () s'):wpAny Pp.M A (storeName fm.env (Pp.D.nm x) v) Q E s:=by
 obtain⟨f1,f2,f3,f4,f5,⟨m,f6,f7⟩,c1,c2⟩:=S.fr.1;refine wpAny_storeName_local hk f6 (λh' g1 g2=>h _ (S.setFr (f':={ fm with loc:=upd fm.loc x a }) ⟨rfl,rfl⟩ (λb o hb _ ho=>(g2.2 b hb).trans ho) ⟨f1,f2,f3,f4,f5,⟨_,g1,λy hy=> ?_⟩,λy hy hu=> ?_,c2⟩) λb o hb ho=>(g2.2 b hb).trans ho) (by simp [f2])
 ·by_cases e:y=x
  ·subst e
   exact⟨v,by simpa [upd]using V, .inl ⟨hk,by simp⟩⟩
  ·have hl:upd fm.loc x a y=fm.loc y:=if_neg e
   have hy':upd fm.loc x a y≠ .undef:=hy;rw[hl]at hy';obtain⟨u,hu,r⟩:=f7 y hy';refine⟨u,by show VR Pp G (upd fm.loc x a y) u;rw[hl];exact hu, ?_⟩;rcases r with ⟨r1,r2⟩ |r
   ·exact .inl ⟨r1,by show(if Pp.D.nm y=Pp.D.nm x then some v else m (Pp.D.nm y))=some u;rw[if_neg (λz=>e (Pp.D.inj _ _ z))];exact r2⟩
   ·exact .inr r
 ·have e:y≠x:=λe=>by subst e;have hy':fm.env.kindOf (Pp.D.nm y)=some .cell:=hy;rw[hk]at hy';cases hy'
  have hl:upd fm.loc x a y=fm.loc y:=if_neg e;have hu':upd fm.loc x a y= .undef:=hu;rw[hl]at hu';exact c1 y hy hu'
end
end
section
theorem W0(l:Loc)(x:Nat)(a b:AV):upd (upd l x a) x b=upd l x b:=by funext y;unfold upd;split<;>rfl
theorem L8{env:Env}: ∀(names:List (Str×NameKind))(acc:List (Str×Addr)),(∀p∈names,p.2= .free-> ∃c,env.cells.lookup p.1=some c)->(∀n c,acc.lookup n=some c->env.cells.lookup n=some c)->
  ∃cl,(forIn (m:=Sem) names acc λ(p:Str×NameKind) cs=>if p.2== .free then do let a <-cellOf env p.1;pure (ForInStep.yield ((p.1,a)::cs))else pure (ForInStep.yield cs))=pure cl/\
   (∀n c,cl.lookup n=some c->env.cells.lookup n=some c)/\ ∀n,(∃c,acc.lookup n=some c)\/(n,NameKind.free)∈names-> ∃c,cl.lookup n=some c
 |[],acc,_,h=>⟨acc,rfl,h,λn x=>x.elim id λm=>nomatch m⟩
 |(n,k)::r,acc,hf,h=>by
  by_cases hk:k= .free
  ·subst hk
   obtain⟨c,hc⟩:=hf (n, .free) (.head _) rfl;obtain⟨cl,e,a,b⟩:=L8 r ((n,c)::acc) (λp m=>hf p (.tail _ m)) (λm d hd=>by
    rw[List.lookup_cons]at hd;cases q:m==n with
    |true=>rw[q]at hd;cases hd;rw[eq_of_beq q];exact hc
    |false=>rw[q]at hd;exact h m d hd)
   refine⟨cl, ?_,a,λm hm=>b m ?_⟩
   ·rw[List.forIn_cons]
    simp only [beq_self_eq_true,if_true];have:cellOf env n=pure c:=by unfold cellOf;rw[hc]
    rw[this];simpa using e
   ·rw[List.lookup_cons]
    cases q:m==n with
    |true=>exact .inl ⟨c,rfl⟩
    |false=>
     rcases hm with hm |hm
     ·exact .inl hm
     ·cases hm with
      |head=>simp at q
      |tail _ hm=>exact .inr hm
  ·obtain⟨cl,e,a,b⟩:=L8 r acc (λp m=>hf p (.tail _ m)) h
   refine⟨cl, ?_,a,λm hm=>b m ?_⟩
   ·rw[List.forIn_cons]
    have:(k==NameKind.free)=false:=by cases k<;>first |rfl |exact absurd rfl hk
    simp only [this,Bool.false_eq_true,if_false];simpa using e
   ·rcases hm with hm |hm
    ·exact .inl hm
    ·cases hm with
     |head=>exact absurd rfl hk
     |tail _ hm=>exact .inr hm
theorem a9h{scope:Scope}{env:Env}(hf: ∀p∈scope.names,p.2= .free-> ∃c,env.cells.lookup p.1=some c):
  ∃cl,closureFor scope env=pure cl/\(∀n c,cl.lookup n=some c->env.cells.lookup n=some c)/\ ∀n,(n,NameKind.free)∈scope.names->cl.lookup n=env.cells.lookup n:=by
 refine a8 λp_ ah=> ?_;obtain⟨cl,e,a,b⟩:=L8 (env:=env) scope.names [] hf (λ_ _ h=>nomatch h);refine ah ?_;refine⟨cl, ?_,a,λn m=> ?_⟩
 ·simp only [closureFor]
  simpa using e
 ·refine a8 λp_ ah=> ?_
  obtain⟨c,hc⟩:=b n (.inr m);refine ah ?_;rw[hc,a n c hc]
theorem a06{scope sc:Scope}{n:Str}(hb: ∀p∈scope.names,p.2≠ .cell)(h:(d7 scope sc).names.lookup n=some .cell):(n,NameKind.free)∈scope.names:=by
 refine a8 λp_ ah=> ?_;have hm:(n,NameKind.cell)∈(d7 scope sc).names:=mem_of_lookup h;obtain⟨⟨m,k⟩,h1,h2⟩:=List.mem_map.mp hm;refine ah ?_;dsimp only at h2
 split at h2
 ·rename_i hc
  cases h2;simp only [Bool.and_eq_true,beq_iff_eq]at hc;rw[<-hc.1.1];exact h1
 ·cases h2;exact absurd rfl (hb _ h1)
section
variable{Pp:Par}
variable{G G':Gh}{fm:Fm}{fs:List Fm}{hs:Hs}{J ae:H}{s s':Shared}{A:Around}{C:Cx}{n:Nat}
variable(Pp) in
def v6(C:Cx)(A:Around)(fm:Fm)(fs:List Fm)(ts:MBs)(xs:List Expr):Prop:=
 ∀(G:Gh)(hs:Hs)(J:H)(s:Shared)(Q:Bool->Shared->Prop)(E:VP),St Pp G (fm::fs) hs J s->SPb Pp G (fm::fs) hs (allE C fm.loc ts J) Q E->
  wpAny Pp.M A (forIn xs true λc r=>if r=true then do let ok <-isTrue c fm.env (eval c fm.env);pure (ForInStep.yield ok)else pure (ForInStep.yield r)) Q E s
theorem c62:v6 Pp C A fm fs .nil []:=λG hs J s Q E S h=>wpAny_tests_nil (h G _ (.refl _) S)
theorem a18{env:Env}: ∀(xs:List Expr),(forIn (m:=Sem) xs false λc r=>if r=true then do let ok <-isTrue c env (eval c env);pure (ForInStep.yield ok)else pure (ForInStep.yield r))=pure false
 |[]=>rfl
 |x::q=>by
  rw[List.forIn_cons];simp only [Bool.false_eq_true,if_false,pure_bind];exact a18 q
theorem c3l{t:MB}{ts:MBs}{x:Expr}{xs:List Expr}(ht:G0 Pp C A fm fs t x)(hT:v6 Pp C A fm fs ts xs):v6 Pp C A fm fs (.cons t ts) (x::xs):=λG hs J s Q E S h=>by
 replace h:SPb Pp G (fm::fs) hs ((tstE C fm.loc t J).bind λb J=>match b with |true=>allE C fm.loc ts J |false=> .ok false J) Q E:=h;rw[List.forIn_cons];simp only [if_true];refine wpAny_bind (wpAny_bind (ht G hs J s _ E S (h.bindB λb af ak au _ aC am aj=>wpAny_pure ?_)));cases b
 ·simp only [Bool.false_eq_true,if_false]at aj
  show wpAny _ _ (forIn xs false _) _ _ _;rw[a18];exact wpAny_pure (aj ak _ (.refl _) am)
 ·simp only [if_true]at aj
  exact hT ak hs af au Q E am aj
structure ScopeOk (D:Adr) (scope sc:Scope) (x:Nat) (free:List Nat):Prop where
 kind:scope.kind= .function
 cell: ∀p∈scope.names,p.2≠ .cell
 loc: ∀p∈scope.names,p.2= .local->scope.names.lookup p.1=some .local
 lx:scope.names.lookup (D.nm x)=some .local
 fre: ∀p∈scope.names,p.2= .free->sc.names.lookup p.1=some .cell/\ ∃y∈free,D.nm y=p.1
 inn: ∀y∈free,(d7 scope sc).names.lookup (D.nm y)=some .cell/\sc.names.lookup (D.nm y)=some .cell
 nx:x∉free
theorem M0{scope sc:Scope}{x:Nat}{free:List Nat}(h:V8 scope sc Pp.D.nm x free=true):ScopeOk Pp.D scope sc x free:=by
 unfold V8 at h;simp only [Bool.and_eq_true,List.all_eq_true,beq_iff_eq,bne_iff_ne,Bool.or_eq_true,List.any_eq_true,Bool.not_eq_true',ne_eq]at h;refine a8 λp_ ah=> ?_;obtain⟨⟨⟨⟨⟨⟨h1,h2⟩,h3⟩,h4⟩,h5⟩,h6⟩,h7⟩:=h;refine ah ?_;exact⟨h1,h2,λp m e=>(h3 p m).resolve_left (λz=>z e),h4,λp m e=>(h5 p m).resolve_left (λz=>z e),h6,λm=>by
  rw[List.contains_eq_mem,decide_eq_false_iff_not]at h7;exact h7 m⟩
theorem a6b(F:Fm1 Pp G s.heap n fm){y:Nat}(h:fm.env.kindOf (Pp.D.nm y)=some .cell): ∃c,fm.env.cells.lookup (Pp.D.nm y)=some c:=by
 obtain⟨f1,f2,f3,f4,f5,⟨m,f6,f7⟩,c1,c2⟩:=F;cases q:fm.loc y with
 |undef=>obtain⟨c,_,hc,_⟩:=c1 y h q;exact⟨c,hc⟩
 |_=>
  obtain⟨v,_,r⟩:=f7 y (by rw[q];intro z;cases z);rcases r with ⟨r,_⟩ |⟨_,c,o,hc,_⟩
  ·rw[h]at r;cases r
  ·exact⟨c,hc⟩
theorem C0(F:Fm1 Pp G s.heap n fm){scope:Scope}{x:Nat}{free:List Nat}(h:ScopeOk Pp.D scope fm.env.scope x free):
  ∃cl,closureFor scope fm.env=pure cl/\(∀n c,cl.lookup n=some c->fm.env.cells.lookup n=some c)/\ ∀n,(n,NameKind.free)∈scope.names->cl.lookup n=fm.env.cells.lookup n:=
 a9h λp m e=>by
  obtain⟨h1,y,_,h2⟩:=h.fre p m e;rw[<-h2]at h1⊢;exact a6b F h1
theorem a09{h':Heap}{scope:Scope}{x:Nat}{free:List Nat}{cl:List (Str×Addr)}{c:Addr}{k:Nat}{cS:Str->Option Value}(F:Fm1 Pp G s.heap n fm)(h:ScopeOk Pp.D scope fm.env.scope x free)(hle:G.le G')(hce: ∀a j,G.own a= .ce j->G'.own a= .ce j)(hnk:n<=k)
  (h1: ∀n c,cl.lookup n=some c->fm.env.cells.lookup n=some c)(h2: ∀n,(n,NameKind.free)∈scope.names->cl.lookup n=fm.env.cells.lookup n)(hc:G'.own c= .fr k)(hn:h'.Ns c cS):
  Fm1 Pp G' h' k ⟨compEnvC scope cl c fm.env,only free fm.loc,false⟩:=by
 refine a8 λp_ ah=> ?_;obtain⟨f1,f2,f3,f4,f5,⟨m,f6,f7⟩,c1,c2⟩:=F;have fr: ∀{y},y∈free->(Pp.D.nm y,NameKind.free)∈scope.names:=λhy=>a06 h.cell (h.inn _ hy).1;refine ah ?_;refine⟨hc,h.kind,f3,f4,λz=>(nomatch z),⟨cS,hn,λy hy=> ?_⟩,λy hy hu=> ?_,λa b c ha hb=>c2 a b c (h1 _ _ ha) (h1 _ _ hb)⟩
 ·have hy':only free fm.loc y≠ .undef:=hy
  unfold only at hy'
  by_cases q:free.contains y=true
  ·refine a8 λp_ ah=> ?_
   have hm:y∈free:=by rw[List.contains_eq_mem,decide_eq_true_iff]at q;exact q
   rw[if_pos q]at hy';obtain⟨v,V,r⟩:=f7 y hy';refine ah ?_;refine⟨v, ?_, .inr ⟨(h.inn y hm).1, ?_⟩⟩
   ·show VR Pp G' (only free fm.loc y) v
    unfold only;rw[if_pos q];exact V.mono Pp hle
   ·rcases r with ⟨r,_⟩ |⟨_,c,o,hc,ho,hd⟩
    ·have:=(h.inn y hm).2;rw[show fm.env.kindOf (Pp.D.nm y)=fm.env.scope.names.lookup (Pp.D.nm y)from rfl,this]at r;cases r
    ·exact⟨c,o,(h2 _ (fr hm)).trans hc,hle.fz _ _ ho,hd⟩
  ·rw[if_neg q]at hy';exact absurd rfl hy'
 ·refine a8 λp_ ah=> ?_
  have hm:=a06 h.cell (n:=Pp.D.nm y) hy;obtain⟨e1,y',hy',e2⟩:=h.fre _ hm rfl;have e3:=Pp.D.inj _ _ e2;refine ah ?_;subst e3;have hu':only free fm.loc y'= .undef:=hu;unfold only at hu';rw[if_pos (by rw[List.contains_eq_mem,decide_eq_true_iff];exact hy')]at hu';refine a8 λp_ ah=> ?_;obtain⟨c,j,hc,ho,hj,_⟩:=c1 y' e1 hu';refine ah ?_;exact⟨c,j,(h2 _ hm).trans hc,hce _ _ ho,Nat.le_trans hj hnk,λz=>nomatch z⟩
end
end
section
section
variable{Pp:Par}
variable{G G':Gh}{fm:Fm}{fs:List Fm}{hs:Hs}{J ae:H}{s s':Shared}{A:Around}{C:Cx}{n:Nat}
theorem SrcI.keep{ak aA:Gh}{cf cg:List Fm}{aX bF:Hs}{af ax:H}{au aD:Shared}{xs:List AV}{I:Addr}{o:Obj}{P:Nat->Value->Prop}{fp:List Addr}{W:Nat->Heap->Prop}{i:Nat}(X:SrcI Pp A G hs xs I P fp W)
  (aq:G.le ak)(aP:ak.le aA)(am:St Pp ak cf (.he I o::aX) af au)(av:St Pp aA cg (.he I o::bF) ax aD)(dH: ∀e∈hs,e∈aX)(dI: ∀e∈hs,e∈bF)(h:W i au.heap):W i aD.heap:=
 X.walks.frame _ _ _ h λb hb o' e=>by
  rcases X.fix b hb with rfl |f
  ·rw[am.heOwn.2]at e;rw[av.heOwn.2];exact e
  ·rw[(f.mono aq λe m=>m).same aP am av (λe m=> .tail _ (dH e m)) (λe m=> .tail _ (dI e m))];exact e
theorem SrcI.next{ak:Gh}{aX:Hs}{xs:List AV}{I:Addr}{o:Obj}{P:Nat->Value->Prop}{fp:List Addr}{W:Nat->Heap->Prop}{i:Nat}{Q:Option Value->Shared->Prop}{E:VP}(X:SrcI Pp A G hs xs I P fp W)
  (aq:G.le ak)(S:St Pp ak fs (.he I o::aX) J s)(hi:i<xs.length)(hw:W i s.heap)
  (h: ∀a v s' o',xs[i]? =some a->VR Pp ak a v->St Pp ak fs (.he I o'::aX) J s'->W (i+1) s'.heap->Q (some v) s'):wpAny Pp.M A (pyNext (.ref I)) Q E s:=by
 refine X.walks.item i s Q E hi hw λv h' tk hp hw' hk=> ?_;refine a8 λp_ ah=> ?_;obtain⟨a,ha,V⟩:=X.val i v hi hp;obtain⟨o',_,ho',_⟩:=X.live _ _ hw';refine ah ?_;exact h a v _ o' ha (V.mono Pp aq) (S.setHe (s':={ s with heap:=h',toks:=tk }) ⟨rfl,rfl⟩ (λb o hb _ ho=>hk b o (λm=>hb (List.mem_singleton.mp m)) ho) ho') hw'
theorem SrcI.stop{ak:Gh}{aX:Hs}{xs:List AV}{I:Addr}{o:Obj}{P:Nat->Value->Prop}{fp:List Addr}{W:Nat->Heap->Prop}{Q:Option Value->Shared->Prop}{E:VP}(X:SrcI Pp A G hs xs I P fp W)
  (S:St Pp ak fs (.he I o::aX) J s)(hw:W xs.length s.heap)
  (h: ∀aA s',ak.le aA->aA=ak.add I .none->St Pp aA fs aX J s'->(∀b o,b≠I->s.heap.get? b=some o->s'.heap.get? b=some o)->Q none s'):wpAny Pp.M A (pyNext (.ref I)) Q E s:=by
 refine X.walks.done s Q E hw λh' tk hk=> ?_;have kp: ∀b o,b≠I->s.heap.get? b=some o->h'.get? b=some o:=λb o hb ho=>hk b o (λm=>hb (List.mem_singleton.mp m)) ho;obtain⟨le,S'⟩:=S.dropHe (s':={ s with heap:=h',toks:=tk }) ⟨rfl,rfl⟩ λb o hb _ ho=>kp b o hb ho;exact h _ _ le rfl S' kp
noncomputable def a2c(vs:List Value)(n:Nat):Obj:=⟨.type "list",none, .seq (Array.mk vs) n, #[]⟩
theorem O4{xs:List AV}{i:Nat}{a:AV}(h:xs[i]? =some a):xs.drop i=a::xs.drop (i+1):=by
 obtain⟨hl,e⟩:=List.getElem?_eq_some_iff.mp h;rw[List.drop_eq_getElem_cons hl,e]
theorem R.bind_ok{α β:Type}{r:R α}{f:α->H->R β}{b:β}{J:H}(h:r.bind f= .ok b J): ∃a af,r= .ok a af/\f a af= .ok b J:=by
 cases r with
 |ok a af=>exact⟨a,af,rfl,h⟩
 |exc id af=>cases h
 |bad=>cases h
variable(C) in
noncomputable def lcF(x:Nat)(l:Loc)(conds:MBs)(elt:ME):AV->H->R (Option AV):=λa J=>(allE C (upd l x a) conds J).bind λb J=>match b with |true=>(a6 C (upd l x a) elt J).bind λy J=> .ok (some y) J |false=> .ok none J
theorem L7{α:Type}{f:AV->H->R (Option α)}{x:AV}{r:List AV}{J:H}{ys:List α}{aJ:H}(h:j9 f (x::r) J= .ok ys aJ): ∃o af l,f x J= .ok o af/\j9 f r af= .ok l aJ/\ys=T0 o l:=by
 obtain⟨o,af,e1,h⟩:=b8k h;obtain⟨l,ax,e2,h⟩:=b8k h;cases h;exact⟨o,af,l,e1,e2,rfl⟩
inductive LcI (Pp:Par) (F:AV->H->R (Option AV)) (G:Gh) (fs:List Fm) (hs:Hs) (cenv:Env) (x:Nat) (aN:Loc) (xs ys:List AV) (aJ:H) (W:Nat->Heap->Prop) (I ac:Addr) (k:Nat) (s:Shared):Prop
 |mk (i:Nat) (G':Gh) (ae:H) (oI:Obj) (vs:List Value) (m:Nat) (lc:Loc) (pre aa:List AV) (hk:k=xs.length+1-i) (hi:i<=xs.length) (le:G.le G') (S:St Pp G' (⟨cenv,lc,false⟩::fs) (.he I oI:: .he ac (a2c vs m)::hs) ae s)
   (hw:W i s.heap) (V:VRs Pp G' pre vs) (hv:vs.length<=i) (hl:j9 F (xs.drop i) ae= .ok aa aJ) (hy:ys=pre++aa) (hu: ∀a,upd lc x a=upd aN x a):LcI Pp F G fs hs cenv x aN xs ys aJ W I ac k s
theorem d0n{elt:ME}{conds:MBs}{el iter:Expr}{ifs:List Expr}{scope:Scope}{pos px:Pos}{x:Nat}{I ac:Addr}{cenv:Env}{aN:Loc}{xs ys:List AV}{aJ:H}{P:Nat->Value->Prop}{fp:List Addr}{W:Nat->Heap->Prop}{RR:Result->Shared->Prop}{oI:Obj}
  (S:St Pp G (⟨cenv,aN,false⟩::fs) (.he I oI:: .he ac (a2c [] 0)::hs) J s)(X:SrcI Pp A G hs xs I P fp W)(hw:W 0 s.heap)(hx:cenv.kindOf (Pp.D.nm x)=some .local)(hlen:xs.length<=100000)
  (hA: ∀a,v6 Pp C A ⟨cenv,upd aN x a,false⟩ fs conds ifs)(hE: ∀a,c7 Pp C A ⟨cenv,upd aN x a,false⟩ fs elt el)
  (hl:j9 (lcF C x aN conds elt) xs J= .ok ys aJ)
  (hR: ∀G' lc vs m s',G.le G'->St Pp G' (⟨cenv,lc,false⟩::fs) (.he ac (a2c vs m)::hs) aJ s'->VRs Pp G' ys vs->RR (.ok .next) s'):
  codeAny Pp.M A (.compLoop (.ListComp el [⟨.Name (Pp.D.nm x) px,iter,ifs,0⟩] scope pos) 0 (.ref I) (.ref ac) cenv) RR s:=by
 refine codeAny_compLoop_tests (LcI Pp (lcF C x aN conds elt) G fs hs cenv x aN xs ys aJ W I ac) ?_ (xs.length+1)
  ⟨0,G,J,oI,[],0,aN,[],ys,rfl,Nat.zero_le _, .refl _,S,hw,trivial,Nat.le_refl _,hl,rfl,λ_=>rfl⟩
 clear S hl hw
 rintro k s' ⟨i,G',ae,oI,vs,m,lc,pre,aa,rfl,hi,le,S',hw',V',hv,hl',hy,hu⟩
 by_cases hlt:i<xs.length
 ·refine X.next le S' hlt hw' λa v au aO ha Va am bG=> ?_
  rw[O4 ha]at hl';refine a8 λp_ ah=> ?_;obtain⟨o,af,l,e1,e2,e3⟩:=L7 hl';clear hl' S' hw' ha hi;refine ah ?_;refine wpAny_assign_Name (m7 am Va hx λaD av _=> ?_);have bc:=X.keep le (.refl _) am av (λe m=> .tail _ m) (λe m=> .tail _ m) bG;clear bG am Va;rw[show({ env:=cenv,loc:=upd lc x a,real:=false }:Fm)=⟨cenv,upd aN x a,false⟩by rw[hu]]at av;refine hA a G' _ ae aD _ _ av ?_;refine a8 λp_ ah=> ?_;obtain⟨b,ax,ra,e1⟩:=R.bind_ok e1;refine ah ?_;show SPb Pp G' _ _ (allE C (upd aN x a) conds ae) _ _;rw[ra];intro aM aL aE aH;have bz:=X.keep le aE av aH (λe m=> .tail _ m) (λe m=> .tail _ m) bc;clear bc av ra hu;cases b with
  |false=>
   cases e1;exact⟨_,R9 hlt,i+1,aM,_,aO,vs,m,upd aN x a,pre,l,rfl,hlt,le.trans aE,aH,bz,VRs.mono Pp aE V',Nat.le_succ_of_le hv,e2,by rw[hy,e3];rfl,λb=>W0 _ _ _ _⟩
  |true=>
   refine a8 λp_ ah=> ?_;obtain⟨y,aZ,rb,e1⟩:=R.bind_ok e1;refine ah ?_;cases e1;refine hE a aM _ ax aL _ _ aH ?_;show SP Pp aM _ _ (a6 C (upd aN x a) elt ax) _ _;rw[rb];intro ba u aV aS aR bg;have da:=X.keep (le.trans aE) aS aH aR (λe m=> .tail _ m) (λe m=> .tail _ m) bz;clear bz aH rb;refine wpAny_list_append_plain (hsz:=by show vs.length<=_;rw[sizeLine_eq];lia) ⟨m,aR.he.2.2.2.1⟩ λh' g1 g2=> ?_;refine a8 λp_ ah=> ?_;obtain⟨m',g1⟩:=g1;have bv:=aR.setHe2 (s':={ aV with heap:=h' }) (oa':=a2c (vs++[u]) m') ⟨rfl,rfl⟩ (λc o hc _ ho=>(g2.2 c hc).trans ho) (by
    refine g1.trans ?_;show some (⟨.type "list",none, .seq ((Array.mk vs).push u) m', #[]⟩:Obj)=_;simp [a2c])
   have db:=X.keep (le.trans (aE.trans aS)) (.refl _) aR bv (λe m=> .tail _ m) (λe m=> .tail _ m) da;refine ah ?_;exact⟨_,R9 hlt,i+1,ba,_,aO,vs++[u],m',upd aN x a,pre++[y],l,rfl,hlt,le.trans (aE.trans aS),bv,db,VRs.append (l':=[y]) (vs':=[u]) (VRs.mono Pp (aE.trans aS) V') ⟨bg,trivial⟩,by rw[List.length_append,List.length_singleton];exact Nat.succ_le_succ hv,e2,by rw[hy,e3];simp [T0],λb=>W0 _ _ _ _⟩
 ·have hin:=b1l hi hlt
  subst hin;rw[List.drop_length]at hl';cases hl';refine X.stop S' hw' λaA aD az _ av _=> ?_;exact hR aA lc vs m aD (le.trans az) av (by rw[hy,List.append_nil];exact VRs.mono Pp az V')
theorem T4{α:Type}{f:AV->H->R (Option α)}: ∀{xs:List AV}{J:H}{id:Nat}{aJ:H},j9 f xs J≠ .exc id aJ
 |[],_,_,_=>nofun
 |x::r,J,id,aJ=>c0p λ_ _=>c0p λ_ _=>nofun
theorem a3u{elt:ME}{conds:MBs}{el iter:Expr}{ifs:List Expr}{scope:Scope}{pos px:Pos}{x:Nat}{free:List Nat}{I:Addr}{xs ys:List AV}{aJ:H}{P:Nat->Value->Prop}{fp:List Addr}{W:Nat->Heap->Prop}{oI:Obj}{cl:List (Str×Addr)}{Q E:VP}
  (S:St Pp G (fm::fs) hs J s)(X:SrcI Pp A G hs xs I P fp W)(hw:W 0 s.heap)(hI:G.own I= .none)(hIo:s.heap.get? I=some oI)(hk:ScopeOk Pp.D scope fm.env.scope x free)(hlen:xs.length<=100000)
  (h1: ∀n c,cl.lookup n=some c->fm.env.cells.lookup n=some c)(h2: ∀n,(n,NameKind.free)∈scope.names->cl.lookup n=fm.env.cells.lookup n)
  (hA: ∀cenv l,cenv.scope=d7 scope fm.env.scope->v6 Pp C A ⟨cenv,l,false⟩ (fm::fs) conds ifs)(hE: ∀cenv l,cenv.scope=d7 scope fm.env.scope->c7 Pp C A ⟨cenv,l,false⟩ (fm::fs) elt el)
  (hl:j9 (lcF C x (only free fm.loc) conds elt) xs J= .ok ys aJ)
  {RR:Value->Addr->Result->Shared->Prop}(hQ: ∀G' a c mm s',G.le G'->St Pp G' (fm::fs) hs aJ s'->VR Pp G' (.lst ys) (.ref a)->G'.own c= .none->s'.heap.Ns c mm->RR (.ref a) c (.ok .next) s'):
  wpAny Pp.M A (newList []) (λacc aL=>wpAny Pp.M A (newFunctionEnv scope fm.env.globals cl [] fm.env.qual none .none (some fm.env)) (λcenv aV=>
   codeAny Pp.M A (.compStart (.ListComp el [⟨.Name (Pp.D.nm x) px,iter,ifs,0⟩] scope pos) 0 (.ref I) acc { cenv with scope:=relabel scope fm.env }) (RR acc cenv.locals) aV) E aL) E s:=by
 refine wpAny_newObj_type (wpAny_newFunctionEnv hk.cell (by intro y hy;simp at hy) (λaj bh bj=> ?_) hk.kind);dsimp only at bh bj⊢;generalize hH2:s.heap.push { cls:= .type "list",dict:=none,data:= .seq ([]:List Value).toArray }=H2 at bh bj⊢;have hC:H2.objs.size=s.heap.objs.size+1:=by rw[<-hH2,Heap.size_push]
 have hDC:s.heap.objs.size≠H2.objs.size:=by rw[hC];exact Nat.ne_of_lt (Nat.lt_succ_self _)
 have old: ∀b o,s.heap.get? b=some o->aj.get? b=some o:=λb o e=>
  bj.extBut b o (by rw[hC];exact Nat.ne_of_lt (Nat.lt_succ_of_lt (Heap.lt_size e))) (Heap.get?_push_of_some _ (hH2▸Heap.get?_push_of_some _ e))
 have hac:aj.get? s.heap.objs.size=some (a2c [] 0):=bj.extBut _ _ hDC (Heap.get?_push_of_some _ (hH2▸Heap.get?_push_size _ rfl));have f1:=S.fresh (Nat.le_refl s.heap.objs.size);have f2:=S.fresh (a:=H2.objs.size) (by rw[hC];exact Nat.le_succ _);have hIlt:=Heap.lt_size hIo;have hIa:I≠s.heap.objs.size:=Nat.ne_of_lt hIlt;have hIC:I≠H2.objs.size:=by rw[hC];exact Nat.ne_of_lt (Nat.lt_succ_of_lt hIlt)
 have main: ∀au:Shared,au={ s with heap:=aj,toks:=s.toks+([]:List (Str×Value)).length }->
   codeAny Pp.M A (.compLoop (.ListComp el [⟨.Name (Pp.D.nm x) px,iter,ifs,0⟩] scope pos) 0 (.ref I) (.ref s.heap.objs.size) (compEnvC scope cl H2.objs.size fm.env))
    (RR (.ref s.heap.objs.size) H2.objs.size) au/\W 0 au.heap:=by
  rintro au rfl
  have S1:St Pp G (fm::fs) hs J { s with heap:=aj,toks:=s.toks+([]:List (Str×Value)).length }:=S.kept ⟨rfl,rfl⟩ λb o _ e=>old b o e;have S2:=S1.pushHe (a:=s.heap.objs.size) f1 hac;have l2:G.le (G.add s.heap.objs.size (.he hs.length)):=(Gh.add_ext f1).le;have hI2:(G.add s.heap.objs.size (.he hs.length)).own I= .none:=by rw[Gh.add_ne hIa];exact hI
  have S3:=S2.pushHe (a:=I) hI2 (old _ _ hIo);have hC3:((G.add s.heap.objs.size (.he hs.length)).add I (.he (hs.length+1))).own H2.objs.size= .none:=by rw[Gh.add_ne hIC.symm,Gh.add_ne hDC.symm];exact f2
  have l3:G.le ((G.add s.heap.objs.size (.he hs.length)).add I (.he (hs.length+1))):=l2.trans (Gh.add_ext hI2).le;have x4:=Gh.add_ext (t:= .fr (fm::fs).length) hC3;have l4:=l3.trans x4.le;have hce: ∀a j,G.own a= .ce j->(((G.add s.heap.objs.size (.he hs.length)).add I (.he (hs.length+1))).add H2.objs.size (.fr (fm::fs).length)).own a= .ce j:=λa j e=>by
   rw[Gh.add_ne (λz=>by rw[z,f2]at e;cases e),Gh.add_ne (λz=>by rw[z,hI]at e;cases e),Gh.add_ne (λz=>by rw[z,f1]at e;cases e)];exact e
  have S4:=S3.pushFr (f:=⟨compEnvC scope cl H2.objs.size fm.env,only free fm.loc,false⟩) (s':={ s with heap:=aj,toks:=s.toks+([]:List (Str×Value)).length }) x4 (λ_=>rfl) (λb hb hb'=>by
   by_cases e:b=H2.objs.size
   ·subst e
    obtain⟨o,ho⟩:=a3v bh;exact .inl ⟨Gh.add_self,by show(aj.get? _).isSome=true;rw[ho];rfl⟩
   ·rw[Gh.add_ne e]at hb';exact absurd hb hb') ⟨rfl,rfl⟩ (λ_ _ _ e=>e) (a09 S.fr.1 hk l4 hce (Nat.le_succ _) h1 h2 Gh.add_self bh)
  have hw1:W 0 aj:=X.walks.frame _ _ _ hw λb _ o e=>old b o e;refine⟨?_,hw1⟩;refine d0n S4 ⟨X.walks,λb hb=>(X.fix b hb).imp id λf=>f.mono l4 λe m=>m,X.live,λi v hi hp=>let⟨a,ha,V⟩:=X.val i v hi hp;⟨a,ha,V.mono Pp l4⟩⟩ hw1 (lookup_relabel_local hk.lx) hlen (λa=>hA _ _ rfl) (λa=>hE _ _ rfl) hl ?_;intro G' lc vs m s' le S' V';obtain⟨mm,hns,_⟩:=S'.fr.1.loc;have hne:H2.objs.size≠s.heap.objs.size:=hDC.symm;obtain⟨l5,S5⟩:=S'.dropFr (s':=s') ⟨rfl,rfl⟩ λb o _ _ ho=>ho;obtain⟨G6,l6,o6,k6,S6⟩:=S5.freezeHe;exact hQ G6 _ H2.objs.size mm s' (l4.trans (le.trans (l5.trans l6))) S6 ⟨_,vs,m,rfl,o6,VRs.mono Pp (l5.trans l6) V'⟩ ((k6 _ hne).trans Gh.add_self) hns
 obtain⟨loop,hw1⟩:=main _ rfl;exact codeAny_compStart_list loop (X.walks.self 0 _ _ _ hw1 loop)
theorem b9j{elt:ME}{conds:MBs}{el iter:Expr}{ifs:List Expr}{scope:Scope}{pos px:Pos}{x:Nat}{free:List Nat}{I:Addr}{xs ys:List AV}{aJ:H}{P:Nat->Value->Prop}{fp:List Addr}{W:Nat->Heap->Prop}{oI:Obj}{cl:List (Str×Addr)}{Q E:VP}
  (S:St Pp G (fm::fs) hs J s)(X:SrcI Pp A G hs xs I P fp W)(hw:W 0 s.heap)(hI:G.own I= .none)(hIo:s.heap.get? I=some oI)(hk:ScopeOk Pp.D scope fm.env.scope x free)(hlen:xs.length<=100000)
  (h1: ∀n c,cl.lookup n=some c->fm.env.cells.lookup n=some c)(h2: ∀n,(n,NameKind.free)∈scope.names->cl.lookup n=fm.env.cells.lookup n)
  (hA: ∀cenv l,cenv.scope=d7 scope fm.env.scope->v6 Pp C A ⟨cenv,l,false⟩ (fm::fs) conds ifs)(hE: ∀cenv l,cenv.scope=d7 scope fm.env.scope->c7 Pp C A ⟨cenv,l,false⟩ (fm::fs) elt el)
  (hl:j9 (lcF C x (only free fm.loc) conds elt) xs J= .ok ys aJ)
  (hQ: ∀G' a s',G.le G'->St Pp G' (fm::fs) hs aJ s'->VR Pp G' (.lst ys) (.ref a)->Q (.ref a) s'):
  wpAny Pp.M A (newList []) (λacc aL=>wpAny Pp.M A (newFunctionEnv scope fm.env.globals cl [] fm.env.qual none .none (some fm.env)) (λcenv aV=>
   codeAny Pp.M A (.compStart (.ListComp el [⟨.Name (Pp.D.nm x) px,iter,ifs,0⟩] scope pos) 0 (.ref I) acc { cenv with scope:=relabel scope fm.env }) (compPost Pp.M A E none Q acc cenv.locals) aV) E aL) E s:=
 a3u (Q:=Q) (RR:=compPost Pp.M A E none Q) S X hw hI hIo hk hlen h1 h2 hA hE hl λG' a c mm s' le S' V' hc hns=>
  ⟨mm,hns,λh' hs'=>hQ G' a { s' with heap:=h' } le (S'.kept (s':={ s' with heap:=h' }) ⟨rfl,rfl⟩ λb o hb ho=>(hs'.2 b λe=>hb (by rw[e];exact hc)).trans ho) V'⟩
end
end
section
def Pn(J aw:H):Prop:= ∀j:Nat,aw[j]? =J[j]? \/(∃d,J[j]? =some (.idict d)/\aw[j]? =some (.pidict d))\/(∃d,J[j]? =some (.tdict d)/\aw[j]? =some (.ptdict d))
def Pu{α:Type}(J aw:H)(r rp:R α):Prop:= ∀v af,r= .ok v af->af=J/\rp= .ok v aw
section
variable{α:Type}{J aw:H}
theorem Pu.ok(v:α):Pu J aw (.ok v J) (.ok v aw):=λ_ _ h=>by cases h;exact⟨rfl,rfl⟩
theorem Pu.bad{rp:R α}:Pu J aw .bad rp:=nofun
theorem Pu.bind{β:Type}{r rp:R β}{f g:β->H->R α}(h:Pu J aw r rp)(k: ∀v,Pu J aw (f v J) (g v aw)):Pu J aw (r.bind f) (rp.bind g):=λv af e=>by
 obtain⟨a,ax,e1,e2⟩:=R.bind_ok e;obtain⟨rfl,e3⟩:=h _ _ e1;obtain⟨r1,r2⟩:=k a _ _ e2;exact⟨r1,by rw[e3];exact r2⟩
variable{a:AV}{z zp:R α}{o:Option AO}
theorem Pu.tg{n k:Nat}{f g:n=k->R α}(h: ∀e,Pu J aw (f e) (g e))(hz:Pu J aw z zp):Pu J aw (tg z n k f) (tg zp n k g):=
 Bool.casesOn (motive:=λb=> ∀q:Nat.beq n k=b,Pu J aw (Bool.casesOn (motive:=λb=>Nat.beq n k=b->R α) b (λ_=>z) (λh=>f (Nat.eq_of_beq_eq_true h)) q) (Bool.casesOn (motive:=λb=>Nat.beq n k=b->R α) b (λ_=>zp) (λh=>g (Nat.eq_of_beq_eq_true h)) q)) (Nat.beq n k) (λ_=>hz) (λ_=>h _) rfl
theorem Pu.int{f g}(h: ∀n,Pu J aw (f n) (g n))(hz:Pu J aw z zp):Pu J aw (d8 z a f) (d8 zp a g):= .tg (λe=>AV.int.elim (motive_1:=λa=> ∀e,Pu J aw (AV.int.elim a e f) (AV.int.elim a e g)) a e (λn _=>h n) e) hz
theorem Pu.str{f g}(h: ∀n,Pu J aw (f n) (g n))(hz:Pu J aw z zp):Pu J aw (K0 z a f) (K0 zp a g):= .tg (λe=>AV.str.elim (motive_1:=λa=> ∀e,Pu J aw (AV.str.elim a e f) (AV.str.elim a e g)) a e (λn _=>h n) e) hz
theorem Pu.bytes{f g}(h: ∀n,Pu J aw (f n) (g n))(hz:Pu J aw z zp):Pu J aw (q9 z a f) (q9 zp a g):= .tg (λe=>AV.bytes.elim (motive_1:=λa=> ∀e,Pu J aw (AV.bytes.elim a e f) (AV.bytes.elim a e g)) a e (λn _=>h n) e) hz
theorem Pu.lst{f g}(h: ∀n,Pu J aw (f n) (g n))(hz:Pu J aw z zp):Pu J aw (o4 z a f) (o4 zp a g):= .tg (λe=>AV.lst.elim (motive_1:=λa=> ∀e,Pu J aw (AV.lst.elim a e f) (AV.lst.elim a e g)) a e (λn _=>h n) e) hz
theorem Pu.tup{f g}(h: ∀n,Pu J aw (f n) (g n))(hz:Pu J aw z zp):Pu J aw (q5 z a f) (q5 zp a g):= .tg (λe=>AV.tup.elim (motive_1:=λa=> ∀e,Pu J aw (AV.tup.elim a e f) (AV.tup.elim a e g)) a e (λn _=>h n) e) hz
theorem Pu.obj{f g}(h: ∀n,Pu J aw (f n) (g n))(hz:Pu J aw z zp):Pu J aw (n4 z a f) (n4 zp a g):=by cases a<;>first |exact h _ |exact hz
theorem Pu.sd{f g}(h: ∀n,Pu J aw (f n) (g n))(hz:Pu J aw z zp):Pu J aw (c1x z a f) (c1x zp a g):= .tg (λe=>AV.sdict.elim (motive_1:=λa=> ∀e,Pu J aw (AV.sdict.elim a e f) (AV.sdict.elim a e g)) a e (λn _=>h n) e) hz
theorem Pu.non{f g}(h:Pu J aw f g)(hz:Pu J aw z zp):Pu J aw (q6 z a f) (q6 zp a g):= .tg (λ_=>h) hz
theorem Pu.wh{p:Bool}{f g:R α}(h:Pu J aw f g)(hz:Pu J aw z zp):Pu J aw (c6 z p f) (c6 zp p g):=by cases p<;>first |exact hz |exact h
theorem Pu.dfd{f g}(h:Pu J aw f g)(hz:Pu J aw z zp):Pu J aw (l9 z a f) (l9 zp a g):=by cases a<;>first |exact hz |exact h
theorem Pu.sm{β:Type}{o:Option β}{f g:β->R α}(h: ∀n,Pu J aw (f n) (g n))(hz:Pu J aw z zp):Pu J aw (g9 z o f) (g9 zp o g):=by cases o<;>first |exact hz |exact h _
theorem Pu.a1{β:Type}{l:List β}{f g:β->R α}(h: ∀n,Pu J aw (f n) (g n)):Pu J aw (u6 .bad l f) (u6 .bad l g):=by
 match l with
 |[]=>exact Pu.bad
 |[_]=>exact h _
 |_::_::_=>exact Pu.bad
theorem Pu.pI{f g}(h: ∀c n,Pu J aw (f c n) (g c n))(hz:Pu J aw z zp):Pu J aw (opI z o f) (opI zp o g):= .sm (λb=> .tg (λe=>AO.inst.elim (motive:=λb=> ∀e,Pu J aw (AO.inst.elim b e f) (AO.inst.elim b e g)) b e (λc n _=>h c n) e) hz) hz
theorem Pu.pE{f g}(h: ∀c n k,Pu J aw (f c n k) (g c n k))(hz:Pu J aw z zp):Pu J aw (R6 z o f) (R6 zp o g):= .sm (λb=> .tg (λe=>AO.exc.elim (motive:=λb=> ∀e,Pu J aw (AO.exc.elim b e f) (AO.exc.elim b e g)) b e (λc n k _=>h c n k) e) hz) hz
theorem Pu.pL{f g}(h: ∀n,Pu J aw (f n) (g n))(hz:Pu J aw z zp):Pu J aw (W6 z o f) (W6 zp o g):= .sm (λb=> .tg (λe=>AO.list.elim (motive:=λb=> ∀e,Pu J aw (AO.list.elim b e f) (AO.list.elim b e g)) b e (λn _=>h n) e) hz) hz
theorem Pu.pD{f g}(h: ∀n,Pu J aw (f n) (g n))(hz:Pu J aw z zp):Pu J aw (W9 z o f) (W9 zp o g):= .sm (λb=> .tg (λe=>AO.idict.elim (motive:=λb=> ∀e,Pu J aw (AO.idict.elim b e f) (AO.idict.elim b e g)) b e (λn _=>h n) e) hz) hz
theorem Pu.pT{f g}(h: ∀n,Pu J aw (f n) (g n))(hz:Pu J aw z zp):Pu J aw (opT z o f) (opT zp o g):= .sm (λb=> .tg (λe=>AO.tdict.elim (motive:=λb=> ∀e,Pu J aw (AO.tdict.elim b e f) (AO.tdict.elim b e g)) b e (λn _=>h n) e) hz) hz
theorem Pu.pPD{f g}(h: ∀n,Pu J aw (f n) (g n))(hz:Pu J aw z zp):Pu J aw (b4n z o f) (b4n zp o g):= .sm (λb=> .tg (λe=>AO.pidict.elim (motive:=λb=> ∀e,Pu J aw (AO.pidict.elim b e f) (AO.pidict.elim b e g)) b e (λn _=>h n) e) hz) hz
theorem Pu.pPT{f g}(h: ∀n,Pu J aw (f n) (g n))(hz:Pu J aw z zp):Pu J aw (c13 z o f) (c13 zp o g):= .sm (λb=> .tg (λe=>AO.ptdict.elim (motive:=λb=> ∀e,Pu J aw (AO.ptdict.elim b e f) (AO.ptdict.elim b e g)) b e (λn _=>h n) e) hz) hz
end
section
variable{J aw:H}
theorem b2t(op:BOp)(a b:AV):Pu J aw (c3j op a b J) (c3j op a b aw):=
 .int (λ_=> .int (λ_=> .sm (λ_=> .ok _) .bad) .bad) (.lst (λ_=> .lst (λ_=> .wh (.ok _) .bad) (.int (λ_=> .wh (.ok _) .bad) .bad))
  (.tup (λ_=> .tup (λ_=> .wh (.ok _) .bad) .bad) (.bytes (λ_=> .int (λ_=> .a1 λ_=> .wh (.ok _) .bad) .bad) .bad)))
theorem a32(p:Pn J aw)(a:AV):D9 aw a=D9 J a:=by
 cases a with
 |obj id=>
  show W6 _ _ _=W6 _ _ _;rcases p id with e |⟨d,e1,e2⟩ |⟨d,e1,e2⟩
  ·rw[e]
  ·rw[e1,e2];rfl
  ·rw[e1,e2];rfl
 |_=>rfl
theorem Pu.neg{r rp:R AV}(h:Pu J aw r rp):Pu J aw (a0a r) (a0a rp):=λv af e=>by
 cases r with
 |ok a ax=>
  obtain⟨rfl,e1⟩:=h _ _ rfl;refine n6 (· =R.ok v af) e (λb q_ e=> ?_) λe=> ?_
  ·subst q_
   cases e;exact⟨rfl,by rw[e1];rfl⟩
  ·cases e
 |exc id ax=>cases e
 |bad=>cases e
theorem J0(a b:AV)(f:Int->Int->Bool):Pu J aw (a84 a b J f) (a84 a b aw f):= .int (λ_=> .int (λ_=> .ok _) .bad) .bad
theorem a2j(p:Pn J aw)(a b:AV):Pu J aw (a7c a b J) (a7c a b aw):=by
 unfold a7c;rw[a32 p,a32 p];exact .sm (λ_=> .ok _) .bad
theorem O9(a b:AV):Pu J aw (I7 a b J) (I7 a b aw):= .dfd (.non (.ok _) .bad) .bad
theorem b2x{op:COp}(p:Pn J aw)(ho:d1n op=true)(a b:AV):Pu J aw (w0 op a b J) (w0 op a b aw):=by
 cases op with
 |In=>cases ho
 |NotIn=>cases ho
 |Lt=>exact J0 _ _ _
 |LtE=>exact J0 _ _ _
 |Gt=>exact J0 _ _ _
 |GtE=>exact J0 _ _ _
 |Eq=>exact a2j p _ _
 |NotEq=>exact(a2j p _ _).neg
 |Is=>exact O9 _ _
 |IsNot=>exact(O9 _ _).neg
theorem a0t(l:List AV)(n:Int):Pu J aw (nth l n J) (nth l n aw):= .wh (.sm (λ_=> .ok _) .bad) .bad
theorem b3i(o:Option AO)(i:AV):Pu J aw (a8p o i J) (a8p o i aw):=
 .pL (λ_=> .int (λ_=>a0t _ _) .bad) (.pD (λ_=> .int (λ_=> .sm (λ_=> .ok _) .bad) .bad) (.pT (λ_=> .tup (λ_=> .sm (λ_=> .sm (λ_=> .ok _) .bad) .bad) .bad)
  (.pPD (λ_=> .int (λ_=> .sm (λ_=> .ok _) .bad) .bad) (.pPT (λ_=> .tup (λ_=> .sm (λ_=> .sm (λ_=> .ok _) .bad) .bad) .bad) .bad))))
theorem b3c(p:Pn J aw)(a b:AV):Pu J aw (a2v a b J) (a2v a b aw):=
 .lst (λ_=> .int (λ_=>a0t _ _) .bad) (.tup (λ_=> .int (λ_=>a0t _ _) .bad) (.sd (λ_=> .str (λ_=> .sm (λ_=> .ok _) .bad) .bad) (.obj (λid=>by
  have e:a8p aw[id]? b aw=a8p J[id]? b aw:=by
   rcases p id with e |⟨d,e1,e2⟩ |⟨d,e1,e2⟩
   ·rw[e]
   ·rw[e1,e2];rfl
   ·rw[e1,e2];rfl
  rw[e];exact b3i _ _) .bad)))
theorem a8i(f g:Nat->Nat->Bool)(a:AV)(x:Nat)(p:Pn J aw):Pu J aw (a0n f g a x J) (a0n f g a x aw):=
 .obj (λid=>by
  rcases p id with e |⟨d,e1,e2⟩ |⟨d,e1,e2⟩
  ·rw[e];exact .pI (λ_ _=> .wh (.dfd (.ok _) .bad) .bad) (.pE (λ_ _ _=> .wh (.dfd (.ok _) .bad) .bad) .bad)
  ·rw[e1];exact .bad
  ·rw[e1];exact .bad) .bad
mutual
theorem v0{C:Cx}{l:Loc}(p:Pn J aw): ∀(e:ME),p7 e=true->Pu J aw (a6 C l e J) (a6 C l e aw)
 | .int i,_=> .ok _
 | .str i,_=> .ok _
 | .none,_=> .ok _
 | .bool i,_=> .ok _
 | .loc x,_=> .dfd (.ok _) .bad
 | .glo x,_=> .dfd (.ok _) .bad
 | .bin op a b,hp=> .bind (v0 p a (an hp).1) λ_=> .bind (v0 p b (an hp).2) λ_=>b2t _ _ _
 | .cmp op a b,hp=> .bind (v0 p a (an (an hp).1).2) λ_=> .bind (v0 p b (an hp).2) λ_=>b2x p (an (an hp).1).1 _ _
 | .idx a b,hp=> .bind (v0 p a (an hp).1) λ_=> .bind (v0 p b (an hp).2) λ_=>b3c p _ _
 | .tup es,hp=> .bind (pure_Es p es hp) λ_=> .ok _
 | .attr a x,hp=> .bind (v0 p a hp) λ_=>a8i _ _ _ _ p
 | .neg _,hp | .inv _,hp | .not _,hp | .boolop _ _,hp | .chain ..,hp | .ite ..,hp | .call ..,hp | .meth ..,hp | .initOf ..,hp
 | .sliceTo ..,hp | .slice2 ..,hp | .rev _,hp | .lstF _,hp | .lstM _,hp | .dict0,hp | .dictT,hp | .lcomp ..,hp | .dcomp ..,hp | .fstr _,hp=>absurd hp Bool.false_ne_true
theorem pure_Es{C:Cx}{l:Loc}(p:Pn J aw): ∀(es:MEs),pureEs es=true->Pu J aw (evalEs C l es J) (evalEs C l es aw)
 | .nil,_=> .ok _
 | .cons e r,hp=> .bind (v0 p e (an hp).1) λ_=> .bind (pure_Es p r (an hp).2) λ_=> .ok _
end
theorem c08{r rp:R AV}(h:Pu J aw r rp):Pu J aw r.tru rp.tru:= .bind h λ_=> .sm (λ_=> .ok _) .bad
theorem a07{C:Cx}{l:Loc}(p:Pn J aw): ∀(ts:MBs),G5 ts=true->Pu J aw (allE C l ts J) (allE C l ts aw)
 | .nil,_=> .ok _
 | .cons (.of e) r,hp=> .bind (c08 (v0 p e (an hp).1)) λb=>match b with
  |true=>a07 p r (an hp).2
  |false=> .ok _
 | .cons (.not _) _,hp | .cons (.ops _ _) _,hp | .cons (.ite _ _ _) _,hp | .cons (.chain3 ..) _,hp=>absurd hp Bool.false_ne_true
theorem C9{α:Type}{f:AV->H->R (Option α)}(hf: ∀a,Pu J aw (f a J) (f a aw)): ∀(xs:List AV)(ys:List α)(aJ:H),j9 f xs J= .ok ys aJ->aJ=J/\j9 f xs aw= .ok ys aw
 |[],ys,aJ,h=>by cases h;exact⟨rfl,rfl⟩
 |x::r,ys,aJ,h=>by
  obtain⟨o,af,l,e1,e2,rfl⟩:=L7 h;obtain⟨r1,q1⟩:=hf _ _ _ e1;rw[r1]at e2;obtain⟨r2,q2⟩:=C9 hf _ _ _ e2;refine⟨r2, ?_⟩;show okO (f x aw) (λo af=>okO (j9 f r af) λl ax=> .ok (T0 o l) ax)=_;rw[q1];show okO (j9 f r aw) (λl ax=> .ok (T0 o l) ax)=_;rw[q2];rfl
theorem a7k{C:Cx}{x:Nat}{l:Loc}{conds:MBs}{elt:ME}(p:Pn J aw)(h1:G5 conds=true)(h2:p7 elt=true)(a:AV):Pu J aw (lcF C x l conds elt a J) (lcF C x l conds elt a aw):=
 .bind (a07 p conds h1) λb=>match b with
  |true=> .bind (v0 p elt h2) λ_=> .ok _
  |false=> .ok _
end
end
section
section
variable{Pp:Par}
variable{G G':Gh}{fm:Fm}{fs:List Fm}{hs:Hs}{J ae:H}{s s':Shared}{A:Around}{C:Cx}{n:Nat}
theorem c58: ∀{d:List (Int×AV)}{kvs:List (Int×Value)}{i:Nat}{kv:Int×Value},KVR Pp G d kvs->kvs[i]? =some kv-> ∃q,d[i]? =some q/\q.1=kv.1
 |[],[],i,kv,_,h=>by simp at h
 |a::r,v::q,0,kv,h,e=>by rw[List.getElem?_cons_zero]at e;cases e;exact⟨a,rfl,h.1⟩
 |a::r,v::q,i+1,kv,h,e=>by simpa using c58 (d:=r) (kvs:=q) (i:=i) h.2.2 (by simpa using e)
 |[],_::_,_,_,h,_=>h.elim
 |_::_,[],_,_,h,_=>h.elim
theorem a68: ∀{ks:List KA}{vs:List Value},ItemsAre (k9 Pp) ks vs->VRs Pp G (ks.map v8) vs
 |_,_, .nil=>trivial
 |_,_, .cons (k:=k) (v:=v) h r=>by
  refine⟨?_,a68 r⟩;have h':a88 Pp k v=true:=h;cases k with
  |i n=>exact Value.isInt_shape h'
  |s x=>exact Value.isStrOf_shape h'
theorem c39{id:Nat}{ao ap:AO}{p:Addr×Addr}{od:Obj}(S:St Pp G fs hs J s)(hid:J[id]? =some ao)(hp:G.ρ id=some p)(n1:L5 ao=false)(n2:L5 ap=true)(h1:G.own p.1= .ob id)(ho:s.heap.get? p.1=some od)
  (e: ∀G h q,OR Pp G h id q ao=OR Pp G h id q ap)(hd:(∃d,ao= .idict d/\ap= .pidict d)\/ ∃d,ao= .tdict d/\ap= .ptdict d):
  Pn J (J.set id ap)/\St Pp G fs (.pin id od::hs) (J.set id ap) s/\ ∀τ G' fs' s',G.le G'->St Pp G' fs' (.pin id od::hs) (J.set id ap++τ) s'->St Pp G' fs' hs (J++τ) s':=by
 have hil:=(List.getElem?_eq_some_iff.mp hid).1;refine⟨λj=> ?_,S.pinOb hid hp n1 n2 h1 ho (e _ _ _▸S.at hp hid),λτ G' fs' s' le S''=> ?_⟩
 ·by_cases q:id=j
  ·subst q
   rw[List.getElem?_set_self hil];rcases hd with ⟨d,rfl,rfl⟩ |⟨d,rfl,rfl⟩
   ·exact .inr (.inl ⟨d,hid,rfl⟩)
   ·exact .inr (.inr ⟨d,hid,rfl⟩)
  ·rw[List.getElem?_set_ne q];exact .inl rfl
 ·have hid':(J.set id ap++τ)[id]? =some ap:=by rw[List.getElem?_append_left (by rw[List.length_set];exact hil)];exact List.getElem?_set_self hil
  obtain⟨q,hq,r⟩:=S''.ob _ _ hid';have:=S''.unpin (ao:=ao) hq ((e _ _ _).symm▸r);rw[List.set_append_left _ _ (by rw[List.length_set];exact hil),List.set_set,a6r hid]at this;exact this
def c6s(Pp:Par)(A:Around)(G:Gh)(fs:List Fm)(hs:Hs)(J:H)(s:Shared)(id:Nat)(xs:List AV)(Q:VP):Prop:=
 ∀ap o oI P fp W,Pn J (J.set id ap)->St Pp G fs (.pin id o::hs) (J.set id ap) s->
   (∀τ G' fs' s',G.le G'->St Pp G' fs' (.pin id o::hs) (J.set id ap++τ) s'->St Pp G' fs' hs (J++τ) s')->oI.isFreed=false->
   SrcI Pp A G (.pin id o::hs) xs s.heap.objs.size P fp W->W 0 (s.heap.push oI)->Q (.ref s.heap.objs.size) { s with heap:=s.heap.push oI }
theorem b96{id:Nat}{p:Addr×Addr}{ao ap:AO}{od:Obj}{es:Array DictEntry}{ep:Nat}{xs:List AV}{Q E:VP}(S:St Pp G fs hs J s)(hp:G.ρ id=some p)(hsys:(Pp.base.get? sysModules).isSome=true)(hh:A.handled=none)
  (hid:J[id]? =some ao)(n1:L5 ao=false)(n2:L5 ap=true)(h1:G.own p.1= .ob id)(ho:s.heap.get? p.1=some od)(hc:od.ExactDict)(hdat:od.data= .dict es ep)
  (e: ∀G h q,OR Pp G h id q ao=OR Pp G h id q ap)(hd:(∃d,ao= .idict d/\ap= .pidict d)\/ ∃d,ao= .tdict d/\ap= .ptdict d)(hl:es.size=xs.length)
  (hv: ∀i e,i<xs.length->es[i]? =some e-> ∃a,xs[i]? =some a/\VR Pp G a e.key)(hQ:c6s Pp A G fs hs J s id xs Q):wpAny Pp.M A (pyIter (.ref p.1)) Q E s:=by
 obtain⟨pn,S',un⟩:=c39 S hid hp n1 n2 h1 ho e hd;have hne:p.1≠s.heap.objs.size:=Nat.ne_of_lt (Heap.lt_size ho);refine b7b (I0 S hsys h1) ho hc hdat (hQ ap od _ (λi v=> ∃e,es[i]? =some e/\v=e.key) [s.heap.objs.size,p.1] (λi h=>h.IsKeyIter s.heap.objs.size p.1 i es.size ep/\h.get? p.1=some od) pn S' un rfl ⟨by rw[<-hl];exact b4o hh _ p.1 hne od es ep hdat,λb hb=> ?_,λi h hw=> ?_,λi v hi ⟨e,he,z⟩=>z▸hv i e hi he⟩ ⟨⟨_,Heap.get?_push_size _ rfl,rfl,rfl⟩,Heap.get?_push_of_some _ ho⟩)
 ·rcases List.mem_cons.mp hb with rfl |hb
  ·exact .inl rfl
  ·rw[List.mem_singleton.mp hb];exact .inr (.inr ⟨id,od,p, .head _,hp,rfl⟩)
 ·obtain⟨⟨o,ho,hc,_⟩,_⟩:=hw;exact⟨o,_,ho,hc,by decide⟩
theorem a01{id:Nat}{u:Value}{xs:List AV}{Q E:VP}(S:St Pp G fs hs J s)(V:VR Pp G (.obj id) u)(hsys:(Pp.base.get? sysModules).isSome=true)(hh:A.handled=none)(e:b6s J (.obj id)=some (xs,true))
  (hQ:c6s Pp A G fs hs J s id xs Q):wpAny Pp.M A (pyIter u) Q E s:=by
 refine a8 λp_ ah=> ?_;obtain⟨p,hp,rfl⟩:=V;replace e:W9 (opT none J[id]? λd=>some (d.map λp=>AV.tup (p.1.map v8),true)) J[id]? (λd=>some (d.map λp=>AV.int p.1,true))=some (xs,true):=e;refine ah ?_;refine K7 (· =some (xs,true)) e (λd hid e=> ?_) λe=> ?_
 ·cases e
  refine a8 λp_ ah=> ?_;obtain⟨h1,kvs,h2,h3⟩:=S.at hp hid;have h2c:=h2;obtain⟨od,es,ep,ho,hc,hdat,hks,hps,hnd⟩:=h2c;have hl1:es.size=kvs.length:=by rw[<-hps.length];simp
  have hl:es.size=(d.map λq:Int×AV=>AV.int q.1).length:=by rw[hl1,h3.len,List.length_map]
  refine ah ?_;refine b96 (ap:= .pidict d) S hp hsys hh hid rfl rfl h1 ho hc hdat (λ_ _ _=>rfl) (.inl ⟨d,rfl,rfl⟩) hl (λi e hi he=> ?_) hQ;refine a8 λp_ ah=> ?_;obtain⟨kv,hkv⟩: ∃kv,kvs[i]? =some kv:=⟨_,List.getElem?_eq_getElem (by rw[<-hl1,hl];exact hi)⟩
  obtain⟨q,hq,e1⟩:=c58 h3 hkv;refine ah ?_;refine⟨.int q.1,by rw[List.getElem?_map,hq];rfl, ?_⟩;have:=(hps.get? (e:=e) (by simpa using he) (k:=kv.1) (v:=kv.2) hkv).1;rw[<-e1]at this;exact Value.isInt_shape this
 ·refine a05 (· =some (xs,true)) e (λd hid e=> ?_) λz_=>absurd z_ ((nomatch ·))
  cases e;refine a8 λp_ ah=> ?_;obtain⟨h1,kvs,h2,h3⟩:=S.at hp hid;have h2c:=h2;obtain⟨od,es,ep,ho,hc,hdat,hes,his,hnd⟩:=h2c;have hl1:es.size=kvs.length:=size_of_entries hes;have hl2:kvs.length=d.length:=by have:=congrArg List.length h3.1;simpa using this
  have hl:es.size=(d.map λq:List KA×Int=>AV.tup (q.1.map v8)).length:=by rw[hl1,hl2,List.length_map]
  refine ah ?_;refine b96 (ap:= .ptdict d) S hp hsys hh hid rfl rfl h1 ho hc hdat (λ_ _ _=>rfl) (.inr ⟨d,rfl,rfl⟩) hl (λi e hi he=> ?_) hQ;refine a8 λp_ ah=> ?_;obtain⟨kv,hkv⟩: ∃kv,kvs[i]? =some kv:=⟨_,List.getElem?_eq_getElem (by rw[<-hl1,hl];exact hi)⟩
  rw[entry_at hes,hkv]at he;refine ah ?_;cases he;refine a8 λp_ ah=> ?_;obtain⟨q,hq⟩: ∃q,d[i]? =some q:=⟨_,List.getElem?_eq_getElem (by rw[List.length_map]at hi;exact hi)⟩
  have e1:q.1=kv.1:=by
   have:=congrArg (λl:List (List KA)=>l[i]?) h3.1;simp only [List.getElem?_map,hkv,hq,Option.map_some,Option.some.injEq]at this;exact this.symm
  have hm:kv∈kvs:=List.mem_of_getElem? hkv;obtain⟨vs,k,own⟩:=h3.2.1 kv hm;refine ah ?_;refine⟨.tup (q.1.map v8),by rw[List.getElem?_map,hq];rfl,kv.2.1,vs,k,rfl,own, ?_⟩;refine a8 λp_ ah=> ?_;obtain⟨o,items,m,ho',_,hd',hi'⟩:=his kv hm;rw[S.fz _ _ own]at ho';refine ah ?_;cases ho';cases hd';rw[e1];exact a68 hi'
theorem L6{v:AV}{xs:List AV}{live:Bool}(e:b6s J v=some (xs,live)):(live=false/\b3w v=some xs)\/(live=true/\ ∃id,v= .obj id):=by
 refine y3 (· =some (xs,live)) e (λl q_ e=> ?_) λe=> ?_
 ·subst q_
  cases e;exact .inl ⟨rfl,rfl⟩
 refine y4 (· =some (xs,live)) e (λl q_ e=> ?_) λe=> ?_
 ·subst q_
  cases e;exact .inl ⟨rfl,rfl⟩
 refine u0 (· =some (xs,live)) e (λid q_ e=> ?_) λz_=>absurd z_ ((nomatch ·));subst q_;refine .inr ⟨?_,_,rfl⟩;refine K7 (· =some (xs,live)) e (λd hid e=> ?_) λe=> ?_
 ·cases e;rfl
 ·refine a05 (· =some (xs,live)) e (λd hid e=> ?_) λz_=>absurd z_ ((nomatch ·))
  cases e;rfl
theorem a4c{α:Type}{f:AV->H->R (Option α)}{xs:List AV}{g:List α->H->R AV}{Q E:VP}(h:SP Pp G fs hs ((j9 f xs J).bind g) Q E): ∃ys aJ,j9 f xs J= .ok ys aJ/\SP Pp G fs hs (g ys aJ) Q E:=by
 cases r:j9 f xs J with
 |ok ys aJ=>rw[r]at h;exact⟨ys,aJ,rfl,h⟩
 |exc id aJ=>exact absurd r T4
 |bad=>rw[r]at h;exact h.elim
theorem b0b{p:Bool}{q:Bool}(h:(!p||q)=true)(hp:p=true):q=true:=by subst hp;exact h
theorem c1c{x:Nat}{free:List Nat}{it elt:ME}{conds:MBs}{el iter:Expr}{ifs:List Expr}{scope:Scope}{px pos:Pos}(c:Ctx1 Pp C A (fm::fs) n)(hk:ScopeOk Pp.D scope fm.env.scope x free)
  (hit:c7 Pp C A fm fs it iter)
  (hA: ∀cenv l,cenv.scope=d7 scope fm.env.scope->v6 Pp C A ⟨cenv,l,false⟩ (fm::fs) conds ifs)(hE: ∀cenv l,cenv.scope=d7 scope fm.env.scope->c7 Pp C A ⟨cenv,l,false⟩ (fm::fs) elt el)
  (hs': ∀x,foldedSetIterable iter fm.env x=pure x):c7 Pp C A fm fs (.lcomp x free it conds elt) (.ListComp el [⟨.Name (Pp.D.nm x) px,iter,ifs,0⟩] scope pos):=λG hs J s Q E S h=>by
 refine a8 λp_ ah=> ?_;obtain⟨cl,hcl,h1,h2⟩:=C0 S.fr.1 hk;refine ah ?_;rw[eval_ListComp];refine wpAny_comprehension_free (use:=none) rfl hs' hcl hk.kind hk.loc (hit G hs J s _ E S (h.bind λv af ak u au br aC am ay aj=> ?_));refine a8 λp_ ah=> ?_;clear br h S;replace aj:=aj.sm;obtain⟨⟨xs,live⟩,hsrc,aj⟩:=aj;replace aj:=aj.wh;obtain⟨hc,aj⟩:=aj;obtain⟨hc,hpu⟩:=an hc;obtain⟨hz,hle⟩:=an hc;have hh:=c.a.hz hz;have hlen:xs.length<=100000:=q7 hle;clear hle;obtain⟨ys,aJ,hl,hfin⟩:=a4c aj;replace hl:j9 (lcF C x (only free fm.loc) conds elt) xs af= .ok ys aJ:=hl;clear aj hc;refine ah ?_;rcases L6 hsrc with ⟨_,hsrc⟩ |⟨rfl,id,rfl⟩
 ·exact N7 am ay hh hsrc λo P fp W ho X hw=>b9j (am.push o au.toks) X hw (am.fresh (Nat.le_refl _)) (Heap.get?_push_size _ ho) hk hlen h1 h2 hA hE hl λG' a s' le S' V'=>hfin G' _ s' le S' V'
 ·refine a01 am ay c.sys hh hsrc λap o oI P fp W pn Sp un ho X hw=> ?_
  refine a8 λp_ ah=> ?_;obtain⟨p1,p2⟩:=an (b0b hpu rfl);obtain⟨r1,hl'⟩:=C9 (λa=>a7k pn p1 p2 a) _ _ _ hl;refine ah ?_;subst r1;exact b9j (Sp.push oI au.toks) X hw (am.fresh (Nat.le_refl _)) (Heap.get?_push_size _ ho) hk hlen h1 h2 hA hE hl' λG' a s' le S' V'=>hfin G' _ s' le (by simpa using un [] G' _ s' le (by simpa using S')) V'
end
end
section
noncomputable def dcF(C:Cx)(x:Nat)(l:Loc)(conds:MBs)(key val:ME):AV->H->R (Option (List KA×Int)):=λa J=>(allE C (upd l x a) conds J).bind λb J=>match b with
 |true=>(a6 C (upd l x a) key J).bind λy J=>(a6 C (upd l x a) val J).bind λz J=>a67 .bad y λk=>d8 .bad z λn=> .ok (some (k,n)) J
 |false=> .ok none J
theorem b7w{C:Cx}{x:Nat}{l:Loc}{conds:MBs}{key val:ME}{J aw:H}(p:Pn J aw)(h1:G5 conds=true)(h2:p7 key=true)(h2':p7 val=true)(a:AV):Pu J aw (dcF C x l conds key val a J) (dcF C x l conds key val a aw):=
 .bind (a07 p conds h1) λb=>match b with
  |true=> .bind (v0 p key h2) λ_=> .bind (v0 p val h2') λ_=> .tup (λ_=> .sm (λ_=> .int (λ_=> .ok _) .bad) .bad) .bad
  |false=> .ok _
section
variable{Pp:Par}
variable{G G':Gh}{fm:Fm}{fs:List Fm}{hs:Hs}{J ae:H}{s s':Shared}{A:Around}{C:Cx}{n:Nat}
theorem P8(xs:List (List KA×Addr×Value))(k:List KA)(a:Addr)(v:Value):(storedH xs k a v).length<=xs.length+1:=by
 unfold storedH
 split
 ·rw[List.length_map];lia
 ·rw[List.length_append,List.length_singleton];lia
theorem St.obHe{a:Addr}{o:Obj}{ao:AO}(S:St Pp G fs (.he a o::hs) J s)(hR: ∀G',G.le G'->G'.own a= .ob J.length->OR Pp G' s.heap J.length (a,a) ao):
  ∃G',G.le G'/\St Pp G' fs hs (J++[ao]) s/\VR Pp G' (.obj J.length) (.ref a):=by
 have hg:=S.heOwn.2;obtain⟨le,S'⟩:=S.dropHe (s':=s) ⟨rfl,rfl⟩ λ_ _ _ _ h=>h;have aY:(G.add a .none).ρ J.length=none:=by
  cases q:(G.add a .none).ρ J.length with
  |none=>rfl
  |some p=>exact absurd (S'.dom _ _ q) (Nat.lt_irrefl _)
 let G':Gh:=⟨λi=>if i=J.length then some (a,a)else (G.add a .none).ρ i,λb=>if b=a then .ob J.length else (G.add a .none).own b⟩
 have x:(G.add a .none).ext G':=⟨λb hb=>if_neg λ(e:b=a)=>hb (by rw[e];exact Gh.add_self),λi p hp=>(if_neg λ(e:i=J.length)=>by rw[e,aY]at hp;cases hp).trans hp⟩
 refine⟨G',le.trans x.le,S'.pushOb (p:=(a,a)) x (λi hi=>if_neg hi) (if_pos rfl) (λb hb hb'=> ?_) ⟨rfl,rfl⟩ (λb o' _ e=>e) (hR G' (le.trans x.le) (if_pos rfl)),⟨_,if_pos rfl,rfl⟩⟩
 by_cases e:b=a
 ·subst e;exact .inl ⟨if_pos rfl,by rw[hg];rfl⟩
 ·exact absurd ((if_neg e:G'.own b=(G.add a .none).own b).trans hb) hb'
theorem F8{ak:Gh}{cf cg:List Fm}{aX bF:Hs}{af ax:H}{au aD:Shared}{a:Addr}{d:List (List KA×Int)}{xs:List (List KA×Addr×Value)}(am:St Pp G cf aX af au)(av:St Pp ak cg bF ax aD)(le:G.le ak)
  (e:aD.heap.get? a=au.heap.get? a)(T:TVR G d xs)(h:au.heap.DictOfH (tupleKind (k9 Pp)) a xs):aD.heap.DictOfH (tupleKind (k9 Pp)) a xs:=by
 refine a8 λp_ ah=> ?_;obtain⟨o,es,ep,ho,e1,e2,e3,e4,e5⟩:=h;refine ah ?_;refine⟨o,es,ep,e.trans ho,e1,e2,e3,λy hy=>A8 (e4 y hy) λo' ho'=> ?_,e5⟩;refine a8 λp_ ah=> ?_;obtain⟨vs,n,own⟩:=T.2.1 y hy;rw[am.fz _ _ own]at ho';cases ho';refine ah ?_;exact av.fz _ _ (le.fz _ _ own)
noncomputable def a0z(d:List (List KA×Int))(ys:List (List KA×Int)):List (List KA×Int):=ys.foldl (λd p=>i5 d p.1 p.2) d
inductive DcI (Pp:Par) (F:AV->H->R (Option (List KA×Int))) (G:Gh) (fs:List Fm) (hs:Hs) (cenv:Env) (x:Nat) (aN:Loc) (xs:List AV) (D:List (List KA×Int)) (aJ:H) (W:Nat->Heap->Prop) (I ac:Addr) (k:Nat) (s:Shared):Prop
 |mk (i:Nat) (G':Gh) (ae:H) (oI oD:Obj) (lc:Loc) (d aa:List (List KA×Int)) (xsd:List (List KA×Addr×Value)) (hk:k=xs.length+1-i) (hi:i<=xs.length) (le:G.le G') (S:St Pp G' (⟨cenv,lc,false⟩::fs) (.he I oI:: .he ac oD::hs) ae s)
   (hw:W i s.heap) (hD:s.heap.DictOfH (tupleKind (k9 Pp)) ac xsd) (T:TVR G' d xsd) (hv:xsd.length<=i) (hl:j9 F (xs.drop i) ae= .ok aa aJ) (hf:D=a0z d aa) (hu: ∀a,upd lc x a=upd aN x a):DcI Pp F G fs hs cenv x aN xs D aJ W I ac k s
theorem d1f{bD:Gh}{F:AV->H->R (Option (List KA×Int))}{cenv:Env}{x:Nat}{aN:Loc}{xs:List AV}{D:List (List KA×Int)}{aJ bw:H}{W:Nat->Heap->Prop}{I ac:Addr}{i:Nat}{bq:Shared}{aO oD:Obj}{y z:AV}{u v:Value}{o:Option (List KA×Int)}{af:H}{l d:List (List KA×Int)}{xsd:List (List KA×Addr×Value)}{P:Nat->Value->Prop}{fp:List Addr}{a:AV}{E:VP}
  (X:SrcI Pp A G hs xs I P fp W)(le:G.le bD)(hi:i<xs.length)(hlen:xs.length<=100000)(hroom:A.units<cLine)
  (S:St Pp bD (⟨cenv,upd aN x a,false⟩::fs) (.he I aO:: .he ac oD::hs) bw bq)(hw:W (i+1) bq.heap)(V:VR Pp bD y u)(V':VR Pp bD z v)(e:(a67 .bad y λk=>d8 .bad z λn=>R.ok (some (k,n)) bw)= .ok o af)
  (hD:bq.heap.DictOfH (tupleKind (k9 Pp)) ac xsd)(T:TVR bD d xsd)(hv:xsd.length<=i)(hl:j9 F (xs.drop (i+1)) af= .ok l aJ)(hf:D=a0z d (T0 o l)){Q:Unit->Shared->Prop}
  (hQ: ∀s',DcI Pp F G fs hs cenv x aN xs D aJ W I ac (xs.length+1-(i+1)) s'->Q () s'):wpAny Pp.M A (dictSet ac u v) Q E bq:=by
 refine y4 (· =R.ok o af) e (λks q_ e=> ?_) λz_=>absurd z_ ((nomatch ·));subst q_;refine j5 (· =R.ok o af) e (λkk hkk e=> ?_) λz_=>absurd z_ ((nomatch ·));refine n3 (· =R.ok o af) e (λm q_ e=> ?_) λz_=>absurd z_ ((nomatch ·));subst q_;cases e;obtain⟨ka,kvs,kn,rfl,own,kV⟩:=V;obtain⟨t,rfl⟩:=V';refine wpAny_dictSet_heap (knd:=tupleKind (k9 Pp)) hroom (a2w S own kV hkk) hD (λh' g1 g2=> ?_) (by rw[sizeLine_eq];lia);obtain⟨oD',hoD'⟩:=Option.isSome_iff_exists.mp (O5 g1);have bJ:=S.setHe2 (s':={ bq with heap:=h',toks:=bq.toks+(tupleKind (k9 Pp)).draws kk }) (oa':=oD') ⟨rfl,rfl⟩ (λc o hc _ ho=>(g2.2 c hc).trans ho) hoD';have de:=X.keep le (.refl _) S bJ (λe m=> .tail _ m) (λe m=> .tail _ m) hw;exact hQ _ ⟨i+1,bD,_,aO,oD',upd aN x a,i5 d kk m,l,_,rfl,hi,le,bJ,de,g1,T.set own m t,Nat.le_trans (P8 xsd kk ka (.int m t)) (Nat.succ_le_succ hv),hl,hf,λb=>W0 _ _ _ _⟩
theorem c9z{key val:ME}{conds:MBs}{kx vx iter:Expr}{ifs:List Expr}{scope:Scope}{pos px:Pos}{x:Nat}{I ac:Addr}{cenv:Env}{aN:Loc}{xs:List AV}{ys:List (List KA×Int)}{aJ:H}{P:Nat->Value->Prop}{fp:List Addr}{W:Nat->Heap->Prop}{RR:Result->Shared->Prop}{oI oD:Obj}
  (S:St Pp G (⟨cenv,aN,false⟩::fs) (.he I oI:: .he ac oD::hs) J s)(X:SrcI Pp A G hs xs I P fp W)(hw:W 0 s.heap)(hx:cenv.kindOf (Pp.D.nm x)=some .local)(hlen:xs.length<=100000)(hroom:A.units<cLine)
  (hD:s.heap.DictOfH (tupleKind (k9 Pp)) ac [])
  (hA: ∀a,v6 Pp C A ⟨cenv,upd aN x a,false⟩ fs conds ifs)(hK: ∀a,c7 Pp C A ⟨cenv,upd aN x a,false⟩ fs key kx)(hV: ∀a,c7 Pp C A ⟨cenv,upd aN x a,false⟩ fs val vx)
  (hl:j9 (dcF C x aN conds key val) xs J= .ok ys aJ)
  (hR: ∀G' lc o xsd s',G.le G'->St Pp G' (⟨cenv,lc,false⟩::fs) (.he ac o::hs) aJ s'->s'.heap.DictOfH (tupleKind (k9 Pp)) ac xsd->TVR G' (a0z [] ys) xsd->RR (.ok .next) s'):
  codeAny Pp.M A (.compLoop (.DictComp kx vx [⟨.Name (Pp.D.nm x) px,iter,ifs,0⟩] scope pos) 0 (.ref I) (.ref ac) cenv) RR s:=by
 refine codeAny_compLoop_testsD (DcI Pp (dcF C x aN conds key val) G fs hs cenv x aN xs (a0z [] ys) aJ W I ac) ?_ (xs.length+1)
  ⟨0,G,J,oI,oD,aN,[],ys,[],rfl,Nat.zero_le _, .refl _,S,hw,hD,⟨rfl,(λ_ he=>by simp at he),[],rfl,rfl⟩,Nat.le_refl _,hl,rfl,λ_=>rfl⟩
 clear S hl hw hD
 rintro k s' ⟨i,G',ae,oI,oD,lc,d,aa,xsd,rfl,hi,le,S',hw',hD',T',hv,hl',hf,hu⟩
 by_cases hlt:i<xs.length
 ·refine X.next le S' hlt hw' λa v au aO ha Va am bG=> ?_
  rw[O4 ha]at hl';refine a8 λp_ ah=> ?_;obtain⟨o,af,l,e1,e2,e3⟩:=L7 hl';rw[e3]at hf;clear hl' hw' ha hi e3;refine ah ?_;refine wpAny_assign_Name (m7 am Va hx λaD av _=> ?_);have bc:=X.keep le (.refl _) am av (λe m=> .tail _ m) (λe m=> .tail _ m) bG;clear bG am Va;rw[show({ env:=cenv,loc:=upd lc x a,real:=false }:Fm)=⟨cenv,upd aN x a,false⟩by rw[hu]]at av;have cT:=F8 S' av (.refl _) (by rw[av.he.2.2.2.1,S'.he.2.2.2.1]) T' hD';clear hD' S';refine hA a G' _ ae aD _ _ av ?_;refine a8 λp_ ah=> ?_;obtain⟨b,ax,ra,e1⟩:=R.bind_ok e1;refine ah ?_;show SPb Pp G' _ _ (allE C (upd aN x a) conds ae) _ _;rw[ra];intro aM aL aE aH;have bz:=X.keep le aE av aH (λe m=> .tail _ m) (λe m=> .tail _ m) bc;have cU:=F8 av aH aE (by rw[aH.he.2.2.2.1,av.he.2.2.2.1]) T' cT;clear bc av cT ra hu;cases b with
  |false=>
   cases e1;exact⟨_,R9 hlt,i+1,aM,_,aO,oD,upd aN x a,d,l,xsd,rfl,hlt,le.trans aE,aH,bz,cU,T'.mono aE,Nat.le_succ_of_le hv,e2,hf,λb=>W0 _ _ _ _⟩
  |true=>
   refine a8 λp_ ah=> ?_;obtain⟨y,aZ,rb,e1⟩:=R.bind_ok e1;obtain⟨z,bf,rc,e1⟩:=R.bind_ok e1;refine ah ?_;refine hK a aM _ ax aL _ _ aH ?_;show SP Pp aM _ _ (a6 C (upd aN x a) key ax) _ _;rw[rb];intro ba u aV aS aR bg;refine hV a ba _ aZ aV _ _ aR ?_;show SP Pp ba _ _ (a6 C (upd aN x a) val aZ) _ _;rw[rc];intro bD dU bq bK bv cv;have l35:=aE.trans (aS.trans bK);refine d1f X (le.trans l35) hlt hlen hroom bv (X.keep (le.trans aE) (aS.trans bK) aH bv (λe m=> .tail _ m) (λe m=> .tail _ m) bz) (bg.mono Pp bK) cv e1
    (F8 aH bv (aS.trans bK) (by rw[bv.he.2.2.2.1,aH.he.2.2.2.1]) (T'.mono aE) cU) (T'.mono l35) hv e2 hf λs' h=>⟨_,R9 hlt,h⟩
 ·have hin:=b1l hi hlt
  subst hin;rw[List.drop_length]at hl';cases hl';refine X.stop S' hw' λaA aD az _ av kp=> ?_;refine hR aA lc oD xsd aD (le.trans az) av (F8 S' av az (by rw[av.heOwn.2,S'.he.2.2.2.1]) T' hD') ?_;rw[hf];exact T'.mono az
theorem b60{key val:ME}{conds:MBs}{kx vx iter:Expr}{ifs:List Expr}{scope:Scope}{pos px:Pos}{x:Nat}{free:List Nat}{I:Addr}{xs:List AV}{ys:List (List KA×Int)}{aJ:H}{P:Nat->Value->Prop}{fp:List Addr}{W:Nat->Heap->Prop}{oI:Obj}{cl:List (Str×Addr)}{Q E:VP}
  (S:St Pp G (fm::fs) hs J s)(X:SrcI Pp A G hs xs I P fp W)(hw:W 0 s.heap)(hI:G.own I= .none)(hIo:s.heap.get? I=some oI)(hk:ScopeOk Pp.D scope fm.env.scope x free)(hlen:xs.length<=100000)(hroom:A.units<cLine)
  (h1: ∀n c,cl.lookup n=some c->fm.env.cells.lookup n=some c)(h2: ∀n,(n,NameKind.free)∈scope.names->cl.lookup n=fm.env.cells.lookup n)
  (hA: ∀cenv l,cenv.scope=d7 scope fm.env.scope->v6 Pp C A ⟨cenv,l,false⟩ (fm::fs) conds ifs)(hK: ∀cenv l,cenv.scope=d7 scope fm.env.scope->c7 Pp C A ⟨cenv,l,false⟩ (fm::fs) key kx)
  (hV: ∀cenv l,cenv.scope=d7 scope fm.env.scope->c7 Pp C A ⟨cenv,l,false⟩ (fm::fs) val vx)
  (hl:j9 (dcF C x (only free fm.loc) conds key val) xs J= .ok ys aJ)
  (hQ: ∀G' a s',G.le G'->St Pp G' (fm::fs) hs (aJ++[.tdict (a0z [] ys)]) s'->VR Pp G' (.obj aJ.length) (.ref a)->Q (.ref a) s'):
  wpAny Pp.M A newDict (λacc aL=>wpAny Pp.M A (newFunctionEnv scope fm.env.globals cl [] fm.env.qual none .none (some fm.env)) (λcenv aV=>
   codeAny Pp.M A (.compStart (.DictComp kx vx [⟨.Name (Pp.D.nm x) px,iter,ifs,0⟩] scope pos) 0 (.ref I) acc { cenv with scope:=relabel scope fm.env }) (compPost Pp.M A E none Q acc cenv.locals) aV) E aL) E s:=by
 refine wpAny_newObj_type (wpAny_newFunctionEnv hk.cell (by intro y hy;simp at hy) (λaj bh bj=> ?_) hk.kind);dsimp only at bh bj⊢;have hnew:(s.heap.push { cls:= .type "dict",dict:=none,data:= .dict #[] }).get? s.heap.objs.size=some { cls:= .type "dict",dict:=none,data:= .dict #[] }:=Heap.get?_push_size _ rfl;generalize hH2:s.heap.push { cls:= .type "dict",dict:=none,data:= .dict #[] }=H2 at bh bj hnew⊢;have hC:H2.objs.size=s.heap.objs.size+1:=by rw[<-hH2,Heap.size_push]
 have hDC:s.heap.objs.size≠H2.objs.size:=by rw[hC];exact Nat.ne_of_lt (Nat.lt_succ_self _)
 have old: ∀b o,s.heap.get? b=some o->aj.get? b=some o:=λb o e=>
  bj.extBut b o (by rw[hC];exact Nat.ne_of_lt (Nat.lt_succ_of_lt (Heap.lt_size e))) (Heap.get?_push_of_some _ (hH2▸Heap.get?_push_of_some _ e))
 have hac:aj.get? s.heap.objs.size=some { cls:= .type "dict",dict:=none,data:= .dict #[] }:=bj.extBut _ _ hDC (Heap.get?_push_of_some _ hnew);have f1:=S.fresh (Nat.le_refl s.heap.objs.size);have f2:=S.fresh (a:=H2.objs.size) (by rw[hC];exact Nat.le_succ _);have hIlt:=Heap.lt_size hIo;have hIa:I≠s.heap.objs.size:=Nat.ne_of_lt hIlt;have hIC:I≠H2.objs.size:=by rw[hC];exact Nat.ne_of_lt (Nat.lt_succ_of_lt hIlt)
 have main: ∀au:Shared,au={ s with heap:=aj,toks:=s.toks+([]:List (Str×Value)).length }->
   codeAny Pp.M A (.compLoop (.DictComp kx vx [⟨.Name (Pp.D.nm x) px,iter,ifs,0⟩] scope pos) 0 (.ref I) (.ref s.heap.objs.size) (compEnvC scope cl H2.objs.size fm.env))
    (compPost Pp.M A E none Q (.ref s.heap.objs.size) H2.objs.size) au/\W 0 au.heap:=by
  rintro au rfl
  have S1:St Pp G (fm::fs) hs J { s with heap:=aj,toks:=s.toks+([]:List (Str×Value)).length }:=S.kept ⟨rfl,rfl⟩ λb o _ e=>old b o e;have S2:=S1.pushHe (a:=s.heap.objs.size) f1 hac;have l2:G.le (G.add s.heap.objs.size (.he hs.length)):=(Gh.add_ext f1).le;have hI2:(G.add s.heap.objs.size (.he hs.length)).own I= .none:=by rw[Gh.add_ne hIa];exact hI
  have S3:=S2.pushHe (a:=I) hI2 (old _ _ hIo);have hC3:((G.add s.heap.objs.size (.he hs.length)).add I (.he (hs.length+1))).own H2.objs.size= .none:=by rw[Gh.add_ne hIC.symm,Gh.add_ne hDC.symm];exact f2
  have l3:G.le ((G.add s.heap.objs.size (.he hs.length)).add I (.he (hs.length+1))):=l2.trans (Gh.add_ext hI2).le;have x4:=Gh.add_ext (t:= .fr (fm::fs).length) hC3;have l4:=l3.trans x4.le;have hce: ∀a j,G.own a= .ce j->(((G.add s.heap.objs.size (.he hs.length)).add I (.he (hs.length+1))).add H2.objs.size (.fr (fm::fs).length)).own a= .ce j:=λa j e=>by
   rw[Gh.add_ne (λz=>by rw[z,f2]at e;cases e),Gh.add_ne (λz=>by rw[z,hI]at e;cases e),Gh.add_ne (λz=>by rw[z,f1]at e;cases e)];exact e
  have S4:=S3.pushFr (f:=⟨compEnvC scope cl H2.objs.size fm.env,only free fm.loc,false⟩) (s':={ s with heap:=aj,toks:=s.toks+([]:List (Str×Value)).length }) x4 (λ_=>rfl) (λb hb hb'=>by
   by_cases e:b=H2.objs.size
   ·subst e
    obtain⟨o,ho⟩:=a3v bh;exact .inl ⟨Gh.add_self,by show(aj.get? _).isSome=true;rw[ho];rfl⟩
   ·rw[Gh.add_ne e]at hb';exact absurd hb hb') ⟨rfl,rfl⟩ (λ_ _ _ e=>e) (a09 S.fr.1 hk l4 hce (Nat.le_succ _) h1 h2 Gh.add_self bh)
  have hw1:W 0 aj:=X.walks.frame _ _ _ hw λb _ o e=>old b o e;refine⟨?_,hw1⟩;refine c9z S4 ⟨X.walks,λb hb=>(X.fix b hb).imp (λh=>h) λf=>f.mono l4 λe m=>m,X.live,λi v hi hp=>let⟨a,ha,V⟩:=X.val i v hi hp;⟨a,ha,V.mono Pp l4⟩⟩ hw1 (lookup_relabel_local hk.lx) hlen hroom
   ⟨_, #[],0,hac,⟨rfl,rfl,rfl⟩,rfl,rfl,(λ_ he=>by simp at he),List.nodup_nil⟩ (λa=>hA _ _ rfl) (λa=>hK _ _ rfl) (λa=>hV _ _ rfl) hl ?_
  intro G' lc o xsd s' le S' hD' T';obtain⟨mm,hns,_⟩:=S'.fr.1.loc;refine⟨mm,hns,λh' hs'=> ?_⟩;obtain⟨l5,S5⟩:=S'.dropFr (s':={ s' with heap:=h' }) ⟨rfl,rfl⟩ λb o hb _ ho=>(hs'.2 b hb).trans ho;have hD5:=F8 S' S5 l5 (by rw[S5.heOwn.2,S'.heOwn.2]) T' hD';obtain⟨G6,l6,S6,V6⟩:=S5.obHe (ao:= .tdict (a0z [] ys)) λG' le ho=>⟨ho,xsd,hD5,T'.mono (l5.trans le)⟩
  exact hQ G6 _ _ (l4.trans (le.trans (l5.trans l6))) S6 V6
 obtain⟨loop,hw1⟩:=main _ rfl;exact codeAny_compStart_dict loop (X.walks.self 0 _ _ _ hw1 loop)
theorem b7m{x:Nat}{free:List Nat}{it key val:ME}{conds:MBs}{kx vx iter:Expr}{ifs:List Expr}{scope:Scope}{px pos:Pos}(c:Ctx1 Pp C A (fm::fs) n)(hk:ScopeOk Pp.D scope fm.env.scope x free)
  (hit:c7 Pp C A fm fs it iter)
  (hA: ∀cenv l,cenv.scope=d7 scope fm.env.scope->v6 Pp C A ⟨cenv,l,false⟩ (fm::fs) conds ifs)(hK: ∀cenv l,cenv.scope=d7 scope fm.env.scope->c7 Pp C A ⟨cenv,l,false⟩ (fm::fs) key kx)
  (hV: ∀cenv l,cenv.scope=d7 scope fm.env.scope->c7 Pp C A ⟨cenv,l,false⟩ (fm::fs) val vx)
  (hs': ∀x,foldedSetIterable iter fm.env x=pure x):c7 Pp C A fm fs (.dcomp x free it conds key val) (.DictComp kx vx [⟨.Name (Pp.D.nm x) px,iter,ifs,0⟩] scope pos):=λG hs J s Q E S h=>by
 refine a8 λp_ ah=> ?_;obtain⟨cl,hcl,h1,h2⟩:=C0 S.fr.1 hk;refine ah ?_;rw[arm_eval_DictComp];refine wpAny_comprehension_free (use:=none) rfl hs' hcl hk.kind hk.loc (hit G hs J s _ E S (h.bind λv af ak u au br aC am ay aj=> ?_));refine a8 λp_ ah=> ?_;clear br h S;replace aj:=aj.sm;obtain⟨⟨xs,live⟩,hsrc,aj⟩:=aj;replace aj:=aj.wh;obtain⟨hc,aj⟩:=aj;obtain⟨hc,hpu⟩:=an hc;obtain⟨hz,hle⟩:=an hc;have hh:=c.a.hz hz;have hlen:xs.length<=100000:=q7 hle;clear hle;have hroom:A.units<cLine:=by have:=c.a.units;lia
 obtain⟨ys,aJ,hl,hfin⟩:=a4c aj;replace hl:j9 (dcF C x (only free fm.loc) conds key val) xs af= .ok ys aJ:=hl;replace hfin:SP Pp ak (fm::fs) hs (.ok (.obj aJ.length) (aJ++[.tdict (a0z [] ys)])) Q E:=hfin;clear aj hc;refine ah ?_;rcases L6 hsrc with ⟨_,hsrc⟩ |⟨rfl,id,rfl⟩
 ·exact N7 am ay hh hsrc λo P fp W ho X hw=>b60 (am.push o au.toks) X hw (am.fresh (Nat.le_refl _)) (Heap.get?_push_size _ ho) hk hlen hroom h1 h2 hA hK hV hl λG' a s' le S' V'=>hfin G' _ s' le S' V'
 ·refine a01 am ay c.sys hh hsrc λap o oI P fp W pn Sp un ho X hw=> ?_
  refine a8 λp_ ah=> ?_;obtain⟨hp,p3⟩:=an hpu;obtain⟨p1,p2⟩:=an hp;obtain⟨r1,hl'⟩:=C9 (λa=>b7w pn p1 p2 p3 a) _ _ _ hl;refine ah ?_;subst r1;exact b60 (Sp.push oI au.toks) X hw (am.fresh (Nat.le_refl _)) (Heap.get?_push_size _ ho) hk hlen hroom h1 h2 hA hK hV hl' λG' a s' le S' V'=>hfin G' _ s' le (un _ G' _ s' le S') (by rw[List.length_set]at V';exact V')
end
end
section
theorem G7{nm:Nat->Str}{sc:Scope}{e:ME}{x:Expr}(h:i6 nm sc e x=true):p5 x=true:=by
 cases x<;>first |rfl |skip
 exfalso
 cases e<;>exact absurd h Bool.false_ne_true
theorem B5{nm:Nat->Str}{sc:Scope}: ∀{es:MEs}{xs:List Expr},chkEs nm sc es xs=true->xs.all p5=true
 | .nil,xs,h=>by rw[o0 h];rfl
 | .cons e r,xs,h=>by
  obtain⟨x,q,rfl,h⟩:=N9 h;rw[List.all_cons,G7 (an h).1,B5 (an h).2];rfl
theorem A2{nm:Nat->Str}{sc:Scope}{C:Cx}{l:Loc}: ∀{es:MEs}{xs:List Expr}{vs:List AV}{J ae:H},chkEs nm sc es xs=true->evalEs C l es J= .ok vs ae->vs.length=xs.length
 | .nil,xs,vs,J,ae,h,e=>by rw[o0 h];cases e;rfl
 | .cons a r,xs,vs,J,ae,h,e=>by
  obtain⟨x,q,rfl,h⟩:=N9 h;obtain⟨v,af,e1,e2⟩:=R.bind_ok e;obtain⟨us,ax,e3,e4⟩:=R.bind_ok e2;cases e4;exact congrArg Nat.succ (A2 (an h).2 e3)
theorem a90{iter:Expr}{env:Env}(h:a0l iter=true)(x:Value):foldedSetIterable iter env x=pure x:=by
 cases iter<;>first |rfl |exact absurd h Bool.false_ne_true
section
variable{Pp:Par}
variable{G G':Gh}{fm:Fm}{fs:List Fm}{hs:Hs}{J:H}{s:Shared}{A:Around}{C:Cx}{n:Nat}
variable(Pp) in
def a1v(C:Cx)(A:Around)(fm:Fm)(fs:List Fm)(k:Bool)(es:MEs)(xs:List Expr):Prop:=
 ∀(G:Gh)(hs:Hs)(J:H)(s:Shared)(pos:Pos)(Q E:VP),St Pp G (fm::fs) hs J s->SP Pp G (fm::fs) hs (boolE C fm.loc k es J) Q E->
  wpAny Pp.M A (boolOp pos (if k then .And else .Or) (evalEach xs fm.env)) Q E s
theorem c3m{k:Bool}{xs:List Expr}:a1v Pp C A fm fs k .nil xs:=λG hs J s pos Q E S h=>by
 exact h.elim
theorem c35{k:Bool}{e:ME}{x:Expr}(he:c7 Pp C A fm fs e x):a1v Pp C A fm fs k (.cons e .nil) [x]:=λG hs J s pos Q E S h=>b7f he G hs J s Q E S h
theorem b4u{k:Bool}{e e':ME}{r:MEs}{x x':Expr}{q:List Expr}(he:c7 Pp C A fm fs e x)(hr:a1v Pp C A fm fs k (.cons e' r) (x'::q)):a1v Pp C A fm fs k (.cons e (.cons e' r)) (x::x'::q):=
 λG hs J s pos Q E S h=>b7n he (λG hs J s Q E S h=>hr G hs J s pos Q E S h) G hs J s Q E S h
theorem b3v{k:Bool}{es:MEs}{xs:List Expr}{pos}(h:a1v Pp C A fm fs k es xs):c7 Pp C A fm fs (.boolop k es) (.BoolOp (if k then .And else .Or) xs pos):=λG hs J s Q E S hp=>by
 exact h G hs J s pos Q E S hp
structure ExtOk (Pp:Par) (C:Cx) (A:Around) (n:Nat):Prop where
 srt: ∀(fs:List Fm)(G:Gh)(hs:Hs)(J:H)(s:Shared)(args:List AV)(vs:List Value)(Q E:VP),C.hz=true->Ctx1 Pp C A fs n->St Pp G fs hs J s->VRs Pp G args vs->
  SP Pp G fs hs (biA .sorted args J) Q E->wpAny Pp.M A (call (biV .sorted) vs) Q E s
 make: ∀(fs:List Fm)(G:Gh)(hs:Hs)(J:H)(s:Shared)(k:Nat)(args:List AV)(vs:List Value)(Q E:VP),C.T.isExc k=true->args.length<=25->Ctx1 Pp C A fs n->St Pp G fs hs J s->VRs Pp G args vs->
  SP Pp G fs hs (a6g C (.cls k) args J) Q E->wpAny Pp.M A (call (.ref (Pp.D.clsA k)) vs) Q E s
 get: ∀(fs:List Fm)(G:Gh)(hs:Hs)(J:H)(s:Shared) id c f fl p x(Q E:VP),Ctx1 Pp C A fs n->St Pp G fs hs J s->J[id]? =some (.exc c f fl)->C.T.fldE c x=true->f x≠ .undef->G.ρ id=some p->
  (∀s' v,St Pp G fs hs J s'->VR Pp G (f x) v->Q v s')->wpAny Pp.M A (getAttr (.ref p.1) (Pp.D.nm x) true) Q E s
 set: ∀(fs:List Fm)(G:Gh)(hs:Hs)(J:H)(s:Shared) id c f p x a v(Q:Unit->Shared->Prop)(E:VP),Ctx1 Pp C A fs n->St Pp G fs hs J s->J[id]? =some (.exc c f false)->C.T.fldE c x=true->x<256->G.ρ id=some p->VR Pp G a v->
  (∀G' s',G.le G'->St Pp G' fs hs (J.set id (.exc c (upd f x a) false)) s'->Q () s')->wpAny Pp.M A (setAttr (.ref p.1) (Pp.D.nm x) v) Q E s
 init: ∀(fm:Fm)(fs:List Fm)(g:Nat)(args:MEs)(ob:Expr)(as:List Expr)(ap pos:Pos),Ctx1 Pp C A (fm::fs) n->M2 Pp.D.nm fm.env.scope g ob=true->F5 Pp C A fm fs args as->as.all p5=true->as.length<=25->(ap.endLine==pos.line)=true->
  c7 Pp C A fm fs (.initOf g args) (.Call (.Attribute ob ("__init__" :Str) ap) as [] pos)
theorem c1g{f:ME}{args:MEs}{fn:Expr}{as:List Expr}{pos}(c:Ctx1 Pp C A (fm::fs) n)(T:ClsOk Pp.K Pp.D C.T)(X:ExtOk Pp C A n)(hf:c7 Pp C A fm fs f fn)(ha:F5 Pp C A fm fs args as)
  (hn:a3y fn=true)(hs':as.all p5=true)(hl: ∀vs J ae,evalEs C fm.loc args J= .ok vs ae->vs.length<=25):c7 Pp C A fm fs (.call f args) (.Call fn as [] pos):=λG hs J s Q E S h=>by
 rw[E1 hn];refine wpAny_bind (hf G hs J s _ E S (h.bind λg af ak u au br aC am ay aj=>J2 hs' (ha ak hs af au pos _ E am (aj.bindS λvs ax aA us aD bC az av aG aI=> ?_))));have hlen:=hl _ _ _ bC;clear br bC;have bx:=ay.mono Pp az;clear h aj S am ay
 by_cases h1:g= .bi .sorted
 ·subst h1
  cases bx;replace aI:SP Pp aA (fm::fs) hs (c6 .bad C.hz (biA .sorted vs ax)) Q E:=aI;refine aI.whk λhz aI=> ?_;exact⟨⟨.machine, .inr (.inl rfl),Looks.of_pure rfl⟩,X.srt _ aA hs ax aD vs us Q E hz c av aG aI⟩
 ·by_cases h2: ∃k,g= .cls k/\C.T.isExc k=true
  ·obtain⟨k,rfl,hk⟩:=h2
   cases bx;refine⟨?_,X.make _ aA hs ax aD k vs us Q E hk hlen c av aG aI⟩;replace aI:SP Pp aA (fm::fs) hs (g9 .bad (C.T.init k) _) Q E:=aI;refine aI.smk λi hi _=> ?_;obtain⟨kk,a,b⟩:=looks_keep (M:=Pp.M) (T.keep k i hi) (av.kin c.X);exact⟨kk,a.elim .inl (λe=> .inr (.inl e)),b⟩
  ·exact b4h (g:=g) c T av bx aG aI (λk e=>by
    cases q:C.T.isExc k with
    |false=>rfl
    |true=>exact absurd ⟨k,e,q⟩ h2) h1
theorem Ctx1.inner{cenv:Env}{l:Loc}(c:Ctx1 Pp C A fs n)(hc: ∀fs,C.hz=true->R7 Pp C.call fs n):Ctx1 Pp C A (⟨cenv,l,false⟩::fs) n:=
 ⟨c.X,c.sys,c.nm,⟨c.a.frames,c.a.hz,c.a.depth,c.a.units⟩,hc _,c.fnK,c.quiet⟩
end
end
section
structure Grd (Pp:Par) (C:Cx) (A:Around) (n:Nat):Prop where
 glob:C6 Pp C.T
 cls:ClsOk Pp.K Pp.D C.T
 ext:ExtOk Pp C A n
 call: ∀fs,C.hz=true->R7 Pp C.call fs n
section
variable{Pp:Par}
variable{fm:Fm}{fs:List Fm}{A:Around}{C:Cx}{n:Nat}
theorem a2t{x:Expr}{env:Env}(h:a1z x=true)(h': ∀l ops rs pos,x≠ .Compare l ops rs pos):isTrue x env (eval x env)=(do let v <-eval x env;standAt x.pos;holding [v] (truthy v)):=by
 cases x<;>first |rfl |(exact absurd rfl (h' _ _ _ _)) |(exact absurd h Bool.false_ne_true) |skip
 rename_i op a p
 cases op<;>first |rfl |exact absurd h Bool.false_ne_true
theorem b1g{x:Expr}(h:H7 x=true): ∃y k p,x= .Constant (.str y) k p/\y.length<=100:=by
 refine x8 (m:=λx=> ∃y k p,x= .Constant (.str y) k p/\y.length<=100) h λc k p h=> ?_;cases c<;>first |exact⟨_,_,_,rfl,q7 h⟩ |exact absurd h Bool.false_ne_true
theorem c25{sp:Option Expr}(h:(match sp with |none=>true |some s=>a14 s λl=>l1 l isX)=true):sp=none\/ ∃kk p p',sp=some (.JoinedStr [.Constant (.str "x") kk p] p'):=by
 cases sp with
 |none=>exact .inl rfl
 |some s=>
  refine .inr (b1k (m:=λs=> ∃kk p p',some s=some (.JoinedStr [.Constant (.str "x") kk p] p')) h λl p h=> ?_);replace h:=a7b h;obtain⟨y,rfl,h⟩:=h;refine x8 (m:=λy=> ∃kk q p',some (Expr.JoinedStr [y] p)=some (.JoinedStr [.Constant (.str "x") kk q] p')) h λc k q h=> ?_;rw[eq_of_beq h];exact⟨k,q,p,rfl⟩
theorem a9x{gs:List Comprehension}{nm:Nat->Str}{x:Nat}{f:Expr->List Expr->Bool}(h:c7w gs nm x f=true): ∃px iter ifs,gs=[⟨.Name (nm x) px,iter,ifs,0⟩]/\a0l iter=true/\f iter ifs=true:=by
 refine a8 λp_ ah=> ?_;obtain⟨⟨tg,iter,ifs,as⟩,rfl,h⟩:=a7b h;obtain⟨h,h4⟩:=an h;obtain⟨h,h3⟩:=an h;obtain⟨h1,h2⟩:=an h;refine ah ?_;refine D4 (m:=λtg=> ∃px iter' ifs',[(⟨tg,iter,ifs,as⟩:Comprehension)]=[⟨.Name (nm x) px,iter',ifs',0⟩]/\a0l iter'=true/\f iter' ifs'=true) h1 λi p h=> ?_;have h2:as=0:=eq_of_beq h2;rw[eq_of_beq h,h2];exact⟨p,iter,ifs,rfl,h3,h4⟩
section
variable{nm:Nat->Str}{sc:Scope}{x:Nat}{e:Expr}{m:Expr->Prop}
theorem b3o(h:b0a nm sc x e=true)(k: ∀p,(nm x==("__debug__" :Str))=false->m (.Name (nm x) p)):m e:=
 D4 h λi p h=>by
  obtain⟨h,_⟩:=an h;obtain⟨h,h2⟩:=an h;rw[eq_of_beq h]at h2⊢;exact k p (eq_of_beq h2)
theorem N3(h:M2 nm sc x e=true)(k: ∀p,(nm x==("__debug__" :Str))=false->sc.names.lookup (nm x)=some .globalImplicit->m (.Name (nm x) p)):m e:=
 D4 h λi p h=>by
  obtain⟨h,h3⟩:=an h;obtain⟨h,h2⟩:=an h;rw[eq_of_beq h]at h2 h3⊢;exact k p (eq_of_beq h2) (eq_of_beq h3)
end
theorem D8{b:Bool}(h:(!b)=true):b=false:=by cases b<;>first |rfl |cases h
mutual
theorem sE(X:Grd Pp C A n): ∀(e:ME){fm:Fm}{fs:List Fm}{x:Expr},Ctx1 Pp C A (fm::fs) n->i6 Pp.D.nm fm.env.scope e x=true->c7 Pp C A fm fs e x
 | .int i,fm,fs,x,c,h=>x8 h λk a p h=>by rw[eq_of_beq h];exact c9l
 | .str y,fm,fs,x,c,h=>x8 h λk a p h=>by rw[eq_of_beq h];exact c68
 | .none,fm,fs,x,c,h=>x8 h λk a p h=>by rw[eq_of_beq h];exact c3r
 | .bool b,fm,fs,x,c,h=>x8 h λk a p h=>by rw[eq_of_beq h];exact c23
 | .loc y,fm,fs,x,c,h=>b3o h λp hd=>c1e hd
 | .glo y,fm,fs,x,c,h=>N3 h λp hd hl=>a3d X.glob hd hl
 | .bin op a b,fm,fs,x,c,h=>c8x h λl o r p h=>by
  replace h:=an h;obtain⟨h1,h⟩:=h;rw[eq_of_beq h1];exact c8j (sE X a c (an h).1) (sE X b c (an h).2)
 | .neg a,fm,fs,x,c,h=>b0h h λo y p h=>by rw[eq_of_beq (an h).1];exact c7f (sE X a c (an h).2)
 | .inv a,fm,fs,x,c,h=>b0h h λo y p h=>by rw[eq_of_beq (an h).1];exact c9h (sE X a c (an h).2)
 | .not t,fm,fs,x,c,h=>absurd h Bool.false_ne_true
 | .boolop k es,fm,fs,x,c,h=>b02 h λo y p h=>by rw[eq_of_beq (an h).1];exact b3v (sBo X es k c (an h).2)
 | .cmp op a b,fm,fs,x,c,h=>a8j h λl os rs p h=>by
  replace h:=a7b h;obtain⟨o,rfl,h⟩:=h;replace h:=a7b h;obtain⟨r,rfl,h⟩:=h;replace h:=an h;obtain⟨h1,h⟩:=h;replace h:=an h;obtain⟨h2,h⟩:=h;obtain⟨h3,h4⟩:=an h;rw[eq_of_beq h1]at h4⊢;exact c9i c (sE X a c h2) (sE X b c h3) (D8 h4)
 | .chain a aO b aT e,fm,fs,x,c,h=>a8j h λl os rs p h=>by
  replace h:=a9f h;obtain⟨bk,bn,rfl,h⟩:=h;replace h:=a9f h;obtain⟨aW,aU,rfl,h⟩:=h;replace h:=an h;obtain⟨h1,h⟩:=h;replace h:=an h;obtain⟨h2,h⟩:=h;replace h:=an h;obtain⟨h3,h⟩:=h;replace h:=an h;obtain⟨h4,h⟩:=h;obtain⟨h5,h6⟩:=an h;rw[eq_of_beq h1,eq_of_beq h2]at h6⊢;exact b63 c (sE X a c h3) (sE X b c h4) (sE X e c h5) (D8 h6)
 | .ite t a b,fm,fs,x,c,h=>c6h h λu y z p h=>c9p (sB X t c (an h).1) (sE X a c (an (an h).2).1) (sE X b c (an (an h).2).2)
 | .call f args,fm,fs,x,c,h=>X6 h λfn as ks p h=>by
  replace h:=an h;obtain⟨h1,h⟩:=h;replace h:=an h;obtain⟨h2,h⟩:=h;replace h:=an h;obtain⟨h3,h⟩:=h;obtain⟨h4,h5⟩:=an h;rw[o0 h1];exact c1g c X.cls X.ext (sE X f c h3) (sEs X args c h4) h2 (B5 h4) λvs J ae e=>(A2 h4 e).symm▸q7 h5
 | .meth o y args,fm,fs,x,c,h=>X6 h λfn as ks p h=>by
  replace h:=an h;obtain⟨h1,h⟩:=h;rw[o0 h1];refine O8 (m:=λfn=>c7 Pp C A fm fs (.meth o y args) (.Call fn as [] p)) h λob a ap h=> ?_;replace h:=an h;obtain⟨h1,h⟩:=h;replace h:=an h;obtain⟨h2,h⟩:=h;replace h:=an h;obtain⟨h3,h⟩:=h;replace h:=an h;obtain⟨h4,h⟩:=h;obtain⟨h5,h6⟩:=an h;rw[eq_of_beq h1];exact c2n c X.cls (sE X o c h3) (sEs X args c h4) h2 (B5 h4) (q7 h5) h6
 | .initOf g args,fm,fs,x,c,h=>X6 h λfn as ks p h=>by
  replace h:=an h;obtain⟨h1,h⟩:=h;rw[o0 h1];refine O8 (m:=λfn=>c7 Pp C A fm fs (.initOf g args) (.Call fn as [] p)) h λob a ap h=> ?_;replace h:=an h;obtain⟨h1,h⟩:=h;replace h:=an h;obtain⟨h2,h⟩:=h;replace h:=an h;obtain⟨h4,h⟩:=h;obtain⟨h5,h6⟩:=an h;rw[eq_of_beq h1];exact X.ext.init fm fs g args _ _ _ _ c h2 (sEs X args c h4) (B5 h4) (q7 h5) h6
 | .attr o y,fm,fs,x,c,h=>O8 h λob a p h=>by
  replace h:=an h;obtain⟨h1,h⟩:=h;rw[eq_of_beq h1];exact c3z c X.cls (sE X o c (an h).2) (an h).1 λG hs J s id cc f fl p Q E S e1 e2 e3 e4 k=>X.ext.get _ G hs J s id cc f fl p y Q E c S e1 e2 e3 e4 k
 | .idx o i,fm,fs,x,c,h=>a0h h λob ix p h=>c8e c (sE X o c (an (an h).2).1) (sE X i c (an (an h).2).2) (an h).1
 | .sliceTo o hi,fm,fs,x,c,h=>a0h h λob ix p h=>by
  refine a1a (m:=λix=>c7 Pp C A fm fs (.sliceTo o hi) (.Subscript ob ix p)) h λa b d q h=> ?_;replace h:=an h;obtain⟨h1,h⟩:=h;replace h:=an h;obtain⟨h2,h⟩:=h;replace h:=C5 h;obtain⟨y,rfl,h⟩:=h;rw[a1c h1,a1c h2];exact a8w c (sE X o c (an h).1) (sE X hi c (an h).2)
 | .slice2 o lo hi,fm,fs,x,c,h=>a0h h λob ix p h=>by
  refine a1a (m:=λix=>c7 Pp C A fm fs (.slice2 o lo hi) (.Subscript ob ix p)) h λa b d q h=> ?_;replace h:=an h;obtain⟨h1,h⟩:=h;replace h:=C5 h;obtain⟨y,rfl,h⟩:=h;replace h:=C5 h;obtain⟨z,rfl,h⟩:=h;rw[a1c h1];exact b2s c (sE X o c (an h).1) (sE X lo c (an (an h).2).1) (sE X hi c (an (an h).2).2)
 | .rev o,fm,fs,x,c,h=>a0h h λob ix p h=>by
  refine a1a (m:=λix=>c7 Pp C A fm fs (.rev o) (.Subscript ob ix p)) h λa b d q h=> ?_;replace h:=an h;obtain⟨h1,h⟩:=h;replace h:=an h;obtain⟨h2,h⟩:=h;replace h:=C5 h;obtain⟨y,rfl,h⟩:=h;rw[a1c h1,a1c h2];refine b0h (m:=λy=>c7 Pp C A fm fs (.rev o) (.Subscript ob (.Slice none none (some y) q) p)) h λop k r h=> ?_;replace h:=an h;obtain⟨h1,h⟩:=h;rw[eq_of_beq h1];refine x8 (m:=λk=>c7 Pp C A fm fs (.rev o) (.Subscript ob (.Slice none none (some (.UnaryOp .USub k r)) q) p)) (an h).1 λcc a b h'=> ?_;rw[eq_of_beq h'];exact d0d c (sE X o c (an h).2)
 | .tup es,fm,fs,x,c,h=>a3e h λl a p h=>c99 (sEs X es c (an h).1) (q7 (an h).2) λvs J ae e=>A2 (an h).1 e
 | .lstF es,fm,fs,x,c,h=>b09 h λl p h=>c2f (sEs X es c (an h).1) (q7 (an h).2) λvs J ae e=>A2 (an h).1 e
 | .lstM es,fm,fs,x,c,h=>b09 h λl p h=>c2t (sEs X es c (an h).1) (q7 (an h).2) λvs J ae e=>A2 (an h).1 e
 | .dict0,fm,fs,x,c,h=>b0t h λk v p h=>by rw[o0 (an h).1,o0 (an h).2];exact b5f
 | .dictT,fm,fs,x,c,h=>b0t h λk v p h=>by rw[o0 (an h).1,o0 (an h).2];exact b84
 | .lcomp y free it conds elt,fm,fs,x,c,h=>c51 h λel gs scope p h=>by
  obtain⟨px,iter,ifs,rfl,hn,h⟩:=a9x h;replace h:=an h;obtain⟨h2,h⟩:=h;replace h:=an h;obtain⟨h3,h⟩:=h;exact c1c c (M0 h3) (sE X it c h2) (λcenv l hc=>sA X conds (c.inner X.call) (hc▸(an h).1)) (λcenv l hc=>sE X elt (c.inner X.call) (hc▸(an h).2)) (a90 hn)
 | .dcomp y free it conds key val,fm,fs,x,c,h=>d1z h λk v gs scope p h=>by
  obtain⟨px,iter,ifs,rfl,hn,h⟩:=a9x h;replace h:=an h;obtain⟨h2,h⟩:=h;replace h:=an h;obtain⟨h3,h⟩:=h;replace h:=an h;obtain⟨h4,h⟩:=h;exact b7m c (M0 h3) (sE X it c h2) (λcenv l hc=>sA X conds (c.inner X.call) (hc▸h4)) (λcenv l hc=>sE X key (c.inner X.call) (hc▸(an h).1)) (λcenv l hc=>sE X val (c.inner X.call) (hc▸(an h).2)) (a90 hn)
 | .fstr es,fm,fs,x,c,h=>b1k h λl p h=>c38 (sP X es c (an h).1) (q7 (an (an h).2).1) (q7 (an (an h).2).2)
theorem sEs(X:Grd Pp C A n): ∀(es:MEs){fm:Fm}{fs:List Fm}{xs:List Expr},Ctx1 Pp C A (fm::fs) n->chkEs Pp.D.nm fm.env.scope es xs=true->F5 Pp C A fm fs es xs
 | .nil,fm,fs,xs,c,h=>by rw[o0 h];exact c0b
 | .cons e r,fm,fs,xs,c,h=>by
  replace h:=N9 h;obtain⟨x,q,rfl,h⟩:=h;exact b0w (sE X e c (an h).1) (sEs X r c (an h).2) (A4 (G7 (an h).1))
theorem sBo(X:Grd Pp C A n): ∀(es:MEs)(k:Bool){fm:Fm}{fs:List Fm}{xs:List Expr},Ctx1 Pp C A (fm::fs) n->chkEs Pp.D.nm fm.env.scope es xs=true->a1v Pp C A fm fs k es xs
 | .nil,k,fm,fs,xs,c,h=>c3m
 | .cons e .nil,k,fm,fs,xs,c,h=>by
  replace h:=N9 h;obtain⟨x,q,rfl,h⟩:=h;rw[o0 (an h).2];exact c35 (sE X e c (an h).1)
 | .cons e (.cons e' r),k,fm,fs,xs,c,h=>by
  replace h:=N9 h;obtain⟨x,q,rfl,h⟩:=h;have ih:=sBo X (.cons e' r) k c (an h).2;obtain⟨x',q',rfl,_⟩:=N9 (an h).2;exact b4u (sE X e c (an h).1) ih
theorem sP(X:Grd Pp C A n): ∀(es:MEs){fm:Fm}{fs:List Fm}{xs:List Expr},Ctx1 Pp C A (fm::fs) n->chkParts Pp.D.nm fm.env.scope es xs=true->a21 Pp C A fm fs es xs
 | .nil,fm,fs,xs,c,h=>by
  replace h:xs.all H7=true:=h
  induction xs with
  |nil=>exact c8r
  |cons x q ih=>
   rw[List.all_cons,Bool.and_eq_true]at h;obtain⟨y,k,p,rfl,hl⟩:=b1g h.1;exact a44 hl (ih h.2)
 | .cons e r,fm,fs,xs,c,h=>by
  replace h:=N9 h;obtain⟨x,q,rfl,h⟩:=h;have fin: ∀{y:Expr}{q:List Expr},((c3y y λv c sp=>c== -1&&(i6 Pp.D.nm fm.env.scope e v&&match sp with |none=>true |some s=>a14 s λl=>l1 l isX))&&chkParts Pp.D.nm fm.env.scope r q)=true->a21 Pp C A fm fs (.cons e r) (y::q):=λ{y} {q} h=>by
   refine c85 (m:=λy=>a21 Pp C A fm fs (.cons e r) (y::q)) (an h).1 λv cc sp p h'=> ?_;obtain⟨h1,h'⟩:=an h';rw[eq_of_beq h1];exact c8v (sE X e c (an h').1) (c25 (an h').2) (sP X r c (an h).2)
  cases hs:H7 x with
  |true=>
   rw[hs]at h;replace h:=N9 h;obtain⟨y,q',rfl,h⟩:=h;obtain⟨z,k,p,rfl,hl⟩:=b1g hs;exact a44 hl (fin h)
  |false=>
   rw[hs]at h;exact fin h
theorem sB(X:Grd Pp C A n): ∀(t:MB){fm:Fm}{fs:List Fm}{x:Expr},Ctx1 Pp C A (fm::fs) n->chkB Pp.D.nm fm.env.scope t x=true->G0 Pp C A fm fs t x
 | .of e,fm,fs,x,c,h=>by
  obtain⟨h1,h2⟩:=an h
  by_cases hc: ∃l ops rs pos,x= .Compare l ops rs pos
  ·obtain⟨l,ops,rs,pos,rfl⟩:=hc
   clear h h1
   match e,h2 with
   | .cmp op a b,h=>
    replace h:(l1 ops λo=>l1 rs λr=>o==op&&(i6 Pp.D.nm fm.env.scope a l&&(i6 Pp.D.nm fm.env.scope b r&& !behindInMarks o r)))=true:=h;replace h:=a7b h;obtain⟨o,rfl,h⟩:=h;replace h:=a7b h;obtain⟨r,rfl,h⟩:=h;replace h:=an h;obtain⟨h1,h⟩:=h;replace h:=an h;obtain⟨h2,h⟩:=h;obtain⟨h3,h4⟩:=an h;rw[eq_of_beq h1]at h4⊢;exact c8m c (sE X a c h2) (sE X b c h3) (D8 h4)
   | .chain a aO b aT e,h=>
    replace h:(l2 ops λbk bn=>l2 rs λaW aU=>bk==aO&&(bn==aT&&(i6 Pp.D.nm fm.env.scope a l&&(i6 Pp.D.nm fm.env.scope b aW&&(i6 Pp.D.nm fm.env.scope e aU&& !lastMarks [bk,bn] [aW,aU])))))=true:=h;replace h:=a9f h;obtain⟨bk,bn,rfl,h⟩:=h;replace h:=a9f h;obtain⟨aW,aU,rfl,h⟩:=h;replace h:=an h;obtain⟨h1,h⟩:=h;replace h:=an h;obtain⟨h2,h⟩:=h;replace h:=an h;obtain⟨h3,h⟩:=h;replace h:=an h;obtain⟨h4,h⟩:=h;obtain⟨h5,h6⟩:=an h;rw[eq_of_beq h1,eq_of_beq h2]at h6⊢;exact b7l c (sE X a c h3) (sE X b c h4) (sE X e c h5) (D8 h6)
   | .int _,h | .str _,h | .none,h | .bool _,h | .loc _,h | .glo _,h | .bin ..,h | .neg _,h | .inv _,h | .not _,h | .boolop _ _,h | .ite ..,h | .call ..,h | .meth ..,h | .initOf ..,h | .idx ..,h | .attr ..,h | .tup _,h
   | .sliceTo ..,h | .slice2 ..,h | .rev _,h | .lstF _,h | .lstM _,h | .dict0,h | .dictT,h | .lcomp ..,h | .dcomp ..,h | .fstr _,h=>exact absurd h Bool.false_ne_true
  ·exact d3x (sE X e c h2) (a2t h1 λl ops rs pos e=>hc ⟨l,ops,rs,pos,e⟩)
 | .not t,fm,fs,x,c,h=>b0h h λo y p h=>by rw[eq_of_beq (an h).1];exact d0j (sB X t c (an h).2)
 | .ops k ts,fm,fs,x,c,h=>b02 h λo y p h=>by rw[eq_of_beq (an h).1];exact c97 (sBs X ts k c (an h).2)
 | .ite t a b,fm,fs,x,c,h=>c6h h λu y z p h=>d0i (sB X t c (an h).1) (sB X a c (an (an h).2).1) (sB X b c (an (an h).2).2)
 | .chain3 a aO b aT e bH d,fm,fs,x,c,h=>a8j h λl os rs p h=>by
  replace h:=N9 h;obtain⟨bk,os,rfl,h⟩:=h;replace h:=a9f h;obtain⟨bn,cr,rfl,h⟩:=h;replace h:=N9 h;obtain⟨aW,rs,rfl,h⟩:=h;replace h:=a9f h;obtain⟨aU,bI,rfl,h⟩:=h;replace h:=an h;obtain⟨h1,h⟩:=h;replace h:=an h;obtain⟨h2,h⟩:=h;replace h:=an h;obtain⟨h3,h⟩:=h;replace h:=an h;obtain⟨h4,h⟩:=h;replace h:=an h;obtain⟨h5,h⟩:=h;replace h:=an h;obtain⟨h6,h⟩:=h;obtain⟨h7,h8⟩:=an h;rw[eq_of_beq h1,eq_of_beq h2,eq_of_beq h3]at h8⊢;exact b2y c (sE X a c h4) (sE X b c h5) (sE X e c h6) (sE X d c h7) (D8 h8)
theorem sBs(X:Grd Pp C A n): ∀(ts:MBs)(k:Bool){fm:Fm}{fs:List Fm}{xs:List Expr},Ctx1 Pp C A (fm::fs) n->chkBs Pp.D.nm fm.env.scope ts xs=true->a5f Pp C A fm fs k ts xs
 | .nil,k,fm,fs,xs,c,h=>by rw[o0 h];exact c77
 | .cons t r,k,fm,fs,xs,c,h=>by
  replace h:=N9 h;obtain⟨x,q,rfl,h⟩:=h;exact c2s (sB X t c (an h).1) (sBs X r k c (an h).2)
theorem sA(X:Grd Pp C A n): ∀(ts:MBs){fm:Fm}{fs:List Fm}{xs:List Expr},Ctx1 Pp C A (fm::fs) n->chkBs Pp.D.nm fm.env.scope ts xs=true->v6 Pp C A fm fs ts xs
 | .nil,fm,fs,xs,c,h=>by rw[o0 h];exact c62
 | .cons t r,fm,fs,xs,c,h=>by
  replace h:=N9 h;obtain⟨x,q,rfl,h⟩:=h;exact c3l (sB X t c (an h).1) (sA X r c (an h).2)
end
end
end
section
noncomputable def fr(env:Env)(l:Loc):Fm:=⟨env,l,true⟩
section
variable(Pp:Par)
def SPf(env:Env)(G:Gh)(fs:List Fm)(hs:Hs)(r:RS)(Q:Flow->Shared->Prop)(E:VP):Prop:=match r with
 | .next l ae=> ∀G' s',G.le G'->St Pp G' (fr env l::fs) hs ae s'->Q .next s'
 | .cont l ae=> ∀G' s',G.le G'->St Pp G' (fr env l::fs) hs ae s'->Q .cont s'
 | .ret v ae=> ∀G' l u s',G.le G'->St Pp G' (fr env l::fs) hs ae s'->VR Pp G' v u->Q (.ret u) s'
 | .exc id l ae=> ∀G' p s',G.le G'->St Pp G' (fr env l::fs) hs ae s'->G'.ρ id=some p->E (.ref p.1) s'
 | .bad=>False
def m4(C:Cx)(A:Around)(env:Env)(fs:List Fm)(st:MS)(x:Stmt):Prop:=
 ∀(l:Loc)(G:Gh)(hs:Hs)(J:H)(s:Shared)(Q:Flow->Shared->Prop)(E:VP),St Pp G (fr env l::fs) hs J s->SPf Pp env G fs hs (a60 C st l J) Q E->wpAny Pp.M A (exec x env) Q E s
def H5(C:Cx)(A:Around)(env:Env)(fs:List Fm)(st:MSs)(xs:List Stmt):Prop:=
 ∀(l:Loc)(G:Gh)(hs:Hs)(J:H)(s:Shared)(Q:Flow->Shared->Prop)(E:VP),St Pp G (fr env l::fs) hs J s->SPf Pp env G fs hs (execB C st l J) Q E->wpAny Pp.M A (execs xs env) Q E s
end
section
variable{Pp:Par}
variable{G G':Gh}{env:Env}{fs:List Fm}{hs:Hs}{J:H}{s:Shared}{A:Around}{C:Cx}{n:Nat}
theorem SPf.le{r:RS}{Q:Flow->Shared->Prop}{E:VP}(x:G.le G')(h:SPf Pp env G fs hs r Q E):SPf Pp env G' fs hs r Q E:=by
 cases r with
 |next l ae=>exact λG'' s' y S=>h G'' s' (x.trans y) S
 |cont l ae=>exact λG'' s' y S=>h G'' s' (x.trans y) S
 |ret v ae=>exact λG'' l u s' y S V=>h G'' l u s' (x.trans y) S V
 |exc id l ae=>exact λG'' p s' y S e=>h G'' p s' (x.trans y) S e
 |bad=>exact h
theorem SPf.val{r:R AV}{l:Loc}{f:AV->H->RS}{Q:Flow->Shared->Prop}{Q' E:VP}(h:SPf Pp env G fs hs (r.then l f) Q E)
  (k: ∀a ae G' v s',G.le G'->St Pp G' (fr env l::fs) hs ae s'->VR Pp G' a v->SPf Pp env G' fs hs (f a ae) Q E->Q' v s'):SP Pp G (fr env l::fs) hs r Q' E:=by
 cases r with
 |ok a ae=>exact λG' v s' x S V=>k a ae G' v s' x S V (SPf.le x h)
 |exc id ae=>exact h
 |bad=>exact h
section
variable{Q:Flow->Shared->Prop}{E:VP}{a:AV}{o:Option AO}
theorem SPf.int{f}(h:SPf Pp env G fs hs (d8 .bad a f) Q E): ∃n,a= .int n/\SPf Pp env G fs hs (f n) Q E:=(a61 (λr=>SPf Pp env G fs hs r Q E) h).resolve_right id
theorem SPf.bi{f}(h:SPf Pp env G fs hs (a3c .bad a f) Q E): ∃n,a= .bi n/\SPf Pp env G fs hs (f n) Q E:=(a95 (λr=>SPf Pp env G fs hs r Q E) h).resolve_right id
theorem SPf.cls{f}(h:SPf Pp env G fs hs (z9 .bad a f) Q E): ∃n,a= .cls n/\SPf Pp env G fs hs (f n) Q E:=(a7f (λr=>SPf Pp env G fs hs r Q E) h).resolve_right id
theorem SPf.obj{f}(h:SPf Pp env G fs hs (n4 .bad a f) Q E): ∃n,a= .obj n/\SPf Pp env G fs hs (f n) Q E:=(a7n (λr=>SPf Pp env G fs hs r Q E) h).resolve_right id
theorem SPf.lst{f}(h:SPf Pp env G fs hs (o4 .bad a f) Q E): ∃n,a= .lst n/\SPf Pp env G fs hs (f n) Q E:=(a7q (λr=>SPf Pp env G fs hs r Q E) h).resolve_right id
theorem SPf.dfd{f}(h:SPf Pp env G fs hs (l9 .bad a f) Q E):a≠ .undef/\SPf Pp env G fs hs f Q E:=a02 (λr=>SPf Pp env G fs hs r Q E) h id
theorem SPf.pE{f}(h:SPf Pp env G fs hs (R6 .bad o f) Q E): ∃u v w,o=some (.exc u v w)/\SPf Pp env G fs hs (f u v w) Q E:=(c0x (λr=>SPf Pp env G fs hs r Q E) h).resolve_right id
theorem SPf.sm{α:Type}{o:Option α}{f}(h:SPf Pp env G fs hs (g9 .bad o f) Q E): ∃a,o=some a/\SPf Pp env G fs hs (f a) Q E:=(H6 (λr=>SPf Pp env G fs hs r Q E) h).resolve_right id
theorem SPf.wh{p:Bool}{f}(h:SPf Pp env G fs hs (c6 .bad p f) Q E):p=true/\SPf Pp env G fs hs f Q E:=(X7 (λr=>SPf Pp env G fs hs r Q E) h).resolve_right id
theorem SPf.smk{α:Type}{o:Option α}{f}(h:SPf Pp env G fs hs (g9 .bad o f) Q E){P:Prop}(k: ∀a,o=some a->SPf Pp env G fs hs (f a) Q E->P):P:=j5 (λr=>SPf Pp env G fs hs r Q E) h k False.elim
theorem SPf.whk{p:Bool}{f}(h:SPf Pp env G fs hs (c6 .bad p f) Q E){P:Prop}(k:p=true->SPf Pp env G fs hs f Q E->P):P:=Z2 (λr=>SPf Pp env G fs hs r Q E) h k False.elim
theorem SPf.dfdk{f}(h:SPf Pp env G fs hs (l9 .bad a f) Q E){P:Prop}(k:a≠ .undef->SPf Pp env G fs hs f Q E->P):P:=k (SPf.dfd h).1 (SPf.dfd h).2
end
theorem SPf.seq{r:RS}{f:Loc->H->RS}{Q Q':Flow->Shared->Prop}{E:VP}(h:SPf Pp env G fs hs (r.and f) Q E)
  (k: ∀l ae G' s',G.le G'->St Pp G' (fr env l::fs) hs ae s'->SPf Pp env G' fs hs (f l ae) Q E->Q' .next s')(kc: ∀s,Q .cont s->Q' .cont s:=by exact λ_ h=>h)(kr: ∀v s,Q (.ret v) s->Q' (.ret v) s:=by exact λ_ _ h=>h):SPf Pp env G fs hs r Q' E:=by
 cases r with
 |next l ae=>exact λG' s' y S=>k l ae G' s' y S (SPf.le y h)
 |cont l ae=>exact λG' s' y S=>kc _ (h G' s' y S)
 |ret v ae=>exact λG' l u s' y S V=>kr _ _ (h G' l u s' y S V)
 |exc id l ae=>exact h
 |bad=>exact h
theorem c8i:H5 Pp C A env fs .nil []:=λl G hs J s Q E S h=>by
 exact wpAny_execs_nil (h G s (.refl _) S)
theorem c27{st:MS}{r:MSs}{x:Stmt}{q:List Stmt}(hx:m4 Pp C A env fs st x)(hq:H5 Pp C A env fs r q):H5 Pp C A env fs (.cons st r) (x::q):=λl G hs J s Q E S h=>by
 refine wpAny_execs_cons (hx l G hs J s _ E S ?_);exact SPf.seq h λl' ae G' s' le S' h'=>hq l' G' hs ae s' Q E S' h'
theorem c2p{pos}:m4 Pp C A env fs .pass (.Pass pos):=λl G hs J s Q E S h=>by
 exact wpAny_Pass (h G s (.refl _) S)
theorem c4h{pos}:m4 Pp C A env fs .cont (.Continue pos):=λl G hs J s Q E S h=>by
 exact wpAny_Continue (h G s (.refl _) S)
theorem c28{x:Stmt}:m4 Pp C A env fs .dead x:=λl G hs J s Q E S h=>by
 exact h.elim
theorem a9t{pos}:m4 Pp C A env fs .retNone (.Return none pos):=λl G hs J s Q E S h=>by
 exact wpAny_Return_none (h G l _ s (.refl _) S rfl)
theorem c61{e:ME}{x:Expr}{pos}(he: ∀l,c7 Pp C A (fr env l) fs e x):m4 Pp C A env fs (.ret e) (.Return (some x) pos):=λl G hs J s Q E S h=>by
 refine wpAny_Return_some (he l G hs J s _ E S (h.val λa ae G' v s' le S' V' h'=> ?_));exact h' G' l v s' (.refl _) S' V'
theorem c3t{e:ME}{x:Expr}{pos}(he: ∀l,c7 Pp C A (fr env l) fs e x)(hk:env.scope.kind= .function)(hs':swapsWith x none pos.line env=pure false):m4 Pp C A env fs (.expr e) (.Expr x pos):=λl G hs J s Q E S h=>by
 refine wpAny_Expr_any (he l G hs J s _ E S (h.val λa ae G' v s' le S' V' h'=> ?_)) (by unfold interactive;rw[hk];rfl) hs';exact h' G' s' (.refl _) S'
theorem d2b{t:MB}{a b:MSs}{u:Expr}{x y:List Stmt}{pos}(ht: ∀l,G0 Pp C A (fr env l) fs t u)(ha:H5 Pp C A env fs a x)(hb:H5 Pp C A env fs b y):
  m4 Pp C A env fs (.ifS t a b) (.If u x y pos):=λl G hs J s Q E S h=>by
 refine wpAny_If (ht l G hs J s _ E S ?_);replace h:SPf Pp env G fs hs ((tstE C l t J).thenB l λx J=>match x with |true=>execB C a l J |false=>execB C b l J) Q E:=h;show SPb Pp G (fr env l::fs) hs (tstE C l t J) _ _;cases e:tstE C l t J with
 |ok k ae=>
  rw[e]at h;intro G' s' le S';have h:=SPf.le le h;cases k with
  |true=>exact ha l G' hs ae s' Q E S' h
  |false=>exact hb l G' hs ae s' Q E S' h
 |exc id ae=>rw[e]at h;exact h
 |bad=>rw[e]at h;exact h
theorem a7s{a b:Int}{t u:Tok}{Q E:VP}(h: ∀k,Q (.int (a+b) k) { s with toks:=s.toks+1 }):wpAny Pp.M A (inplaceOp .Add (.int a t) (.int b u)) Q E s:=
 PySem.AutoIntOps.iadd_0 (h _)
theorem c9m{x:Nat}{e:ME}{v:Expr}{pos' pos}(he: ∀l,c7 Pp C A (fr env l) fs e v)(hk:env.kindOf (Pp.D.nm x)=some .local):
  m4 Pp C A env fs (.aug x e) (.AugAssign (.Name (Pp.D.nm x) pos') .Add v pos):=λl G hs J s Q E S h=>by
 refine a8 λp_ ah=> ?_;have f:=S.fr.1;obtain⟨m,f6,f7⟩:=f.loc;replace h:=SPf.int h;obtain⟨a,ha,h⟩:=h;have ha':(fr env l).loc x= .int a:=ha;obtain⟨u,V,r⟩:=f7 x (by rw[ha'];intro z;cases z);rw[ha']at V;obtain⟨t,rfl⟩:=V;refine ah ?_;rcases r with ⟨_,hm⟩ |⟨hc,_⟩
 ·refine wpAny_AugAssign_Name (wpAny_loadName_local f.kind hk f6 hm (he l G hs J s _ E S (h.val λb af ak dG au aC am ay aj=> ?_)))
  refine a8 λp_ ah=> ?_;replace aj:=aj.int;obtain⟨b,rfl,aj⟩:=aj;obtain⟨t',rfl⟩:=ay;refine ah ?_;exact a7s λk=>m7 (a:= .int (a+b)) (am.toks _) ⟨k,rfl⟩ hk λaL aH _=>aj ak aL (.refl _) aH
 ·rw[show(fr env l).env.kindOf (Pp.D.nm x)=env.kindOf (Pp.D.nm x)from rfl,hk]at hc;cases hc
end
end
section
section
variable{Pp:Par}
variable{G G':Gh}{env:Env}{fs:List Fm}{hs:Hs}{J:H}{s:Shared}{A:Around}{C:Cx}{n:Nat}
theorem b8x{β:Type}{z f:β}{a:AV}(h:a≠ .undef):l9 z a f=f:=by cases a<;>first |exact absurd rfl h |rfl
theorem b3n{l:Loc}{x:Nat}{a:AV}{v:Value}{Q:Unit->Shared->Prop}{E:VP}(S:St Pp G (fr env l::fs) hs J s)(V:VR Pp G a v)(hk:env.kindOf (Pp.D.nm x)=some .cell)(hu:l x= .undef)
  (h: ∀G' s',G.le G'->St Pp G' (fr env (upd l x a)::fs) hs J s'->Q () s'):wpAny Pp.M A (storeName env (Pp.D.nm x) v) Q E s:=by
 obtain⟨f1,f2,f3,f4,f5,⟨m,f6,f7⟩,c1,c2⟩:=S.fr.1;obtain⟨c,j,hc,ho,hj,hr⟩:=c1 x hk hu;have hj':j=fs.length:=hr rfl;subst hj';obtain⟨oc,hoc,hd⟩:=S.ce c _ ho;refine wpAny_storeName_cell f2 hk hc ⟨oc,hoc,hd⟩ λh' g1 g2=> ?_;obtain⟨o',ho',hd'⟩:=g1;have le:G.le (G.add c (.fz o')):=⟨λb o e=>by rw[Gh.add_ne (λz=>by rw[z,ho]at e;cases e)];exact e,λ_ _ e=>e⟩
 have tg: ∀{b t},G.own b=t->t≠ .ce fs.length->(G.add c (.fz o')).own b=t:=λ{b t} e n=>by rw[Gh.add_ne (λz=>n (by rw[<-e,z,ho]))];exact e
 have kp: ∀b o,b≠c->s.heap.get? b=some o->h'.get? b=some o:=λb o hb e=>(g2.2 b hb).trans e;have k: ∀{b o t},G.own b=t->t≠ .ce fs.length->s.heap.get? b=some o->h'.get? b=some o:=λ{b o t} e n hb=>kp b o (λz=>n (by rw[<-e,z,ho])) hb;have old: ∀{b t},(G.add c (.fz o')).own b=t->(∀o,t≠ .fz o)->G.own b=t:=λ{b t} e n=>by
  by_cases q:b=c
  ·subst q;rw[Gh.add_self]at e;exact absurd e.symm (n _)
  ·rw[Gh.add_ne q]at e;exact e
 refine h (G.add c (.fz o')) { s with heap:=h' } le ⟨λb hb=> ?_,λb o e=> ?_,λb j e=> ?_,λb o e=>le.fz _ _ (S.base b o e),⟨?_, ?_⟩, ?_,λi bo hi=> ?_,S.dom,S.gens,S.os⟩
 ·by_cases q:b=c
  ·subst q;show(h'.get? b).isSome=true;rw[ho'];rfl
  ·rw[Gh.add_ne q]at hb
   obtain⟨o,e⟩:=Option.isSome_iff_exists.mp (S.lt b hb);show(h'.get? b).isSome=true;rw[kp b o q e];rfl
 ·by_cases q:b=c
  ·subst q;rw[Gh.add_self]at e;cases e;exact ho'
  ·rw[Gh.add_ne q]at e;exact kp b o q (S.fz b o e)
 ·have e':=old e (by intro o z;cases z)
  have q:b≠c:=λq=>by subst q;rw[Gh.add_self]at e;cases e
  obtain⟨o,e1,e2⟩:=S.ce b j e';exact⟨o,kp b o q e1,e2⟩
 ·refine⟨tg f1 (by intro z;cases z),f2,f3,f4,f5,⟨m,a2e f6 λo e=>k f1 (by intro z;cases z) e,λy hy=> ?_⟩,λy hy hyu=> ?_,c2⟩
  ·by_cases q:y=x
   ·subst q
    have e1:(fr env (upd l y a)).loc y=a:=if_pos rfl;exact⟨v,by rw[e1];exact V.mono Pp le, .inr ⟨hk,c,o',hc,Gh.add_self,hd'⟩⟩
   ·have e1:(fr env (upd l x a)).loc y=l y:=if_neg q
    rw[e1]at hy;obtain⟨u,hu',r⟩:=f7 y hy;refine⟨u,by rw[e1];exact hu'.mono Pp le, ?_⟩;rcases r with r |⟨r1,d,od,r2,r3,r4⟩
    ·exact .inl r
    ·exact .inr ⟨r1,d,od,r2,le.fz _ _ r3,r4⟩
  ·have q:y≠x:=λq=>by
    subst q;have e1:(fr env (upd l y a)).loc y=a:=if_pos rfl;rw[e1]at hyu;subst hyu;exact V
   have e1:(fr env (upd l x a)).loc y=l y:=if_neg q;rw[e1]at hyu;obtain⟨d,j,r1,r2,r3,r4⟩:=c1 y hy hyu;have hdc:d≠c:=λz=>q (Pp.D.inj _ _ (c2 _ _ _ r1 (by rw[z];exact hc)));exact⟨d,j,r1,by rw[Gh.add_ne hdc];exact r2,r3,r4⟩
 ·
  have out: ∀(fs':List Fm),fs'.length<=fs.length->FrOk Pp G s.heap fs'->FrOk Pp (G.add c (.fz o')) h' fs':=by
   intro fs'
   induction fs' with
   |nil=>intro _ _;trivial
   |cons f r ih=>
    intro hl ⟨⟨r1,r2,r3,r4,r5,⟨m,r6,r7⟩,d1,d2⟩,b⟩;have hl':r.length<fs.length:=by rw[List.length_cons]at hl;lia
    refine⟨⟨tg r1 (by intro z;cases z),r2,r3,r4,r5,⟨m,a2e r6 λo e=>k r1 (by intro z;cases z) e,r7.mono le⟩,λy a b=> ?_,d2⟩,ih (by lia) b⟩;obtain⟨d,j,e1,e2,e3,e4⟩:=d1 y a b;exact⟨d,j,e1,tg e2 (by intro z;cases z;lia),e3,e4⟩
  exact out fs (Nat.le_refl _) S.fr.2
 ·exact S.he.keep2 le (λb j e=>tg e (by intro z;cases z)) (λb j o e hb=>k e (by intro z;cases z) hb) (λb j e _=>tg e (by intro z;cases z)) λb o j e _ hb=>k e (by intro z;cases z) hb
 ·obtain⟨q,h1,h2⟩:=S.ob i bo hi
  exact⟨q,h1,h2.keep2 le (λb e=>tg e (by intro z;cases z)) S.fz (λb o e=>k e (by intro z;cases z) (S.fz b o e)) λb o e hb=>k e (by intro z;cases z) hb⟩
theorem S9{a v:AV}{x:Nat}{u w':Value}{ae:H}{Q:Unit->Shared->Prop}{E:VP}(c:Ctx1 Pp C A fs n)(T:ClsOk Pp.K Pp.D C.T)(X:ExtOk Pp C A n)(S:St Pp G fs hs J s)(Va:VR Pp G a u)(Vv:VR Pp G v w')
  (e:A7 C.T.fld C.T.fldE a x v J=some ae)(h: ∀G' s',G.le G'->St Pp G' fs hs ae s'->Q () s'):wpAny Pp.M A (setAttr u (Pp.D.nm x) w') Q E s:=by
 refine u0 (· =some ae) e (λid q_ e=> ?_) λz_=>absurd z_ ((nomatch ·));subst q_;obtain⟨p,hp,rfl⟩:=Va;refine b6p (· =some ae) e (λk f hid e=> ?_) λe=> ?_
 ·obtain⟨hc,rfl⟩:=j8 e
  obtain⟨h1,h2⟩:=an hc;obtain⟨I,hfi⟩:=T.fld k x h1;exact c3q S c.X I hfi (q7 h2) hid hp Vv λs' S'=>h G s' (.refl _) S'
 ·refine b0z (· =some ae) e (λk f b hid e=> ?_) λz_=>absurd z_ ((nomatch ·))
  obtain⟨hc,rfl⟩:=j8 e;obtain⟨hc,h3⟩:=an hc;obtain⟨h1,h2⟩:=an hc;cases b with
  |true=>cases h1
  |false=>exact X.set fs G hs J s id k f p x v w' Q E c S hid h2 (q7 h3) hp Vv h
theorem SPf.bindL{r:R AV}{f:AV->H->R Loc}{l:Loc}{Q:Flow->Shared->Prop}{Q' E:VP}(h:SPf Pp env G fs hs ((r.bind f).thenL l) Q E)
  (k: ∀a ae G' v s',G.le G'->St Pp G' (fr env l::fs) hs ae s'->VR Pp G' a v->SPf Pp env G' fs hs ((f a ae).thenL l) Q E->Q' v s'):SP Pp G (fr env l::fs) hs r Q' E:=by
 cases r with
 |ok a ae=>exact λG' v s' x S V=>k a ae G' v s' x S V (SPf.le x h)
 |exc id ae=>exact h
 |bad=>exact h
theorem c3k{x:Nat}{e:ME}{v:Expr}{pos' pos}(he: ∀l,c7 Pp C A (fr env l) fs e v)(hk:env.kindOf (Pp.D.nm x)=some .local)(hs':swapsWith v (some (.Name (Pp.D.nm x) pos')) pos.line env=pure false):
  m4 Pp C A env fs (.assign (.name x) e) (.Assign [.Name (Pp.D.nm x) pos'] v pos):=λl G hs J s Q E S h=>by
 refine wpAny_Assign_Name (he l G hs J s _ E S (h.val λa af ak u au aC am ay aj=> ?_)) hs';exact m7 am ay hk λaD av _=>aj ak aD (.refl _) av
theorem c03{x:Nat}{e:ME}{v:Expr}{pos' pos}(he: ∀l,c7 Pp C A (fr env l) fs e v)(hk:env.kindOf (Pp.D.nm x)=some .cell)(hs':swapsWith v (some (.Name (Pp.D.nm x) pos')) pos.line env=pure false):
  m4 Pp C A env fs (.assign (.cname x) e) (.Assign [.Name (Pp.D.nm x) pos'] v pos):=λl G hs J s Q E S h=>by
 refine wpAny_Assign_Name (he l G hs J s _ E S (h.val λa af ak u au aC am ay aj=> ?_)) hs';obtain⟨hu,aj⟩:=(X7 (λr=>SPf Pp env ak fs hs (R.thenL r l) Q E) aj).resolve_right id;exact b3n am ay hk (b5k hu) λaA aD az av=>aj aA aD az av
theorem c26{x:Nat}{o e:ME}{ob v:Expr}{pos' pos}(c: ∀l,Ctx1 Pp C A (fr env l::fs) n)(T:ClsOk Pp.K Pp.D C.T)(X:ExtOk Pp C A n)(he: ∀l,c7 Pp C A (fr env l) fs e v)(ho: ∀l,c7 Pp C A (fr env l) fs o ob)
  (hs':swapsWith v (some (.Attribute ob (Pp.D.nm x) pos')) pos.line env=pure false):
  m4 Pp C A env fs (.assign (.attr o x) e) (.Assign [.Attribute ob (Pp.D.nm x) pos'] v pos):=λl G hs J s Q E S h=>by
 refine plainObj_wpAny_Assign_Attribute (he l G hs J s _ E S (h.val λa af ak u au aC am ay aj=> ?_)) hs';refine ho l ak hs af au _ E am (aj.bindL λb ax aA cx aD az av aG aI=> ?_);refine j5 (λr=>SPf Pp env aA fs hs (R.thenL r l) Q E) aI (λaZ q aI=> ?_) λz_=>absurd z_ (λz=>z);exact S9 (c l) T X av aG (ay.mono Pp az) q λaM aL aE aH=>aI aM aL aE aH
theorem c9w{o i e:ME}{ob ix v:Expr}{pos' pos}(c: ∀l,Ctx1 Pp C A (fr env l::fs) n)(he: ∀l,c7 Pp C A (fr env l) fs e v)(ho: ∀l,c7 Pp C A (fr env l) fs o ob)(hi: ∀l,c7 Pp C A (fr env l) fs i ix)
  (hs':swapsWith v (some (.Subscript ob ix pos')) pos.line env=pure false):
  m4 Pp C A env fs (.assign (.idx o i) e) (.Assign [.Subscript ob ix pos'] v pos):=λl G hs J s Q E S h=>by
 refine wpAny_Assign_Subscript (he l G hs J s _ E S (h.val λa af ak u au aC am ay aj=> ?_)) hs';refine ho l ak hs af au _ E am (aj.bindL λb ax aA cx aD az av aG aI=>hi l aA hs ax aD _ E av (aI.bindL λd aZ aM cR aL aE aH be aK=> ?_));refine j5 (λr=>SPf Pp env aM fs hs (R.thenL r l) Q E) aK (λbf q aK=> ?_) λz_=>absurd z_ (λz=>z);exact a9y aH (cu (c l).a.units) (aG.mono Pp aE) be (ay.mono Pp (az.trans aE)) q λaV aR=>aK aM aV (.refl _) aR
theorem a8m{o x:Nat}{e:ME}{v:Expr}{np tpos pos}(c: ∀l,Ctx1 Pp C A (fr env l::fs) n)(T:ClsOk Pp.K Pp.D C.T)(X:ExtOk Pp C A n)(he: ∀l,c7 Pp C A (fr env l) fs e v)(hd:(Pp.D.nm o==("__debug__" :Str))=false):
  m4 Pp C A env fs (.augAttr o x e) (.AugAssign (.Attribute (.Name (Pp.D.nm o) np) (Pp.D.nm x) tpos) .Add v pos):=λl G hs J s Q E S h=>by
 refine SPf.dfdk h λhn h'=> ?_;have key: ∀Q',SP Pp G (fr env l::fs) hs (.ok (l o) J) Q' E->SP Pp G (fr env l::fs) hs (a6 C (fr env l).loc (.loc o) J) Q' E:=λQ' hq=>by
  show SP Pp G (fr env l::fs) hs (l9 .bad (l o) (.ok (l o) J)) Q' E;rw[b8x hn];exact hq
 refine wpAny_AugAssign_AttributeAny (c1e (fm:=fr env l) (fs:=fs) (C:=C) (pos:=np) hd G hs J s _ E S (key _ ?_));intro ak u au aC am ay;have ay:VR Pp ak (l o) u:=ay;have aj:=SPf.le aC h';refine a46 (c l) T (λG hs J s id cc f fl p Q E S e1 e2 e3 e4 k=>X.get _ G hs J s id cc f fl p x Q E (c l) S e1 e2 e3 e4 k) am ay (aj.val λa ax aA cx aD az av aG aI=>he l aA hs ax aD _ E av (aI.val λb aZ aM cR aL aE aH be aK=> ?_));replace aK:=aK.int;obtain⟨i,rfl,aK⟩:=aK;replace aK:=aK.int;obtain⟨j,rfl,aK⟩:=aK;refine aK.smk λbf q aK=> ?_;obtain⟨t,rfl⟩:=aG.mono Pp aE;obtain⟨t',rfl⟩:=be;exact a7s λk=>S9 (v:= .int (i+j)) (c l) T X (aH.toks _) (ay.mono Pp (az.trans aE)) ⟨k,rfl⟩ q λba aV aS aR=>aK ba aV aS aR
end
end
section
section
variable{Pp:Par}
variable{G G':Gh}{env:Env}{fs:List Fm}{hs:Hs}{J:H}{s:Shared}{A:Around}{C:Cx}{n:Nat}
theorem b1b{xs:List AV}{I:Addr}{P:Nat->Value->Prop}{fp:List Addr}{W:Nat->Heap->Prop}{ak:Gh}{aX:Hs}{E:VP}(X:SrcI Pp A G hs xs I P fp W)(aq:G.le ak):
  ∀(n i:Nat)(o:Obj)(s:Shared)(Q:List Value->Shared->Prop),i+n=xs.length->St Pp ak fs (.he I o::aX) J s->W i s.heap->
   (∀s' vs o',St Pp ak fs (.he I o'::aX) J s'->W xs.length s'.heap->VRs Pp ak (xs.drop i) vs->Q vs s')->wpAny Pp.M A (draw (.ref I) n) Q E s
 |0,i,o,s,Q,hn,S,hw,h=>by
  show wpAny _ _ (pure []) Q E s;have e:i=xs.length:=by lia
  subst e;exact wpAny_pure (h s [] o S hw (by rw[List.drop_length];trivial))
 |n+1,i,o,s,Q,hn,S,hw,h=>by
  show wpAny _ _ (pyNext (.ref I)>>=_) Q E s;refine wpAny_bind (X.next aq S (by lia) hw λa v au aO ha V am bG=> ?_);refine wpAny_bind (wpAny_holding (b1b X aq n (i+1) aO au _ (by lia) am bG λaD vs aT av bc Vs=>wpAny_pure ?_));exact h aD (v::vs) aT av bc (by rw[O4 ha];exact⟨V,Vs⟩)
theorem a2d{a:AV}{u:Value}{xs:List AV}{k:Nat}{Q:List Value->Shared->Prop}{E:VP}(S:St Pp G fs hs J s)(V:VR Pp G a u)(hh:A.handled=none)(ha:a= .tup xs\/a= .lst xs)(hk:k=xs.length)
  (h: ∀G' s' vs,G.le G'->St Pp G' fs hs J s'->VRs Pp G' xs vs->Q vs s'):wpAny Pp.M A (unpackItems u k none) Q E s:=by
 have it:wpAny Pp.M A (notIterableAtAll u) (λb s'=>b=false/\s'=s) E s:=by
  unfold notIterableAtAll;rcases ha with rfl |rfl
  ·obtain⟨b,vs,m,rfl,e1,_⟩:=V
   have T:s.TypeIs (.ref b) "tuple" :=⟨_,G9 S e1,rfl⟩
   exact wpAny_bind (wpAny_specialOf T F.slot_tuple_iter.lookup (wpAny_pure ⟨rfl,rfl⟩))
  ·obtain⟨b,vs,m,rfl,e1,_⟩:=V
   have T:s.TypeIs (.ref b) "list" :=⟨_,p6 S e1,rfl⟩
   exact wpAny_bind (wpAny_specialOf T F.slot_list_iter.lookup (wpAny_pure ⟨rfl,rfl⟩))
 have hsrc:b3w a=some xs:=by rcases ha with rfl |rfl<;>rfl
 unfold unpackItems;refine wpAny_bind (wpAny_mono it (λb s' hb=> ?_) λ_ _ x=>x);obtain⟨rfl,rfl⟩:=hb;simp only [Bool.false_eq_true,if_false];refine wpAny_bind (wpAny_holding (N7 S V hh hsrc λo P fp W ho X hw=> ?_));have S1:=S.push o s'.toks;have f1:=S.fresh (Nat.le_refl s'.heap.objs.size);have S2:=S1.pushHe (a:=s'.heap.objs.size) f1 (Heap.get?_push_size _ ho);have l2:G.le (G.add s'.heap.objs.size (.he hs.length)):=(Gh.add_ext f1).le;refine wpAny_bind (wpAny_holding (b1b X l2 k 0 o _ _ (by lia) S2 hw λaD vs aT aH bc Vs=> ?_));have hl:vs.length=xs.length:=by have:=Vs.length;simpa using this
 rw[if_neg (by lia)];refine wpAny_bind (wpAny_holding (X.stop aH bc λaM aL aE _ aR _=> ?_));simp only [Option.isSome_none,Bool.false_eq_true,if_false];exact wpAny_pure (h aM aL vs (l2.trans aE) aR (VRs.mono Pp aE (by simpa using Vs)))
noncomputable def m9(nm:Nat->Str)(sc:Scope):List Nat->List Expr->Bool
 |[],ts=>B7 ts
 |x::xs,ts=>lC ts λt q=>R8 t (λid=>id==nm x&&sc.names.lookup id==some .local)&&m9 nm sc xs q
theorem z8{nm:Nat->Str}{sc:Scope}{x:Nat}{xs:List Nat}{ts:List Expr}(h:m9 nm sc (x::xs) ts=true): ∃p q,ts= .Name (nm x) p::q/\sc.names.lookup (nm x)=some .local/\m9 nm sc xs q=true:=by
 obtain⟨t,q,rfl,h⟩:=N9 h;obtain⟨h1,h2⟩:=an h;refine D4 (m:=λt=> ∃p q',t::q= .Name (nm x) p::q'/\sc.names.lookup (nm x)=some .local/\m9 nm sc xs q'=true) h1 λi p h=> ?_;obtain⟨h3,h4⟩:=an h;rw[eq_of_beq h3]at h4⊢;exact⟨p,q,rfl,eq_of_beq h4,h2⟩
theorem K5{sc:Scope}: ∀{xs:List Nat}{ts:List Expr},m9 Pp.D.nm sc xs ts=true->(assignEach ts env).findIdx? (·.1)=none/\(assignEach ts env).length=xs.length
 |[],ts,h=>by rw[o0 h];exact⟨rfl,rfl⟩
 |x::xs,ts,h=>by
  refine a8 λp_ ah=> ?_;obtain⟨p,q,rfl,_,h⟩:=z8 h;obtain⟨h1,h2⟩:=K5 h;have e:assignEach (Expr.Name (Pp.D.nm x) p::q) env=(false,assign (.Name (Pp.D.nm x) p) env)::assignEach q env:=rfl;refine ah ?_;rw[e];refine⟨?_,by rw[List.length_cons,List.length_cons,h2]⟩;rw[List.findIdx?_cons];simp [h1]
theorem O7{sc:Scope}: ∀{xs:List Nat}{ts:List Expr},m9 Pp.D.nm sc xs ts=true-> ∀x∈xs,sc.names.lookup (Pp.D.nm x)=some .local
 |[],_,_=>nofun
 |x::xs,ts,h=>by
  refine a8 λp_ ah=> ?_;obtain⟨p,q,rfl,h1,h⟩:=z8 h;refine ah ?_;intro y hy;cases hy with
  |head=>exact h1
  |tail _ hy=>exact O7 h y hy
theorem B8{x:Nat}{xs:List Nat}{vs:List AV}{l l':Loc}(h:v7 (x::xs) vs l=some l'): ∃a q,vs=a::q/\v7 xs q (upd l x a)=some l':=by
 cases vs with
 |nil=>cases h
 |cons a q=>exact⟨a,q,rfl,h⟩
theorem I6{vs:List AV}{l l':Loc}(h:v7 [] vs l=some l'):vs=[]/\l=l':=by
 cases vs with
 |nil=>cases h;exact⟨rfl,rfl⟩
 |cons a q=>cases h
theorem J6: ∀{xs:List Nat}{vs:List AV}{l l':Loc},v7 xs vs l=some l'->xs.length=vs.length
 |[],vs,l,l',h=>by rw[(I6 h).1];rfl
 |x::xs,vs,l,l',h=>by
  replace h:=B8 h;obtain⟨a,q,rfl,h⟩:=h;exact congrArg Nat.succ (J6 h)
theorem a1g{Q:Unit->Shared->Prop}{E:VP}: ∀{xs:List Nat}{ts:List Expr}{vs:List AV}{us:List Value}{l l':Loc}{s:Shared},m9 Pp.D.nm env.scope xs ts=true->v7 xs vs l=some l'->St Pp G (fr env l::fs) hs J s->VRs Pp G vs us->
  (∀s',St Pp G (fr env l'::fs) hs J s'->Q () s')->wpAny Pp.M A (assignInOrder ((assignEach ts env).map (·.2)) us) Q E s
 |[],ts,vs,us,l,l',s,hc,e,S,V,h=>by
  obtain⟨rfl,rfl⟩:=I6 e;rw[o0 hc];cases us with
  |nil=>exact wpAny_pure (h s S)
  |cons _ _=>exact V.elim
 |x::xs,ts,vs,us,l,l',s,hc,e,S,V,h=>by
  obtain⟨a,q,rfl,e⟩:=B8 e;obtain⟨p,ts,rfl,h2,h3⟩:=z8 hc;cases us with
  |nil=>exact V.elim
  |cons u us=>
   show wpAny _ _ (do holding us (assign (.Name (Pp.D.nm x) _) env u);assignInOrder ((assignEach ts env).map (·.2)) us) _ _ _;exact wpAny_bind (wpAny_holding (wpAny_assign_Name (m7 S V.1 h2 λau am _=>a1g h3 e am V.2 h)))
theorem a1e{m:R Loc->Prop}{xs:List Nat}{a:AV}{l:Loc}{J:H}(h:m (v5 C a (.names xs) l J))(hb: ¬m .bad):C.hz=true/\ ∃vs l',(a= .tup vs\/a= .lst vs)/\v7 xs vs l=some l'/\m (.ok l' J):=by
 refine Z2 m h (λhz h=> ?_) λz_=>absurd z_ (hb);refine⟨hz, ?_⟩;refine y3 m h (λvs q_ h=> ?_) λh=> ?_
 ·subst q_
  obtain⟨l',e,h⟩:=(H6 m h).resolve_right hb;exact⟨vs,l', .inr rfl,e,h⟩
 ·refine y4 m h (λvs q_ h=> ?_) λz_=>absurd z_ (hb)
  subst q_;refine j5 m h (λl' e h=> ?_) λz_=>absurd z_ (hb);exact⟨vs,l', .inl rfl,e,h⟩
theorem a3x{xs:List Nat}{ts:List Expr}{kk p}{a:AV}{v:Value}{vs:List AV}{l l':Loc}{Q:Unit->Shared->Prop}{E:VP}(S:St Pp G (fr env l::fs) hs J s)(V:VR Pp G a v)(hh:A.handled=none)(hc:m9 Pp.D.nm env.scope xs ts=true)
  (ha:a= .tup vs\/a= .lst vs)(hl:v7 xs vs l=some l')(h: ∀G' s',G.le G'->St Pp G' (fr env l'::fs) hs J s'->Q () s'):wpAny Pp.M A (assign (.Tuple ts kk p) env v) Q E s:=by
 obtain⟨hst,hlen⟩:=K5 (env:=env) hc;rw[arm_assign_Tuple];refine wpAny_bind (wpAny_standAt ?_);unfold unpack;rw[hst];exact wpAny_bind (wpAny_holding (a2d S V hh ha (hlen.trans (J6 hl)) λaA aD us az av Vs=>a1g hc hl av Vs λaL aH=>h aA aL az aH))
theorem b74{xs:List Nat}{e:ME}{v:Expr}{ts:List Expr}{kk tpos pos}(c: ∀l,Ctx1 Pp C A (fr env l::fs) n)(he: ∀l,c7 Pp C A (fr env l) fs e v)(hc:m9 Pp.D.nm env.scope xs ts=true)
  (hs':swapsWithSole [.Tuple ts kk tpos] v pos.line env=pure false)(hw:swappedStores [.Tuple ts kk tpos] v env=pure none):
  m4 Pp C A env fs (.assign (.names xs) e) (.Assign [.Tuple ts kk tpos] v pos):=λl G hs J s Q E S h=>by
 refine Assign_Tuple (he l G hs J s _ E S (h.val λa af ak u au aC am ay aj=> ?_)) hs' hw;refine a8 λp_ ah=> ?_;obtain⟨hz,vs,l',ha,hl,aj⟩:=a1e (m:=λr=>SPf Pp env ak fs hs (R.thenL r l) Q E) aj λz=>z;refine ah ?_;exact a3x am ay ((c l).a.hz hz) hc ha hl aj
end
end
section
theorem N0{l:Loc}{x y:Nat}{a b:AV}(h:x≠y):upd (upd l x a) y b=upd (upd l y b) x a:=by
 funext z;unfold upd
 by_cases h1:z=x
 ·subst h1;simp [h]
 ·simp [h1]
theorem b2j{xs:List Nat}{vs:List AV}{l l':Loc}(hl:xs.length=2\/xs.length=3)(nd:xs.Nodup)(h:v7 xs vs l=some l'):v7 xs.reverse vs.reverse l=some l':=by
 have hv:=J6 h;rcases hl with hl |hl
 ·match xs,vs,hl,hv,h,nd with
  |[x,y],[a,b],_,_,h,nd=>
   cases h;have hxy:x≠y:=by intro e;subst e;simp at nd
   exact congrArg some (N0 hxy).symm
 ·match xs,vs,hl,hv,h,nd with
  |[x,y,w],[a,b,c],_,_,h,nd=>
   cases h;simp only [List.nodup_cons,List.mem_cons,List.mem_nil_iff,or_false,not_or,not_false_iff,and_true,List.nodup_nil]at nd;obtain⟨⟨h1,h2⟩,h3⟩:=nd;refine congrArg some ?_;show upd (upd (upd l w c) y b) x a=upd (upd (upd l x a) y b) w c;rw[N0 h1,N0 h2,N0 h3]
section
variable{Pp:Par}
variable{G G':Gh}{env:Env}{fs:List Fm}{hs:Hs}{J:H}{s:Shared}{A:Around}{C:Cx}{n:Nat}
theorem a2m{Q:Unit->Shared->Prop}{E:VP}: ∀{xs:List Nat}{vs:List AV}{us:List Value}{l l':Loc}{s:Shared},(∀x∈xs,env.kindOf (Pp.D.nm x)=some .local)->v7 xs vs l=some l'->St Pp G (fr env l::fs) hs J s->VRs Pp G vs us->
  (∀s',St Pp G (fr env l'::fs) hs J s'->Q () s')->wpAny Pp.M A (assignInOrder ((xs.map Pp.D.nm).map λn=>bindName env n) us) Q E s
 |[],vs,us,l,l',s,_,e,S,V,h=>by
  obtain⟨rfl,rfl⟩:=I6 e;cases us with
  |nil=>exact wpAny_pure (h s S)
  |cons _ _=>exact V.elim
 |x::xs,vs,us,l,l',s,hc,e,S,V,h=>by
  obtain⟨a,q,rfl,e⟩:=B8 e;cases us with
  |nil=>exact V.elim
  |cons u us=>
   show wpAny _ _ (do holding us (bindName env (Pp.D.nm x) u);assignInOrder ((xs.map Pp.D.nm).map λn=>bindName env n) us) _ _ _;exact wpAny_bind (wpAny_holding (wpAny_bindName (m7 S V.1 (hc x (.head _)) λau am _=>a2m (λy hy=>hc y (.tail _ hy)) e am V.2 h)))
theorem VRs.reverse{vs:List AV}{us:List Value}(h:VRs Pp G vs us):VRs Pp G vs.reverse us.reverse:=by
 induction vs generalizing us with
 |nil=>cases us with
  |nil=>trivial
  |cons _ _=>exact h.elim
 |cons a r ih=>cases us with
  |nil=>exact h.elim
  |cons u q=>
   rw[List.reverse_cons,List.reverse_cons];exact VRs.append (ih h.2) (l':=[a]) (vs':=[u]) ⟨h.1,trivial⟩
theorem c4j{xs:List Nat}{e:ME}{v:Expr}{ts:List Expr}{kk tpos pos}(c: ∀l,Ctx1 Pp C A (fr env l::fs) n)(he: ∀l,c7 Pp C A (fr env l) fs e v)(hc: ∀x∈xs,env.kindOf (Pp.D.nm x)=some .local)
  (hl:xs.length=2\/xs.length=3)(nd:xs.Nodup)(hs':swapsWithSole [.Tuple ts kk tpos] v pos.line env=pure false)(hw:swappedStores [.Tuple ts kk tpos] v env=pure (some (xs.map Pp.D.nm))):
  m4 Pp C A env fs (.assign (.names xs) e) (.Assign [.Tuple ts kk tpos] v pos):=λl G hs J s Q E S h=>by
 refine Assign_Tuple_swapped (names:=xs.map Pp.D.nm) (he l G hs J s _ E S (h.val λa af ak u au aC am ay aj=> ?_)) hs' hw;refine a8 λp_ ah=> ?_;obtain⟨hz,vs,l',ha,hl',aj⟩:=a1e (m:=λr=>SPf Pp env ak fs hs (R.thenL r l) Q E) aj λz=>z;refine ah ?_;refine a2d am ay ((c l).a.hz hz) ha (by rw[List.length_map];exact J6 hl') λaA aD us az av Vs=> ?_;rw[<-List.map_reverse];exact a2m (λy hy=>hc y (List.mem_reverse.mp hy)) (b2j hl nd hl') av Vs.reverse λaL aH=>aj aA aL az aH
theorem c1i{y x:Nat}{free:List Nat}{it elt:ME}{conds:MBs}{el iter:Expr}{ifs:List Expr}{scope:Scope}{px py pos spos:Pos}(c: ∀l,Ctx1 Pp C A (fr env l::fs) n)(hk:ScopeOk Pp.D scope env.scope x free)
  (hit: ∀l,c7 Pp C A (fr env l) fs it iter)
  (hA: ∀l' cenv l,cenv.scope=d7 scope env.scope->v6 Pp C A ⟨cenv,l,false⟩ (fr env l'::fs) conds ifs)(hE: ∀l' cenv l,cenv.scope=d7 scope env.scope->c7 Pp C A ⟨cenv,l,false⟩ (fr env l'::fs) elt el)
  (hs': ∀x,foldedSetIterable iter env x=pure x)(hy:env.kindOf (Pp.D.nm y)=some .local)(hsw:swapsWith (.ListComp el [⟨.Name (Pp.D.nm x) px,iter,ifs,0⟩] scope pos) (some (.Name (Pp.D.nm y) py)) spos.line env=pure true):
  m4 Pp C A env fs (.assign (.name y) (.lcomp x free it conds elt)) (.Assign [.Name (Pp.D.nm y) py] (.ListComp el [⟨.Name (Pp.D.nm x) px,iter,ifs,0⟩] scope pos) spos):=λl G hs J s Q E S h=>by
 refine a8 λp_ ah=> ?_;obtain⟨cl,hcl,h1,h2⟩:=C0 S.fr.1 hk;refine ah ?_;rw[exec_Assign_Name_used _ _ _ _ hsw];refine wpAny_bind (wpAny_standAt (wpAny_bind ?_));show wpAny _ A (do let _ <-comprehension (.ListComp el [⟨.Name (Pp.D.nm x) px,iter,ifs,0⟩] scope pos) scope env _ (newList []) false (eval iter env) (some (assign (.Name (Pp.D.nm y) py) env))) _ _ s;replace h:SPf Pp env G fs hs (((a6 C l it J).bind _).then l λv J=>(v5 C v (.name y) l J).thenL l) Q E:=h;rw[show ∀(r:R AV)(f:AV->H->R AV)(g:AV->H->RS),(r.bind f).then l g=r.then l λa J=>(f a J).then l g from λr f g=>by cases r<;>rfl]at h;refine wpAny_bind (wpAny_mono (wpAny_comprehension_free (use:=some (assign (.Name (Pp.D.nm y) py) env)) (Q:=λ_ s'=>Q .next s') rfl hs' hcl hk.kind hk.loc (hit l G hs J s _ E S (h.val λv af ak u au aC am ay aj=> ?_))) (λ_ s' hq=>wpAny_pure (wpAny_pure hq)) λ_ _ e=>e);refine a8 λp_ ah=> ?_;replace aj:SPf Pp env ak fs hs (R.then (g9 .bad (b6s af v) _) l _) Q E:=aj;obtain⟨⟨xs,live⟩,hsrc,aj⟩:=(H6 (λr=>SPf Pp env ak fs hs (R.then r l λv J=>(v5 C v (.name y) l J).thenL l) Q E) aj).resolve_right λz=>z;obtain⟨hc,aj⟩:=(X7 (λr=>SPf Pp env ak fs hs (R.then r l λv J=>(v5 C v (.name y) l J).thenL l) Q E) aj).resolve_right λz=>z;obtain⟨hc,hpu⟩:=an hc;obtain⟨hz,hle⟩:=an hc;have hh:=(c l).a.hz hz;have hlen:xs.length<=100000:=q7 hle;clear hle;have hloop: ∃ys aJ,j9 (lcF C x (only free l) conds elt) xs af= .ok ys aJ/\ ∀G' s',ak.le G'->St Pp G' (fr env (upd l y (.lst ys))::fs) hs aJ s'->Q .next s':=by
  have aI:SPf Pp env ak fs hs (((j9 (lcF C x (only free l) conds elt) xs af).bind λys J=> .ok (.lst ys) J).then l λv J=>(v5 C v (.name y) l J).thenL l) Q E:=aj;cases r:j9 (lcF C x (only free l) conds elt) xs af with
  |ok ys aJ=>rw[r]at aI;exact⟨ys,aJ,rfl,aI⟩
  |exc id aJ=>exact absurd r T4
  |bad=>rw[r]at aI;exact aI.elim
 obtain⟨ys,aJ,hl,hfin⟩:=hloop;clear aj;refine ah ?_;have store: ∀G' a cc mm s',ak.le G'->St Pp G' (fr env l::fs) hs aJ s'->VR Pp G' (.lst ys) (.ref a)->G'.own cc= .none->s'.heap.Ns cc mm->
   compPost Pp.M A E (some (assign (.Name (Pp.D.nm y) py) env)) (λ_ s'=>Q .next s') (.ref a) cc (.ok .next) s':=λG' a cc mm s' le S' V' hcc hns=>by
  show wpAny _ A (assign (.Name (Pp.D.nm y) py) env (.ref a)) _ _ _;have hne:cc≠env.locals:=λe=>by have:=S'.fr.1.own;rw[show(fr env l).env.locals=cc from e.symm,hcc]at this;cases this
  refine wpAny_assign_Name (m7 S' V' hy λaL aH kp=>⟨mm,a2e hns λo e=>kp cc o hne e,λh' hs''=> ?_⟩);exact hfin G' { aL with heap:=h' } le (aH.kept (s':={ aL with heap:=h' }) ⟨rfl,rfl⟩ λb o hb ho=>(hs''.2 b λe=>hb (by rw[e];exact hcc)).trans ho)
 rcases L6 hsrc with ⟨_,hsrc⟩ |⟨rfl,id,rfl⟩
 ·exact N7 am ay hh hsrc λo P fp W ho X hw=>a3u (Q:=λ_ s'=>Q .next s') (am.push o au.toks) X hw (am.fresh (Nat.le_refl _)) (Heap.get?_push_size _ ho) hk hlen h1 h2 (hA l) (hE l) hl store
 ·refine a01 am ay (c l).sys hh hsrc λap o oI P fp W pn Sp un ho X hw=> ?_
  refine a8 λp_ ah=> ?_;obtain⟨p1,p2⟩:=an (b0b hpu rfl);obtain⟨r1,hl'⟩:=C9 (λa=>a7k pn p1 p2 a) _ _ _ hl;refine ah ?_;subst r1;exact a3u (Q:=λ_ s'=>Q .next s') (Sp.push oI au.toks) X hw (am.fresh (Nat.le_refl _)) (Heap.get?_push_size _ ho) hk hlen h1 h2 (hA l) (hE l) hl' λG' a cc mm s' le S' V' hcc hns=>
   store G' a cc mm s' le (by simpa using un [] G' _ s' le (by simpa using S')) V' hcc hns
end
end
section
section
variable{Pp:Par}
variable{G G':Gh}{env:Env}{fs:List Fm}{hs:Hs}{J:H}{s:Shared}{A:Around}{C:Cx}{n:Nat}
variable(Pp) in
def c1z(C:Cx)(A:Around)(env:Env)(fs:List Fm)(t:MT)(x:Expr):Prop:=
 ∀(G:Gh)(hs:Hs)(J ae:H)(s:Shared)(a:AV)(v:Value)(l l':Loc)(Q:Unit->Shared->Prop)(E:VP),St Pp G (fr env l::fs) hs J s->VR Pp G a v->v5 C a t l J= .ok l' ae->
  (∀G' s',G.le G'->St Pp G' (fr env l'::fs) hs ae s'->Q () s')->wpAny Pp.M A (assign x env v) Q E s
theorem c4w{x:Nat}{p}(hk:env.kindOf (Pp.D.nm x)=some .local):c1z Pp C A env fs (.name x) (.Name (Pp.D.nm x) p):=λG hs J ae s a v l l' Q E S V e h=>by
 cases e;exact wpAny_assign_Name (m7 S V hk λau am _=>h G au (.refl _) am)
theorem c1k{xs:List Nat}{ts:List Expr}{kk p}(hz:C.hz=true->A.handled=none)(hc:m9 Pp.D.nm env.scope xs ts=true):c1z Pp C A env fs (.names xs) (.Tuple ts kk p):=λG hs J ae s a v l l' Q E S V e h=>by
 obtain⟨hz',vs,aq,ha,hl,e⟩:=a1e (m:=λr=>r= .ok l' ae) e (nomatch ·);cases e;exact a3x S V (hz hz') hc ha hl h
theorem a85{target:Expr}{I:Addr}{v:Value}{o:Obj}{T:String}{Q:Unit->Shared->Prop}{E:VP}(ho:s.heap.get? I=some o)(hc:o.cls= .type T)(hT:a3m T=false)(h:Q () s):wpAny Pp.M A (letOwnedTupleGo target (.ref I) v) Q E s:=by
 have key:wpAny Pp.M A (do
   let(.ref r, .ref a):=(Value.ref I,v) |return
   let o <-load r
   match o.cls,o.data with
   | .type n, .fields vs=>
    if["enumerate", "zip", "dict_itemiterator", "dict_reverseitemiterator", "odict_iterator", "itertools.zip_longest", "itertools.pairwise"].contains n&&vs[0]? ==some (rawInt a)then
     rule "for.unpacks-the-owned-tuple"
     updateField r 0 .none
   |_,_=>pure ()) Q E s:=by
  cases v<;>first |exact wpAny_pure h |skip
  refine wpAny_bind (wpAny_load ho ?_);rw[hc];cases o.data<;>first |exact wpAny_pure h |skip
  dsimp only;unfold a3m at hT;rw[hT];exact wpAny_pure h
 unfold letOwnedTupleGo;cases target<;>first |exact wpAny_pure h |exact key
theorem SPf.turn{hs':Hs}{ak:Gh}{f:AV->Loc->H->RS}{x:AV}{r:List AV}{l:Loc}{Q Q':Flow->Shared->Prop}{E E':VP}(h:SPf Pp env ak fs hs (l8 f (x::r) l J) Q E)
  (kn: ∀aq af G' s',G.le G'->St Pp G' (fr env aq::fs) hs' af s'->SPf Pp env ak fs hs (l8 f r aq af) Q E->Q' .next s'/\Q' .cont s')
  (kr: ∀v af G' l u s',G.le G'->St Pp G' (fr env l::fs) hs' af s'->VR Pp G' v u->SPf Pp env ak fs hs (.ret v af) Q E->Q' (.ret u) s'):SPf Pp env G fs hs' (f x l J) Q' E':=by
 replace h:SPf Pp env ak fs hs (match f x l J with | .next aq af=>l8 f r aq af | .cont aq af=>l8 f r aq af | .ret v af=> .ret v af |_=> .bad) Q E:=h;cases e:f x l J with
 |next aq af=>rw[e]at h;exact λG' s' le S'=>(kn _ _ G' s' le S' h).1
 |cont aq af=>rw[e]at h;exact λG' s' le S'=>(kn _ _ G' s' le S' h).2
 |ret v af=>rw[e]at h;exact λG' l u s' le S' V=>kr _ _ G' l u s' le S' V h
 |exc id aq af=>rw[e]at h;exact h.elim
 |bad=>rw[e]at h;exact h.elim
noncomputable def a29(C:Cx)(t:MT)(body:MSs):AV->Loc->H->RS:=λa l J=>match v5 C a t l J with | .ok l' ae=>execB C body l' ae |_=> .bad
inductive ForI (Pp:Par) (env:Env) (f:AV->Loc->H->RS) (ak G:Gh) (fs:List Fm) (hs:Hs) (vs:List AV) (W:Nat->Heap->Prop) (I:Addr) (Q:Flow->Shared->Prop) (E:VP) (k:Nat) (s:Shared):Prop
 |mk (i:Nat) (G':Gh) (ae:H) (oI:Obj) (l:Loc) (hk:k=vs.length+1-i) (hi:i<=vs.length) (le:G.le G') (S:St Pp G' (fr env l::fs) (.he I oI::hs) ae s) (hw:W i s.heap) (h:SPf Pp env ak fs hs (l8 f (vs.drop i) l ae) Q E):ForI Pp env f ak G fs hs vs W I Q E k s
theorem d0p{t:MT}{it:ME}{body:MSs}{target iter:Expr}{xs:List Stmt}{pos}(c: ∀l,Ctx1 Pp C A (fr env l::fs) n)(hT:c1z Pp C A env fs t target)(hit: ∀l,c7 Pp C A (fr env l) fs it iter)
  (hB:H5 Pp C A env fs body xs)(hset: ∀x,foldedSetIterable iter env x=pure x):m4 Pp C A env fs (.forS t it body) (.For target iter xs [] pos):=λl G hs J s Q E S h=>by
 replace h:=SPf.wh h;obtain⟨hz,h⟩:=h;have hh:=(c l).a.hz hz;refine wpAny_For (hit l G hs J s _ E S (h.val λa af ak u au aC am ay aj=> ?_)) hset;replace aj:=aj.sm;obtain⟨vs,hsrc,aj⟩:=aj;clear h S;refine N7 am ay hh hsrc λo P fp W ho X hw=> ?_;have f1:=am.fresh (Nat.le_refl au.heap.objs.size);have S2:=(am.push o au.toks).pushHe (a:=au.heap.objs.size) f1 (Heap.get?_push_size _ ho);have l2:ak.le (ak.add au.heap.objs.size (.he hs.length)):=(Gh.add_ext f1).le;replace aj:SPf Pp env ak fs hs (l8 (a29 C t body) vs l af) Q E:=aj;refine codeAny_forLoop_any (ForI Pp env (a29 C t body) ak (ak.add au.heap.objs.size (.he hs.length)) fs hs vs W au.heap.objs.size Q E) ?_ (vs.length+1) ⟨0,_,af,o,l,rfl,Nat.zero_le _, .refl _,S2,hw,aj⟩;clear aj hw S2 f1
 rintro k s' ⟨i,G',ae,oI,l',rfl,hi,le,S',hw',h'⟩
 have le':=l2.trans le
 by_cases hlt:i<vs.length
 ·refine X.next le' S' hlt hw' λa v aD aT ha Va av bc=> ?_
  obtain⟨oo,T,g1,g2,g3⟩:=X.live _ _ bc;refine a85 g1 g2 g3 ?_;rw[O4 ha]at h';clear ha hw' S' hi g1 g2;cases q:v5 C a t l' ae with
  |bad=>exact absurd h' λz=>by replace z:SPf Pp env ak fs hs (match(match v5 C a t l' ae with | .ok l' ae=>execB C body l' ae |_=> .bad)with | .next aq af=>l8 (a29 C t body) (vs.drop (i+1)) aq af | .cont aq af=>l8 (a29 C t body) (vs.drop (i+1)) aq af | .ret v af=> .ret v af |_=> .bad) Q E:=z;rw[q]at z;exact z
  |exc id aZ=>exact absurd h' λz=>by replace z:SPf Pp env ak fs hs (match(match v5 C a t l' ae with | .ok l' ae=>execB C body l' ae |_=> .bad)with | .next aq af=>l8 (a29 C t body) (vs.drop (i+1)) aq af | .cont aq af=>l8 (a29 C t body) (vs.drop (i+1)) aq af | .ret v af=> .ret v af |_=> .bad) Q E:=z;rw[q]at z;exact z
  |ok cy aZ=>
   refine hT G' _ ae aZ aD a v l' cy _ _ av Va q λaM aL aE aH=>hB cy aM _ aZ aL _ _ aH ?_;have bz:=X.keep le' aE av aH (λe m=>m) (λe m=>m) bc;have hfa:a29 C t body a l' ae=execB C body cy aZ:=by unfold a29;rw[q]
   rw[<-hfa];refine h'.turn (λbQ bf ba aV aS aR bp=> ?_) λdJ bf ba bQ cz aV aS aR bg bp=>bp ba bQ cz aV (le'.trans (aE.trans aS)) aR.popHe bg;have z:ForI Pp env (a29 C t body) ak (ak.add au.heap.objs.size (.he hs.length)) fs hs vs W au.heap.objs.size Q E (vs.length+1-(i+1)) aV:=⟨i+1,ba,bf,aT,bQ,rfl,hlt,le.trans (aE.trans aS),aR,X.keep (le'.trans aE) aS aH aR (λe m=>m) (λe m=>m) bz,bp⟩
   exact⟨⟨_,R9 hlt,z⟩,⟨_,R9 hlt,z⟩⟩
 ·have hin:=b1l hi hlt
  subst hin;rw[List.drop_length]at h';refine X.stop S' hw' λaA aD az _ av _=> ?_;exact wpAny_execs_nil (h' aA aD (le'.trans az) av)
inductive WhI (Pp:Par) (env:Env) (t:Loc->H->R Bool) (f:Loc->H->RS) (G:Gh) (fs:List Fm) (hs:Hs) (Q:Flow->Shared->Prop) (E:VP) (k:Nat) (s:Shared):Prop
 |mk (G':Gh) (ae:H) (l:Loc) (le:G.le G') (S:St Pp G' (fr env l::fs) hs ae s) (h:SPf Pp env G fs hs (n7 t f k l ae) Q E):WhI Pp env t f G fs hs Q E k s
theorem b8q{m:Nat}{t:MB}{body:MSs}{test:Expr}{xs:List Stmt}{pos}(ht: ∀l,G0 Pp C A (fr env l) fs t test)(hB:H5 Pp C A env fs body xs):
  m4 Pp C A env fs (.whileS m t body) (.While test xs [] pos):=λl G hs J s Q E S h=>by
 refine wpAny_While (codeAny_whileLoop (WhI Pp env (λl J=>tstE C l t J) (λl J=>execB C body l J) G fs hs Q E) ?_ m ⟨G,J,l, .refl _,S,h⟩);clear S h
 rintro k s' ⟨G',ae,l',le,S',h'⟩
 cases k with
 |zero=>exact h'.elim
 |succ k=>
  replace h':SPf Pp env G fs hs (match tstE C l' t ae with
   | .ok false af=> .next l' af
   | .ok true af=>(match execB C body l' af with
    | .next aP ax=>n7 (λl J=>tstE C l t J) (λl J=>execB C body l J) k aP ax
    | .cont aP ax=>n7 (λl J=>tstE C l t J) (λl J=>execB C body l J) k aP ax
    |_=> .bad)
   |_=> .bad) Q E:=h'
  refine ht l' G' hs ae s' _ _ S' ?_;show SPb Pp G' _ _ (tstE C l' t ae) _ _;cases e1:tstE C l' t ae with
  |bad=>rw[e1]at h';exact h'
  |exc id af=>rw[e1]at h';exact h'.elim
  |ok b af=>
   rw[e1]at h';intro ak au aC am;cases b with
   |false=>exact wpAny_execs_nil (h' ak au (le.trans aC) am)
   |true=>
    refine hB l' ak hs af au _ _ am ?_;cases e3:execB C body l' af with
    |next aP ax=>simp only [e3]at h';exact λaA aD az av=>⟨k,Nat.lt_succ_self _,aA,ax,aP,le.trans (aC.trans az),av,h'⟩
    |cont aP ax=>simp only [e3]at h';exact λaA aD az av=>⟨k,Nat.lt_succ_self _,aA,ax,aP,le.trans (aC.trans az),av,h'⟩
    |ret v ax=>simp only [e3]at h';exact h'.elim
    |exc id aP ax=>simp only [e3]at h';exact h'.elim
    |bad=>simp only [e3]at h';exact h'
end
end
section
section
variable{M:Model}{A:Around}{E:VP}{s:Shared}
theorem c74{base:Heap}{env:Env}{outer:List Env}{L e:Addr}{oe:Obj}{vs:Array Value}{head:Value}{hadNext:Bool}{Q:Unit->Shared->Prop}
  (hfr:A.frames=some (env::outer))(hl:s.heap.FunFrames base (env::outer))(hf:env.frame=some L)
  (he:s.heap.get? e=some oe)(hd:oe.data= .fields vs)(hsz:1<vs.size)
  (h: ∀aj h' oT ts,Heap.SlotsOnly ((env::outer).filterMap (·.frame)) s.heap aj->(∀b o,b≠e->aj.get? b=some o->h'.get? b=some o)->h'.get? e=some (oe.mapFields (·.setIfInBounds 1 (.ref aj.objs.size)))->
   h'.get? aj.objs.size=some oT->oT.data= .fields ts->ts[3]? =some .none->Q () { s with heap:=h' }):
  wpAny M A (do let a <-frameOf env;let pl <-entryPlaceOf L hadNext;let b <-EntryCells.newEntry head a .none (rawInt L) .none pl;setField (.ref e) 1 b) (λ_ s'=>wpAny M A (setFlight (.ref e) none) Q E s') E s:=by
 have hene:e∉(env::outer).filterMap (·.frame):=λhm=>by
  obtain⟨_,o,ho,hnf⟩:=hl.mem hm;rw[he]at ho;injection ho with ho;subst ho;exact hnf vs hd
 refine wpAny_bind (wpAny_frameOf_fun hfr hl hf λaj aX=> ?_);refine wpAny_bind (wpAny_entryPlaceOf λpl hpl=> ?_);unfold EntryCells.newEntry newFields;refine wpAny_bind (wpAny_newObj_type ?_ (hpl.sizeOk5 _ _ _ _ _));have bL:aj.get? e=some oe:=(aX.2.1 e hene).trans he;have cD:=Heap.get?_push_of_some (h:=aj) { cls:= .type "traceback",dict:=none,data:= .fields ([head, .ref L, .none,rawInt L, .none]++(if pl.isEmpty then List.replicate 6 Value.none else pl)).toArray } bL;refine wpAny_setField cD hd hsz ?_;have hTe:aj.objs.size≠e:=Nat.ne_of_gt (Heap.lt_size bL);have cF:=Obj.data_mapFields hd (·.setIfInBounds 1 (Value.ref aj.objs.size));have cG:=Heap.get?_update_self (Obj.mapFields (·.setIfInBounds 1 (Value.ref aj.objs.size))) cD (Obj.isFreed_of_fields cF);have cH:=(Heap.get?_update_other (aj.push { cls:= .type "traceback",dict:=none,data:= .fields ([head, .ref L, .none,rawInt L, .none]++(if pl.isEmpty then List.replicate 6 Value.none else pl)).toArray })
  (Obj.mapFields (·.setIfInBounds 1 (Value.ref aj.objs.size))) (Ne.symm hTe)).trans (Heap.get?_push_size aj rfl)
 unfold setFlight;refine wpAny_bind (wpAny_field cG cF (x:= .ref aj.objs.size) (by simp [hsz]) ?_);rw[if_pos (show(Value.ref aj.objs.size != Value.none)=true from by simp)];have eT:=Heap.get?_update_self (Obj.mapFields (·.setIfInBounds 3 ((none:Option Addr).elim Value.none λf=>rawInt f))) cH (Obj.isFreed_of_fields (Obj.data_mapFields rfl _));refine wpAny_setField cH rfl (by simp only [List.size_toArray,List.length_append,List.length_cons,List.length_nil]<;>lia) ?_;refine h aj _ _ _ aX (λb o hbe hb=> ?_) ?_ eT (Obj.data_mapFields rfl _) ?_
 ·have hbT:aj.objs.size≠b:=Nat.ne_of_gt (Heap.lt_size hb)
  rw[Heap.get?_update_other _ _ hbT,Heap.get?_update_other _ _ (Ne.symm hbe)];exact Heap.get?_push_of_some _ hb
 ·rw[Heap.get?_update_other _ _ hTe];exact cG
 ·first |(simp;done) |(rcases hpl with rfl |⟨_,_,_,_,_,_,_,rfl⟩<;>simp)
end
section
variable{Pp:Par}
variable{G G':Gh}{env:Env}{fs:List Fm}{hs:Hs}{J:H}{s:Shared}{A:Around}{C:Cx}{n:Nat}
theorem b7s{h h':Heap}{a:Addr}{m:Str->Option Value}(n:h.Ns a m)(k: ∀o,h.get? a=some o-> ∃sl,h'.get? a=some { o with slots:=sl }):h'.Ns a m:=by
 refine a8 λp_ ah=> ?_;obtain⟨o,es,ep,ho,hd,r⟩:=n;obtain⟨sl,e⟩:=k o ho;refine ah ?_;exact⟨_,es,ep,e,hd,r⟩
theorem FrOk.slots{h h':Heap}: ∀{fs:List Fm},FrOk Pp G h fs->(∀b o k,G.own b= .fr k->h.get? b=some o-> ∃sl,h'.get? b=some { o with slots:=sl })->FrOk Pp G h' fs
 |[],_,_=>trivial
 |f::r,⟨⟨r1,r2,r3,r4,r5,⟨m,r6,r7⟩,c1⟩,b⟩,k=>⟨⟨r1,r2,r3,r4,r5,⟨m,b7s r6 λo ho=>k _ o _ r1 ho,r7⟩,c1⟩,FrOk.slots b k⟩
theorem St.slots{h':Heap}{L:List Addr}(S:St Pp G fs hs J s)(hL: ∀b∈L, ∃k,G.own b= .fr k)(hs':Heap.SlotsOnly L s.heap h'):St Pp G fs hs J { s with heap:=h' }:=by
 have x:G.ext G:=⟨λ_ _=>rfl,λ_ _ h=>h⟩
 have k: ∀{b o},(∀k,G.own b≠ .fr k)->s.heap.get? b=some o->h'.get? b=some o:=λ{b o} n e=>(hs'.2.1 b λm=>by obtain⟨k,hk⟩:=hL b m;exact n k hk).trans e;have fz': ∀a o,G.own a= .fz o->h'.get? a=some o:=λa o e=>k (λj z=>by rw[e]at z;cases z) (S.fz a o e);refine⟨λb hb=> ?_,fz',λa j e=> ?_,S.base,S.fr.slots λb o j _ e=>hs'.2.2 b o e, ?_,λi bo hi=> ?_,S.dom,S.gens,S.os⟩
 ·obtain⟨o,ho⟩:=Option.isSome_iff_exists.mp (S.lt b hb)
  obtain⟨sl,e⟩:=hs'.2.2 b o ho;show(h'.get? b).isSome=true;rw[e];rfl
 ·obtain⟨o,h1,h2⟩:=S.ce a j e
  exact⟨o,k (λj z=>by rw[e]at z;cases z) h1,h2⟩
 ·exact S.he.keep x (λa o j e _ ho=>k (λj z=>by rw[e]at z;cases z) ho) (λi bo h _=>⟨h,λa o e ho=>k (λj z=>by rw[e]at z;cases z) ho⟩)
 ·obtain⟨q,h1,h2⟩:=S.ob i bo hi
  exact⟨q,h1,h2.keep x S.fz fz' λa o e ho=>k (λj z=>by rw[e]at z;cases z) ho⟩
theorem U1{h:Heap}{bR:Heap}(hb: ∀a,bR.get? a=none): ∀{fs:List Fm},FrOk Pp G h fs->h.FunFrames bR ((fs.filter (·.real)).map (·.env))/\ ∀a∈((fs.filter (·.real)).map (·.env)).filterMap (·.frame), ∃k,G.own a= .fr k
 |[],_=>⟨trivial,λa m=>by simp at m⟩
 |f::r,⟨a,b⟩=>by
  refine a8 λp_ ah=> ?_;obtain⟨i1,i2⟩:=U1 hb b;refine ah ?_;cases q:f.real with
  |false=>rw[List.filter_cons_of_neg (by rw[q];decide)];exact⟨i1,i2⟩
  |true=>
   rw[List.filter_cons_of_pos q];refine a8 λp_ ah=> ?_;obtain⟨m,⟨o,es,ep,ho,hd,_⟩,_⟩:=a.loc;refine ah ?_;refine⟨⟨by rw[a.kind];decide,⟨_,o,a.frame q,hb _,ho,λvs z=>by rw[hd]at z;cases z⟩,i1⟩,λx hx=> ?_⟩;rw[List.map_cons,List.filterMap_cons,a.frame q]at hx;rcases List.mem_cons.mp hx with rfl |hx
   ·exact⟨_,a.own⟩
   ·exact i2 x hx
noncomputable def b4v:Heap:={ objs:= #[] }
theorem a6e{id c:Nat}{f:Nat->AV}{fl:Bool}(h:J[id]? =some (.exc c f fl)):E0 id J=J.set id (.exc c f true):=by unfold E0;rw[h];rfl
theorem c5z{l:Loc}{id c:Nat}{f:Nat->AV}{fl:Bool}{p:Addr×Addr}{Q:Unit->Shared->Prop}{E:VP}(S:St Pp G (fr env l::fs) hs J s)(hfr:A.frames=some (((fr env l::fs).filter (·.real)).map (·.env)))
  (hid:J[id]? =some (.exc c f fl))(hp:G.ρ id=some p)(h: ∀G' s',G.le G'->St Pp G' (fr env l::fs) hs (E0 id J) s'->Q () s'):
  wpAny Pp.M A (noteFrame (.ref p.1) env) (λ_ s'=>wpAny Pp.M A (setFlight (.ref p.1) none) Q E s') E s:=by
 rw[a6e hid]at h;have hb0: ∀a,b4v.get? a=none:=λa=>by simp [b4v,Heap.get?]
 have hF:=S.fr.1;have hfrm:env.frame=some env.locals:=hF.frame rfl;have hlf:(fr env l::fs).filter (·.real)=fr env l::fs.filter (·.real):=List.filter_cons_of_pos rfl;rw[hlf,List.map_cons]at hfr;have hil:=(List.getElem?_eq_some_iff.mp hid).1;refine a8 λp_ ah=> ?_;have fin: ∀(bW:H)(bb:Shared)(cI:Bool)(vs:Array Value)(sl:Array (Option Value))(dd:Option Addr)(head:Value)(hadNext:Bool),bW.set id (.exc c f true)=J.set id (.exc c f true)->bW[id]? =some (.exc c f cI)->St Pp G (fr env l::fs) hs bW bb->G.own p.1= .ob id->
   bb.heap.get? p.1=some ⟨.ref (Pp.D.clsA c),dd, .fields vs,sl⟩->1<vs.size->b1p Pp G bb.heap id p f dd->
   wpAny Pp.M A (do let a <-frameOf env;let pl <-entryPlaceOf env.locals hadNext;let b <-EntryCells.newEntry head a .none (rawInt env.locals) .none pl;setField (.ref p.1) 1 b) (λ_ s'=>wpAny Pp.M A (setFlight (.ref p.1) none) Q E s') E bb:=λbW bb cI vs sl dd head hadNext dO cV bE r1 he hsz hdd=>by
  obtain⟨F1,F2⟩:=U1 hb0 bE.fr;rw[hlf,List.map_cons]at F1 F2;refine c74 hfr F1 hfrm he rfl hsz λaj h' oT ts aX cA e' eT dT tT=> ?_;have am:=bE.slots F2 aX;have hz:aj.objs.size=bb.heap.objs.size:=aX.1;rw[hz]at e' eT;have hfresh:=bE.fresh (Nat.le_refl bb.heap.objs.size);have x:=Gh.add_ext (t:= .ob id) hfresh;have hTp:bb.heap.objs.size≠p.1:=Nat.ne_of_gt (Heap.lt_size he);have same: ∀b,G.own b= .ob id->aj.get? b=bb.heap.get? b:=λb hb=>aX.2.1 b λm=>by
   obtain⟨k,q⟩:=F2 b m;rw[hb]at q;cases q
  have hp1:aj.get? p.1=some ⟨.ref (Pp.D.clsA c),dd, .fields vs,sl⟩:=(same _ r1).trans he;have av:=am.setOb (s':={ bb with heap:=h' }) (ao':= .exc c f true) cV hp x (λ_=>rfl) (λb hb hb'=>by
    by_cases e:b=bb.heap.objs.size
    ·subst e;exact Gh.add_self
    ·rw[Gh.add_ne e]at hb';exact absurd hb hb')
   (λb hb=>by
    show(h'.get? b).isSome=true
    by_cases e:b=bb.heap.objs.size
    ·subst e;rw[eT];rfl
    ·rw[Gh.add_ne e]at hb
     by_cases e2:b=p.1
     ·subst e2;rw[e'];rfl
     ·obtain⟨o,ho⟩:=Option.isSome_iff_exists.mp (am.lt b (by rw[hb];intro z;cases z))
      rw[cA b o e2 ho];rfl) ⟨rfl,rfl⟩ (λb o _ hne ho=>cA b o (λz=>hne (by rw[z];exact r1)) ho)
   (by
    refine⟨x.tag r1 (by intro z;cases z),vs.setIfInBounds 1 (.ref bb.heap.objs.size),sl,dd,e', ?_,bb.heap.objs.size,oT,ts,by simp [hsz],Gh.add_self,hTp, ?_,eT,dT,tT⟩
    ·cases dd with
     |none=>exact hdd
     |some d=>
      obtain⟨d1,d2,m,d3,d4,d5⟩:=hdd;exact⟨x.tag d1 (by intro z;cases z),d2,m,d3.at λo ho=>cA d o d2 ((same d d1).trans ho),d4,d5.mono x.le⟩
    ·intro z
     subst z;obtain⟨d1,_⟩:=hdd;rw[hfresh]at d1;cases d1)
  rw[dO]at av;exact h _ _ x.le av
 obtain⟨p',hp',r1,vs,sl,dd,r2,r3,r4⟩:=S.ob _ _ hid;rw[hp]at hp';cases hp';refine ah ?_;unfold noteFrame;simp only [hfrm];cases fl with
 |false=>
  have h1:vs[1]? =some .none:=r4;refine wpAny_bind (wpAny_field r2 rfl h1 ?_);rw[if_neg (by decide)];exact fin J s false vs sl dd _ _ rfl hid S r1 r2 (Array.getElem?_eq_some_iff.mp h1).1 r3
 |true=>
  refine a8 λp_ ah=> ?_;obtain⟨T,oT,ts,t1,t2,t3,t4,t5,t6,t7⟩:=r4;refine ah ?_;refine wpAny_bind (wpAny_field r2 rfl t1 ?_);rw[if_pos (show(Value.ref T != Value.none)=true from by simp)];refine wpAny_bind (wpAny_field t5 t6 t7 ?_);rw[if_neg (show ¬((Value.none==rawInt env.locals)=true)from by simp [rawInt])];refine wpAny_bind (wpAny_setField t5 t6 (Array.getElem?_eq_some_iff.mp t7).1 ?_);have eT:=Heap.get?_update_self (Obj.mapFields (·.setIfInBounds 3 Value.none)) t5 (Obj.isFreed_of_fields (Obj.data_mapFields t6 _));have other: ∀b,b≠T->(s.heap.update T (Obj.mapFields (·.setIfInBounds 3 Value.none))).get? b=s.heap.get? b:=λb hb=>Heap.get?_update_other _ _ (Ne.symm hb);have hdd:b1p Pp G (s.heap.update T (Obj.mapFields (·.setIfInBounds 3 Value.none))) id p f dd:=by
   cases dd with
   |none=>exact r3
   |some d=>
    obtain⟨d1,d2,m,d3,d4,d5⟩:=r3;exact⟨d1,d2,m,d3.at λo ho=>(other d λz=>t4 (by rw[z])).trans ho,d4,d5⟩
  have bE:=S.setOb1 (s':={ s with heap:=s.heap.update T (Obj.mapFields (·.setIfInBounds 3 Value.none)) }) (ao':= .exc c f true) hid hp t2 (Heap.SameBut.update ..) (by show(Heap.get? _ T).isSome=true;rw[eT];rfl) rfl rfl
   ⟨r1,vs,sl,dd,(other p.1 t3.symm).trans r2,hdd,T,_,_,t1,t2,t3,t4,eT,Obj.data_mapFields t6 _,by
    have:=(Array.getElem?_eq_some_iff.mp t7).1;simp [this]⟩
  exact fin _ _ true vs sl dd _ _ (by rw[List.set_set]) (List.getElem?_set_self hil) bE r1 ((other p.1 t3.symm).trans r2) (Array.getElem?_eq_some_iff.mp t1).1 hdd
theorem a33{l:Loc}{id c:Nat}{f:Nat->AV}{fl:Bool}{p:Addr×Addr}{Q:Unit->Shared->Prop}{E:VP}(S:St Pp G (fr env l::fs) hs J s)(hfr:A.frames=some (((fr env l::fs).filter (·.real)).map (·.env)))
  (hid:J[id]? =some (.exc c f fl))(hp:G.ρ id=some p)(h: ∀G' s',G.le G'->St Pp G' (fr env l::fs) hs (E0 id J) s'->Q () s'):
  wpAny Pp.M A (leaving env (.ref p.1)) Q E s:=by
 unfold leaving;exact wpAny_bind (wpAny_mono (c5z S hfr hid hp h) (λ_ _ h=>h) λ_ _ h=>h)
end
end
section
inductive ExcAt (h:Heap) (C:Addr) (bm:List Value):Prop
 |mk (nm q:Str) (N:Addr) (bs:List Value) (hdct:Bool) (sn:List Str) (sub:List Value) (ab:Bool) (col:Option Bool) (dd:Option Addr) (k0 k1 k2 k3 k5:Option Value) (newId:String) (e:h.get? C=some (excClassObj nm q C N bs bm hdct sn sub ab col dd k0 k1 k2 k3 k5 newId)):ExcAt h C bm
inductive ExcIn (K:Frag) (C:Addr) (bm:List Value):Prop
 |mk (nm q:Str) (N:Addr) (bs:List Value) (hdct:Bool) (sn:List Str) (sub:List Value) (ab:Bool) (col:Option Bool) (dd:Option Addr) (k0 k1 k2 k3 k5:Option Value) (newId:String) (e:K.lookup C=some (excClassObj nm q C N bs bm hdct sn sub ab col dd k0 k1 k2 k3 k5 newId)):ExcIn K C bm
theorem ExcIn.at{K:Frag}{C:Addr}{bm:List Value}{h:Heap}(X:ExcIn K C bm)(k:K.In h):ExcAt h C bm:=by
 obtain⟨nm,q,N,bs,hdct,sn,sub,ab,col,dd,k0,k1,k2,k3,k5,newId,e⟩:=X;exact⟨nm,q,N,bs,hdct,sn,sub,ab,col,dd,k0,k1,k2,k3,k5,newId,k _ _ e⟩
structure ExcsOk (K:Frag) (D:Adr) (T:Tab):Prop where
 obj: ∀c,T.isExc c=true-> ∃bm,ExcIn K (D.clsA c) bm/\bm.contains (.type "BaseException")=true/\
  ∀d,T.sub c d=true->T.isExc d=true/\(Value.ref (D.clsA c)::bm).contains (.ref (D.clsA d))=true
section
variable{Pp:Par}
variable{G G':Gh}{env:Env}{fs:List Fm}{hs:Hs}{J:H}{s:Shared}{A:Around}{C:Cx}{n:Nat}
inductive RaiseQ(E:VP)(v:Value)(s:Shared):Prop
 |mk (e:Addr) (vs:Array Value) (dd':Option Addr) (sl:Array (Option Value)) (Cl:Addr) (bm:List Value) (hv:v= .ref e) (hC:ExcAt s.heap Cl bm) (hb:bm.contains (.type "BaseException")=true) (he:s.heap.get? e=some ⟨.ref Cl,dd', .fields vs,sl⟩) (h1:vs[1]? =some .none) (hE:E (.ref e) s):RaiseQ E v s
theorem c80{x:Sem Value}{Q:Flow->Shared->Prop}{E:VP}(hh:A.handled=none)(h:wpAny Pp.M A x (RaiseQ E) E s):wpAny Pp.M A (raiseStmt env (some x) none) Q E s:=by
 unfold raiseStmt;refine wpAny_bind (wpAny_mono h (λv au aj=> ?_) λ_ _ x=>x);obtain⟨e,vs,dd',sl,Cl,bm,rfl,hC,hbase,he,h1,hE⟩:=aj;obtain⟨nm,q,N,bs,hdct,sn,sub,ab,col,dd,k0,k1,k2,k3,k5,newId,hC⟩:=hC;have hcB:(Value.ref Cl::bm).contains (.type "BaseException")=true:=by rw[List.contains_cons,hbase,Bool.or_true]
 have fl: ∀Q':Unit->Shared->Prop,Q' () au->wpAny Pp.M A (setFlight (.ref e) none) Q' E au:=λQ' hq=>by
  unfold setFlight;refine wpAny_bind (wpAny_field he rfl h1 ?_);rw[if_neg (by decide)];exact wpAny_pure hq
 clear h;obtain⟨hp,g,d,tk,os⟩:=au
 repeat (first |(refine wpAny_bind (fl _ ?_)) |with_reducible refine wpAny_loadPart_at he ?_ |with_reducible refine wpAny_loadPart_at hC ?_ |(with_reducible refine wpAny_isSubtype_exc hC ?_;rw[hcB]) |wp_step)
 exact wpAny_raiseNew_none hh hE
theorem b9n{e:ME}{x:Expr}{pos}(c: ∀l,Ctx1 Pp C A (fr env l::fs) n)(X:ExcsOk Pp.K Pp.D C.T)(he: ∀l,c7 Pp C A (fr env l) fs e x):m4 Pp C A env fs (.raise e) (.Raise (some x) none pos):=λl G hs J s Q E S h=>by
 refine a8 λp_ ah=> ?_;replace h:=SPf.wh h;obtain⟨hz,h⟩:=h;refine ah ?_;show wpAny _ A (do standAt pos;raiseStmt env (some (do let v <-eval x env;standAt pos;pure v)) none) Q E s;refine wpAny_bind (wpAny_standAt (c80 ((c l).a.hz hz) (wpAny_bind (he l G hs J s _ E S (h.val λa af ak u au aC am ay aj=>wpAny_bind (wpAny_standAt (wpAny_pure ?_)))))));refine a8 λp_ ah=> ?_;clear h S;replace aj:=aj.obj;obtain⟨id,rfl,aj⟩:=aj;replace aj:=aj.pE;obtain⟨k,f,b,hid,aj⟩:=aj;replace aj:=aj.wh;obtain⟨hk,aj⟩:=aj;obtain⟨hb,hk⟩:=an hk;refine ah ?_;cases D8 hb;refine a8 λp_ ah=> ?_;obtain⟨p,hp,rfl⟩:=ay;obtain⟨r1,vs,sl,dd,r2,r3,r4⟩:=am.at hp hid;obtain⟨bm,hK,hb,_⟩:=X.obj k hk;refine ah ?_;exact⟨p.1,vs,dd,sl,Pp.D.clsA k,bm,rfl,hK.at (am.kin (c l).X),hb,r2,r4,aj ak p au (.refl _) am hp⟩
theorem c66{e:Addr}{vs:Array Value}{dd':Option Addr}{sl:Array (Option Value)}{Cl Cl':Addr}{bm bm':List Value}{Q:Bool->Shared->Prop}{E:VP}
  (hC:ExcAt s.heap Cl bm)(hC':ExcAt s.heap Cl' bm')
  (he:s.heap.get? e=some ⟨.ref Cl,dd', .fields vs,sl⟩)(hbase:bm'.contains (.type "BaseException")=true)(hsub:(Value.ref Cl::bm).contains (.ref Cl')=true)(hq:Q true s):wpAny Pp.M A (excMatches (.ref e) (.ref Cl')) Q E s:=by
 obtain⟨nm,q,N,bs,hdct,sn,sub,ab,col,dd,k0,k1,k2,k3,k5,newId,hC⟩:=hC;obtain⟨nm',q',N',bs',hdct',sn',sub',ab',col',ddd',k0',k1',k2',k3',k5',newId',hC'⟩:=hC';have hcB:(Value.ref Cl'::bm').contains (.type "BaseException")=true:=by rw[List.contains_cons,hbase,Bool.or_true]
 have f:=tc_notTuple;obtain⟨hp,g,d,tk,os⟩:=s;unfold excMatches
 repeat (first |with_reducible refine wpAny_loadPart_at he ?_ |with_reducible refine wpAny_loadPart_at hC' ?_ |(with_reducible refine wpAny_isSubtype_exc hC' ?_;rw[hcB]) |(with_reducible refine wpAny_isSubtype_exc hC ?_;rw[hsub]) |wp_step)
 exact hq
theorem a8l{id c:Nat}{f:Nat->AV}(h:J[id]? =some (.exc c f true)):J.set id (.exc c f true)=J:=by
 obtain⟨hl,e⟩:=List.getElem?_eq_some_iff.mp h;rw[<-e,List.set_getElem_self]
theorem U2{fs:List Fm}{id c:Nat}{f:Nat->AV}{p:Addr×Addr}{Q:Unit->Shared->Prop}{E:VP}(S:St Pp G fs hs J s)(hid:J[id]? =some (.exc c f true))(hp:G.ρ id=some p)
  (h: ∀s',St Pp G fs hs J s'->Q () s'):wpAny Pp.M A (setFlight (.ref p.1) none) Q E s:=by
 refine a8 λp_ ah=> ?_;obtain⟨p',hp',r1,vs,sl,dd,r2,r3,T,oT,ts,t1,t2,t3,t4,t5,t6,t7⟩:=S.ob _ _ hid;rw[hp]at hp';cases hp';refine ah ?_;unfold setFlight;refine wpAny_bind (wpAny_field r2 rfl t1 ?_);rw[if_pos (show(Value.ref T != Value.none)=true from by simp)];refine wpAny_setField t5 t6 (Array.getElem?_eq_some_iff.mp t7).1 ?_;show Q () { s with heap:=s.heap.update T (Obj.mapFields (·.setIfInBounds 3 Value.none)) };have eT:=Heap.get?_update_self (Obj.mapFields (·.setIfInBounds 3 Value.none)) t5 (Obj.isFreed_of_fields (Obj.data_mapFields t6 _));have other: ∀b,b≠T->(s.heap.update T (Obj.mapFields (·.setIfInBounds 3 Value.none))).get? b=s.heap.get? b:=λb hb=>Heap.get?_update_other _ _ (Ne.symm hb);have hdd:b1p Pp G (s.heap.update T (Obj.mapFields (·.setIfInBounds 3 Value.none))) id p f dd:=by
  cases dd with
  |none=>exact r3
  |some d=>
   obtain⟨d1,d2,m,d3,d4,d5⟩:=r3;exact⟨d1,d2,m,d3.at λo ho=>(other d λz=>t4 (by rw[z])).trans ho,d4,d5⟩
 have bE:=S.setOb1 (s':={ s with heap:=s.heap.update T (Obj.mapFields (·.setIfInBounds 3 Value.none)) }) (ao':= .exc c f true) hid hp t2 (Heap.SameBut.update ..) (by show(Heap.get? _ T).isSome=true;rw[eT];rfl) rfl rfl
  ⟨r1,vs,sl,dd,(other p.1 t3.symm).trans r2,hdd,T,_,_,t1,t2,t3,t4,eT,Obj.data_mapFields t6 _,by
   have:=(Array.getElem?_eq_some_iff.mp t7).1;simp [this]⟩
 rw[a8l hid]at bE;exact h _ bE
theorem c01{l:Loc}(S:St Pp G (fr env l::fs) hs J s){h':Heap}{m':Str->Option Value}{tk:Nat}(hn:h'.Ns env.locals m')(hs':Heap.SameBut env.locals s.heap h'):
  St Pp G (fr env (λy=>if env.kindOf (Pp.D.nm y)=some .cell then l y else .undef)::fs) hs J { s with heap:=h',toks:=tk }:=by
 refine a8 λp_ ah=> ?_;obtain⟨f1,f2,f3,f4,f5,⟨m,f6,f7⟩,c1,c2⟩:=S.fr.1;refine ah ?_;refine S.setFr (f':=fr env _) (s':={ s with heap:=h',toks:=tk }) ⟨rfl,rfl⟩ (λb o hb _ ho=>(hs'.2 b hb).trans ho) ⟨f1,f2,f3,f4,f5,⟨m',hn,λy hy=> ?_⟩,λy hy hu=> ?_,c2⟩
 ·have hy':(if env.kindOf (Pp.D.nm y)=some .cell then l y else .undef)≠AV.undef:=hy
  by_cases q:env.kindOf (Pp.D.nm y)=some .cell
  ·rw[if_pos q]at hy'
   refine a8 λp_ ah=> ?_;obtain⟨v,V,r⟩:=f7 y hy';refine ah ?_;refine⟨v, ?_, ?_⟩
   ·show VR Pp G (if env.kindOf (Pp.D.nm y)=some .cell then l y else .undef) v
    rw[if_pos q];exact V
   ·rcases r with ⟨r,_⟩ |r
    ·rw[show(fr env l).env.kindOf (Pp.D.nm y)=env.kindOf (Pp.D.nm y)from rfl,q]at r;cases r
    ·exact .inr r
  ·rw[if_neg q]at hy';exact absurd rfl hy'
 ·have hu':(if env.kindOf (Pp.D.nm y)=some .cell then l y else .undef)=AV.undef:=hu
  have hy':env.kindOf (Pp.D.nm y)=some .cell:=hy;rw[if_pos hy']at hu';exact c1 y hy hu'
theorem d0x{body h:MSs}{g:Nat}{as:Option Nat}{xs:List Stmt}{bR:Stmt}{ys:List Stmt}{np hpos pos}(c: ∀l,Ctx1 Pp C A (fr env l::fs) n)(T:C6 Pp C.T)(X:ExcsOk Pp.K Pp.D C.T)
  (hB:H5 Pp C A env fs body xs)(hH: ∀e,H5 Pp (quiet C) (A.mark (some e)) env fs h (bR::ys))(hg2:(Pp.D.nm g==("__debug__" :Str))=false)(hg3:env.scope.names.lookup (Pp.D.nm g)=some .globalImplicit)(has: ∀x,as=some x->env.kindOf (Pp.D.nm x)=some .local):
  m4 Pp C A env fs (.tryS body g as h) (.Try xs [.ExceptHandler (some (.Name (Pp.D.nm g) np)) (as.map Pp.D.nm) (bR::ys) hpos] [] [] pos):=λl G hs J s Q E S hp=>by
 refine wpAny_Try_except (hB l G hs J s _ _ S ?_);clear S;replace hp:SPf Pp env G fs hs ((execB C body l J).orTry λid l J=>R6 .bad J[id]? λc f fl=>z9 .bad (C.T.glob g) λd=>c6 .bad (C.hz&&C.T.isExc c&&C.T.sub c d) ((execB (quiet C) h (asL as id l) (E0 id J)).caught as.isNone)) Q E:=hp;cases r:execB C body l J with
 |next aq af=>rw[r]at hp;exact λG' s' le S'=>wpAny_execs_nil (hp G' s' le S')
 |cont aq af=>rw[r]at hp;exact hp
 |ret v af=>rw[r]at hp;exact hp
 |bad=>rw[r]at hp;exact hp
 |exc id' aq af=>
  rw[r]at hp;intro ak p au aC am aY;refine a8 λp_ ah=> ?_;replace hp:SPf Pp env G fs hs (R6 .bad af[id']? _) Q E:=hp;replace hp:=hp.pE;obtain⟨k,f,fl,hid,hp⟩:=hp;replace hp:=hp.cls;obtain⟨d,hgd,hp⟩:=hp;replace hp:=hp.wh;obtain⟨hc,hp⟩:=hp;obtain⟨hc,hsub⟩:=an hc;obtain⟨hz,hk⟩:=an hc;have hgd:C.T.glob g= .cls d:=hgd;refine ah ?_;refine c5z am (c aq).a.frames hid aY λaA aD az av=> ?_;have hid2:(E0 id' af)[id']? =some (.exc k f true):=by rw[a6e hid];exact List.getElem?_set_self (List.getElem?_eq_some_iff.mp hid).1
  have dK:=az.rho _ _ aY;clear am r hc;refine wpAny_handleBy_cons (codeAny_handlers_test (a3d (C:=C) (fm:=fr env aq) (fs:=fs) (pos:=np) T hg2 hg3 aA hs _ aD _ _ av ?_)) (by intro q;cases q);show SP Pp aA (fr env aq::fs) hs (l9 .bad (C.T.glob g) (.ok (C.T.glob g) _)) _ _;rw[hgd];intro aM u aL aE aH be;cases be;refine a8 λp_ ah=> ?_;obtain⟨bm,hK,hb,hsb⟩:=X.obj k hk;obtain⟨hkd,hcont⟩:=hsb d hsub;obtain⟨bm',hK',hb',_⟩:=X.obj d hkd;have ch:=aE.rho _ _ dK;obtain⟨r1,vs,sl,dd,r2,r3,r4⟩:=aH.at ch hid2;refine ah ?_;refine c66 (hK.at (aH.kin (c aq).X)) (hK'.at (aH.kin (c aq).X)) r2 hb' hcont ?_;clear r2 hK hK' hb hb' hsb hcont r3 r4 r1;have le:=aC.trans (az.trans aE);replace hp:=SPf.le le hp;cases as with
  |none=>
   refine codeAny_handlers_suite (U2 aH hid2 ch λaV aR=>hH _ aq aM hs _ aV _ _ aR ?_);replace hp:SPf Pp env aM fs hs ((execB (quiet C) h aq (E0 id' af)).caught true) Q E:=hp;cases r':execB (quiet C) h aq (E0 id' af)with
   |next cW bw=>rw[r']at hp;exact hp
   |ret v bw=>rw[r']at hp;exact hp
   |cont cW bw=>rw[r']at hp;exact hp.elim
   |exc i cW bw=>rw[r']at hp;exact hp.elim
   |bad=>rw[r']at hp;exact hp.elim
  |some x=>
   have hx:=has x rfl;refine codeAny_handlers_suite_as (U2 aH hid2 ch λaV aR=>m7 (a:= .obj id') aR ⟨p,ch,rfl⟩ hx λbq bv _=>hH _ (upd aq x (.obj id')) aM hs _ bq _ _ bv ?_);replace hp:SPf Pp env aM fs hs ((execB (quiet C) h (upd aq x (.obj id')) (E0 id' af)).caught false) Q E:=hp;cases r':execB (quiet C) h (upd aq x (.obj id')) (E0 id' af)with
   |ret v bV=>
    rw[r']at hp;intro cQ cC u dz bZ bJ cw;refine a8 λp_ ah=> ?_;obtain⟨m,hn,_⟩:=bJ.fr.1.loc;have hkk:=bJ.fr.1.kind;refine ah ?_;refine wpAny_nameGoes hx hn (by rw[show env.scope.kind= .function from hkk];rfl) λh' m' hn' hs'=> ?_;exact hp cQ _ u _ bZ (c01 bJ hn' hs') cw
   |next cC bV=>rw[r']at hp;exact hp.elim
   |cont cC bV=>rw[r']at hp;exact hp.elim
   |exc i cC bV=>rw[r']at hp;exact hp.elim
   |bad=>rw[r']at hp;exact hp.elim
end
end
section
theorem N8: ∀{xs:List Nat}{ds args:List AV}{l l':Loc},D6 xs ds args l=some l'->args.length<=xs.length/\xs.length-args.length<=ds.length/\v7 xs (args++ds.drop (ds.length-(xs.length-args.length))) l=some l'
 |[],ds,[],l,l',h=>⟨Nat.le_refl _,Nat.zero_le _,by
  show v7 [] (ds.drop ds.length) l=_;rw[List.drop_of_length_le (Nat.le_refl _)];exact h⟩
 |x::xs,ds,v::vs,l,l',h=>by
  obtain⟨h1,h2,h3⟩:=N8 (xs:=xs) (args:=vs) (l:=upd l x v) h;exact⟨by simpa using h1,by simpa using h2,by simp only [List.length_cons,Nat.add_sub_add_right];exact h3⟩
 |x::xs,ds,[],l,l',h=>by
  refine Z2 (· =some l') h (λhl h=> ?_) λz_=>absurd z_ ((nomatch ·));refine j5 (· =some l') h (λd hd h=> ?_) λz_=>absurd z_ ((nomatch ·));have hl:=q7 hl;obtain⟨h1,h2,h3⟩:=N8 (xs:=xs) (args:=[]) (l:=upd l x d) h;simp only [List.length_nil,Nat.sub_zero,List.nil_append]at h2 h3⊢;refine⟨Nat.zero_le _,by simp;lia, ?_⟩;obtain⟨hlt,he⟩:=List.getElem?_eq_some_iff.mp hd;have e:ds.drop (ds.length-(x::xs).length)=d::ds.drop (ds.length-xs.length):=by
   have e1:ds.length-(x::xs).length=ds.length-1-xs.length:=by simp;lia
   rw[e1,List.drop_eq_getElem_cons hlt,he];congr 2;lia
  rw[e];exact h3
 |[],ds,_::_,l,l',h=>nomatch h
theorem p0: ∀(names:List (Str×NameKind))(n:Nat)(acc:List (Str×Addr))(x:Str),(x,NameKind.cell)∈names\/(acc.lookup x).isSome=true->((cellsFrom n names acc).lookup x).isSome=true
 |[],n,acc,x,h=>by
  unfold cellsFrom;rcases h with h |h
  ·cases h
  ·exact h
 |(y,k)::r,n,acc,x,h=>by
  unfold cellsFrom
  split
  ·rename_i hk
   refine p0 r (n+1) _ x ?_;rw[List.lookup_cons];rcases h with h |h
   ·cases h with
    |head=>right;simp
    |tail _ h=>exact .inl h
   ·right
    cases x==y with
    |true=>rfl
    |false=>exact h
  ·rename_i hk
   refine p0 r n acc x ?_;rcases h with h |h
   ·cases h with
    |head=>simp at hk
    |tail _ h=>exact .inl h
   ·exact .inr h
section
variable{Pp:Par}
variable{G G':Gh}{env:Env}{fs:List Fm}{hs:Hs}{J:H}{s:Shared}{A:Around}{C:Cx}{n:Nat}
theorem a7r: ∀{xs:List Nat}{vs:List AV}{us:List Value}{l l':Loc}{kf:Str->Option NameKind}{m cm:Str->Option Value},xs.Nodup->v7 xs vs l=some l'->VRs Pp G vs us->
  (∀x∈xs,kf (Pp.D.nm x)=some .local\/kf (Pp.D.nm x)=some .cell)->
  ∀y,(y∉xs/\l' y=l y/\bindL kf ((xs.map Pp.D.nm).zip us) m (Pp.D.nm y)=m (Pp.D.nm y)/\bindC kf ((xs.map Pp.D.nm).zip us) cm (Pp.D.nm y)=cm (Pp.D.nm y))\/
   (y∈xs/\ ∃v,VR Pp G (l' y) v/\((kf (Pp.D.nm y)=some .local/\bindL kf ((xs.map Pp.D.nm).zip us) m (Pp.D.nm y)=some v)\/(kf (Pp.D.nm y)=some .cell/\bindC kf ((xs.map Pp.D.nm).zip us) cm (Pp.D.nm y)=some v)))
 |[],vs,us,l,l',kf,m,cm,_,h,V,_,y=>by
  obtain⟨rfl,rfl⟩:=I6 h;exact .inl ⟨by simp,rfl,rfl,rfl⟩
 |x::xs,vs,us,l,l',kf,m,cm,nd,h,V,hk,y=>by
  replace h:=B8 h;obtain⟨v,vs,rfl,h⟩:=h;cases us with
  |nil=>exact V.elim
  |cons u us=>
   obtain⟨nd1,nd2⟩:=List.nodup_cons.mp nd;have ih:=a7r (kf:=kf) (m:=if kf (Pp.D.nm x)=some .local then λy=>if y=Pp.D.nm x then some u else m y else m) (cm:=if kf (Pp.D.nm x)=some .local then cm else λy=>if y=Pp.D.nm x then some u else cm y) nd2 h V.2 (λz hz=>hk z (.tail _ hz)) y;show(y∉x::xs/\_/\bindL kf ((Pp.D.nm x,u)::(xs.map Pp.D.nm).zip us) m (Pp.D.nm y)=_/\bindC kf ((Pp.D.nm x,u)::(xs.map Pp.D.nm).zip us) cm (Pp.D.nm y)=_)\/(y∈x::xs/\ ∃v,_/\((_/\bindL kf ((Pp.D.nm x,u)::(xs.map Pp.D.nm).zip us) m (Pp.D.nm y)=_)\/(_/\bindC kf ((Pp.D.nm x,u)::(xs.map Pp.D.nm).zip us) cm (Pp.D.nm y)=_)));unfold bindL bindC;rcases ih with ⟨i1,i2,i3,i4⟩ |⟨i1,w',i2,i3⟩
   ·rw[i3,i4,i2]
    by_cases e:y=x
    ·subst e
     refine .inr ⟨.head _,u, ?_, ?_⟩
     ·show VR Pp G (upd l y v y) u
      rw[show upd l y v y=v from if_pos rfl];exact V.1
     ·rcases hk y (.head _)with q |q
      ·exact .inl ⟨q,by rw[if_pos q,if_pos rfl]⟩
      ·exact .inr ⟨q,by rw[if_neg (by rw[q];decide),if_pos rfl]⟩
    ·have e':Pp.D.nm y≠Pp.D.nm x:=λz=>e (Pp.D.inj _ _ z)
     refine .inl ⟨λhm=>by cases hm with |head=>exact e rfl |tail _ hm=>exact i1 hm,if_neg e, ?_, ?_⟩
     ·split
      ·exact if_neg e'
      ·rfl
     ·split
      ·rfl
      ·exact if_neg e'
   ·exact .inr ⟨.tail _ i1,w',i2,i3⟩
structure FnOk (Pp:Par) (i:Nat) (r:FnRec) (fd:FuncData) (xs:List Stmt) (dv:List Value):Prop where
 obj: ∃o,Pp.K.lookup (Pp.D.fnA i)=some o/\o.data= .func fd
 co:fd.scope.isCoroutine=false
 gen:fd.scope.isGenerator=false
 body:fd.body= .stmts xs
 code: ∃c o vs t,fd.code= .ref c/\Pp.K.lookup c=some o/\o.data= .fields vs/\vs[1]? =some (.str fd.qualname t)
 kind:fd.scope.kind= .function
 glob:fd.globals=mainGlobals
 bins:fd.builtins=builtinsNs
 clos:fd.closure=[]
 binds: ∀(s:Shared)(vs:List Value),Pp.K.In s.heap->vs.length<=r.params.length->r.params.length-vs.length<=dv.length->BindsTo s fd ⟨vs,[]⟩ ((r.params.map Pp.D.nm).zip (vs++dv.drop (dv.length-(r.params.length-vs.length))))
 nodup:r.params.Nodup
 kinds: ∀x∈r.params,fd.scope.names.lookup (Pp.D.nm x)=some .local\/fd.scope.names.lookup (Pp.D.nm x)=some .cell
 dflt: ∀G:Gh,(∀a o,Pp.base.get? a=some o->G.own a= .fz o)->VRs Pp G r.defaults dv
open Classical in
noncomputable def a0o(G:Gh)(L:Addr)(k:Nat)(cells:List (Str×Addr))(h:Heap):Gh:=
 ⟨G.ρ,λb=>if b=L then .fr k else if ∃n,cells.lookup n=some b then (match h.get? b with
  |some o=>(match o.data with | .cell (some _)=> .fz o |_=> .ce k)
  |none=> .none)else G.own b⟩
theorem c4o{fd:FuncData}{i:Nat}{r:FnRec}{xs:List Stmt}{dv:List Value}{args:List AV}{vs:List Value}{l:Loc}{s':Shared}(F:FnOk Pp i r fd xs dv)(S:St Pp G fs hs J s)(Vs:VRs Pp G args vs)
  (hb:D6 r.params r.defaults args (λ_=> .undef)=some l)
  (x:InCallC s (newEnv fd.scope s.heap.objs.size fd.globals (cellsFrom (s.heap.objs.size+1) fd.scope.names []) (fd.qualname++ ".<locals>.") (some (Pp.D.fnA i)) fd.code none fd.builtins).locals
   (bindL (newEnv fd.scope s.heap.objs.size fd.globals (cellsFrom (s.heap.objs.size+1) fd.scope.names []) (fd.qualname++ ".<locals>.") (some (Pp.D.fnA i)) fd.code none fd.builtins).kindOf ((r.params.map Pp.D.nm).zip (vs++dv.drop (dv.length-(r.params.length-vs.length)))) λ_=>none)
   (newEnv fd.scope s.heap.objs.size fd.globals (cellsFrom (s.heap.objs.size+1) fd.scope.names []) (fd.qualname++ ".<locals>.") (some (Pp.D.fnA i)) fd.code none fd.builtins).cells
   (bindC (newEnv fd.scope s.heap.objs.size fd.globals (cellsFrom (s.heap.objs.size+1) fd.scope.names []) (fd.qualname++ ".<locals>.") (some (Pp.D.fnA i)) fd.code none fd.builtins).kindOf ((r.params.map Pp.D.nm).zip (vs++dv.drop (dv.length-(r.params.length-vs.length)))) λ_=>none) s'):
  ∃G',G.le G'/\St Pp G' (fr (newEnv fd.scope s.heap.objs.size fd.globals (cellsFrom (s.heap.objs.size+1) fd.scope.names []) (fd.qualname++ ".<locals>.") (some (Pp.D.fnA i)) fd.code none fd.builtins) l::fs) hs J s':=by
 generalize hE:newEnv fd.scope s.heap.objs.size fd.globals (cellsFrom (s.heap.objs.size+1) fd.scope.names []) (fd.qualname++ ".<locals>.") (some (Pp.D.fnA i)) fd.code none fd.builtins=env at x⊢;have eL:env.locals=s.heap.objs.size:=by rw[<-hE];rfl
 have eC:env.cells=cellsFrom (s.heap.objs.size+1) fd.scope.names []:=by rw[<-hE];rfl
 have eS:env.scope=fd.scope:=by rw[<-hE];rfl
 obtain⟨h',tk,rfl,kp⟩:=x.done;have xns:=x.toInCall.ns;have xcell:=x.cell;have f1:G.own env.locals= .none:=by rw[eL];exact S.fresh (Nat.le_refl _)
 have fc: ∀n c,env.cells.lookup n=some c->G.own c= .none/\c≠env.locals:=λn c hc=>by
  have:=x.above n c (mem_of_lookup hc);exact⟨S.fresh (by rw[eL]at this;exact Nat.le_of_lt this),Nat.ne_of_gt this⟩
 have ownL:(a0o G env.locals fs.length env.cells h').own env.locals= .fr fs.length:=by unfold a0o;exact if_pos rfl
 have ownC: ∀n c v o,env.cells.lookup n=some c->h'.get? c=some o->o.data= .cell (some v)->(a0o G env.locals fs.length env.cells h').own c= .fz o:=λn c v o hc ho hd=>by
  unfold a0o;show(if c=env.locals then _ else _)=_;rw[if_neg (fc n c hc).2,if_pos ⟨n,hc⟩,ho];simp only [hd]
 have ownN: ∀n c o,env.cells.lookup n=some c->h'.get? c=some o->o.data= .cell none->(a0o G env.locals fs.length env.cells h').own c= .ce fs.length:=λn c o hc ho hd=>by
  unfold a0o;show(if c=env.locals then _ else _)=_;rw[if_neg (fc n c hc).2,if_pos ⟨n,hc⟩,ho];simp only [hd]
 have ext:G.ext (a0o G env.locals fs.length env.cells h'):=⟨λb hb=>by
  unfold a0o;show(if b=env.locals then _ else _)=_;rw[if_neg (λe=>hb (by rw[e];exact f1)),if_neg (λ⟨n,hn⟩=>hb (fc n b hn).1)],λ_ _ e=>e⟩
 refine⟨a0o G env.locals fs.length env.cells h',ext.le,S.pushFr (s':={ s with heap:=h',toks:=tk }) ext (λ_=>rfl) (λb hb hb'=> ?_) ⟨rfl,rfl⟩ (λb o _ e=>kp b o e) ?_⟩
 ·by_cases e:b=env.locals
  ·subst e
   obtain⟨o,ho⟩:=a3v xns;exact .inl ⟨ownL,by show(h'.get? _).isSome=true;rw[ho];rfl⟩
  ·by_cases q: ∃n,env.cells.lookup n=some b
   ·obtain⟨n,hn⟩:=q
    obtain⟨o,ho,hd⟩:=xcell n b hn;cases hv:bindC env.kindOf ((r.params.map Pp.D.nm).zip (vs++dv.drop (dv.length-(r.params.length-vs.length)))) (λ_=>none) n with
    |some v=>rw[hv]at hd;exact .inr (.inl ⟨o,ownC n b v o hn ho hd,ho⟩)
    |none=>rw[hv]at hd;exact .inr (.inr ⟨⟨_,ownN n b o hn ho hd⟩,o,ho,hd⟩)
   ·exfalso
    unfold a0o at hb';apply hb';show(if b=env.locals then _ else _)=_;rw[if_neg e,if_neg q];exact hb
 ·obtain⟨b1,b2,b3⟩:=N8 hb
  have hvl:=Vs.length;have dl:=(F.dflt G S.base).length;have V2:VRs Pp (a0o G env.locals fs.length env.cells h') (args++r.defaults.drop (r.defaults.length-(r.params.length-args.length))) (vs++dv.drop (dv.length-(r.params.length-vs.length))):=by
   refine VRs.append (VRs.mono Pp ext.le Vs) (VRs.mono Pp ext.le ?_);have: ∀{a:List AV}{v:List Value}(k:Nat),VRs Pp G a v->VRs Pp G (a.drop k) (v.drop k):=by
    intro a
    induction a with
    |nil=>intro v k h;cases v with
     |nil=>simpa using h
     |cons _ _=>exact h.elim
    |cons x r ih=>intro v k h;cases v with
     |nil=>exact h.elim
     |cons y q=>cases k with
      |zero=>exact h
      |succ k=>exact ih k h.2
   rw[hvl,dl];exact this _ (F.dflt G S.base)
  have hk: ∀x∈r.params,env.kindOf (Pp.D.nm x)=some .local\/env.kindOf (Pp.D.nm x)=some .cell:=λx hx=>by
   rw[show env.kindOf (Pp.D.nm x)=env.scope.names.lookup (Pp.D.nm x)from rfl,eS];exact F.kinds x hx
  have B:=a7r (kf:=env.kindOf) (m:=λ_=>none) (cm:=λ_=>none) F.nodup b3 V2 hk;refine⟨ownL,by show env.scope.kind=_;rw[eS];exact F.kind,by show env.globals=_;rw[<-hE];exact F.glob,by show env.builtins=_;rw[<-hE];exact F.bins,λ_=>by show env.frame=some env.locals;rw[<-hE];rfl,⟨_,xns,λy hy=> ?_⟩,λy hy hu=> ?_, ?_⟩
  ·rcases B y with ⟨_,e,_⟩ |⟨_,v,V,r⟩
   ·exact absurd e hy
   ·refine⟨v,V, ?_⟩
    rcases r with ⟨r1,r2⟩ |⟨r1,r2⟩
    ·exact .inl ⟨r1,r2⟩
    ·have hl:((cellsFrom (s.heap.objs.size+1) fd.scope.names []).lookup (Pp.D.nm y)).isSome=true:=p0 _ _ _ _ (.inl (mem_of_lookup (by rw[show env.kindOf (Pp.D.nm y)=env.scope.names.lookup (Pp.D.nm y)from rfl,eS]at r1;exact r1)))
     rw[<-eC]at hl;obtain⟨c,hc⟩:=Option.isSome_iff_exists.mp hl;obtain⟨o,ho,hd⟩:=xcell _ c hc;rw[r2]at hd;exact .inr ⟨r1,c,o,hc,ownC _ c v o hc ho hd,hd⟩
  ·have hy':env.kindOf (Pp.D.nm y)=some .cell:=hy
   have hl:((cellsFrom (s.heap.objs.size+1) fd.scope.names []).lookup (Pp.D.nm y)).isSome=true:=p0 _ _ _ _ (.inl (mem_of_lookup (by rw[show env.kindOf (Pp.D.nm y)=env.scope.names.lookup (Pp.D.nm y)from rfl,eS]at hy';exact hy')));rw[<-eC]at hl;obtain⟨c,hc⟩:=Option.isSome_iff_exists.mp hl;obtain⟨o,ho,hd⟩:=xcell _ c hc;rcases B y with ⟨_,_,_,e⟩ |⟨_,v,V,_⟩
   ·rw[e]at hd
    exact⟨c,_,hc,ownN _ c o hc ho hd,Nat.le_refl _,λ_=>rfl⟩
   ·have hu':l y= .undef:=hu
    rw[hu']at V;exact V.elim
  ·intro a b c ha hb
   exact name_of_addr x.apart (mem_of_lookup ha) (mem_of_lookup hb)
end
end
section
noncomputable def enF(C:Cx)(i x:Nat)(body:MSs):AV->Loc->H->RS:=λa l J=>q5 .bad a λp=>a1f .bad p λk v=>execB C body (upd (upd l i k) x v) J
noncomputable def enL(vs:List AV):List AV:=vs.zipIdx.map λp=> .tup [.int (p.2:Nat),p.1]
theorem c96{vs:List AV}{j:Nat}{a:AV}(ha:vs[j]? =some a):(enL vs)[j]? =some (.tup [.int (j:Nat),a]):=by
 unfold enL;rw[List.getElem?_map,List.getElem?_zipIdx,ha];simp
section
variable{Pp:Par}
variable{G G':Gh}{env:Env}{fs:List Fm}{hs:Hs}{J:H}{s s':Shared}{A:Around}{C:Cx}{n:Nat}
theorem St.setBoth{a b:Addr}{oa oa' ob ob':Obj}(S:St Pp G fs (.he b ob:: .he a oa::hs) J s)(sh:Sh s s')(kp: ∀c o,c≠a->c≠b->G.own c≠ .none->s.heap.get? c=some o->s'.heap.get? c=some o)(ha':s'.heap.get? a=some oa')(hb':s'.heap.get? b=some ob'):
  St Pp G fs (.he b ob':: .he a oa'::hs) J s':=by
 have hb:G.own b= .he (hs.length+1):=S.he.1;have ha:G.own a= .he hs.length:=S.he.2.2.1;have k: ∀{c o t},G.own c=t->t≠ .none->t≠ .he hs.length->t≠ .he (hs.length+1)->s.heap.get? c=some o->s'.heap.get? c=some o:=λ{c} {o} {t} h n m m' ho=>kp _ _ (λe=>by rw[e,ha]at h;exact m h.symm) (λe=>by rw[e,hb]at h;exact m' h.symm) (by rw[h];exact n) ho;have x:G.ext G:=⟨λ_ _=>rfl,λ_ _ h=>h⟩
 have fz': ∀a o,G.own a= .fz o->s'.heap.get? a=some o:=λa o h=>k h (by intro z;cases z) (by intro z;cases z) (by intro z;cases z) (S.fz a o h);refine⟨λc h=> ?_,fz',λa kk h=> ?_,S.base,S.fr.keep x λa o j h hj ho=>k h (by intro z;cases z) (by intro z;cases z) (by intro z;cases z) ho,
  ⟨hb,hb',ha,ha',S.he.2.2.2.2.keep x (λa o j h hj ho=>k h (by intro z;cases z) (by intro z;cases z;exact Nat.lt_irrefl _ hj) (by intro z;cases z;lia) ho) (λi bo h _=>⟨h,λa o h ho=>k h (by intro z;cases z) (by intro z;cases z) (by intro z;cases z) ho⟩)⟩,λi bo h=> ?_,S.dom,sh.gens.trans S.gens,sh.os.trans S.os⟩
 ·by_cases e:c=a
  ·rw[e,ha'];rfl
  ·by_cases e':c=b
   ·rw[e',hb'];rfl
   ·obtain⟨o,ho⟩:=Option.isSome_iff_exists.mp (S.lt c h);rw[kp c o e e' h ho];rfl
 ·obtain⟨o,h1,h2⟩:=S.ce a _ h
  exact⟨o,k h (by intro z;cases z) (by intro z;cases z) (by intro z;cases z) h1,h2⟩
 ·obtain⟨q,h1,h2⟩:=S.ob i bo h
  exact⟨q,h1,h2.keep x S.fz fz' λa o h ho=>k h (by intro z;cases z) (by intro z;cases z) (by intro z;cases z) ho⟩
theorem SPs.of{l:Loc}{r:R AV}{Q:List Value->Shared->Prop}{E:VP}(h:SP Pp G (fr env l::fs) hs r (λv s=>Q [v] s) E):SPs Pp G (fr env l::fs) hs (r.bind λv J=> .ok [v] J) Q E:=by
 cases r with
 |ok a ae=>exact λG' vs s' le S V=>match vs,V with
  |[u],V=>h G' u s' le S V.1
 |exc id ae=>exact h
 |bad=>exact h
inductive EnI (Pp:Par) (env:Env) (f:AV->Loc->H->RS) (ak G:Gh) (fs:List Fm) (hs:Hs) (vs:List AV) (b I En:Addr) (Q:Flow->Shared->Prop) (E:VP) (k:Nat) (s:Shared):Prop
 |mk (j:Nat) (G':Gh) (ae:H) (oE oI:Obj) (l:Loc) (old:Value) (hk:k=vs.length+1-j) (hj:j<=vs.length) (le:G.le G') (S:St Pp G' (fr env l::fs) (.he En oE:: .he I oI::hs) ae s)
   (hE:IsEnum s.heap En I ((j:Nat):Int) old) (hI:s.heap.IsListIter I b j) (h:SPf Pp env ak fs hs (l8 f ((enL vs).drop j) l ae) Q E):EnI Pp env f ak G fs hs vs b I En Q E k s
theorem c2g{g i x:Nat}{it:ME}{body:MSs}{v:Expr}{xs:List Stmt}{np ip xp tp cp pos}{kk:Nat}(c: ∀l,Ctx1 Pp C A (fr env l::fs) n)(T:C6 Pp C.T)(hit: ∀l,c7 Pp C A (fr env l) fs it v)(hv:p5 v=true)
  (hg2:(Pp.D.nm g==("__debug__" :Str))=false)(hg3:env.scope.names.lookup (Pp.D.nm g)=some .globalImplicit)(hi:env.kindOf (Pp.D.nm i)=some .local)(hx:env.kindOf (Pp.D.nm x)=some .local)(hB:H5 Pp C A env fs body xs):
  m4 Pp C A env fs (.forEnum g i x it body) (.For (.Tuple [.Name (Pp.D.nm i) ip, .Name (Pp.D.nm x) xp] kk tp) (.Call (.Name (Pp.D.nm g) np) [v] [] cp) xs [] pos):=λl G hs J s Q E S h=>by
 refine SPf.whk h λhz h=> ?_;replace h:=SPf.bi h;obtain⟨b,hgd,h⟩:=h;have hgd:C.T.glob g= .bi b:=hgd;cases b<;>first |exact(show False from h).elim |skip
 have hh:=(c l).a.hz hz;refine wpAny_For ?_ (λ_=>rfl);rw[E1 rfl];refine wpAny_bind (a3d (C:=C) (fm:=fr env l) (fs:=fs) (pos:=np) T hg2 hg3 G hs _ s _ _ S ?_);show SP Pp G (fr env l::fs) hs (l9 .bad (C.T.glob g) (.ok (C.T.glob g) _)) _ _;rw[hgd];intro cX u bb dg bE dL;cases dL;have hh':=SPf.le dg h;clear h S;refine J2 (by rw[List.all_cons,hv];rfl) (b0w (hit l) c0b (A4 hv) cX hs J bb cp _ E bE ?_);show SPs Pp cX _ _ ((a6 C l it J).bind λv J=> .ok [v] J) _ _;refine SPs.of (hh'.val λa af ak u au aC am ay aj=> ?_);replace aj:=aj.lst;obtain⟨vs,rfl,aj⟩:=aj;replace aj:SPf Pp env ak fs hs (l8 (enF C i x body) (enL vs) l af) Q E:=aj;refine⟨⟨.machine, .inr (.inl rfl),Looks.of_pure rfl⟩, ?_⟩;obtain⟨b,ws,m,rfl,e1,e2⟩:=ay;have hL:=(p6 am e1).isList;refine call_enumerate_list hL λh' he hit' hsz hk=> ?_;refine wpAny_pyIter_enum he ?_;have f1:=am.fresh (Nat.le_refl au.heap.objs.size);have f2:=am.fresh (a:=au.heap.objs.size+1) (Nat.le_succ _);have S2:=am.kept (s':={ au with heap:=h' }) ⟨rfl,rfl⟩ λb o _ e=>hk b o e;obtain⟨oi,hoi,hoi'⟩:=hit';have S3:=S2.pushHe f1 hoi;have f2':(ak.add au.heap.objs.size (.he hs.length)).own (au.heap.objs.size+1)= .none:=by rw[Gh.add_ne (Nat.succ_ne_self _)];exact f2
 have S4:=S3.pushHe f2' he;have l4:=((Gh.add_ext (t:= .he hs.length) f1).le).trans (Gh.add_ext (t:= .he (hs.length+1)) f2').le;generalize hG4:(ak.add au.heap.objs.size (.he hs.length)).add (au.heap.objs.size+1) (.he (hs.length+1))=G4 at S4 l4;have hwl:ws.length=vs.length:=e2.length;refine codeAny_forLoop_any (EnI Pp env (enF C i x body) ak G4 fs hs vs b au.heap.objs.size (au.heap.objs.size+1) Q E) ?_ (vs.length+1)
  ⟨0,G4,af,_,oi,l,_,rfl,Nat.zero_le _, .refl _,S4,he,⟨oi,hoi,hoi'⟩,aj⟩
 clear S4 S3 S2 hG4 f2' f2 f1 hoi hoi' he hsz hk aj hL
 rintro k s' ⟨j,G',ae,oE,oI,l',old,rfl,hj,le,S',heI,hitI,aI⟩
 have le':=l4.trans le;have own':=le'.fz _ _ e1;have hL':=(p6 S' own').isList
 by_cases hlt:j<vs.length
 ·obtain⟨a,ha⟩: ∃a,vs[j]? =some a:=⟨_,List.getElem?_eq_getElem hlt⟩
  obtain⟨u,hu,Vu⟩:=e2.get ha;rw[O4 (c96 ha)]at aI;clear ha hj;refine wpAny_pyNext_enum_item heI hitI hL' (x:=u) (by simpa using hu) (Nat.succ_ne_self _) λdh out di cn dj cJ=> ?_;obtain⟨cK,cY,cP⟩:=di;have hfr:=S'.fresh (Nat.le_refl s'.heap.objs.size);have S5:=S'.setBoth (s':={ s' with heap:=dh,toks:=s'.toks+1 }) ⟨rfl,rfl⟩ (λc o h1 h2 _ ho=>cJ c o h2 h1 ho) cY out;refine wpAny_letOwnedTupleGo_enum out λcL cM ci=> ?_;have S6:=S5.setHe (s':={ s' with heap:=cL,toks:=s'.toks+1 }) ⟨rfl,rfl⟩ (λc o h1 _ ho=>(ci.2 c h1).trans ho) cM;have hTe:s'.heap.objs.size≠au.heap.objs.size+1:=λe=>by
   have:=S'.he.1;rw[<-e,hfr]at this;cases this
  have hT2:cL.get? s'.heap.objs.size=some { cls:= .type "tuple",data:= .seq #[.int j s'.toks,u] }:=(ci.2 _ hTe).trans cn;have S7:=S6.freeze (a:=s'.heap.objs.size) hfr hT2;have l7:G'.le (G'.add s'.heap.objs.size (.fz { cls:= .type "tuple",data:= .seq #[.int j s'.toks,u] })):=(Gh.add_ext hfr).le;have VT:VR Pp (G'.add s'.heap.objs.size (.fz { cls:= .type "tuple",data:= .seq #[.int j s'.toks,u] })) (.tup [.int (j:Nat),a]) (.ref s'.heap.objs.size):=
   ⟨_,[.int j s'.toks,u],0,rfl,Gh.add_self,⟨_,rfl⟩,Vu.mono Pp (le'.trans l7),trivial⟩
  clear S5 S6 out ci cM hT2 hTe cn cJ dj hitI heI S' hL';refine a3x (xs:=[i,x]) (l':=upd (upd l' i (.int (j:Nat))) x a) S7 VT hh ?_ (.inl rfl) rfl λaM aL aE aH=> ?_
  ·show(((Pp.D.nm i==Pp.D.nm i)&&(env.scope.names.lookup (Pp.D.nm i)==some .local))&&(((Pp.D.nm x==Pp.D.nm x)&&(env.scope.names.lookup (Pp.D.nm x)==some .local))&&true))=true
   rw[show env.scope.names.lookup (Pp.D.nm i)=some .local from hi,show env.scope.names.lookup (Pp.D.nm x)=some .local from hx];simp
  refine hB _ aM _ ae aL _ _ aH ?_;have e8:G'.le aM:=l7.trans aE;have push:((j+1:Nat):Int)=(j:Int)+1:=by push_cast;rfl
  show SPf Pp env aM fs _ (enF C i x body (.tup [.int (j:Nat),a]) l' ae) _ _;refine aI.turn (λbQ bf ba aV aS aR bp=> ?_) λdJ bf ba bQ cz aV aS aR bg bp=>bp ba bQ cz aV (le'.trans (e8.trans aS)) aR.popHe.popHe bg;have z:EnI Pp env (enF C i x body) ak G4 fs hs vs b au.heap.objs.size (au.heap.objs.size+1) Q E (vs.length+1-(j+1)) aV:=⟨j+1,ba,bf,_,cK,bQ,u,rfl,hlt,le.trans (e8.trans aS),aR,by rw[push];exact aR.heOwn.2,⟨cK,aR.he.2.2.2.1,cP⟩,bp⟩
  exact⟨⟨_,R9 hlt,z⟩,⟨_,R9 hlt,z⟩⟩
 ·have hin:=b1l hj hlt
  subst hin;rw[List.drop_eq_nil_of_le (by simp [enL])]at aI;refine wpAny_pyNext_enum_end hh heI hitI hL' (by simp [hwl]) λaK ex=>wpAny_execs_nil ?_;obtain⟨l5,S5⟩:=S'.popHe.dropHe (s':={ s' with heap:=aK }) ⟨rfl,rfl⟩ λb o hb _ ho=>ex b o hb ho;exact aI _ _ (le'.trans l5) S5
end
end
section
noncomputable def a2b(v:Expr):Option Scope:=Expr.casesOn v (λ_ _ _=>none) (λ_ _ _=>none) (λ_ _ _ _=>none) (λ_ _ _=>none) (λ_ _ _ _=>none) (λ_ _ _ _=>none) (λ_ _ _=>none) (λ_ _ _=>none) (λ_ _ s _=>some s) (λ_ _ s _=>some s) (λ_ _ _ s _=>some s) (λ_ _ _ _=>none) (λ_ _=>none) (λ_ _=>none) (λ_ _=>none) (λ_ _ _ _=>none) (λ_ _ _ _=>none) (λ_ _ _ _=>none) (λ_ _=>none) (λ_ _ _=>none) (λ_ _ _=>none) (λ_ _ _=>none) (λ_ _=>none) (λ_ _=>none) (λ_ _=>none) (λ_ _ _=>none) (λ_ _ _ _=>none)
noncomputable def b9z(v:Expr):Bool:=(a2b v).isSome
noncomputable def O0(sc:Scope)(v:Expr)(t:Str)(p:Pos):Bool:=match a2b v with
 |some s=>sc.names.lookup t==some .local&&p.line==v.pos.line&& !(s.names.any λ(n,k)=>n==t&&(k== .local||k== .cell))
 |none=>false
noncomputable def d34(sc:Scope)(ts:List Expr)(vs:List Expr):Option (Option (List Str)):=
 if(!(ts.length==2||ts.length==3)||vs.length != ts.length||ScopeKind.function != .function)=true then some none
 else if(vs.any λ| .Starred .. =>true |_=>false)=true then some none
 else
  let line:=(ts.head?.map (·.pos.line)).getD 0
  let names:=ts.filterMap λ
   | .Name id pos=>if(sc.names.lookup id==some .local&&pos.line==line)=true then some id else none
   |_=>none
  if(names.length != ts.length||names.eraseDups.length != names.length)=true then some none
  else if vs.all (foldedForSure 8)=true then some none
  else if vs.all (constantsAlone 8)=true then none
  else some (some names)
noncomputable def b0k(sc:Scope)(ts:List Expr)(v:Expr):Option (Option (List Str)):=Expr.casesOn v (λ_ _ _=>some none) (λ_ _ _=>some none) (λ_ _ _ _=>some none) (λ_ _ _=>some none) (λ_ _ _ _=>some none) (λ_ _ _ _=>some none) (λ_ _ _=>some none) (λ_ _ _=>some none) (λ_ _ _ _=>some none) (λ_ _ _ _=>some none) (λ_ _ _ _ _=>some none) (λ_ _ _ _=>some none) (λ_ _=>some none) (λ_ _=>some none) (λ_ _=>some none) (λ_ _ _ _=>some none) (λ_ _ _ _=>some none) (λ_ _ _ _=>some none) (λ_ _=>some none) (λ_ _ _=>some none) (λ_ _ _=>some none) (λ_ _ _=>some none) (λ_ _=>some none) (λ_ _=>some none) (λ_ _=>some none) (λvs _ _=>d34 sc ts vs) (λ_ _ _ _=>some none)
theorem P3{env:Env}(hk:env.scope.kind= .function):env.blockKind= .function:=by unfold Env.blockKind;rw[hk];rfl
theorem w8{env:Env}{v:Expr}{t:Str}{p:Pos}{line:Nat}(hk:env.scope.kind= .function):swapsWith v (some (.Name t p)) line env=pure (O0 env.scope v t p):=by
 cases v<;>first |rfl |skip
 all_goals
  show(pure (env.blockKind== .function&&env.kindOf t==some .local&&p.line==_&&_):Sem Bool)=_;rw[P3 hk];rfl
theorem Z4{env:Env}{v o:Expr}{a:Str}{p:Pos}{line:Nat}:swapsWith v (some (.Attribute o a p)) line env=pure false:=by cases v<;>rfl
theorem a1o{env:Env}{v o i:Expr}{p:Pos}{line:Nat}:swapsWith v (some (.Subscript o i p)) line env=pure false:=by cases v<;>rfl
theorem K4{env:Env}{v:Expr}{ts:List Expr}{kk:Nat}{p:Pos}{line:Nat}:swapsWithSole [.Tuple ts kk p] v line env=pure false:=by cases v<;>rfl
theorem Z6{env:Env}{v:Expr}{line:Nat}(h:b9z v=false):swapsWith v none line env=pure false:=by cases v<;>first |rfl |exact absurd h Bool.true_eq_false.mp
def Sw{α:Type}(x:Sem α)(o:Option α):Prop:= ∀r,o=some r->x=pure r
theorem Sw.ok{α:Type}{r:α}:Sw (pure r) (some r):=λ_ e=>by cases e;rfl
theorem Sw.no{α:Type}{x:Sem α}:Sw x none:=nofun
theorem Sw.ite{α:Type}{c:Bool}{a b:Sem α}{x y:Option α}(h1:Sw a x)(h2:Sw b y):Sw (if c=true then a else b) (if c=true then x else y):=by cases c<;>first |exact h2 |exact h1
theorem Y3{env:Env}{ts:List Expr}{kk:Nat}{tp:Pos}{v:Expr}{r:Option (List Str)}(hk:env.scope.kind= .function)(h:b0k env.scope ts v=some r):swappedStores [.Tuple ts kk tp] v env=pure r:=by
 refine(?_:Sw (swappedStores [.Tuple ts kk tp] v env) (b0k env.scope ts v)) r h;clear h;cases v<;>first |exact Sw.ok |skip
 unfold swappedStores;rw[P3 hk];exact Sw.ite .ok (Sw.ite .ok (Sw.ite .ok (Sw.ite .ok (Sw.ite .no .ok))))
section
variable{x:Stmt}{m:Stmt->Prop}
noncomputable def b04(x:Stmt)(g:List Expr->Expr->Pos->Bool):Bool:=tg false x.ctorIdx 5 λe=>Stmt.Assign.elim x e λa0 a1 a2=>g a0 a1 a2
theorem b2u{g}(h:b04 x g=true)(k: ∀a0 a1 a2,g a0 a1 a2=true->m (.Assign a0 a1 a2)):m x:=q0 h λe h=>Stmt.Assign.elim (motive_2:=λx=> ∀e,Stmt.Assign.elim x e (λa0 a1 a2=>g a0 a1 a2)=true->m x) x e (λa0 a1 a2 _ h=>k a0 a1 a2 h) e h
noncomputable def c93(x:Stmt)(g:Expr->Operator->Expr->Bool):Bool:=tg false x.ctorIdx 7 λe=>Stmt.AugAssign.elim x e λa0 a1 a2 a3=>g a0 a1 a2
theorem b5c{g}(h:c93 x g=true)(k: ∀a0 a1 a2 a3,g a0 a1 a2=true->m (.AugAssign a0 a1 a2 a3)):m x:=q0 h λe h=>Stmt.AugAssign.elim (motive_2:=λx=> ∀e,Stmt.AugAssign.elim x e (λa0 a1 a2 a3=>g a0 a1 a2)=true->m x) x e (λa0 a1 a2 a3 _ h=>k a0 a1 a2 a3 h) e h
noncomputable def c9v(x:Stmt)(g:Expr->Expr->List Stmt->List Stmt->Bool):Bool:=tg false x.ctorIdx 9 λe=>Stmt.For.elim x e λa0 a1 a2 a3 a4=>g a0 a1 a2 a3
theorem c1m{g}(h:c9v x g=true)(k: ∀a0 a1 a2 a3 a4,g a0 a1 a2 a3=true->m (.For a0 a1 a2 a3 a4)):m x:=q0 h λe h=>Stmt.For.elim (motive_2:=λx=> ∀e,Stmt.For.elim x e (λa0 a1 a2 a3 a4=>g a0 a1 a2 a3)=true->m x) x e (λa0 a1 a2 a3 a4 _ h=>k a0 a1 a2 a3 a4 h) e h
noncomputable def c1l(x:Stmt)(g:Expr->List Stmt->List Stmt->Bool):Bool:=tg false x.ctorIdx 11 λe=>Stmt.While.elim x e λa0 a1 a2 a3=>g a0 a1 a2
theorem c07{g}(h:c1l x g=true)(k: ∀a0 a1 a2 a3,g a0 a1 a2=true->m (.While a0 a1 a2 a3)):m x:=q0 h λe h=>Stmt.While.elim (motive_2:=λx=> ∀e,Stmt.While.elim x e (λa0 a1 a2 a3=>g a0 a1 a2)=true->m x) x e (λa0 a1 a2 a3 _ h=>k a0 a1 a2 a3 h) e h
noncomputable def sIf(x:Stmt)(g:Expr->List Stmt->List Stmt->Bool):Bool:=tg false x.ctorIdx 12 λe=>Stmt.If.elim x e λa0 a1 a2 a3=>g a0 a1 a2
theorem d3j{g}(h:sIf x g=true)(k: ∀a0 a1 a2 a3,g a0 a1 a2=true->m (.If a0 a1 a2 a3)):m x:=q0 h λe h=>Stmt.If.elim (motive_2:=λx=> ∀e,Stmt.If.elim x e (λa0 a1 a2 a3=>g a0 a1 a2)=true->m x) x e (λa0 a1 a2 a3 _ h=>k a0 a1 a2 a3 h) e h
noncomputable def b5m(x:Stmt)(g:Option Expr->Option Expr->Bool):Bool:=tg false x.ctorIdx 16 λe=>Stmt.Raise.elim x e λa0 a1 a2=>g a0 a1
theorem c1w{g}(h:b5m x g=true)(k: ∀a0 a1 a2,g a0 a1=true->m (.Raise a0 a1 a2)):m x:=q0 h λe h=>Stmt.Raise.elim (motive_2:=λx=> ∀e,Stmt.Raise.elim x e (λa0 a1 a2=>g a0 a1)=true->m x) x e (λa0 a1 a2 _ h=>k a0 a1 a2 h) e h
noncomputable def d2m(x:Stmt)(g:List Stmt->List ExceptHandler->List Stmt->List Stmt->Bool):Bool:=tg false x.ctorIdx 17 λe=>Stmt.Try.elim x e λa0 a1 a2 a3 a4=>g a0 a1 a2 a3
theorem c7r{g}(h:d2m x g=true)(k: ∀a0 a1 a2 a3 a4,g a0 a1 a2 a3=true->m (.Try a0 a1 a2 a3 a4)):m x:=q0 h λe h=>Stmt.Try.elim (motive_2:=λx=> ∀e,Stmt.Try.elim x e (λa0 a1 a2 a3 a4=>g a0 a1 a2 a3)=true->m x) x e (λa0 a1 a2 a3 a4 _ h=>k a0 a1 a2 a3 a4 h) e h
noncomputable def c57(x:Stmt)(g:Expr->Bool):Bool:=tg false x.ctorIdx 24 λe=>Stmt.Expr.elim x e λa0 a1=>g a0
theorem c40{g}(h:c57 x g=true)(k: ∀a0 a1,g a0=true->m (.Expr a0 a1)):m x:=q0 h λe h=>Stmt.Expr.elim (motive_2:=λx=> ∀e,Stmt.Expr.elim x e (λa0 a1=>g a0)=true->m x) x e (λa0 a1 _ h=>k a0 a1 h) e h
noncomputable def c8s(x:Stmt)(g:Option Expr->Bool):Bool:=tg false x.ctorIdx 3 λe=>Stmt.Return.elim x e λa0 a1=>g a0
theorem b7r{g}(h:c8s x g=true)(k: ∀a0 a1,g a0=true->m (.Return a0 a1)):m x:=q0 h λe h=>Stmt.Return.elim (motive_2:=λx=> ∀e,Stmt.Return.elim x e (λa0 a1=>g a0)=true->m x) x e (λa0 a1 _ h=>k a0 a1 h) e h
noncomputable def b6a(x:Stmt):Bool:=tg false x.ctorIdx 25 λe=>Stmt.Pass.elim x e λ_=>true
noncomputable def b5w(x:Stmt):Bool:=tg false x.ctorIdx 27 λe=>Stmt.Continue.elim x e λ_=>true
theorem b95(h:b6a x=true)(k: ∀p,m (.Pass p)):m x:=q0 h λe h=>Stmt.Pass.elim (motive_2:=λx=> ∀e,Stmt.Pass.elim x e (λ_=>true)=true->m x) x e (λp _ h=>k p) e h
theorem b9q(h:b5w x=true)(k: ∀p,m (.Continue p)):m x:=q0 h λe h=>Stmt.Continue.elim (motive_2:=λx=> ∀e,Stmt.Continue.elim x e (λ_=>true)=true->m x) x e (λp _ h=>k p) e h
end
noncomputable def c09(e:ME):Bool:=Nat.beq e.ctorIdx 27
theorem c86{e:ME}{m:ME->Prop}(h:c09 e=true)(k: ∀x fr it cs el,m (.lcomp x fr it cs el)):m e:=ME.lcomp.elim (motive_1:=m) e (Nat.eq_of_beq_eq_true h) k
noncomputable def Q0(nm:Nat->Str)(sc:Scope)(x:Nat):Bool:=sc.names.lookup (nm x)==some .local
noncomputable def xId(x:Expr)(n:Str):Bool:=R8 x λi=>i==n
theorem a4v{x:Expr}{n:Str}{m:Expr->Prop}(h:xId x n=true)(k: ∀p,m (.Name n p)):m x:=D4 h λi p h=>by rw[eq_of_beq h];exact k p
noncomputable def chkN(nm:Nat->Str)(sc:Scope)(xs:List Nat)(ts:List Expr)(v:Expr):Bool:=m9 nm sc xs ts&&match b0k sc ts v with
 |some none=>true
 |some (some names)=>names==xs.map nm&&(decide xs.Nodup&&(decide (xs.length=2)||decide (xs.length=3)))
 |none=>false
noncomputable def chkT(nm:Nat->Str)(sc:Scope):MT->Expr->Bool
 | .name y,t=>xId t (nm y)&&Q0 nm sc y
 | .names ys,t=>b9x t λts=>m9 nm sc ys ts
 |_,_=>false
noncomputable def d21(h:List ExceptHandler)(f:Option Expr->Option Str->List Stmt->Bool):Bool:=match h with |[.ExceptHandler t n b _]=>f t n b |_=>false
theorem c8t{h:List ExceptHandler}{f}(e:d21 h f=true): ∃t n b p,h=[.ExceptHandler t n b p]/\f t n b=true:=by
 match h,e with
 |[],e=>exact absurd e Bool.false_ne_true
 |[.ExceptHandler t n b p],e=>exact⟨t,n,b,p,rfl,e⟩
 | .ExceptHandler .. ::_::_,e=>exact absurd e Bool.false_ne_true
mutual
noncomputable def d3m(nm:Nat->Str)(sc:Scope):MS->Stmt->Bool
 | .assign t e,x=>b04 x λts v pos=>l1 ts λtg=>i6 nm sc e v&&match t with
  | .name y=>R8 tg (λid=>id==nm y&&Q0 nm sc y)&&(!(O0 sc v (nm y) tg.pos)||c09 e)
  | .cname y=>R8 tg (λid=>id==nm y&&sc.names.lookup (nm y)==some .cell)&& !O0 sc v (nm y) tg.pos
  | .attr o y=>Z9 tg λob id _=>id==nm y&&i6 nm sc o ob
  | .idx o i=>b2e tg λob ix=>i6 nm sc o ob&&i6 nm sc i ix
  | .names xs=>b9x tg λts=>chkN nm sc xs ts v
 | .aug y e,x=>c93 x λt o v=>xId t (nm y)&&(o== .Add&&(Q0 nm sc y&&i6 nm sc e v))
 | .augAttr o y e,x=>c93 x λt op v=>Z9 t (λob a _=>xId ob (nm o)&&a==nm y)&&(op== .Add&&((nm o==("__debug__" :Str))==false&&i6 nm sc e v))
 | .expr e,x=>c57 x λv=> !b9z v&&i6 nm sc e v
 | .ret e,x=>c8s x λo=>T9 o λv=>i6 nm sc e v
 | .retNone,x=>c8s x λo=>a4s o
 | .ifS t a b,x=>sIf x λu p q=>chkB nm sc t u&&(chkSs nm sc a p&&chkSs nm sc b q)
 | .forS t it body,x=>c9v x λtg iter xs o=>B7 o&&(chkT nm sc t tg&&(i6 nm sc it iter&&(a0l iter&&chkSs nm sc body xs)))
 | .forEnum g i y it body,x=>c9v x λtg iter xs o=>B7 o&&(b9x tg (λts=>l2 ts λt1 t2=>xId t1 (nm i)&&xId t2 (nm y))&&(Q0 nm sc i&&(Q0 nm sc y&&(a2l iter (λfn as ks _=>B7 ks&&(M2 nm sc g fn&&l1 as λv=>i6 nm sc it v))&&chkSs nm sc body xs))))
 | .whileS _ t body,x=>c1l x λu xs o=>B7 o&&(chkB nm sc t u&&chkSs nm sc body xs)
 | .raise e,x=>b5m x λv c=>a4s c&&T9 v λv=>i6 nm sc e v
 | .tryS body g as h,x=>d2m x λxs hd o f=>B7 o&&(B7 f&&(chkSs nm sc body xs&&d21 hd λt n b=>T9 t (M2 nm sc g)&&(n==as.map nm&&((match as with |some y=>Q0 nm sc y |none=>true)&&(!B7 b&&chkSs nm sc h b)))))
 | .cont,x=>b5w x
 | .pass,x=>b6a x
 | .dead,_=>true
noncomputable def chkSs(nm:Nat->Str)(sc:Scope):MSs->List Stmt->Bool
 | .nil,l=>B7 l
 | .cons s r,l=>lC l λx q=>d3m nm sc s x&&chkSs nm sc r q
end
structure GrdS (Pp:Par) (T:Tab) (n:Nat):Prop where
 glob:C6 Pp T
 cls:ClsOk Pp.K Pp.D T
 exc:ExcsOk Pp.K Pp.D T
 ext: ∀C A,C.T=T->ExtOk Pp C A n
section
variable{Pp:Par}
variable{env:Env}{fs:List Fm}{A:Around}{C:Cx}{n:Nat}
theorem b8u{l:Loc}{e:Value}(c:Ctx1 Pp C A (fr env l::fs) n):Ctx1 Pp (quiet C) (A.mark (some e)) (fr env l::fs) n:=
 ⟨c.X,c.sys,c.nm,⟨c.a.frames,(λh=>nomatch h),c.a.depth,c.a.units⟩,(λh=>nomatch h),λ_ _ _ h=>absurd rfl h,λ_ _ _ _=>rfl⟩
variable(Pp env fs n) in
def SS(st:MS):Prop:= ∀(C:Cx)(A:Around)(x:Stmt)(X:GrdS Pp C.T n)(hc: ∀fs,C.hz=true->R7 Pp C.call fs n)(c: ∀l,Ctx1 Pp C A (fr env l::fs) n)(hk:env.scope.kind= .function),d3m Pp.D.nm env.scope st x=true->m4 Pp C A env fs st x
variable(Pp env fs n) in
def SSs(st:MSs):Prop:= ∀(C:Cx)(A:Around)(xs:List Stmt)(X:GrdS Pp C.T n)(hc: ∀fs,C.hz=true->R7 Pp C.call fs n)(c: ∀l,Ctx1 Pp C A (fr env l::fs) n)(hk:env.scope.kind= .function),chkSs Pp.D.nm env.scope st xs=true->H5 Pp C A env fs st xs
mutual
theorem sS: ∀st:MS,SS Pp env fs n st
 | .assign t e=>λC A x X hc c hk h=>b2u h λts v pos h=>by
  replace h:=a7b h;obtain⟨tg,rfl,h⟩:=h;have Y:Grd Pp C A n:=⟨X.glob,X.cls,X.ext C A rfl,hc⟩
  replace h:=an h;obtain⟨he,h⟩:=h;cases t with
  |name y=>
   replace h:=an h;obtain⟨h1,h2⟩:=h;refine D4 (m:=λtg=>(!(O0 env.scope v (Pp.D.nm y) tg.pos)||c09 e)=true->m4 Pp C A env fs (.assign (.name y) e) (.Assign [tg] v pos)) h1 (λid p h h2=> ?_) h2;obtain⟨h3,h4⟩:=an h;rw[eq_of_beq h3];have h4:env.kindOf (Pp.D.nm y)=some .local:=eq_of_beq h4;cases hsw:O0 env.scope v (Pp.D.nm y) p with
   |false=>exact c3k (λl=>sE Y e (c l) he) h4 (by rw[w8 hk,hsw])
   |true=>
    have h2:c09 e=true:=by
     replace h2:(!(O0 env.scope v (Pp.D.nm y) p)||c09 e)=true:=h2;rw[hsw]at h2;exact h2
    refine c86 (m:=λe=>i6 Pp.D.nm env.scope e v=true->m4 Pp C A env fs (.assign (.name y) e) (.Assign [.Name (Pp.D.nm y) p] v pos)) h2 (λ_ _ _ _ _ he=> ?_) he;refine c51 (m:=λv=>O0 env.scope v (Pp.D.nm y) p=true->m4 Pp C A env fs (.assign (.name y) (.lcomp _ _ _ _ _)) (.Assign [.Name (Pp.D.nm y) p] v pos)) he (λel gs scope q h hsw=> ?_) hsw;obtain⟨px,iter,ifs,rfl,hn,h⟩:=a9x h;obtain⟨e2,h⟩:=an h;obtain⟨e3,h⟩:=an h;exact c1i c (M0 e3) (λl=>sE Y _ (c l) e2) (λl' cenv l hcc=>sA Y _ ((c l').inner hc) (hcc▸(an h).1)) (λl' cenv l hcc=>sE Y _ ((c l').inner hc) (hcc▸(an h).2)) (a90 hn) h4 (by rw[w8 hk,hsw])
  |cname y=>
   replace h:=an h;obtain⟨h1,h2⟩:=h;refine D4 (m:=λtg=>(!O0 env.scope v (Pp.D.nm y) tg.pos)=true->m4 Pp C A env fs (.assign (.cname y) e) (.Assign [tg] v pos)) h1 (λid p h h2=> ?_) h2;obtain⟨h3,h4⟩:=an h;rw[eq_of_beq h3];exact c03 (λl=>sE Y e (c l) he) (eq_of_beq h4) (by rw[w8 hk,show O0 env.scope v (Pp.D.nm y) p=false from D8 h2])
  |attr o y=>
   refine O8 (m:=λtg=>m4 Pp C A env fs (.assign (.attr o y) e) (.Assign [tg] v pos)) h λob id p h=> ?_;rw[eq_of_beq (an h).1];exact c26 c X.cls (X.ext C A rfl) (λl=>sE Y e (c l) he) (λl=>sE Y o (c l) (an h).2) Z4
  |idx o i=>
   refine a0h (m:=λtg=>m4 Pp C A env fs (.assign (.idx o i) e) (.Assign [tg] v pos)) h λob ix p h=> ?_;exact c9w c (λl=>sE Y e (c l) he) (λl=>sE Y o (c l) (an h).1) (λl=>sE Y i (c l) (an h).2) a1o
  |names xs=>
    refine a3e (m:=λtg=>m4 Pp C A env fs (.assign (.names xs) e) (.Assign [tg] v pos)) h λts kk tp h=> ?_;obtain⟨h1,h3⟩:=an h;cases hw:b0k env.scope ts v with
    |none=>rw[hw]at h3;cases h3
    |some w=>
     rw[hw]at h3;cases w with
     |none=>exact b74 c (λl=>sE Y e (c l) he) h1 K4 (Y3 hk hw)
     |some names=>
      obtain⟨h4,h3⟩:=an h3;obtain⟨nd,hl⟩:=an h3;rw[eq_of_beq h4]at hw;exact c4j c (λl=>sE Y e (c l) he) (O7 h1) ((Bool.or_eq_true_iff.mp hl).imp q7 q7) (q7 nd) K4 (Y3 hk hw)
 | .aug y e=>λC A x X hc c hk h=>b5c h λt o v pos h=>by
  have Y:Grd Pp C A n:=⟨X.glob,X.cls,X.ext C A rfl,hc⟩
  obtain⟨h1,h⟩:=an h;obtain⟨h2,h⟩:=an h;obtain⟨h3,h4⟩:=an h;rw[eq_of_beq h2];exact a4v (m:=λt=>m4 Pp C A env fs (.aug y e) (.AugAssign t .Add v pos)) h1 λp=>c9m (λl=>sE Y e (c l) h4) (eq_of_beq h3)
 | .augAttr o y e=>λC A x X hc c hk h=>b5c h λt op v pos h=>by
  have Y:Grd Pp C A n:=⟨X.glob,X.cls,X.ext C A rfl,hc⟩
  obtain⟨h1,h⟩:=an h;obtain⟨h2,h⟩:=an h;obtain⟨h3,h4⟩:=an h;rw[eq_of_beq h2];refine O8 (m:=λt=>m4 Pp C A env fs (.augAttr o y e) (.AugAssign t .Add v pos)) h1 λob a p h=> ?_;obtain⟨h5,h6⟩:=an h;rw[eq_of_beq h6];exact a4v (m:=λob=>m4 Pp C A env fs (.augAttr o y e) (.AugAssign (.Attribute ob (Pp.D.nm y) p) .Add v pos)) h5 λq=>a8m c X.cls (X.ext C A rfl) (λl=>sE Y e (c l) h4) (eq_of_beq h3)
 | .expr e=>λC A x X hc c hk h=>c40 h λv p h=>
  c3t (λl=>sE ⟨X.glob,X.cls,X.ext C A rfl,hc⟩ e (c l) (an h).2) hk (Z6 (D8 (an h).1))
 | .ret e=>λC A x X hc c hk h=>b7r h λo p h=>by
  obtain⟨v,rfl,h⟩:=C5 h;exact c61 λl=>sE ⟨X.glob,X.cls,X.ext C A rfl,hc⟩ e (c l) h
 | .retNone=>λC A x X hc c hk h=>b7r h λo p h=>by rw[a1c h];exact a9t
 | .ifS t a b=>λC A x X hc c hk h=>d3j h λu p q pos h=>
  d2b (λl=>sB ⟨X.glob,X.cls,X.ext C A rfl,hc⟩ t (c l) (an h).1) (sSs a _ _ _ X hc c hk (an (an h).2).1) (sSs b _ _ _ X hc c hk (an (an h).2).2)
 | .forS t it body=>λC A x X hc c hk h=>c1m h λtg iter xs o pos h=>by
  obtain⟨h1,h⟩:=an h;obtain⟨h2,h⟩:=an h;obtain⟨h3,h⟩:=an h;rw[o0 h1];have Y:Grd Pp C A n:=⟨X.glob,X.cls,X.ext C A rfl,hc⟩
  refine d0p c ?_ (λl=>sE Y it (c l) h3) (sSs body _ _ _ X hc c hk (an h).2) (a90 (an h).1);cases t with
  |name y=>exact a4v (m:=λtg=>c1z Pp C A env fs (.name y) tg) (an h2).1 λp=>c4w (eq_of_beq (an h2).2)
  |names ys=>exact a3e (m:=λtg=>c1z Pp C A env fs (.names ys) tg) h2 λts kk p h=>c1k (λhz=>(c (λ_=> .undef)).a.hz hz) h
  |cname y=>exact absurd h2 Bool.false_ne_true
  |attr o y=>exact absurd h2 Bool.false_ne_true
  |idx o i=>exact absurd h2 Bool.false_ne_true
 | .forEnum g i y it body=>λC A x X hc c hk h=>c1m h λtg iter xs o pos h=>by
  obtain⟨h1,h⟩:=an h;obtain⟨h2,h⟩:=an h;obtain⟨h3,h⟩:=an h;obtain⟨h4,h⟩:=an h;obtain⟨h5,h6⟩:=an h;rw[o0 h1];clear h h1;refine a3e (m:=λtg=>m4 Pp C A env fs (.forEnum g i y it body) (.For tg iter xs [] pos)) h2 λts kk tp h=> ?_;replace h:=a9f h;obtain⟨t1,t2,rfl,h⟩:=h;refine a4v (m:=λt1=>m4 Pp C A env fs (.forEnum g i y it body) (.For (.Tuple [t1,t2] kk tp) iter xs [] pos)) (an h).1 λp1=> ?_;refine a4v (m:=λt2=>m4 Pp C A env fs (.forEnum g i y it body) (.For (.Tuple [.Name (Pp.D.nm i) p1,t2] kk tp) iter xs [] pos)) (an h).2 λp2=> ?_;refine X6 (m:=λiter=>m4 Pp C A env fs (.forEnum g i y it body) (.For (.Tuple [.Name (Pp.D.nm i) p1, .Name (Pp.D.nm y) p2] kk tp) iter xs [] pos)) h5 λfn as ks cp h=> ?_;replace h:=an h;obtain⟨h7,h⟩:=h;replace h:=an h;obtain⟨h8,h⟩:=h;replace h:=a7b h;obtain⟨v,rfl,h⟩:=h;rw[o0 h7];refine N3 (m:=λfn=>m4 Pp C A env fs (.forEnum g i y it body) (.For (.Tuple [.Name (Pp.D.nm i) p1, .Name (Pp.D.nm y) p2] kk tp) (.Call fn [v] [] cp) xs [] pos)) h8 λnp hg2 hg3=> ?_;exact c2g c X.glob (λl=>sE ⟨X.glob,X.cls,X.ext C A rfl,hc⟩ it (c l) h) (G7 h) hg2 hg3 (eq_of_beq h3) (eq_of_beq h4) (sSs body _ _ _ X hc c hk h6)
 | .whileS m t body=>λC A x X hc c hk h=>c07 h λu xs o pos h=>by
  rw[o0 (an h).1];exact b8q (λl=>sB ⟨X.glob,X.cls,X.ext C A rfl,hc⟩ t (c l) (an (an h).2).1) (sSs body _ _ _ X hc c hk (an (an h).2).2)
 | .raise e=>λC A x X hc c hk h=>c1w h λv cc pos h=>by
  obtain⟨y,rfl,h'⟩:=C5 (an h).2;rw[a1c (an h).1];exact b9n c X.exc λl=>sE ⟨X.glob,X.cls,X.ext C A rfl,hc⟩ e (c l) h'
 | .tryS body g as hd=>λC A x X hc c hk h=>c7r h λxs hs o f pos h=>by
  obtain⟨h1,h⟩:=an h;obtain⟨h2,h⟩:=an h;obtain⟨h3,h⟩:=an h;rw[o0 h1,o0 h2];obtain⟨t,nn,b,hpos,rfl,h⟩:=c8t h;obtain⟨h4,h⟩:=an h;obtain⟨h5,h⟩:=an h;obtain⟨h6,h⟩:=an h;obtain⟨h7,h8⟩:=an h;obtain⟨t,rfl,h4⟩:=C5 h4;rw[eq_of_beq h5];cases b with
  |nil=>cases h7
  |cons bR ys=>
   refine N3 (m:=λt=>m4 Pp C A env fs (.tryS body g as hd) (.Try xs [.ExceptHandler (some t) (as.map Pp.D.nm) (bR::ys) hpos] [] [] pos)) h4 λnp hg2 hg3=> ?_;refine d0x c X.glob X.exc (sSs body _ _ _ X hc c hk h3) (λe=>sSs hd (quiet C) (A.mark (some e)) _ X (λ_ z=>nomatch z) (λl=>b8u (c l)) hk h8) hg2 hg3 λy hy=> ?_;subst hy;exact eq_of_beq h6
 | .cont=>λC A x X hc c hk h=>b9q h λp=>c4h
 | .pass=>λC A x X hc c hk h=>b95 h λp=>c2p
 | .dead=>λC A x X hc c hk h=>c28
theorem sSs: ∀st:MSs,SSs Pp env fs n st
 | .nil=>λC A xs X hc c hk h=>by rw[o0 h];exact c8i
 | .cons s r=>λC A xs X hc c hk h=>by
  obtain⟨x,q,rfl,h⟩:=N9 h;exact c27 (sS s _ _ _ X hc c hk (an h).1) (sSs r _ _ _ X hc c hk (an h).2)
end
structure ProgOk (Pp:Par) (T:Tab):Prop where
 X:Pp.K.In Pp.base
 sys:(Pp.base.get? sysModules).isSome=true
 nm:NmOk Pp.D
 lim:Pp.base.NoLimit
 grd: ∀n,GrdS Pp T n
 fn: ∀i r,T.fn i=some r-> ∃fd xs dv,FnOk Pp i r fd xs dv/\chkSs Pp.D.nm fd.scope r.body xs=true
theorem a0c{T:Tab}(P:ProgOk Pp T): ∀(m:Nat)(fs:List Fm),R7 Pp (a7 T m) fs (2*m)
 |0,fs=>λA G hs J s i args vs R a S Vs h=>h.elim
 |m+1,fs=>λA G hs J s i args vs R a S Vs h=>by
  refine a8 λp_ ah=> ?_;replace h:=(H6 (λr=>SPc Pp G fs hs r R) h).resolve_right λz=>z;obtain⟨r,hr,h⟩:=h;replace h:=(H6 (λr=>SPc Pp G fs hs r R) h).resolve_right λz=>z;obtain⟨l,hb,h⟩:=h;refine ah ?_
  ·
   ·have h:SPc Pp G fs hs (RS.back (execB ⟨a7 T m,true,T⟩ r.body l J)) R:=h
    refine a8 λp_ ah=> ?_;obtain⟨fd,xs,dv,F,hchk⟩:=P.fn i r hr;obtain⟨o,hK,hod⟩:=F.obj;obtain⟨cc,co,cvs,ct,hc1,hc2,hc3,hc4⟩:=F.code;have X:=S.kin P.X;have hbase:=S.baseIn;obtain⟨b1,b2,b3⟩:=N8 hb;have hvl:=Vs.length;have dl:=(F.dflt G S.base).length;refine ah ?_;refine codeAny_call_function (by have:=a.depth;lia) (X _ _ hK) hod F.co F.gen F.body ⟨cc,co,cvs,ct,hc1,X _ _ hc2,hc3,hc4⟩ (F.binds s vs X (by lia) (by lia) _ _ _ _ ?_);rw[F.clos];refine wpAny_newFunctionEnv_cells F.kind (λy hy=> ?_) λenv he s' x=> ?_
    ·refine a8 λp_ ah=> ?_
     have hm:y.1∈r.params.map Pp.D.nm:=(List.of_mem_zip hy).1;obtain⟨z,hz,hz'⟩:=List.mem_map.mp hm;refine ah ?_;rw[<-hz'];rcases F.kinds z hz with q |q
     ·exact .inl q
     ·exact .inr ⟨q,p0 _ _ _ _ (.inl (mem_of_lookup q))⟩
    ·subst he
     refine a8 λp_ ah=> ?_;obtain⟨G',le,S'⟩:=c4o F S Vs hb x;refine ah ?_;refine⟨P.lim.keeps S'.baseIn,codeAny_func ?_⟩;have hA:AOk (A.deeper (newEnv fd.scope s.heap.objs.size fd.globals (cellsFrom (s.heap.objs.size+1) fd.scope.names []) (fd.qualname++ ".<locals>.") (some (Pp.D.fnA i)) fd.code none fd.builtins)) (fr (newEnv fd.scope s.heap.objs.size fd.globals (cellsFrom (s.heap.objs.size+1) fd.scope.names []) (fd.qualname++ ".<locals>.") (some (Pp.D.fnA i)) fd.code none fd.builtins) l::fs) true (2*m+1):=by
      refine⟨?_,a.hz, ?_, ?_⟩
      ·show A.frames.map _=_
       rw[a.frames,List.filter_cons_of_pos rfl];rfl
      ·show A.depth+1+_+8<=_;have:=a.depth;lia
      ·show A.units+3+_+300<=_;have:=a.units;lia
     have c: ∀l',Ctx1 Pp ⟨a7 T m,true,T⟩ (A.deeper (newEnv fd.scope s.heap.objs.size fd.globals (cellsFrom (s.heap.objs.size+1) fd.scope.names []) (fd.qualname++ ".<locals>.") (some (Pp.D.fnA i)) fd.code none fd.builtins)) (fr (newEnv fd.scope s.heap.objs.size fd.globals (cellsFrom (s.heap.objs.size+1) fd.scope.names []) (fd.qualname++ ".<locals>.") (some (Pp.D.fnA i)) fd.code none fd.builtins) l'::fs) (2*m):=λl'=>
      ⟨P.X,P.sys,P.nm,⟨hA.frames,hA.hz,hA.depth,hA.units⟩,λ_=>a0c P m _,λj a' ae hne=>by
       cases m with
       |zero=>exact absurd rfl hne
       |succ m=>
        have:T.fn j≠none:=λz=>hne (by show g9 (Mine.R.bad:Mine.R AV) (T.fn j) _=_;rw[z];rfl);obtain⟨r',hr'⟩:=Option.ne_none_iff_exists'.mp this;obtain⟨fd',xs',dv',F',_⟩:=P.fn j r' hr';obtain⟨o',hK',hod'⟩:=F'.obj;unfold fnIn;rw[hK'];obtain⟨c1,c2,c3,c4⟩:=o';simp only at hod';rw[hod'],λz=>nomatch z⟩
     have snd:=sSs (fs:=fs) r.body ⟨a7 T m,true,T⟩ _ _ (P.grd _) (λfs _=>a0c P m fs) c F.kind hchk;refine snd l G' hs J s' _ _ S' ?_;cases q:execB ⟨a7 T m,true,T⟩ r.body l J with
     |next l' ae=>rw[q]at h;exact λaA aD az av=>h aA .none aD (le.trans az) av.popFr rfl
     |ret v ae=>rw[q]at h;exact λaA aP u aD az av aG=>h aA u aD (le.trans az) av.popFr aG
     |cont l' ae=>rw[q]at h;exact h.elim
     |bad=>rw[q]at h;exact h.elim
     |exc id l' ae=>
      rw[q]at h;refine b0z (λr=>SPc Pp G fs hs r R) h (λk f fl hid h=> ?_) λz_=>absurd z_ (λz=>z);intro aA p aD az av aY;exact a33 av hA.frames hid aY λaM aL aE aH=>h aM p aL (le.trans (az.trans aE)) aH.popFr (aE.rho _ _ aY)
end
end
section
noncomputable abbrev d3a:List Value:=[.type "ValueError", .type "Exception", .type "BaseException", .type "object"]
noncomputable def mkB(K:Frag)(C:Addr)(sl:List (Option Value))(cd:ClassData):Bool:= !cd.hasDel&&(sl[4]?).join==some (.builtin "ValueError.__new__")&& !cd.mro.isEmpty&&cd.mro.contains (.ref C)&&cd.mro.contains (.type "ValueError")&&
   !cd.mro.contains (.type "AttributeError")&& !cd.mro.contains (.type "NameError")&&
   specialIn K (.ref C) "__call__" ==some (some (.builtin "type.__call__"))&&instIn K (.ref C) (.type "type")==some true
noncomputable def a8x(K:Frag)(C:Addr):Bool:=g9 false (K.lookup C) λo=>tg false o.data.ctorIdx 8 λe=>Data.cls.elim o.data e λcd=>mkB K C o.slots.toList cd
theorem c81{d:Data}{f:ClassData->Bool}(h:(tg false d.ctorIdx 8 λe=>Data.cls.elim d e f)=true): ∃cd,d= .cls cd/\f cd=true:=q0 h λe h=>Data.cls.elim (motive:=λd=> ∀e,Data.cls.elim d e f=true-> ∃cd,d= .cls cd/\f cd=true) d e (λcd _ h=>⟨cd,rfl,h⟩) e h
structure MakesX (M:Model) (h:Heap) (C:Addr):Prop where
 obj: ∃oc od cd sl,h.get? C=some ⟨oc,od, .cls cd,sl⟩/\cd.hasDel=false/\cd.mro.isEmpty=false
 made:Looks M h (Bind.madeBy (.ref C)) (some "ValueError.__new__")
 base:Looks M h (Bind.staticBase (.ref C)) (.ref C)
 self:Looks M h (isSubtype (.ref C) (.ref C)) true
 top:Looks M h (isSubtype (.ref C) (.type "ValueError")) true
 noA:Looks M h (isSubtype (.ref C) (.type "AttributeError")) false
 noN:Looks M h (isSubtype (.ref C) (.type "NameError")) false
 call:Looks M h (specialOf (.ref C) "__call__") (some (.builtin "type.__call__"))
 typ:Looks M h (isInstance (.ref C) (.type "type")) true
theorem b1y{K:Frag}{M:Model}{h:Heap}(X:K.In h){C:Addr}(e:a8x K C=true):MakesX M h C:=by
 refine j5 (· =true) e (λo ho e=> ?_) nofun
 ·obtain⟨cd,hd,e⟩:=c81 e
  obtain⟨oc,od,dd,sl⟩:=o;cases hd;unfold mkB at e;simp only [Bool.and_eq_true,Bool.not_eq_true',beq_iff_eq]at e;refine a8 λp_ ah=> ?_;obtain⟨⟨⟨⟨⟨⟨⟨⟨e2,e3⟩,e4⟩,e5⟩,e6⟩,e9⟩,e10⟩,e7⟩,e8⟩:=e;have hc:clsIn K C=some cd:=by unfold clsIn;rw[ho]
  have hm:Looks M h (mroOf (.ref C)) cd.mro:=(looks_clsIn X hc).andThen .now;obtain⟨c,l,hl⟩: ∃c l,cd.mro=c::l:=by cases q:cd.mro with |nil=>rw[q]at e4;cases e4 |cons c l=>exact⟨c,l,rfl⟩
  have made:Looks M h (Bind.madeBy (.ref C)) (some "ValueError.__new__"):=by
   intro A Q E s k q;unfold Bind.madeBy;refine wpAny_bind (hm A _ E s k ?_);rw[hl,List.forIn_cons];refine wpAny_bind (wpAny_bind (wpAny_bind (wpAny_bind (wpAny_loadPart (k _ _ (X _ _ ho)) (wpAny_pure ?_)))));dsimp only;rw[<-Array.getElem?_toList,e3];exact wpAny_pure (wpAny_pure (wpAny_pure q))
  have mr: ∀t,Looks M h (isSubtype (.ref C) t) (cd.mro.contains t):=λt=>looks_mroIn X (by unfold mroIn;rw[hc,Option.bind_some,if_neg (by rw[e4];decide)]);refine ah ?_;refine⟨⟨oc,od,cd,sl,X _ _ ho,e2,e4⟩,made, ?_,by simpa only [e5]using mr (.ref C),by simpa only [e6]using mr (.type "ValueError"),by simpa only [e9]using mr (.type "AttributeError"),by simpa only [e10]using mr (.type "NameError"),looks_specialIn X e7,looks_instIn X e8⟩;intro A Q E s k q;unfold Bind.staticBase;refine wpAny_bind (hm A _ E s k ?_);rw[hl,List.forIn_cons];exact wpAny_bind (wpAny_bind (wpAny_bind (made A _ E s k (wpAny_pure (wpAny_pure (wpAny_pure q))))))
noncomputable abbrev y7(vs:List Value):Obj:={ cls:= .type "tuple",data:= .seq vs.toArray }
noncomputable abbrev v4(C t:Addr):Obj:={ cls:= .ref C,data:= .fields #[.ref t, .none, .none, .none, .bool false, .none] }
section
variable{prog:Program}{w:World}{A:Around}{K:Frag}{C:Addr}{R:Result->Shared->Prop}{h:Heap}{g:Array GenState}{d:Drawn}{t:Nat}{os:OsState}
theorem wF{α:Type}{M:Model}{E:VP}{s:Shared}{Q:α->Shared->Prop}{c:Bool}{x y:Sem α}(h:c=false)(k:wpAny M A y Q E s):wpAny M A (if c=true then x else y) Q E s:=by subst h;exact k
theorem wT{α:Type}{M:Model}{E:VP}{s:Shared}{Q:α->Shared->Prop}{c:Bool}{x y:Sem α}(h:c=true)(k:wpAny M A x Q E s):wpAny M A (if c=true then x else y) Q E s:=by subst h;exact k
theorem lkb{α β:Type}{M:Model}{m:Sem β}{f:β->Sem α}{v:β}{Q:α->Shared->Prop}{E:VP}{g d tk os}(L:Looks M h m v)(k:wpAny M A (f v) Q E ⟨h,g,d,tk,os⟩):wpAny M A (m>>=f) Q E ⟨h,g,d,tk,os⟩:=wpAny_bind (L.at k)
theorem lkB{α β:Type}{M:Model}{m:Sem β}{f:β->Sem α}{v:β}{Q:α->Shared->Prop}{E:VP}{g d tk os}(L:Looks M h m v)(k:wpAny M A (f v) Q E ⟨h,g,d,tk,os⟩):wpAny M A (m.bind f) Q E ⟨h,g,d,tk,os⟩:=wpAny_bind (L.at k)
theorem d33{aa:List Value}(Y:MakesX (model prog w) h C)(hl:aa.length<=sizeLine)
  (hq:R (.ok (.ret (.ref (h.objs.size+1)))) ⟨(h.push (y7 aa)).push (v4 C h.objs.size),g,d,t,os⟩):
  codeAny (model prog w) A (.call (.builtin "ValueError.__new__") ⟨.ref C::aa,[]⟩) R ⟨h,g,d,t,os⟩:=by
 refine a8 λp_ ah=> ?_;obtain⟨⟨oc,od,cd,sl,hC,e2,e4⟩,made,base,self,top,noA,noN,call,typ⟩:=Y;have F:=PySem.F.excBase_ValueError;refine ah ?_;refine codeAny_call_builtin_code (Code.quiet_builtin _ F.quiet) ?_;unfold checkBuiltinCall;rw[F.newKind,F.newSplit,F.newRow];have here:Looks (model prog w) h (Bind.madeHere "ValueError.__new__" (.ref C)) ():=base.andThen (made.andThen (Looks.of_pure (by simp only [Option.map_some,bne_self_eq_false,Bool.false_eq_true,if_false])));have here2:Looks (model prog w) h (Bind.madeHere "BaseException.__new__" (.ref C)) ():=base.andThen (made.andThen (Looks.of_pure (by simp only [Option.map_some,F.canon,bne_self_eq_false,Bool.false_eq_true,if_false])))
 repeat (first |with_reducible refine lkb (by assumption) ?_ |with_reducible refine lkB (by assumption) ?_ |with_reducible refine wF (bne_self_eq_false _) ?_ |lk)
 refine codeAny_builtinAt F.entry ?_;unfold Builtin.«BaseException.__new__»;refine PySem.wpAt_bind ?_;show PySem.wpAt _ _ _ (stack>>=_) _ _ _;refine PySem.wpAt_bind (PySem.wpAt_stack λp below=>PySem.wpAt_of_wpAny ?_);have hends:=F.ends;refine wT hends ?_;refine wpAny_pure ?_;refine PySem.wpAt_of_wpAny ?_;rw[F.owner];have dk:((h.push (y7 aa)).push (v4 C h.objs.size)).get? C=some ⟨oc,od, .cls cd,sl⟩:=Heap.get?_push_of_some _ (Heap.get?_push_of_some _ hC)
 repeat (first |with_reducible refine lkb (by assumption) ?_ |with_reducible refine lkB (by assumption) ?_ |lk)
 have hsz: ¬aa.toArray.size>sizeLine:=by rw[List.size_toArray];lia
 refine(if_neg hsz).symm▸ ?_;unfold newObjAsIs classHasDel;refine wpAny_bind (wpAny_alloc (wpAny_bind (wpAny_pure ?_)));refine wpAny_pure (wpAny_bind ?_);show wpAny _ _ (newObjAsIs _ _ _) _ _ _;unfold newObjAsIs classHasDel;refine wpAny_bind (wpAny_alloc (wpAny_bind (wpAny_bind (wpAny_load dk (wpAny_pure ?_)))));dsimp only;rw[e2];refine wpAny_pure (wpAny_pure ?_);show R _ _;rw[Heap.size_push];exact hq
theorem d0h{aa:List Value}{f:Addr}(Y:MakesX (model prog w) h C)(hl:aa.length<=sizeLine)(hi:Looks (model prog w) h (typeLookup (.ref C) "__init__") (some (.ref f)))
  (hb: ∀self,Looks (model prog w) h (bindSpecial (.ref f) self) (.ref f,[self]))
  (hq:codeAny (model prog w) (A.under (.builtin "type.__call__" ⟨.ref C::aa,[]⟩)) (.call (.ref f) ⟨.ref (h.objs.size+1)::aa,[]⟩) (InitBack (h.objs.size+1) R) ⟨(h.push (y7 aa)).push (v4 C h.objs.size),g,d,t,os⟩):
  codeAny (model prog w) A (.call (.ref C) ⟨aa,[]⟩) R ⟨h,g,d,t,os⟩:=by
 have Y':=Y;obtain⟨⟨oc,od,cd,sl,hC,e2,e4⟩,made,base,self,top,noA,noN,call,typ⟩:=Y;refine codeAny_of_tree ?_;show wpAny _ _ (callAny (.ref C) _) _ _ _;refine nd_load hC ?_;show wpAny _ _ (callAny.viaDunder (.ref C) _) _ _ _;unfold callAny.viaDunder;refine wpAny_bind (call.at ?_);dsimp only;rw[tc_bind];refine wpAny_bind (wpAny_pure (wpAny_bind (wpAny_pure ?_)));refine wpAny_pure (a:=Fin.again (.call (.builtin "type.__call__") ⟨.ref C::aa,[]⟩)) (And.intro rfl ?_);refine codeAny_call_builtin_at (Code.quiet_builtin _ (by decide+kernel)) entry_typeCall (check_slot tc_kind tc_split typ (tc_args _ _ _) ?_);unfold Builtin.«type.__call__»
 repeat (first |with_reducible refine lkb (by assumption) ?_ |with_reducible refine lkB (by assumption) ?_ |with_reducible refine wF e4 ?_ |with_reducible refine wpAny_call ?_ |lk)
 refine d33 Y' hl ?_;have k: ∀b o,h.get? b=some o->((h.push (y7 aa)).push (v4 C h.objs.size)).get? b=some o:=λb o e=>Heap.get?_push_of_some _ (Heap.get?_push_of_some _ e);have hx:((h.push (y7 aa)).push (v4 C h.objs.size)).get? (h.objs.size+1)=some (v4 C h.objs.size):=by heap_get
 have t1:Looks (model prog w) ((h.push (y7 aa)).push (v4 C h.objs.size)) (typeOf (.ref (h.objs.size+1))) (.ref C):=(Looks.ld hx).andThen .now;have s1:=self.keeps k;have i1:=hi.keeps k;have b1:=(hb (.ref (h.objs.size+1))).keeps k;unfold isInstance callSpecial? specialOf
 repeat (first |with_reducible refine lkb (by assumption) ?_ |with_reducible refine lkB (by assumption) ?_ |with_reducible refine wpAny_call ?_ |lk)
 refine codeAny_mono hq λr s' z=> ?_;rcases r with e |(v |_ |_ |_)<;>first |exact z |exact z.elim |skip
 obtain⟨rfl,z⟩:=z;exact wpAny_pure (wpAny_pure z)
end
end
section
structure ExcX (K:Frag) (D:Adr) (T:Tab):Prop where
 ga: ∀c x,T.fldE c x=true->findIn K (.ref (D.clsA c)) "__getattribute__" =some (some (.builtin "BaseException.__getattribute__"))/\findIn K (.ref (D.clsA c)) "__getattr__" =some none/\
  findIn K (.ref (D.clsA c)) "__setattr__" =some (some (.builtin "object.__setattr__"))/\mroIn K (D.clsA c) (.type "BaseException")=some true/\hasDictIn K (D.clsA c)=true/\findIn K (.ref (D.clsA c)) (D.nm x)=some none
 make: ∀c i,T.isExc c=true->T.init c=some i->a8x K (D.clsA c)=true/\findIn K (.ref (D.clsA c)) "__init__" =some (some (.ref (D.fnA i)))
section
variable{prog:Program}{w:World}{A:Around}{E:VP}{s:Shared}{K:Frag}{x C:Addr}{ox:Obj}{od:Option Obj}{name:Str}{expr:Bool}{Q:VP}
theorem a9s{v:Value}(X:K.In s.heap)(I:InstAt s.heap x ox C od)(hga:findIn K (.ref C) "__getattribute__" =some (some (.builtin "BaseException.__getattribute__")))(hk:findIn K (.ref C) "__getattr__" =some none)(hs:mroIn K C (.type "BaseException")=some true)
  (hf:findObj K C od name=some (.value v))(hh:handedIn v=true)(h:Q v { s with toks:=s.toks+1 }):wpAny (model prog w) A (getAttr (.ref x) name expr) Q E s:=by
 obtain⟨hp,g,d,t,os⟩:=s;have L0:=I.type (M:=model prog w);have L1:=looks_findIn (M:=model prog w) X hga;have L2:=looks_findIn (M:=model prog w) X hk;have L3:=looks_find (M:=model prog w) X I hf;have L4:Looks (model prog w) hp (isInstance (.ref x) (.type "BaseException")) true:=I.type.andThen (looks_mroIn X hs);have FX:=PySem.F.excAttr_ValueError;have hkd:builtinKind "BaseException.__getattribute__" =some .slot:=by decide+kernel
 have hsplit:splitId "BaseException.__getattribute__" =some ("BaseException", "__getattribute__"):=by decide+kernel
 unfold getAttr getAttrBy;refine wpAny_bind (wpAny_mkText (wpAny_holding (wpAny_bind (L0.at (wpAny_bind (L1.at ?_))))));have hx1:(onTheHeap (Value.ref C)&&Value.builtin "BaseException.__getattribute__" ==Value.builtin "object.__getattribute__")=false:=by show(true&&(Value.builtin "BaseException.__getattribute__" ==Value.builtin "object.__getattribute__"))=false;decide+kernel
 dsimp only;rw[hx1];simp only [Bool.false_eq_true,if_false];unfold getAttrByItsOwn hookBefore;refine wpAny_bind (L2.at (wpAny_bind (wpAny_attempt (wpAny_holding ?_))));unfold callGetattribute;have hx0:(expr&&onTheHeap (Value.builtin "BaseException.__getattribute__"))=false:=by cases expr<;>rfl
 rw[hx0];simp only [Bool.false_eq_true,if_false];unfold boundAndCalled;rw[FX.ga.bind];refine wpAny_bind (wpAny_pure (wpAny_call (codeAny_call_builtin FX.ga.plain PySem.F.entry_bexc_ga (@check_slot (model prog w) _ _ ⟨hp,g,d,t+1,os⟩ "BaseException.__getattribute__" "BaseException" "__getattribute__" (.ref x) [.str name t] [] _ hkd hsplit L4 (PySem.F.args_bexc_ga (.ref x) (.str name t)) ?_))));have e1:slotArgs "__getattribute__" 1 ⟨[.ref x, .str name t],[]⟩=pure (.ref x,[.str name t]):=by kernel_rfl
 unfold Builtin.«object.__getattribute__»;rw[show([Value.ref x]++[Value.str name t])=[.ref x, .str name t]from rfl,e1];refine wpAny_bind (wpAny_pure (wpAny_bind (wpAny_pure (wpAny_bind (L0.at (wpAny_bind (L3.at (wpAny_pure ?_))))))));show wpAny _ _ (handedOut v) _ _ _;rw[handedOut_of hh];exact wpAny_pure h
end
section
variable{Pp:Par}
variable{G G':Gh}{fs:List Fm}{hs:Hs}{J:H}{s:Shared}{A:Around}{C:Cx}{n:Nat}
theorem newExc{k:Nat}{args:List AV}{vs:List Value}{hh:Heap}{gg:Array GenState}{d:Drawn}{t:Nat}{os:OsState}(S:St Pp G fs hs J ⟨hh,gg,d,t,os⟩)(Vs:VRs Pp G args vs):
  ∃G',G.le G'/\G'.ρ J.length=some (hh.objs.size+1,hh.objs.size)/\St Pp G' fs hs (J++[.exc k (λ_=> .undef) false]) ⟨(hh.push (y7 vs)).push (v4 (Pp.D.clsA k) hh.objs.size),gg,d,t,os⟩/\
   VRs Pp G' (.obj J.length::args) (.ref (hh.objs.size+1)::vs):=by
 have f2:=S.fresh (a:=hh.objs.size+1) (Nat.le_succ _);have aY:G.ρ J.length=none:=by
  cases q:G.ρ J.length with
  |none=>rfl
  |some p=>exact absurd (S.dom _ _ q) (Nat.lt_irrefl _)
 let G':Gh:=⟨λj=>if j=J.length then some (hh.objs.size+1,hh.objs.size)else G.ρ j,λb=>if b=hh.objs.size+1 then .ob J.length else G.own b⟩
 have o1:G'.own (hh.objs.size+1)= .ob J.length:=if_pos rfl;have o3: ∀b,b≠hh.objs.size+1->G'.own b=G.own b:=λb h2=>if_neg h2;have x:G.ext G':=⟨λb hb=>o3 b (λe=>hb (by rw[e];exact f2)),λj p hp=>(if_neg λ(e:j=J.length)=>by rw[e,aY]at hp;cases hp).trans hp⟩
 have g2:((hh.push (y7 vs)).push (v4 (Pp.D.clsA k) hh.objs.size)).get? (hh.objs.size+1)=some (v4 (Pp.D.clsA k) hh.objs.size):=by
  have:=Heap.get?_push_size (hh.push (y7 vs)) (o:=v4 (Pp.D.clsA k) hh.objs.size) rfl;rwa [Heap.size_push]at this
 refine⟨G',x.le,if_pos rfl,S.pushOb (p:=(hh.objs.size+1,hh.objs.size)) x (λj hj=>if_neg hj) (if_pos rfl) (λb hb hb'=>by
   by_cases e2:b=hh.objs.size+1
   ·subst e2;exact .inl ⟨o1,by show(Heap.get? ((hh.push (y7 vs)).push (v4 (Pp.D.clsA k) hh.objs.size)) _).isSome=true;rw[g2];rfl⟩
   ·rw[o3 b e2]at hb';exact absurd hb hb') ⟨rfl,rfl⟩ (λb o _ e=>Heap.get?_push_of_some _ (Heap.get?_push_of_some _ e))
   ⟨o1,_,_,_,g2,(λx=>rfl),rfl⟩,⟨_,if_pos rfl,rfl⟩,VRs.mono Pp x.le Vs⟩
theorem b5n{k:Nat}{args:List AV}{vs:List Value}{Q E:VP}(T:ClsOk Pp.K Pp.D C.T)(X:ExcX Pp.K Pp.D C.T)(hk:C.T.isExc k=true)(hl:args.length<=25)(c:Ctx1 Pp C A fs n)(S:St Pp G fs hs J s)(Vs:VRs Pp G args vs)
  (h:SP Pp G fs hs (a6g C (.cls k) args J) Q E):wpAny Pp.M A (call (.ref (Pp.D.clsA k)) vs) Q E s:=by
 replace h:SP Pp G fs hs (g9 .bad (C.T.init k) λi=>(C.call i (.obj J.length::args) (J++[match C.T.isExc k with |true=> .exc k (λ_=> .undef) false |false=> .inst k (λ_=> .undef)])).bind λr ae=>q6 .bad r (.ok (.obj J.length) ae)) Q E:=h;rw[hk]at h;refine h.smk λi hi h=> ?_;refine a8 λp_ ah=> ?_;replace h:SP Pp G fs hs ((C.call i (.obj J.length::args) (J++[.exc k (λ_=> .undef) false])).bind λr ae=>q6 .bad r (.ok (.obj J.length) ae)) Q E:=h;obtain⟨hm,hin⟩:=X.make k i hk hi;have hz':=c.hzOf (show C.call i (.obj J.length::args) (J++[.exc k (λ_=> .undef) false])≠ .bad from λe=>by rw[e]at h;exact h);have hlen:=Vs.length;obtain⟨hh,gg,d,t,os⟩:=s;refine ah ?_;refine wpAny_call (d0h (b1y (S.kin c.X) hm) (by rw[hlen,sizeLine_eq];lia) (looks_findIn (S.kin c.X) hin) (λself=>bind_fn (S.kin c.X) self (beq_iff_eq.mp (T.initFn k i hi))) ?_);refine a8 λp_ ah=> ?_;obtain⟨G',le,aY,S',Va⟩:=newExc (k:=k) S Vs;refine ah ?_;exact c.call hz' _ G' hs _ _ i _ _ _ (a5l (c.a1 hz')) S' Va (a4o le aY h)
theorem c4c{id c:Nat}{f:Nat->AV}{fl:Bool}{p:Addr×Addr}{x:Nat}{T:Tab}{Q E:VP}(X:ExcX Pp.K Pp.D T)(k:Pp.K.In Pp.base)(S:St Pp G fs hs J s)(hid:J[id]? =some (.exc c f fl))(hf:T.fldE c x=true)(hn:f x≠ .undef)(hp:G.ρ id=some p)
  (h: ∀s' v,St Pp G fs hs J s'->VR Pp G (f x) v->Q v s'):wpAny Pp.M A (getAttr (.ref p.1) (Pp.D.nm x) true) Q E s:=by
 refine a8 λp_ ah=> ?_;obtain⟨h1,vs,sl,dd,h2,h3,h4⟩:=S.at hp hid;obtain⟨x1,x2,x3,x4,x5,x6⟩:=X.ga c x hf;refine ah ?_;cases dd with
 |none=>exact absurd (h3 x) hn
 |some d=>
  refine a8 λp_ ah=> ?_;obtain⟨d1,d2,m,d3,d4,d5⟩:=h3;obtain⟨o,e1,e2⟩:=Q7 d3.ns;obtain⟨v,V,hv⟩:=d5.get hn;refine ah ?_;exact a9s (S.kin k) ⟨h2,rfl,rfl,e1⟩ x1 x2 x4 (findObj_own x5 x6 rfl (by rw[e2,hv])) V.handed (h _ v (S.toks _) V)
end
end
end
section
open PySem PySem.W PyProof.Rows PySem.Calls
open Builtin Builtin.ObjectAttr
section
noncomputable def c6n:Value->Bool | .ref _=>true |_=>false
theorem c3o{v:Value}(h:c6n v=true): ∃c,v= .ref c:=by cases v<;>first |exact⟨_,rfl⟩ |cases h
noncomputable def a00:List Value->Bool
 |[]=>false
 |v::r=>v::r==d3a||(c6n v&&a00 r)
theorem F6: ∀{l:List Value},a00 l=true->l=d3a\/ ∃c r,l= .ref c::r/\a00 r=true
 |v::r,h=>by
  rcases Bool.or_eq_true_iff.mp h with h |h
  ·exact .inl (eq_of_beq h)
  ·obtain⟨c,rfl⟩:=c3o (an h).1
   exact .inr ⟨c,r,rfl,(an h).2⟩
theorem a19(self:Value): ∀(n:Nat){l:List Value},l.length=n->a00 l=true->refuseLoop self "__setattr__" l=pure ()
 |n,l,e,h=>by
  rcases F6 h with rfl |⟨c,r,rfl,h'⟩
  ·exact PySem.F.store_ValueError.passes self
  ·cases n with
   |zero=>cases e
   |succ n=>rw[refuseLoop_ref];exact a19 self n (Nat.succ.inj e) h'
theorem a97: ∀(n:Nat){l:List Value},l.length=n->a00 l=true->l.contains (.type "ValueError")=true
 |n,l,e,h=>by
  rcases F6 h with rfl |⟨c,r,rfl,h'⟩
  ·decide+kernel
  ·cases n with
   |zero=>cases e
   |succ n=>rw[List.contains_cons,a97 n (Nat.succ.inj e) h',Bool.or_true]
theorem c0q: ∀(n:Nat){l:List Value},l.length=n->a00 l=true->l.contains (.type "object")=true
 |n,l,e,h=>by
  rcases F6 h with rfl |⟨c,r,rfl,h'⟩
  ·decide+kernel
  ·cases n with
   |zero=>cases e
   |succ n=>rw[List.contains_cons,c0q n (Nat.succ.inj e) h',Bool.or_true]
noncomputable def R0(K:Frag)(C:Addr):Bool:=(clsIn K C).any λcd=>a00 cd.mro
section
variable{prog:Program}{w:World}{A:Around}{s:Shared}{K:Frag}{x C:Addr}{R:Result->Shared->Prop}
theorem a2i{ox:Obj}{od:Option Obj}{name:Str}{tk:Tok}{v:Value}(X:K.In s.heap)(I:InstAt s.heap x ox C od)(hp:R0 K C=true)(ht:findIn K (.ref C) name=some none)
  (h: ∀b,wpAny (model prog w) A.in1 (storeInOwnDict (.ref x) (.ref C) (.str name tk) name v b)
   (λfin s'=>match fin with | .done f=>R (.ok f) s' | .again c'=>c'.quiet=true/\codeAny (model prog w) A c' R s') (λe s'=>R (.error e) s') s):
  codeAny (model prog w) A (.call (.builtin "object.__setattr__") ⟨[.ref x, .str name tk,v],[]⟩) R s:=by
 have SF:=PySem.F.store_object;obtain⟨cd,hc,ho⟩:=any_some hp;have ne:cd.mro.isEmpty=false:=by cases q:cd.mro with |nil=>rw[q]at ho;cases ho |cons _ _=>rfl
 have sub:Looks (model prog w) s.heap (isInstance (.ref x) (.type "object")) true:=I.type.andThen (looks_mroIn X (by unfold mroIn;rw[hc,Option.bind_some,if_neg (by rw[ne];decide),c0q _ rfl ho]));refine codeAny_call_builtin SF.slot.plain SF.entry (@check_slot (model prog w) _ _ s "object.__setattr__" "object" "__setattr__" (.ref x) [.str name tk,v] [] _ SF.kind SF.split sub (SF.args (.ref x) (.str name tk) v) ?_);have hm:Looks (model prog w) s.heap (mroOf (.ref C)) cd.mro:=(looks_clsIn X hc).andThen .now;rw[osa_eq,refuse_eq];refine wpAny_bind (wpAny_bind (I.type.here (wpAny_bind (hm.here ?_))));rw[a19 _ _ rfl ho];refine wpAny_pure (wpAny_bind (I.type.here (wpAny_bind ((looks_findIn X ht).here (wpAny_bind (wpAny_pure ?_))))));exact h _
end
section
variable{Pp:Par}
variable{G G':Gh}{fs:List Fm}{hs:Hs}{J:H}{s:Shared}{A:Around}{E:VP}
theorem c7d{c:Nat}{f:Nat->AV}{id:Nat}{p:Addr×Addr}{x:Nat}{a:AV}{v:Value}{Q:Unit->Shared->Prop}(S:St Pp G fs hs J s)(X:Pp.K.In Pp.base)(hsa:findIn Pp.K (.ref (Pp.D.clsA c)) "__setattr__" =some (some (.builtin "object.__setattr__")))
  (hve:R0 Pp.K (Pp.D.clsA c)=true)(hhd:hasDictIn Pp.K (Pp.D.clsA c)=true)(hf:findIn Pp.K (.ref (Pp.D.clsA c)) (Pp.D.nm x)=some none)
  (hx:x<256)(ho:J[id]? =some (.exc c f false))(hp:G.ρ id=some p)(V:VR Pp G a v)(h: ∀G' s',G.le G'->St Pp G' fs hs (J.set id (.exc c (upd f x a) false)) s'->Q () s'):
  wpAny Pp.M A (setAttr (.ref p.1) (Pp.D.nm x) v) Q E s:=by
 obtain⟨p',hp',h1,vs,sl,dd,h2,h3,h4⟩:=S.ob _ _ ho;rw[hp]at hp';cases hp';obtain⟨cd,hc,hd'⟩:=any_some hhd;cases dd with
 |some d=>
  obtain⟨d1,d2,m,d3,d4,d5⟩:=h3;obtain⟨o,e1,e2⟩:=Q7 d3.ns;have IA:InstAt s.heap p.1 ⟨.ref (Pp.D.clsA c),some d, .fields vs,sl⟩ (Pp.D.clsA c) (some o):=⟨h2,rfl,rfl,e1⟩
  refine set_plain (S.kin X) IA hsa (a2i (s:={ s with toks:=s.toks+1 }) (S.kin X) IA hve hf λb=> ?_);refine wpAny_bind (wpAny_pure (wpAny_bind (wpAny_bind (wpAny_loadPart h2 (wpAny_bind (looks_clsIn (S.kin X) hc _ _ _ _ (λ_ _ e=>e) ?_))))));rw[hd'];refine wpAny_pure (a:=some d) (wpAny_bind (wpAny_pure (wpAny_bind (wpAny_nsSet1 (s:={ s with toks:=s.toks+1 }) d3 λh' hn hs'=> ?_))));have hw:=M7 (Pp:=Pp) d4 hx (v:=v);obtain⟨o',es',ep',g1,g2,g3⟩:=hn.count hw;have g3':es'.size<=256:=by simpa [w9]using g3
  refine wpAny_bind (wpAny_lookBehind g1 (by rw[g2];exact pastItsLine_dict (by rw[sizeLine_eq];lia)) ?_);exact wpAny_pure (h G { s with heap:=h',toks:=s.toks+1+1 } (.refl _) (S.setOb1 ho hp d1 hs' (Y9 hn) rfl rfl ⟨h1,vs,sl,some d,(hs'.2 p.1 d2.symm).trans h2,⟨d1,d2,_,hn,hw,d5.upd x V⟩,h4⟩))
 |none=>
  have IA:InstAt s.heap p.1 ⟨.ref (Pp.D.clsA c),none, .fields vs,sl⟩ (Pp.D.clsA c) none:=⟨h2,rfl,rfl,trivial⟩
  refine set_plain (S.kin X) IA hsa (a2i (s:={ s with toks:=s.toks+1 }) (S.kin X) IA hve hf λb=> ?_);refine wpAny_bind (wpAny_pure (wpAny_bind (wpAny_bind (wpAny_loadPart h2 (wpAny_bind (looks_clsIn (S.kin X) hc _ _ _ _ (λ_ _ e=>e) ?_))))));rw[hd'];obtain⟨hp',gg,dr,t,os⟩:=s;have fr:=S.fresh (a:=hp'.objs.size) (Nat.le_refl _);have hxs:p.1≠hp'.objs.size:=Nat.ne_of_lt (Heap.lt_size h2);have cN:(hp'.push { cls:= .type "dict",data:= .dict #[] }).get? p.1=some ⟨.ref (Pp.D.clsA c),none, .fields vs,sl⟩:=Heap.get?_push_of_some _ h2;rw[if_neg (by simp [typeHasDict])];refine wpAny_bind (wpAny_alloc' (wpAny_bind (wpAny_update' cN (wpAny_pure (a:=some hp'.objs.size) ?_))));generalize hH:((hp'.push { cls:= .type "dict",data:= .dict #[] }).update p.1 λo=>{ cls:=o.cls,dict:=some hp'.objs.size,data:=o.data,slots:=o.slots })=h1';have hgd:h1'.get? hp'.objs.size=some { cls:= .type "dict",data:= .dict #[] }:=by
   rw[<-hH];exact(Heap.get?_update_ne _ _ _ _ hxs.symm).trans (Heap.get?_push_at rfl rfl)
  have hgp:h1'.get? p.1=some ⟨.ref (Pp.D.clsA c),some hp'.objs.size, .fields vs,sl⟩:=by
   rw[<-hH];exact Heap.get?_update_self _ cN rfl
  have oth: ∀b o,b≠p.1->hp'.get? b=some o->h1'.get? b=some o:=λb o n e=>by
   rw[<-hH];exact(Heap.get?_update_ne _ _ _ _ n).trans (Heap.get?_push_of_some _ e)
  have hnd:h1'.Ns hp'.objs.size (λ_=>none):=⟨_, #[],_,hgd,rfl,λe he=>absurd he (by simp),λ_=>rfl⟩
  refine wpAny_bind (wpAny_pure (wpAny_bind (wpAny_nsSet1 (Heap.Ns1.of_empty hnd) λh' hn' hs=> ?_)));have hw:=M7 (Pp:=Pp) (m:=λ_=>none) (λy hy=>absurd rfl hy) hx (v:=v);obtain⟨o',es',ep',g1,g2,g3⟩:=hn'.count hw;have g3':es'.size<=256:=by simpa [w9]using g3
  refine wpAny_bind (wpAny_lookBehind g1 (by rw[g2];exact pastItsLine_dict (by rw[sizeLine_eq];lia)) ?_);have x1:=Gh.add_ext (t:= .ob id) fr;have f0: ∀y,f y= .undef:=h3;have F0:FldR Pp (G.add hp'.objs.size (.ob id)) f (λ_=>none):=λy=> .inl ⟨f0 y,rfl⟩;refine wpAny_pure (h (G.add hp'.objs.size (.ob id)) ⟨h',gg,dr,_,os⟩ x1.le (S.setOb ho hp x1 (λ_=>rfl) (λb hb hb'=> ?_) (λb hb=> ?_) ⟨rfl,rfl⟩ (λb o hb hb' e=> ?_) ?_))
  ·by_cases e:b=hp'.objs.size
   ·rw[e];exact Gh.add_self
   ·rw[Gh.add_ne e]at hb';exact absurd hb hb'
  ·by_cases e:b=hp'.objs.size
   ·rw[e];exact Y9 hn'
   ·show(h'.get? b).isSome=true
    rw[hs.2 b e];rw[Gh.add_ne e]at hb
    by_cases e':b=p.1
    ·rw[e',hgp];rfl
    ·obtain⟨o,q⟩:=Option.isSome_iff_exists.mp (S.lt b (by rw[hb];intro z;cases z))
     rw[oth b o e' q];rfl
  ·exact(hs.2 b (λz=>by rw[z,fr]at hb;exact hb rfl)).trans (oth b o (λz=>hb' (z▸h1)) e)
  ·exact⟨x1.tag h1 (by intro z;cases z),vs,sl,some hp'.objs.size,(hs.2 p.1 hxs).trans hgp,⟨Gh.add_self,hxs.symm,_,hn',hw,F0.upd x (V.mono Pp x1.le)⟩,h4⟩
end
end
end
section
open PySem PySem.W PyProof.Rows PySem.Calls
section
noncomputable def a87(K:Frag)(C f:Addr):Bool:=(specialIn K (.ref C) "__getattribute__" ==some (some (.builtin "type.__getattribute__")))&&readsIn K C (.type "type")&&
 (match findCls K (.ref C) (.type "type") "__init__" with |some (.val v)=>v== .ref f |_=>false)
structure ExcY (K:Frag) (D:Adr) (T:Tab):Prop where
 over: ∀c,T.isExc c=true->R0 K (D.clsA c)=true
 fldX: ∀c x,T.fldE c x=true->T.isExc c=true
 init: ∀c i,T.isExc c=true->T.init c=some i->a87 K (D.clsA c) (D.fnA i)=true
theorem c4r(K:Frag):findCls K (.type "ValueError") (.type "type") "__init__" =some (.val (.builtin "ValueError.__init__")):=by kernel_rfl
section
variable{prog:Program}{w:World}{A:Around}{E:VP}{s:Shared}{K:Frag}{C:Addr}
theorem b2m{f:Addr}{pl:Sem Bool}{Q:Value×List Value->Shared->Prop}(X:K.In s.heap)(h:a87 K C f=true)(q:Q (.ref f,[]) { s with toks:=s.toks+1 }):wpAny (model prog w) A (getMethod (.ref C) "__init__" pl) Q E s:=by
 obtain⟨h12,h3⟩:=an h;obtain⟨h1,h2⟩:=an h12;have e:findCls K (.ref C) (.type "type") "__init__" =some (.val (.ref f)):=by
  revert h3
  cases findCls K (.ref C) (.type "type") "__init__" with
  |none=>exact λh=>nomatch h
  |some r=>
   cases r with
   |get=>exact λh=>nomatch h
   |val v=>exact λh=>by rw[eq_of_beq h]
 exact method_cls X (eq_of_beq h1) (cls_value X h2 e rfl q)
theorem c20{pl:Sem Bool}{Q:Value×List Value->Shared->Prop}(X:K.In s.heap)(q:Q (.builtin "ValueError.__init__",[]) { s with toks:=s.toks+1 }):wpAny (model prog w) A (getMethod (.type "ValueError") "__init__" pl) Q E s:=by
 have ht:typeOf (.type "ValueError")=pure (.type "type"):=by first |rfl |kernel_rfl
 have hstub:opaqueClassAbove (.type "ValueError")=pure none:=by unfold opaqueClassAbove;dsimp only;rw[show Manifest.isStub "ValueError" =false by decide+kernel];rfl
 have L0:Looks (model prog w) s.heap (typeOf (.type "ValueError")) (.type "type"):=Looks.of_pure ht;have hg:findIn K (.type "type") "__getattribute__" =some (some (.builtin "type.__getattribute__")):=type_tga;unfold getMethod specialOf;refine wpAny_bind (wpAny_bind (L0.here ((looks_findIn X hg).here ?_)));dsimp only;rw[if_pos canon_tga];refine wpAny_bind (wpAny_mono (Q:=λv=>Q (v,[])) (E:=E) ?_ (λ_ _ z=>wpAny_pure z) λ_ _ z=>z);have LO:Looks (model prog w) s.heap (opaqueClassAbove (.type "ValueError")) none:=Looks.of_pure hstub;refine cls_open X LO L0 hg (looks_hook X (r:=none) (by rfl)) (by show subIn K _ _=_;rfl) (c4r K)
  (wpAny_pure (by show wpAny _ _ (handedOut _) _ _ _;rw[handedOut_of (by rfl)];exact wpAny_pure q))
theorem a70{M:Model}{whole:Bool}{sig:Manifest.Signature}{self:Value}{cd:ClassData}{Q:String->Shared->Prop}(hs:sig.receiver= .self)(hT:Looks M s.heap (typeOf self) (.ref C))(hc:Looks M s.heap (classData C) cd)(h: ∀x,Q x s):
  wpAny M A (Bind.printed "*" whole sig (some self)) Q E s:=by
 unfold Bind.printed Bind.receiverType;rw[if_neg (by decide),hs];refine wpAny_bind (m:=(if(Manifest.Receiver.self==Manifest.Receiver.cls)=true then pure self else typeOf self)) ?_;rw[if_neg (by decide)];exact hT.here (wpAny_bind (m:=typeNameWhole _) (wpAny_bind (hc.here (wpAny_pure (wpAny_pure (h _))))))
theorem a2y{x:Addr}{aa:List Value}{Q:Unit->Shared->Prop}{od:Option Addr}{vs:Array Value}{sl:Array (Option Value)}(X:K.In s.heap)(hx:s.heap.get? x=some ⟨.ref C,od, .fields vs,sl⟩)(hm:R0 K C=true)(q:Q () s):
  wpAny (model prog w) A (checkBuiltinCall "ValueError.__init__" ⟨.ref x::aa,[]⟩) Q E s:=by
 refine a8 λp_ ah=> ?_;have F:=PySem.F.excCall_ValueError;obtain⟨cd,hc,ho⟩:=any_some hm;have ne:cd.mro.isEmpty=false:=by cases q:cd.mro with |nil=>rw[q]at ho;cases ho |cons _ _=>rfl
 have ty:Looks (model prog w) s.heap (typeOf (.ref x)) (.ref C):=(Looks.ld hx).andThen .now;have sub:Looks (model prog w) s.heap (isInstance (.ref x) (.type "ValueError")) true:=ty.andThen (looks_mroIn X (by unfold mroIn;rw[hc,Option.bind_some,if_neg (by rw[ne];decide),a97 _ rfl ho]));refine ah ?_;simp only [checkBuiltinCall,F.initKind,F.initSplit,F.initRow];refine wpAny_bind (sub.here ?_);simp only [Bool.not_true,Bool.false_eq_true,if_false];unfold Bind.checkArgs;dsimp only;refine wpAny_bind (m:=Bind.printed "*" true _ _) (a70 rfl ty (looks_clsIn X hc) λfull=> ?_);refine wpAny_bind (m:=Bind.printed "ValueError" false _ _) (printed_name (by decide) ?_);show wpAny (model prog w) A (Sem.onRaise (Bind.check _ _ _ _ []) _) Q E s;rw[check_varPos];exact wpAny_pure q
end
section
variable{Pp:Par}
variable{G G':Gh}{fm:Fm}{fs:List Fm}{hs:Hs}{J:H}{s:Shared}{A:Around}{C:Cx}{n:Nat}
theorem c3i{c:Nat}{f:Nat->AV}{id:Nat}{p:Addr×Addr}{v:Value}{Q E:VP}(X:Pp.K.In Pp.base)(hve:R0 Pp.K (Pp.D.clsA c)=true)(S:St Pp G fs hs J s)(ho:J[id]? =some (.exc c f false))(hp:G.ρ id=some p)
  (h: ∀s',St Pp G fs hs J s'->Q .none s'):wpAny Pp.M A (call (.builtin "ValueError.__init__") [.ref p.1,v]) Q E s:=by
 obtain⟨h1,vs,sl,dd,h2,h3,h4⟩:=S.at hp ho;obtain⟨h4a,h4b⟩:=Array.getElem?_eq_some_iff.mp (show vs[1]? =some .none from h4);have h0:vs[0]? =some vs[0]:=Array.getElem?_eq_getElem (Nat.lt_of_succ_lt h4a);have F:=PySem.F.excCall_ValueError;have e:J=J.set id (.exc c f false):=by
  apply List.ext_getElem?;intro j;rw[List.getElem?_set]
  by_cases q:id=j
  ·subst q;rw[if_pos rfl,ho,if_pos (by obtain⟨a,b⟩:=List.getElem?_eq_some_iff.mp ho;exact a)]
  ·rw[if_neg q]
 refine wpAny_call (codeAny_call_builtin F.init.plain F.initEntry (a2y (S.kin X) h2 hve ?_));unfold Builtin.«BaseException.__init__»;dsimp only;rw[if_neg (by simp)];unfold newTuple Builtin.BaseException.bexcPut;obtain⟨hh,gg,d,t,os⟩:=s;have hxs:hh.objs.size≠p.1:=(Nat.ne_of_lt (Heap.lt_size h2)).symm;have bL:=Heap.get?_push_of_some (h:=hh) { cls:= .type "tuple",data:= .seq [v].toArray } h2;have hs0: ∀b,b≠p.1-> ∀o,hh.get? b=some o->((hh.push { cls:= .type "tuple",data:= .seq [v].toArray }).update p.1 (Obj.mapFields (·.setIfInBounds 0 (.ref hh.objs.size)))).get? b=some o:=λb n o e=>(Heap.get?_update_ne _ _ _ _ n).trans (Heap.get?_push_of_some _ e);have hg:=Heap.get?_update_self (Obj.mapFields (·.setIfInBounds 0 (.ref hh.objs.size))) bL rfl;have S':St Pp G fs hs (J.set id (.exc c f false)) ⟨(hh.push { cls:= .type "tuple",data:= .seq [v].toArray }).update p.1 (Obj.mapFields (·.setIfInBounds 0 (.ref hh.objs.size))),gg,d,t,os⟩:=
  S.setOb (G':=G) ho hp ⟨λ_ _=>rfl,λ_ _ h=>h⟩ (λ_=>rfl) (λa q q'=>absurd q q') (λa ha=>by
   by_cases q:a=p.1
   ·rw[q];exact Option.isSome_iff_exists.mpr ⟨_,hg⟩
   ·obtain⟨o,w⟩:=Option.isSome_iff_exists.mp (S.lt a (by rw[ha];intro z;cases z))
    exact Option.isSome_iff_exists.mpr ⟨o,hs0 a q o w⟩) ⟨rfl,rfl⟩ (λb o _ hb' e=>hs0 b (λz=>hb' (z▸h1)) o e)
   ⟨h1,_,sl,dd,hg,by
    cases dd with
    |none=>exact h3
    |some dx=>
     obtain⟨d1,d2,m,d3,d4,d5⟩:=h3;exact⟨d1,d2,m,d3.at (λo=>hs0 dx d2 o),d4,d5⟩,by
    show(vs.setIfInBounds 0 _)[1]? =some .none;rw[Array.getElem?_setIfInBounds_ne (by decide)];exact h4⟩
 rw[<-e]at S';refine wpAny_bind (wpAny_newObj_type (wpAny_bind (wpAny_bind (wpAny_field bL rfl h0 (wpAny_bind (wpAny_setField bL rfl (Nat.lt_of_succ_lt h4a) ?_))))) (by size_fits))
 split
 ·exact wpAny_letGo (wpAny_pure (h _ S'))
 ·exact wpAny_pure (wpAny_pure (h _ S'))
theorem b7x{g:Nat}{args:MEs}{ob:Expr}{as:List Expr}{ap pos:Pos}(gl:C6 Pp C.T)(T:ClsOk Pp.K Pp.D C.T)(Y:ExcY Pp.K Pp.D C.T)(c:Ctx1 Pp C A (fm::fs) n)(hg:M2 Pp.D.nm fm.env.scope g ob=true)(ha:F5 Pp C A fm fs args as)(hs':as.all p5=true)(hl:as.length<=25)(hp:(ap.endLine==pos.line)=true):
  c7 Pp C A fm fs (.initOf g args) (.Call (.Attribute ob ("__init__" :Str) ap) as [] pos):=
 N3 (m:=λob=>c7 Pp C A fm fs (.initOf g args) (.Call (.Attribute ob ("__init__" :Str) ap) as [] pos)) hg λnp hd hk G hs J s Q E S h=>by
 rw[a2a rfl hs' hl hp];have start: ∀{Q':VP}{a:AV},C.T.glob g=a->a≠ .undef->(∀G' v s',G.le G'->St Pp G' (fm::fs) hs J s'->VR Pp G' a v->Q' v s')->wpAny Pp.M A (eval (.Name (Pp.D.nm g) np) fm.env) Q' E s:=λe hn k=>
  a3d (pos:=np) gl hd hk G hs J s _ E S (by subst e;exact a76 (m:=λr=>SP Pp G (fm::fs) hs r _ E) hn k)
 rcases h.cls with ⟨k,e,h⟩ |h
 ·refine h.whk λhx h=> ?_
  refine h.smk λi hi h=> ?_;refine wpAny_bind (start e nofun λak u au aC am ay=> ?_);cases ay;refine wpAny_bind (wpAny_standAt (wpAny_bind (wpAny_holding (b2m (am.kin c.X) (Y.init k i hx hi) ?_))));refine J2 hs' (ha ak hs J _ pos _ E (am.toks _) ((h.le aC).bindS λvs ax aA us aD bC az av aG aK=> ?_));exact a2o (args:=vs) c av aG aK
 ·rcases h.bi with ⟨b,e,h⟩ |h
  ·refine h.whk λq_ h=> ?_
   ·rw[c9b q_]at e
    refine wpAny_bind (start e nofun λak u au aC am ay=> ?_);cases ay;refine wpAny_bind (wpAny_standAt (wpAny_bind (wpAny_holding (c20 (am.kin c.X) ?_))));refine J2 hs' (ha ak hs J _ pos _ E (am.toks _) (SP.bindS (h.le aC) λvs ax aA us aD bC az av aG aK=> ?_));refine⟨⟨.machine, .inr (.inl rfl),Looks.of_pure rfl⟩, ?_⟩;obtain⟨o,a,rfl,aK⟩:=(SP.a2 aK).resolve_right id;obtain⟨id,rfl,aK⟩:=aK.obj.resolve_right λz=>z;obtain⟨k,f,b,ho,aK⟩:=aK.pE.resolve_right λz=>z;refine aK.whk λhb aK=> ?_;obtain⟨hb1,hb2⟩:=an hb;rw[D8 hb2]at ho;obtain⟨u,us,rfl,aG⟩: ∃u r,us=u::r/\(VR Pp aA (.obj id) u/\VRs Pp aA [a] r):=by cases us with |nil=>exact aG.elim |cons u r=>exact⟨u,r,rfl,aG⟩
    obtain⟨v,us,rfl,be⟩: ∃u r,us=u::r/\(VR Pp aA a u/\VRs Pp aA [] r):=by cases us with |nil=>exact aG.2.elim |cons u r=>exact⟨u,r,rfl,aG.2⟩
    cases us with
    |cons _ _=>exact be.2.elim
    |nil=>
     obtain⟨p,hp,rfl⟩:=aG.1;exact c3i c.X (Y.over k hb1) av ho hp λs' S'=>aK aA .none s' (.refl _) S' rfl
  ·exact h.elim
theorem d1l{C:Cx}(X:ExcX Pp.K Pp.D C.T)(Y:ExcY Pp.K Pp.D C.T)(gl:C6 Pp C.T)(T:ClsOk Pp.K Pp.D C.T)(k:Pp.K.In Pp.base)
  (srt: ∀(fs:List Fm) (G:Gh) (hs:Hs) (J:H) (s:Shared) (args:List AV) (vs:List Value) (Q E:VP),C.hz=true->Ctx1 Pp C A fs n->St Pp G fs hs J s->VRs Pp G args vs->
   SP Pp G fs hs (biA .sorted args J) Q E->wpAny Pp.M A (call (biV .sorted) vs) Q E s):ExtOk Pp C A n where
 srt:=srt
 make fs G hs J s k args vs Q E hk hl c S Vs h:=b5n T X hk hl c S Vs h
 get fs G hs J s id c f fl p x Q E _ S hid hf hn hp h:=c4c X k S hid hf hn hp h
 set fs G hs J s id c f p x a v Q E _ S hid hf hx hp V h:=by
  refine a8 λp_ ah=> ?_;obtain⟨x1,x2,x3,x4,x5,x6⟩:=X.ga c x hf;refine ah ?_;exact c7d S k x3 (Y.over c (Y.fldX c x hf)) x5 x6 hx hid hp V h
 init fm fs g args ob as ap pos c hg ha hs' hl hp:=b7x gl T Y c hg ha hs' hl hp
end
end
section
section
variable{α:Type}{lt:α->α->Bool}
theorem R3(x:α): ∀l:List α,(b2o lt x l).Perm (x::l)
 |[]=> .refl _
 |y::r=>by
  show(if lt x y=true then x::y::r else y::b2o lt x r).Perm _
  split
  ·exact .refl _
  ·exact((R3 x r).cons y).trans (.swap ..)
theorem D3: ∀l:List α,(K8 lt l).Perm l
 |[]=> .refl _
 |x::r=>(R3 x _).trans ((D3 r).cons x)
theorem b1u(tr: ∀a b c,lt a b=true->lt b c=true->lt a c=true)(tot: ∀a b,a≠b->lt a b=false->lt b a=true)(x:α): ∀l:List α,x∉l->l.Pairwise (λa b=>lt a b=true)->(b2o lt x l).Pairwise (λa b=>lt a b=true)
 |[],_,_=>List.pairwise_singleton _ _
 |y::r,hx,h=>by
  obtain⟨h1,h2⟩:=List.pairwise_cons.mp h;show(if lt x y=true then x::y::r else y::b2o lt x r).Pairwise _
  split
  ·rename_i q
   exact List.pairwise_cons.mpr ⟨λz hz=>(List.mem_cons.mp hz).elim (λe=>e▸q) λhz=>tr _ _ _ q (h1 z hz),h⟩
  ·rename_i q
   refine List.pairwise_cons.mpr ⟨λz hz=> ?_,b1u tr tot x r (λz=>hx (.tail _ z)) h2⟩;rcases List.mem_cons.mp ((R3 x r).mem_iff.mp hz)with rfl |hz
   ·exact tot _ _ (λe=>hx (e▸ .head _)) (by simpa using q)
   ·exact h1 z hz
theorem a4p(tr: ∀a b c,lt a b=true->lt b c=true->lt a c=true)(tot: ∀a b,a≠b->lt a b=false->lt b a=true): ∀l:List α,l.Nodup->(K8 lt l).Pairwise (λa b=>lt a b=true)
 |[],_=> .nil
 |x::r,h=>b1u tr tot x _ (λz=>(List.nodup_cons.mp h).1 ((D3 r).mem_iff.mp z)) (a4p tr tot r (List.nodup_cons.mp h).2)
theorem U4(as: ∀a b,lt a b=true->lt b a=false): ∀{l q:List α},l.Perm q->l.Pairwise (λa b=>lt a b=true)->q.Pairwise (λa b=>lt a b=true)->l=q
 |[],q,p,_,_=>p.nil_eq
 |a::r,[],p,_,_=>nomatch p.length_eq
 |a::r,b::q,p,h1,h2=>by
  obtain⟨a1,a2⟩:=List.pairwise_cons.mp h1;obtain⟨b1,b2⟩:=List.pairwise_cons.mp h2;have e:a=b:=by
   rcases List.mem_cons.mp (p.mem_iff.mp (.head _))with e |e
   ·exact e
   ·rcases List.mem_cons.mp (p.symm.mem_iff.mp (.head _))with e' |e'
    ·exact e'.symm
    ·have:=as _ _ (a1 b e');rw[b1 a e]at this;cases this
  subst e;rw[U4 as p.cons_inv a2 b2]
end
theorem b1x: ∀{vs:List Value}{l:List Int},vs.length=l.length->(∀(j:Nat)(v:Value),vs[j]? =some v-> ∃t,v= .int (l.getD j 0) t)->PyProof.Rows.IntsAre vs l
 |[],[],_,_=> .nil
 |v::vs,i::l,h,k=>by
  obtain⟨t,rfl⟩:=k 0 v rfl;exact .cons i t (b1x (Nat.succ.inj h) λj u hu=>k (j+1) u hu)
 |[],_::_,h,_=>nomatch h
 |_::_,[],h,_=>nomatch h
theorem a5i{Pp:Par}{G:Gh}: ∀{d:List (Int×AV)}{kvs:List (Int×Value)},KVR Pp G d kvs->kvs.map (·.1)=d.map (·.1)
 |[],[],_=>rfl
 |a::d,b::kvs,h=>by rw[List.map_cons,List.map_cons,a5i h.2.2,h.1]
 |[],_::_,h=>h.elim
 |_::_,[],h=>h.elim
theorem d3v{ns l:List Int}(p:ns.Perm l)(h:ns.Pairwise (· <= ·))(nd:l.Nodup):ns=K8 (λa b=>decide (a<b)) l:=by
 refine U4 (lt:=λa b:Int=>decide (a<b)) (λa b h=>decide_eq_false (by have:=of_decide_eq_true h;lia)) (p.trans (D3 l).symm) ?_ (a4p (λa b c h h'=>decide_eq_true (by have:=of_decide_eq_true h;have:=of_decide_eq_true h';lia)) (λa b h h'=>decide_eq_true (by have:=of_decide_eq_false h';lia)) l nd);have nd':ns.Pairwise (· ≠ ·):=p.symm.nodup nd;exact(h.and nd').imp λh=>decide_eq_true (by obtain⟨h1,h2⟩:=h;lia)
section
variable{Pp:Par}
variable{G G':Gh}{fs:List Fm}{hs:Hs}{J:H}{s:Shared}{A:Around}{C:Cx}{n:Nat}
theorem a47: ∀{us:List Value}{l:List Int},PyProof.Rows.IntsAre us l->VRs Pp G (l.map .int) us
 |_,_, .nil=>trivial
 |_,_, .cons n t h=>⟨⟨t,rfl⟩,a47 h⟩
theorem a3h{d:List (Int×AV)}{id:Nat}{v:Value}{Q E:VP}(S:St Pp G fs hs J s)(hb:(Pp.base.get? sysModules).isSome=true)(hh:A.handled=none)(V:VR Pp G (.obj id) v)(ho:J[id]? =some (.idict d))(h64:d.length<64)
  (h: ∀G' v s',G.le G'->St Pp G' fs hs J s'->VR Pp G' (.lst ((K8 (λa b=>decide (a<b)) (d.map (·.1))).map .int)) v->Q v s'):wpAny Pp.M A (call (.builtin "sorted") [v]) Q E s:=by
 refine a8 λp_ ah=> ?_;obtain⟨p,hp,rfl⟩:=V;obtain⟨h1,kvs,h2,h3⟩:=S.at hp ho;have hk:=a5i h3;have hlen:kvs.length=d.length:=by have:=congrArg List.length hk;simpa using this
 have nd:(d.map (·.1)).Nodup:=by rw[<-hk];obtain⟨o,es,ep,_,_,_,_,_,nd⟩:=h2;exact nd
 obtain⟨ep,hat⟩:=h2.dictAt;refine ah ?_;refine Calls.call_function_entry kind_sorted plain_sorted entry_sorted (args_sorted1 _) ?_;unfold Builtin.«sorted»;refine wpAny_bind (m:=checkCount "sorted" 1 1 _) (wpAny_pure ?_);refine wpAny_bind (kdu_collect (A:=A.in1) (kdl_dict (knd:=intKind Pp.prog Pp.w) (kvs:=kvs) (ep:=ep) (I0 S hb h1)) hh hat (by rw[sizeLine_eq];lia) λh' tk acc hkp hacc=> ?_);have hl:acc.toList.length=d.length:=by rw[Array.length_toList];exact hacc.1.trans hlen
 have hI:PyProof.Rows.IntsAre acc.toList (d.map (·.1)):=b1x (by rw[hl,List.length_map]) λj u hu=>by
  obtain⟨k,x,e,hki⟩:=hacc.2 j u (by rw[<-Array.getElem?_toList];exact hu);obtain⟨t,rfl⟩:=Value.isInt_shape hki;refine⟨t, ?_⟩;have e':(d.map (·.1))[j]? =some k:=by rw[<-hk,List.getElem?_map,e];rfl
  rw[List.getD_eq_getElem?_getD,e'];rfl
 refine wpAny_bind (wpAny_newList ?_ (by rw[hl,sizeLine_eq];lia));have hoL:(h'.push { cls:= .type "list",data:= .seq acc.toList.toArray }).get? h'.objs.size=some (seqObj "list" acc.toList.toArray 0):=Heap.get?_push_size _ rfl;refine wpAny_bind (wpAny_holding (wpAny_call_entry slot_list_sort ⟨_,hoL,rfl⟩ entry_list_sort (list_sort_tree hoL hI (by lia) λout ns' o1 o2 o3=>⟨_,rfl, ?_⟩) (args_list_sort _)));refine wpAny_pure ⟨_,rfl, ?_⟩;refine a8 λp_ ah=> ?_;have old: ∀b o,s.heap.get? b=some o->(sortedHeap (h'.push { cls:= .type "list",data:= .seq acc.toList.toArray }) h'.objs.size acc.toList out).get? b=some o:=λb o e=>by
  have e1:=hkp _ _ e;have hlt:=Heap.lt_size e1;rw[sortedHeap_old (Nat.ne_of_lt hlt) (Nat.lt_of_lt_of_eq (Nat.lt_succ_of_lt hlt) (Heap.size_push ..).symm)];exact Heap.get?_push_of_some _ e1
 have f1:G.own h'.objs.size= .none:=by
  cases q:G.own h'.objs.size with
  |none=>rfl
  |_=>
   obtain⟨o,e⟩:=Option.isSome_iff_exists.mp (S.lt h'.objs.size (by rw[q];intro z;cases z));exact absurd (Heap.lt_size (hkp _ _ e)) (Nat.lt_irrefl _)
 have S1:St Pp G fs hs J { s with heap:=sortedHeap (h'.push { cls:= .type "list",data:= .seq acc.toList.toArray }) h'.objs.size acc.toList out,toks:=tk }:=S.kept ⟨rfl,rfl⟩ λb o _ hb=>old b o hb;obtain⟨e,he⟩:=sortedHeap_at (out:=out) hoL;have S2:=S1.freeze f1 he;have le:=(Gh.add_ext (t:= .fz (seqObj "list" out e)) f1).le;refine ah ?_;refine h _ _ _ le S2 ⟨_,out.toList,e,rfl,Gh.add_self, ?_⟩;rw[<-d3v o2 o3 nd];exact a47 o1
theorem c67{args:List AV}{vs:List Value}{Q E:VP}(hz:C.hz=true)(c:Ctx1 Pp C A fs n)(S:St Pp G fs hs J s)(Vs:VRs Pp G args vs)(h:SP Pp G fs hs (biA .sorted args J) Q E):wpAny Pp.M A (call (biV .sorted) vs) Q E s:=by
 obtain⟨a,rfl,h⟩:=(SP.a1 h).resolve_right id;obtain⟨v,rfl,V⟩:=U6 Vs;obtain⟨id,rfl,h⟩:=(SP.obj h).resolve_right λz=>z;obtain⟨d,ho,h⟩:=(SP.pD h).resolve_right λz=>z;refine SP.whk h λh1 h=> ?_;exact a3h S c.sys (c.a.hz hz) V ho (q7 h1) λG' v s' le S' V'=>h G' v s' le S' V'
end
end
section
noncomputable def a1d(a:Arguments):Bool:=a.posonlyargs.isEmpty&&(a.kwonlyargs.isEmpty&&(a.vararg.isNone&&a.kwarg.isNone))
noncomputable def P4(sl:List (Str×Value))(x:Str×Value):List (Str×Value):=if(sl.lookup x.1).isNone then sl++[x]else sl
theorem z7{n:Str}: ∀(a b:List (Str×Value)),(a++b).lookup n=(a.lookup n).or (b.lookup n)
 |[],b=>rfl
 |(k,v)::a,b=>by
  rw[List.cons_append,List.lookup_cons,List.lookup_cons]
  split
  ·rfl
  ·exact z7 a b
theorem a3o{n:Str}{x:Str×Value}{sl:List (Str×Value)}:(P4 sl x).lookup n=(sl.lookup n).or (if n=x.1 then some x.2 else none):=by
 unfold P4
 by_cases h:n=x.1
 ·subst h
  rw[if_pos rfl]
  split
  ·rename_i q;rw[z7,List.lookup_cons];simp
  ·rename_i q
   cases e:sl.lookup x.1 with
   |none=>rw[e]at q;exact absurd rfl q
   |some v=>rfl
 ·rw[if_neg h,Option.or_none]
  split
  ·rw[z7,List.lookup_cons,show(n==x.1)=false from beq_false_of_ne h];simp
  ·rfl
theorem N5{n:Str}: ∀(l sl:List (Str×Value)),(l.foldl P4 sl).lookup n=(sl.lookup n).or (l.lookup n)
 |[],sl=>by simp
 |x::l,sl=>by
  rw[List.foldl_cons,N5 l,a3o,List.lookup_cons,Option.or_assoc];congr 1
  by_cases h:n=x.1
  ·subst h;simp
  ·rw[if_neg h,show(n==x.1)=false from beq_false_of_ne h];rfl
theorem a1u: ∀(ns:List Str)(us:List Value)(g:Str->Option Value),ns.Nodup->ns.length=us.length->(∀n∈ns,g n=(ns.zip us).lookup n)->ns.filterMap (λn=>(g n).map (n, ·))=ns.zip us
 |[],us,g,_,_,_=>rfl
 |n::ns,[],g,_,h,_=>nomatch h
 |n::ns,u::us,g,nd,h,k=>by
  obtain⟨nd1,nd2⟩:=List.nodup_cons.mp nd;have e:=k n (.head _);rw[List.zip_cons_cons,List.lookup_cons,BEq.rfl]at e;rw[List.filterMap_cons,e];show(n,u)::_=_;rw[List.zip_cons_cons,a1u ns us g nd2 (Nat.succ.inj h) λm hm=>by
   have:=k m (.tail _ hm);rw[List.zip_cons_cons,List.lookup_cons,show(m==n)=false from beq_false_of_ne λz=>nd1 (z▸hm)]at this;exact this]
theorem o9{n:Str}: ∀(ns:List Str)(us:List Value)(i:Nat),ns.Nodup->ns[i]? =some n->(ns.zip us).lookup n=us[i]?
 |[],_,_,_,h=>nomatch h
 |m::ns,[],i,_,h=>by rw[List.zip_nil_right,List.getElem?_nil];rfl
 |m::ns,u::us,0,nd,h=>by
  cases h;rw[List.zip_cons_cons,List.lookup_cons,BEq.rfl];rfl
 |m::ns,u::us,i+1,nd,h=>by
  obtain⟨nd1,nd2⟩:=List.nodup_cons.mp nd;have h':ns[i]? =some n:=h;rw[List.zip_cons_cons,List.lookup_cons,show(n==m)=false from beq_false_of_ne λz=>nd1 (z▸List.mem_of_getElem? h')];exact o9 ns us i nd2 h'
theorem ar4{u w j e:Nat}(h:e<=u):u+j-(u+w-(w+e))=w+e-(u+w-u)+(u+j-u):=by
 rw[Nat.add_sub_cancel_left,Nat.add_sub_cancel_left,Nat.add_sub_cancel_left,Nat.add_comm u w,Nat.add_sub_add_left,Nat.add_comm u j,Nat.add_sub_assoc (Nat.sub_le ..),Nat.sub_sub_self h,Nat.add_comm]
theorem ar5{i n u d:Nat}(h1:u<=n)(h2:d<=n)(h3:n-u<=d)(hi:u<=i):i-(n-d)=d-(n-u)+(i-u):=by
 obtain⟨w,rfl⟩:=Nat.exists_eq_add_of_le h1;obtain⟨j,rfl⟩:=Nat.exists_eq_add_of_le hi;obtain⟨e,rfl⟩:=Nat.exists_eq_add_of_le (Nat.add_sub_cancel_left .. ▸h3);exact ar4 (Nat.le_of_add_le_add_left (Nat.add_comm u w▸h2))
theorem ar6{i n u d:Nat}(h3:n-u<=d)(hi:u<=i):n-d+(i-(n-d))=i:=Nat.add_sub_of_le (Nat.le_trans (Nat.sub_le_iff_le_add'.mpr (Nat.sub_le_iff_le_add.mp h3)) hi)
theorem b3d{n:Str}{ns:List Str}{us dv:List Value}(nd:ns.Nodup)(h1:us.length<=ns.length)(h2:dv.length<=ns.length)(h3:ns.length-us.length<=dv.length)(hn:n∈ns):
  ((ns.zip us).lookup n).or (((ns.drop (ns.length-dv.length)).zip dv).lookup n)=(ns.zip (us++dv.drop (dv.length-(ns.length-us.length)))).lookup n:=by
 obtain⟨i,hi⟩:=List.mem_iff_getElem?.mp hn;have hlt:=(List.getElem?_eq_some_iff.mp hi).1;rw[o9 _ _ i nd hi,o9 _ _ i nd hi]
 by_cases q:i<us.length
 ·rw[List.getElem?_append_left q,List.getElem?_eq_getElem q];rfl
 ·have e:(ns.drop (ns.length-dv.length))[i-(ns.length-dv.length)]? =some n:=by
   rw[List.getElem?_drop,ar6 h3 (Nat.le_of_not_lt q),hi]
  rw[o9 _ _ _ (List.Pairwise.drop nd) e,List.getElem?_append_right (Nat.le_of_not_lt q),List.getElem?_eq_none (Nat.le_of_not_lt q),List.getElem?_drop,Option.none_or,ar5 h1 h2 h3 (Nat.le_of_not_lt q)]
theorem a3j{α:Type}{M:Model}{A:Around}{E:VP}{s:Shared}{Q:α->Shared->Prop}{c:Prop}[Decidable c]{t e:Sem α}(h: ¬c)(k:wpAny M A e Q E s):wpAny M A (if c then t else e) Q E s:=by rw[if_neg h];exact k
theorem d4u: ∀(l sl:List (Str×Value)),(forIn l sl λx s'=>if(List.lookup x.fst s').isNone=true then pure (ForInStep.yield (s'++[(x.fst,x.snd)]))else (pure (ForInStep.yield s'):Sem _))=(pure (l.foldl P4 sl):Sem _):=by
 intro l
 induction l with
 |nil=>intro sl;rfl
 |cons x l ih=>
  intro sl;rw[List.forIn_cons,List.foldl_cons, <-ih];unfold P4
  split<;>rfl
theorem b83{M:Model}{A:Around}{E:VP}{s:Shared}{α:Type}{l l' sl:List (Str×Value)}{f:List (Str×Value)->Sem α}{Q:α->Shared->Prop}(e:l=l')(k:wpAny M A (f (l'.foldl P4 sl)) Q E s):
  wpAny M A ((forIn l sl λx s'=>if(List.lookup x.fst s').isNone=true then pure (ForInStep.yield (s'++[(x.fst,x.snd)]))else (pure (ForInStep.yield s'):Sem _))>>=f) Q E s:=by
 subst e;rw[d4u];exact k
theorem ar1{i n v d:Nat}(hl:d<=n)(h2:n-v<=d)(h:i<n-(d-(d-n))):i<v:=by
 rw[Nat.sub_eq_zero_of_le hl,Nat.sub_zero]at h;exact Nat.lt_of_lt_of_le h (Nat.sub_le_iff_le_add'.mpr (Nat.sub_le_iff_le_add.mp h2))
theorem a3n{ns:List Str}{vs dv:List Value}(nd:ns.Nodup)(hl:dv.length<=ns.length)(h2:ns.length-vs.length<=dv.length): ¬(!((ns.take (ns.length-(dv.drop (dv.length-ns.length)).length)).filter λn=>((ns.zip vs).lookup n).isNone).isEmpty)=true:=by
 rw[Bool.not_eq_true,Bool.not_eq_false',List.isEmpty_iff,List.filter_eq_nil_iff];intro n hn;obtain⟨i,hi⟩:=List.mem_iff_getElem?.mp hn;rw[List.length_drop,List.getElem?_take]at hi
 split at hi
 ·rename_i hlt
  rw[o9 ns vs i nd hi,List.getElem?_eq_getElem (ar1 hl h2 hlt)];exact Bool.false_ne_true
 ·cases hi
theorem b2g{nm qn:Str}{ar:List Arg}{kdf:List (Option Expr)}{dfl:List Expr}{bd:FuncBody}{sc:Scope}{gl bu:Addr}{cl:List (Str×Addr)}{df kd dc pm co ct:Value}{ao:Option Addr}{M:Model}{A:Around}{E:VP}{Q:List (Str×Value)->Shared->Prop}{s:Shared}{vs:List Value}{it:Option (Array Value)}
  (L:Looks M s.heap (seqItems? df) it)(nd:(ar.map Arg.arg).Nodup)(hl:(it.getD #[]).toList.length<=(ar.map Arg.arg).length)
  (h1:vs.length<=(ar.map Arg.arg).length)(h2:(ar.map Arg.arg).length-vs.length<=(it.getD #[]).toList.length)
  (q:Q ((ar.map Arg.arg++[]).filterMap λn=>(((((ar.map Arg.arg).drop ((ar.map Arg.arg).length-(it.getD #[]).toList.length)).zip (it.getD #[]).toList).foldl P4 ((ar.map Arg.arg).zip vs)).lookup n).map (n, ·)) s):
  wpAny M A (bindArgs ⟨nm,qn,⟨[],ar,none,[],kdf,none,dfl⟩,bd,sc,gl,cl,df,kd,dc,pm,ao,co,ct,bu⟩ ⟨vs,[]⟩) Q E s:=by
 have e0:(it.getD #[]).toList.drop ((it.getD #[]).toList.length-(ar.map Arg.arg).length)=(it.getD #[]).toList:=by rw[Nat.sub_eq_zero_of_le hl];rfl
 unfold bindArgs;dsimp only;show wpAny M A (seqItems? df>>=_) Q E s;refine wpAny_bind (L.here ?_);refine a3j (λz=>Nat.not_le_of_lt (of_decide_eq_true (an z).1) h1) (a3j (a3n nd hl h2) ?_);refine b83 (l':=((ar.map Arg.arg).drop ((ar.map Arg.arg).length-(it.getD #[]).toList.length)).zip (it.getD #[]).toList) (congrArg (λd:List Value=>((ar.map Arg.arg).drop ((ar.map Arg.arg).length-d.length)).zip d) e0) ?_;refine wpAny_bind (wpAny_pure (a:=(_,([]:List Str))) (a3j (c:=(!(List.isEmpty ([]:List Str)))=true) (by decide) ?_));exact wpAny_pure q
theorem c3g{fd:FuncData}{ar:List Arg}{kdf:List (Option Expr)}{dfl:List Expr}{M:Model}{A:Around}{E:VP}{Q:List (Str×Value)->Shared->Prop}{s:Shared}{vs:List Value}{it:Option (Array Value)}(e:fd.params=⟨[],ar,none,[],kdf,none,dfl⟩)
  (L:Looks M s.heap (seqItems? fd.defaults) it)(nd:(ar.map Arg.arg).Nodup)(hl:(it.getD #[]).toList.length<=(ar.map Arg.arg).length)
  (h1:vs.length<=(ar.map Arg.arg).length)(h2:(ar.map Arg.arg).length-vs.length<=(it.getD #[]).toList.length)
  (q:Q ((ar.map Arg.arg++[]).filterMap λn=>(((((ar.map Arg.arg).drop ((ar.map Arg.arg).length-(it.getD #[]).toList.length)).zip (it.getD #[]).toList).foldl P4 ((ar.map Arg.arg).zip vs)).lookup n).map (n, ·)) s):
  wpAny M A (bindArgs fd ⟨vs,[]⟩) Q E s:=by
 cases fd;cases e;exact b2g L nd hl h1 h2 q
theorem b4b{a:Arguments}(hp:a1d a=true):a=⟨[],a.args,none,[],a.kw_defaults,none,a.defaults⟩:=by
 obtain⟨p1,p⟩:=an hp;obtain⟨p2,p⟩:=an p;obtain⟨p3,p4⟩:=an p;cases a;obtain rfl:=List.isEmpty_iff.mp p1;obtain rfl:=List.isEmpty_iff.mp p2;obtain rfl:=Option.isNone_iff_eq_none.mp p3;obtain rfl:=Option.isNone_iff_eq_none.mp p4;rfl
theorem c2k{M:Model}{K:Frag}{h:Heap}{df:Value}{dv:List Value}(X:K.In h)(hd:(df= .none/\dv=[])\/ ∃T o n,df= .ref T/\K.lookup T=some o/\o.data= .seq (Array.mk dv) n): ∃it:Option (Array Value),(it.getD #[]).toList=dv/\Looks M h (seqItems? df) it:=by
 rcases hd with ⟨rfl,rfl⟩ |⟨T,o,n,rfl,hT,ho⟩
 ·exact⟨none,rfl,Looks.of_pure rfl⟩
 ·exact⟨some (Array.mk dv),rfl,λA E Q s' k q=>wpAny_seqItems (k _ _ (X _ _ hT)) ho q⟩
theorem ar3{n v d:Nat}(h1:v<=n)(h2:n-v<=d):n=v+(d-(d-(n-v))):=by rw[Nat.sub_sub_self h2,Nat.add_sub_of_le h1]
theorem a8z{K:Frag}{s:Shared}{fd:FuncData}{vs dv:List Value}(X:K.In s.heap)(hp:a1d fd.params=true)(nd:(fd.params.args.map Arg.arg).Nodup)
  (hd:(fd.defaults= .none/\dv=[])\/ ∃T o n,fd.defaults= .ref T/\K.lookup T=some o/\o.data= .seq (Array.mk dv) n)(hl:dv.length<=(fd.params.args.map Arg.arg).length)
  (h1:vs.length<=(fd.params.args.map Arg.arg).length)(h2:(fd.params.args.map Arg.arg).length-vs.length<=dv.length):
  BindsTo s fd ⟨vs,[]⟩ ((fd.params.args.map Arg.arg).zip (vs++dv.drop (dv.length-((fd.params.args.map Arg.arg).length-vs.length)))):=λM A E Q q=>by
 obtain⟨it,rfl,L⟩:=c2k (M:=M) X hd;refine c3g (b4b hp) L nd hl h1 h2 ?_;rw[List.append_nil,a1u (fd.params.args.map Arg.arg) _ (λn=>List.lookup n (List.foldl P4 ((fd.params.args.map Arg.arg).zip vs) ((List.drop ((fd.params.args.map Arg.arg).length-(it.getD #[]).toList.length) (fd.params.args.map Arg.arg)).zip (it.getD #[]).toList))) nd (by rw[List.length_append,List.length_drop];exact ar3 h1 h2) λn hn=>(N5 _ _).trans (b3d nd h1 hl h2 hn)];exact q
end
section
noncomputable def d1p(v:Value):Option Int:=tg none v.ctorIdx 4 λe=>Value.int.elim v e λi _=>some i
noncomputable def c78(v:Value):Option Str:=tg none v.ctorIdx 6 λe=>Value.str.elim v e λs _=>some s
noncomputable def c0j(v:Value):Option Addr:=tg none v.ctorIdx 10 λe=>Value.ref.elim v e some
theorem c7i{v:Value}{i:Int}(h:d1p v=some i): ∃t,v= .int i t:=v9 (· =some i) h (λe h=>Value.int.elim (motive:=λv=> ∀e,Value.int.elim v e (λi _=>some i)=some i-> ∃t,v= .int i t) v e (λj t _ h=>⟨t,by rw[Option.some.inj h]⟩) e h) nofun
theorem c0m{v:Value}{s:Str}(h:c78 v=some s): ∃t,v= .str s t:=v9 (· =some s) h (λe h=>Value.str.elim (motive:=λv=> ∀e,Value.str.elim v e (λi _=>some i)=some s-> ∃t,v= .str s t) v e (λj t _ h=>⟨t,by rw[Option.some.inj h]⟩) e h) nofun
theorem b0p{v:Value}{a:Addr}(h:c0j v=some a):v= .ref a:=v9 (· =some a) h (λe h=>Value.ref.elim (motive:=λv=> ∀e,Value.ref.elim v e some=some a->v= .ref a) v e (λj _ h=>congrArg _ (Option.some.inj h)) e h) nofun
noncomputable def c9e(D:Adr)(a:AV)(v:Value):Bool:=
 d8 (u9 (K0 (q6 (c4v (z9 (a3c false a λb=>v==biV b) a λc=>v== .ref (D.clsA c)) a λf=>v== .ref (D.fnA f)) a (v== .none)) a λx=>c78 v==some (D.nm x)) a λb=>v== .bool b) a λi=>d1p v==some i
theorem c0k{Pp:Par}{G:Gh}{a:AV}{v:Value}(h:c9e Pp.D a v=true):VR Pp G a v:=by
 refine n3 (λb=>b=true) h (λi q_ h=> ?_) λh=> ?_
 ·subst q_
  exact c7i (eq_of_beq h)
 refine n6 (λb=>b=true) h (λi q_ h=> ?_) λh=> ?_
 ·subst q_
  exact eq_of_beq h
 refine P5 (λb=>b=true) h (λi q_ h=> ?_) λh=> ?_
 ·subst q_
  exact c0m (eq_of_beq h)
 refine P6 (λb=>b=true) h (λq_ h=> ?_) λh=> ?_
 ·subst q_
  exact eq_of_beq h
 refine b6i (λb=>b=true) h (λi q_ h=> ?_) λh=> ?_
 ·subst q_
  exact eq_of_beq h
 refine a3f (λb=>b=true) h (λi q_ h=> ?_) λh=> ?_
 ·subst q_
  exact eq_of_beq h
 refine a9g (λb=>b=true) h (λi q_ h=> ?_) λh=> ?_
 ·subst q_
  exact eq_of_beq h
 cases h
noncomputable def b9v(D:Adr):List AV->List Value->Bool
 |[],[]=>true
 |a::r,v::q=>c9e D a v&&b9v D r q
 |_,_=>false
theorem a93{Pp:Par}{G:Gh}: ∀{l:List AV}{vs:List Value},b9v Pp.D l vs=true->VRs Pp G l vs
 |[],[],_=>trivial
 |a::r,v::q,h=>⟨c0k (an h).1,a93 (an h).2⟩
 |[],_::_,h=>nomatch h
 |_::_,[],h=>nomatch h
structure ClsRec where
 init:Option Nat
 exc:Bool
 meths:List (Nat×Nat)
 flds:List Nat
 sup:List Nat
structure TabL where
 glob:List (Nat×AV)
 cls:List ClsRec
 fns:List FnRec
noncomputable def p8(L:TabL):Tab where
 glob x:=(L.glob.lookup x).getD .undef
 meth c x:=(L.cls[c]?).bind λr=>if r.exc then none else r.meths.lookup x
 init c:=(L.cls[c]?).bind (·.init)
 isExc c:=(L.cls[c]?).any (·.exc)
 sub c d:=(L.cls[c]?).any λr=>r.exc&&r.sup.contains d
 fld c x:=(L.cls[c]?).any λr=> !r.exc&&r.flds.contains x
 fldE c x:=(L.cls[c]?).any λr=>r.exc&&r.flds.contains x
 fn i:=L.fns[i]?
noncomputable def d4s(o:Option Obj):Option FuncData:=g9 none o λob=>tg none ob.data.ctorIdx 7 λe=>Data.func.elim ob.data e some
noncomputable def a41(o:Option Obj):Option (List Value):=g9 none o λob=>tg none ob.data.ctorIdx 9 λe=>Data.fields.elim ob.data e λvs=>some vs.toList
noncomputable def c5t(o:Option Obj):Option (List Value):=g9 none o λob=>tg none ob.data.ctorIdx 2 λe=>Data.seq.elim ob.data e λvs _=>some vs.toList
noncomputable def b1e:FuncBody->Option (List Stmt)
 | .stmts xs=>some xs
 |_=>none
theorem c8z{o:Option Obj}{fd:FuncData}(h:d4s o=some fd): ∃ob,o=some ob/\ob.data= .func fd:=
 j5 (· =some fd) h (λob e0 h=>v9 (· =some fd) h (λe h=>⟨ob,e0,Data.func.elim (motive:=λd=> ∀e,Data.func.elim d e some=some fd->d= .func fd) ob.data e (λf _ h=>congrArg _ (Option.some.inj h)) e h⟩) nofun) nofun
theorem a9c{o:Option Obj}{vs:List Value}(h:a41 o=some vs): ∃ob,o=some ob/\ob.data= .fields (Array.mk vs):=
 j5 (· =some vs) h (λob e0 h=>v9 (· =some vs) h (λe h=>⟨ob,e0,Data.fields.elim (motive:=λd=> ∀e,Data.fields.elim d e (λvs=>some vs.toList)=some vs->d= .fields (Array.mk vs)) ob.data e (λf _ h=>congrArg (λl=>Data.fields (Array.mk l)) (Option.some.inj h)) e h⟩) nofun) nofun
theorem c4m{o:Option Obj}{vs:List Value}(h:c5t o=some vs): ∃ob n,o=some ob/\ob.data= .seq (Array.mk vs) n:=
 j5 (· =some vs) h (λob e0 h=>v9 (· =some vs) h (λe h=>⟨ob,Data.seq.elim (motive:=λd=> ∀e,Data.seq.elim d e (λvs _=>some vs.toList)=some vs-> ∃n,o=some ob/\d= .seq (Array.mk vs) n) ob.data e (λf n _ h=>⟨n,e0,congrArg (λl=>Data.seq (Array.mk l) n) (Option.some.inj h)⟩) e h⟩) nofun) nofun
theorem b4a{b:FuncBody}{xs:List Stmt}(h:b1e b=some xs):b= .stmts xs:=by cases b<;>cases h;rfl
noncomputable def d1r(K:Frag)(D:Adr)(r:FnRec)(v:Value):Bool:=(v== .none&&r.defaults.isEmpty)||((c0j v).any λT=>(c5t (K.lookup T)).any λvs=>b9v D r.defaults vs&&decide (vs.length<=r.params.length))
noncomputable def d3l(K:Frag)(fd:FuncData):Bool:=(c0j fd.code).any λc=>(a41 (K.lookup c)).any λvs=>(vs[1]?).any λv=>c78 v==some fd.qualname
noncomputable def fnB(K:Frag)(D:Adr)(i:Nat)(r:FnRec):Bool:=(d4s (K.lookup (D.fnA i))).any λfd=>
 !fd.scope.isCoroutine&&(!fd.scope.isGenerator&&((b1e fd.body).any (λxs=>chkSs D.nm fd.scope r.body xs)&&(d3l K fd&&(decide (fd.scope.kind= .function)&&(fd.globals==mainGlobals&&(fd.builtins==builtinsNs&&(fd.closure.isEmpty&&
  (decide r.params.Nodup&&(r.params.all (λx=>decide (fd.scope.names.lookup (D.nm x)=some .local)||decide (fd.scope.names.lookup (D.nm x)=some .cell))&&(fd.params.args.map (·.arg)==r.params.map D.nm&&(a1d fd.params&&d1r K D r fd.defaults)))))))))))
theorem y6{α:Type}{o:Option α}{f:α->Bool}(h:o.any f=true): ∃a,o=some a/\f a=true:=by cases o with |none=>cases h |some a=>exact⟨a,rfl,h⟩
theorem c8p{a b:Bool}(h:(a||b)=true):a=true\/b=true:=by cases a with |true=>exact .inl rfl |false=>exact .inr h
theorem d3k{Pp:Par}{i:Nat}{r:FnRec}(h:fnB Pp.K Pp.D i r=true): ∃fd xs dv,FnOk Pp i r fd xs dv/\chkSs Pp.D.nm fd.scope r.body xs=true:=by
 refine a8 λp_ ah=> ?_;obtain⟨fd,hfd,h⟩:=y6 h;obtain⟨h1,h⟩:=an h;obtain⟨h2,h⟩:=an h;obtain⟨h3,h⟩:=an h;obtain⟨h4,h⟩:=an h;obtain⟨h5,h⟩:=an h;obtain⟨h6,h⟩:=an h;obtain⟨h7,h⟩:=an h;obtain⟨h8,h⟩:=an h;obtain⟨h9,h⟩:=an h;obtain⟨h10,h⟩:=an h;obtain⟨h11,h⟩:=an h;obtain⟨h12,h13⟩:=an h;obtain⟨o,ho,hd⟩:=c8z hfd;obtain⟨xs,hx,hc⟩:=y6 h3;obtain⟨c,hc1,h4⟩:=y6 h4;obtain⟨cvs,hc2,h4⟩:=y6 h4;obtain⟨v,hc3,h4⟩:=y6 h4;obtain⟨t,rfl⟩:=c0m (eq_of_beq h4);obtain⟨co,hc4,hc5⟩:=a9c hc2;have e11:fd.params.args.map (·.arg)=r.params.map Pp.D.nm:=eq_of_beq h11;have el:r.params.length=(fd.params.args.map (·.arg)).length:=by rw[e11,List.length_map]
 obtain⟨dv,d1,d2,d3⟩: ∃dv,((fd.defaults= .none/\dv=[])\/ ∃T o n,fd.defaults= .ref T/\Pp.K.lookup T=some o/\o.data= .seq (Array.mk dv) n)/\dv.length<=r.params.length/\ ∀G:Gh,VRs Pp G r.defaults dv:=by
  rcases c8p h13 with q |q
  ·obtain⟨q1,q2⟩:=an q
   refine⟨[], .inl ⟨eq_of_beq q1,rfl⟩,Nat.zero_le _,λG=> ?_⟩;rw[List.isEmpty_iff.mp q2];trivial
  ·obtain⟨T,q1,q⟩:=y6 q
   obtain⟨vs,q2,q⟩:=y6 q;obtain⟨ob,n,q3,q4⟩:=c4m q2;exact⟨vs, .inr ⟨T,ob,n,b0p q1,q3,q4⟩,of_decide_eq_true (an q).2,λG=>a93 (an q).1⟩
 have nd:(fd.params.args.map (·.arg)).Nodup:=by
  rw[e11];exact List.Pairwise.map _ (λa b hab e=>hab (Pp.D.inj _ _ e)) (of_decide_eq_true h9)
 refine ah ?_;refine⟨fd,xs,dv,⟨⟨o,ho,hd⟩,D8 h1,D8 h2,b4a hx,⟨c,co,Array.mk cvs,t,b0p hc1,hc4,hc5, ?_⟩,of_decide_eq_true h5,eq_of_beq h6,eq_of_beq h7,List.isEmpty_iff.mp h8, ?_,of_decide_eq_true h9, ?_,λG _=>d3 G⟩,hc⟩
 ·rw[List.getElem?_toArray];exact hc3
 ·intro s vs X l1 l2
  have:=a8z (dv:=dv) X h12 nd d1 (by lia) (by lia) (vs:=vs) (by lia);rw[<-el,e11]at this;exact this
 ·intro x hx
  rcases c8p (List.all_eq_true.mp h10 x hx)with q |q
  ·exact .inl (of_decide_eq_true q)
  ·exact .inr (of_decide_eq_true q)
noncomputable def c6v(K:Frag)(C:Addr):Bool:=findIn K (.ref C) "__getattribute__" ==some (some (.builtin "object.__getattribute__"))&&(findIn K (.ref C) "__getattr__" ==some none&&(findIn K (.ref C) "__setattr__" ==some (some (.builtin "object.__setattr__"))&&(plainOver K C&&hasDictIn K C)))
theorem a3p{K:Frag}{C:Addr}(h:c6v K C=true):InstOk K C:=by
 obtain⟨h1,h⟩:=an h;obtain⟨h2,h⟩:=an h;obtain⟨h3,h⟩:=an h;exact⟨eq_of_beq h1,eq_of_beq h2,eq_of_beq h3,(an h).1,(an h).2⟩
noncomputable def d2o(K:Frag)(D:Adr)(C:Addr)(r:ClsRec):Bool:=c6v K C&&(makesIn K C&&(r.init.all (λi=>findIn K (.ref C) "__init__" ==some (some (.ref (D.fnA i))))&&
 (r.meths.all (λp=>findIn K (.ref C) (D.nm p.1)==some (some (.ref (D.fnA p.2)))&&isFn K (.ref (D.fnA p.2)))&&r.flds.all (λx=>findIn K (.ref C) (D.nm x)==some none))))
noncomputable def d2q(K:Frag)(D:Adr)(C:Addr)(r:ClsRec):Bool:=findIn K (.ref C) "__getattribute__" ==some (some (.builtin "BaseException.__getattribute__"))&&(findIn K (.ref C) "__getattr__" ==some none&&
 (findIn K (.ref C) "__setattr__" ==some (some (.builtin "object.__setattr__"))&&(mroIn K C (.type "BaseException")==some true&&(hasDictIn K C&&(r.flds.all (λx=>findIn K (.ref C) (D.nm x)==some none)&&(R0 K C&&(r.init.all (λi=>
  a8x K C&&(findIn K (.ref C) "__init__" ==some (some (.ref (D.fnA i)))&&a87 K C (D.fnA i))))))))))
noncomputable def c9n(K:Frag)(D:Adr)(C:Addr)(r:ClsRec):Bool:=r.init.all (λi=>keepIn K (.ref C)&&isFn K (.ref (D.fnA i)))&&match r.exc with |true=>d2q K D C r |false=>d2o K D C r
noncomputable def y8(K:Frag)(D:Adr):Nat->List ClsRec->Bool
 |_,[]=>true
 |k,r::l=>c9n K D (D.clsA k) r&&y8 K D (k+1) l
theorem a48{K:Frag}{D:Adr}: ∀{l:List ClsRec}{k:Nat},y8 K D k l=true-> ∀c r,l[c]? =some r->c9n K D (D.clsA (k+c)) r=true
 |_::_,k,h,0,r,e=>by cases e;exact(an h).1
 |_::l,k,h,c+1,r,e=>by rw[show k+(c+1)=(k+1)+c by lia];exact a48 (an h).2 c r e
theorem M6{α β:Type}[BEq α][LawfulBEq α]{x:α}{y:β}: ∀{l:List (α×β)},l.lookup x=some y->(x,y)∈l
 |(a,b)::l,h=>by
  rw[List.lookup_cons]at h
  split at h
  ·rename_i q;cases h;rw[eq_of_beq q];exact .head _
  ·exact .tail _ (M6 h)
section
variable{K:Frag}{D:Adr}{L:TabL}
theorem V9{c:Nat}{r:ClsRec}(h:y8 K D 0 L.cls=true)(e:L.cls[c]? =some r):c9n K D (D.clsA c) r=true:=by
 have:=a48 h c r e;rwa [Nat.zero_add]at this
theorem a3s{c:Nat}{r:ClsRec}(h:y8 K D 0 L.cls=true)(e:L.cls[c]? =some r)(x:r.exc=false):d2o K D (D.clsA c) r=true:=by
 have:=(an (V9 h e)).2;rw[x]at this;exact this
theorem W5{c:Nat}{r:ClsRec}(h:y8 K D 0 L.cls=true)(e:L.cls[c]? =some r)(x:r.exc=true):d2q K D (D.clsA c) r=true:=by
 have:=(an (V9 h e)).2;rw[x]at this;exact this
theorem a6p{α:Type}{o:Option α}{f:α->Bool}{a:α}(h:o.all f=true)(e:o=some a):f a=true:=by subst e;exact h
theorem a4q(h:y8 K D 0 L.cls=true):ClsOk K D (p8 L) where
 inst c i hi hx:=by
  refine a8 λp_ ah=> ?_;obtain⟨r,hr,hi⟩:=Option.bind_eq_some_iff.mp hi;have hx:r.exc=false:=by have:=hx;simp only [p8,hr,Option.any_some]at this;exact this
  obtain⟨h1,q⟩:=an (a3s h hr hx);obtain⟨h2,q⟩:=an q;obtain⟨h3,q⟩:=an q;have z:=a6p h3 hi;refine ah ?_;exact⟨a3p h1,h2,eq_of_beq z⟩
 keep c i hi:=by
  refine a8 λp_ ah=> ?_;obtain⟨r,hr,hi⟩:=Option.bind_eq_some_iff.mp hi;have z:=a6p (an (V9 h hr)).1 hi;refine ah ?_;exact(an z).1
 initFn c i hi:=by
  refine a8 λp_ ah=> ?_;obtain⟨r,hr,hi⟩:=Option.bind_eq_some_iff.mp hi;have z:=a6p (an (V9 h hr)).1 hi;refine ah ?_;exact(an z).2
 fld c x hf:=by
  refine a8 λp_ ah=> ?_;obtain⟨r,hr,hf⟩:=y6 hf;obtain⟨hx,hf⟩:=an hf;obtain⟨h1,q⟩:=an (a3s h hr (D8 hx));obtain⟨h2,q⟩:=an q;obtain⟨h3,q⟩:=an q;obtain⟨h4,h5⟩:=an q;refine ah ?_;exact⟨a3p h1,eq_of_beq (List.all_eq_true.mp h5 x (List.contains_iff_mem.mp hf))⟩
 meth c x i hm:=by
  refine a8 λp_ ah=> ?_;obtain⟨r,hr,hm⟩:=Option.bind_eq_some_iff.mp hm;refine ah ?_;cases hx:r.exc with
  |true=>rw[hx]at hm;cases hm
  |false=>
   rw[hx]at hm;refine a8 λp_ ah=> ?_;obtain⟨h1,q⟩:=an (a3s h hr hx);obtain⟨h2,q⟩:=an q;obtain⟨h3,q⟩:=an q;obtain⟨h4,h5⟩:=an q;obtain⟨m1,m2⟩:=an (List.all_eq_true.mp h4 (x,i) (M6 hm));refine ah ?_;exact⟨by simp only [p8,hr,Option.any_some,hx],a3p h1,eq_of_beq m1,m2⟩
theorem c21(h:y8 K D 0 L.cls=true):ExcX K D (p8 L) where
 ga c x hf:=by
  refine a8 λp_ ah=> ?_;obtain⟨r,hr,hf⟩:=y6 hf;obtain⟨hx,hf⟩:=an hf;obtain⟨h1,q⟩:=an (W5 h hr hx);obtain⟨h2,q⟩:=an q;obtain⟨h3,q⟩:=an q;obtain⟨h4,q⟩:=an q;obtain⟨h5,q⟩:=an q;obtain⟨h6,q⟩:=an q;refine ah ?_;exact⟨eq_of_beq h1,eq_of_beq h2,eq_of_beq h3,eq_of_beq h4,h5,eq_of_beq (List.all_eq_true.mp h6 x (List.contains_iff_mem.mp hf))⟩
 make c i hx hi:=by
  refine a8 λp_ ah=> ?_;obtain⟨r,hr,hi⟩:=Option.bind_eq_some_iff.mp hi;have hx:r.exc=true:=by have:=hx;simp only [p8,hr,Option.any_some]at this;exact this
  obtain⟨h1,q⟩:=an (W5 h hr hx);obtain⟨h2,q⟩:=an q;obtain⟨h3,q⟩:=an q;obtain⟨h4,q⟩:=an q;obtain⟨h5,q⟩:=an q;obtain⟨h6,q⟩:=an q;obtain⟨h7,q⟩:=an q;have z:=a6p q hi;obtain⟨h8,q⟩:=an z;refine ah ?_;exact⟨h8,eq_of_beq (an q).1⟩
theorem c4i(h:y8 K D 0 L.cls=true):ExcY K D (p8 L) where
 over c hx:=by
  refine a8 λp_ ah=> ?_;obtain⟨r,hr,hx⟩:=y6 hx;obtain⟨h1,q⟩:=an (W5 h hr hx);obtain⟨h2,q⟩:=an q;obtain⟨h3,q⟩:=an q;obtain⟨h4,q⟩:=an q;obtain⟨h5,q⟩:=an q;obtain⟨h6,q⟩:=an q;refine ah ?_;exact(an q).1
 fldX c x hf:=by
  refine a8 λp_ ah=> ?_;obtain⟨r,hr,hf⟩:=y6 hf;refine ah ?_;simp only [p8,hr,Option.any_some];exact(an hf).1
 init c i hx hi:=by
  refine a8 λp_ ah=> ?_;obtain⟨r,hr,hi⟩:=Option.bind_eq_some_iff.mp hi;have hx:r.exc=true:=by have:=hx;simp only [p8,hr,Option.any_some]at this;exact this
  obtain⟨h1,q⟩:=an (W5 h hr hx);obtain⟨h2,q⟩:=an q;obtain⟨h3,q⟩:=an q;obtain⟨h4,q⟩:=an q;obtain⟨h5,q⟩:=an q;obtain⟨h6,q⟩:=an q;obtain⟨h7,q⟩:=an q;have z:=a6p q hi;refine ah ?_;exact(an (an z).2).2
end
end
section
noncomputable def X9(K:Frag)(n:Str):Option Value:=(nsIn K mainGlobals n).bind λ
 |some v=>some v
 |none=>if n==("__name__" :Str)then none else bootBuiltins n
noncomputable def c45(K:Frag)(D:Adr)(x:Nat)(a:AV):Bool:=(X9 K (D.nm x)).any (c9e D a)
section
variable{Pp:Par}
theorem b9w{mb:Str->Option Value}{n:Str}{v:Value}{A:Around}{s:Shared}{env:Env}{Q E:VP}(X:Pp.K.In Pp.base)(hb:Pp.base.Ns builtinsNs mb)(hmb: ∀x:Str,x≠ "__name__" ->mb x=bootBuiltins x)
  (e:X9 Pp.K n=some v)(k: ∀a o,Pp.base.get? a=some o->s.heap.get? a=some o)(hg:env.globals=mainGlobals)(hbn:env.builtins=builtinsNs)(hk:env.scope.kind= .function)(hx:env.kindOf n=some .globalImplicit)(q:Q v s):
  wpAny Pp.M A (loadName env n) Q E s:=by
 have X':Pp.K.In s.heap:=λa o h=>k _ _ (X a o h);rw[loadName_read hk hx];unfold loadGlobal;rw[hg,hbn];refine a8 λp_ ah=> ?_;obtain⟨r,h1,h2⟩:=Option.bind_eq_some_iff.mp e;refine ah ?_;refine wpAny_bind ((looks_nsIn X' h1).here ?_);cases r with
 |some w=>cases h2;exact wpAny_pure q
 |none=>
  dsimp only at h2⊢
  split at h2
  ·cases h2
  ·rename_i hn
   have hn':n≠ "__name__" :=λz=>hn (by rw[z];exact BEq.rfl);refine wpAny_bind (wpAny_nsGet (a2e hb λo h=>k _ _ h) ?_);rw[hmb n hn',h2];exact wpAny_pure q
theorem b2l{L:TabL}{mb:Str->Option Value}{sd:Nat}(X:Pp.K.In Pp.base)(hb:Pp.base.Ns builtinsNs mb)(hmb: ∀x:Str,x≠ "__name__" ->mb x=bootBuiltins x)
  (h:L.glob.all (λp=>c45 Pp.K Pp.D p.1 p.2||p.1==sd)=true)(hsd: ∃v,X9 Pp.K (Pp.D.nm sd)=some v/\ ∀G:Gh,(∀a o,Pp.base.get? a=some o->G.own a= .fz o)-> ∀a,L.glob.lookup sd=some a->VR Pp G a v):C6 Pp (p8 L):=λx hx=>by
 cases e:L.glob.lookup x with
 |none=>exact absurd (show(p8 L).glob x= .undef by show(L.glob.lookup x).getD .undef=_;rw[e];rfl) hx
 |some a=>
  have eg:(p8 L).glob x=a:=by show(L.glob.lookup x).getD .undef=_;rw[e];rfl
  rw[eg];refine a8 λp_ ah=> ?_;have key: ∃v,X9 Pp.K (Pp.D.nm x)=some v/\ ∀G:Gh,(∀a o,Pp.base.get? a=some o->G.own a= .fz o)->VR Pp G a v:=by
   rcases c8p (List.all_eq_true.mp h (x,a) (M6 e))with q |q
   ·obtain⟨v,h1,h2⟩:=y6 q
    exact⟨v,h1,λG _=>c0k h2⟩
   ·have q':x=sd:=eq_of_beq q
    obtain⟨v,h1,h2⟩:=hsd;exact⟨v,q'▸h1,λG hG=>h2 G hG a (q'▸e)⟩
  obtain⟨v,h1,h2⟩:=key;refine ah ?_;exact⟨v,h2,λA s env Q E k hg hbn hk hx q=>b9w X hb hmb h1 k hg hbn hk hx q⟩
theorem b3f{L:TabL}{K:Frag}{D:Adr}(h: ∀c r,L.cls[c]? =some r->r.exc=true-> ∃bm,ExcIn K (D.clsA c) bm/\(bm.contains (.type "BaseException")&&r.sup.all (λd=>(L.cls[d]?).any (·.exc)&&(Value.ref (D.clsA c)::bm).contains (.ref (D.clsA d))))=true):ExcsOk K D (p8 L) where
 obj c hx:=by
  refine a8 λp_ ah=> ?_;obtain⟨r,hr,hx⟩:=y6 hx;obtain⟨bm,h1,h2⟩:=h c r hr hx;obtain⟨h2,h3⟩:=an h2;refine ah ?_;refine⟨bm,h1,h2,λd hd=> ?_⟩;refine a8 λp_ ah=> ?_;obtain⟨r',hr',hd⟩:=y6 hd;rw[hr]at hr';cases hr';refine ah ?_;exact an (List.all_eq_true.mp h3 d (List.contains_iff_mem.mp (an hd).2))
noncomputable def a3b(K:Frag)(D:Adr):Nat->List FnRec->Bool
 |_,[]=>true
 |k,r::l=>fnB K D k r&&a3b K D (k+1) l
theorem a7a{K:Frag}{D:Adr}: ∀{l:List FnRec}{k:Nat},a3b K D k l=true-> ∀c r,l[c]? =some r->fnB K D (k+c) r=true
 |_::_,k,h,0,r,e=>by cases e;exact(an h).1
 |_::l,k,h,c+1,r,e=>by rw[show k+(c+1)=(k+1)+c by lia];exact a7a (an h).2 c r e
theorem b3t{L:TabL}(X:Pp.K.In Pp.base)(sys:(Pp.base.get? sysModules).isSome=true)(nm:NmOk Pp.D)(lim:Pp.base.NoLimit)(gl:C6 Pp (p8 L))(cl:y8 Pp.K Pp.D 0 L.cls=true)(ex:ExcsOk Pp.K Pp.D (p8 L))
  (fn:a3b Pp.K Pp.D 0 L.fns=true):ProgOk Pp (p8 L) where
 X:=X
 sys:=sys
 nm:=nm
 lim:=lim
 grd n:=⟨gl,a4q cl,ex,λC A e=>by
  have h1:=a4q (L:=L) cl;have h2:=c21 (L:=L) cl;have h3:=c4i (L:=L) cl;rw[<-e]at gl h1 h2 h3;exact d1l h2 h3 gl h1 X λfs G hs J s args vs Q E hz c S Vs h=>c67 hz c S Vs h⟩
 fn i r h:=d3k (by have:=a7a fn i r h;rwa [Nat.zero_add]at this)
end
noncomputable def a66(l:List Str)(x:Nat):Str:=if x<l.length then l.getD x Str.empty else ⟨⟨List.replicate (x+200) 0⟩⟩
theorem c0s{l:List Str}(h:l.Nodup)(hs:l.all (λs=>decide (s.cps.toList.length<200))=true): ∀x y,a66 l x=a66 l y->x=y:=λx y e=>by
 have big: ∀x y,x<l.length-> ¬y<l.length->a66 l x≠a66 l y:=λx y hx hy e=>by
  unfold a66 at e;rw[if_pos hx,if_neg hy]at e;have hm:l.getD x Str.empty∈l:=by rw[List.getD_eq_getElem?_getD,List.getElem?_eq_getElem hx];exact List.getElem_mem hx
  have:=of_decide_eq_true (List.all_eq_true.mp hs _ hm);rw[e]at this;simp only [List.length_replicate]at this;lia
 by_cases hx:x<l.length
 ·by_cases hy:y<l.length
  ·unfold a66 at e
   rw[if_pos hx,if_pos hy,List.getD_eq_getElem?_getD,List.getD_eq_getElem?_getD,List.getElem?_eq_getElem hx,List.getElem?_eq_getElem hy]at e;have p:=List.pairwise_iff_getElem.mp h;rcases Nat.lt_trichotomy x y with q |q |q
   ·exact absurd e (p x y hx hy q)
   ·exact q
   ·exact absurd e.symm (p y x hy hx q)
  ·exact absurd e (big x y hx hy)
 ·by_cases hy:y<l.length
  ·exact absurd e.symm (big y x hy hx)
  ·unfold a66 at e
   rw[if_neg hx,if_neg hy]at e;have:=congrArg (λs:Str=>s.cps.toList.length) e;simp only [List.length_replicate]at this;lia
end
section
noncomputable def gh0(h:Heap):Gh:=⟨λ_=>none,λa=>match h.get? a with |some o=> .fz o |none=> .none⟩
theorem c9x{h:Heap}{a:Addr}{o:Obj}(e:(gh0 h).own a= .fz o):h.get? a=some o:=by
 unfold gh0 at e;dsimp only at e
 split at e
 ·cases e;assumption
 ·cases e
theorem b82{h:Heap}{a:Addr}{o:Obj}(e:h.get? a=some o):(gh0 h).own a= .fz o:=by
 unfold gh0;dsimp only;rw[e]
theorem b0i{h:Heap}{a:Addr}{t:Own}(e:(gh0 h).own a=t)(n:t≠ .none): ∃o,t= .fz o/\h.get? a=some o:=by
 unfold gh0 at e;dsimp only at e
 split at e
 ·exact⟨_,e.symm,by assumption⟩
 ·exact absurd e.symm n
theorem c7z{Pp:Par}{s:Shared}(hb:Pp.base=s.heap)(hg:Pp.cq=s.gens)(ho:Pp.bX=s.os):St Pp (gh0 s.heap) [] [] [] s where
 lt a h:=by obtain⟨o,_,e⟩:=b0i rfl h;rw[e];rfl
 fz a o h:=c9x h
 ce a k h:=by obtain⟨o,e,_⟩:=b0i h nofun;cases e
 base a o h:=b82 (hb▸h)
 fr:=trivial
 he:=trivial
 ob id ao h:=nomatch h
 dom id p h:=nomatch h
 gens:=hg.symm
 os:=ho.symm
theorem b3z{Pp:Par}{T:Tab}(P:ProgOk Pp T){s:Shared}(hb:Pp.base=s.heap)(hg:Pp.cq=s.gens)(ho:Pp.bX=s.os){a:Addr}{o:Obj}{vs:Array Value}{n i m:Nat}{l:List Int}{ae:H}(ha:s.heap.get? a=some o)(hc:o.cls= .type "list")
  (hd:o.data= .seq vs n)(hi:PyProof.Rows.IntsAre vs.toList l)(hm:m<=80)(h:a7 T m i [.arg l] []= .ok (.bool true) ae){E:VP}:
  wpAny Pp.M callerA (call (.ref (Pp.D.fnA i)) [.ref a]) (λr s'=>r= .bool true/\(∀b x,s.heap.get? b=some x->s'.heap.get? b=some x)/\s'.gens=s.gens/\s'.os=s.os) E s:=by
 refine wpAny_call (a0c P m [] callerA (gh0 s.heap) [] [] s i [.arg l] [.ref a] _ ⟨rfl,λ_=>rfl, ?_, ?_⟩ (c7z hb hg ho) ⟨⟨a,o,vs.toList,n,rfl,b82 ha,hc,hd,hi⟩,trivial⟩ ?_)
 ·show 1+claimMargin+4*(2*m)+8<=recursionLimit
  have e1:claimMargin=300:=rfl;have e2:recursionLimit=1000:=rfl;lia
 ·show 4+50*(2*m)+300<=cLine
  have e1:cLine=9900:=rfl;lia
 ·rw[h]
  intro G' v s' le S V;exact⟨V,λb x e=>S.fz b x (S.base b x (hb▸e)),S.gens.trans hg,S.os.trans ho⟩
theorem b0g{R:WRecords}{cl:Str->Option Addr}{h:Heap}: ∀{xs:List WData}{vs:List Value}{as:List Addr},WShape.hasItems R xs .int=true->ReadsAllW R cl h vs xs as-> ∃l,xs=l.map WData.int/\PyProof.Rows.IntsAre vs l
 |[],vs,as,_,r=>by
  refine a8 λp_ ah=> ?_;obtain⟨rfl,_⟩:=readsAllW_nil_inv r;refine ah ?_;exact⟨[],rfl, .nil⟩
 |d::ds,vs,as,hs,r=>by
  refine a8 λp_ ah=> ?_;obtain⟨v,vs,as1,as2,rfl,rfl,r1,r2⟩:=readsAllW_cons_inv r;have hs':(WShape.has R d .int&&WShape.hasItems R ds .int)=true:=by simpa only [WShape.hasItems]using hs
  obtain⟨i,rfl⟩:=hasW_int (an hs').1;obtain⟨t,rfl,_⟩:=readsW_int_inv r1;obtain⟨l,rfl,h⟩:=b0g (an hs').2 r2;refine ah ?_;exact⟨i::l,rfl, .cons i t h⟩
end
section
abbrev S(l:List Nat):Str:=⟨⟨l⟩⟩
noncomputable def Zl(n:Nat):Nat->List Nat:=Nat.rec (motive:=λ_=>Nat->List Nat) (λ_=>[]) (λ_ ih n=>Bool.casesOn (motive:=λ_=>List Nat) (Nat.beq n 0) (n %256::ih (n/256)) []) n
noncomputable abbrev Z(n:Nat):Str:=S (Zl 64 n)
noncomputable abbrev pq:Program:=PySem.Challenge.pw_nz0226_02
theorem c0r:PySem.Challenge.pw_nz0226_02=pq:=rfl
theorem j4: @segRunT=PySem.W.Fast.tw10110043849684766642:=PySem.W.Fast.te10110043849684766642
theorem c0t: @segRun=PySem.W.Fast.tw14374325043358763698:=PySem.W.Fast.te14374325043358763698
theorem c3v: @topGo=PySem.W.Fast.tw15667345088766844465:=PySem.W.Fast.te15667345088766844465
theorem b56: @topRun=PySem.W.Fast.tw14082659384304107361:=PySem.W.Fast.te14082659384304107361
theorem b7a: @denote=PySem.W.Fast.tw11892475500146522536:=PySem.W.Fast.te11892475500146522536
theorem f9:treeTable=PySem.W.Fast.tw14364793385576792824:=PySem.W.Fast.te14364793385576792824
noncomputable def b5x:List Obj->Nat->BT->BT
 |[],_,t=>t
 |o::r,i,t=>b5x r (i+1) (t.ins i o)
noncomputable def q8(l:List Obj):BT:=b5x l 0 .nil
noncomputable def c42:Stmt->Arguments×List Stmt×Scope
 | .FunctionDef _ a b _ _ _ s _ _ _=>(a,b,s)
 |_=>default
noncomputable def c3h:Stmt->List Stmt
 | .ClassDef _ _ _ b _ _ _ _ _ _ _=>b
 |_=>[]
noncomputable def fnA(i:Nat)(j:Option Nat):Arguments×List Stmt×Scope:=match j with
 |none=>c42 (pq.main.body.getD i default)
 |some j=>c42 ((c3h (pq.main.body.getD i default)).getD j default)
noncomputable def fnO(a:Arguments×List Stmt×Scope)(name qual:Str)(dV doc pm cd:Value)(gl:Nat):FuncData:=
 ⟨name,qual,a.1, .stmts a.2.1,a.2.2,gl,[],dV, .none,doc,pm,none,cd, .none,builtinsNs⟩
noncomputable def m0:Nat:=11
noncomputable def A9:Option Value:=(some (.ref 6))
noncomputable def E8:Env:=⟨pq.main.scope,mainNs,mainNs,[],Str.empty,none,(.ref 13),some 14,0⟩
noncomputable def cE:Code:= .body (behindTheImports pq) E8
noncomputable def E9:Pos:=(⟨0,0,0,0⟩:Pos)
noncomputable def Xe(P:Params)(x:Str)(n:Nat)(v:Value):DictEntry:=⟨PyData.keyHash P x, .str x n,v⟩
noncomputable def Xi(n:Int):Value:= .int n 0
noncomputable def Xr(n:Nat):Value:= .ref n
noncomputable def Xx(x:Str)(n:Nat):Value:= .str x n
noncomputable def Xq(t:Value)(l:List Value)(n:Nat):Obj:=⟨t,none, .seq ⟨l⟩ n,⟨[]⟩⟩
noncomputable def Xf(t:Value)(l:List Value):Obj:=⟨t,none, .fields ⟨l⟩,⟨[]⟩⟩
noncomputable def Xd(t:Value)(l:List DictEntry)(n:Nat):Obj:=⟨t,none, .dict ⟨l⟩ n,⟨[]⟩⟩
noncomputable def Xg(t:Value)(i:Nat)(j:Option Nat)(a b:Str)(x y z u:Value)(n:Nat):Obj:=⟨t,none, .func (fnO (fnA i j) a b x y z u n),⟨[]⟩⟩
noncomputable def Xh(i:Nat)(j:Option Nat)(a b:Str):Obj:=Xg .none i j a b .none .none .none .none 0
noncomputable def c5:Str:=Z 0x79702e7475632f6d69616c632f
noncomputable def k8:Str:=Z 0x666c6573
noncomputable def t8:Str:=Z 0x5f5f74696e695f5f
noncomputable def s7:Str:=Z 0x73736572646461
noncomputable def t9:Str:=Z 0x676e696761702e6472616f6265706970
noncomputable def zs5:Str:=Z 0x5f5f636f645f5f
noncomputable def T6:Str:=Z 0x5f5f656c75646f6d5f5f
noncomputable def T7:Str:=Z 0x5f5f6f6e656e696c74737269665f5f
noncomputable def U3:Str:=Z 0x5f5f736574756269727474615f6369746174735f5f
noncomputable def x9:Str:=Z 0x79726f6d656d2e6472616f6265706970
noncomputable def V4:Str:=Z 0x726f7272456472616f42
noncomputable def E3:Str:=Z 0x64616f6c
noncomputable def E7:Str:=Z 0x65726f7473
noncomputable def a62:Str:=Z 0x746e656d75677241646142
noncomputable def a74:Str:=Z 0x73736572646441646142
noncomputable def a80:Str:=Z 0x6c6c61775f
noncomputable def a6c:Str:=Z 0x6d6f6f526f4e
noncomputable def a4l:Str:=Z 0x70617254
noncomputable def c4f:Str:=Z 0x5f5f656d616e5f5f
noncomputable def w6:Str:=Z 0x7972746e65
noncomputable def E2:Str:=Z 0x5f5f6665726b6165775f5f
noncomputable def R5:Str:=Z 0x5f5f656d616e6c6175715f5f
noncomputable def J9:Str:=Z 0x5f5f746369645f5f
noncomputable def y1:Str:=Z 0x657a6973
noncomputable def a5a:Str:=Z 0x74756f79614c
noncomputable def a9n:Str:=Z 0x7374696769645f7468676965
noncomputable def a81:Str:=Z 0x6661656c5f7369
noncomputable def a9e:Str:=Z 0x646e756f735f7369
noncomputable def a9d:Str:=Z 0x79616d
noncomputable def a4n:Str:=Z 0x6863746566
noncomputable def a6q:Str:=Z 0x72656b6c6157
noncomputable def a4k:Str:=Z 0x6b63697551
noncomputable def D5:Str:=Z 0x73726f7272652e6472616f6265706970
noncomputable def J7:Str:=Z 0x6c61636973796870
noncomputable def a6s:Str:=Z 0x73656c626154
noncomputable def E4:Str:=Z 0x746f6f72
noncomputable def E5:Str:=Z 0x73656761702e6472616f6265706970
noncomputable def a9o:Str:=Z 0x657a69735f6465656e
noncomputable def a9r:Str:=Z 0x686374657274735f6465656e
noncomputable def a7o:Str:=Z 0x79726f6d654d
noncomputable def a1j:Str:=Z 0x6574616c736e617274
noncomputable def a1p:Str:=Z 0x73776f72
noncomputable def a7m:Str:=Z 0x6d6f52
noncomputable def a69:Str:=Z 0x737542
noncomputable def U8:Str:=Z 0x65756c6176
noncomputable def V5:Str:=Z 0x6563616c70
noncomputable def a3r:Str:=Z 0x746574636f
noncomputable def a73:Str:=Z 0x7365676150
noncomputable def a1l:Str:=Z 0x746e756f63
noncomputable def b5v:Str:=Z 0x70616d
noncomputable def a8g:Str:=Z 0x7374726170
noncomputable def a3l:Str:=Z 0x646e696b
noncomputable def a2x:Str:=Z 0x79726f6d656d
noncomputable def a9m:Str:=Z 0x6c6c6966
noncomputable def a8u:Str:=Z 0x6e776f
noncomputable def a7d:Str:=Z 0x7473726966
noncomputable def a39:Str:=Z 0x6e69676562
noncomputable def a4f:Str:=Z 0x646e65
noncomputable def b3b:Str:=Z 0x656b6174
noncomputable def b3r:Str:=Z 0x64726f77
noncomputable def a83:Str:=Z 0x6575645f77616c5f
noncomputable def a9i:Str:=Z 0x646c6f745f77616c5f
noncomputable def a89:Str:=Z 0x646565645f77616c5f
noncomputable def a9b:Str:=Z 0x74686769725f656e6f6c5f77616c5f
noncomputable def a8y:Str:=Z 0x77616c
noncomputable def b7e:Str:=Z 0x6e776f64
noncomputable def b8t:Str:=S [117,112]
noncomputable def b6f:Str:=Z 0x6e696765625f7369
noncomputable def a6n:Str:=Z 0x6e695f7365676170
noncomputable def a0s:Str:=Z 0x7367616c66
noncomputable def a5d:Str:=Z 0x74615f7972746e65
noncomputable def a5z:Str:=Z 0x656761705f656772616c
noncomputable def a45:Str:=Z 0x6b72616d
noncomputable def a7x:Str:=Z 0x65626f7270
noncomputable def a5w:Str:=Z 0x746567726f66
noncomputable def a77:Str:=Z 0x656c6261745f77656e
noncomputable def a38:Str:=Z 0x73747261705f6465656e
noncomputable def a71:Str:=Z 0x6b6c6177
noncomputable def a52:Str:=Z 0x7367616c665f6465656e
noncomputable def a5c:Str:=Z 0x656772616c5f70616d
noncomputable def a6t:Str:=Z 0x6563616c705f6465656e
noncomputable def a7z:Str:=Z 0x70616d6e75
noncomputable def a6o:Str:=Z 0x65676e616863
noncomputable def a51:Str:=Z 0x65766f6d
noncomputable def a7t:Str:=Z 0x666f5f73656c626174
noncomputable def a58:Str:=Z 0x666f5f73776f72
noncomputable def a6j:Str:=Z 0x656e757270
noncomputable def a4h:Str:=Z 0x73657661656c
noncomputable def a54:Str:=Z 0x65657266
noncomputable def a6u:Str:=Z 0x74786574
noncomputable def a5k:Str:=Z 0x73646c6f68
noncomputable def a7l:Str:=Z 0x6465656e
noncomputable def a5v:Str:=Z 0x64656e67696c615f6465656e
noncomputable def a7g:Str:=Z 0x64726f775f747570
noncomputable def a4m:Str:=Z 0x7065656b
noncomputable def a63:Str:=Z 0x666c6168
noncomputable def a7w:Str:=Z 0x666c61685f747570
noncomputable def a5n:Str:=Z 0x746574636f5f747570
noncomputable def a65:Str:=Z 0x747261705f747570
noncomputable def a6l:Str:=Z 0x746567
noncomputable def a75:Str:=Z 0x747570
noncomputable def a5h:Str:=Z 0x6f72657a
noncomputable def a4t:Str:=Z 0x79706f63
noncomputable def a5o:Str:=Z 0x64657375
noncomputable def a6f:Str:=Z 0x6e697774
noncomputable def a72:Str:=Z 0x656b696c61
noncomputable def a5q:Str:=Z 0x686361747461
noncomputable def a5j:Str:=Z 0x74615f68637465727473
noncomputable def a4y:Str:=Z 0x79726f6d656d5f7369
noncomputable def a2g:Str:=Z 0x32305f363232307a6e5f77616c
noncomputable def a49:Str:=Z 0x666f5f73736572646461
noncomputable def a4d:Str:=Z 0x656761705f7369
noncomputable def a6m:Str:=Z 0x737265646c6f68
noncomputable def a4r:Str:=Z 0x646c65685f6465656e
noncomputable def a5t:Str:=Z 0x746e756f635f65657266
noncomputable def a35:Str:=Z 0x656572665f6465656e
noncomputable def a7j:Str:=Z 0x64656c6c6966
noncomputable def a7h:Str:=Z 0x7261656c635f656b6174
noncomputable def a7i:Str:=Z 0x796e616d5f656b6174
noncomputable def a5x:Str:=Z 0x6572616873
noncomputable def a5b:Str:=Z 0x65766967
noncomputable def a50:Str:=Z 0x646c65685f6c6c61
noncomputable def b91:Str:=Z 0x5f5f6e69616d5f5f
noncomputable def a10:Str:=Z 0x74657366666f
noncomputable def a11:Str:=Z 0x646e756f66
noncomputable def a6d:Str:=Z 0x646e6f636573
noncomputable def a4z:Str:=Z 0x65646f6d
noncomputable def a5y:Str:=Z 0x7469625f6d7573
noncomputable def a5g:Str:=Z 0x72786d
noncomputable def a5r:Str:=Z 0x74756f79616c
noncomputable def c6f:Str:=Z 0x3e656c75646f6d3c
noncomputable def c5j:Str:=Z 0x44454e47494c4153494d5f4843544546
noncomputable def c49:Str:=Z 0x5353454343415f4843544546
noncomputable def c5n:Str:=Z 0x4c4147454c4c49
noncomputable def c6r:Str:=Z 0x544e494f504b41455242
noncomputable def c53:Str:=Z 0x44454e47494c4153494d5f44414f4c
noncomputable def c55:Str:=Z 0x5353454343415f44414f4c
noncomputable def c6u:Str:=Z 0x44454e47494c4153494d5f45524f5453
noncomputable def c6g:Str:=Z 0x5353454343415f45524f5453
noncomputable def c5k:Str:=Z 0x524553555f4d4f52465f4c4c4143
noncomputable def c56:Str:=Z 0x524f53495652455055535f4d4f52465f4c4c4143
noncomputable def c47:Str:=Z 0x454e494843414d5f4d4f52465f4c4c4143
noncomputable def c6t:Str:=Z 0x454741505f4843544546
noncomputable def c5v:Str:=Z 0x454741505f44414f4c
noncomputable def c46:Str:=Z 0x454741505f45524f5453
noncomputable def b0l:Str:=Z 0x6573756163
noncomputable def b0s:Str:=Z 0x65676170
noncomputable def b0d:Str:=Z 0x68637465727473
noncomputable def b67:Str:=Z 0x5f5f74696e695f5f2e726f7272456472616f42
noncomputable def b9t:Str:=Z 0x5f5f74696e695f5f2e73736572646441646142
noncomputable def b8b:Str:=Z 0x5f5f74696e695f5f2e70617254
noncomputable def b7u:Str:=Z 0x5f5f74696e695f5f2e74756f79614c
noncomputable def b6v:Str:=Z 0x73747261702e74756f79614c
noncomputable def b78:Str:=Z 0x737365726464612e74756f79614c
noncomputable def c1h:Str:=Z 0x6e776f642e74756f79614c
noncomputable def c1a:Str:=Z 0x70752e74756f79614c
noncomputable def b4i:Str:=Z 0x6e696765625f73692e74756f79614c
noncomputable def b94:Str:=Z 0x6e695f73656761702e74756f79614c
noncomputable def b6r:Str:=Z 0x7972746e652e74756f79614c
noncomputable def b5z:Str:=Z 0x6c616369737968702e74756f79614c
noncomputable def c0d:Str:=Z 0x5f5f74696e695f5f2e72656b6c6157
noncomputable def c0e:Str:=Z 0x6574616c736e6172742e72656b6c6157
noncomputable def b7q:Str:=Z 0x74615f7972746e652e72656b6c6157
noncomputable def b7o:Str:=Z 0x656761705f656772616c2e72656b6c6157
noncomputable def c0f:Str:=Z 0x6b72616d2e72656b6c6157
noncomputable def b9a:Str:=Z 0x65626f72702e72656b6c6157
noncomputable def b6t:Str:=Z 0x5f5f74696e695f5f2e6b63697551
noncomputable def b8g:Str:=Z 0x6574616c736e6172742e6b63697551
noncomputable def c0a:Str:=Z 0x746567726f662e6b63697551
noncomputable def b9k:Str:=Z 0x5f5f74696e695f5f2e73656c626154
noncomputable def b99:Str:=Z 0x656c6261745f77656e2e73656c626154
noncomputable def b92:Str:=Z 0x73747261705f6465656e2e73656c626154
noncomputable def b9h:Str:=Z 0x6b6c61772e73656c626154
noncomputable def c1d:Str:=Z 0x7972746e652e73656c626154
noncomputable def b5r:Str:=Z 0x6c616369737968702e73656c626154
noncomputable def b64:Str:=Z 0x7367616c665f6465656e2e73656c626154
noncomputable def b9r:Str:=Z 0x70616d2e73656c626154
noncomputable def b8f:Str:=Z 0x656772616c5f70616d2e73656c626154
noncomputable def b8y:Str:=Z 0x6563616c705f6465656e2e73656c626154
noncomputable def b5u:Str:=Z 0x70616d6e752e73656c626154
noncomputable def b6b:Str:=Z 0x65676e6168632e73656c626154
noncomputable def c1v:Str:=Z 0x65766f6d2e73656c626154
noncomputable def b79:Str:=Z 0x666f5f73656c6261742e73656c626154
noncomputable def b8o:Str:=Z 0x73776f722e73656c626154
noncomputable def b93:Str:=Z 0x656c626174
noncomputable def b5d:Str:=Z 0x666f5f73776f722e73656c626154
noncomputable def b4j:Str:=Z 0x656e7572702e73656c626154
noncomputable def b6c:Str:=Z 0x73657661656c2e73656c626154
noncomputable def b6e:Str:=Z 0x656572662e73656c626154
noncomputable def c0u:Str:=Z 0x747865742e73656c626154
noncomputable def b85:Str:=Z 0x5f5f74696e695f5f2e79726f6d654d
noncomputable def b6k:Str:=Z 0x73646c6f682e79726f6d654d
noncomputable def b8l:Str:=Z 0x6465656e2e79726f6d654d
noncomputable def c1r:Str:=Z 0x64656e67696c615f6465656e2e79726f6d654d
noncomputable def b8p:Str:=Z 0x64726f772e79726f6d654d
noncomputable def b4w:Str:=Z 0x64726f775f7475702e79726f6d654d
noncomputable def b6z:Str:=Z 0x7865646e69
noncomputable def b7p:Str:=Z 0x7065656b2e79726f6d654d
noncomputable def c11:Str:=Z 0x666c61682e79726f6d654d
noncomputable def b4t:Str:=Z 0x666c61685f7475702e79726f6d654d
noncomputable def b6m:Str:=Z 0x746574636f2e79726f6d654d
noncomputable def c1p:Str:=Z 0x746574636f5f7475702e79726f6d654d
noncomputable def b9g:Str:=Z 0x747261705f7475702e79726f6d654d
noncomputable def b9c:Str:=Z 0x7465672e79726f6d654d
noncomputable def b62:Str:=Z 0x7475702e79726f6d654d
noncomputable def b6w:Str:=Z 0x64616f6c2e79726f6d654d
noncomputable def b6d:Str:=Z 0x73746574636f
noncomputable def b5h:Str:=Z 0x65726f74732e79726f6d654d
noncomputable def b6h:Str:=Z 0x6f72657a2e79726f6d654d
noncomputable def b9s:Str:=Z 0x6c6c69662e79726f6d654d
noncomputable def c1j:Str:=Z 0x79706f632e79726f6d654d
noncomputable def c0g:Str:=Z 0x646573752e79726f6d654d
noncomputable def c0i:Str:=Z 0x73776f722e79726f6d654d
noncomputable def b8j:Str:=Z 0x6e6977742e79726f6d654d
noncomputable def c0w:Str:=Z 0x656b696c612e79726f6d654d
noncomputable def b7h:Str:=Z 0x5f5f74696e695f5f2e6d6f52
noncomputable def b9e:Str:=Z 0x657a69732e6d6f52
noncomputable def b97:Str:=Z 0x64616f6c2e6d6f52
noncomputable def b8a:Str:=Z 0x65726f74732e6d6f52
noncomputable def b8z:Str:=Z 0x5f5f74696e695f5f2e737542
noncomputable def b8e:Str:=Z 0x6863617474612e737542
noncomputable def b9b:Str:=Z 0x74615f686374657274732e737542
noncomputable def b7g:Str:=Z 0x64616f6c2e737542
noncomputable def b9p:Str:=Z 0x65726f74732e737542
noncomputable def c1q:Str:=Z 0x68637465662e737542
noncomputable def b58:Str:=Z 0x79726f6d656d5f73692e737542
noncomputable def b9i:Str:=Z 0x5f5f74696e695f5f2e7365676150
noncomputable def b57:Str:=Z 0x666f5f737365726464612e7365676150
noncomputable def c0c:Str:=Z 0x656761705f73692e7365676150
noncomputable def c0h:Str:=Z 0x737265646c6f682e7365676150
noncomputable def b9m:Str:=Z 0x646c65685f6465656e2e7365676150
noncomputable def b9l:Str:=Z 0x746e756f635f656572662e7365676150
noncomputable def b5t:Str:=Z 0x656572665f6465656e2e7365676150
noncomputable def c00:Str:=Z 0x64656c6c69662e7365676150
noncomputable def b71:Str:=Z 0x656b61742e7365676150
noncomputable def b8s:Str:=Z 0x7261656c635f656b61742e7365676150
noncomputable def b7v:Str:=Z 0x796e616d5f656b61742e7365676150
noncomputable def c0n:Str:=Z 0x65726168732e7365676150
noncomputable def b5p:Str:=Z 0x657669672e7365676150
noncomputable def b7z:Str:=Z 0x6e776f2e7365676150
noncomputable def b4x:Str:=Z 0x646c65685f6c6c612e7365676150
noncomputable def c5w:Str:=Z 0x6e6f73616572
noncomputable def c5q:Str:=Z 0x737469625f65676170
noncomputable def c5o:Str:=Z 0x7265626d756e
noncomputable def c6b:Str:=Z 0x656772616c
noncomputable def c5x:Str:=Z 0x737562
noncomputable def c5l:Str:=Z 0x72656b6c6177
noncomputable def c5r:Str:=Z 0x6d6f6f72
noncomputable def c6p:Str:=Z 0x7365676170
noncomputable def zt0:Value:= .type PySem.W.SL.s2766695959194262286x5
noncomputable def zt1:Value:= .type PySem.W.SL.s5856160107412720595x4
noncomputable def i8:Value:= .type PySem.W.SL.s7174869446012820540x8
noncomputable def A5:Value:= .type PySem.W.SL.s14018661285674007319x4
noncomputable def R4:Value:= .type PySem.W.SL.s17162191345867700912x4
noncomputable def S8:Value:= .type PySem.W.SL.s11030030927630378310x26
noncomputable def zt6:Value:= .type PySem.W.SL.s2742458400755230247x6
noncomputable def zt7:Value:= .type PySem.W.SL.s14755015743595814543x17
noncomputable def zt8:Value:= .type PySem.W.SL.s658472552662922059x5
noncomputable def zt9:Value:= .type PySem.W.SL.s4290257624100764138x5
noncomputable def a2s:Value:= .type PySem.W.SL.s6070975301684473832x10
noncomputable def b2k:Value:= .type PySem.W.SL.s4278001404047624695x13
noncomputable def b3k:Value:= .type PySem.W.SL.s5946037652744460706x9
noncomputable def Xa(l:List Value):Obj:=Xq zt0 l 0
noncomputable def Xc(a:Str)(a1:Nat)(b:Str)(b1:Nat)(c:Str)(c1:Nat)(d e f g h:Int)(i:Nat)(j:Bool)(k:Int)(l:Nat)(x y z u:Value)(v w:Int)(q:Str)(q1:Nat):Obj:=Xf zt1 [Xx a a1,Xx b b1,Xx c c1,Xi d,Xi e,Xi f,Xi g,Xi h,Xr i,(.bool j),Xi k,Xr l,x,y,z,u,Xi v,Xi w,Xx q q1]
noncomputable def o1(P:Params):Obj:=Xd A5 [Xe P (Z 0x736e69746c697562) 162 (Xr 4),Xe P b91 163 (Xr 5)] 2
noncomputable def d38(P:Params):List Obj:=(boot_heap P).objs.toList++[Xa [],Xf .none [],Xc c6f 182 c6f 183 c5 184 1 0 0 0 0 11 false 181 12 .none .none .none .none 185 1 c5 186,⟨zt8,none,.plain,⟨[(some (Xr 13)),(some (Xr 3)),(some (Xr 3)),none,(some (Xx b91 164)),none,(some (Xr 0))]⟩⟩]
noncomputable def tr0(P:Params):BT:=q8 (d38 P)
noncomputable def st0(w:World)(os:OsState):SharedT:=⟨tr0 w.params,15,(boot_heap w.params).life,⟨[]⟩,boot_drawn,187,os⟩
noncomputable def o52(P:Params):Obj:=⟨R4,none,(.cls ⟨a62,[Xr 39],[Xr 52,Xr 39,a2s,b3k,b2k,zt6],51,a62,true,[],[],false,none,false⟩),⟨[(some (Xr 43)),none,(some (Xx a62 224)),(some (Xx a62 232)),(some (.builtin PySem.W.SL.s4209523147560561109x18)),(some (.bool true))]⟩⟩
noncomputable def gv1(P:Params):List DictEntry:=[Xe P c4f 165 (Xx D5 194),Xe P zs5 166 .none,Xe P (Z 0x5f5f6567616b6361705f5f) 167 .none,Xe P (Z 0x5f5f726564616f6c5f5f) 168 (.builtin PySem.W.SL.s7097527257260152453x26),Xe P (Z 0x5f5f636570735f5f) 169 .none,Xe P (Z 0x5f5f736e6f697461746f6e6e615f5f) 170 (Xr 6),Xe P (Z 0x5f5f736e69746c6975625f5f) 171 (Xr 4),Xe P (Z 0x5f5f656c69665f5f) 173 (Xx c5 172),Xe P (Z 0x5f5f6465686361635f5f) 174 .none,Xe P a80 193 (Xr 21),Xe P V4 223 (Xr 39),Xe P a62 239 (Xr 52),Xe P a74 264 (Xr 71)]
noncomputable def lv1:List Value:=[Xi 1,Xi 0,Xr 20,Xi 5,Xi 0,Xr 27,Xi 10,Xi 0,Xr 48,Xi 12,Xi 0,Xr 60]
noncomputable def d14(P:Params):List Obj:=((d38 P).set 3 (Xd A5 (gv1 P) 13)).set 12 (Xf .none lv1)++[Xa [],Xf .none [],Xa [Xx (S [107]) 190],Xa [],Xh 0 none a80 a80,Xc a80 187 a80 188 c5 189 1 1 0 0 3 15 true 181 16 .none (Xr 17) (Xr 18) (Xr 19) 191 1 c5 192,Xg i8 0 none a80 a80 .none .none (Xx b91 164) (Xr 20) 3,Xa [a2s],Xf S8 [(.builtin PySem.W.SL.s10062305145149207511x16),R4],Xd A5 [Xe P T6 203 (Xx D5 194),Xe P R5 205 (Xx V4 204),Xe P T7 207 (.int 5 206),Xe P t8 216 (Xr 36),Xe P U3 218 (Xr 37)] 5,Xa [],Xf .none [Xi 7,Xi 4,Xr 35],Xc V4 198 V4 199 c5 200 5 0 0 0 0 25 false 181 26 .none .none .none .none 201 5 c5 202,⟨zt8,none,.plain,⟨[(some (Xr 27)),(some (Xr 3)),(some (Xr 24)),none,(some (Xx D5 194)),none,(some (Xr 0))]⟩⟩,Xa [Xx (S []) 208],Xa [],Xf .none [],Xa [Xx k8 212,Xx c5w 213],Xa [],Xh 2 (some 0) t8 b67,Xc t8 209 b67 210 c5 211 7 2 0 0 3 30 true 181 31 .none (Xr 32) (Xr 33) (Xr 34) 214 7 c5 215,Xg i8 2 (some 0) t8 b67 (Xr 29) .none (Xx D5 194) (Xr 35) 3,Xa [Xx c5w 217],Xd A5 [Xe P T6 203 (Xx D5 194),Xe P T7 207 (.int 5 206),Xe P t8 216 (Xr 36),Xe P U3 218 (Xr 37),Xe P E2 220 (Xr 40),Xe P zs5 221 .none] 3,⟨R4,none,(.cls ⟨V4,[a2s],[Xr 39,a2s,b3k,b2k,zt6],38,V4,true,[],[Xr 52,Xr 71],false,none,false⟩),⟨[(some (Xr 22)),none,(some (Xx V4 196)),(some (Xx V4 204)),(some (.builtin PySem.W.SL.s4209523147560561109x18)),(some (.bool true))]⟩⟩,Xf zt7 [Xx E2 219,Xr 39,(.builtin PySem.W.SL.s10220274742760427390x26),.none],Xf zt9 [Xr 39,Xr 39,Xr 39],Xf S8 [(.builtin PySem.W.SL.s4860613602091757760x24),Xr 39],Xa [Xr 39],Xf S8 [(.builtin PySem.W.SL.s10062305145149207511x16),R4],Xd A5 [Xe P T6 231 (Xx D5 194),Xe P R5 233 (Xx a62 232),Xe P T7 235 (.int 10 234),Xe P U3 236 (Xr 50)] 4,Xa [],Xf .none [],Xc a62 226 a62 227 c5 228 10 0 0 0 0 46 false 181 47 .none .none .none .none 229 10 c5 230,⟨zt8,none,.plain,⟨[(some (Xr 48)),(some (Xr 3)),(some (Xr 45)),none,(some (Xx D5 194)),none,(some (Xr 0))]⟩⟩,Xa [],Xd A5 [Xe P T6 231 (Xx D5 194),Xe P T7 235 (.int 10 234),Xe P U3 236 (Xr 50),Xe P zs5 237 .none] 2,o52 P,Xf zt9 [Xr 52,Xr 52,Xr 52],Xf S8 [(.builtin PySem.W.SL.s4860613602091757760x24),Xr 52],Xa [Xr 39],Xf S8 [(.builtin PySem.W.SL.s10062305145149207511x16),R4],Xd A5 [Xe P T6 247 (Xx D5 194),Xe P R5 249 (Xx a74 248),Xe P T7 251 (.int 12 250),Xe P t8 259 (Xr 68),Xe P U3 261 (Xr 69)] 5,Xa [],Xf .none [Xi 14,Xi 4,Xr 67],Xc a74 242 a74 243 c5 244 12 0 0 0 0 58 false 181 59 .none .none .none .none 245 12 c5 246,⟨zt8,none,.plain,⟨[(some (Xr 60)),(some (Xr 3)),(some (Xr 57)),none,(some (Xx D5 194)),none,(some (Xr 0))]⟩⟩,Xa [],Xf .none [],Xa [Xx k8 255,Xx s7 256],Xa [],Xh 4 (some 0) t8 b9t,Xc t8 252 b9t 253 c5 254 14 2 0 0 3 62 true 181 63 .none (Xr 64) (Xr 65) (Xr 66) 257 14 c5 258,Xg i8 4 (some 0) t8 b9t .none .none (Xx D5 194) (Xr 67) 3,Xa [Xx s7 260],Xd A5 [Xe P T6 247 (Xx D5 194),Xe P T7 251 (.int 12 250),Xe P t8 259 (Xr 68),Xe P U3 261 (Xr 69),Xe P zs5 262 .none] 2,⟨R4,none,(.cls ⟨a74,[Xr 39],[Xr 71,Xr 39,a2s,b3k,b2k,zt6],70,a74,true,[],[],false,none,false⟩),⟨[(some (Xr 55)),none,(some (Xx a74 240)),(some (Xx a74 248)),(some (.builtin PySem.W.SL.s4209523147560561109x18)),(some (.bool true))]⟩⟩,Xf zt9 [Xr 71,Xr 71,Xr 71],Xf S8 [(.builtin PySem.W.SL.s4860613602091757760x24),Xr 71]]
noncomputable def tr1(P:Params):BT:=q8 (d14 P)
noncomputable def st1(w:World)(os:OsState):SharedT:=⟨tr1 w.params,74,(boot_heap w.params).life,⟨[]⟩,boot_drawn,265,os⟩
noncomputable def d3p:List Stmt:=(pq.main.body.drop 0).take 5
noncomputable def b5e(P:Params):Obj:=⟨R4,none,(.cls ⟨V4,[a2s],[Xr 39,a2s,b3k,b2k,zt6],38,V4,true,[],[Xr 52,Xr 71,Xr 83,Xr 103],false,none,false⟩),⟨[(some (Xr 22)),none,(some (Xx V4 196)),(some (Xx V4 204)),(some (.builtin PySem.W.SL.s4209523147560561109x18)),(some (.bool true))]⟩⟩
noncomputable def c8g(P:Params):Obj:=⟨R4,none,(.cls ⟨a4l,[Xr 39],[Xr 103,Xr 39,a2s,b3k,b2k,zt6],102,a4l,true,[],[],false,none,false⟩),⟨[(some (Xr 86)),none,(some (Xx a4l 281)),(some (Xx a4l 289)),(some (.builtin PySem.W.SL.s4209523147560561109x18)),(some (.bool true))]⟩⟩
noncomputable def gv2(P:Params):List DictEntry:=gv1 P++[Xe P a6c 280 (Xr 83),Xe P a4l 336 (Xr 103)]
noncomputable def lv2:List Value:=lv1++[Xi 17,Xi 0,Xr 79,Xi 19,Xi 0,Xr 91]
noncomputable def d2k(P:Params):List Obj:=(((d14 P).set 3 (Xd A5 (gv2 P) 15)).set 12 (Xf .none lv2)).set 39 (b5e P)++[Xa [Xr 39],Xf S8 [(.builtin PySem.W.SL.s10062305145149207511x16),R4],Xd A5 [Xe P T6 272 (Xx D5 194),Xe P R5 274 (Xx a6c 273),Xe P T7 276 (.int 17 275),Xe P U3 277 (Xr 81)] 4,Xa [],Xf .none [],Xc a6c 267 a6c 268 c5 269 17 0 0 0 0 77 false 181 78 .none .none .none .none 270 17 c5 271,⟨zt8,none,.plain,⟨[(some (Xr 79)),(some (Xr 3)),(some (Xr 76)),none,(some (Xx D5 194)),none,(some (Xr 0))]⟩⟩,Xa [],Xd A5 [Xe P T6 272 (Xx D5 194),Xe P T7 276 (.int 17 275),Xe P U3 277 (Xr 81),Xe P zs5 278 .none] 2,⟨R4,none,(.cls ⟨a6c,[Xr 39],[Xr 83,Xr 39,a2s,b3k,b2k,zt6],82,a6c,true,[],[],false,none,false⟩),⟨[(some (Xr 74)),none,(some (Xx a6c 265)),(some (Xx a6c 273)),(some (.builtin PySem.W.SL.s4209523147560561109x18)),(some (.bool true))]⟩⟩,Xf zt9 [Xr 83,Xr 83,Xr 83],Xf S8 [(.builtin PySem.W.SL.s4860613602091757760x24),Xr 83],Xa [Xr 39],Xf S8 [(.builtin PySem.W.SL.s10062305145149207511x16),R4],Xd A5 [Xe P T6 288 (Xx D5 194),Xe P R5 290 (Xx a4l 289),Xe P T7 292 (.int 19 291),Xe P c5j 294 (.int 0 293),Xe P c49 296 (.int 1 295),Xe P c5n 298 (.int 2 297),Xe P c6r 300 (.int 3 299),Xe P c53 302 (.int 4 301),Xe P c55 304 (.int 5 303),Xe P c6u 306 (.int 6 305),Xe P c6g 308 (.int 7 307),Xe P c5k 310 (.int 8 309),Xe P c56 312 (.int 9 311),Xe P c47 314 (.int 11 313),Xe P c6t 316 (.int 12 315),Xe P c5v 318 (.int 13 317),Xe P c46 320 (.int 15 319),Xe P t8 330 (Xr 100),Xe P U3 333 (Xr 101)] 19,Xa [],Xf .none [Xi 35,Xi 4,Xr 99],Xc a4l 283 a4l 284 c5 285 19 0 0 0 0 89 false 181 90 .none .none .none .none 286 19 c5 287,⟨zt8,none,.plain,⟨[(some (Xr 91)),(some (Xr 3)),(some (Xr 88)),none,(some (Xx D5 194)),none,(some (Xr 0))]⟩⟩,Xa [(.int 0 321)],Xa [],Xf .none [],Xa [Xx k8 325,Xx b0l 326,Xx U8 327],Xa [],Xh 6 (some 14) t8 b8b,Xc t8 322 b8b 323 c5 324 35 3 0 0 3 94 true 181 95 .none (Xr 96) (Xr 97) (Xr 98) 328 35 c5 329,Xg i8 6 (some 14) t8 b8b (Xr 93) .none (Xx D5 194) (Xr 99) 3,Xa [Xx b0l 331,Xx U8 332],Xd A5 [Xe P T6 288 (Xx D5 194),Xe P T7 292 (.int 19 291),Xe P c5j 294 (.int 0 293),Xe P c49 296 (.int 1 295),Xe P c5n 298 (.int 2 297),Xe P c6r 300 (.int 3 299),Xe P c53 302 (.int 4 301),Xe P c55 304 (.int 5 303),Xe P c6u 306 (.int 6 305),Xe P c6g 308 (.int 7 307),Xe P c5k 310 (.int 8 309),Xe P c56 312 (.int 9 311),Xe P c47 314 (.int 11 313),Xe P c6t 316 (.int 12 315),Xe P c5v 318 (.int 13 317),Xe P c46 320 (.int 15 319),Xe P t8 330 (Xr 100),Xe P U3 333 (Xr 101),Xe P zs5 334 .none] 2,c8g P,Xf zt9 [Xr 103,Xr 103,Xr 103],Xf S8 [(.builtin PySem.W.SL.s4860613602091757760x24),Xr 103]]
noncomputable def tr2(P:Params):BT:=q8 (d2k P)
noncomputable def st2(w:World)(os:OsState):SharedT:=⟨tr2 w.params,106,(boot_heap w.params).life,⟨[]⟩,boot_drawn,337,os⟩
noncomputable def d1v:List Stmt:=(pq.main.body.drop 5).take 2
noncomputable def gv3(P:Params):List DictEntry:=(gv2 P).set 0 (Xe P c4f 165 (Xx t9 337))++[Xe P (Z 0x5952544e45) 340 (.int 4 339),Xe P (Z 0x44494c4156) 342 (.int 1 341),Xe P (Z 0x44414552) 344 (.int 2 343),Xe P (Z 0x4554495257) 346 (.int 4 345),Xe P (Z 0x45545543455845) 348 (.int 8 347),Xe P (Z 0x52455355) 350 (.int 16 349),Xe P (Z 0x4445535345434341) 352 (.int 64 351),Xe P (Z 0x5954524944) 354 (.int 128 353),Xe P (Z 0x4641454c) 356 (.int 10 355),Xe P (Z 0x535449425f47414c46) 358 (.int 10 357),Xe P (Z 0x5347414c46) 363 (.int 1023 362),Xe P (Z 0x53454d414e5f47414c46) 365 (Xx (Z 0x6461677578777276) 364),Xe P (Z 0x535449474944) 367 (Xx (Z 0x66656463626139383736353433323130) 366),Xe P (Z 0x4843544546) 369 (Xx a4n 368),Xe P (Z 0x44414f4c) 371 (Xx E3 370),Xe P (Z 0x45524f5453) 373 (Xx E7 372)]
noncomputable def d1q(P:Params):List Obj:=(d2k P).set 3 (Xd A5 (gv3 P) 31)
noncomputable def tr3(P:Params):BT:=q8 (d1q P)
noncomputable def st3(w:World)(os:OsState):SharedT:=⟨tr3 w.params,106,(boot_heap w.params).life,⟨[]⟩,boot_drawn,374,os⟩
noncomputable def d3o:List Stmt:=(pq.main.body.drop 7).take 17
noncomputable def c4g(P:Params):Obj:=Xd A5 [Xe P a4n 368 (.int 12 315),Xe P E3 370 (.int 13 317),Xe P E7 372 (.int 15 319)] 3
noncomputable def gv4(P:Params):List DictEntry:=gv3 P++[Xe P (Z 0x53544c5541465f45474150) 380 (Xr 106),Xe P (Z 0x53544c5541465f535345434341) 387 (Xr 107)]
noncomputable def d2f(P:Params):List Obj:=(d1q P).set 3 (Xd A5 (gv4 P) 33)++[c4g P,Xd A5 [Xe P a4n 368 (.int 1 295),Xe P E3 370 (.int 5 303),Xe P E7 372 (.int 7 307)] 3]
noncomputable def tr4(P:Params):BT:=q8 (d2f P)
noncomputable def st4(w:World)(os:OsState):SharedT:=⟨tr4 w.params,108,(boot_heap w.params).life,⟨[]⟩,boot_drawn,388,os⟩
noncomputable def b8d:List Stmt:=(pq.main.body.drop 24).take 2
noncomputable def gv5(P:Params):List DictEntry:=gv4 P++[Xe P (Z 0x45444f4d5f52455355) 389 (.int 0 388),Xe P a5a 494 (Xr 182),Xe P a9n 500 (Xr 191),Xe P a81 507 (Xr 198),Xe P a9e 514 (Xr 205),Xe P a9d 525 (Xr 212)]
noncomputable def lv5:List Value:=lv2++[Xi 59,Xi 0,Xr 113,Xi 97,Xi 0,Xr 190,Xi 99,Xi 0,Xr 197,Xi 101,Xi 0,Xr 204,Xi 103,Xi 0,Xr 211]
noncomputable def d2w(P:Params):List Obj:=((d2f P).set 3 (Xd A5 (gv5 P) 39)).set 12 (Xf .none lv5)++[Xa [],Xf S8 [(.builtin PySem.W.SL.s10062305145149207511x16),R4],Xd A5 [Xe P T6 397 (Xx t9 337),Xe P R5 399 (Xx a5a 398),Xe P T7 401 (.int 59 400),Xe P t8 410 (Xr 122),Xe P a8g 419 (Xr 129),Xe P s7 430 (Xr 137),Xe P b7e 438 (Xr 144),Xe P b8t 446 (Xr 151),Xe P b6f 454 (Xr 158),Xe P a6n 463 (Xr 165),Xe P w6 472 (Xr 172),Xe P J7 480 (Xr 179),Xe P U3 487 (Xr 180)] 13,Xa [],Xf .none [Xi 61,Xi 4,Xr 121,Xi 71,Xi 4,Xr 128,Xi 77,Xi 4,Xr 136,Xi 80,Xi 4,Xr 143,Xi 83,Xi 4,Xr 150,Xi 86,Xi 4,Xr 157,Xi 89,Xi 4,Xr 164,Xi 92,Xi 4,Xr 171,Xi 95,Xi 4,Xr 178],Xc a5a 392 a5a 393 c5 394 59 0 0 0 0 111 false 181 112 .none .none .none .none 395 59 c5 396,⟨zt8,none,.plain,⟨[(some (Xr 113)),(some (Xr 3)),(some (Xr 110)),none,(some (Xx t9 337)),none,(some (Xr 0))]⟩⟩,Xa [(.int 12 402)],Xa [],Xf .none [],Xa [Xx k8 406,Xx c5q 407],Xa [],Xh 27 (some 0) t8 b7u,Xc t8 403 b7u 404 c5 405 61 2 0 0 3 116 true 181 117 .none (Xr 118) (Xr 119) (Xr 120) 408 61 c5 409,Xg i8 27 (some 0) t8 b7u (Xr 115) .none (Xx t9 337) (Xr 121) 3,Xa [],Xf .none [],Xa [Xx k8 414,Xx s7 415,Xx c5o 416],Xa [],Xh 27 (some 1) a8g b6v,Xc a8g 411 b6v 412 c5 413 71 2 0 0 3 123 true 181 124 .none (Xr 125) (Xr 126) (Xr 127) 417 71 c5 418,Xg i8 27 (some 1) a8g b6v .none .none (Xx t9 337) (Xr 128) 3,Xa [(.int 0 420)],Xa [],Xf .none [],Xa [Xx k8 424,Xx a7d 425,Xx a6d 426,Xx a10 427],Xa [],Xh 27 (some 2) s7 b78,Xc s7 421 b78 422 c5 423 77 4 0 0 3 131 true 181 132 .none (Xr 133) (Xr 134) (Xr 135) 428 77 c5 429,Xg i8 27 (some 2) s7 b78 (Xr 130) .none (Xx t9 337) (Xr 136) 3,Xa [],Xf .none [],Xa [Xx k8 434,Xx s7 435],Xa [],Xh 27 (some 3) b7e c1h,Xc b7e 431 c1h 432 c5 433 80 2 0 0 3 138 true 181 139 .none (Xr 140) (Xr 141) (Xr 142) 436 80 c5 437,Xg i8 27 (some 3) b7e c1h .none .none (Xx t9 337) (Xr 143) 3,Xa [],Xf .none [],Xa [Xx k8 442,Xx s7 443],Xa [],Xh 27 (some 4) b8t c1a,Xc b8t 439 c1a 440 c5 441 83 2 0 0 3 145 true 181 146 .none (Xr 147) (Xr 148) (Xr 149) 444 83 c5 445,Xg i8 27 (some 4) b8t c1a .none .none (Xx t9 337) (Xr 150) 3,Xa [],Xf .none [],Xa [Xx k8 450,Xx s7 451],Xa [],Xh 27 (some 5) b6f b4i,Xc b6f 447 b4i 448 c5 449 86 2 0 0 3 152 true 181 153 .none (Xr 154) (Xr 155) (Xr 156) 452 86 c5 453,Xg i8 27 (some 5) b6f b4i .none .none (Xx t9 337) (Xr 157) 3,Xa [],Xf .none [],Xa [Xx k8 458,Xx a39 459,Xx a4f 460],Xa [],Xh 27 (some 6) a6n b94,Xc a6n 455 b94 456 c5 457 89 3 0 0 3 159 true 181 160 .none (Xr 161) (Xr 162) (Xr 163) 461 89 c5 462,Xg i8 27 (some 6) a6n b94 .none .none (Xx t9 337) (Xr 164) 3,Xa [],Xf .none [],Xa [Xx k8 467,Xx J7 468,Xx a0s 469],Xa [],Xh 27 (some 7) w6 b6r,Xc w6 464 b6r 465 c5 466 92 3 0 0 3 166 true 181 167 .none (Xr 168) (Xr 169) (Xr 170) 470 92 c5 471,Xg i8 27 (some 7) w6 b6r .none .none (Xx t9 337) (Xr 171) 3,Xa [],Xf .none [],Xa [Xx k8 476,Xx w6 477],Xa [],Xh 27 (some 8) J7 b5z,Xc J7 473 b5z 474 c5 475 95 2 0 0 3 173 true 181 174 .none (Xr 175) (Xr 176) (Xr 177) 478 95 c5 479,Xg i8 27 (some 8) J7 b5z .none .none (Xx t9 337) (Xr 178) 3,Xa [Xx a4f 481,Xx (Z 0x73656972746e65) 482,Xx c6b 483,Xx (Z 0x737469625f6c6576656c) 484,Xx b0s 485,Xx c5q 486],Xd A5 [Xe P T6 397 (Xx t9 337),Xe P T7 401 (.int 59 400),Xe P t8 410 (Xr 122),Xe P a8g 419 (Xr 129),Xe P s7 430 (Xr 137),Xe P b7e 438 (Xr 144),Xe P b8t 446 (Xr 151),Xe P b6f 454 (Xr 158),Xe P a6n 463 (Xr 165),Xe P w6 472 (Xr 172),Xe P J7 480 (Xr 179),Xe P U3 487 (Xr 180),Xe P J9 489 (Xr 183),Xe P E2 491 (Xr 184),Xe P zs5 492 .none] 4,⟨R4,none,(.cls ⟨a5a,[zt6],[Xr 182,zt6],181,a5a,true,[],[],false,none,false⟩),⟨[none,none,(some (Xx a5a 390)),(some (Xx a5a 398)),(some (.builtin PySem.W.SL.s11443829558043349243x14)),(some (.bool true))]⟩⟩,Xf zt7 [Xx J9 488,Xr 182,(.builtin PySem.W.SL.s6511155373996960695x17),(.builtin PySem.W.SL.s12411053484034534018x21)],Xf zt7 [Xx E2 490,Xr 182,(.builtin PySem.W.SL.s10220274742760427390x26),.none],Xf zt9 [Xr 182,Xr 182,Xr 182],Xf S8 [(.builtin PySem.W.SL.s4860613602091757760x24),Xr 182],Xa [],Xf .none [],Xh 28 none a9n a9n,Xc a9n 495 a9n 496 c5 497 97 1 0 0 3 187 true 181 188 .none .none .none (Xr 189) 498 97 c5 499,Xg i8 28 none a9n a9n .none .none (Xx t9 337) (Xr 190) 3,Xa [],Xf .none [],Xa [Xx w6 504],Xa [],Xh 29 none a81 a81,Xc a81 501 a81 502 c5 503 99 1 0 0 3 192 true 181 193 .none (Xr 194) (Xr 195) (Xr 196) 505 99 c5 506,Xg i8 29 none a81 a81 .none .none (Xx t9 337) (Xr 197) 3,Xa [],Xf .none [],Xa [Xx w6 511],Xa [],Xh 30 none a9e a9e,Xc a9e 508 a9e 509 c5 510 101 1 0 0 3 199 true 181 200 .none (Xr 201) (Xr 202) (Xr 203) 512 101 c5 513,Xg i8 30 none a9e a9e .none .none (Xx t9 337) (Xr 204) 3,Xa [],Xf .none [],Xa [Xx w6 518,Xx a3l 519,Xx a4z 520,Xx a5y 521,Xx a5g 522],Xa [],Xh 31 none a9d a9d,Xc a9d 515 a9d 516 c5 517 103 5 0 0 3 206 true 181 207 .none (Xr 208) (Xr 209) (Xr 210) 523 103 c5 524,Xg i8 31 none a9d a9d .none .none (Xx t9 337) (Xr 211) 3]
noncomputable def tr5(P:Params):BT:=q8 (d2w P)
noncomputable def st5(w:World)(os:OsState):SharedT:=⟨tr5 w.params,213,(boot_heap w.params).life,⟨[]⟩,boot_drawn,526,os⟩
noncomputable def d4g:List Stmt:=(pq.main.body.drop 26).take 6
noncomputable def gv6(P:Params):List DictEntry:=gv5 P++[Xe P a6q 627 (Xr 266),Xe P a4k 685 (Xr 302)]
noncomputable def lv6:List Value:=lv5++[Xi 113,Xi 0,Xr 218,Xi 160,Xi 0,Xr 276]
noncomputable def d2j(P:Params):List Obj:=((d2w P).set 3 (Xd A5 (gv6 P) 41)).set 12 (Xf .none lv6)++[Xa [],Xf S8 [(.builtin PySem.W.SL.s10062305145149207511x16),R4],Xd A5 [Xe P T6 533 (Xx t9 337),Xe P R5 535 (Xx a6q 534),Xe P T7 537 (.int 113 536),Xe P t8 546 (Xr 226),Xe P a1j 564 (Xr 234),Xe P a5d 575 (Xr 241),Xe P a5z 590 (Xr 248),Xe P a45 602 (Xr 255),Xe P a7x 617 (Xr 263),Xe P U3 620 (Xr 264)] 10,Xa [],Xf .none [Xi 115,Xi 4,Xr 225,Xi 119,Xi 4,Xr 233,Xi 134,Xi 4,Xr 240,Xi 143,Xi 4,Xr 247,Xi 150,Xi 4,Xr 254,Xi 158,Xi 4,Xr 262],Xc a6q 528 a6q 529 c5 530 113 0 0 0 0 216 false 181 217 .none .none .none .none 531 113 c5 532,⟨zt8,none,.plain,⟨[(some (Xr 218)),(some (Xr 3)),(some (Xr 215)),none,(some (Xx t9 337)),none,(some (Xr 0))]⟩⟩,Xa [],Xf .none [],Xa [Xx k8 541,Xx c5x 542,Xx a5r 543],Xa [],Xh 32 (some 0) t8 c0d,Xc t8 538 c0d 539 c5 540 115 3 0 0 3 220 true 181 221 .none (Xr 222) (Xr 223) (Xr 224) 544 115 c5 545,Xg i8 32 (some 0) t8 c0d .none .none (Xx t9 337) (Xr 225) 3,Xa [(.int 0 547),(.int 0 548)],Xa [],Xf .none [],Xa [Xx k8 552,Xx E4 553,Xx s7 554,Xx a3l 555,Xx a4z 556,Xx a5y 557,Xx a5g 558,Xx a8g 559,Xx V5 560,Xx w6 561],Xa [],Xh 32 (some 1) a1j c0e,Xc a1j 549 c0e 550 c5 551 119 7 0 0 3 228 true 181 229 .none (Xr 230) (Xr 231) (Xr 232) 562 119 c5 563,Xg i8 32 (some 1) a1j c0e (Xr 227) .none (Xx t9 337) (Xr 233) 3,Xa [],Xf .none [],Xa [Xx k8 568,Xx V5 569,Xx s7 570,Xx a3l 571,Xx w6 572],Xa [],Xh 32 (some 2) a5d b7q,Xc a5d 565 b7q 566 c5 567 134 4 0 0 3 235 true 181 236 .none (Xr 237) (Xr 238) (Xr 239) 573 134 c5 574,Xg i8 32 (some 2) a5d b7q .none .none (Xx t9 337) (Xr 240) 3,Xa [],Xf .none [],Xa [Xx k8 579,Xx V5 580,Xx w6 581,Xx s7 582,Xx a3l 583,Xx a4z 584,Xx a5y 585,Xx a5g 586,Xx J7 587],Xa [],Xh 32 (some 3) a5z b7o,Xc a5z 576 b7o 577 c5 578 143 8 0 0 3 242 true 181 243 .none (Xr 244) (Xr 245) (Xr 246) 588 143 c5 589,Xg i8 32 (some 3) a5z b7o .none .none (Xx t9 337) (Xr 247) 3,Xa [],Xf .none [],Xa [Xx k8 594,Xx V5 595,Xx w6 596,Xx s7 597,Xx a3l 598,Xx (Z 0x657564) 599],Xa [],Xh 32 (some 4) a45 c0f,Xc a45 591 c0f 592 c5 593 150 5 0 0 3 249 true 181 250 .none (Xr 251) (Xr 252) (Xr 253) 600 150 c5 601,Xg i8 32 (some 4) a45 c0f .none .none (Xx t9 337) (Xr 254) 3,Xa [(.int 0 603),(.int 0 604)],Xa [],Xf .none [],Xa [Xx k8 608,Xx E4 609,Xx s7 610,Xx a3l 611,Xx a4z 612,Xx a5y 613,Xx a5g 614],Xa [],Xh 32 (some 5) a7x b9a,Xc a7x 605 b9a 606 c5 607 158 7 0 0 3 257 true 181 258 .none (Xr 259) (Xr 260) (Xr 261) 615 158 c5 616,Xg i8 32 (some 5) a7x b9a (Xr 256) .none (Xx t9 337) (Xr 262) 3,Xa [Xx c5x 618,Xx a5r 619],Xd A5 [Xe P T6 533 (Xx t9 337),Xe P T7 537 (.int 113 536),Xe P t8 546 (Xr 226),Xe P a1j 564 (Xr 234),Xe P a5d 575 (Xr 241),Xe P a5z 590 (Xr 248),Xe P a45 602 (Xr 255),Xe P a7x 617 (Xr 263),Xe P U3 620 (Xr 264),Xe P J9 622 (Xr 267),Xe P E2 624 (Xr 268),Xe P zs5 625 .none] 4,⟨R4,none,(.cls ⟨a6q,[zt6],[Xr 266,zt6],265,a6q,true,[],[],false,none,false⟩),⟨[none,none,(some (Xx a6q 526)),(some (Xx a6q 534)),(some (.builtin PySem.W.SL.s11443829558043349243x14)),(some (.bool true))]⟩⟩,Xf zt7 [Xx J9 621,Xr 266,(.builtin PySem.W.SL.s6511155373996960695x17),(.builtin PySem.W.SL.s12411053484034534018x21)],Xf zt7 [Xx E2 623,Xr 266,(.builtin PySem.W.SL.s10220274742760427390x26),.none],Xf zt9 [Xr 266,Xr 266,Xr 266],Xf S8 [(.builtin PySem.W.SL.s4860613602091757760x24),Xr 266],Xa [],Xf S8 [(.builtin PySem.W.SL.s10062305145149207511x16),R4],Xd A5 [Xe P T6 635 (Xx t9 337),Xe P R5 637 (Xx a4k 636),Xe P T7 639 (.int 160 638),Xe P t8 649 (Xr 285),Xe P a1j 667 (Xr 293),Xe P a5w 673 (Xr 299),Xe P U3 678 (Xr 300)] 7,Xa [],Xf .none [Xi 162,Xi 4,Xr 284,Xi 170,Xi 4,Xr 292,Xi 181,Xi 4,Xr 298],Xc a4k 630 a4k 631 c5 632 160 0 0 0 0 274 false 181 275 .none .none .none .none 633 160 c5 634,⟨zt8,none,.plain,⟨[(some (Xr 276)),(some (Xr 3)),(some (Xr 273)),none,(some (Xx t9 337)),none,(some (Xr 0))]⟩⟩,Xa [(.int 16 640)],Xa [],Xf .none [],Xa [Xx k8 644,Xx c5l 645,Xx c5r 646],Xa [],Xh 33 (some 0) t8 b6t,Xc t8 641 b6t 642 c5 643 162 3 0 0 3 279 true 181 280 .none (Xr 281) (Xr 282) (Xr 283) 647 162 c5 648,Xg i8 33 (some 0) t8 b6t (Xr 278) .none (Xx t9 337) (Xr 284) 3,Xa [(.int 0 650),(.int 0 651)],Xa [],Xf .none [],Xa [Xx k8 655,Xx E4 656,Xx s7 657,Xx a3l 658,Xx a4z 659,Xx a5y 660,Xx a5g 661,Xx (Z 0x79656b) 662,Xx a39 663,Xx J7 664],Xa [],Xh 33 (some 1) a1j b8g,Xc a1j 652 b8g 653 c5 654 170 7 0 0 3 287 true 181 288 .none (Xr 289) (Xr 290) (Xr 291) 665 170 c5 666,Xg i8 33 (some 1) a1j b8g (Xr 286) .none (Xx t9 337) (Xr 292) 3,Xa [.none],Xa [],Xf .none [],Xh 33 (some 2) a5w c0a,Xc a5w 668 c0a 669 c5 670 181 2 0 0 3 295 true 181 296 .none .none .none (Xr 297) 671 181 c5 672,Xg i8 33 (some 2) a5w c0a (Xr 294) .none (Xx t9 337) (Xr 298) 3,Xa [Xx (Z 0x6e776f6e6b) 674,Xx a5r 675,Xx c5r 676,Xx c5l 677],Xd A5 [Xe P T6 635 (Xx t9 337),Xe P T7 639 (.int 160 638),Xe P t8 649 (Xr 285),Xe P a1j 667 (Xr 293),Xe P a5w 673 (Xr 299),Xe P U3 678 (Xr 300),Xe P J9 680 (Xr 303),Xe P E2 682 (Xr 304),Xe P zs5 683 .none] 4,⟨R4,none,(.cls ⟨a4k,[zt6],[Xr 302,zt6],301,a4k,true,[],[],false,none,false⟩),⟨[none,none,(some (Xx a4k 628)),(some (Xx a4k 636)),(some (.builtin PySem.W.SL.s11443829558043349243x14)),(some (.bool true))]⟩⟩,Xf zt7 [Xx J9 679,Xr 302,(.builtin PySem.W.SL.s6511155373996960695x17),(.builtin PySem.W.SL.s12411053484034534018x21)],Xf zt7 [Xx E2 681,Xr 302,(.builtin PySem.W.SL.s10220274742760427390x26),.none],Xf zt9 [Xr 302,Xr 302,Xr 302],Xf S8 [(.builtin PySem.W.SL.s4860613602091757760x24),Xr 302]]
noncomputable def tr6(P:Params):BT:=q8 (d2j P)
noncomputable def st6(w:World)(os:OsState):SharedT:=⟨tr6 w.params,307,(boot_heap w.params).life,⟨[]⟩,boot_drawn,686,os⟩
noncomputable def d2p:List Stmt:=(pq.main.body.drop 32).take 2
noncomputable def gv7(P:Params):List DictEntry:=gv6 P++[Xe P a6s 919 (Xr 454)]
noncomputable def lv7:List Value:=lv6++[Xi 187,Xi 0,Xr 312]
noncomputable def d35(P:Params):List Obj:=((d2j P).set 3 (Xd A5 (gv7 P) 42)).set 12 (Xf .none lv7)++[Xa [],Xf S8 [(.builtin PySem.W.SL.s10062305145149207511x16),R4],Xd A5 [Xe P T6 693 (Xx t9 337),Xe P R5 695 (Xx a6s 694),Xe P T7 697 (.int 187 696),Xe P t8 707 (Xr 320),Xe P a77 715 (Xr 327),Xe P a38 724 (Xr 334),Xe P a71 739 (Xr 342),Xe P w6 752 (Xr 349),Xe P J7 765 (Xr 356),Xe P a52 773 (Xr 363),Xe P b5v 784 (Xr 370),Xe P a5c 796 (Xr 377),Xe P a6t 806 (Xr 384),Xe P a7z 817 (Xr 391),Xe P a6o 829 (Xr 399),Xe P a51 842 (Xr 406),Xe P a7t 853 (Xr 413),Xe P a1p 865 (Xr 420),Xe P a58 878 (Xr 427),Xe P a6j 886 (Xr 434),Xe P a4h 892 (Xr 439),Xe P a54 902 (Xr 446),Xe P a6u 908 (Xr 451),Xe P U3 912 (Xr 452)] 24,Xa [],Xf .none [Xi 189,Xi 4,Xr 319,Xi 194,Xi 4,Xr 326,Xi 199,Xi 4,Xr 333,Xi 205,Xi 4,Xr 341,Xi 218,Xi 4,Xr 348,Xi 226,Xi 4,Xr 355,Xi 235,Xi 4,Xr 362,Xi 239,Xi 4,Xr 369,Xi 247,Xi 4,Xr 376,Xi 256,Xi 4,Xr 383,Xi 262,Xi 4,Xr 390,Xi 268,Xi 4,Xr 398,Xi 271,Xi 4,Xr 405,Xi 280,Xi 4,Xr 412,Xi 288,Xi 4,Xr 419,Xi 301,Xi 4,Xr 426,Xi 310,Xi 4,Xr 433,Xi 313,Xi 4,Xr 438,Xi 327,Xi 4,Xr 445,Xi 332,Xi 4,Xr 450],Xc a6s 688 a6s 689 c5 690 187 0 0 0 0 310 false 181 311 .none .none .none .none 691 187 c5 692,⟨zt8,none,.plain,⟨[(some (Xr 312)),(some (Xr 3)),(some (Xr 309)),none,(some (Xx t9 337)),none,(some (Xr 0))]⟩⟩,Xa [],Xf .none [],Xa [Xx k8 701,Xx a2x 702,Xx a5r 703,Xx c6p 704],Xa [],Xh 34 (some 0) t8 b9k,Xc t8 698 b9k 699 c5 700 189 4 0 0 3 314 true 181 315 .none (Xr 316) (Xr 317) (Xr 318) 705 189 c5 706,Xg i8 34 (some 0) t8 b9k .none .none (Xx t9 337) (Xr 319) 3,Xa [],Xf .none [],Xa [Xx k8 711,Xx b0s 712],Xa [],Xh 34 (some 1) a77 b99,Xc a77 708 b99 709 c5 710 194 1 0 0 3 321 true 181 322 .none (Xr 323) (Xr 324) (Xr 325) 713 194 c5 714,Xg i8 34 (some 1) a77 b99 .none .none (Xx t9 337) (Xr 326) 3,Xa [],Xf .none [],Xa [Xx k8 719,Xx s7 720,Xx a8g 721],Xa [],Xh 34 (some 2) a38 b92,Xc a38 716 b92 717 c5 718 199 2 0 0 3 328 true 181 329 .none (Xr 330) (Xr 331) (Xr 332) 722 199 c5 723,Xg i8 34 (some 2) a38 b92 .none .none (Xx t9 337) (Xr 333) 3,Xa [(.bool false)],Xa [],Xf .none [],Xa [Xx k8 728,Xx E4 729,Xx s7 730,Xx (Z 0x656b616d) 731,Xx a7d 732,Xx a6d 733,Xx a10 734,Xx V5 735,Xx w6 736],Xa [],Xh 34 (some 3) a71 b9h,Xc a71 725 b9h 726 c5 727 205 4 0 0 3 336 true 181 337 .none (Xr 338) (Xr 339) (Xr 340) 737 205 c5 738,Xg i8 34 (some 3) a71 b9h (Xr 335) .none (Xx t9 337) (Xr 341) 3,Xa [],Xf .none [],Xa [Xx k8 743,Xx E4 744,Xx s7 745,Xx a7d 746,Xx a6d 747,Xx a10 748,Xx w6 749],Xa [],Xh 34 (some 4) w6 c1d,Xc w6 740 c1d 741 c5 742 218 3 0 0 3 343 true 181 344 .none (Xr 345) (Xr 346) (Xr 347) 750 218 c5 751,Xg i8 34 (some 4) w6 c1d .none .none (Xx t9 337) (Xr 348) 3,Xa [],Xf .none [],Xa [Xx k8 756,Xx E4 757,Xx s7 758,Xx a7d 759,Xx a6d 760,Xx a10 761,Xx w6 762],Xa [],Xh 34 (some 5) J7 b5r,Xc J7 753 b5r 754 c5 755 226 3 0 0 3 350 true 181 351 .none (Xr 352) (Xr 353) (Xr 354) 763 226 c5 764,Xg i8 34 (some 5) J7 b5r .none .none (Xx t9 337) (Xr 355) 3,Xa [],Xf .none [],Xa [Xx k8 769,Xx a0s 770],Xa [],Xh 34 (some 6) a52 b64,Xc a52 766 b64 767 c5 768 235 2 0 0 3 357 true 181 358 .none (Xr 359) (Xr 360) (Xr 361) 771 235 c5 772,Xg i8 34 (some 6) a52 b64 .none .none (Xx t9 337) (Xr 362) 3,Xa [],Xf .none [],Xa [Xx k8 777,Xx E4 778,Xx s7 779,Xx J7 780,Xx a0s 781],Xa [],Xh 34 (some 7) b5v b9r,Xc b5v 774 b9r 775 c5 776 239 5 0 0 3 364 true 181 365 .none (Xr 366) (Xr 367) (Xr 368) 782 239 c5 783,Xg i8 34 (some 7) b5v b9r .none .none (Xx t9 337) (Xr 369) 3,Xa [],Xf .none [],Xa [Xx k8 788,Xx E4 789,Xx s7 790,Xx J7 791,Xx a0s 792,Xx V5 793],Xa [],Xh 34 (some 8) a5c b8f,Xc a5c 785 b8f 786 c5 787 247 5 0 0 3 371 true 181 372 .none (Xr 373) (Xr 374) (Xr 375) 794 247 c5 795,Xg i8 34 (some 8) a5c b8f .none .none (Xx t9 337) (Xr 376) 3,Xa [],Xf .none [],Xa [Xx k8 800,Xx E4 801,Xx s7 802,Xx V5 803],Xa [],Xh 34 (some 9) a6t b8y,Xc a6t 797 b8y 798 c5 799 256 3 0 0 3 378 true 181 379 .none (Xr 380) (Xr 381) (Xr 382) 804 256 c5 805,Xg i8 34 (some 9) a6t b8y .none .none (Xx t9 337) (Xr 383) 3,Xa [],Xf .none [],Xa [Xx k8 810,Xx E4 811,Xx s7 812,Xx V5 813,Xx a11 814],Xa [],Xh 34 (some 10) a7z b5u,Xc a7z 807 b5u 808 c5 809 262 3 0 0 3 385 true 181 386 .none (Xr 387) (Xr 388) (Xr 389) 815 262 c5 816,Xg i8 34 (some 10) a7z b5u .none .none (Xx t9 337) (Xr 390) 3,Xa [(.int 0 818)],Xa [],Xf .none [],Xa [Xx k8 822,Xx E4 823,Xx s7 824,Xx (Z 0x646461) 825,Xx b3b 826],Xa [],Xh 34 (some 11) a6o b6b,Xc a6o 819 b6b 820 c5 821 268 5 0 0 3 393 true 181 394 .none (Xr 395) (Xr 396) (Xr 397) 827 268 c5 828,Xg i8 34 (some 11) a6o b6b (Xr 392) .none (Xx t9 337) (Xr 398) 3,Xa [],Xf .none [],Xa [Xx k8 833,Xx E4 834,Xx s7 835,Xx J7 836,Xx a0s 837,Xx V5 838,Xx a11 839],Xa [],Xh 34 (some 12) a51 c1v,Xc a51 830 c1v 831 c5 832 271 5 0 0 3 400 true 181 401 .none (Xr 402) (Xr 403) (Xr 404) 840 271 c5 841,Xg i8 34 (some 12) a51 c1v .none .none (Xx t9 337) (Xr 405) 3,Xa [],Xf .none [],Xa [Xx k8 846,Xx E4 847,Xx a11 848,Xx a7d 849,Xx w6 850],Xa [],Xh 34 (some 13) a7t b79,Xc a7t 843 b79 844 c5 845 280 2 0 0 3 407 true 181 408 .none (Xr 409) (Xr 410) (Xr 411) 851 280 c5 852,Xg i8 34 (some 13) a7t b79 .none .none (Xx t9 337) (Xr 412) 3,Xa [],Xf .none [],Xa [Xx k8 857,Xx E4 858,Xx a11 859,Xx a7d 860,Xx w6 861,Xx (Z 0x776f72) 862],Xa [],Xh 34 (some 14) a1p b8o,Xc a1p 854 b8o 855 c5 856 288 2 0 0 3 414 true 181 415 .none (Xr 416) (Xr 417) (Xr 418) 863 288 c5 864,Xg i8 34 (some 14) a1p b8o .none .none (Xx t9 337) (Xr 419) 3,Xa [],Xf .none [],Xa [Xx k8 869,Xx b93 870,Xx a7d 871,Xx a11 872,Xx a6d 873,Xx w6 874,Xx s7 875],Xa [],Xh 34 (some 15) a58 b5d,Xc a58 866 b5d 867 c5 868 301 3 0 0 3 421 true 181 422 .none (Xr 423) (Xr 424) (Xr 425) 876 301 c5 877,Xg i8 34 (some 15) a58 b5d .none .none (Xx t9 337) (Xr 426) 3,Xa [],Xf .none [],Xa [Xx k8 882,Xx E4 883],Xa [],Xh 34 (some 16) a6j b4j,Xc a6j 879 b4j 880 c5 881 310 2 0 0 3 428 true 181 429 .none (Xr 430) (Xr 431) (Xr 432) 884 310 c5 885,Xg i8 34 (some 16) a6j b4j .none .none (Xx t9 337) (Xr 433) 3,Xa [],Xf .none [],Xh 34 (some 17) a4h b6c,Xc a4h 887 b6c 888 c5 889 313 2 0 0 3 435 true 181 436 .none .none .none (Xr 437) 890 313 c5 891,Xg i8 34 (some 17) a4h b6c .none .none (Xx t9 337) (Xr 438) 3,Xa [],Xf .none [],Xa [Xx k8 896,Xx E4 897,Xx a7d 898,Xx b93 899],Xa [],Xh 34 (some 18) a54 b6e,Xc a54 893 b6e 894 c5 895 327 2 0 0 3 440 true 181 441 .none (Xr 442) (Xr 443) (Xr 444) 900 327 c5 901,Xg i8 34 (some 18) a54 b6e .none .none (Xx t9 337) (Xr 445) 3,Xa [],Xf .none [],Xh 34 (some 19) a6u c0u,Xc a6u 903 c0u 904 c5 905 332 2 0 0 3 447 true 181 448 .none .none .none (Xr 449) 906 332 c5 907,Xg i8 34 (some 19) a6u c0u .none .none (Xx t9 337) (Xr 450) 3,Xa [Xx a5r 909,Xx a2x 910,Xx c6p 911],Xd A5 [Xe P T6 693 (Xx t9 337),Xe P T7 697 (.int 187 696),Xe P t8 707 (Xr 320),Xe P a77 715 (Xr 327),Xe P a38 724 (Xr 334),Xe P a71 739 (Xr 342),Xe P w6 752 (Xr 349),Xe P J7 765 (Xr 356),Xe P a52 773 (Xr 363),Xe P b5v 784 (Xr 370),Xe P a5c 796 (Xr 377),Xe P a6t 806 (Xr 384),Xe P a7z 817 (Xr 391),Xe P a6o 829 (Xr 399),Xe P a51 842 (Xr 406),Xe P a7t 853 (Xr 413),Xe P a1p 865 (Xr 420),Xe P a58 878 (Xr 427),Xe P a6j 886 (Xr 434),Xe P a4h 892 (Xr 439),Xe P a54 902 (Xr 446),Xe P a6u 908 (Xr 451),Xe P U3 912 (Xr 452),Xe P J9 914 (Xr 455),Xe P E2 916 (Xr 456),Xe P zs5 917 .none] 4,⟨R4,none,(.cls ⟨a6s,[zt6],[Xr 454,zt6],453,a6s,true,[],[],false,none,false⟩),⟨[none,none,(some (Xx a6s 686)),(some (Xx a6s 694)),(some (.builtin PySem.W.SL.s11443829558043349243x14)),(some (.bool true))]⟩⟩,Xf zt7 [Xx J9 913,Xr 454,(.builtin PySem.W.SL.s6511155373996960695x17),(.builtin PySem.W.SL.s12411053484034534018x21)],Xf zt7 [Xx E2 915,Xr 454,(.builtin PySem.W.SL.s10220274742760427390x26),.none],Xf zt9 [Xr 454,Xr 454,Xr 454],Xf S8 [(.builtin PySem.W.SL.s4860613602091757760x24),Xr 454]]
noncomputable def tr7(P:Params):BT:=q8 (d35 P)
noncomputable def st7(w:World)(os:OsState):SharedT:=⟨tr7 w.params,459,(boot_heap w.params).life,⟨[]⟩,boot_drawn,920,os⟩
noncomputable def d2x:List Stmt:=(pq.main.body.drop 34).take 1
noncomputable def gv8(P:Params):List DictEntry:=(gv7 P).set 0 (Xe P c4f 165 (Xx x9 920))++[Xe P (Z 0x44524f57) 923 (.int 4 922),Xe P (Z 0x4b53414d) 929 (.int 4294967295 928),Xe P (Z 0x4543415053) 933 (.int 4294967296 932),Xe P (Z 0x53455a4953) 937 (Xr 459),Xe P a9o 944 (Xr 466),Xe P a9r 952 (Xr 473)]
noncomputable def lv8:List Value:=lv7++[Xi 344,Xi 0,Xr 465,Xi 347,Xi 0,Xr 472]
noncomputable def d31(P:Params):List Obj:=((d35 P).set 3 (Xd A5 (gv8 P) 48)).set 12 (Xf .none lv8)++[Xa [(.int 1 934),(.int 2 935),(.int 4 936)],Xa [],Xf .none [],Xa [Xx y1 941],Xa [],Xh 40 none a9o a9o,Xc a9o 938 a9o 939 c5 940 344 1 0 0 3 460 true 181 461 .none (Xr 462) (Xr 463) (Xr 464) 942 344 c5 943,Xg i8 40 none a9o a9o .none .none (Xx x9 920) (Xr 465) 3,Xa [],Xf .none [],Xa [Xx a39 948,Xx a4f 949],Xa [],Xh 41 none a9r a9r,Xc a9r 945 a9r 946 c5 947 347 2 0 0 3 467 true 181 468 .none (Xr 469) (Xr 470) (Xr 471) 950 347 c5 951,Xg i8 41 none a9r a9r .none .none (Xx x9 920) (Xr 472) 3]
noncomputable def tr8(P:Params):BT:=q8 (d31 P)
noncomputable def st8(w:World)(os:OsState):SharedT:=⟨tr8 w.params,474,(boot_heap w.params).life,⟨[]⟩,boot_drawn,953,os⟩
noncomputable def d1k:List Stmt:=(pq.main.body.drop 35).take 7
noncomputable def gv9(P:Params):List DictEntry:=gv8 P++[Xe P a7o 1193 (Xr 643)]
noncomputable def lv9:List Value:=lv8++[Xi 350,Xi 0,Xr 479]
noncomputable def d30(P:Params):List Obj:=((d31 P).set 3 (Xd A5 (gv9 P) 49)).set 12 (Xf .none lv9)++[Xa [],Xf S8 [(.builtin PySem.W.SL.s10062305145149207511x16),R4],Xd A5 [Xe P T6 960 (Xx x9 920),Xe P R5 962 (Xx a7o 961),Xe P T7 964 (.int 350 963),Xe P t8 974 (Xr 488),Xe P a5k 983 (Xr 495),Xe P a7l 992 (Xr 502),Xe P a5v 1001 (Xr 509),Xe P b3r 1009 (Xr 516),Xe P a7g 1018 (Xr 523),Xe P a4m 1027 (Xr 530),Xe P a63 1035 (Xr 537),Xe P a7w 1044 (Xr 544),Xe P a3r 1052 (Xr 551),Xe P a5n 1061 (Xr 558),Xe P a65 1073 (Xr 565),Xe P a6l 1082 (Xr 572),Xe P a75 1092 (Xr 579),Xe P E3 1106 (Xr 586),Xe P E7 1121 (Xr 593),Xe P a5h 1133 (Xr 600),Xe P a9m 1143 (Xr 607),Xe P a4t 1153 (Xr 614),Xe P a5o 1160 (Xr 621),Xe P a1p 1166 (Xr 626),Xe P a6f 1173 (Xr 633),Xe P a72 1181 (Xr 640),Xe P U3 1186 (Xr 641)] 27,Xa [],Xf .none [Xi 352,Xi 4,Xr 487,Xi 359,Xi 4,Xr 494,Xi 362,Xi 4,Xr 501,Xi 366,Xi 4,Xr 508,Xi 370,Xi 4,Xr 515,Xi 374,Xi 4,Xr 522,Xi 378,Xi 4,Xr 529,Xi 384,Xi 4,Xr 536,Xi 388,Xi 4,Xr 543,Xi 392,Xi 4,Xr 550,Xi 396,Xi 4,Xr 557,Xi 400,Xi 4,Xr 564,Xi 405,Xi 4,Xr 571,Xi 413,Xi 4,Xr 578,Xi 422,Xi 4,Xr 585,Xi 433,Xi 4,Xr 592,Xi 448,Xi 4,Xr 599,Xi 459,Xi 4,Xr 606,Xi 466,Xi 4,Xr 613,Xi 469,Xi 4,Xr 620,Xi 472,Xi 4,Xr 625,Xi 475,Xi 4,Xr 632,Xi 478,Xi 4,Xr 639],Xc a7o 955 a7o 956 c5 957 350 0 0 0 0 477 false 181 478 .none .none .none .none 958 350 c5 959,⟨zt8,none,.plain,⟨[(some (Xr 479)),(some (Xr 3)),(some (Xr 476)),none,(some (Xx x9 920)),none,(some (Xr 0))]⟩⟩,Xa [(.int 0 965)],Xa [],Xf .none [],Xa [Xx k8 969,Xx y1 970,Xx a39 971],Xa [],Xh 42 (some 0) t8 b85,Xc t8 966 b85 967 c5 968 352 3 0 0 3 482 true 181 483 .none (Xr 484) (Xr 485) (Xr 486) 972 352 c5 973,Xg i8 42 (some 0) t8 b85 (Xr 481) .none (Xx x9 920) (Xr 487) 3,Xa [],Xf .none [],Xa [Xx k8 978,Xx s7 979,Xx a1l 980],Xa [],Xh 42 (some 1) a5k b6k,Xc a5k 975 b6k 976 c5 977 359 3 0 0 3 489 true 181 490 .none (Xr 491) (Xr 492) (Xr 493) 981 359 c5 982,Xg i8 42 (some 1) a5k b6k .none .none (Xx x9 920) (Xr 494) 3,Xa [],Xf .none [],Xa [Xx k8 987,Xx s7 988,Xx a1l 989],Xa [],Xh 42 (some 2) a7l b8l,Xc a7l 984 b8l 985 c5 986 362 3 0 0 3 496 true 181 497 .none (Xr 498) (Xr 499) (Xr 500) 990 362 c5 991,Xg i8 42 (some 2) a7l b8l .none .none (Xx x9 920) (Xr 501) 3,Xa [],Xf .none [],Xa [Xx k8 996,Xx s7 997,Xx y1 998],Xa [],Xh 42 (some 3) a5v c1r,Xc a5v 993 c1r 994 c5 995 366 3 0 0 3 503 true 181 504 .none (Xr 505) (Xr 506) (Xr 507) 999 366 c5 1000,Xg i8 42 (some 3) a5v c1r .none .none (Xx x9 920) (Xr 508) 3,Xa [],Xf .none [],Xa [Xx k8 1005,Xx s7 1006],Xa [],Xh 42 (some 4) b3r b8p,Xc b3r 1002 b8p 1003 c5 1004 370 2 0 0 3 510 true 181 511 .none (Xr 512) (Xr 513) (Xr 514) 1007 370 c5 1008,Xg i8 42 (some 4) b3r b8p .none .none (Xx x9 920) (Xr 515) 3,Xa [],Xf .none [],Xa [Xx k8 1013,Xx s7 1014,Xx U8 1015],Xa [],Xh 42 (some 5) a7g b4w,Xc a7g 1010 b4w 1011 c5 1012 374 3 0 0 3 517 true 181 518 .none (Xr 519) (Xr 520) (Xr 521) 1016 374 c5 1017,Xg i8 42 (some 5) a7g b4w .none .none (Xx x9 920) (Xr 522) 3,Xa [],Xf .none [],Xa [Xx k8 1022,Xx b6z 1023,Xx U8 1024],Xa [],Xh 42 (some 6) a4m b7p,Xc a4m 1019 b7p 1020 c5 1021 378 3 0 0 3 524 true 181 525 .none (Xr 526) (Xr 527) (Xr 528) 1025 378 c5 1026,Xg i8 42 (some 6) a4m b7p .none .none (Xx x9 920) (Xr 529) 3,Xa [],Xf .none [],Xa [Xx k8 1031,Xx s7 1032],Xa [],Xh 42 (some 7) a63 c11,Xc a63 1028 c11 1029 c5 1030 384 2 0 0 3 531 true 181 532 .none (Xr 533) (Xr 534) (Xr 535) 1033 384 c5 1034,Xg i8 42 (some 7) a63 c11 .none .none (Xx x9 920) (Xr 536) 3,Xa [],Xf .none [],Xa [Xx k8 1039,Xx s7 1040,Xx U8 1041],Xa [],Xh 42 (some 8) a7w b4t,Xc a7w 1036 b4t 1037 c5 1038 388 3 0 0 3 538 true 181 539 .none (Xr 540) (Xr 541) (Xr 542) 1042 388 c5 1043,Xg i8 42 (some 8) a7w b4t .none .none (Xx x9 920) (Xr 543) 3,Xa [],Xf .none [],Xa [Xx k8 1048,Xx s7 1049],Xa [],Xh 42 (some 9) a3r b6m,Xc a3r 1045 b6m 1046 c5 1047 392 2 0 0 3 545 true 181 546 .none (Xr 547) (Xr 548) (Xr 549) 1050 392 c5 1051,Xg i8 42 (some 9) a3r b6m .none .none (Xx x9 920) (Xr 550) 3,Xa [],Xf .none [],Xa [Xx k8 1056,Xx s7 1057,Xx U8 1058],Xa [],Xh 42 (some 10) a5n c1p,Xc a5n 1053 c1p 1054 c5 1055 396 3 0 0 3 552 true 181 553 .none (Xr 554) (Xr 555) (Xr 556) 1059 396 c5 1060,Xg i8 42 (some 10) a5n c1p .none .none (Xx x9 920) (Xr 557) 3,Xa [],Xf .none [],Xa [Xx k8 1065,Xx s7 1066,Xx (Z 0x73656e6f) 1067,Xx U8 1068,Xx (Z 0x7466696873) 1069,Xx (Z 0x646c6f) 1070],Xa [],Xh 42 (some 11) a65 b9g,Xc a65 1062 b9g 1063 c5 1064 400 4 0 0 3 559 true 181 560 .none (Xr 561) (Xr 562) (Xr 563) 1071 400 c5 1072,Xg i8 42 (some 11) a65 b9g .none .none (Xx x9 920) (Xr 564) 3,Xa [],Xf .none [],Xa [Xx k8 1077,Xx s7 1078,Xx y1 1079],Xa [],Xh 42 (some 12) a6l b9c,Xc a6l 1074 b9c 1075 c5 1076 405 3 0 0 3 566 true 181 567 .none (Xr 568) (Xr 569) (Xr 570) 1080 405 c5 1081,Xg i8 42 (some 12) a6l b9c .none .none (Xx x9 920) (Xr 571) 3,Xa [],Xf .none [],Xa [Xx k8 1086,Xx s7 1087,Xx y1 1088,Xx U8 1089],Xa [],Xh 42 (some 13) a75 b62,Xc a75 1083 b62 1084 c5 1085 413 4 0 0 3 573 true 181 574 .none (Xr 575) (Xr 576) (Xr 577) 1090 413 c5 1091,Xg i8 42 (some 13) a75 b62 .none .none (Xx x9 920) (Xr 578) 3,Xa [],Xf .none [],Xa [Xx k8 1096,Xx s7 1097,Xx a1l 1098,Xx a11 1099,Xx V5 1100,Xx a4f 1101,Xx b3r 1102,Xx (Z 0x6e727574) 1103],Xa [],Xh 42 (some 14) E3 b6w,Xc E3 1093 b6w 1094 c5 1095 422 3 0 0 3 580 true 181 581 .none (Xr 582) (Xr 583) (Xr 584) 1104 422 c5 1105,Xg i8 42 (some 14) E3 b6w .none .none (Xx x9 920) (Xr 585) 3,Xa [],Xf .none [],Xa [Xx k8 1110,Xx s7 1111,Xx b6d 1112,Xx V5 1113,Xx (S [97,116]) 1114,Xx a4f 1115,Xx y1 1116,Xx U8 1117,Xx a3r 1118],Xa [],Xh 42 (some 15) E7 b5h,Xc E7 1107 b5h 1108 c5 1109 433 3 0 0 3 587 true 181 588 .none (Xr 589) (Xr 590) (Xr 591) 1119 433 c5 1120,Xg i8 42 (some 15) E7 b5h .none .none (Xx x9 920) (Xr 592) 3,Xa [],Xf .none [],Xa [Xx k8 1125,Xx s7 1126,Xx a1l 1127,Xx V5 1128,Xx a4f 1129,Xx y1 1130],Xa [],Xh 42 (some 16) a5h b6h,Xc a5h 1122 b6h 1123 c5 1124 448 3 0 0 3 594 true 181 595 .none (Xr 596) (Xr 597) (Xr 598) 1131 448 c5 1132,Xg i8 42 (some 16) a5h b6h .none .none (Xx x9 920) (Xr 599) 3,Xa [],Xf .none [],Xa [Xx k8 1137,Xx s7 1138,Xx a1l 1139,Xx a3r 1140],Xa [],Xh 42 (some 17) a9m b9s,Xc a9m 1134 b9s 1135 c5 1136 459 4 0 0 3 601 true 181 602 .none (Xr 603) (Xr 604) (Xr 605) 1141 459 c5 1142,Xg i8 42 (some 17) a9m b9s .none .none (Xx x9 920) (Xr 606) 3,Xa [],Xf .none [],Xa [Xx k8 1147,Xx (Z 0x656372756f73) 1148,Xx (Z 0x746567726174) 1149,Xx a1l 1150],Xa [],Xh 42 (some 18) a4t c1j,Xc a4t 1144 c1j 1145 c5 1146 466 4 0 0 3 608 true 181 609 .none (Xr 610) (Xr 611) (Xr 612) 1151 466 c5 1152,Xg i8 42 (some 18) a4t c1j .none .none (Xx x9 920) (Xr 613) 3,Xa [],Xf .none [],Xa [Xx k8 1157],Xa [],Xh 42 (some 19) a5o c0g,Xc a5o 1154 c0g 1155 c5 1156 469 1 0 0 3 615 true 181 616 .none (Xr 617) (Xr 618) (Xr 619) 1158 469 c5 1159,Xg i8 42 (some 19) a5o c0g .none .none (Xx x9 920) (Xr 620) 3,Xa [],Xf .none [],Xh 42 (some 20) a1p c0i,Xc a1p 1161 c0i 1162 c5 1163 472 1 0 0 3 622 true 181 623 .none .none .none (Xr 624) 1164 472 c5 1165,Xg i8 42 (some 20) a1p c0i .none .none (Xx x9 920) (Xr 625) 3,Xa [],Xf .none [],Xa [Xx k8 1170],Xa [],Xh 42 (some 21) a6f b8j,Xc a6f 1167 b8j 1168 c5 1169 475 1 0 0 3 627 true 181 628 .none (Xr 629) (Xr 630) (Xr 631) 1171 475 c5 1172,Xg i8 42 (some 21) a6f b8j .none .none (Xx x9 920) (Xr 632) 3,Xa [],Xf .none [],Xa [Xx k8 1177,Xx (Z 0x726568746f) 1178],Xa [],Xh 42 (some 22) a72 c0w,Xc a72 1174 c0w 1175 c5 1176 478 2 0 0 3 634 true 181 635 .none (Xr 636) (Xr 637) (Xr 638) 1179 478 c5 1180,Xg i8 42 (some 22) a72 c0w .none .none (Xx x9 920) (Xr 639) 3,Xa [Xx a39 1182,Xx a4f 1183,Xx y1 1184,Xx (Z 0x7364726f77) 1185],Xd A5 [Xe P T6 960 (Xx x9 920),Xe P T7 964 (.int 350 963),Xe P t8 974 (Xr 488),Xe P a5k 983 (Xr 495),Xe P a7l 992 (Xr 502),Xe P a5v 1001 (Xr 509),Xe P b3r 1009 (Xr 516),Xe P a7g 1018 (Xr 523),Xe P a4m 1027 (Xr 530),Xe P a63 1035 (Xr 537),Xe P a7w 1044 (Xr 544),Xe P a3r 1052 (Xr 551),Xe P a5n 1061 (Xr 558),Xe P a65 1073 (Xr 565),Xe P a6l 1082 (Xr 572),Xe P a75 1092 (Xr 579),Xe P E3 1106 (Xr 586),Xe P E7 1121 (Xr 593),Xe P a5h 1133 (Xr 600),Xe P a9m 1143 (Xr 607),Xe P a4t 1153 (Xr 614),Xe P a5o 1160 (Xr 621),Xe P a1p 1166 (Xr 626),Xe P a6f 1173 (Xr 633),Xe P a72 1181 (Xr 640),Xe P U3 1186 (Xr 641),Xe P J9 1188 (Xr 644),Xe P E2 1190 (Xr 645),Xe P zs5 1191 .none] 4,⟨R4,none,(.cls ⟨a7o,[zt6],[Xr 643,zt6],642,a7o,true,[],[],false,none,false⟩),⟨[none,none,(some (Xx a7o 953)),(some (Xx a7o 961)),(some (.builtin PySem.W.SL.s11443829558043349243x14)),(some (.bool true))]⟩⟩,Xf zt7 [Xx J9 1187,Xr 643,(.builtin PySem.W.SL.s6511155373996960695x17),(.builtin PySem.W.SL.s12411053484034534018x21)],Xf zt7 [Xx E2 1189,Xr 643,(.builtin PySem.W.SL.s10220274742760427390x26),.none],Xf zt9 [Xr 643,Xr 643,Xr 643],Xf S8 [(.builtin PySem.W.SL.s4860613602091757760x24),Xr 643]]
noncomputable def tr9(P:Params):BT:=q8 (d30 P)
noncomputable def st9(w:World)(os:OsState):SharedT:=⟨tr9 w.params,648,(boot_heap w.params).life,⟨[]⟩,boot_drawn,1194,os⟩
noncomputable def d4j:List Stmt:=(pq.main.body.drop 42).take 1
noncomputable def d1t(P:Params):List DictEntry:=gv9 P++[Xe P a7m 1250 (Xr 685),Xe P a69 1346 (Xr 750)]
noncomputable def d2c:List Value:=lv9++[Xi 480,Xi 0,Xr 653,Xi 496,Xi 0,Xr 695]
noncomputable def c5f(P:Params):List Obj:=((d30 P).set 3 (Xd A5 (d1t P) 51)).set 12 (Xf .none d2c)++[Xa [],Xf S8 [(.builtin PySem.W.SL.s10062305145149207511x16),R4],Xd A5 [Xe P T6 1201 (Xx x9 920),Xe P R5 1203 (Xx a7m 1202),Xe P T7 1205 (.int 480 1204),Xe P t8 1213 (Xr 661),Xe P y1 1220 (Xr 668),Xe P E3 1231 (Xr 675),Xe P E7 1241 (Xr 682),Xe P U3 1243 (Xr 683)] 8,Xa [],Xf .none [Xi 482,Xi 4,Xr 660,Xi 485,Xi 4,Xr 667,Xi 488,Xi 4,Xr 674,Xi 494,Xi 4,Xr 681],Xc a7m 1196 a7m 1197 c5 1198 480 0 0 0 0 651 false 181 652 .none .none .none .none 1199 480 c5 1200,⟨zt8,none,.plain,⟨[(some (Xr 653)),(some (Xr 3)),(some (Xr 650)),none,(some (Xx x9 920)),none,(some (Xr 0))]⟩⟩,Xa [],Xf .none [],Xa [Xx k8 1209,Xx b6d 1210],Xa [],Xh 43 (some 0) t8 b7h,Xc t8 1206 b7h 1207 c5 1208 482 2 0 0 3 655 true 181 656 .none (Xr 657) (Xr 658) (Xr 659) 1211 482 c5 1212,Xg i8 43 (some 0) t8 b7h .none .none (Xx x9 920) (Xr 660) 3,Xa [],Xf .none [],Xa [Xx k8 1217],Xa [],Xh 43 (some 1) y1 b9e,Xc y1 1214 b9e 1215 c5 1216 485 1 0 0 3 662 true 181 663 .none (Xr 664) (Xr 665) (Xr 666) 1218 485 c5 1219,Xg i8 43 (some 1) y1 b9e .none .none (Xx x9 920) (Xr 667) 3,Xa [],Xf .none [],Xa [Xx k8 1224,Xx a10 1225,Xx y1 1226,Xx U8 1227,Xx a3r 1228],Xa [],Xh 43 (some 2) E3 b97,Xc E3 1221 b97 1222 c5 1223 488 3 0 0 3 669 true 181 670 .none (Xr 671) (Xr 672) (Xr 673) 1229 488 c5 1230,Xg i8 43 (some 2) E3 b97 .none .none (Xx x9 920) (Xr 674) 3,Xa [],Xf .none [],Xa [Xx k8 1235,Xx a10 1236,Xx y1 1237,Xx U8 1238],Xa [],Xh 43 (some 3) E7 b8a,Xc E7 1232 b8a 1233 c5 1234 494 4 0 0 3 676 true 181 677 .none (Xr 678) (Xr 679) (Xr 680) 1239 494 c5 1240,Xg i8 43 (some 3) E7 b8a .none .none (Xx x9 920) (Xr 681) 3,Xa [Xx b6d 1242],Xd A5 [Xe P T6 1201 (Xx x9 920),Xe P T7 1205 (.int 480 1204),Xe P t8 1213 (Xr 661),Xe P y1 1220 (Xr 668),Xe P E3 1231 (Xr 675),Xe P E7 1241 (Xr 682),Xe P U3 1243 (Xr 683),Xe P J9 1245 (Xr 686),Xe P E2 1247 (Xr 687),Xe P zs5 1248 .none] 4,⟨R4,none,(.cls ⟨a7m,[zt6],[Xr 685,zt6],684,a7m,true,[],[],false,none,false⟩),⟨[none,none,(some (Xx a7m 1194)),(some (Xx a7m 1202)),(some (.builtin PySem.W.SL.s11443829558043349243x14)),(some (.bool true))]⟩⟩,Xf zt7 [Xx J9 1244,Xr 685,(.builtin PySem.W.SL.s6511155373996960695x17),(.builtin PySem.W.SL.s12411053484034534018x21)],Xf zt7 [Xx E2 1246,Xr 685,(.builtin PySem.W.SL.s10220274742760427390x26),.none],Xf zt9 [Xr 685,Xr 685,Xr 685],Xf S8 [(.builtin PySem.W.SL.s4860613602091757760x24),Xr 685],Xa [],Xf S8 [(.builtin PySem.W.SL.s10062305145149207511x16),R4],Xd A5 [Xe P T6 1258 (Xx x9 920),Xe P R5 1260 (Xx a69 1259),Xe P T7 1262 (.int 496 1261),Xe P t8 1270 (Xr 703),Xe P a5q 1280 (Xr 710),Xe P a5j 1290 (Xr 717),Xe P E3 1303 (Xr 725),Xe P E7 1317 (Xr 733),Xe P a4n 1327 (Xr 740),Xe P a4y 1336 (Xr 747),Xe P U3 1339 (Xr 748)] 11,Xa [],Xf .none [Xi 498,Xi 4,Xr 702,Xi 502,Xi 4,Xr 709,Xi 505,Xi 4,Xr 716,Xi 511,Xi 4,Xr 724,Xi 526,Xi 4,Xr 732,Xi 542,Xi 4,Xr 739,Xi 553,Xi 4,Xr 746],Xc a69 1253 a69 1254 c5 1255 496 0 0 0 0 693 false 181 694 .none .none .none .none 1256 496 c5 1257,⟨zt8,none,.plain,⟨[(some (Xr 695)),(some (Xr 3)),(some (Xr 692)),none,(some (Xx x9 920)),none,(some (Xr 0))]⟩⟩,Xa [],Xf .none [],Xa [Xx k8 1266,Xx a2x 1267],Xa [],Xh 44 (some 0) t8 b8z,Xc t8 1263 b8z 1264 c5 1265 498 2 0 0 3 697 true 181 698 .none (Xr 699) (Xr 700) (Xr 701) 1268 498 c5 1269,Xg i8 44 (some 0) t8 b8z .none .none (Xx x9 920) (Xr 702) 3,Xa [],Xf .none [],Xa [Xx k8 1274,Xx a39 1275,Xx a4f 1276,Xx (Z 0x656369766564) 1277],Xa [],Xh 44 (some 1) a5q b8e,Xc a5q 1271 b8e 1272 c5 1273 502 4 0 0 3 704 true 181 705 .none (Xr 706) (Xr 707) (Xr 708) 1278 502 c5 1279,Xg i8 44 (some 1) a5q b8e .none .none (Xx x9 920) (Xr 709) 3,Xa [],Xf .none [],Xa [Xx k8 1284,Xx s7 1285,Xx y1 1286,Xx b0d 1287],Xa [],Xh 44 (some 2) a5j b9b,Xc a5j 1281 b9b 1282 c5 1283 505 3 0 0 3 711 true 181 712 .none (Xr 713) (Xr 714) (Xr 715) 1288 505 c5 1289,Xg i8 44 (some 2) a5j b9b .none .none (Xx x9 920) (Xr 716) 3,Xa [(.int 5 303)],Xa [],Xf .none [],Xa [Xx k8 1295,Xx s7 1296,Xx y1 1297,Xx b0l 1298,Xx a2x 1299,Xx b0d 1300],Xa [],Xh 44 (some 3) E3 b7g,Xc E3 1292 b7g 1293 c5 1294 511 4 0 0 3 719 true 181 720 .none (Xr 721) (Xr 722) (Xr 723) 1301 511 c5 1302,Xg i8 44 (some 3) E3 b7g (Xr 718) .none (Xx x9 920) (Xr 724) 3,Xa [(.int 7 307)],Xa [],Xf .none [],Xa [Xx k8 1308,Xx s7 1309,Xx y1 1310,Xx U8 1311,Xx b0l 1312,Xx a2x 1313,Xx b0d 1314],Xa [],Xh 44 (some 4) E7 b9p,Xc E7 1305 b9p 1306 c5 1307 526 5 0 0 3 727 true 181 728 .none (Xr 729) (Xr 730) (Xr 731) 1315 526 c5 1316,Xg i8 44 (some 4) E7 b9p (Xr 726) .none (Xx x9 920) (Xr 732) 3,Xa [],Xf .none [],Xa [Xx k8 1321,Xx s7 1322,Xx a2x 1323,Xx b0d 1324],Xa [],Xh 44 (some 5) a4n c1q,Xc a4n 1318 c1q 1319 c5 1320 542 2 0 0 3 734 true 181 735 .none (Xr 736) (Xr 737) (Xr 738) 1325 542 c5 1326,Xg i8 44 (some 5) a4n c1q .none .none (Xx x9 920) (Xr 739) 3,Xa [],Xf .none [],Xa [Xx k8 1331,Xx s7 1332,Xx y1 1333],Xa [],Xh 44 (some 6) a4y b58,Xc a4y 1328 b58 1329 c5 1330 553 3 0 0 3 741 true 181 742 .none (Xr 743) (Xr 744) (Xr 745) 1334 553 c5 1335,Xg i8 44 (some 6) a4y b58 .none .none (Xx x9 920) (Xr 746) 3,Xa [Xx a2x 1337,Xx (Z 0x736568637465727473) 1338],Xd A5 [Xe P T6 1258 (Xx x9 920),Xe P T7 1262 (.int 496 1261),Xe P t8 1270 (Xr 703),Xe P a5q 1280 (Xr 710),Xe P a5j 1290 (Xr 717),Xe P E3 1303 (Xr 725),Xe P E7 1317 (Xr 733),Xe P a4n 1327 (Xr 740),Xe P a4y 1336 (Xr 747),Xe P U3 1339 (Xr 748),Xe P J9 1341 (Xr 751),Xe P E2 1343 (Xr 752),Xe P zs5 1344 .none] 4,⟨R4,none,(.cls ⟨a69,[zt6],[Xr 750,zt6],749,a69,true,[],[],false,none,false⟩),⟨[none,none,(some (Xx a69 1251)),(some (Xx a69 1259)),(some (.builtin PySem.W.SL.s11443829558043349243x14)),(some (.bool true))]⟩⟩,Xf zt7 [Xx J9 1340,Xr 750,(.builtin PySem.W.SL.s6511155373996960695x17),(.builtin PySem.W.SL.s12411053484034534018x21)],Xf zt7 [Xx E2 1342,Xr 750,(.builtin PySem.W.SL.s10220274742760427390x26),.none],Xf zt9 [Xr 750,Xr 750,Xr 750],Xf S8 [(.builtin PySem.W.SL.s4860613602091757760x24),Xr 750]]
noncomputable def tr10(P:Params):BT:=q8 (c5f P)
noncomputable def d3n(w:World)(os:OsState):SharedT:=⟨tr10 w.params,755,(boot_heap w.params).life,⟨[]⟩,boot_drawn,1347,os⟩
noncomputable def c6d:List Stmt:=(pq.main.body.drop 43).take 2
noncomputable def d3b(P:Params):List DictEntry:=(d1t P).set 0 (Xe P c4f 165 (Xx a2g 1506))++[Xe P (Z 0x4e454b4154) 1350 (.int 5 1349),Xe P (Z 0x4445455246) 1352 (.int 1 1351),Xe P a73 1505 (Xr 870)]
noncomputable def d39:List Value:=d2c++[Xi 558,Xi 0,Xr 760]
noncomputable def c6o(P:Params):List Obj:=((c5f P).set 3 (Xd A5 (d3b P) 54)).set 12 (Xf .none d39)++[Xa [],Xf S8 [(.builtin PySem.W.SL.s10062305145149207511x16),R4],Xd A5 [Xe P T6 1360 (Xx E5 1347),Xe P R5 1362 (Xx a73 1361),Xe P T7 1364 (.int 558 1363),Xe P t8 1376 (Xr 769),Xe P a49 1384 (Xr 776),Xe P a4d 1394 (Xr 783),Xe P a6m 1402 (Xr 790),Xe P a4r 1410 (Xr 797),Xe P a5t 1417 (Xr 804),Xe P a35 1425 (Xr 811),Xe P a7j 1434 (Xr 818),Xe P b3b 1442 (Xr 825),Xe P a7h 1449 (Xr 832),Xe P a7i 1457 (Xr 839),Xe P a5x 1465 (Xr 846),Xe P a5b 1473 (Xr 853),Xe P a8u 1482 (Xr 860),Xe P a50 1489 (Xr 867),Xe P U3 1498 (Xr 868)] 19,Xa [],Xf .none [Xi 560,Xi 4,Xr 768,Xi 572,Xi 4,Xr 775,Xi 575,Xi 4,Xr 782,Xi 579,Xi 4,Xr 789,Xi 584,Xi 4,Xr 796,Xi 588,Xi 4,Xr 803,Xi 591,Xi 4,Xr 810,Xi 595,Xi 4,Xr 817,Xi 599,Xi 4,Xr 824,Xi 610,Xi 4,Xr 831,Xi 613,Xi 4,Xr 838,Xi 616,Xi 4,Xr 845,Xi 619,Xi 4,Xr 852,Xi 629,Xi 4,Xr 859,Xi 638,Xi 4,Xr 866],Xc a73 1355 a73 1356 c5 1357 558 0 0 0 0 758 false 181 759 .none .none .none .none 1358 558 c5 1359,⟨zt8,none,.plain,⟨[(some (Xr 760)),(some (Xr 3)),(some (Xr 757)),none,(some (Xx E5 1347)),none,(some (Xr 0))]⟩⟩,Xa [(.bool true)],Xa [],Xf .none [],Xa [Xx k8 1368,Xx a2x 1369,Xx a39 1370,Xx a1l 1371,Xx y1 1372,Xx a9m 1373],Xa [],Xh 48 (some 0) t8 b9i,Xc t8 1365 b9i 1366 c5 1367 560 6 0 0 3 763 true 181 764 .none (Xr 765) (Xr 766) (Xr 767) 1374 560 c5 1375,Xg i8 48 (some 0) t8 b9i (Xr 762) .none (Xx E5 1347) (Xr 768) 3,Xa [],Xf .none [],Xa [Xx k8 1380,Xx b6z 1381],Xa [],Xh 48 (some 1) a49 b57,Xc a49 1377 b57 1378 c5 1379 572 2 0 0 3 770 true 181 771 .none (Xr 772) (Xr 773) (Xr 774) 1382 572 c5 1383,Xg i8 48 (some 1) a49 b57 .none .none (Xx E5 1347) (Xr 775) 3,Xa [],Xf .none [],Xa [Xx k8 1388,Xx s7 1389,Xx b6z 1390,Xx (Z 0x656469736e69) 1391],Xa [],Xh 48 (some 2) a4d c0c,Xc a4d 1385 c0c 1386 c5 1387 575 2 0 0 3 777 true 181 778 .none (Xr 779) (Xr 780) (Xr 781) 1392 575 c5 1393,Xg i8 48 (some 2) a4d c0c .none .none (Xx E5 1347) (Xr 782) 3,Xa [],Xf .none [],Xa [Xx k8 1398,Xx s7 1399],Xa [],Xh 48 (some 3) a6m c0h,Xc a6m 1395 c0h 1396 c5 1397 579 2 0 0 3 784 true 181 785 .none (Xr 786) (Xr 787) (Xr 788) 1400 579 c5 1401,Xg i8 48 (some 3) a6m c0h .none .none (Xx E5 1347) (Xr 789) 3,Xa [],Xf .none [],Xa [Xx k8 1406,Xx s7 1407],Xa [],Xh 48 (some 4) a4r b9m,Xc a4r 1403 b9m 1404 c5 1405 584 2 0 0 3 791 true 181 792 .none (Xr 793) (Xr 794) (Xr 795) 1408 584 c5 1409,Xg i8 48 (some 4) a4r b9m .none .none (Xx E5 1347) (Xr 796) 3,Xa [],Xf .none [],Xa [Xx k8 1414],Xa [],Xh 48 (some 5) a5t b9l,Xc a5t 1411 b9l 1412 c5 1413 588 1 0 0 3 798 true 181 799 .none (Xr 800) (Xr 801) (Xr 802) 1415 588 c5 1416,Xg i8 48 (some 5) a5t b9l .none .none (Xx E5 1347) (Xr 803) 3,Xa [],Xf .none [],Xa [Xx k8 1421,Xx a1l 1422],Xa [],Xh 48 (some 6) a35 b5t,Xc a35 1418 b5t 1419 c5 1420 591 2 0 0 3 805 true 181 806 .none (Xr 807) (Xr 808) (Xr 809) 1423 591 c5 1424,Xg i8 48 (some 6) a35 b5t .none .none (Xx E5 1347) (Xr 810) 3,Xa [],Xf .none [],Xa [Xx k8 1429,Xx s7 1430,Xx a3r 1431],Xa [],Xh 48 (some 7) a7j c00,Xc a7j 1426 c00 1427 c5 1428 595 3 0 0 3 812 true 181 813 .none (Xr 814) (Xr 815) (Xr 816) 1432 595 c5 1433,Xg i8 48 (some 7) a7j c00 .none .none (Xx E5 1347) (Xr 817) 3,Xa [],Xf .none [],Xa [Xx k8 1438,Xx s7 1439],Xa [],Xh 48 (some 8) b3b b71,Xc b3b 1435 b71 1436 c5 1437 599 1 0 0 3 819 true 181 820 .none (Xr 821) (Xr 822) (Xr 823) 1440 599 c5 1441,Xg i8 48 (some 8) b3b b71 .none .none (Xx E5 1347) (Xr 824) 3,Xa [],Xf .none [],Xa [Xx k8 1446],Xa [],Xh 48 (some 9) a7h b8s,Xc a7h 1443 b8s 1444 c5 1445 610 1 0 0 3 826 true 181 827 .none (Xr 828) (Xr 829) (Xr 830) 1447 610 c5 1448,Xg i8 48 (some 9) a7h b8s .none .none (Xx E5 1347) (Xr 831) 3,Xa [],Xf .none [],Xa [Xx k8 1453,Xx a1l 1454],Xa [],Xh 48 (some 10) a7i b7v,Xc a7i 1450 b7v 1451 c5 1452 613 2 0 0 3 833 true 181 834 .none (Xr 835) (Xr 836) (Xr 837) 1455 613 c5 1456,Xg i8 48 (some 10) a7i b7v .none .none (Xx E5 1347) (Xr 838) 3,Xa [],Xf .none [],Xa [Xx k8 1461,Xx s7 1462],Xa [],Xh 48 (some 11) a5x c0n,Xc a5x 1458 c0n 1459 c5 1460 616 2 0 0 3 840 true 181 841 .none (Xr 842) (Xr 843) (Xr 844) 1463 616 c5 1464,Xg i8 48 (some 11) a5x c0n .none .none (Xx E5 1347) (Xr 845) 3,Xa [],Xf .none [],Xa [Xx k8 1469,Xx s7 1470],Xa [],Xh 48 (some 12) a5b b5p,Xc a5b 1466 b5p 1467 c5 1468 619 2 0 0 3 847 true 181 848 .none (Xr 849) (Xr 850) (Xr 851) 1471 619 c5 1472,Xg i8 48 (some 12) a5b b5p .none .none (Xx E5 1347) (Xr 852) 3,Xa [],Xf .none [],Xa [Xx k8 1477,Xx s7 1478,Xx (Z 0x6873657266) 1479],Xa [],Xh 48 (some 13) a8u b7z,Xc a8u 1474 b7z 1475 c5 1476 629 2 0 0 3 854 true 181 855 .none (Xr 856) (Xr 857) (Xr 858) 1480 629 c5 1481,Xg i8 48 (some 13) a8u b7z .none .none (Xx E5 1347) (Xr 859) 3,Xa [],Xf .none [],Xa [Xx k8 1486],Xa [],Xh 48 (some 14) a50 b4x,Xc a50 1483 b4x 1484 c5 1485 638 1 0 0 3 861 true 181 862 .none (Xr 863) (Xr 864) (Xr 865) 1487 638 c5 1488,Xg i8 48 (some 14) a50 b4x .none .none (Xx E5 1347) (Xr 866) 3,Xa [Xx a39 1490,Xx a1l 1491,Xx a9m 1492,Xx (Z 0x6e65766967) 1493,Xx (Z 0x646c6568) 1494,Xx a2x 1495,Xx y1 1496,Xx (Z 0x64656863756f746e75) 1497],Xd A5 [Xe P T6 1360 (Xx E5 1347),Xe P T7 1364 (.int 558 1363),Xe P t8 1376 (Xr 769),Xe P a49 1384 (Xr 776),Xe P a4d 1394 (Xr 783),Xe P a6m 1402 (Xr 790),Xe P a4r 1410 (Xr 797),Xe P a5t 1417 (Xr 804),Xe P a35 1425 (Xr 811),Xe P a7j 1434 (Xr 818),Xe P b3b 1442 (Xr 825),Xe P a7h 1449 (Xr 832),Xe P a7i 1457 (Xr 839),Xe P a5x 1465 (Xr 846),Xe P a5b 1473 (Xr 853),Xe P a8u 1482 (Xr 860),Xe P a50 1489 (Xr 867),Xe P U3 1498 (Xr 868),Xe P J9 1500 (Xr 871),Xe P E2 1502 (Xr 872),Xe P zs5 1503 .none] 4,⟨R4,none,(.cls ⟨a73,[zt6],[Xr 870,zt6],869,a73,true,[],[],false,none,false⟩),⟨[none,none,(some (Xx a73 1353)),(some (Xx a73 1361)),(some (.builtin PySem.W.SL.s11443829558043349243x14)),(some (.bool true))]⟩⟩,Xf zt7 [Xx J9 1499,Xr 870,(.builtin PySem.W.SL.s6511155373996960695x17),(.builtin PySem.W.SL.s12411053484034534018x21)],Xf zt7 [Xx E2 1501,Xr 870,(.builtin PySem.W.SL.s10220274742760427390x26),.none],Xf zt9 [Xr 870,Xr 870,Xr 870],Xf S8 [(.builtin PySem.W.SL.s4860613602091757760x24),Xr 870]]
noncomputable def tr11(P:Params):BT:=q8 (c6o P)
noncomputable def d2s(w:World)(os:OsState):SharedT:=⟨tr11 w.params,875,(boot_heap w.params).life,⟨[]⟩,boot_drawn,1508,os⟩
noncomputable def c5e:List Stmt:=(pq.main.body.drop 45).take 5
noncomputable def gv12(P:Params):List DictEntry:=d3b P++[Xe P a83 1520 (Xr 881),Xe P a9i 1531 (Xr 888),Xe P a89 1547 (Xr 895),Xe P a9b 1553 (Xr 900),Xe P a8y 1559 (Xr 905)]
noncomputable def c1b(P:Params):Obj:=Xd A5 (gv12 P) 59
noncomputable def lv12:List Value:=d39++[Xi 641,Xi 0,Xr 880,Xi 647,Xi 0,Xr 887,Xi 652,Xi 0,Xr 894,Xi 677,Xi 0,Xr 899,Xi 692,Xi 0,Xr 904]
noncomputable def c5i(P:Params):List Obj:=((c6o P).set 3 (c1b P)).set 12 (Xf .none lv12)++[Xa [],Xf .none [],Xa [Xx a8u 1511,Xx s7 1512,Xx a3l 1513,Xx c6b 1514,Xx b0s 1515,Xx a0s 1516,Xx y1 1517],Xa [],Xh 50 none a83 a83,Xc a83 1508 a83 1509 c5 1510 641 3 0 0 3 875 true 181 876 .none (Xr 877) (Xr 878) (Xr 879) 1518 641 c5 1519,Xg i8 50 none a83 a83 .none .none (Xx a2g 1506) (Xr 880) 3,Xa [],Xf .none [],Xa [Xx (Z 0x6b63697571) 1524,Xx E4 1525,Xx s7 1526,Xx a3l 1527,Xx (Z 0x70617274) 1528],Xa [],Xh 51 none a9i a9i,Xc a9i 1521 a9i 1522 c5 1523 647 4 0 0 3 882 true 181 883 .none (Xr 884) (Xr 885) (Xr 886) 1529 647 c5 1530,Xg i8 51 none a9i a9i .none .none (Xx a2g 1506) (Xr 887) 3,Xa [],Xf .none [],Xa [Xx b93 1535,Xx E4 1536,Xx a8u 1537,Xx (Z 0x6564616d) 1538,Xx (Z 0x796177) 1539,Xx c5o 1540,Xx (Z 0x74736572) 1541,Xx b0s 1542,Xx a0s 1543,Xx (Z 0x656772616c5f7369) 1544],Xa [],Xh 52 none a89 a89,Xc a89 1532 a89 1533 c5 1534 652 7 0 0 3 889 true 181 890 .none (Xr 891) (Xr 892) (Xr 893) 1545 652 c5 1546,Xg i8 52 none a89 a89 .none .none (Xx a2g 1506) (Xr 894) 3,Xa [],Xf .none [],Xh 53 none a9b a9b,Xc a9b 1548 a9b 1549 c5 1550 677 4 0 0 3 896 true 181 897 .none .none .none (Xr 898) 1551 677 c5 1552,Xg i8 53 none a9b a9b .none .none (Xx a2g 1506) (Xr 899) 3,Xa [],Xf .none [],Xh 54 none a8y a8y,Xc a8y 1554 a8y 1555 c5 1556 692 1 0 0 3 901 true 181 902 .none .none .none (Xr 903) 1557 692 c5 1558,Xg i8 54 none a8y a8y .none .none (Xx a2g 1506) (Xr 904) 3]
noncomputable def tr12(P:Params):BT:=q8 (c5i P)
noncomputable def d4b(w:World)(os:OsState):SharedT:=⟨tr12 w.params,906,(boot_heap w.params).life,⟨[]⟩,boot_drawn,1560,os⟩
noncomputable def c41:List Stmt:=(pq.main.body.drop 50).take 5
noncomputable def d1x(P:Params):List Obj:=c5i P
noncomputable def trF(P:Params):BT:=q8 (d1x P)
noncomputable def stF(w:World)(os:OsState):SharedT:=⟨trF w.params,906,(boot_heap w.params).life,⟨[]⟩,boot_drawn,1560,os⟩
noncomputable def c7v(m:Nat)(n:Nat):Nat->List Addr:=Nat.rec (motive:=λ_=>Nat->List Addr) (λ_=>[]) (λ_ ih i=>Bool.casesOn (motive:=λ_=>List Addr) (Nat.beq (Nat.land (Nat.shiftRight m i) 1) 1) (ih (i+1)) (i::ih (i+1))) n
noncomputable def asK:List Addr:=c7v 0x3dee5cb907e5cb972e5cb972e5cb972e5cb94007e5cb9797972e4003f2e5cb9000fcb97b972e5cb972e5cb972e5cb972e5cb972e5ca0397287f72f72e5cb972e5e5cb972e5cb972f2e5c8007f79794007e5e5cb972f201cb972f07e5cb972e5cb9797280cfca00e00fc801c00fca039000e 906 0
noncomputable def c88:List Nat->List Obj->Nat->Frag
 |a::r,o::q,i=>match Nat.beq a i with |true=>(a,o)::c88 r q (i+1) |false=>c88 (a::r) q (i+1)
 |_,_,_=>[]
@[irreducible] noncomputable def K(P:Params):Frag:=c88 asK (d1x P) 0
theorem pre0(w:World)(os:OsState):topGo treeTable pq w m0 A9 12 ⟨boot_heap w.params,⟨[]⟩,boot_drawn,boot_toks,os⟩ (topStub pq)=some ((st0 w os).abs,⟨denote treeTable cE,cE,(⟨0,0,0,0⟩:Pos),[topFrame E9]⟩):=by
 rw[c3v,f9,b7a];kernel_rfl
theorem blk0(w:World)(os:OsState):segRun treeTable pq w m0 A9 1 1 (st0 w os).abs (blockOf (behindTheImports pq) E8 cE (⟨0,0,0,0⟩:Pos) [topFrame E9])=some (Flow.next,(st0 w os).abs,cE,(⟨0,0,0,0⟩:Pos)):=by
 rw[c0t,f9];kernel_rfl
theorem fin0(w:World)(os:OsState):topRun treeTable pq w m0 A9 2 (d4b w os).abs ⟨doneF .next,cE,(⟨692,0,729,74⟩:Pos),[topFrame E9]⟩=some (stF w os).abs:=by
 rw[b56,f9];kernel_rfl
theorem pc1(w:World)(os:OsState):segRunT treeTable pq w m0 A9 1 717 (st0 w os) (piecesOf d3p E8 cE (⟨0,0,0,0⟩:Pos) [topFrame E9])=some (Flow.next,st1 w os,cE,(⟨12,0,16,30⟩:Pos)):=by
 rw[j4,f9];kernel_rfl
theorem pc2(w:World)(os:OsState):segRunT treeTable pq w m0 A9 1 603 (st1 w os) (piecesOf d1v E8 cE (⟨12,0,16,30⟩:Pos) [topFrame E9])=some (Flow.next,st2 w os,cE,(⟨19,0,38,26⟩:Pos)):=by
 rw[j4,f9];kernel_rfl
theorem pc3(w:World)(os:OsState):segRunT treeTable pq w m0 A9 1 175 (st2 w os) (piecesOf d3o E8 cE (⟨19,0,38,26⟩:Pos) [topFrame E9])=some (Flow.next,st3 w os,cE,(⟨55,0,55,5⟩:Pos)):=by
 rw[j4,f9];kernel_rfl
theorem pc4(w:World)(os:OsState):segRunT treeTable pq w m0 A9 1 195 (st3 w os) (piecesOf b8d E8 cE (⟨55,0,55,5⟩:Pos) [topFrame E9])=some (Flow.next,st4 w os,cE,(⟨57,0,57,13⟩:Pos)):=
 byRow2 "special-get-raises" (P:=λw=>segRunT treeTable pq w m0 A9 1 195 (st3 w os) (piecesOf b8d E8 cE (⟨55,0,55,5⟩:Pos) [topFrame E9])=some (Flow.next,st4 w os,cE,(⟨57,0,57,13⟩:Pos))) (λw=>by
  show segRunT treeTable pq (w.withFollow "special-get-raises" false) m0 A9 1 195 (st3 (w.withFollow "special-get-raises" false) os) (piecesOf b8d E8 cE (⟨55,0,55,5⟩:Pos) [topFrame E9])=some (Flow.next,st4 (w.withFollow "special-get-raises" false) os,cE,(⟨57,0,57,13⟩:Pos));rw[j4,f9];kernel_rfl) (λw=>by
  show segRunT treeTable pq (w.withFollow "special-get-raises" true) m0 A9 1 195 (st3 (w.withFollow "special-get-raises" true) os) (piecesOf b8d E8 cE (⟨55,0,55,5⟩:Pos) [topFrame E9])=some (Flow.next,st4 (w.withFollow "special-get-raises" true) os,cE,(⟨57,0,57,13⟩:Pos));rw[j4,f9];kernel_rfl) w
theorem pc5(w:World)(os:OsState):segRunT treeTable pq w m0 A9 1 619 (st4 w os) (piecesOf d4g E8 cE (⟨57,0,57,13⟩:Pos) [topFrame E9])=some (Flow.next,st5 w os,cE,(⟨103,0,112,68⟩:Pos)):=by
 rw[j4,f9];kernel_rfl
theorem pc6(w:World)(os:OsState):segRunT treeTable pq w m0 A9 1 718 (st5 w os) (piecesOf d2p E8 cE (⟨103,0,112,68⟩:Pos) [topFrame E9])=some (Flow.next,st6 w os,cE,(⟨160,0,186,85⟩:Pos)):=by
 rw[j4,f9];kernel_rfl
theorem pc7(w:World)(os:OsState):segRunT treeTable pq w m0 A9 1 882 (st6 w os) (piecesOf d2x E8 cE (⟨160,0,186,85⟩:Pos) [topFrame E9])=some (Flow.next,st7 w os,cE,(⟨187,0,338,31⟩:Pos)):=by
 rw[j4,f9];kernel_rfl
theorem pc8(w:World)(os:OsState):segRunT treeTable pq w m0 A9 1 127 (st7 w os) (piecesOf d1k E8 cE (⟨187,0,338,31⟩:Pos) [topFrame E9])=some (Flow.next,st8 w os,cE,(⟨347,0,349,53⟩:Pos)):=by
 rw[j4,f9];kernel_rfl
theorem pc9(w:World)(os:OsState):segRunT treeTable pq w m0 A9 1 962 (st8 w os) (piecesOf d4j E8 cE (⟨347,0,349,53⟩:Pos) [topFrame E9])=some (Flow.next,st9 w os,cE,(⟨350,0,479,100⟩:Pos)):=by
 rw[j4,f9];kernel_rfl
theorem pc10(w:World)(os:OsState):segRunT treeTable pq w m0 A9 1 788 (st9 w os) (piecesOf c6d E8 cE (⟨350,0,479,100⟩:Pos) [topFrame E9])=some (Flow.next,d3n w os,cE,(⟨496,0,554,16⟩:Pos)):=by
 rw[j4,f9];kernel_rfl
theorem pc11(w:World)(os:OsState):segRunT treeTable pq w m0 A9 1 720 (d3n w os) (piecesOf c5e E8 cE (⟨496,0,554,16⟩:Pos) [topFrame E9])=some (Flow.next,d2s w os,cE,(⟨640,0,640,8⟩:Pos)):=by
 rw[j4,f9];kernel_rfl
theorem pc12(w:World)(os:OsState):segRunT treeTable pq w m0 A9 1 159 (d2s w os) (piecesOf c41 E8 cE (⟨640,0,640,8⟩:Pos) [topFrame E9])=some (Flow.next,d4b w os,cE,(⟨692,0,729,74⟩:Pos)):=by
 rw[j4,f9];kernel_rfl
theorem c2e:behindTheImports pq=d3p++(d1v++(d3o++(b8d++(d4g++(d2p++(d2x++(d1k++(d4j++(c6d++(c5e++(c41++([])))))))))))):=by kernel_rfl
theorem run0(w:World)(os:OsState):topRun treeTable pq w m0 A9 (12+(1+(717+(603+(175+(195+(619+(718+(882+(127+(962+(788+(720+(159+2)))))))))))))) ⟨boot_heap w.params,⟨[]⟩,boot_drawn,boot_toks,os⟩ (topStub pq)=some (stF w os).abs:=by
 have h:=piece_nil (env:=E8) (fin0 w os);have h:=piece_app (segRun_of (pc12 w os)) h;have h:=piece_app (segRun_of (pc11 w os)) h;have h:=piece_app (segRun_of (pc10 w os)) h;have h:=piece_app (segRun_of (pc9 w os)) h;have h:=piece_app (segRun_of (pc8 w os)) h;have h:=piece_app (segRun_of (pc7 w os)) h;have h:=piece_app (segRun_of (pc6 w os)) h;have h:=piece_app (segRun_of (pc5 w os)) h;have h:=piece_app (segRun_of (pc4 w os)) h;have h:=piece_app (segRun_of (pc3 w os)) h;have h:=piece_app (segRun_of (pc2 w os)) h;have h:=piece_app (segRun_of (pc1 w os)) h;rw[<-c2e]at h;exact go_top (pre0 w os) (piece_block (blk0 w os) h)
end
section
noncomputable def qv:Program:=view pq [54]
def b1r:Str:=S [108,97,119]
noncomputable def names0:List Str:=pq.boundNames.filter λn=>n != b1r
noncomputable def H1(P:Params):Heap:=absHeap (trF P) 906 (boot_heap P).life
theorem a9u: @openSeen=PySem.W.Fast.tw4187177175401517315:=PySem.W.Fast.te4187177175401517315
theorem d36(w:World):(fencedOpening treeTable pq w 14000).map (λs=>(s.heap,s.gens,s.drawn,s.toks))=some (boot_heap w.params,Array.mk [],boot_drawn,boot_toks):=
 boot_open (by kernel_rfl) (by kernel_rfl) (λs=>by kernel_rfl) w
theorem d3q(w:World):((boot_heap w.params).isNs mainGlobals&&(Array.mk []:Array GenState).size==0,(boot_heap w.params).objs.size,(boot_heap w.params).nsMap mainGlobals "__annotations__")=(true,m0,A9):=by
 kernel_rfl
theorem c9g(w:World)(os:OsState):(stF w os).abs=⟨H1 w.params,Array.mk [],boot_drawn,1560,os⟩:=by kernel_rfl
theorem d26(w:World):(staticsOk (importedModules pq.main.body) (boot_heap w.params) (H1 w.params))=true:=by kernel_rfl
theorem d2e(w:World):namesBound pq (H1 w.params)=true:=by kernel_rfl
theorem d1j(w:World)(os:OsState):gensDone ⟨H1 w.params,Array.mk [],boot_drawn,1560,os⟩=true:=by kernel_rfl
theorem d3h(w:World):laidKept (boot_heap w.params) (H1 w.params)=true:=by kernel_rfl
theorem d4m(w:World)(os:OsState):openSeen qv names0 (importedModules pq.main.body) (λ_=>true) true ⟨H1 w.params,Array.mk [],boot_drawn,1560,os⟩=openGood qv names0:=by rw[a9u];kernel_rfl
theorem b1o{α β γ:Type}{f:α->γ}{g:β->γ}{a:List α}{k:List β}(n:Nat)(h:(a.take n).map f=(k.take n).map g)(h2:(a.drop n).map f=(k.drop n).map g):a.map f=k.map g:=by
 rw[<-List.take_append_drop n a, <-List.take_append_drop n k,List.map_append,List.map_append,h,h2]
theorem lk6a(w:World):(asK.take 200).map (H1 w.params).get? =((K w.params).take 200).map λp=>some p.2:=by kernel_rfl
theorem lk6b(w:World):((asK.drop 200).take 200).map (H1 w.params).get? =(((K w.params).drop 200).take 200).map λp=>some p.2:=by kernel_rfl
theorem lk6c(w:World):((asK.drop 200).drop 200).map (H1 w.params).get? =(((K w.params).drop 200).drop 200).map λp=>some p.2:=by kernel_rfl
theorem d1u(w:World):asK.map (H1 w.params).get? =(K w.params).map λp=>some p.2:=b1o 200 (lk6a w) (b1o 200 (lk6b w) (lk6c w))
theorem d0r(P:Params):asK=(K P).map (·.1):=by kernel_rfl
theorem d2y:LeftO pq qv names0 (λ_=>true) (λs=>asK.map s.heap.get?) (λw=>(K w.params).map λp=>some p.2) 14000:=
 LeftO.of_pieces d36 d3q (λw os=>(run0 w os).trans (congrArg some (c9g w os))) (by kernel_rfl) (λw=>funext λos=>by
  rw[d26,d2e,d1j,d3h,d4m];show(_,_,asK.map (H1 w.params).get?)=_;rw[d1u];rfl)
end
section
abbrev M9:OpenLaw:=PySem.Challenge.rw_nz0226_02
noncomputable def d0:DefRec:=⟨b1r,(fnA 54 none).1,(fnA 54 none).2.1,(fnA 54 none).2.2,⟨692,0,729,74⟩⟩
theorem def0:defOf qv (Str.ofString "law")=some (d0,[]):=by kernel_rfl
theorem the0:pq.theDef (Str.ofString "law")=some (d0.params,d0.body,d0.scope):=by kernel_rfl
theorem ok0:(chainsOk qv&&opensWell pq)=true:=by kernel_rfl
end
section
noncomputable def Ya1(w:World):List (Option Obj):=(K w.params).map λp=>some p.2
noncomputable def Yf1(s:Shared):List (Option Obj):=asK.map s.heap.get?
theorem d3d:LeftO M9.row.prog qv names0 (λ_=>true) Yf1 Ya1 14000:=by
 show LeftO PySem.Challenge.pw_nz0226_02 qv names0 (λ_=>true) Yf1 Ya1 14000;rw[c0r];exact d2y
theorem the1:PySem.Challenge.pw_nz0226_02.theDef (Str.ofString "law")=some (d0.params,d0.body,d0.scope):=by rw[c0r];exact the0
theorem ok1:(chainsOk qv&&opensWell PySem.Challenge.pw_nz0226_02&&(frees M9.row.toRowW&&M9.row.within.isEmpty))=true:=by
 rw[c0r,ok0];kernel_rfl
theorem kw1:kwWritten? d0.params.kwonlyargs d0.params.kw_defaults=some []:=by kernel_rfl
theorem d2a:PySem.Challenge.pw_nz0226_02.bare:=⟨rfl,rfl,rfl,rfl,rfl,by decide+kernel⟩
theorem d2z:M9.row.toRowW.promised:=⟨[WData.list []],by decide+kernel,by decide+kernel⟩
theorem law_holds(said:M9.wellSaid=true)(call:WalkO qv names0 (λ_ _=>True) (λw h=>(K w.params).In h) M9.row.toRowW d0 [] (λf vs=>PySem.call f vs)):M9.Holds:=
 holds_law said λsr=>PySem.W.holds_open (r:=M9.row) (q:=qv) (loose:=names0) (Xt:=λ_=>true) (XP:=λ_ _=>True) (α:=List (Option Obj))
  (Yf:=Yf1) (Ya:=Ya1) (YP:=λw h=>(K w.params).In h) (d:=d0) (kwd:=[]) (N:=14000)
  d3d (λw s e=>Frag.in_of (d0r _) e) (λw h h' x k=>x.keeps k) (λ_ _=>trivial) (λ_ _ _ _ _=>trivial) def0 the1 kw1
  (λs _=>recFacts_of (R:=[]) rfl) rfl sr ok1 d2a d2z call
end
section
noncomputable def Es:List ME->MEs |[]=> .nil |a::r=> .cons a (Es r)
noncomputable def Ts:List MB->MBs |[]=> .nil |a::r=> .cons a (Ts r)
noncomputable def Ss:List MS->MSs |[]=> .nil |a::r=> .cons a (Ss r)
noncomputable def b0:MSs:=Ss [.ifS (.ops false (Ts [.not (.chain3 (.int 0) .le (.loc 6) .lt (.loc 4) .le (.glo 7)), .of (.cmp .ne (.bin .mod (.loc 6) (.glo 5)) (.int 0)), .of (.cmp .ne (.bin .mod (.loc 4) (.glo 5)) (.int 0))])) (Ss [.raise (.call (.glo 8) (Es [.str 9]))]) .nil]
noncomputable def r0:FnRec:=⟨[6,4],[],b0⟩
noncomputable def b1:MSs:=Ss [.expr (.call (.glo 13) (Es [.loc 6, .bin .add (.loc 6) (.loc 12)])), .assign (.attr (.loc 10) 12) (.loc 12), .assign (.attr (.loc 10) 6) (.loc 6), .assign (.attr (.loc 10) 4) (.bin .add (.loc 6) (.loc 12)), .assign (.attr (.loc 10) 11) .dict0]
noncomputable def r1:FnRec:=⟨[10,12,6],[.int 0],b1⟩
noncomputable def b2:MSs:=Ss [.ifS (.ops false (Ts [.of (.cmp .lt (.loc 15) (.int 0)), .of (.cmp .lt (.loc 14) (.attr (.loc 10) 6)), .of (.cmp .gt (.bin .add (.loc 14) (.loc 15)) (.attr (.loc 10) 4))])) (Ss [.raise (.call (.glo 16) (Es [.loc 14]))]) .nil]
noncomputable def r2:FnRec:=⟨[10,14,15],[],b2⟩
noncomputable def b3:MSs:=Ss [.ifS (.ops false (Ts [.of (.cmp .ne (.bin .mod (.loc 14) (.loc 12)) (.int 0)), .of (.cmp .lt (.loc 14) (.attr (.loc 10) 6)), .of (.cmp .gt (.bin .add (.loc 14) (.loc 12)) (.attr (.loc 10) 4))])) (Ss [.raise (.call (.glo 16) (Es [.loc 14]))]) .nil]
noncomputable def r3:FnRec:=⟨[10,14,12],[],b3⟩
noncomputable def b4:MSs:=Ss [.expr (.meth (.loc 10) 17 (Es [.loc 14, .int 4])), .ret (.meth (.attr (.loc 10) 11) 2 (Es [.bin .shr (.loc 14) (.int 2), .int 0]))]
noncomputable def r4:FnRec:=⟨[10,14],[],b4⟩
noncomputable def b5:MSs:=Ss [.expr (.meth (.loc 10) 17 (Es [.loc 14, .int 4])), .expr (.meth (.loc 10) 18 (Es [.bin .shr (.loc 14) (.int 2), .bin .and (.loc 19) (.glo 20)]))]
noncomputable def r5:FnRec:=⟨[10,14,19],[],b5⟩
noncomputable def b6:MSs:=Ss [.ifS (.of (.cmp .ne (.loc 19) (.int 0))) (Ss [.assign (.idx (.attr (.loc 10) 11) (.loc 21)) (.loc 19)]) (Ss [.expr (.meth (.attr (.loc 10) 11) 3 (Es [.loc 21, .none]))])]
noncomputable def r6:FnRec:=⟨[10,21,19],[],b6⟩
noncomputable def b7:MSs:=Ss [.ifS (.of (.cmp .eq (.loc 12) (.int 4))) (Ss [.ret (.meth (.loc 10) 25 (Es [.loc 14]))]) .nil, .ifS (.of (.cmp .eq (.loc 12) (.int 1))) (Ss [.ret (.meth (.loc 10) 24 (Es [.loc 14]))]) .nil, .expr (.call (.glo 23) (Es [.loc 12])), .ret (.meth (.loc 10) 22 (Es [.loc 14]))]
noncomputable def r7:FnRec:=⟨[10,14,12],[],b7⟩
noncomputable def b8:MSs:=Ss [.ifS (.of (.cmp .eq (.loc 12) (.int 4))) (Ss [.expr (.meth (.loc 10) 26 (Es [.loc 14, .loc 19]))]) (Ss [.ifS (.of (.cmp .eq (.loc 12) (.int 1))) (Ss [.expr (.meth (.loc 10) 27 (Es [.loc 14, .loc 19]))]) (Ss [.expr (.call (.glo 23) (Es [.loc 12])), .expr (.meth (.loc 10) 28 (Es [.loc 14, .loc 19]))])])]
noncomputable def r8:FnRec:=⟨[10,14,12,19],[],b8⟩
noncomputable def b9:MSs:=Ss [.expr (.meth (.loc 10) 35 (Es [.loc 14, .call (.glo 34) (Es [.loc 32])])), .assign (.names [30,29,4]) (.tup (Es [.loc 14, .int 0, .call (.glo 34) (Es [.loc 32])])), .whileS 100 (.of (.cmp .lt (.loc 29) (.loc 4))) (Ss [.assign (.name 12) (.call (.glo 33) (Es [.bin .sub (.int 4) (.bin .and (.loc 30) (.int 3)), .bin .sub (.loc 4) (.loc 29)])), .assign (.name 19) (.int 0), .forS (.name 24) (.rev (.slice2 (.loc 32) (.loc 29) (.bin .add (.loc 29) (.loc 12)))) (Ss [.assign (.name 19) (.bin .or (.bin .shl (.loc 19) (.int 8)) (.loc 24))]), .ifS (.of (.cmp .eq (.loc 12) (.int 4))) (Ss [.expr (.meth (.loc 10) 18 (Es [.bin .shr (.loc 30) (.int 2), .loc 19]))]) (Ss [.expr (.meth (.loc 10) 31 (Es [.loc 30, .bin .sub (.bin .shl (.int 1) (.bin .mul (.int 8) (.loc 12))) (.int 1), .loc 19]))]), .aug 30 (.loc 12), .aug 29 (.loc 12)])]
noncomputable def r9:FnRec:=⟨[10,14,32],[],b9⟩
noncomputable def b10:MSs:=Ss [.expr (.meth (.loc 10) 35 (Es [.loc 14, .loc 15])), .assign (.names [30,4]) (.tup (Es [.loc 14, .bin .add (.loc 14) (.loc 15)])), .whileS 100 (.of (.cmp .lt (.loc 30) (.loc 4))) (Ss [.assign (.name 12) (.call (.glo 33) (Es [.bin .sub (.int 4) (.bin .and (.loc 30) (.int 3)), .bin .sub (.loc 4) (.loc 30)])), .ifS (.of (.cmp .eq (.loc 12) (.int 4))) (Ss [.expr (.meth (.loc 10) 18 (Es [.bin .shr (.loc 30) (.int 2), .int 0]))]) (Ss [.expr (.meth (.loc 10) 31 (Es [.loc 30, .bin .sub (.bin .shl (.int 1) (.bin .mul (.int 8) (.loc 12))) (.int 1), .int 0]))]), .aug 30 (.loc 12)])]
noncomputable def r10:FnRec:=⟨[10,14,15],[],b10⟩
noncomputable def b11:MSs:=Ss [.ifS (.not (.of (.chain (.int 4) .le (.loc 40) .le (.int 12)))) (Ss [.raise (.call (.glo 8) (Es [.str 41]))]) .nil, .assign (.attr (.loc 10) 40) (.loc 40), .assign (.attr (.loc 10) 39) (.bin .sub (.loc 40) (.int 2)), .assign (.attr (.loc 10) 38) (.bin .shl (.int 1) (.loc 40)), .assign (.attr (.loc 10) 37) (.bin .shl (.int 1) (.attr (.loc 10) 39)), .assign (.attr (.loc 10) 36) (.bin .mul (.attr (.loc 10) 38) (.attr (.loc 10) 37)), .assign (.attr (.loc 10) 4) (.bin .mul (.attr (.loc 10) 36) (.attr (.loc 10) 37))]
noncomputable def r11:FnRec:=⟨[10,40],[.int 12],b11⟩
noncomputable def b12:MSs:=Ss [.ifS (.not (.of (.chain (.int 0) .le (.loc 14) .lt (.attr (.loc 10) 4)))) (Ss [.ret .none]) .nil, .assign (.name 42) (.bin .shr (.loc 14) (.attr (.loc 10) 40)), .ret (.tup (Es [.bin .shr (.loc 42) (.attr (.loc 10) 39), .bin .and (.loc 42) (.bin .sub (.attr (.loc 10) 37) (.int 1)), .bin .and (.loc 14) (.bin .sub (.attr (.loc 10) 38) (.int 1))]))]
noncomputable def r12:FnRec:=⟨[10,14],[],b12⟩
noncomputable def b13:MSs:=Ss [.ret (.bin .or (.bin .shl (.bin .or (.bin .shl (.loc 43) (.attr (.loc 10) 39)) (.loc 44)) (.attr (.loc 10) 40)) (.loc 45))]
noncomputable def r13:FnRec:=⟨[10,43,44,45],[.int 0],b13⟩
noncomputable def b14:MSs:=Ss [.ret (.bin .and (.loc 14) (.inv (.bin .sub (.attr (.loc 10) 38) (.int 1))))]
noncomputable def r14:FnRec:=⟨[10,14],[],b14⟩
noncomputable def b15:MSs:=Ss [.ret (.cmp .eq (.bin .and (.loc 14) (.bin .sub (.attr (.loc 10) 38) (.int 1))) (.int 0))]
noncomputable def r15:FnRec:=⟨[10,14],[],b15⟩
noncomputable def b16:MSs:=Ss [.ret (.bin .or (.bin .shl (.bin .shr (.loc 46) (.attr (.loc 10) 40)) (.glo 47)) (.loc 48))]
noncomputable def r16:FnRec:=⟨[10,46,48],[],b16⟩
noncomputable def b17:MSs:=Ss [.ret (.bin .shl (.bin .shr (.loc 49) (.glo 47)) (.attr (.loc 10) 40))]
noncomputable def r17:FnRec:=⟨[10,49],[],b17⟩
noncomputable def b18:MSs:=Ss [.ret (.cmp .ne (.bin .and (.loc 49) (.glo 50)) (.int 0))]
noncomputable def r18:FnRec:=⟨[49],[],b18⟩
noncomputable def b19:MSs:=Ss [.ret (.boolop true (Es [.cmp .ne (.bin .and (.loc 49) (.glo 53)) (.int 0), .cmp .ne (.bin .and (.loc 49) (.bin .or (.glo 51) (.glo 52))) (.glo 52)]))]
noncomputable def r19:FnRec:=⟨[49],[],b19⟩
noncomputable def b20:MSs:=Ss [.ifS (.ops true (Ts [.of (.cmp .eq (.loc 62) (.glo 63)), .of (.cmp .eq (.bin .and (.loc 49) (.glo 61)) (.int 0))])) (Ss [.ret (.bool false)]) .nil, .ifS (.ops true (Ts [.of (.cmp .ne (.loc 62) (.glo 63)), .of (.cmp .ne (.bin .and (.loc 49) (.glo 61)) (.int 0)), .ops false (Ts [.of (.cmp .eq (.loc 57) (.glo 59)), .not (.of (.loc 60))])])) (Ss [.ret (.bool false)]) .nil, .ifS (.of (.cmp .eq (.loc 57) (.glo 59))) (Ss [.ret (.cmp .ne (.bin .and (.loc 49) (.glo 54)) (.int 0))]) .nil, .ifS (.of (.cmp .eq (.loc 57) (.glo 58))) (Ss [.ret (.cmp .ne (.bin .and (.loc 49) (.glo 52)) (.int 0))]) .nil, .ret (.boolop false (Es [.cmp .ne (.bin .and (.loc 49) (.glo 51)) (.int 0), .boolop true (Es [.call (.glo 55) (Es [.loc 56]), .cmp .ne (.bin .and (.loc 49) (.glo 54)) (.int 0)])]))]
noncomputable def r20:FnRec:=⟨[49,57,62,60,56],[],b20⟩
noncomputable def b21:MSs:=Ss [.assign (.attr (.loc 10) 65) (.loc 65), .assign (.attr (.loc 10) 64) (.loc 64)]
noncomputable def r21:FnRec:=⟨[10,65,64],[],b21⟩
noncomputable def b22:MSs:=Ss [.assign (.name 66) (.meth (.attr (.loc 10) 64) 66 (Es [.loc 14])), .ifS (.of (.cmp .is (.loc 66) .none)) (Ss [.raise (.call (.glo 70) (Es [.idx (.glo 71) (.loc 57), .loc 14]))]) .nil, .assign (.name 30) (.bin .add (.loc 75) (.bin .mul (.glo 73) (.idx (.loc 66) (.int 0)))), .assign (.name 49) (.meth (.loc 10) 72 (Es [.loc 30, .loc 14, .loc 57])), .ifS (.of (.call (.glo 69) (Es [.loc 49]))) (Ss [.ret (.meth (.loc 10) 74 (Es [.loc 30, .loc 49, .loc 14, .loc 57, .loc 62, .loc 60, .loc 56]))]) .nil, .assign (.name 30) (.bin .add (.meth (.attr (.loc 10) 64) 46 (Es [.loc 49])) (.bin .mul (.glo 73) (.idx (.loc 66) (.int 1)))), .assign (.name 49) (.meth (.loc 10) 72 (Es [.loc 30, .loc 14, .loc 57])), .ifS (.ops false (Ts [.not (.of (.call (.glo 69) (Es [.loc 49]))), .not (.of (.call (.glo 68) (Es [.loc 49, .loc 57, .loc 62, .loc 60, .loc 56])))])) (Ss [.raise (.call (.glo 70) (Es [.idx (.glo 71) (.loc 57), .loc 14]))]) .nil, .expr (.meth (.loc 10) 67 (Es [.loc 30, .loc 49, .loc 14, .loc 57])), .ret (.bin .or (.meth (.attr (.loc 10) 64) 46 (Es [.loc 49])) (.idx (.loc 66) (.int 2)))]
noncomputable def r22:FnRec:=⟨[10,75,14,57,62,60,56],[.int 0, .int 0],b22⟩
noncomputable def b23:MSs:=Ss [.tryS (Ss [.assign (.name 49) (.meth (.attr (.loc 10) 65) 77 (Es [.loc 30, .glo 73]))]) 70 none (Ss [.dead]), .ifS (.not (.of (.call (.glo 76) (Es [.loc 49])))) (Ss [.raise (.call (.glo 70) (Es [.idx (.glo 71) (.loc 57), .loc 14]))]) .nil, .ret (.loc 49)]
noncomputable def r23:FnRec:=⟨[10,30,14,57],[],b23⟩
noncomputable def b24:MSs:=Ss [.assign (.name 46) (.meth (.attr (.loc 10) 64) 46 (Es [.loc 49])), .ifS (.ops false (Ts [.of (.cmp .ne (.bin .mod (.loc 46) (.attr (.attr (.loc 10) 64) 36)) (.int 0)), .not (.of (.call (.glo 68) (Es [.loc 49, .loc 57, .loc 62, .loc 60, .loc 56])))])) (Ss [.raise (.call (.glo 70) (Es [.idx (.glo 71) (.loc 57), .loc 14]))]) .nil, .expr (.meth (.loc 10) 67 (Es [.loc 30, .loc 49, .loc 14, .loc 57])), .ret (.bin .or (.loc 46) (.bin .and (.loc 14) (.bin .sub (.attr (.attr (.loc 10) 64) 36) (.int 1))))]
noncomputable def r24:FnRec:=⟨[10,30,49,14,57,62,60,56],[],b24⟩
noncomputable def b25:MSs:=Ss [.assign (.name 78) (.bin .or (.bin .or (.loc 49) (.glo 80)) (.ite (.of (.cmp .eq (.loc 57) (.glo 58))) (.glo 81) (.int 0))), .ifS (.of (.cmp .ne (.loc 78) (.loc 49))) (Ss [.tryS (Ss [.expr (.meth (.attr (.loc 10) 65) 79 (Es [.loc 30, .glo 73, .loc 78]))]) 70 none (Ss [.dead])]) .nil]
noncomputable def r25:FnRec:=⟨[10,30,49,14,57],[],b25⟩
noncomputable def b26:MSs:=Ss [.ifS (.of (.cmp .lt (.loc 83) (.int 1))) (Ss [.raise (.call (.glo 8) (Es [.str 85]))]) .nil, .assign (.attr (.loc 10) 84) (.loc 84), .assign (.attr (.loc 10) 64) (.attr (.loc 84) 64), .assign (.attr (.loc 10) 83) (.loc 83), .assign (.attr (.loc 10) 82) .dictT]
noncomputable def r26:FnRec:=⟨[10,84,83],[.int 16],b26⟩
noncomputable def b27:MSs:=Ss [.assign (.name 87) (.tup (Es [.bin .shr (.loc 14) (.attr (.attr (.loc 10) 64) 40), .loc 57, .loc 62, .loc 60, .loc 56, .loc 75])), .assign (.name 6) (.meth (.attr (.loc 10) 82) 2 (Es [.loc 87])), .ifS (.of (.cmp .is (.loc 6) .none)) (Ss [.assign (.name 46) (.meth (.attr (.loc 10) 84) 88 (Es [.loc 75, .loc 14, .loc 57, .loc 62, .loc 60, .loc 56])), .ifS (.of (.cmp .ge (.call (.glo 34) (Es [.attr (.loc 10) 82])) (.attr (.loc 10) 83))) (Ss [.assign (.attr (.loc 10) 82) .dictT]) .nil, .assign (.idx (.attr (.loc 10) 82) (.loc 87)) (.meth (.attr (.loc 10) 64) 86 (Es [.loc 46])), .ret (.loc 46)]) .nil, .ret (.bin .or (.loc 6) (.bin .and (.loc 14) (.bin .sub (.attr (.attr (.loc 10) 64) 38) (.int 1))))]
noncomputable def r27:FnRec:=⟨[10,75,14,57,62,60,56],[.int 0, .int 0],b27⟩
noncomputable def b28:MSs:=Ss [.ifS (.of (.cmp .is (.loc 14) .none)) (Ss [.assign (.attr (.loc 10) 82) .dictT, .retNone]) .nil, .assign (.cname 42) (.bin .shr (.loc 14) (.attr (.attr (.loc 10) 64) 40)), .assign (.attr (.loc 10) 82) (.dcomp 87 [10,42] (.attr (.loc 10) 82) (Ts [.of (.cmp .ne (.idx (.loc 87) (.int 0)) (.loc 42))]) (.loc 87) (.idx (.attr (.loc 10) 82) (.loc 87)))]
noncomputable def r28:FnRec:=⟨[10,14],[.none],b28⟩
noncomputable def b29:MSs:=Ss [.assign (.attr (.loc 10) 90) (.loc 90), .assign (.attr (.loc 10) 64) (.loc 64), .assign (.attr (.loc 10) 89) (.loc 89)]
noncomputable def r29:FnRec:=⟨[10,90,64,89],[],b29⟩
noncomputable def b30:MSs:=Ss [.assign (.name 38) (.meth (.attr (.loc 10) 89) 92 .nil), .expr (.meth (.attr (.loc 10) 90) 91 (Es [.loc 38, .attr (.attr (.loc 10) 64) 38])), .ret (.loc 38)]
noncomputable def r30:FnRec:=⟨[10],[],b30⟩
noncomputable def b31:MSs:=Ss [.assign (.name 66) (.meth (.attr (.loc 10) 64) 66 (Es [.loc 14])), .ifS (.of (.cmp .is (.loc 66) .none)) (Ss [.raise (.call (.glo 8) (Es [.str 93]))]) .nil, .ret (.loc 66)]
noncomputable def r31:FnRec:=⟨[10,14],[],b31⟩
noncomputable def b32:MSs:=Ss [.assign (.names [43,44,45]) (.meth (.loc 10) 97 (Es [.loc 14])), .assign (.name 30) (.bin .add (.loc 75) (.bin .mul (.glo 73) (.loc 43))), .assign (.name 49) (.meth (.attr (.loc 10) 90) 25 (Es [.loc 30])), .ifS (.of (.cmp .eq (.bin .and (.loc 49) (.glo 53)) (.int 0))) (Ss [.ifS (.not (.of (.loc 95))) (Ss [.ret .none]) .nil, .assign (.name 49) (.meth (.attr (.loc 10) 64) 49 (Es [.meth (.loc 10) 94 .nil, .glo 53])), .expr (.meth (.attr (.loc 10) 90) 26 (Es [.loc 30, .loc 49]))]) (Ss [.ifS (.of (.call (.glo 69) (Es [.loc 49]))) (Ss [.raise (.call (.glo 8) (Es [.str 96]))]) .nil]), .ret (.bin .add (.meth (.attr (.loc 10) 64) 46 (Es [.loc 49])) (.bin .mul (.glo 73) (.loc 44)))]
noncomputable def r32:FnRec:=⟨[10,75,14,95],[.bool false],b32⟩
noncomputable def b33:MSs:=Ss [.assign (.names [43,44,45]) (.meth (.loc 10) 97 (Es [.loc 14])), .assign (.name 49) (.meth (.attr (.loc 10) 90) 25 (Es [.bin .add (.loc 75) (.bin .mul (.glo 73) (.loc 43))])), .ifS (.ops false (Ts [.of (.cmp .eq (.bin .and (.loc 49) (.glo 53)) (.int 0)), .of (.call (.glo 69) (Es [.loc 49]))])) (Ss [.ret (.ite (.of (.cmp .ne (.bin .and (.loc 49) (.glo 53)) (.int 0))) (.loc 49) (.int 0))]) .nil, .assign (.name 49) (.meth (.attr (.loc 10) 90) 25 (Es [.bin .add (.meth (.attr (.loc 10) 64) 46 (Es [.loc 49])) (.bin .mul (.glo 73) (.loc 44))])), .ret (.ite (.of (.cmp .ne (.bin .and (.loc 49) (.glo 53)) (.int 0))) (.loc 49) (.int 0))]
noncomputable def r33:FnRec:=⟨[10,75,14],[],b33⟩
noncomputable def b34:MSs:=Ss [.ifS (.ops false (Ts [.of (.cmp .ne (.bin .and (.loc 48) (.inv (.glo 98))) (.int 0)), .not (.of (.call (.glo 69) (Es [.loc 48]))), .not (.of (.call (.glo 76) (Es [.bin .or (.loc 48) (.glo 53)])))])) (Ss [.raise (.call (.glo 8) (Es [.str 99]))]) .nil]
noncomputable def r34:FnRec:=⟨[10,48],[],b34⟩
noncomputable def b35:MSs:=Ss [.expr (.meth (.loc 10) 104 (Es [.loc 48])), .ifS (.ops false (Ts [.not (.of (.meth (.attr (.loc 10) 64) 102 (Es [.loc 14]))), .not (.of (.meth (.attr (.loc 10) 64) 102 (Es [.loc 46])))])) (Ss [.raise (.call (.glo 8) (Es [.str 103]))]) .nil, .ifS (.of (.cmp .ne (.meth (.loc 10) 49 (Es [.loc 75, .loc 14])) (.int 0))) (Ss [.raise (.call (.glo 8) (Es [.str 101]))]) .nil, .expr (.meth (.attr (.loc 10) 90) 26 (Es [.meth (.loc 10) 100 (Es [.loc 75, .loc 14, .bool true]), .meth (.attr (.loc 10) 64) 49 (Es [.loc 46, .bin .or (.loc 48) (.glo 53)])]))]
noncomputable def r35:FnRec:=⟨[10,75,14,46,48],[],b35⟩
noncomputable def b36:MSs:=Ss [.expr (.meth (.loc 10) 104 (Es [.loc 48])), .ifS (.ops false (Ts [.of (.cmp .ne (.bin .mod (.loc 14) (.attr (.attr (.loc 10) 64) 36)) (.int 0)), .of (.cmp .ne (.bin .mod (.loc 46) (.attr (.attr (.loc 10) 64) 36)) (.int 0))])) (Ss [.raise (.call (.glo 8) (Es [.str 106]))]) .nil, .assign (.name 30) (.bin .add (.loc 75) (.bin .mul (.glo 73) (.idx (.meth (.loc 10) 97 (Es [.loc 14])) (.int 0)))), .ifS (.of (.cmp .ne (.bin .and (.meth (.attr (.loc 10) 90) 25 (Es [.loc 30])) (.glo 53)) (.int 0))) (Ss [.raise (.call (.glo 8) (Es [.str 105]))]) .nil, .expr (.meth (.attr (.loc 10) 90) 26 (Es [.loc 30, .meth (.attr (.loc 10) 64) 49 (Es [.loc 46, .bin .or (.loc 48) (.glo 53)])]))]
noncomputable def r36:FnRec:=⟨[10,75,14,46,48],[],b36⟩
noncomputable def b37:MSs:=Ss [.assign (.name 30) (.meth (.loc 10) 100 (Es [.loc 75, .loc 14])), .ifS (.ops false (Ts [.of (.cmp .is (.loc 30) .none), .of (.cmp .eq (.bin .and (.meth (.attr (.loc 10) 90) 25 (Es [.loc 30])) (.glo 53)) (.int 0))])) (Ss [.raise (.call (.glo 8) (Es [.str 107]))]) .nil, .ret (.loc 30)]
noncomputable def r37:FnRec:=⟨[10,75,14],[],b37⟩
noncomputable def b38:MSs:=Ss [.assign (.name 30) (.meth (.loc 10) 109 (Es [.loc 75, .meth (.attr (.loc 10) 64) 86 (Es [.loc 14])])), .assign (.name 110) (.meth (.attr (.loc 10) 64) 46 (Es [.meth (.attr (.loc 10) 90) 25 (Es [.loc 30])])), .expr (.meth (.attr (.loc 10) 90) 26 (Es [.loc 30, .int 0])), .ret (.loc 110)]
noncomputable def r38:FnRec:=⟨[10,75,14],[],b38⟩
noncomputable def b39:MSs:=Ss [.expr (.meth (.loc 10) 104 (Es [.loc 48])), .ifS (.not (.of (.meth (.attr (.loc 10) 64) 102 (Es [.loc 46])))) (Ss [.raise (.call (.glo 8) (Es [.str 103]))]) .nil, .assign (.name 30) (.meth (.loc 10) 109 (Es [.loc 75, .meth (.attr (.loc 10) 64) 86 (Es [.loc 14])])), .assign (.name 110) (.meth (.attr (.loc 10) 64) 46 (Es [.meth (.attr (.loc 10) 90) 25 (Es [.loc 30])])), .expr (.meth (.attr (.loc 10) 90) 26 (Es [.loc 30, .meth (.attr (.loc 10) 64) 49 (Es [.loc 46, .bin .or (.loc 48) (.glo 53)])])), .ret (.loc 110)]
noncomputable def r39:FnRec:=⟨[10,75,14,46,48],[],b39⟩
noncomputable def b40:MSs:=Ss [.assign (.name 36) (.meth (.loc 140) 2 (Es [.bin .sub (.bin .fdiv (.loc 14) (.int 64)) (.int 100)])), .assign (.names [38,48,12]) (.ite (.of (.cmp .isNot (.loc 36) .none)) (.bin .add (.loc 36) (.tup (Es [.int 64]))) (.bin .add (.meth (.loc 140) 2 (Es [.bin .fdiv (.loc 14) (.int 16), .tup (Es [.int 0, .int 0])])) (.tup (Es [.int 16])))), .ifS (.ops false (Ts [.of (.cmp .eq (.bin .and (.loc 48) (.int 16)) (.int 0)), .of (.cmp .eq (.bin .and (.loc 48) (.idx (.lstF (Es [.int 8, .int 2, .int 4])) (.loc 57))) (.int 0))])) (Ss [.ret (.tup (Es [.idx (.lstF (Es [.int 12, .int 13, .int 15])) (.loc 57), .loc 14]))]) .nil, .ret (.bin .add (.loc 38) (.bin .mod (.loc 14) (.loc 12)))]
noncomputable def r40:FnRec:=⟨[140,14,57],[],b40⟩
noncomputable def b41:MSs:=Ss [.assign (.attr (.loc 10) 90) (.loc 90), .assign (.attr (.loc 10) 115) (.lstM .nil)]
noncomputable def r41:FnRec:=⟨[10,90],[],b41⟩
noncomputable def b42:MSs:=Ss [.assign (.name 90) (.attr (.loc 10) 90), .ifS (.ops true (Ts [.of (.cmp .le (.attr (.loc 90) 6) (.loc 14)), .of (.cmp .le (.bin .add (.loc 14) (.loc 12)) (.attr (.loc 90) 4))])) (Ss [.ret (.meth (.loc 90) 2 (Es [.loc 14, .loc 12]))]) .nil, .expr (.call (.glo 23) (Es [.loc 12])), .ifS (.of (.cmp .ne (.bin .mod (.loc 14) (.loc 12)) (.int 0))) (Ss [.raise (.call (.glo 16) (Es [.loc 14]))]) .nil, .assign (.name 116) (.meth (.loc 10) 119 (Es [.loc 14, .loc 12])), .ifS (.of (.cmp .is (.loc 116) .none)) (Ss [.raise (.call (.glo 70) (Es [.loc 118, .loc 14]))]) .nil, .dead]
noncomputable def r42:FnRec:=⟨[10,14,12,118],[.int 5],b42⟩
noncomputable def b43:MSs:=Ss [.assign (.name 90) (.attr (.loc 10) 90), .ifS (.ops true (Ts [.of (.cmp .le (.attr (.loc 90) 6) (.loc 14)), .of (.cmp .le (.bin .add (.loc 14) (.loc 12)) (.attr (.loc 90) 4))])) (Ss [.expr (.meth (.loc 90) 120 (Es [.loc 14, .loc 12, .loc 19])), .retNone]) .nil, .expr (.call (.glo 23) (Es [.loc 12])), .ifS (.of (.cmp .ne (.bin .mod (.loc 14) (.loc 12)) (.int 0))) (Ss [.raise (.call (.glo 16) (Es [.loc 14]))]) .nil, .assign (.name 116) (.meth (.loc 10) 119 (Es [.loc 14, .loc 12])), .ifS (.of (.cmp .is (.loc 116) .none)) (Ss [.raise (.call (.glo 70) (Es [.loc 118, .loc 14]))]) .nil, .dead]
noncomputable def r43:FnRec:=⟨[10,14,12,19,118],[.int 7],b43⟩
noncomputable def b44:MSs:=Ss [.ifS (.ops false (Ts [.of (.cmp .lt (.loc 6) (.int 0)), .of (.cmp .lt (.loc 15) (.int 0)), .of (.cmp .lt (.loc 12) (.int 1)), .of (.cmp .ne (.bin .mod (.loc 6) (.loc 12)) (.int 0))])) (Ss [.raise (.call (.glo 8) (Es [.str 125]))]) .nil, .assign (.attr (.loc 10) 90) (.loc 90), .assign (.attr (.loc 10) 6) (.loc 6), .assign (.attr (.loc 10) 15) (.loc 15), .assign (.attr (.loc 10) 12) (.loc 12), .assign (.attr (.loc 10) 124) (.loc 124), .assign (.attr (.loc 10) 123) (.int 0), .assign (.attr (.loc 10) 122) (.lstM .nil), .assign (.attr (.loc 10) 121) .dict0]
noncomputable def r44:FnRec:=⟨[10,90,6,15,12,124],[.bool true],b44⟩
noncomputable def b45:MSs:=Ss [.ret (.bin .add (.attr (.loc 10) 6) (.bin .mul (.loc 21) (.attr (.loc 10) 12)))]
noncomputable def r45:FnRec:=⟨[10,21],[],b45⟩
noncomputable def b46:MSs:=Ss [.ret (.bin .add (.bin .sub (.attr (.loc 10) 15) (.attr (.loc 10) 123)) (.call (.glo 34) (Es [.attr (.loc 10) 122])))]
noncomputable def r46:FnRec:=⟨[10],[],b46⟩
noncomputable def b47:MSs:=Ss [.ifS (.of (.cmp .lt (.meth (.loc 10) 126 .nil) (.loc 15))) (Ss [.raise (.call (.glo 127) (Es [.fstr (Es [.loc 15])]))]) .nil]
noncomputable def r47:FnRec:=⟨[10,15],[],b47⟩
noncomputable def b48:MSs:=Ss [.ifS (.of (.attr (.loc 10) 124)) (Ss [.expr (.meth (.attr (.loc 10) 90) 79 (Es [.loc 14, .bin .mul (.call (.glo 128) (Es [.lstF (Es [.loc 24])])) (.attr (.loc 10) 12)]))]) .nil]
noncomputable def r48:FnRec:=⟨[10,14,24],[],b48⟩
noncomputable def b49:MSs:=Ss [.expr (.meth (.loc 10) 132 (Es [.int 1])), .ifS (.of (.cmp .gt (.call (.glo 34) (Es [.attr (.loc 10) 122])) (.int 0))) (Ss [.assign (.name 14) (.meth (.attr (.loc 10) 122) 3 .nil)]) (Ss [.assign (.name 14) (.meth (.loc 10) 131 (Es [.attr (.loc 10) 123])), .augAttr 10 123 (.int 1)]), .assign (.idx (.attr (.loc 10) 121) (.loc 14)) (.int 1), .expr (.meth (.loc 10) 129 (Es [.loc 14, .glo 130])), .ret (.loc 14)]
noncomputable def r49:FnRec:=⟨[10],[],b49⟩
noncomputable def b50:MSs:=Ss [.expr (.initOf 134 (Es [.loc 10, .loc 133])), .assign (.attr (.loc 10) 133) (.loc 133)]
noncomputable def r50:FnRec:=⟨[10,133],[.str 187],b50⟩
noncomputable def b51:MSs:=Ss [.expr (.initOf 135 (Es [.loc 10, .fstr (Es [.loc 118, .loc 19])])), .assign (.attr (.loc 10) 118) (.loc 118), .assign (.attr (.loc 10) 19) (.loc 19)]
noncomputable def r51:FnRec:=⟨[10,118,19],[.int 0],b51⟩
noncomputable def b52:MSs:=Ss [.tryS (Ss [.ret (.meth (.loc 168) 88 (Es [.loc 75, .loc 14, .idx (.lstF (Es [.str 156, .str 77, .str 79])) (.loc 57), .int 0]))]) 70 (some 157) (Ss [.ret (.tup (Es [.attr (.loc 157) 118, .attr (.loc 157) 19]))])]
noncomputable def r52:FnRec:=⟨[168,75,14,57],[],b52⟩
noncomputable def b53:MSs:=Ss [.assign (.names [38,48]) (.tup (Es [.bin .mul (.int 16) (.bin .mod (.loc 170) (.int 55)), .idx (.lstF (Es [.int 22, .int 18, .int 26, .int 30, .int 2])) (.bin .mod (.bin .fdiv (.loc 170) (.int 55)) (.int 5))])), .assign (.name 189) (.cmp .isNot (.meth (.loc 140) 2 (Es [.bin .sub (.bin .fdiv (.loc 42) (.int 4)) (.int 100)])) .none), .tryS (Ss [.ifS (.of (.cmp .eq (.loc 167) (.int 0))) (Ss [.expr (.meth (.loc 114) 141 (Es [.loc 75, .bin .mul (.int 16) (.loc 42), .loc 38, .loc 48]))]) (Ss [.ifS (.of (.cmp .eq (.loc 167) (.int 1))) (Ss [.expr (.meth (.loc 114) 190 (Es [.loc 75, .bin .mul (.int 16) (.loc 42)]))]) (Ss [.ifS (.of (.cmp .eq (.loc 167) (.int 2))) (Ss [.expr (.meth (.loc 114) 191 (Es [.loc 75, .bin .mul (.int 16) (.loc 42), .loc 38, .loc 48]))]) (Ss [.expr (.meth (.loc 114) 144 (Es [.loc 75, .bin .mul (.int 64) (.bin .fdiv (.loc 42) (.int 4)), .bin .mul (.int 64) (.bin .mod (.loc 170) (.int 13)), .loc 48]))])])])]) 8 none (Ss [.ret (.boolop false (Es [.loc 189, .ite (.of (.cmp .eq (.loc 167) (.int 3))) (.cmp .isIn (.bin .fdiv (.loc 42) (.int 4)) (.loc 188)) (.cmp .eq (.cmp .isIn (.loc 42) (.loc 140)) (.cmp .eq (.loc 167) (.int 0)))]))]), .ifS (.ops false (Ts [.of (.loc 189), .ite (.of (.cmp .eq (.loc 167) (.int 3))) (.of (.cmp .isIn (.bin .fdiv (.loc 42) (.int 4)) (.loc 188))) (.of (.cmp .eq (.cmp .isIn (.loc 42) (.loc 140)) (.cmp .eq (.loc 167) (.int 0))))])) (Ss [.ret (.bool false)]) .nil, .ifS (.of (.cmp .eq (.loc 167) (.int 1))) (Ss [.expr (.meth (.loc 140) 3 (Es [.loc 42]))]) (Ss [.ifS (.of (.cmp .eq (.loc 167) (.int 3))) (Ss [.assign (.idx (.loc 140) (.bin .sub (.bin .fdiv (.loc 42) (.int 4)) (.int 100))) (.tup (Es [.bin .mul (.int 64) (.bin .mod (.loc 170) (.int 13)), .loc 48]))]) (Ss [.assign (.idx (.loc 140) (.loc 42)) (.tup (Es [.loc 38, .loc 48])), .ifS (.of (.cmp .notIn (.bin .fdiv (.loc 42) (.int 4)) (.loc 188))) (Ss [.expr (.meth (.loc 188) 0 (Es [.bin .fdiv (.loc 42) (.int 4)]))]) .nil])]), .ret (.bool true)]
noncomputable def r53:FnRec:=⟨[114,75,140,188,167,42,170],[],b53⟩
noncomputable def b54:MSs:=Ss [.assign (.name 164) (.lcomp 42 [140] (.call (.glo 163) (Es [.loc 140])) (Ts [.ops true (Ts [.of (.cmp .ge (.loc 42) (.int 0)), .of (.cmp .eq (.bin .and (.idx (.idx (.loc 140) (.loc 42)) (.int 1)) (.int 18)) (.int 18))])]) (.loc 42)), .ifS (.of (.cmp .lt (.call (.glo 34) (Es [.loc 164])) (.int 2))) (Ss [.ret (.bool true)]) .nil, .assign (.names [192,165]) (.tup (Es [.call (.glo 175) (Es [.loc 84, .int 1]), .lcomp 42 [140] (.sliceTo (.loc 164) (.int 2)) .nil (.tup (Es [.loc 42, .idx (.idx (.loc 140) (.loc 42)) (.int 0)]))])), .forS (.names [42,38]) (.loc 165) (Ss [.ifS (.of (.cmp .ne (.call (.glo 171) (Es [.loc 192, .loc 75, .bin .add (.bin .mul (.int 16) (.loc 42)) (.int 4), .int 1])) (.bin .add (.loc 38) (.int 4)))) (Ss [.ret (.bool false)]) .nil]), .forS (.names [42,38]) (.loc 165) (Ss [.ifS (.of (.cmp .ne (.meth (.loc 114) 190 (Es [.loc 75, .bin .mul (.int 16) (.loc 42)])) (.loc 38))) (Ss [.ret (.bool false)]) .nil, .expr (.meth (.loc 140) 3 (Es [.loc 42]))]), .ifS (.of (.cmp .ne (.call (.glo 171) (Es [.loc 192, .loc 75, .bin .add (.bin .mul (.int 16) (.idx (.idx (.loc 165) (.int 1)) (.int 0))) (.int 6), .int 1])) (.bin .add (.idx (.idx (.loc 165) (.int 1)) (.int 1)) (.int 6)))) (Ss [.ret (.bool false)]) .nil, .ret (.cmp .eq (.call (.glo 171) (Es [.loc 192, .loc 75, .bin .add (.bin .mul (.int 16) (.idx (.idx (.loc 165) (.int 0)) (.int 0))) (.int 4), .int 1])) (.tup (Es [.int 13, .bin .add (.bin .mul (.int 16) (.idx (.idx (.loc 165) (.int 0)) (.int 0))) (.int 4)])))]
noncomputable def r54:FnRec:=⟨[84,114,75,140],[],b54⟩
noncomputable def b55:MSs:=Ss [.assign (.name 139) (.bin .add (.lcomp 138 [] (.sliceTo (.loc 185) (.int 10)) .nil (.bin .mod (.call (.glo 186) (Es [.loc 138])) (.bin .pow (.int 10) (.int 12)))) (.bin .mul (.lstF (Es [.int 42, .int 3])) (.call (.glo 145) (Es [.cmp .eq (.loc 185) (.lstF .nil)])))), .assign (.names [143,90,64]) (.tup (Es [.call (.glo 184) (Es [.loc 139]), .call (.glo 183) (Es [.int 1024]), .call (.glo 182) (Es [.int 4])])), .assign (.name 180) (.call (.glo 181) (Es [.loc 90, .int 864, .int 10, .int 16])), .assign (.name 84) (.call (.glo 176) (Es [.call (.glo 178) (Es [.loc 90]), .loc 64])), .assign (.names [114,168]) (.tup (Es [.call (.glo 179) (Es [.loc 90, .loc 64, .loc 180]), .call (.glo 175) (Es [.loc 84, .bin .add (.int 1) (.bin .mod (.loc 143) (.int 4))])])), .assign (.names [195,194,188]) (.tup (Es [.lstF (Es [.meth (.loc 114) 94 .nil, .meth (.loc 114) 94 .nil]), .lstF (Es [.dict0, .dict0]), .lstF (Es [.lstM (Es [.int 0, .int 1]), .lstM (Es [.int 0, .int 1])])])), .forS (.name 196) (.call (.glo 111) (Es [.int 2])) (Ss [.forS (.name 42) (.tup (Es [.bin .mul (.int 3) (.loc 196), .int 5, .bin .add (.int 6) (.loc 196)])) (Ss [.expr (.meth (.loc 114) 141 (Es [.idx (.loc 195) (.loc 196), .bin .mul (.int 16) (.loc 42), .bin .mul (.int 16) (.bin .add (.loc 42) (.bin .mul (.int 20) (.loc 196))), .int 22])), .assign (.idx (.idx (.loc 194) (.loc 196)) (.loc 42)) (.tup (Es [.bin .mul (.int 16) (.bin .add (.loc 42) (.bin .mul (.int 20) (.loc 196))), .int 22]))])]), .assign (.name 199) (.lstF (Es [.int 0, .int 80, .int 1])), .forS (.name 138) (.loc 139) (Ss [.assign (.names [196,42,57,167,170]) (.tup (Es [.bin .mod (.loc 138) (.int 2), .bin .mod (.bin .fdiv (.loc 138) (.int 2)) (.int 16), .bin .mod (.bin .fdiv (.loc 138) (.int 32)) (.int 3), .bin .mod (.bin .fdiv (.loc 138) (.int 96)) (.int 7), .bin .fdiv (.loc 138) (.int 672)])), .assign (.name 14) (.bin .add (.bin .mul (.int 16) (.loc 42)) (.bin .mod (.loc 170) (.int 16))), .assign (.name 202) (.ite (.of (.cmp .gt (.bin .mod (.loc 170) (.int 3)) (.int 0))) (.lstF (Es [.loc 196, .loc 14, .loc 57])) (.loc 199)), .forS (.names [200,30,201]) (.lstF (Es [.lstF (Es [.loc 196, .loc 14, .loc 57]), .loc 202, .lstF (Es [.bin .sub (.int 1) (.loc 196), .loc 14, .loc 57])])) (Ss [.ifS (.of (.cmp .ne (.call (.glo 171) (Es [.loc 168, .idx (.loc 195) (.loc 200), .loc 30, .loc 201])) (.call (.glo 172) (Es [.idx (.loc 194) (.loc 200), .loc 30, .loc 201])))) (Ss [.ret (.bool false)]) .nil]), .assign (.name 199) (.lstF (Es [.loc 196, .loc 14, .loc 57])), .ifS (.of (.cmp .lt (.loc 167) (.int 4))) (Ss [.assign (.name 197) (.call (.glo 172) (Es [.idx (.loc 194) (.loc 196), .loc 14, .loc 57])), .ifS (.not (.of (.call (.glo 198) (Es [.loc 114, .idx (.loc 195) (.loc 196), .idx (.loc 194) (.loc 196), .idx (.loc 188) (.loc 196), .loc 167, .loc 42, .loc 170])))) (Ss [.ret (.bool false)]) .nil, .assign (.name 158) (.lstF (Es [.loc 197, .call (.glo 172) (Es [.idx (.loc 194) (.loc 196), .loc 14, .loc 57])])), .ifS (.ops true (Ts [.of (.cmp .eq (.bin .mod (.loc 170) (.int 5)) (.int 0)), .of (.cmp .notIn (.call (.glo 171) (Es [.loc 168, .idx (.loc 195) (.loc 196), .loc 14, .loc 57])) (.loc 158))])) (Ss [.ret (.bool false)]) .nil, .ifS (.ops false (Ts [.of (.cmp .eq (.loc 167) (.int 3)), .of (.cmp .eq (.bin .mod (.loc 170) (.int 2)) (.int 0))])) (Ss [.expr (.meth (.loc 168) 173 .nil)]) (Ss [.expr (.meth (.loc 168) 173 (Es [.loc 14]))]), .ifS (.of (.cmp .ne (.call (.glo 171) (Es [.loc 168, .idx (.loc 195) (.loc 196), .loc 14, .loc 57])) (.call (.glo 172) (Es [.idx (.loc 194) (.loc 196), .loc 14, .loc 57])))) (Ss [.ret (.bool false)]) .nil]) .nil]), .forS (.name 196) (.call (.glo 111) (Es [.int 2])) (Ss [.forS (.name 42) (.tup (Es [.int 0, .int 3, .int 5, .int 6, .int 7, .bin .mod (.loc 143) (.int 16)])) (Ss [.ifS (.of (.cmp .ne (.call (.glo 171) (Es [.loc 168, .idx (.loc 195) (.loc 196), .bin .add (.bin .mul (.int 16) (.loc 42)) (.int 9), .int 1])) (.call (.glo 172) (Es [.idx (.loc 194) (.loc 196), .bin .add (.bin .mul (.int 16) (.loc 42)) (.int 9), .int 1])))) (Ss [.ret (.bool false)]) .nil])]), .ret (.call (.glo 193) (Es [.loc 84, .loc 114, .idx (.loc 195) (.bin .mod (.loc 143) (.int 2)), .idx (.loc 194) (.bin .mod (.loc 143) (.int 2))]))]
noncomputable def r55:FnRec:=⟨[185],[],b55⟩
noncomputable def nmL:List Str:=[S [97,112,112,101,110,100],S [101,120,116,101,110,100],S [103,101,116],S [112,111,112],S [101,110,100],S [87,79,82,68],S [98,101,103,105,110],S [83,80,65,67,69],S [66,97,100,65,114,103,117,109,101,110,116],S [97,32,115,116,114,101,116,99,104,32,111,102,32,119,104,111,108,101,32,119,111,114,100,115],S [115,101,108,102],S [119,111,114,100,115],S [115,105,122,101],S [110,101,101,100,95,115,116,114,101,116,99,104],S [97,100,100,114,101,115,115],S [99,111,117,110,116],S [66,97,100,65,100,100,114,101,115,115],S [110,101,101,100,95,97,108,105,103,110,101,100],S [107,101,101,112],S [118,97,108,117,101],S [77,65,83,75],S [105,110,100,101,120],S [104,97,108,102],S [110,101,101,100,95,115,105,122,101],S [111,99,116,101,116],S [119,111,114,100],S [112,117,116,95,119,111,114,100],S [112,117,116,95,111,99,116,101,116],S [112,117,116,95,104,97,108,102],S [97,116],S [112,108,97,99,101],S [112,117,116,95,112,97,114,116],S [111,99,116,101,116,115],S [109,105,110],S [108,101,110],S [110,101,101,100],S [108,97,114,103,101],S [101,110,116,114,105,101,115],S [112,97,103,101],S [108,101,118,101,108,95,98,105,116,115],S [112,97,103,101,95,98,105,116,115],S [112,97,103,101,115,32,111,102,32,49,54,32,116,111,32,52,48,57,54,32,111,99,116,101,116,115],S [110,117,109,98,101,114],S [102,105,114,115,116],S [115,101,99,111,110,100],S [111,102,102,115,101,116],S [112,104,121,115,105,99,97,108],S [70,76,65,71,95,66,73,84,83],S [102,108,97,103,115],S [101,110,116,114,121],S [76,69,65,70],S [82,69,65,68],S [87,82,73,84,69],S [86,65,76,73,68],S [69,88,69,67,85,84,69],S [98,111,111,108],S [109,120,114],S [107,105,110,100],S [83,84,79,82,69],S [70,69,84,67,72],S [115,117,109,95,98,105,116],S [85,83,69,82],S [109,111,100,101],S [85,83,69,82,95,77,79,68,69],S [108,97,121,111,117,116],S [98,117,115],S [112,97,114,116,115],S [109,97,114,107],S [109,97,121],S [105,115,95,108,101,97,102],S [84,114,97,112],S [80,65,71,69,95,70,65,85,76,84,83],S [101,110,116,114,121,95,97,116],S [69,78,84,82,89],S [108,97,114,103,101,95,112,97,103,101],S [114,111,111,116],S [105,115,95,115,111,117,110,100],S [108,111,97,100],S [100,117,101],S [115,116,111,114,101],S [65,67,67,69,83,83,69,68],S [68,73,82,84,89],S [107,110,111,119,110],S [114,111,111,109],S [119,97,108,107,101,114],S [114,111,111,109,32,102,111,114,32,111,110,101,32,112,97,103,101,32,97,116,32,108,101,97,115,116],S [100,111,119,110],S [107,101,121],S [116,114,97,110,115,108,97,116,101],S [112,97,103,101,115],S [109,101,109,111,114,121],S [122,101,114,111],S [116,97,107,101],S [97,110,32,97,100,100,114,101,115,115,32,98,101,121,111,110,100,32,97,108,108,32,116,97,98,108,101,115],S [110,101,119,95,116,97,98,108,101],S [109,97,107,101],S [97,110,32,97,100,100,114,101,115,115,32,105,110,32,97,32,108,97,114,103,101,32,112,97,103,101],S [110,101,101,100,95,112,97,114,116,115],S [70,76,65,71,83],S [102,108,97,103,115,32,111,102,32,97,32,112,97,103,101],S [119,97,108,107],S [97,32,112,97,103,101,32,116,104,97,116,32,105,115,32,116,104,101,114,101,32,97,108,114,101,97,100,121],S [105,115,95,98,101,103,105,110],S [116,104,101,32,98,101,103,105,110,32,111,102,32,97,32,112,97,103,101],S [110,101,101,100,95,102,108,97,103,115],S [97,32,116,97,98,108,101,32,111,114,32,97,32,112,97,103,101,32,116,104,97,116,32,105,115,32,116,104,101,114,101,32,97,108,114,101,97,100,121],S [116,104,101,32,98,101,103,105,110,32,111,102,32,97,32,108,97,114,103,101,32,112,97,103,101],S [97,32,112,97,103,101,32,116,104,97,116,32,105,115,32,110,111,116,32,116,104,101,114,101],S [97,100,100],S [110,101,101,100,95,112,108,97,99,101],S [102,111,117,110,100],S [114,97,110,103,101],S [114,111,119],S [114,111,119,115,95,111,102],S [116,97,98,108,101],S [115,116,114,101,116,99,104,101,115],S [115,116,114,101,116,99,104],S [100,101,118,105,99,101],S [99,97,117,115,101],S [115,116,114,101,116,99,104,95,97,116],S [112,117,116],S [104,101,108,100],S [103,105,118,101,110],S [117,110,116,111,117,99,104,101,100],S [102,105,108,108],S [112,97,103,101,115,32,116,104,97,116,32,100,111,32,110,111,116,32,115,116,97,110,100,32,105,110,32,111,114,100,101,114],S [102,114,101,101,95,99,111,117,110,116],S [78,111,82,111,111,109],S [98,121,116,101,115],S [102,105,108,108,101,100],S [84,65,75,69,78],S [97,100,100,114,101,115,115,95,111,102],S [110,101,101,100,95,102,114,101,101],S [114,101,97,115,111,110],S [86,97,108,117,101,69,114,114,111,114],S [66,111,97,114,100,69,114,114,111,114],S [101,110,117,109,101,114,97,116,101],S [107],S [110],S [109,97,114,107,115],S [111,119,110],S [109,97,112],S [98,105,103],S [115,101,101,100],S [109,97,112,95,108,97,114,103,101],S [105,110,116],S [119,114,105,116,101],S [109,97,120],S [114,117,110],S [101,120,116,114,97],S [114,101,97,100],S [115,116,114,97,110,103,101],S [119,114,111,110,103],S [117,115,101,114],S [98,105,116],S [95,108,97,119,95,99,101,108,108],S [102,101,116,99,104],S [116,114,97,112],S [116,111,108,100],S [102,114,101,115,104,95,102,108,97,103,115],S [108,111,115,115],S [103,97,105,110],S [99,104,97,110,103,101],S [115,111,114,116,101,100],S [115,111,109,101],S [114,111,119,115],S [95,108,97,119,95,114,111,119,115],S [119,97,121],S [113,117,105,99,107],S [112,108,97,105,110],S [114,101,115,116],S [95,108,97,119,95,116,111,108,100],S [95,108,97,119,95,100,117,101],S [102,111,114,103,101,116],S [95,108,97,119,95,99,104,97,110,103,101,100],S [81,117,105,99,107],S [87,97,108,107,101,114],S [95,108,97,119,95,109,97,112,112,101,100],S [66,117,115],S [84,97,98,108,101,115],S [112,111,111,108],S [80,97,103,101,115],S [76,97,121,111,117,116],S [77,101,109,111,114,121],S [115,117,109],S [115,99,114,105,112,116],S [97,98,115],S [],S [109,97,100,101],S [105,115,95,108,97,114,103,101],S [117,110,109,97,112],S [109,111,118,101],S [108,111,110,101],S [95,108,97,119,95,108,111,110,101,95,114,105,103,104,116],S [111,119,110,115],S [114,111,111,116,115],S [119,104,105,99,104],S [111,108,100],S [95,108,97,119,95,100,101,101,100],S [108,97,115,116],S [115,112,97,99,101],S [115,111,114,116],S [97,115,107,101,100]]
noncomputable def fnL:List Addr:=[473,488,502,509,516,523,530,572,579,593,600,122,129,137,144,158,172,179,198,205,212,226,234,241,248,255,285,293,299,320,327,334,342,349,363,370,377,384,391,406,881,703,725,733,769,776,804,811,818,825,36,100,888,895,900,905]
noncomputable def clL:List Addr:=[643,182,870,266,302,454,750,103,52,39]
noncomputable def a1t:TabL:=⟨[(5, .int 4),(7, .int 4294967296),(8, .cls 8),(13, .fn 0),(20, .int 4294967295),(33, .bi .min),(34, .bi .len),(47, .int 10),(50, .int 10),(51, .int 2),(52, .int 4),(53, .int 1),(54, .int 8),(55, .bi .bool),(58, .str 79),(59, .str 156),(61, .int 16),(63, .int 0),(68, .fn 20),(69, .fn 18),(70, .cls 7),(71, .sdict [(156,12),(77,13),(79,15)]),(73, .int 4),(76, .fn 19),(80, .int 64),(81, .int 128),(98, .int 1023),(111, .bi .range),(128, .bi .bytes),(130, .int 5),(134, .bi .verr),(135, .cls 9),(145, .bi .int),(163, .bi .sorted),(171, .fn 52),(172, .fn 40),(175, .cls 4),(176, .cls 3),(178, .cls 6),(179, .cls 5),(181, .cls 2),(182, .cls 1),(183, .cls 0),(184, .bi .sum),(186, .bi .abs),(193, .fn 54),(198, .fn 53)],
 [⟨some 1,false,[(35,2),(17,3),(25,4),(26,5),(18,6),(2,7),(120,8),(79,9),(91,10)],[4,6,11,12],[]⟩,
  ⟨some 11,false,[(66,12),(14,13),(86,14),(102,15),(49,16),(46,17)],[4,36,37,38,39,40],[]⟩,
  ⟨some 44,false,[(131,45),(126,46),(132,47),(129,48),(92,49)],[6,12,15,90,121,122,123,124],[]⟩,
  ⟨some 21,false,[(88,22),(72,23),(74,24),(67,25)],[64,65],[]⟩,
  ⟨some 26,false,[(88,27),(173,28)],[64,82,83,84],[]⟩,
  ⟨some 29,false,[(94,30),(97,31),(100,32),(49,33),(104,34),(141,35),(144,36),(109,37),(190,38),(191,39)],[64,89,90],[]⟩,
  ⟨some 41,false,[(77,42),(79,43)],[90,115],[]⟩,
  ⟨some 51,true,[],[19,118,133],[7,9]⟩,
  ⟨some 50,true,[],[133],[8,9]⟩,
  ⟨some 50,true,[],[133],[9]⟩],
 [r0,r1,r2,r3,r4,r5,r6,r7,r8,r9,r10,r11,r12,r13,r14,r15,r16,r17,r18,r19,r20,r21,r22,r23,r24,r25,r26,r27,r28,r29,r30,r31,r32,r33,r34,r35,r36,r37,r38,r39,r40,r41,r42,r43,r44,r45,r46,r47,r48,r49,r50,r51,r52,r53,r54,r55]⟩
end
section
noncomputable def adr:Adr:=⟨a66 nmL,c0s (by decide+kernel) (by decide+kernel),λi=>fnL.getD i 0,λi=>clL.getD i 0⟩
theorem cls1(P:Params):y8 (K P) adr 0 a1t.cls=true:=by kernel_rfl
theorem fns1(P:Params):a3b (K P) adr 0 a1t.fns=true:=by kernel_rfl
theorem d24(P:Params):a1t.glob.all (λp=>c45 (K P) adr p.1 p.2||p.1==71)=true:=by kernel_rfl
end
section
noncomputable def pp1(w:World)(s:Shared):Par:=⟨M9.row.toRowW.prog,w,adr,s.heap,s.gens,s.os,K w.params⟩
theorem d4a(prog:Program)(w:World):(c4g w.params).IsDictOf (strKind prog w) [(S [102,101,116,99,104], .int 12 315),(S [108,111,97,100], .int 13 317),(S [115,116,111,114,101], .int 15 319)]:=
 ⟨_,_,⟨rfl,rfl,rfl⟩,rfl,(λe he=>by
  have he:=Array.mem_toList_iff.mpr he;rcases List.mem_cons.mp he with rfl |he
  ·exact⟨_,strKind_is prog w (S [102,101,116,99,104]) _,rfl⟩
  rcases List.mem_cons.mp he with rfl |he
  ·exact⟨_,strKind_is prog w (S [108,111,97,100]) _,rfl⟩
  rcases List.mem_cons.mp he with rfl |he
  ·exact⟨_,strKind_is prog w (S [115,116,111,114,101]) _,rfl⟩
  cases he), .cons (strKind_is prog w _ _) rfl (.cons (strKind_is prog w _ _) rfl (.cons (strKind_is prog w _ _) rfl .nil)),by decide+kernel⟩
theorem d2v(P:Params):X9 (K P) (adr.nm 71)=some (.ref 106):=by kernel_rfl
theorem pfAt(P:Params):(K P).lookup 106=some (c4g P):=by kernel_rfl
theorem d17:a1t.glob.lookup 71=some (.sdict [(156,12),(77,13),(79,15)]):=by kernel_rfl
theorem c7b:[S [102,101,116,99,104],S [108,111,97,100],S [115,116,111,114,101]]=[adr.nm 156,adr.nm 77,adr.nm 79]:=by kernel_rfl
theorem c3d(P:Params):(K P).lookup 103=some (c8g P):=by kernel_rfl
theorem c84(P:Params):(K P).lookup 52=some (o52 P):=by kernel_rfl
theorem d0l(P:Params):(K P).lookup 39=some (b5e P):=by kernel_rfl
theorem c91(P:Params):ExcIn (K P) 103 [.ref 39, .type "ValueError", .type "Exception", .type "BaseException", .type "object"]:=⟨_,_,_,_,_,_,_,_,_,_,_,_,_,_,_,_,(c3d P).trans (by rfl:some (c8g P)=_)⟩
theorem c8f(P:Params):ExcIn (K P) 52 [.ref 39, .type "ValueError", .type "Exception", .type "BaseException", .type "object"]:=⟨_,_,_,_,_,_,_,_,_,_,_,_,_,_,_,_,(c84 P).trans (by rfl:some (o52 P)=_)⟩
theorem d0b(P:Params):ExcIn (K P) 39 [.type "ValueError", .type "Exception", .type "BaseException", .type "object"]:=⟨_,_,_,_,_,_,_,_,_,_,_,_,_,_,_,_,(d0l P).trans (by rfl:some (b5e P)=_)⟩
theorem exc1(P:Params):ExcsOk (K P) adr (p8 a1t):=b3f λc r hr hx=>by
 have hc:c<10:=(List.getElem?_eq_some_iff.mp hr).1;have hb: ∀c,c<10->(a1t.cls[c]?).any (·.exc)=true->c=7\/c=8\/c=9:=by decide+kernel
 rcases hb c hc (by rw[hr];exact hx)with rfl |rfl |rfl
 ·cases hr;exact⟨_,c91 P,by decide+kernel⟩
 ·cases hr;exact⟨_,c8f P,by decide+kernel⟩
 ·cases hr;exact⟨_,d0b P,by decide+kernel⟩
theorem b3a:NmOk adr:=⟨by kernel_rfl,by kernel_rfl,by kernel_rfl,by kernel_rfl⟩
theorem d1w(P:Params):(K P).lookup sysModules=some (o1 P):=by kernel_rfl
theorem d3e{w:World}{s:Shared}{mb:Str->Option Value}(X:(K w.params).In s.heap)(hb:s.heap.Ns builtinsNs mb)(hmb: ∀x:Str,x≠ "__name__" ->mb x=bootBuiltins x)(lim:s.heap.NoLimit):ProgOk (pp1 w s) (p8 a1t):=
 b3t X (by show(s.heap.get? sysModules).isSome=true;rw[X _ _ (d1w _)];rfl) b3a lim
  (b2l (sd:=71) X hb hmb (d24 _) ⟨_,d2v _,λG hG a ha=>by
   rw[d17]at ha;cases ha;exact⟨106,c4g w.params,_,rfl,hG _ _ (X _ _ (pfAt _)),d4a _ w,c7b,[315,317,319],rfl,rfl⟩⟩)
  (cls1 _) (exc1 _) (fns1 _)
end
section
theorem c7t(P:Params):lookIn d0.name (c1b P)=some (some (.ref (adr.fnA 55))):=by kernel_rfl
theorem c4d(P:Params):(K P).lookup mainGlobals=some (c1b P):=by kernel_rfl
theorem d2i{xs:List WData}(h:M9.row.toRowW.pre.holds M9.row.toRowW.records { args:=[.list xs] }=true):xs.length<=63:=by
 rw[show M9.row.toRowW.pre.holds M9.row.toRowW.records { args:=[.list xs] }=WTm.holds M9.row.toRowW.records (.and (.not (.lit (.bool (decide ((63:Int)<(xs.length:Int)))))) (.lit (.bool true))) { args:=[.list xs] }by kernel_rfl]at h
 by_cases q:(63:Int)<(xs.length:Int)
 ·rw[decide_eq_true q]at h
  exact absurd ((by kernel_rfl:false=WTm.holds M9.row.toRowW.records (.and (.not (.lit (.bool true))) (.lit (.bool true))) { args:=[.list xs] }).trans h) Bool.false_ne_true
 ·lia
theorem walk1(plain: ∀l:List Int,l.length<=63-> ∃m J,m<=80/\a7 (p8 a1t) m 55 [.arg l] []= .ok (.bool true) J):
  WalkO qv names0 (λ_ _=>True) (λw h=>(K w.params).In h) M9.row.toRowW d0 [] (λf vs=>PySem.call f vs):=λw bb au mg mb G X a o pm cd doc dV kV ha hd hc hdf hm hgen args vals as hp hl r wl low=>by
 obtain⟨p1,p2⟩:=pre_splitW hp;obtain⟨d,ds,rfl,q1,q2⟩:=hasAllW_cons p1;have:=hasAllW_nil q2;subst this;obtain⟨xs,rfl,q3⟩:=hasW_list q1;obtain⟨v,vs,as1,as2,rfl,rfl,r1,r2⟩:=readsAllW_cons_inv r;obtain⟨rfl,rfl⟩:=readsAllW_nil_inv r2;obtain⟨b,ob,its,n,ai,rfl,hb1,hb2,hb3,hb4,rfl⟩:=readsW_list_open r1;obtain⟨l,rfl,hI⟩:=b0g q3 hb4;have hlen:=d2i p2;rw[List.length_map]at hlen;obtain⟨m,J,hm80,hplain⟩:=plain l hlen;have P:=d3e (w:=w) (s:=au) X G.T.b G.T.builtins G.T.nolimit;have ea:a=adr.fnA 55:=by
  obtain⟨o',e1,e2⟩:=Q7 G.T.g;rw[X _ _ (c4d _)]at e1;cases e1;have e3:=e2 d0.name;rw[c7t,hm]at e3;cases e3;rfl
 subst ea;refine wpAny_mono (b3z (i:=55) P rfl rfl rfl hb1 hb2 hb3 hI hm80 hplain) (λv s' h=> ?_) λ_ _ z=>z;obtain⟨rfl,h1,h2,h3⟩:=h;exact⟨.inl ⟨.bool true, .bool true,[],rfl,raisesW_false (λ_ z=>nomatch z), .bool true,postW_of (X:=true) (by kernel_rfl) (by kernel_rfl) rfl,λ_=>⟨.nil,λ_ z=>nomatch z⟩⟩, .of_keep h1,h3, .of_eq (h2.trans hgen)⟩
end
section
noncomputable abbrev TT:Tab:=p8 a1t
noncomputable abbrev cm(m:Nat):Cx:=⟨a7 TT m,true,TT⟩
section
variable{C:Cx}{l l' aq:Loc}{J ae af:H}{t:MB}{a b r:MSs}{e:ME}{v:AV}{tg:MT}{x:RS}{id:Nat}
theorem if0(ht:tstE C l t J= .ok false ae)(h:execB C r l ae=x):execB C (.cons (.ifS t a .nil) r) l J=x:=by
 show((tstE C l t J).thenB l λx J=>match x with |true=>execB C a l J |false=>execB C .nil l J).and _=x;rw[ht];exact h
theorem iff(ht:tstE C l t J= .ok false ae)(hb:execB C b l ae= .next aq af)(h:execB C r aq af=x):execB C (.cons (.ifS t a b) r) l J=x:=by
 show((tstE C l t J).thenB l λx J=>match x with |true=>execB C a l J |false=>execB C b l J).and _=x;rw[ht];show(execB C b l ae).and _=x;rw[hb];exact h
theorem ift(ht:tstE C l t J= .ok true ae)(ha:execB C a l ae= .next aq af)(h:execB C r aq af=x):execB C (.cons (.ifS t a b) r) l J=x:=by
 show((tstE C l t J).thenB l λx J=>match x with |true=>execB C a l J |false=>execB C b l J).and _=x;rw[ht];show(execB C a l ae).and _=x;rw[ha];exact h
theorem ifr(ht:tstE C l t J= .ok true ae)(ha:execB C a l ae= .ret v af):execB C (.cons (.ifS t a b) r) l J= .ret v af:=by
 show((tstE C l t J).thenB l λx J=>match x with |true=>execB C a l J |false=>execB C b l J).and _=_;rw[ht];show(execB C a l ae).and _=_;rw[ha];rfl
theorem ifx(ht:tstE C l t J= .ok true ae)(ha:execB C a l ae= .exc id aq af):execB C (.cons (.ifS t a b) r) l J= .exc id aq af:=by
 show((tstE C l t J).thenB l λx J=>match x with |true=>execB C a l J |false=>execB C b l J).and _=_;rw[ht];show(execB C a l ae).and _=_;rw[ha];rfl
theorem ex(he:a6 C l e J= .ok v ae)(h:execB C r l ae=x):execB C (.cons (.expr e) r) l J=x:=by
 show((a6 C l e J).then l λ_ J=> .next l J).and _=x;rw[he];exact h
theorem exx(he:a6 C l e J= .exc id ae):execB C (.cons (.expr e) r) l J= .exc id l ae:=by
 show((a6 C l e J).then l λ_ J=> .next l J).and _=_;rw[he];rfl
theorem rt(he:a6 C l e J= .ok v ae):execB C (.cons (.ret e) r) l J= .ret v ae:=by
 show((a6 C l e J).then l λv J=> .ret v J).and _=_;rw[he];rfl
theorem H8(he:a6 C l e J= .ok v ae)(hs:v5 C v tg l ae= .ok l' af)(h:execB C r l' af=x):execB C (.cons (.assign tg e) r) l J=x:=by
 show((a6 C l e J).then l λv J=>(v5 C v tg l J).thenL l).and _=x;rw[he];show((v5 C v tg l ae).thenL l).and _=x;rw[hs];exact h
theorem at_{o:ME}{n c:Nat}{f:Nat->AV}(ho:a6 C l o J= .ok (.obj id) ae)(h:ae[id]? =some (.inst c f))(hf:C.T.fld c n=true)(hv:f n=v)(hu:v≠ .undef):a6 C l (.attr o n) J= .ok v ae:=by
 show(a6 C l o J).bind _=_;rw[ho];show a0n C.T.fld C.T.fldE (.obj id) n ae=_;unfold a0n n4;dsimp only;rw[h];show c6 R.bad (C.T.fld c n) (l9 .bad (f n) (.ok (f n) ae))=_;rw[hf,hv];exact a76 (m:=λr=>r=R.ok v ae) hu rfl
theorem z6{o:ME}{n c i:Nat}{f:Nat->AV}{args:MEs}{vs:List AV}{x:R AV}(ho:a6 C l o J= .ok (.obj id) ae)(h:ae[id]? =some (.inst c f))(hm:C.T.meth c n=some i)(hu:isU (f n)=true)(ha:evalEs C l args ae= .ok vs af)(hx:C.call i (.obj id::vs) af=x):a6 C l (.meth o n args) J=x:=by
 show(a6 C l o J).bind _=_;rw[ho];show opI _ ae[id]? _=_;rw[h];show g9 R.bad (C.T.meth c n) _=_;rw[hm];show c6 R.bad (isU (f n)) ((evalEs C l args ae).bind _)=_;rw[hu,ha];exact hx
theorem b1w{body h:MSs}{g:Nat}{as:Option Nat}(hb:execB C body l J= .next aq af)(hr:execB C r aq af=x):execB C (.cons (.tryS body g as h) r) l J=x:=by
 show((execB C body l J).orTry _).and _=x;rw[hb];exact hr
theorem d25{body h:MSs}{g:Nat}{as:Option Nat}(hb:execB C body l J= .ret v af):execB C (.cons (.tryS body g as h) r) l J= .ret v af:=by
 show((execB C body l J).orTry _).and _=_;rw[hb];rfl
theorem sx_{o:ME}{n c:Nat}{f:Nat->AV}(ho:a6 C l o J= .ok (.obj id) ae)(h:ae[id]? =some (.exc c f false))(hf:(C.T.fldE c n&&decide (n<256))=true)(hu:v≠ .undef):v5 C v (.attr o n) l J= .ok l (ae.set id (.exc c (upd f n v) false)):=by
 show(a6 C l o J).bind _=_;rw[ho];show g9 R.bad (A7 C.T.fld C.T.fldE (.obj id) n v ae) _=_;have e:A7 C.T.fld C.T.fldE (.obj id) n v ae=some (ae.set id (.exc c (upd f n v) false)):=by
  unfold A7 n4;dsimp only;rw[h];show c6 none (!false&&C.T.fldE c n&&decide (n<256)) _=_;rw[Bool.not_false,Bool.true_and,hf];rfl
 rw[e];rfl
theorem m6{ts:MBs}{x:R Bool}{b:Bool}(h:tstE C l t J= .ok b J)(hb:b=false)(k:tstEs C l false ts J=x):tstEs C l false (.cons t ts) J=x:=by
 subst hb;show(tstE C l t J).bind _=x;rw[h];exact k
theorem V7{ts:MBs}{b:Bool}(h:tstE C l t J= .ok b J)(hb:b=true):tstEs C l false (.cons t ts) J= .ok true J:=by
 subst hb;show(tstE C l t J).bind _=_;rw[h];rfl
theorem u4{ts:MBs}{x:R Bool}{b:Bool}(h:tstE C l t J= .ok b J)(hb:b=true)(k:tstEs C l true ts J=x):tstEs C l true (.cons t ts) J=x:=by
 subst hb;show(tstE C l t J).bind _=x;rw[h];exact k
theorem a4w{ts:MBs}{b:Bool}(h:tstE C l t J= .ok b J)(hb:b=false):tstEs C l true (.cons t ts) J= .ok false J:=by
 subst hb;show(tstE C l t J).bind _=_;rw[h];rfl
theorem chn{a b c:ME}{aO aT:COp}{x y z:AV}{b1 b2:Bool}(h1:a6 C l a J= .ok x J)(h2:a6 C l b J= .ok y J)(h3:w0 aO x y J= .ok (.bool b1) J)(hb:b1=true)(h4:a6 C l c J= .ok z J)(h5:w0 aT y z J= .ok (.bool b2) J):a6 C l (.chain a aO b aT c) J= .ok (.bool b2) J:=by
 subst hb;show(a6 C l a J).bind _=_;rw[h1];show(a6 C l b J).bind _=_;rw[h2];show(w0 aO x y J).bind _=_;rw[h3];show(a6 C l c J).bind _=_;rw[h4];exact h5
theorem j6{a b:ME}{op:BOp}{x y z:Int}(h1:a6 C l a J= .ok (.int x) J)(h2:a6 C l b J= .ok (.int y) J)(h3:a1q op x y=some z):a6 C l (.bin op a b) J= .ok (.int z) J:=by
 show(a6 C l a J).bind _=_;rw[h1];show(a6 C l b J).bind _=_;rw[h2];show g9 R.bad (a1q op x y) _=_;rw[h3];rfl
theorem b1n{k b:Bool}{e e':ME}{r:MEs}{x:R AV}(h:a6 C l e J= .ok (.bool b) J)(hb:b=k)(hk:boolE C l k (.cons e' r) J=x):boolE C l k (.cons e (.cons e' r)) J=x:=by
 subst hb;show(a6 C l e J).bind _=x;rw[h];show(match b==b with |true=>boolE C l b (.cons e' r) J |false=>_)=x;rw[BEq.rfl];exact hk
theorem a3q{k b:Bool}{e e':ME}{r:MEs}(h:a6 C l e J= .ok (.bool b) J)(hb:b= !k):boolE C l k (.cons e (.cons e' r)) J= .ok (.bool b) J:=by
 subst hb;show(a6 C l e J).bind _=_;rw[h];cases k<;>rfl
theorem W4{k:Bool}{e:ME}(h:a6 C l e J= .ok v J):boolE C l k (.cons e .nil) J= .ok v J:=by
 show(a6 C l e J).bind _=_;rw[h];rfl
theorem C4{b:Bool}{e:ME}(h:a6 C l e J= .ok (.bool b) J):tstE C l (.not (.of e)) J= .ok (!b) J:=by
 show((a6 C l e J).tru).bind _=_;rw[h];rfl
theorem tst{b c:Bool}(h:tstE C l t J= .ok b J)(hb:b=c):tstE C l t J= .ok c J:=hb▸h
theorem whn{α:Type}{r z y:α}{p:Bool}(h:r=c6 z p y)(hp:p=true):r=y:=by rw[h,hp];rfl
theorem whs{α β:Type}{r z:β}{y:α}{f:α->β}{p:Bool}(h:r=g9 z (c6 none p (some y)) f)(hp:p=true):r=f y:=by rw[h,hp];rfl
theorem c8{α β:Type}{r:R α}{f:α->H->R β}{x:α}{y:R β}(h:r= .ok x ae)(k:f x ae=y):r.bind f=y:=by rw[h];exact k
end
@[elab_as_elim] theorem lt3 {P:Nat->Prop} {k:Nat} (hk:k<3) (h0:P 0) (h1:P 1) (h2:P 2):P k:=match k,hk with
 |0,_=>h0
 |1,_=>h1
 |2,_=>h2
@[elab_as_elim] theorem lt4 {P:Nat->Prop} {k:Nat} (hk:k<4) (h0:P 0) (h1:P 1) (h2:P 2) (h3:P 3):P k:=match k,hk with
 |0,_=>h0
 |1,_=>h1
 |2,_=>h2
 |3,_=>h3
theorem j7{J:H}{x:AO}:(J++[x])[J.length]? =some x:=List.getElem?_concat_length ..
theorem I8{J:H}{x y:AO}:(J++[x]).set J.length y=J++[y]:=by rw[List.set_append_right _ _ (Nat.le_refl _),Nat.sub_self];rfl
noncomputable def bl(r:FnRec)(args:List AV):Loc:=(D6 r.params r.defaults args (λ_=> .undef)).getD (λ_=> .undef)
section
variable{m i id:Nat}{args:List AV}{J ae:H}{v:AV}{l':Loc}{x:RS}
theorem a20(r:FnRec)(hr:TT.fn i=some r)(hb:(D6 r.params r.defaults args (λ_=> .undef)).isSome=true)(h:execB (cm m) r.body (bl r args) J=x):a7 TT (m+1) i args J=x.back:=by
 obtain⟨l,e⟩:=Option.isSome_iff_exists.mp hb;show g9 R.bad (TT.fn i) _=_;rw[hr];show g9 R.bad (D6 r.params r.defaults args (λ_=> .undef)) _=_;unfold bl at h;rw[e]at h⊢;show RS.back (execB (cm m) r.body l J)=_;rw[<-h];rfl
theorem d6(r:FnRec)(hr:TT.fn i=some r)(hb:(D6 r.params r.defaults args (λ_=> .undef)).isSome=true)(h:execB (cm m) r.body (bl r args) J= .ret v ae):a7 TT (m+1) i args J= .ok v ae:=a20 r hr hb h
theorem m5(r:FnRec)(hr:TT.fn i=some r)(hb:(D6 r.params r.defaults args (λ_=> .undef)).isSome=true)(h:execB (cm m) r.body (bl r args) J= .next l' ae):a7 TT (m+1) i args J= .ok .none ae:=a20 r hr hb h
end
end
section
noncomputable def a1n:Nat->AV:=upd (upd (upd (upd (λ_=> .undef) 12 (.int 1024)) 6 (.int 0)) 4 (.int 1024)) 11 (.obj 1)
noncomputable abbrev hm(d:List (Int×AV))(aa:H):H:= .inst 0 a1n:: .idict d::aa
structure Wd (a:Int):Prop where
 al:(a.fmod 4==0)=true
 lo: ¬a<0
 hi: ¬1024<a+4
noncomputable def u8(d:List (Int×AV))(i:Int):AV:=g9 (.int 0) (a9 d i) λv=>v
section
variable{d:List (Int×AV)}{aa:H}{m:Nat}{a:Int}
theorem D7(w:Wd a):a7 TT (m+1) 3 [.obj 0, .int a, .int 4] (hm d aa)= .ok .none (hm d aa):=
 m5 r3 (by rfl) (by rfl) (if0 (m6 (b:= !(a.fmod 4==0)) (by kernel_rfl) (by rw[w.al];rfl) (m6 (b:=decide (a<0)) (by kernel_rfl) (decide_eq_false w.lo) (m6 (b:=decide (1024<a+4)) (by kernel_rfl) (decide_eq_false w.hi) rfl))) rfl)
theorem w4(w:Wd a):a7 TT (m+2) 4 [.obj 0, .int a] (hm d aa)= .ok (u8 d (a.fdiv 4)) (hm d aa):=
 d6 r4 (by rfl) (by rfl) (ex (v:= .none) (D7 w) (rt (by kernel_rfl)))
noncomputable def d9(d:List (Int×AV))(i v:Int):List (Int×AV):=if v=0 then o8 d i else i5 d i (.int v)
theorem a3i{i v:Int}(hf:n9 d.length=true):a7 TT (m+1) 6 [.obj 0, .int i, .int v] (hm d aa)= .ok .none (hm (d9 d i v) aa):=by
 unfold d9
 by_cases h:v=0
 ·rw[if_pos h];subst h
  exact m5 r6 (by rfl) (by rfl) (iff (ae:=hm d aa) (aq:=bl r6 [.obj 0, .int i, .int 0]) (af:=hm (o8 d i) aa) (by kernel_rfl)
   (ex (v:=g9 .none (a9 d i) λv=>v) (ae:=hm (o8 d i) aa) (whn (p:=n9 d.length) (z:= .bad) (by kernel_rfl) hf) rfl) rfl)
 ·rw[if_neg h]
  exact m5 r6 (by rfl) (by rfl) (ift (ae:=hm d aa) (aq:=bl r6 [.obj 0, .int i, .int v]) (af:=hm (i5 d i (.int v)) aa) (tst (b:= !(v==0)) (by kernel_rfl) (by simpa using h))
   (H8 (v:= .int v) (ae:=hm d aa) (af:=hm (i5 d i (.int v)) aa) (by kernel_rfl) (whs (p:=n9 d.length) (z:= .bad) (y:=hm (i5 d i (.int v)) aa) (f:=λJ=>R.ok (bl r6 [.obj 0, .int i, .int v]) J) (by kernel_rfl) hf) rfl) rfl)
theorem p9{v:Int}(w:Wd a)(hf:n9 d.length=true):a7 TT (m+2) 5 [.obj 0, .int a, .int v] (hm d aa)= .ok .none (hm (d9 d (a.fdiv 4) (PySem.Builtin.bitAnd v 4294967295)) aa):=
 m5 r5 (by rfl) (by rfl) (ex (v:= .none) (D7 w) (ex (v:= .none) (a3i (m:=m) hf) rfl))
theorem c8b(w:Wd a):a7 TT (m+3) 7 [.obj 0, .int a, .int 4] (hm d aa)= .ok (u8 d (a.fdiv 4)) (hm d aa):=
 d6 r7 (by rfl) (by rfl) (ifr (ae:=hm d aa) (by kernel_rfl) (rt (w4 w)))
theorem c7q{v:Int}(w:Wd a)(hf:n9 d.length=true):a7 TT (m+3) 8 [.obj 0, .int a, .int 4, .int v] (hm d aa)= .ok .none (hm (d9 d (a.fdiv 4) (PySem.Builtin.bitAnd v 4294967295)) aa):=
 m5 r8 (by rfl) (by rfl) (ift (ae:=hm d aa) (by kernel_rfl) (ex (v:= .none) (p9 w hf) rfl) rfl)
end
end
end
section
open PySem PySem.W PyProof.Rows PySem.Calls
open PySem.Builtin (bitAnd bitOr bitNot)
section
noncomputable def z5:Nat->AV:=upd (upd (upd (upd (upd (upd (λ_=> .undef) 40 (.int 4)) 39 (.int 2)) 38 (.int 16)) 37 (.int 4)) 36 (.int 64)) 4 (.int 256)
noncomputable abbrev hl(d:List (Int×AV))(aa:H):H:=hm d (.inst 1 z5::aa)
section
variable{d:List (Int×AV)}{aa J:H}{m:Nat}{a e p:Int}
theorem a7y(h0:0<=a)(h1:a<256):a7 TT (m+1) 12 [.obj 2, .int a] (hl d aa)= .ok (.tup [.int ((a.fdiv 16).fdiv 4), .int (bitAnd (a.fdiv 16) 3), .int (bitAnd a 15)]) (hl d aa):=
 d6 r12 (by rfl) (by rfl) (if0 (ae:=hl d aa) (tst (C4 (b:=decide (a<256)) (chn (x:= .int 0) (y:= .int a) (z:= .int 256) (b1:=decide (0<=a)) (by kernel_rfl) (by kernel_rfl) (by kernel_rfl) (decide_eq_true h0) (by kernel_rfl) (by kernel_rfl))) (by rw[decide_eq_true h1];rfl))
  (H8 (v:= .int (a.fdiv 16)) (ae:=hl d aa) (l':=upd (bl r12 [.obj 2, .int a]) 42 (.int (a.fdiv 16))) (af:=hl d aa) (by kernel_rfl) rfl (rt (by kernel_rfl))))
theorem c4b:a7 TT (m+1) 14 [.obj 2, .int a] (hl d aa)= .ok (.int (bitAnd a (bitNot 15))) (hl d aa):=d6 r14 (by rfl) (by rfl) (rt (by kernel_rfl))
theorem u5:a7 TT (m+1) 15 [.obj 2, .int a] (hl d aa)= .ok (.bool (bitAnd a 15==0)) (hl d aa):=d6 r15 (by rfl) (by rfl) (rt (by kernel_rfl))
theorem N2(hs:small (p.fdiv 16)=true):a7 TT (m+1) 16 [.obj 2, .int p, .int e] (hl d aa)= .ok (.int (bitOr (p.fdiv 16*1024) e)) (hl d aa):=
 d6 r16 (by rfl) (by rfl) (rt (j6 (x:=p.fdiv 16*1024) (y:=e) (j6 (x:=p.fdiv 16) (y:=10) (by kernel_rfl) (by kernel_rfl) (whn (p:=small (p.fdiv 16)) (z:=none) (by kernel_rfl) hs)) (by kernel_rfl) rfl))
theorem k4(hs:small (e.fdiv 1024)=true):a7 TT (m+1) 17 [.obj 2, .int e] (hl d aa)= .ok (.int (e.fdiv 1024*16)) (hl d aa):=
 d6 r17 (by rfl) (by rfl) (rt (j6 (x:=e.fdiv 1024) (y:=4) (by kernel_rfl) (by kernel_rfl) (whn (p:=small (e.fdiv 1024)) (z:=none) (by kernel_rfl) hs)))
theorem i0:a7 TT (m+1) 18 [.int e] J= .ok (.bool (!(bitAnd e 10==0))) J:=d6 r18 (by rfl) (by rfl) (rt (by kernel_rfl))
theorem G8(h:(!(bitAnd e 1==0))=true):a7 TT (m+1) 19 [.int e] J= .ok (.bool (!(bitAnd e 6==4))) J:=
 d6 r19 (by rfl) (by rfl) (rt (b1n (b:= !(bitAnd e 1==0)) (by kernel_rfl) h (W4 (by kernel_rfl))))
theorem a53(h:(!(bitAnd e 1==0))=false):a7 TT (m+1) 19 [.int e] J= .ok (.bool false) J:=
 d6 r19 (by rfl) (by rfl) (rt ((a3q (k:=true) (b:= !(bitAnd e 1==0)) (by kernel_rfl) h).trans (by rw[h])))
end
end
section
noncomputable def tl:MSs->MSs | .cons _ r=>r | .nil=> .nil
noncomputable def kc(k:Nat):Nat:=match k with |0=>156 |1=>77 |_=>79
noncomputable def a3g(k:Nat)(x e:Int):Bool:=match k with
 |0=> !(bitAnd e 8==0)
 |1=>match !(bitAnd e 2==0)with |true=>true |false=>match x==0 with |true=>false |false=> !(bitAnd e 8==0)
 |_=> !(bitAnd e 4==0)
section
variable{J:H}{m k:Nat}{e md s x:Int}
theorem Y2(hk:k<3)(hx:x=0\/x=1):execB (cm m) (tl (tl b20)) (bl r20 [.int e, .str (kc k), .int md, .int s, .int x]) J= .ret (.bool (a3g k x e)) J:=by
 match k,hk with
 |0,_=>exact ifr (ae:=J) (by kernel_rfl) (rt (by kernel_rfl))
 |2,_=>exact if0 (ae:=J) (by kernel_rfl) (ifr (ae:=J) (by kernel_rfl) (rt (by kernel_rfl)))
 |1,_=>
  refine if0 (ae:=J) (by kernel_rfl) (if0 (ae:=J) (by kernel_rfl) (rt ?_));unfold a3g;cases q: !(bitAnd e 2==0)with
  |true=>exact(a3q (k:=false) (b:= !(bitAnd e 2==0)) (by kernel_rfl) q).trans (by rw[q];rfl)
  |false=>
   refine b1n (k:=false) (b:= !(bitAnd e 2==0)) (by kernel_rfl) q (W4 ?_);rcases hx with rfl |rfl
   ·exact(a3q (k:=true) (b:=false) (by kernel_rfl) rfl)
   ·exact b1n (k:=true) (b:=true) (by kernel_rfl) rfl (W4 (by kernel_rfl))
noncomputable def Q5(k:Nat)(md s x e:Int):Bool:=match md==0,bitAnd e 16==0 with
 |true,true=>false
 |true,false=>a3g k x e
 |false,true=>a3g k x e
 |false,false=>match k==0,s==0 with
  |true,_=>false
  |false,true=>false
  |false,false=>a3g k x e
theorem a27(hk:k<3)(hm:md=0\/md=1)(hs:s=0\/s=1)(hx:x=0\/x=1):a7 TT (m+1) 20 [.int e, .str (kc k), .int md, .int s, .int x] J= .ok (.bool (Q5 k md s x e)) J:=by
 refine d6 r20 (by rfl) (by rfl) ?_;unfold Q5;rcases hm with rfl |rfl
 ·cases q:bitAnd e 16==0 with
  |true=>exact ifr (ae:=J) (u4 (b:=true) (by kernel_rfl) rfl (u4 (b:=bitAnd e 16==0) (by kernel_rfl) q rfl)) (rt (by kernel_rfl))
  |false=>exact if0 (ae:=J) (u4 (b:=true) (by kernel_rfl) rfl (a4w (b:=bitAnd e 16==0) (by kernel_rfl) q)) (if0 (ae:=J) (by kernel_rfl) (Y2 hk hx))
 ·refine if0 (ae:=J) (by kernel_rfl) ?_
  cases q:bitAnd e 16==0 with
  |true=>exact if0 (ae:=J) (u4 (b:=true) (by kernel_rfl) rfl (a4w (b:= !(bitAnd e 16==0)) (by kernel_rfl) (by rw[q];rfl))) (Y2 hk hx)
  |false=>
   have h2:(!(bitAnd e 16==0))=true:=by rw[q];rfl
   match k,hk with
   |0,_=>exact ifr (ae:=J) (u4 (b:=true) (by kernel_rfl) rfl (u4 (b:= !(bitAnd e 16==0)) (by kernel_rfl) h2 (by kernel_rfl))) (rt (by kernel_rfl))
   |1,hk |2,hk=>
    rcases hs with rfl |rfl
    ·exact ifr (ae:=J) (u4 (b:=true) (by kernel_rfl) rfl (u4 (b:= !(bitAnd e 16==0)) (by kernel_rfl) h2 (by kernel_rfl))) (rt (by kernel_rfl))
    ·exact if0 (ae:=J) (u4 (b:=true) (by kernel_rfl) rfl (u4 (b:= !(bitAnd e 16==0)) (by kernel_rfl) h2 (by kernel_rfl))) (Y2 hk hx)
end
end
section
noncomputable def y0:Nat->AV:=upd (upd (upd (λ_=> .undef) 90 (.obj 0)) 64 (.obj 2)) 89 (.obj 3)
noncomputable def b2c:Nat->AV:=upd (upd (λ_=> .undef) 90 (.obj 0)) 115 (.obj 7)
noncomputable def k7:Nat->AV:=upd (upd (λ_=> .undef) 65 (.obj 6)) 64 (.obj 2)
noncomputable abbrev hb(d:List (Int×AV))(p g h:AO)(aa:H):H:=hl d (p::g::h:: .inst 6 b2c:: .list []:: .inst 3 k7:: .inst 5 y0::aa)
section
variable{d:List (Int×AV)}{p g h:AO}{aa:H}{m:Nat}{a v:Int}
theorem Wd.lo'(w:Wd a):0<=a:=Int.not_lt.mp w.lo
theorem Wd.hi'(w:Wd a):a+4<=1024:=Int.not_lt.mp w.hi
theorem b1d(w:Wd a):a7 TT (m+4) 42 [.obj 6, .int a, .int 4] (hb d p g h aa)= .ok (u8 d (a.fdiv 4)) (hb d p g h aa):=
 d6 r42 (by rfl) (by rfl) (H8 (v:= .obj 0) (ae:=hb d p g h aa) (l':=upd (bl r42 [.obj 6, .int a, .int 4]) 90 (.obj 0)) (af:=hb d p g h aa) (by kernel_rfl) rfl
  (ifr (ae:=hb d p g h aa) (u4 (b:=decide (0<=a)) (by kernel_rfl) (decide_eq_true w.lo') (u4 (b:=decide (a+4<=1024)) (by kernel_rfl) (decide_eq_true w.hi') rfl)) (rt (c8b w))))
theorem b9u(w:Wd a)(hf:n9 d.length=true):a7 TT (m+4) 43 [.obj 6, .int a, .int 4, .int v] (hb d p g h aa)= .ok .none (hb (d9 d (a.fdiv 4) (bitAnd v 4294967295)) p g h aa):=
 d6 r43 (by rfl) (by rfl) (H8 (v:= .obj 0) (ae:=hb d p g h aa) (l':=upd (bl r43 [.obj 6, .int a, .int 4, .int v]) 90 (.obj 0)) (af:=hb d p g h aa) (by kernel_rfl) rfl
  (ifr (ae:=hb d p g h aa) (u4 (b:=decide (0<=a)) (by kernel_rfl) (decide_eq_true w.lo') (u4 (b:=decide (a+4<=1024)) (by kernel_rfl) (decide_eq_true w.hi') rfl)) (ex (v:= .none) (c7q w hf) (by kernel_rfl))))
end
end
section
section
variable{d:List (Int×AV)}{p g h:AO}{aa:H}{m j k:Nat}{a v e ad:Int}
theorem U0(hw:(hb d p g h aa)[8]? =some (.inst 3 k7))(w:Wd a)(he:u8 d (a.fdiv 4)= .int e)(h1:(!(bitAnd e 1==0))=true)(h2:(!(bitAnd e 6==4))=true):
  a7 TT (m+5) 23 [.obj 8, .int a, .int ad, .str (kc k)] (hb d p g h aa)= .ok (.int e) (hb d p g h aa):=
 d6 r23 (by rfl) (by rfl) (b1w (aq:=upd (bl r23 [.obj 8, .int a, .int ad, .str (kc k)]) 49 (.int e)) (af:=hb d p g h aa)
  (H8 (v:= .int e) (ae:=hb d p g h aa) (l':=upd (bl r23 [.obj 8, .int a, .int ad, .str (kc k)]) 49 (.int e)) (af:=hb d p g h aa)
   (z6 (id:=6) (ae:=hb d p g h aa) (c:=6) (f:=b2c) (i:=42) (vs:=[.int a, .int 4]) (at_ (id:=8) (c:=3) (f:=k7) (ae:=hb d p g h aa) (by kernel_rfl) hw (by kernel_rfl) rfl nofun) rfl (by kernel_rfl) (by kernel_rfl) (by kernel_rfl) (he▸b1d w)) rfl rfl)
  (if0 (ae:=hb d p g h aa) (tst (C4 (b:=true) ((G8 (m:=m+3) h1).trans (by rw[h2]))) rfl) (rt (by kernel_rfl))))
end
end
section
noncomputable def J8(k:Nat)(e:Int):Int:=bitOr (bitOr e 64) (match k with |0=>0 |1=>0 |_=>128)
noncomputable def x0(d:List (Int×AV))(i:Int)(k:Nat)(e:Int):List (Int×AV):=match J8 k e==e with |true=>d |false=>d9 d i (bitAnd (J8 k e) 4294967295)
section
variable{d:List (Int×AV)}{p g h:AO}{aa:H}{m j k:Nat}{a v e ad:Int}
theorem b0n(hk:k<3)(hw:(hb d p g h aa)[8]? =some (.inst 3 k7))(w:Wd a)(hf:n9 d.length=true):
  a7 TT (m+5) 25 [.obj 8, .int a, .int e, .int ad, .str (kc k)] (hb d p g h aa)= .ok .none (hb (x0 d (a.fdiv 4) k e) p g h aa):=by
 have hdue:a6 (cm (m+4)) (bl r25 [.obj 8, .int a, .int e, .int ad, .str (kc k)]) (.bin .or (.bin .or (.loc 49) (.glo 80)) (.ite (.of (.cmp .eq (.loc 57) (.glo 58))) (.glo 81) (.int 0))) (hb d p g h aa)= .ok (.int (J8 k e)) (hb d p g h aa):=by
  refine lt3 hk ?_ ?_ ?_<;>kernel_rfl
 have hs:v5 (cm (m+4)) (.int (J8 k e)) (.name 78) (bl r25 [.obj 8, .int a, .int e, .int ad, .str (kc k)]) (hb d p g h aa)= .ok (upd (bl r25 [.obj 8, .int a, .int e, .int ad, .str (kc k)]) 78 (.int (J8 k e))) (hb d p g h aa):=rfl;unfold x0;cases q:J8 k e==e with
 |true=>exact m5 r25 (by rfl) (by rfl) (H8 hdue hs (if0 (ae:=hb d p g h aa) (tst (b:= !(J8 k e==e)) (by kernel_rfl) (by rw[q];rfl)) rfl))
 |false=>
  exact m5 r25 (by rfl) (by rfl) (H8 hdue hs (ift (ae:=hb d p g h aa) (aq:=upd (bl r25 [.obj 8, .int a, .int e, .int ad, .str (kc k)]) 78 (.int (J8 k e))) (af:=hb (d9 d (a.fdiv 4) (bitAnd (J8 k e) 4294967295)) p g h aa)
   (tst (b:= !(J8 k e==e)) (by kernel_rfl) (by rw[q];rfl))
   (b1w (aq:=upd (bl r25 [.obj 8, .int a, .int e, .int ad, .str (kc k)]) 78 (.int (J8 k e))) (af:=hb (d9 d (a.fdiv 4) (bitAnd (J8 k e) 4294967295)) p g h aa)
    (ex (v:= .none) (z6 (id:=6) (ae:=hb d p g h aa) (c:=6) (f:=b2c) (i:=43) (vs:=[.int a, .int 4, .int (J8 k e)]) (at_ (id:=8) (c:=3) (f:=k7) (ae:=hb d p g h aa) (by kernel_rfl) hw (by kernel_rfl) rfl nofun) rfl (by kernel_rfl) (by kernel_rfl) (by kernel_rfl) (b9u w hf)) rfl) rfl) rfl))
end
end
section
noncomputable def w5(v:AV):Nat->AV:=upd (λ_=> .undef) 133 v
noncomputable def y5(c a:Int):Nat->AV:=upd (upd (w5 .text) 118 (.int c)) 19 (.int a)
section
variable{J:H}{m c:Nat}{u v:AV}{a k:Int}
theorem c30{l:Loc}{args:MEs}{C:Cx}{ae:H}{id:Nat}{f:Nat->AV}{w:AV}(hc:C.T=TT)(hx:TT.isExc c=true)(ha:evalEs C l args J= .ok [.obj id,w] ae)(h:ae[id]? =some (.exc c f false)):a6 C l (.initOf 134 args) J= .ok .none ae:=by
 obtain⟨cl,hz,T⟩:=C;cases hc;show(evalEs _ l args J).bind _=_;rw[ha];show R6 R.bad ae[id]? _=_;rw[h];show c6 R.bad (TT.isExc c&& !false) _=_;rw[hx];rfl
theorem a37(hx:TT.isExc c=true)(hf:TT.fldE c 133=true)(hu:v≠ .undef)(hv: ∀(z f:R AV),l9 z v f=f):a7 TT (m+1) 50 [.obj J.length,v] (J++[.exc c (λ_=> .undef) false])= .ok .none (J++[.exc c (w5 v) false]):=by
 have e1:a6 (cm m) (bl r50 [.obj J.length,v]) (.loc 133) (J++[.exc c (λ_=> .undef) false])= .ok v (J++[.exc c (λ_=> .undef) false]):=hv _ _;refine m5 r50 (by rfl) (by rfl) (ex (v:= .none) (ae:=J++[.exc c (λ_=> .undef) false]) (c30 (id:=J.length) (c:=c) (f:=λ_=> .undef) (w:=v) rfl hx ?_ j7)
  (H8 (v:=v) (ae:=J++[.exc c (λ_=> .undef) false]) (l':=bl r50 [.obj J.length,v]) (af:=J++[.exc c (w5 v) false]) e1 ((sx_ (id:=J.length) (c:=c) (f:=λ_=> .undef) (by kernel_rfl) j7 (by show(TT.fldE c 133&&decide (133<256))=true;rw[hf];rfl) hu).trans (by rw[I8];rfl)) rfl))
 show(a6 (cm m) (bl r50 [.obj J.length,v]) (.loc 10) _).bind _=_;refine c8 (x:= .obj J.length) (ae:=J++[.exc c (λ_=> .undef) false]) (by kernel_rfl) ?_;show R.bind (R.bind (a6 (cm m) (bl r50 [.obj J.length,v]) (.loc 133) _) _) _=_;rw[e1];rfl
theorem b2w(hs1:small k=true)(hs2:small a=true):a7 TT (m+2) 51 [.obj J.length, .int k, .int a] (J++[.exc 7 (λ_=> .undef) false])= .ok .none (J++[.exc 7 (y5 k a) false]):=by
 have e1:fstrE (cm (m+1)) (bl r51 [.obj J.length, .int k, .int a]) (.cons (.loc 118) (.cons (.loc 19) .nil)) (J++[.exc 7 (λ_=> .undef) false])= .ok .text (J++[.exc 7 (λ_=> .undef) false]):=by
  show c6 R.bad (small k) (c6 R.bad (small a) (R.ok AV.text _))=_;rw[hs1,hs2];rfl
 have e2:evalEs (cm (m+1)) (bl r51 [.obj J.length, .int k, .int a]) (.cons (.loc 10) (.cons (.fstr (.cons (.loc 118) (.cons (.loc 19) .nil))) .nil)) (J++[.exc 7 (λ_=> .undef) false])= .ok [.obj J.length, .text] (J++[.exc 7 (λ_=> .undef) false]):=by
  show(a6 (cm (m+1)) (bl r51 [.obj J.length, .int k, .int a]) (.loc 10) _).bind _=_;refine c8 (x:= .obj J.length) (ae:=J++[.exc 7 (λ_=> .undef) false]) (by kernel_rfl) ?_;show R.bind (R.bind (fstrE _ _ _ _) _) _=_;rw[e1];rfl
 refine m5 r51 (by rfl) (by rfl) (ex (v:= .none) (ae:=J++[.exc 7 (w5 .text) false]) ?_
  (H8 (v:= .int k) (ae:=J++[.exc 7 (w5 .text) false]) (l':=bl r51 [.obj J.length, .int k, .int a]) (af:=J++[.exc 7 (upd (w5 .text) 118 (.int k)) false]) (by kernel_rfl) ((sx_ (id:=J.length) (c:=7) (f:=w5 .text) (by kernel_rfl) j7 (by kernel_rfl) (by intro z;cases z)).trans (by rw[I8]))
   (H8 (v:= .int a) (ae:=J++[.exc 7 (upd (w5 .text) 118 (.int k)) false]) (l':=bl r51 [.obj J.length, .int k, .int a]) (af:=J++[.exc 7 (y5 k a) false]) (by kernel_rfl) ((sx_ (id:=J.length) (c:=7) (f:=upd (w5 .text) 118 (.int k)) (by kernel_rfl) j7 (by kernel_rfl) (by intro z;cases z)).trans (by rw[I8,y5])) rfl)))
 exact c8 e2 (a37 (m:=m) (by kernel_rfl) (by kernel_rfl) nofun λz f=>rfl)
end
end
section
section
variable{C:Cx}{l l' aq:Loc}{J ae af:H}{t:MB}{a b r:MSs}{e f:ME}{v:AV}{tg:MT}{x:RS}{id i c d:Nat}{args:MEs}{vs:List AV}{o:AO}{y:R AV}{g:Nat->AV}{z:Bool}
theorem c37(hg:a6 C l f J= .ok (.cls c) J)(ha:evalEs C l args J= .ok vs ae)(hi:C.T.init c=some i)(ho:(match C.T.isExc c with |true=>AO.exc c (λ_=> .undef) false |false=> .inst c (λ_=> .undef))=o)(hc:C.call i (.obj ae.length::vs) (ae++[o])= .ok .none af):a6 C l (.call f args) J= .ok (.obj ae.length) af:=by
 subst ho;refine c8 hg (c8 ha ?_);show g9 R.bad (C.T.init c) _=_;rw[hi];exact c8 hc rfl
theorem b5i(hg:a6 C l f J= .ok (.fn i) J)(ha:evalEs C l args J= .ok vs ae)(hc:C.call i vs ae=y):a6 C l (.call f args) J=y:=
 c8 hg (c8 ha hc)
theorem rai(he:a6 C l e J= .ok (.obj id) ae)(h:ae[id]? =some (.exc c g false))(hx:C.T.isExc c=true)(hz:C.hz=true):execB C (.cons (.raise e) r) l J= .exc id l ae:=by
 show(c6 RS.bad C.hz ((a6 C l e J).then l _)).and _=_;rw[hz,he];show(c6 RS.bad true (R6 RS.bad ae[id]? _)).and _=_;rw[h];show(c6 RS.bad true (c6 RS.bad (!false&&C.T.isExc c) _)).and _=_;rw[hx];rfl
theorem stx(he:a6 C l e J= .exc id ae):execB C (.cons (.assign tg e) r) l J= .exc id l ae:=by
 show((a6 C l e J).then l _).and _=_;rw[he];rfl
theorem rtx(he:a6 C l e J= .exc id ae):execB C (.cons (.ret e) r) l J= .exc id l ae:=by
 show((a6 C l e J).then l _).and _=_;rw[he];rfl
theorem w1{n:Nat}(he:a6 C l e J= .ok v ae)(h:execB C r (upd l n v) ae=x):execB C (.cons (.assign (.name n) e) r) l J=x:=H8 he rfl h
theorem iz(ht:tstE C l t J= .ok false J)(h:execB C r l J=x):execB C (.cons (.ifS t a .nil) r) l J=x:=if0 ht h
theorem irz(ht:tstE C l t J= .ok true J)(ha:execB C a l J= .ret v af):execB C (.cons (.ifS t a b) r) l J= .ret v af:=ifr ht ha
theorem ixz(ht:tstE C l t J= .ok true J)(ha:execB C a l J= .exc id aq af):execB C (.cons (.ifS t a b) r) l J= .exc id aq af:=ifx ht ha
theorem c9c{body h:MSs}{gl:Nat}{n:Nat}(hb:execB C body l J= .exc id aq af)(ho:af[id]? =some (.exc c g z))(hg:C.T.glob gl= .cls d)(hs:(C.hz&&C.T.isExc c&&C.T.sub c d)=true)(hh:execB (quiet C) h (upd aq n (.obj id)) (af.set id (.exc c g true))= .ret v ae):execB C (.cons (.tryS body gl (some n) h) r) l J= .ret v ae:=by
 show((execB C body l J).orTry _).and _=_;rw[hb];show(R6 RS.bad af[id]? _).and _=_;rw[ho];show(z9 RS.bad (C.T.glob gl) _).and _=_;rw[hg];show(c6 RS.bad (C.hz&&C.T.isExc c&&C.T.sub c d) ((execB (quiet C) h (upd aq n (.obj id)) (R6 af af[id]? _)).caught _)).and _=_;rw[hs,ho];show(c6 RS.bad true ((execB (quiet C) h (upd aq n (.obj id)) (af.set id (.exc c g true))).caught _)).and _=_;rw[hh];rfl
theorem try_xn{body h:MSs}{gl:Nat}(hb:execB C body l J= .exc id aq af)(ho:af[id]? =some (.exc c g z))(hg:C.T.glob gl= .cls d)(hs:(C.hz&&C.T.isExc c&&C.T.sub c d)=true)(hh:execB (quiet C) h aq (af.set id (.exc c g true))= .next l' ae)(hr:execB C r l' ae=x):execB C (.cons (.tryS body gl none h) r) l J=x:=by
 show((execB C body l J).orTry _).and _=_;rw[hb];show(R6 RS.bad af[id]? _).and _=_;rw[ho];show(z9 RS.bad (C.T.glob gl) _).and _=_;rw[hg];show(c6 RS.bad (C.hz&&C.T.isExc c&&C.T.sub c d) ((execB (quiet C) h aq (R6 af af[id]? _)).caught _)).and _=_;rw[hs,ho];show(c6 RS.bad true ((execB (quiet C) h aq (af.set id (.exc c g true))).caught _)).and _=_;rw[hh];exact hr
end
theorem c8c{m i id:Nat}{args:List AV}{J ae:H}{l':Loc}{c:Nat}{g:Nat->AV}{z:Bool}(r:FnRec)(hr:TT.fn i=some r)(hb:(D6 r.params r.defaults args (λ_=> .undef)).isSome=true)(h:execB (cm m) r.body (bl r args) J= .exc id l' ae)(ho:ae[id]? =some (.exc c g z)):a7 TT (m+1) i args J= .exc id (ae.set id (.exc c g true)):=by
 refine(a20 r hr hb h).trans ?_;show R6 R.bad ae[id]? (λ_ _ _=> .exc id (R6 ae ae[id]? _))=_;rw[ho];rfl
section
variable{J ae:H}{m c:Nat}{a k:Int}{l:Loc}{args:MEs}{r:MSs}
theorem M4(ha:evalEs (cm (m+2)) l args J= .ok [.int k, .int a] ae)(hs1:small k=true)(hs2:small a=true):execB (cm (m+2)) (.cons (.raise (.call (.glo 70) args)) r) l J= .exc ae.length l (ae++[.exc 7 (y5 k a) false]):=
 rai (c:=7) (g:=y5 k a) (c37 (c:=7) (i:=51) (o:= .exc 7 (λ_=> .undef) false) (by kernel_rfl) ha (by kernel_rfl) (by kernel_rfl) (b2w hs1 hs2)) j7 (by kernel_rfl) rfl
theorem w7{n:Nat}:execB (cm (m+1)) (.cons (.raise (.call (.glo 8) (.cons (.str n) .nil))) r) l J= .exc J.length l (J++[.exc 8 (w5 (.str n)) false]):=
 rai (c:=8) (g:=w5 (.str n)) (c37 (c:=8) (i:=50) (vs:=[.str n]) (ae:=J) (o:= .exc 8 (λ_=> .undef) false) (by kernel_rfl) (by kernel_rfl) (by kernel_rfl) (by kernel_rfl) (a37 (by kernel_rfl) (by kernel_rfl) nofun λz f=>rfl)) j7 (by kernel_rfl) rfl
end
end
section
theorem o7{m i:Nat}{args:List AV}{J af:H}{l':Loc}{c:Nat}{g:Nat->AV}{z:Bool}(r:FnRec)(hr:TT.fn i=some r)(hb:(D6 r.params r.defaults args (λ_=> .undef)).isSome=true)(h:execB (cm m) r.body (bl r args) J= .exc af.length l' (af++[.exc c g z])):a7 TT (m+1) i args J= .exc af.length (af++[.exc c g true]):=
 (c8c r hr hb h j7).trans (by rw[I8])
noncomputable def pf(k:Nat):Int:=match k with |0=>12 |1=>13 |_=>15
noncomputable def X5(k:Nat)(a:Int):AO:= .exc 7 (y5 (pf k) a) true
theorem a0w(k:Nat):small (pf k)=true:=by
 match k with
 |0=>kernel_rfl
 |1=>kernel_rfl
 |_+2=>kernel_rfl
theorem cmi{C:Cx}{l:Loc}{J:H}{op:COp}{a b:ME}{x y:AV}{z:Bool}(h1:a6 C l a J= .ok x J)(h2:a6 C l b J= .ok y J)(h3:w0 op x y J= .ok (.bool z) J):tstE C l (.of (.cmp op a b)) J= .ok z J:=by
 show R.tru _=_;rw[show a6 C l (.cmp op a b) J= .ok (.bool z) J from c8 h1 (c8 h2 h3)];rfl
section
variable{d:List (Int×AV)}{p g h:AO}{aa:H}{m j k:Nat}{a v e ad md s x:Int}
theorem T5(hk:k<3)(hw:(hb d p g h aa)[8]? =some (.inst 3 k7))(w:Wd a)(he:u8 d (a.fdiv 4)= .int e)(h1:(!(bitAnd e 1==0))=false)(hs:small ad=true):
  a7 TT (m+5) 23 [.obj 8, .int a, .int ad, .str (kc k)] (hb d p g h aa)= .exc (aa.length+10) (hb d p g h (aa++[X5 k ad])):=
 o7 (af:=hb d p g h aa) (z:=false) (c:=7) (g:=y5 (pf k) ad) r23 (by rfl) (by rfl) (b1w (aq:=upd (bl r23 [.obj 8, .int a, .int ad, .str (kc k)]) 49 (.int e)) (af:=hb d p g h aa)
  (w1 (v:= .int e) (ae:=hb d p g h aa)
   (z6 (id:=6) (ae:=hb d p g h aa) (c:=6) (f:=b2c) (i:=42) (vs:=[.int a, .int 4]) (at_ (id:=8) (c:=3) (f:=k7) (ae:=hb d p g h aa) (by kernel_rfl) hw (by kernel_rfl) rfl nofun) rfl (by kernel_rfl) (by kernel_rfl) (by kernel_rfl) (he▸b1d w)) rfl)
  (ixz (tst (C4 (b:=false) (a53 (m:=m+3) h1)) rfl) (M4 (m:=m+2) (by refine lt3 hk ?_ ?_ ?_<;>kernel_rfl) (a0w k) hs)))
theorem c06(hk:k<3)(hw:(hb d p g h aa)[8]? =some (.inst 3 k7))(w:Wd a)(hf:n9 d.length=true)(hs:small (e.fdiv 1024)=true)(hl:((e.fdiv 1024*16).fmod 64==0)=true)
  (hm:md=0\/md=1)(hs':s=0\/s=1)(hx:x=0\/x=1)(hy:Q5 k md s x e=true):
  a7 TT (m+6) 24 [.obj 8, .int a, .int e, .int ad, .str (kc k), .int md, .int s, .int x] (hb d p g h aa)= .ok (.int (bitOr (e.fdiv 1024*16) (bitAnd ad 63))) (hb (x0 d (a.fdiv 4) k e) p g h aa):=by
 refine d6 r24 (by rfl) (by rfl) (w1 (v:= .int (e.fdiv 1024*16)) (ae:=hb d p g h aa)
  (z6 (id:=2) (ae:=hb d p g h aa) (c:=1) (f:=z5) (i:=17) (vs:=[.int e]) (at_ (id:=8) (c:=3) (f:=k7) (ae:=hb d p g h aa) (by kernel_rfl) hw (by kernel_rfl) rfl nofun) rfl (by kernel_rfl) (by kernel_rfl) (by kernel_rfl) (k4 (m:=m+4) hs))
  (iz (m6 (b:= !((e.fdiv 1024*16).fmod 64==0)) ?_ (by rw[hl];rfl) (m6 (b:=false) (C4 (b:=true) ?_) rfl rfl))
  (ex (v:= .none) (ae:=hb (x0 d (a.fdiv 4) k e) p g h aa) (z6 (id:=8) (c:=3) (f:=k7) (ae:=hb d p g h aa) (i:=25) (vs:=[.int a, .int e, .int ad, .str (kc k)]) (by kernel_rfl) hw (by kernel_rfl) (by kernel_rfl) (by kernel_rfl) (b0n (m:=m) hk hw w hf))
  (rt (j6 (x:=e.fdiv 1024*16) (y:=bitAnd ad 63) (by kernel_rfl) (j6 (x:=ad) (y:=63) (by kernel_rfl) (j6 (x:=64) (y:=1) ?_ (by kernel_rfl) rfl) rfl) rfl)))))
 ·exact cmi (x:= .int ((e.fdiv 1024*16).fmod 64)) (y:= .int 0) (j6 (x:=e.fdiv 1024*16) (y:=64) (by kernel_rfl) (at_ (id:=2) (c:=1) (f:=z5) (at_ (id:=8) (c:=3) (f:=k7) (ae:=hb d p g h aa) (by kernel_rfl) hw (by kernel_rfl) rfl nofun) rfl (by kernel_rfl) (by kernel_rfl) nofun) (by kernel_rfl)) (by kernel_rfl) (by kernel_rfl)
 ·exact(a27 hk hm hs' hx (m:=m+4)).trans (by rw[hy])
 ·exact at_ (id:=2) (c:=1) (f:=z5) (at_ (id:=8) (c:=3) (f:=k7) (ae:=hb (x0 d (a.fdiv 4) k e) p g h aa) (by kernel_rfl) hw (by kernel_rfl) rfl nofun) rfl (by kernel_rfl) (by kernel_rfl) nofun
theorem b7y(hk:k<3)(hw:(hb d p g h aa)[8]? =some (.inst 3 k7))(hs:small (e.fdiv 1024)=true)(hl:((e.fdiv 1024*16).fmod 64==0)=true)
  (hm:md=0\/md=1)(hs':s=0\/s=1)(hx:x=0\/x=1)(hy:Q5 k md s x e=false)(ha:small ad=true):
  a7 TT (m+6) 24 [.obj 8, .int a, .int e, .int ad, .str (kc k), .int md, .int s, .int x] (hb d p g h aa)= .exc (aa.length+10) (hb d p g h (aa++[X5 k ad])):=by
 refine o7 (af:=hb d p g h aa) (z:=false) (c:=7) (g:=y5 (pf k) ad) r24 (by rfl) (by rfl) (w1 (v:= .int (e.fdiv 1024*16)) (ae:=hb d p g h aa)
  (z6 (id:=2) (ae:=hb d p g h aa) (c:=1) (f:=z5) (i:=17) (vs:=[.int e]) (at_ (id:=8) (c:=3) (f:=k7) (ae:=hb d p g h aa) (by kernel_rfl) hw (by kernel_rfl) rfl nofun) rfl (by kernel_rfl) (by kernel_rfl) (by kernel_rfl) (k4 (m:=m+4) hs))
  (ixz (m6 (b:= !((e.fdiv 1024*16).fmod 64==0)) ?_ (by rw[hl];rfl) (V7 (b:=true) (C4 (b:=false) ?_) rfl))
   (M4 (m:=m+3) (by refine lt3 hk ?_ ?_ ?_<;>kernel_rfl) (a0w k) ha)))
 ·exact cmi (x:= .int ((e.fdiv 1024*16).fmod 64)) (y:= .int 0) (j6 (x:=e.fdiv 1024*16) (y:=64) (by kernel_rfl) (at_ (id:=2) (c:=1) (f:=z5) (at_ (id:=8) (c:=3) (f:=k7) (ae:=hb d p g h aa) (by kernel_rfl) hw (by kernel_rfl) rfl nofun) rfl (by kernel_rfl) (by kernel_rfl) nofun) (by kernel_rfl)) (by kernel_rfl) (by kernel_rfl)
 ·exact(a27 hk hm hs' hx (m:=m+4)).trans (by rw[hy])
end
end
section
theorem ofB{C:Cx}{l:Loc}{J ae:H}{b c:Bool}{e:ME}(h:a6 C l e J= .ok (.bool b) ae)(hb:b=c):tstE C l (.of e) J= .ok c ae:=by
 subst hb;show R.tru _=_;rw[h];rfl
structure Ad (a f q o:Int):Prop where
 h0:0<=a
 h1:a<256
 hf:(a.fdiv 16).fdiv 4=f
 hq:bitAnd (a.fdiv 16) 3=q
 ho:bitAnd a 15=o
 sm:small a=true
structure Pt (e t:Int):Prop where
 v:(!(bitAnd e 1==0))=true
 w:(!(bitAnd e 6==4))=true
 l:(!(bitAnd e 10==0))=false
 s:small (e.fdiv 1024)=true
 p:e.fdiv 1024*16=t
structure Lf (e:Int):Prop where
 v:(!(bitAnd e 1==0))=true
 w:(!(bitAnd e 6==4))=true
 l:(!(bitAnd e 10==0))=true
 s:small (e.fdiv 1024)=true
noncomputable abbrev P9(ro:Int)(j:Nat)(a:Int)(k:Nat)(md s x:Int):List AV:=[.obj j, .int ro, .int a, .str (kc k), .int md, .int s, .int x]
noncomputable abbrev trL(ro:Int)(j:Nat)(a:Int)(k:Nat)(md s x f q o pl e:Int):Loc:=upd (upd (upd (bl r22 (P9 ro j a k md s x)) 66 (.tup [.int f, .int q, .int o])) 30 (.int pl)) 49 (.int e)
section
variable{d:List (Int×AV)}{p g h:AO}{aa af:H}{m j k id:Nat}{a v e f q o md s x t:Int}{z:RS}{ro:Int}
theorem a4g(ha:Ad a f q o)(hw:(hb d p g h aa)[8]? =some (.inst 3 k7)):a6 (cm (m+6)) (bl r22 (P9 ro 8 a k md s x)) (.meth (.attr (.loc 10) 64) 66 (.cons (.loc 14) .nil)) (hb d p g h aa)= .ok (.tup [.int f, .int q, .int o]) (hb d p g h aa):=
 z6 (id:=2) (ae:=hb d p g h aa) (c:=1) (f:=z5) (i:=12) (vs:=[.int a]) (at_ (id:=8) (c:=3) (f:=k7) (ae:=hb d p g h aa) (by kernel_rfl) hw (by kernel_rfl) rfl nofun) rfl (by kernel_rfl) (by kernel_rfl) (by kernel_rfl) ((a7y (m:=m+5) ha.h0 ha.h1).trans (by rw[ha.hf,ha.hq,ha.ho]))
theorem a3w(ha:Ad a f q o)(hw:(hb d p g h aa)[8]? =some (.inst 3 k7))(w:Wd (ro+4*f))(he:u8 d ((ro+4*f).fdiv 4)= .int e)(h1:(!(bitAnd e 1==0))=true)(h2:(!(bitAnd e 6==4))=true)
  (hz:execB (cm (m+6)) (tl (tl (tl (tl b22)))) (trL ro 8 a k md s x f q o (ro+4*f) e) (hb d p g h aa)=z):execB (cm (m+6)) b22 (bl r22 (P9 ro 8 a k md s x)) (hb d p g h aa)=z:=
 w1 (a4g ha hw) (iz (by kernel_rfl) (w1 (v:= .int (ro+4*f)) (ae:=hb d p g h aa) (by kernel_rfl) (w1 (v:= .int e) (ae:=hb d p g h aa)
  (z6 (id:=8) (ae:=hb d p g h aa) (c:=3) (f:=k7) (i:=23) (vs:=[.int (ro+4*f), .int a, .str (kc k)]) (by kernel_rfl) hw (by kernel_rfl) (by kernel_rfl) (by kernel_rfl) (U0 (m:=m+1) hw w he h1 h2)) hz)))
theorem d0o(hk:k<3)(ha:Ad a f q o)(hw:(hb d p g h aa)[8]? =some (.inst 3 k7))(w:Wd (ro+4*f))(he:u8 d ((ro+4*f).fdiv 4)= .int e)(h1:(!(bitAnd e 1==0))=false):
  a7 TT (m+7) 22 (P9 ro 8 a k md s x) (hb d p g h aa)= .exc (aa.length+10) (hb d p g h (aa++[X5 k a])):=
 o7 (af:=hb d p g h aa) (z:=true) (c:=7) (g:=y5 (pf k) a) r22 (by rfl) (by rfl) (w1 (a4g ha hw) (iz (by kernel_rfl) (w1 (v:= .int (ro+4*f)) (ae:=hb d p g h aa) (by kernel_rfl) (stx
  (z6 (id:=8) (ae:=hb d p g h aa) (c:=3) (f:=k7) (i:=23) (vs:=[.int (ro+4*f), .int a, .str (kc k)]) (by kernel_rfl) hw (by kernel_rfl) (by kernel_rfl) (by kernel_rfl) (T5 (m:=m+1) hk hw w he h1 ha.sm))))))
theorem a6w(hk:k<3)(ha:Ad a f q o)(hw:(hb d p g h aa)[8]? =some (.inst 3 k7))(w:Wd (ro+4*f))(hf:n9 d.length=true)(he:u8 d ((ro+4*f).fdiv 4)= .int e)(L:Lf e)(hl:((e.fdiv 1024*16).fmod 64==0)=true)
  (hm:md=0\/md=1)(hs':s=0\/s=1)(hx:x=0\/x=1)(hy:Q5 k md s x e=true):
  a7 TT (m+7) 22 (P9 ro 8 a k md s x) (hb d p g h aa)= .ok (.int (bitOr (e.fdiv 1024*16) (bitAnd a 63))) (hb (x0 d ((ro+4*f).fdiv 4) k e) p g h aa):=
 d6 r22 (by rfl) (by rfl) (a3w ha hw w he L.v L.w (irz (ofB (i0 (m:=m+5)) L.l) (rt (z6 (id:=8) (ae:=hb d p g h aa) (c:=3) (f:=k7) (i:=24) (vs:=[.int (ro+4*f), .int e, .int a, .str (kc k), .int md, .int s, .int x]) (by kernel_rfl) hw (by kernel_rfl) (by kernel_rfl) (by kernel_rfl)
  (c06 (m:=m) hk hw w hf L.s hl hm hs' hx hy)))))
theorem a6a(hk:k<3)(ha:Ad a f q o)(hw:(hb d p g h aa)[8]? =some (.inst 3 k7))(w:Wd (ro+4*f))(he:u8 d ((ro+4*f).fdiv 4)= .int e)(L:Lf e)(hl:((e.fdiv 1024*16).fmod 64==0)=true)
  (hm:md=0\/md=1)(hs':s=0\/s=1)(hx:x=0\/x=1)(hy:Q5 k md s x e=false):
  a7 TT (m+7) 22 (P9 ro 8 a k md s x) (hb d p g h aa)= .exc (aa.length+10) (hb d p g h (aa++[X5 k a])):=
 o7 (af:=hb d p g h aa) (z:=true) (c:=7) (g:=y5 (pf k) a) r22 (by rfl) (by rfl) (a3w ha hw w he L.v L.w (ixz (ofB (i0 (m:=m+5)) L.l) (rtx (z6 (id:=8) (ae:=hb d p g h aa) (c:=3) (f:=k7) (i:=24) (vs:=[.int (ro+4*f), .int e, .int a, .str (kc k), .int md, .int s, .int x]) (by kernel_rfl) hw (by kernel_rfl) (by kernel_rfl) (by kernel_rfl)
  (b7y (m:=m) hk hw L.s hl hm hs' hx hy ha.sm)))))
theorem a4u(hw:(hb d p g h aa)[8]? =some (.inst 3 k7))(P:Pt e t):a6 (cm (m+6)) (trL ro 8 a k md s x f q o (ro+4*f) e) (.bin .add (.meth (.attr (.loc 10) 64) 46 (.cons (.loc 49) .nil)) (.bin .mul (.glo 73) (.idx (.loc 66) (.int 1)))) (hb d p g h aa)= .ok (.int (t+4*q)) (hb d p g h aa):=
 j6 (x:=t) (y:=4*q) (z6 (id:=2) (ae:=hb d p g h aa) (c:=1) (f:=z5) (i:=17) (vs:=[.int e]) (at_ (id:=8) (c:=3) (f:=k7) (ae:=hb d p g h aa) (by kernel_rfl) hw (by kernel_rfl) rfl nofun) rfl (by kernel_rfl) (by kernel_rfl) (by kernel_rfl) ((k4 (m:=m+5) P.s).trans (by rw[P.p]))) (by kernel_rfl) rfl
theorem c94(hk:k<3)(ha:Ad a f q o)(hw:(hb d p g h aa)[8]? =some (.inst 3 k7))(w:Wd (ro+4*f))(he:u8 d ((ro+4*f).fdiv 4)= .int e)(P:Pt e t)(w2:Wd (t+4*q)){e2:Int}(he2:u8 d ((t+4*q).fdiv 4)= .int e2)(h1:(!(bitAnd e2 1==0))=false):
  a7 TT (m+7) 22 (P9 ro 8 a k md s x) (hb d p g h aa)= .exc (aa.length+10) (hb d p g h (aa++[X5 k a])):=
 o7 (af:=hb d p g h aa) (z:=true) (c:=7) (g:=y5 (pf k) a) r22 (by rfl) (by rfl) (a3w ha hw w he P.v P.w (iz (ofB (i0 (m:=m+5)) P.l) (w1 (a4u hw P) (stx
  (z6 (id:=8) (ae:=hb d p g h aa) (c:=3) (f:=k7) (i:=23) (vs:=[.int (t+4*q), .int a, .str (kc k)]) (by kernel_rfl) hw (by kernel_rfl) (by kernel_rfl) (by kernel_rfl) (T5 (m:=m+1) hk hw w2 he2 h1 ha.sm))))))
theorem b80(ha:Ad a f q o)(hw:(hb d p g h aa)[8]? =some (.inst 3 k7))(w:Wd (ro+4*f))(he:u8 d ((ro+4*f).fdiv 4)= .int e)(P:Pt e t)(w2:Wd (t+4*q)){e2:Int}(he2:u8 d ((t+4*q).fdiv 4)= .int e2)(L:Lf e2)
  (hz:execB (cm (m+6)) (tl (tl (tl (tl (tl (tl (tl b22))))))) (upd (upd (trL ro 8 a k md s x f q o (ro+4*f) e) 30 (.int (t+4*q))) 49 (.int e2)) (hb d p g h aa)=z):execB (cm (m+6)) b22 (bl r22 (P9 ro 8 a k md s x)) (hb d p g h aa)=z:=
 a3w ha hw w he P.v P.w (iz (ofB (i0 (m:=m+5)) P.l) (w1 (a4u hw P) (w1 (v:= .int e2) (ae:=hb d p g h aa)
  (z6 (id:=8) (ae:=hb d p g h aa) (c:=3) (f:=k7) (i:=23) (vs:=[.int (t+4*q), .int a, .str (kc k)]) (by kernel_rfl) hw (by kernel_rfl) (by kernel_rfl) (by kernel_rfl) (U0 (m:=m+1) hw w2 he2 L.v L.w)) hz)))
theorem a8k(hk:k<3)(ha:Ad a f q o)(hw:(hb d p g h aa)[8]? =some (.inst 3 k7))(w:Wd (ro+4*f))(he:u8 d ((ro+4*f).fdiv 4)= .int e)(P:Pt e t)(w2:Wd (t+4*q)){e2:Int}(he2:u8 d ((t+4*q).fdiv 4)= .int e2)(L:Lf e2)
  (hm:md=0\/md=1)(hs':s=0\/s=1)(hx:x=0\/x=1)(hy:Q5 k md s x e2=false):
  a7 TT (m+7) 22 (P9 ro 8 a k md s x) (hb d p g h aa)= .exc (aa.length+10) (hb d p g h (aa++[X5 k a])):=
 o7 (af:=hb d p g h aa) (z:=false) (c:=7) (g:=y5 (pf k) a) r22 (by rfl) (by rfl) (b80 ha hw w he P w2 he2 L
  (ixz (m6 (b:=false) (C4 (b:=true) ((i0 (m:=m+5)).trans (by rw[L.l]))) rfl (V7 (b:=true) (C4 (b:=false) ((a27 hk hm hs' hx (m:=m+5)).trans (by rw[hy]))) rfl))
   (M4 (m:=m+4) (by refine lt3 hk ?_ ?_ ?_<;>kernel_rfl) (a0w k) ha.sm)))
theorem a9w(hk:k<3)(ha:Ad a f q o)(hw:(hb d p g h aa)[8]? =some (.inst 3 k7))(w:Wd (ro+4*f))(hf:n9 d.length=true)(he:u8 d ((ro+4*f).fdiv 4)= .int e)(P:Pt e t)(w2:Wd (t+4*q)){e2:Int}(he2:u8 d ((t+4*q).fdiv 4)= .int e2)(L:Lf e2)
  (hm:md=0\/md=1)(hs':s=0\/s=1)(hx:x=0\/x=1)(hy:Q5 k md s x e2=true):
  a7 TT (m+7) 22 (P9 ro 8 a k md s x) (hb d p g h aa)= .ok (.int (bitOr (e2.fdiv 1024*16) o)) (hb (x0 d ((t+4*q).fdiv 4) k e2) p g h aa):=
 d6 r22 (by rfl) (by rfl) (b80 ha hw w he P w2 he2 L
  (iz (m6 (b:=false) (C4 (b:=true) ((i0 (m:=m+5)).trans (by rw[L.l]))) rfl (m6 (b:=false) (C4 (b:=true) ((a27 hk hm hs' hx (m:=m+5)).trans (by rw[hy]))) rfl rfl))
   (ex (v:= .none) (ae:=hb (x0 d ((t+4*q).fdiv 4) k e2) p g h aa) (z6 (id:=8) (c:=3) (f:=k7) (ae:=hb d p g h aa) (i:=25) (vs:=[.int (t+4*q), .int e2, .int a, .str (kc k)]) (by kernel_rfl) hw (by kernel_rfl) (by kernel_rfl) (by kernel_rfl) (b0n (m:=m+1) hk hw w2 hf))
    (rt (j6 (x:=e2.fdiv 1024*16) (y:=o) (z6 (id:=2) (ae:=hb (x0 d ((t+4*q).fdiv 4) k e2) p g h aa) (c:=1) (f:=z5) (i:=17) (vs:=[.int e2]) (at_ (id:=8) (c:=3) (f:=k7) (ae:=hb (x0 d ((t+4*q).fdiv 4) k e2) p g h aa) (by kernel_rfl) hw (by kernel_rfl) rfl nofun) rfl (by kernel_rfl) (by kernel_rfl) (by kernel_rfl) (k4 (m:=m+5) L.s)) (by kernel_rfl) rfl)))))
end
end
section
section
variable{C:Cx}{l l' aq:Loc}{J ae af:H}{t:MB}{a b r:MSs}{e o i:ME}{v y:AV}{D:List (Int×AV)}{L:List AV}{n:Int}{id:Nat}{x:AO}{ob:Option AO}
theorem dg_(ho:a6 C l o J= .ok (.obj id) J)(h:J[id]? =some (.idict D))(ha:a6 C l e J= .ok (.int n) J):a6 C l (.meth o 2 (.cons e .nil)) J= .ok (g9 .none (a9 D n) λv=>v) J:=by
 refine c8 ho ?_;show opI (g9 R.bad (s6 J[id]? 2) λb=>R.bind _ λvs ae=>c6 .bad (s6 ae[id]? 2==some b) (a0k id 2 vs ae)) J[id]? _=_;rw[h];refine c8 (x:=[.int n]) (ae:=J) ?_ ?_
 ·exact c8 ha rfl
 ·show c6 R.bad (s6 J[id]? 2==some "dict.get") (a7p id J [.int n])=_
  unfold a7p;rw[h];rfl
theorem in_(h:J[id]? =some (.idict D)):w0 .isIn (.int n) (.obj id) J= .ok (.bool (a9 D n).isSome) J:=by
 show W9 _ J[id]? _=_;rw[h];rfl
theorem ixo(ho:a6 C l o J= .ok (.obj id) J)(hi:a6 C l i J= .ok y J)(h:J[id]? =ob)(hv:a8p ob y J= .ok v J):a6 C l (.idx o i) J= .ok v J:=by
 refine c8 ho (c8 hi ?_);show a8p J[id]? y J=_;rw[h];exact hv
theorem sil{n:Nat}(ho:a6 C l o J= .ok (.obj id) J)(hi:a6 C l i J= .ok (.int n) J)(h:J[id]? =some (.list L))(hc:(decide (n<L.length)&&n9 L.length)=true):v5 C v (.idx o i) l J= .ok l (J.set id (.list (L.set n v))):=by
 refine c8 ho (c8 hi ?_);show g9 R.bad (W6 _ J[id]? _) _=_;rw[h];show g9 R.bad (c6 none (decide ((0:Int)<=n)&&decide (n<L.length)&&n9 L.length) _) _=_;rw[decide_eq_true (Int.natCast_nonneg n),Bool.true_and,hc];rfl
end
theorem i9{α:Type}{l r:List α}{i:Nat}{x:α}(h:l[i]? =some x):(l++r)[i]? =some x:=by
 rw[List.getElem?_append_left (List.getElem?_eq_some_iff.mp h).1];exact h
theorem dgv{C:Cx}{l:Loc}{o e:ME}{v:AV}{D:List (Int×AV)}{n:Int}{id:Nat}(ae:H)(ho:a6 C l o ae= .ok (.obj id) ae)(h:ae[id]? =some (.idict D))(ha:a6 C l e ae= .ok (.int n) ae)(hv:(g9 AV.none (a9 D n) λv=>v)=v):a6 C l (.meth o 2 (.cons e .nil)) ae= .ok v ae:=
 (dg_ ho h ha).trans (by rw[hv])
theorem a96{C:Cx}{l:Loc}{J:H}{t:MB}{a b:ME}{y:R AV}(ht:tstE C l t J= .ok false J)(h:a6 C l b J=y):a6 C l (.ite t a b) J=y:=c8 ht h
noncomputable def bt(f b:Int):Int:=(f.fdiv b).fmod 2
theorem i7{l:Nat->AV}{x:Nat}{v:AV}(h:l x=v):upd l x v=l:=funext λy=>by
 unfold upd
 by_cases e:y=x
 ·rw[if_pos e,e,h]
 ·rw[if_neg e]
end
section
noncomputable def bad(n:Nat):AO:= .exc 8 (w5 (.str n)) true
theorem a8s{C:Cx}{l aq:Loc}{J af:H}{t:MB}{a b r:MSs}{id:Nat}(ht:tstE C l t J= .ok false J)(ha:execB C b l J= .exc id aq af):execB C (.cons (.ifS t a b) r) l J= .exc id aq af:=by
 show((tstE C l t J).thenB l λx J=>match x with |true=>execB C a l J |false=>execB C b l J).and _=_;rw[ht];show(execB C b l J).and _=_;rw[ha];rfl
noncomputable abbrev wkA(ro:Int)(a:Int)(b:Bool):List AV:=[.obj 9, .int ro, .int a, .bool b]
noncomputable abbrev wkL(ro:Int)(a:Int)(b:Bool)(f q o:Int):Loc:=upd (upd (upd (bl r32 (wkA ro a b)) 43 (.int f)) 44 (.int q)) 45 (.int o)
noncomputable abbrev wkM(ro:Int)(a:Int)(b:Bool)(f q o pl e:Int):Loc:=upd (upd (wkL ro a b f q o) 30 (.int pl)) 49 (.int e)
section
variable{d O B:List (Int×AV)}{p g h:AO}{aa J τ:H}{m j k i:Nat}{a f q o e t:Int}{b:Bool}{z:RS}{ro:Int}
theorem y9(ha:Ad a f q o):a7 TT (m+2) 31 [.obj 9, .int a] (hb d p g h aa)= .ok (.tup [.int f, .int q, .int o]) (hb d p g h aa):=
 d6 r31 (by rfl) (by rfl) (w1 (v:= .tup [.int f, .int q, .int o]) (ae:=hb d p g h aa) ((a7y (m:=m) ha.h0 ha.h1).trans (by rw[ha.hf,ha.hq,ha.ho])) (iz (by kernel_rfl) (rt (by kernel_rfl))))
theorem a3k(ha:Ad a f q o)(w:Wd (ro+4*f))(he:u8 d ((ro+4*f).fdiv 4)= .int e)(hz:execB (cm (m+2)) (tl (tl (tl b32))) (wkM ro a b f q o (ro+4*f) e) (hb d p g h aa)=z):
  execB (cm (m+2)) b32 (bl r32 (wkA ro a b)) (hb d p g h aa)=z:=
 H8 (v:= .tup [.int f, .int q, .int o]) (ae:=hb d p g h aa) (l':=wkL ro a b f q o) (af:=hb d p g h aa) (y9 (m:=m) ha) (by kernel_rfl)
  (w1 (v:= .int (ro+4*f)) (ae:=hb d p g h aa) (by kernel_rfl) (w1 (v:= .int e) (ae:=hb d p g h aa) (he▸w4 (m:=m) w) hz))
theorem a04(ha:Ad a f q o)(w:Wd (ro+4*f))(he:u8 d ((ro+4*f).fdiv 4)= .int e)(P:Pt e t):a7 TT (m+3) 32 (wkA ro a b) (hb d p g h aa)= .ok (.int (t+4*q)) (hb d p g h aa):=
 d6 r32 (by rfl) (by rfl) (a3k ha w he (iff (ae:=hb d p g h aa) (aq:=wkM ro a b f q o (ro+4*f) e) (af:=hb d p g h aa) (tst (b:=bitAnd e 1==0) (by kernel_rfl) (by simpa using P.v)) (iz (ofB (i0 (m:=m+1)) P.l) rfl)
  (rt (j6 (x:=t) (y:=4*q) ((k4 (m:=m+1) P.s).trans (by rw[P.p])) (by kernel_rfl) rfl))))
theorem b2d(ha:Ad a f q o)(w:Wd (ro+4*f))(he:u8 d ((ro+4*f).fdiv 4)= .int e)(h1:(bitAnd e 1==0)=true):a7 TT (m+3) 32 (wkA ro a false) (hb d p g h aa)= .ok .none (hb d p g h aa):=
 d6 r32 (by rfl) (by rfl) (a3k ha w he (irz (tst (b:=bitAnd e 1==0) (by kernel_rfl) h1) (irz (by kernel_rfl) (rt (by kernel_rfl)))))
theorem b8w(ha:Ad a f q o)(w:Wd (ro+4*f))(he:u8 d ((ro+4*f).fdiv 4)= .int e)(L:Lf e):a7 TT (m+3) 32 (wkA ro a b) (hb d p g h aa)= .exc (aa.length+10) (hb d p g h (aa++[bad 96])):=
 o7 (af:=hb d p g h aa) (z:=false) (c:=8) (g:=w5 (.str 96)) r32 (by rfl) (by rfl) (a3k ha w he (a8s (tst (b:=bitAnd e 1==0) (by kernel_rfl) (by simpa using L.v)) (ixz (ofB (i0 (m:=m+1)) L.l) (w7 (m:=m+1)))))
theorem O6{x:R AV}(hx:a7 TT (m+3) 32 (wkA ro a false) (hb d p g h aa)=x):a6 (cm (m+3)) (bl r37 [.obj 9, .int ro, .int a]) (.meth (.loc 10) 100 (.cons (.loc 75) (.cons (.loc 14) .nil))) (hb d p g h aa)=x:=by
 refine z6 (id:=9) (ae:=hb d p g h aa) (c:=5) (f:=y0) (i:=32) (af:=hb d p g h aa) (vs:=[.int ro, .int a]) (by kernel_rfl) rfl (by kernel_rfl) (by kernel_rfl) (by kernel_rfl) (Eq.trans ?_ hx);show a7 TT (m+3) 32 [.obj 9, .int ro, .int a] _=_
 kernel_rfl
theorem c92(ha:Ad a f q o)(w:Wd (ro+4*f))(he:u8 d ((ro+4*f).fdiv 4)= .int e)(L:Lf e):a7 TT (m+4) 37 [.obj 9, .int ro, .int a] (hb d p g h aa)= .exc (aa.length+10) (hb d p g h (aa++[bad 96])):=
 o7 (af:=hb d p g h aa) (z:=true) (c:=8) (g:=w5 (.str 96)) r37 (by rfl) (by rfl) (stx (O6 (b8w ha w he L)))
theorem c2w(ha:Ad a f q o)(w:Wd (ro+4*f))(he:u8 d ((ro+4*f).fdiv 4)= .int e)(h1:(bitAnd e 1==0)=true):a7 TT (m+4) 37 [.obj 9, .int ro, .int a] (hb d p g h aa)= .exc (aa.length+10) (hb d p g h (aa++[bad 107])):=
 o7 (af:=hb d p g h aa) (z:=false) (c:=8) (g:=w5 (.str 107)) r37 (by rfl) (by rfl) (w1 (O6 (b2d ha w he h1)) (ixz (V7 (b:=true) (by kernel_rfl) rfl) (w7 (m:=m+2))))
theorem b7i{u:Int}{e2:Int}(w2:Wd u)(he2:u8 d (u.fdiv 4)= .int e2):tstE (cm (m+3)) (upd (bl r37 [.obj 9, .int ro, .int a]) 30 (.int u)) (.of (.cmp .eq (.bin .and (.meth (.attr (.loc 10) 90) 25 (.cons (.loc 30) .nil)) (.glo 53)) (.int 0))) (hb d p g h aa)= .ok (bitAnd e2 1==0) (hb d p g h aa):=
 cmi (x:= .int (bitAnd e2 1)) (y:= .int 0) (j6 (x:=e2) (y:=1) (he2▸w4 (m:=m+1) w2) (by kernel_rfl) rfl) (by kernel_rfl) (by kernel_rfl)
theorem d28(ha:Ad a f q o)(w:Wd (ro+4*f))(he:u8 d ((ro+4*f).fdiv 4)= .int e)(P:Pt e t)(w2:Wd (t+4*q)){e2:Int}(he2:u8 d ((t+4*q).fdiv 4)= .int e2)(h1:(bitAnd e2 1==0)=true):a7 TT (m+4) 37 [.obj 9, .int ro, .int a] (hb d p g h aa)= .exc (aa.length+10) (hb d p g h (aa++[bad 107])):=
 o7 (af:=hb d p g h aa) (z:=false) (c:=8) (g:=w5 (.str 107)) r37 (by rfl) (by rfl) (w1 (O6 (a04 ha w he P)) (ixz (m6 (b:=false) (by kernel_rfl) rfl (V7 (b7i w2 he2) h1)) (w7 (m:=m+2))))
theorem d3c(ha:Ad a f q o)(w:Wd (ro+4*f))(he:u8 d ((ro+4*f).fdiv 4)= .int e)(P:Pt e t)(w2:Wd (t+4*q)){e2:Int}(he2:u8 d ((t+4*q).fdiv 4)= .int e2)(h1:(bitAnd e2 1==0)=false):a7 TT (m+4) 37 [.obj 9, .int ro, .int a] (hb d p g h aa)= .ok (.int (t+4*q)) (hb d p g h aa):=
 d6 r37 (by rfl) (by rfl) (w1 (O6 (a04 ha w he P)) (iz (m6 (b:=false) (by kernel_rfl) rfl (m6 (b7i w2 he2) h1 rfl)) (rt (by kernel_rfl))))
structure Fl (x:Int):Prop where
 b:(!(bitAnd x (bitNot 1023)==0))=false
 l:(!(bitAnd x 10==0))=true
 v:(!(bitAnd (bitOr x 1) 1==0))=true
 w:(!(bitAnd (bitOr x 1) 6==4))=true
theorem N1{x:Int}(F:Fl x):a7 TT (m+2) 34 [.obj 9, .int x] (hb d p g h aa)= .ok .none (hb d p g h aa):=
 m5 r34 (by rfl) (by rfl) (iz (m6 (b:= !(bitAnd x (bitNot 1023)==0)) (by kernel_rfl) F.b (m6 (b:=false) (C4 (b:=true) ((i0 (m:=m)).trans (by rw[F.l]))) rfl (m6 (b:=false) (C4 (b:=true) ((G8 (m:=m) F.v).trans (by rw[F.w]))) rfl rfl))) rfl)
theorem d37{x:Int}(h0:(!(bitAnd x (bitNot 1023)==0))=false)(h1:(!(bitAnd (bitOr x 1) 1==0))=true)(h2:(!(bitAnd x 10==0))=false\/(!(bitAnd (bitOr x 1) 6==4))=false):a7 TT (m+2) 34 [.obj 9, .int x] (hb d p g h aa)= .exc (aa.length+10) (hb d p g h (aa++[bad 99])):=by
 refine o7 (af:=hb d p g h aa) (z:=false) (c:=8) (g:=w5 (.str 99)) r34 (by rfl) (by rfl) (ixz (m6 (b:= !(bitAnd x (bitNot 1023)==0)) (by kernel_rfl) h0 ?_) (w7 (m:=m)));cases q: !(bitAnd x 10==0)with
 |false=>exact V7 (b:=true) (C4 (b:=false) ((i0 (m:=m)).trans (by rw[q]))) rfl
 |true=>
  have h3:=h2.resolve_left (by rw[q];exact nofun);exact m6 (b:=false) (C4 (b:=true) ((i0 (m:=m)).trans (by rw[q]))) rfl (V7 (b:=true) (C4 (b:=false) ((G8 (m:=m) h1).trans (by rw[h3]))) rfl)
end
end
section
noncomputable def qf(wj kj:Nat)(room:Int):Nat->AV:=upd (upd (upd (upd (λ_=> .undef) 84 (.obj 8)) 64 (.obj 2)) 83 (.int room)) 82 (.obj (kj+10))
theorem b8c(f:Nat->AV)(n:Nat)(a b:AV):upd (upd f n a) n b=upd f n b:=funext λy=>by
 unfold upd
 by_cases h:y=n
 ·rw[if_pos h,if_pos h]
 ·rw[if_neg h,if_neg h,if_neg h]
abbrev KD:=List (List KA×Int)
noncomputable abbrev kq(ro:Int)(n:Int)(k:Nat)(md s x:Int):List KA:=[.i n, .s (kc k), .i md, .i s, .i x, .i ro]
noncomputable abbrev qk(ro:Int)(a:Int)(k:Nat)(md s x:Int):AV:= .tup [.int (a.fdiv 16), .str (kc k), .int md, .int s, .int x, .int ro]
section
variable{C:Cx}{l:Loc}{J:H}{o e:ME}{v:AV}{D:KD}{id:Nat}{ks:List KA}{vs:List AV}{n:Int}
theorem dtv(ae:H)(ho:a6 C l o ae= .ok (.obj id) ae)(h:ae[id]? =some (AO.tdict D))(ha:a6 C l e ae= .ok (.tup vs) ae)(hk:s5 vs=some ks):a6 C l (.meth o 2 (.cons e .nil)) ae= .ok (g9 .none (a9 D ks) .int) ae:=by
 refine c8 ho ?_;show opI (g9 R.bad (s6 ae[id]? 2) λb=>R.bind _ λvs J=>c6 .bad (s6 J[id]? 2==some b) (a0k id 2 vs J)) ae[id]? _=_;rw[h];refine c8 (x:=[.tup vs]) (ae:=ae) (c8 ha rfl) ?_;show c6 R.bad (s6 ae[id]? 2==some "dict.get") (a7p id ae [.tup vs])=_;unfold a7p;rw[h];show g9 R.bad (s5 vs) _=_;rw[hk];rfl
theorem d2n(h:J[id]? =some (AO.tdict D))(hf:A1 D.length=true):c71 J (.obj id)= .ok (.int D.length) J:=by
 show W6 (opT R.bad J[id]? _) J[id]? _=_;rw[h];show c6 R.bad (A1 D.length) _=_;rw[hf];rfl
theorem sit{i:ME}(ho:a6 C l o J= .ok (.obj id) J)(hi:a6 C l i J= .ok (.tup vs) J)(h:J[id]? =some (AO.tdict D))(hk:s5 vs=some ks)(hf:n9 D.length=true):v5 C (.int n) (.idx o i) l J= .ok l (J.set id (AO.tdict (i5 D ks n))):=by
 refine c8 ho (c8 hi ?_);show g9 R.bad (W6 (W9 (opT _ J[id]? _) J[id]? _) J[id]? _) _=_;rw[h];show g9 R.bad (g9 none (s5 vs) _) _=_;rw[hk];show g9 R.bad (c6 none (n9 D.length) _) _=_;rw[hf];rfl
theorem sia{f:Nat->AV}{c n:Nat}(ho:a6 C l o J= .ok (.obj id) J)(h:J[id]? =some (.inst c f))(hc:(C.T.fld c n&&decide (n<256))=true):v5 C v (.attr o n) l J= .ok l (J.set id (.inst c (upd f n v))):=by
 refine c8 ho ?_;show g9 R.bad (opI _ J[id]? _) _=_;rw[h];show g9 R.bad (c6 none (C.T.fld c n&&decide (n<256)) _) _=_;rw[hc];rfl
end
section
variable{d d':List (Int×AV)}{p g h:AO}{aa J τ:H}{m j k wj kj c:Nat}{a md s x room b ph:Int}{v:AV}{D:KD}{z:RS}{ro:Int}
theorem a3t(hq:aa[j]? =some (AO.inst 4 (qf wj kj room)))(hk:aa[kj]? =some (AO.tdict D))(hv:(g9 AV.none (a9 D (kq ro (a.fdiv 16) k md s x)) .int)=v)
  (hz:execB (cm m) (tl (tl b27)) (upd (upd (bl r27 (P9 ro (j+10) a k md s x)) 87 (qk ro a k md s x)) 6 v) (hb d p g h aa)=z):execB (cm m) b27 (bl r27 (P9 ro (j+10) a k md s x)) (hb d p g h aa)=z:=
 w1 (v:=qk ro a k md s x) (ae:=hb d p g h aa) (c8 (x:=[.int (a.fdiv 16), .str (kc k), .int md, .int s, .int x, .int ro]) (ae:=hb d p g h aa)
  (c8 (x:= .int (a.fdiv 16)) (ae:=hb d p g h aa) (j6 (x:=a) (y:=4) (by kernel_rfl) (at_ (id:=2) (c:=1) (f:=z5) (at_ (id:=j+10) (c:=4) (f:=qf wj kj room) (ae:=hb d p g h aa) (by kernel_rfl) hq (by kernel_rfl) rfl nofun) rfl (by kernel_rfl) rfl nofun) (by kernel_rfl)) (by kernel_rfl)) rfl)
  (w1 (v:=v) (ae:=hb d p g h aa) ((dtv (hb d p g h aa) (id:=kj+10) (D:=D) (vs:=[.int (a.fdiv 16), .str (kc k), .int md, .int s, .int x, .int ro]) (ks:=kq ro (a.fdiv 16) k md s x) (at_ (id:=j+10) (c:=4) (f:=qf wj kj room) (ae:=hb d p g h aa) (by kernel_rfl) hq (by kernel_rfl) rfl nofun) hk (by kernel_rfl) (by kernel_rfl)).trans (congrArg (λv=>R.ok v _) hv)) hz)
theorem a15(hq:aa[j]? =some (AO.inst 4 (qf wj kj room)))(hk:aa[kj]? =some (AO.tdict D))(hv:a9 D (kq ro (a.fdiv 16) k md s x)=some b):
  a7 TT (m+1) 27 (P9 ro (j+10) a k md s x) (hb d p g h aa)= .ok (.int (bitOr b (bitAnd a 15))) (hb d p g h aa):=
 d6 r27 (by rfl) (by rfl) (a3t (v:= .int b) hq hk (by rw[hv];rfl) (iz (by kernel_rfl) (rt (j6 (x:=b) (y:=bitAnd a 15) (by kernel_rfl) (j6 (x:=a) (y:=15) (by kernel_rfl)
  (j6 (x:=16) (y:=1) (at_ (id:=2) (c:=1) (f:=z5) (at_ (id:=j+10) (c:=4) (f:=qf wj kj room) (ae:=hb d p g h aa) (by kernel_rfl) hq (by kernel_rfl) rfl nofun) rfl (by kernel_rfl) rfl nofun) (by kernel_rfl) rfl) rfl) rfl))))
theorem a8h{R:R AV}(hq:aa[j]? =some (AO.inst 4 (qf wj kj room)))(hw:(hb d p g h aa)[8]? =some (.inst 3 k7))(hr:a7 TT m 22 (P9 ro 8 a k md s x) (hb d p g h aa)=R):
  a6 (cm m) (upd (upd (bl r27 (P9 ro (j+10) a k md s x)) 87 (qk ro a k md s x)) 6 .none) (.meth (.attr (.loc 10) 84) 88 (.cons (.loc 75) (.cons (.loc 14) (.cons (.loc 57) (.cons (.loc 62) (.cons (.loc 60) (.cons (.loc 56) .nil))))))) (hb d p g h aa)=R:=
 z6 (id:=8) (ae:=hb d p g h aa) (c:=3) (f:=k7) (i:=22) (vs:=[.int ro, .int a, .str (kc k), .int md, .int s, .int x]) (at_ (id:=j+10) (c:=4) (f:=qf wj kj room) (ae:=hb d p g h aa) (by kernel_rfl) hq (by kernel_rfl) rfl nofun) hw (by kernel_rfl) (by kernel_rfl) (by kernel_rfl) hr
theorem a43(hq:aa[j]? =some (AO.inst 4 (qf wj kj room)))(hw:(hb d p g h aa)[8]? =some (.inst 3 k7))(hk:aa[kj]? =some (AO.tdict D))(hv:a9 D (kq ro (a.fdiv 16) k md s x)=none)
  (hr:a7 TT m 22 (P9 ro 8 a k md s x) (hb d p g h aa)= .exc (aa.length+10) (hb d p g h (aa++[X5 k a]))):a7 TT (m+1) 27 (P9 ro (j+10) a k md s x) (hb d p g h aa)= .exc (aa.length+10) (hb d p g h (aa++[X5 k a])):=
 o7 (af:=hb d p g h aa) (z:=true) (c:=7) (g:=y5 (pf k) a) r27 (by rfl) (by rfl) (a3t (v:= .none) hq hk (by rw[hv];rfl) (ixz (by kernel_rfl) (stx (id:=aa.length+10) (ae:=hb d p g h (aa++[X5 k a])) (a8h hq hw hr))))
noncomputable abbrev qL(ro:Int)(j:Nat)(a:Int)(k:Nat)(md s x ph:Int):Loc:=upd (upd (upd (bl r27 (P9 ro (j+10) a k md s x)) 87 (qk ro a k md s x)) 6 .none) 46 (.int ph)
theorem b98(hq:aa[j]? =some (AO.inst 4 (qf wj kj room)))(hk:aa[kj]? =some (AO.tdict D))(hf:A1 D.length=true):tstE (cm m) (qL ro j a k md s x ph) (.of (.cmp .ge (.call (.glo 34) (.cons (.attr (.loc 10) 82) .nil)) (.attr (.loc 10) 83))) (hb d p g h aa)= .ok (decide (room<=D.length)) (hb d p g h aa):=
 cmi (x:= .int D.length) (y:= .int room) (c8 (x:= .bi .len) (ae:=hb d p g h aa) (by kernel_rfl) (c8 (x:=[.obj (kj+10)]) (ae:=hb d p g h aa) (c8 (at_ (id:=j+10) (c:=4) (f:=qf wj kj room) (ae:=hb d p g h aa) (by kernel_rfl) hq (by kernel_rfl) rfl nofun) rfl) (d2n (J:=hb d p g h aa) (id:=kj+10) hk hf)))
  (at_ (id:=j+10) (c:=4) (f:=qf wj kj room) (ae:=hb d p g h aa) (by kernel_rfl) hq (by kernel_rfl) rfl nofun) rfl
theorem b7d(hq:aa[j]? =some (AO.inst 4 (qf wj kj room)))(hk:aa[kj]? =some (AO.tdict D))(hf:n9 D.length=true)(hz:execB (cm (m+1)) (.cons (.ret (.loc 46)) .nil) (qL ro j a k md s x ph) (hb d p g h (aa.set kj (AO.tdict (i5 D (kq ro (a.fdiv 16) k md s x) (bitAnd ph (bitNot 15))))))=z):
  execB (cm (m+1)) (.cons (.assign (.idx (.attr (.loc 10) 82) (.loc 87)) (.meth (.attr (.loc 10) 64) 86 (.cons (.loc 46) .nil))) (.cons (.ret (.loc 46)) .nil)) (qL ro j a k md s x ph) (hb d p g h aa)=z:=
 H8 (v:= .int (bitAnd ph (bitNot 15))) (ae:=hb d p g h aa) (l':=qL ro j a k md s x ph) (z6 (id:=2) (ae:=hb d p g h aa) (c:=1) (f:=z5) (i:=14) (af:=hb d p g h aa) (vs:=[.int ph]) (at_ (id:=j+10) (c:=4) (f:=qf wj kj room) (ae:=hb d p g h aa) (by kernel_rfl) hq (by kernel_rfl) rfl nofun) rfl (by kernel_rfl) (by kernel_rfl) (by kernel_rfl) (Eq.trans (by kernel_rfl) (c4b (m:=m) (a:=ph) (d:=d) (aa:=p::g::h:: .inst 6 b2c:: .list []:: .inst 3 k7:: .inst 5 y0::aa))))
  (sit (id:=kj+10) (D:=D) (ks:=kq ro (a.fdiv 16) k md s x) (vs:=[.int (a.fdiv 16), .str (kc k), .int md, .int s, .int x, .int ro]) (at_ (id:=j+10) (c:=4) (f:=qf wj kj room) (ae:=hb d p g h aa) (by kernel_rfl) hq (by kernel_rfl) rfl nofun) (by kernel_rfl) hk (by kernel_rfl) hf) hz
theorem a13(hq:aa[j]? =some (AO.inst 4 (qf wj kj room)))(hw:(hb d p g h aa)[8]? =some (.inst 3 k7))(hk:aa[kj]? =some (AO.tdict D))(hv:a9 D (kq ro (a.fdiv 16) k md s x)=none)(hf1:A1 D.length=true)(hf:n9 D.length=true)(hlt: ¬room<=D.length)
  (hr:a7 TT (m+1) 22 (P9 ro 8 a k md s x) (hb d p g h aa)= .ok (.int ph) (hb d' p g h aa)):a7 TT (m+2) 27 (P9 ro (j+10) a k md s x) (hb d p g h aa)= .ok (.int ph) (hb d' p g h (aa.set kj (AO.tdict (i5 D (kq ro (a.fdiv 16) k md s x) (bitAnd ph (bitNot 15)))))):=
 d6 r27 (by rfl) (by rfl) (a3t (v:= .none) hq hk (by rw[hv];rfl) (irz (by kernel_rfl) (w1 (v:= .int ph) (ae:=hb d' p g h aa) (a8h hq hw hr) (iz (tst (b98 hq hk hf1) (decide_eq_false hlt)) (b7d hq hk hf (rt (by kernel_rfl)))))))
theorem a1w(hq:aa[j]? =some (AO.inst 4 (qf wj kj room)))(hw:(hb d p g h aa)[8]? =some (.inst 3 k7))(hk:aa[kj]? =some (AO.tdict D))(hv:a9 D (kq ro (a.fdiv 16) k md s x)=none)(hf1:A1 D.length=true)(hge:room<=D.length)
  (hr:a7 TT (m+1) 22 (P9 ro 8 a k md s x) (hb d p g h aa)= .ok (.int ph) (hb d' p g h aa)):a7 TT (m+2) 27 (P9 ro (j+10) a k md s x) (hb d p g h aa)= .ok (.int ph) (hb d' p g h (((aa++[AO.tdict []]).set j (AO.inst 4 (qf wj aa.length room))).set aa.length (AO.tdict [(kq ro (a.fdiv 16) k md s x,bitAnd ph (bitNot 15))]))):=by
 have hj:j<aa.length:=(List.getElem?_eq_some_iff.mp hq).1;have hq':(aa++[AO.tdict []])[j]? =some (AO.inst 4 (qf wj kj room)):=i9 hq;refine d6 r27 (by rfl) (by rfl) (a3t (v:= .none) hq hk (by rw[hv];rfl) (irz (by kernel_rfl) (w1 (v:= .int ph) (ae:=hb d' p g h aa) (a8h hq hw hr)
  (ift (ae:=hb d' p g h aa) (aq:=qL ro j a k md s x ph) (af:=hb d' p g h ((aa++[AO.tdict []]).set j (AO.inst 4 (qf wj aa.length room)))) (tst (b98 hq hk hf1) (decide_eq_true hge))
   (H8 (v:= .obj (aa.length+10)) (ae:=hb d' p g h (aa++[AO.tdict []])) (l':=qL ro j a k md s x ph) (af:=hb d' p g h ((aa++[AO.tdict []]).set j (AO.inst 4 (qf wj aa.length room)))) rfl
    ((sia (id:=j+10) (J:=hb d' p g h (aa++[AO.tdict []])) (c:=4) (f:=qf wj kj room) (by kernel_rfl) hq' (by kernel_rfl)).trans ?_) rfl)
   (b7d (wj:=wj) (kj:=aa.length) (room:=room) (D:=[]) ?_ ?_ rfl (rt (by kernel_rfl)))))))
 ·unfold qf;rw[b8c];rfl
 ·rw[List.getElem?_set_self (by rw[List.length_append];exact Nat.lt_succ_of_lt hj)]
 ·rw[List.getElem?_set_ne (Nat.ne_of_lt hj)];exact j7
end
end
section
theorem a08: ∀ks:List KA,s5 (ks.map v8)=some ks
 |[]=>rfl
 | .i n::r=>by
  show g9 none (s5 (r.map v8)) (λy=>some (KA.i n::y))=_;rw[a08 r];rfl
 | .s n::r=>by
  show g9 none (s5 (r.map v8)) (λy=>some (KA.s n::y))=_;rw[a08 r];rfl
theorem a55{α β:Type}[DecidableEq α]{d:List (α×β)}{k:α}{v:β}(h:a9 d k=some v):(k,v)∈d:=by
 unfold a9 at h;obtain⟨p,hp,rfl⟩:=Option.map_eq_some_iff.mp h;have h1:=List.find?_some hp;have h2:=of_decide_eq_true h1;subst h2;exact List.mem_of_find?_eq_some hp
theorem P2{α β:Type}[DecidableEq α]{d:List (α×β)}{k:α}{v:β}{p:α×β}(h:p∈i5 d k v):p∈d\/p=(k,v):=by
 unfold i5 at h
 by_cases hc:d.any (λp=>p.1=k)=true
 ·rw[if_pos hc]at h
  obtain⟨q,hq,rfl⟩:=List.mem_map.mp h
  by_cases e:q.1=k
  ·rw[if_pos e,e];exact .inr rfl
  ·rw[if_neg e];exact .inl hq
 ·rw[if_neg hc]at h
  rcases List.mem_append.mp h with h |h
  ·exact .inl h
  ·exact .inr (List.mem_singleton.mp h)
theorem x7{α β:Type}[DecidableEq α]{d:List (α×β)}{k:α}{v:β}:(i5 d k v).length<=d.length+1:=by
 unfold i5
 by_cases hc:d.any (λp=>p.1=k)=true
 ·rw[if_pos hc,List.length_map];exact Nat.le_succ _
 ·rw[if_neg hc,List.length_append];exact Nat.le_refl _
theorem N6{α β:Type}[DecidableEq α]{d:List (α×β)}{k:α}{v:β}(h:(k,v)∈d): ∃w,a9 d k=some w:=by
 unfold a9;cases e:d.find? (λp=>p.1=k)with
 |none=>exact absurd (List.find?_eq_none.mp e _ h) (by simp)
 |some w=>exact⟨w.2,rfl⟩
theorem a31: ∀(ys d:KD){p},p∈ys.foldl (λd p=>i5 d p.1 p.2) d->p∈d\/p∈ys
 |[],d,p,h=> .inl h
 |y::r,d,p,h=>by
  rcases a31 r (i5 d y.1 y.2) h with h |h
  ·rcases P2 h with h |h
   ·exact .inl h
   ·exact .inr (h▸List.mem_cons_self ..)
  ·exact .inr (List.mem_cons_of_mem _ h)
theorem a6x: ∀(ys d:KD),(ys.foldl (λd p=>i5 d p.1 p.2) d).length<=d.length+ys.length
 |[],d=>Nat.le_refl _
 |y::r,d=>Nat.le_trans (a6x r _) (by rw[List.length_cons,Nat.add_comm r.length 1, <-Nat.add_assoc];exact Nat.add_le_add_right x7 _)
theorem Y7{α β:Type}{f:AV->H->R (Option α)}{J:H}(e:β->AV)(o:β->Option α): ∀l:List β,(∀a∈l,f (e a) J= .ok (o a) J)->j9 f (l.map e) J= .ok (l.filterMap o) J
 |[],_=>rfl
 |a::r,h=>by
  show okO (f (e a) J) (λo af=>okO (j9 f (r.map e) af) λl ax=> .ok (T0 o l) ax)=_;rw[h a (List.mem_cons_self ..)];show okO (j9 f (r.map e) J) (λl ax=> .ok (T0 (o a) l) ax)=_;rw[Y7 e o r λb hb=>h b (List.mem_cons_of_mem _ hb)];show R.ok _ J=_;rw[List.filterMap_cons];cases o a<;>rfl
noncomputable def dco(D:KD)(g:List KA->Bool):KD:=(D.filterMap λp=>match g p.1 with |true=>some (p.1,(a9 D p.1).getD 0) |false=>none).foldl (λd p=>i5 d p.1 p.2) []
theorem c2l{D:KD}{g:List KA->Bool}{p}(h:p∈dco D g):p∈D/\g p.1=true:=by
 rcases a31 _ _ h with h |h
 ·cases h
 ·obtain⟨q,hq,e⟩:=List.mem_filterMap.mp h
  cases hg:g q.1 with
  |false=>rw[hg]at e;cases e
  |true=>
   rw[hg]at e;cases e;obtain⟨w,hw⟩:=N6 (k:=q.1) (v:=q.2) hq;exact⟨by rw[hw];exact a55 hw,hg⟩
theorem c3x{D:KD}{g:List KA->Bool}:(dco D g).length<=D.length:=Nat.le_trans (a6x _ _) (by rw[List.length_nil,Nat.zero_add];exact List.length_filterMap_le ..)
theorem c9t{C:Cx}{l:Loc}{J:H}{it key val:ME}{conds:MBs}{x id:Nat}{free:List Nat}{D:KD}(g:List KA->Bool)(hi:a6 C l it J= .ok (.obj id) J)(h:J[id]? =some (.tdict D))(hp:(C.hz&&n9 D.length&&(G5 conds&&p7 key&&p7 val))=true)
  (hf: ∀p∈D,allE C (upd (only free l) x (.tup (p.1.map v8))) conds J= .ok (g p.1) J/\a6 C (upd (only free l) x (.tup (p.1.map v8))) key J= .ok (.tup (p.1.map v8)) J/\a6 C (upd (only free l) x (.tup (p.1.map v8))) val J= .ok (.int ((a9 D p.1).getD 0)) J):
  a6 C l (.dcomp x free it conds key val) J= .ok (.obj J.length) (J++[.tdict (dco D g)]):=by
 refine c8 hi ?_;show g9 R.bad (W9 (opT none J[id]? λd=>some (d.map λp=>AV.tup (p.1.map v8),true)) J[id]? λd=>some (d.map λp=>AV.int p.1,true)) _=_;rw[h];show c6 R.bad (C.hz&&n9 (D.map λp=>AV.tup (p.1.map v8)).length&&(G5 conds&&p7 key&&p7 val)) _=_;rw[List.length_map,hp];refine c8 (Y7 (λp:List KA×Int=>AV.tup (p.1.map v8)) (λp=>match g p.1 with |true=>some (p.1,(a9 D p.1).getD 0) |false=>none) D λp hm=> ?_) rfl;obtain⟨h1,h2,h3⟩:=hf p hm;refine c8 h1 ?_;cases g p.1 with
 |false=>rfl
 |true=>
  refine c8 h2 (c8 h3 ?_);show g9 R.bad (s5 (p.1.map v8)) _=_;rw[a08];rfl
theorem al1{C:Cx}{l:Loc}{J:H}{t:MB}{b:Bool}(h:tstE C l t J= .ok b J):allE C l (.cons t .nil) J= .ok b J:=c8 h (by cases b<;>rfl)
noncomputable def hd:List KA->Int | .i n::_=>n |_=>0
theorem b2b{d:List (Int×AV)}{p g h:AO}{aa:H}{m j wj kj:Nat}{a room:Int}{D:KD}(hq:aa[j]? =some (.inst 4 (qf wj kj room)))(hk:aa[kj]? =some (.tdict D))(hf:n9 D.length=true)(hD: ∀p∈D, ∃ro n k md s x,p.1=kq ro n k md s x):
  a7 TT (m+1) 28 [.obj (j+10), .int a] (hb d p g h aa)= .ok .none (hb d p g h ((aa++[AO.tdict (dco D λks=> !(hd ks==a.fdiv 16))]).set j (.inst 4 (qf wj aa.length room)))):=by
 refine m5 r28 (by rfl) (by rfl) (iz (by kernel_rfl) (H8 (v:= .int (a.fdiv 16)) (ae:=hb d p g h aa) (l':=upd (bl r28 [.obj (j+10), .int a]) 42 (.int (a.fdiv 16))) (af:=hb d p g h aa)
  (j6 (x:=a) (y:=4) (by kernel_rfl) (at_ (id:=2) (c:=1) (f:=z5) (at_ (id:=j+10) (c:=4) (f:=qf wj kj room) (ae:=hb d p g h aa) (by kernel_rfl) hq (by kernel_rfl) rfl nofun) rfl (by kernel_rfl) rfl nofun) (by kernel_rfl)) (by kernel_rfl)
  (H8 (v:= .obj (aa.length+10)) (ae:=hb d p g h (aa++[AO.tdict (dco D λks=> !(hd ks==a.fdiv 16))])) (l':=upd (bl r28 [.obj (j+10), .int a]) 42 (.int (a.fdiv 16)))
   (c9t (id:=kj+10) (D:=D) (J:=hb d p g h aa) (λks=> !(hd ks==a.fdiv 16)) (at_ (id:=j+10) (c:=4) (f:=qf wj kj room) (ae:=hb d p g h aa) (by kernel_rfl) hq (by kernel_rfl) rfl nofun) hk ?_ ?_)
   ((sia (id:=j+10) (J:=hb d p g h (aa++[AO.tdict (dco D λks=> !(hd ks==a.fdiv 16))])) (c:=4) (f:=qf wj kj room) (by kernel_rfl) (i9 hq) (by kernel_rfl)).trans ?_) rfl)))
 ·rw[hf];rfl
 ·intro q hm
  obtain⟨ro,n,k,md,s,x,e⟩:=hD q hm;obtain⟨w,hw⟩:=N6 (k:=q.1) (v:=q.2) hm;rw[e]at hw;rw[e,hw];refine⟨al1 (b:= !(n==a.fdiv 16)) (by kernel_rfl),by kernel_rfl,ixo (id:=kj+10) (y:= .tup [.int n, .str (kc k), .int md, .int s, .int x, .int ro]) (ob:=some (AO.tdict D)) (at_ (id:=j+10) (c:=4) (f:=qf wj kj room) (ae:=hb d p g h aa) (by kernel_rfl) hq (by kernel_rfl) rfl nofun) (by kernel_rfl) hk ?_⟩;show g9 R.bad (a9 D (kq ro n k md s x)) _=_;rw[hw];rfl
 ·unfold qf;rw[b8c];rfl
end
section
section
variable{C:Cx}{l l' aq:Loc}{J ae af:H}{t:MB}{b r:MSs}{s:MS}{n:Nat}{x z:RS}
theorem stp(h:a60 C s l J= .next l' ae)(hr:execB C r l' ae=x):execB C (.cons s r) l J=x:=by
 show(a60 C s l J).and _=x;rw[h];exact hr
theorem wln{t:Loc->H->R Bool}{f:Loc->H->RS}(ht:t l J= .ok true J)(hf:f l J= .next aq af)(hr:n7 t f n aq af=z):n7 t f (n+1) l J=z:=by
 show(match t l J with | .ok false af=>RS.next l af | .ok true af=>(match f l af with | .next aP ax=>n7 t f n aP ax | .cont aP ax=>n7 t f n aP ax |_=>RS.bad) |_=>RS.bad)=z;rw[ht];show(match f l J with | .next aP ax=>n7 t f n aP ax | .cont aP ax=>n7 t f n aP ax |_=>RS.bad)=z;rw[hf];exact hr
theorem wle{t:Loc->H->R Bool}{f:Loc->H->RS}(ht:t l J= .ok false J):n7 t f (n+1) l J= .next l J:=by
 show(match t l J with | .ok false af=>RS.next l af | .ok true af=>(match f l af with | .next aP ax=>n7 t f n aP ax | .cont aP ax=>n7 t f n aP ax |_=>RS.bad) |_=>RS.bad)=_;rw[ht]
end
noncomputable def a2f:List Nat:=[5,5,5,5,5,5,5,5,5,5,5,5,5,5,5,5]
noncomputable def bWh:MSs->MSs | .cons _ (.cons _ (.cons (.whileS _ _ b) _))=>b |_=> .nil
noncomputable abbrev stU(l:Loc)(P:Int)(i:Int):Loc:=upd (upd (upd (upd (upd l 10 (.obj 0)) 32 (.bytes a2f)) 4 (.int 16)) 30 (.int P)) 29 (.int i)
theorem b4r{l:Loc}{P i:Int}(h1:l 10= .obj 0)(h2:l 32= .bytes a2f)(h3:l 4= .int 16)(h4:l 30= .int P)(h5:l 29= .int i):stU l P i=l:=by
 unfold stU;rw[i7 h1,i7 h2,i7 h3,i7 h4,i7 h5]
noncomputable abbrev zeU(l:Loc)(P E:Int):Loc:=upd (upd (upd l 10 (.obj 0)) 4 (.int E)) 30 (.int P)
theorem b4m{l:Loc}{P E:Int}(h1:l 10= .obj 0)(h3:l 4= .int E)(h4:l 30= .int P):zeU l P E=l:=by
 unfold zeU;rw[i7 h1,i7 h3,i7 h4]
section
variable{d:List (Int×AV)}{aa:H}{m:Nat}{l:Loc}{P A E:Int}
noncomputable abbrev b3e(l:Loc):Loc:=upd (upd (upd (upd (upd (upd (upd (upd l 24 (.int 5)) 19 (.int 5)) 24 (.int 5)) 19 (.int 1285)) 24 (.int 5)) 19 (.int 328965)) 24 (.int 5)) 19 (.int 84215045)
theorem b0v{i:Nat}(hi:i<4)(h3:bitAnd P 3=0)(hf:n9 d.length=true): ∃aq,execB (cm (m+1)) (bWh b9) (stU l P (4*i:Nat)) (hm d aa)= .next (stU aq (P+4) (4*(i+1):Nat)) (hm (d9 d (P.fdiv 4) 84215045) aa):=by
 obtain⟨l2,e2⟩: ∃l2,upd (upd (stU l P (4*i:Nat)) 12 (.int 4)) 19 (.int 0)=l2:=⟨_,rfl⟩
 refine⟨upd (upd (b3e (upd (upd (stU l P (4*i:Nat)) 12 (.int 4)) 19 (.int 0))) 30 (.int (P+4))) 29 (.int (4*(i+1):Nat)), ?_⟩;rw[b4r (l:=upd (upd (b3e (upd (upd (stU l P (4*i:Nat)) 12 (.int 4)) 19 (.int 0))) 30 (.int (P+4))) 29 (.int (4*(i+1):Nat))) (by rfl) (by rfl) (by rfl) (by rfl) (by rfl)];have e1:a6 (cm (m+1)) (stU l P (4*i:Nat)) (.call (.glo 33) (.cons (.bin .sub (.int 4) (.bin .and (.loc 30) (.int 3))) (.cons (.bin .sub (.loc 4) (.loc 29)) .nil))) (hm d aa)= .ok (.int 4) (hm d aa):=by
  refine Eq.trans (b:= .ok (.int (if 16-((4*i:Nat):Int)<4-bitAnd P 3 then 16-((4*i:Nat):Int)else 4-bitAnd P 3)) (hm d aa)) (by kernel_rfl) ?_;rw[h3,if_neg (by lia)];rfl
 refine w1 e1 (w1 (v:= .int 0) (ae:=hm d aa) (by kernel_rfl) (stp (l':=b3e (upd (upd (stU l P (4*i:Nat)) 12 (.int 4)) 19 (.int 0))) (ae:=hm d aa) (by
   refine lt4 hi ?_ ?_ ?_ ?_<;>kernel_rfl)
  (ift (ae:=hm d aa) (aq:=b3e (upd (upd (stU l P (4*i:Nat)) 12 (.int 4)) 19 (.int 0))) (af:=hm (d9 d (P.fdiv 4) 84215045) aa) (by kernel_rfl)
   (ex (v:= .none) (a3i (m:=m) hf) rfl) (stp (l':=upd (b3e (upd (upd (stU l P (4*i:Nat)) 12 (.int 4)) 19 (.int 0))) 30 (.int (P+4))) (ae:=hm (d9 d (P.fdiv 4) 84215045) aa) (by kernel_rfl)
    (stp (l':=upd (upd (b3e (upd (upd (stU l P (4*i:Nat)) 12 (.int 4)) 19 (.int 0))) 30 (.int (P+4))) 29 (.int (4*(i+1):Nat))) (ae:=hm (d9 d (P.fdiv 4) 84215045) aa) (by
     refine lt4 hi ?_ ?_ ?_ ?_<;>kernel_rfl) rfl)))))
theorem b06(h1:P+4<=E)(h3:bitAnd P 3=0)(hf:n9 d.length=true): ∃aq,execB (cm (m+1)) (bWh b10) (zeU l P E) (hm d aa)= .next (zeU aq (P+4) E) (hm (d9 d (P.fdiv 4) 0) aa):=by
 refine⟨upd (upd (zeU l P E) 12 (.int 4)) 30 (.int (P+4)), ?_⟩;rw[b4m (l:=upd (upd (zeU l P E) 12 (.int 4)) 30 (.int (P+4))) (by rfl) (by rfl) (by rfl)];have e1:a6 (cm (m+1)) (zeU l P E) (.call (.glo 33) (.cons (.bin .sub (.int 4) (.bin .and (.loc 30) (.int 3))) (.cons (.bin .sub (.loc 4) (.loc 30)) .nil))) (hm d aa)= .ok (.int 4) (hm d aa):=by
  refine Eq.trans (b:= .ok (.int (if E-P<4-bitAnd P 3 then E-P else 4-bitAnd P 3)) (hm d aa)) (by kernel_rfl) ?_;rw[h3,if_neg (by lia)];rfl
 exact w1 e1 (ift (ae:=hm d aa) (aq:=upd (zeU l P E) 12 (.int 4)) (af:=hm (d9 d (P.fdiv 4) 0) aa) (by kernel_rfl) (ex (v:= .none) (a3i (m:=m) hf) rfl)
  (stp (l':=upd (upd (zeU l P E) 12 (.int 4)) 30 (.int (P+4))) (ae:=hm (d9 d (P.fdiv 4) 0) aa) (by kernel_rfl) rfl))
structure Sp (A:Int):Prop where
 lo: ¬A<0
 hi: ¬1024<A+16
 c0:bitAnd A 3=0
 c1:bitAnd (A+4) 3=0
 c2:bitAnd (A+4+4) 3=0
 c3:bitAnd (A+4+4+4) 3=0
noncomputable def A0(d:List (Int×AV))(A v:Int):List (Int×AV):=d9 (d9 (d9 (d9 d (A.fdiv 4) v) ((A+4).fdiv 4) v) ((A+4+4).fdiv 4) v) ((A+4+4+4).fdiv 4) v
theorem g8{i v:Int}:(d9 d i v).length<=d.length+1:=by
 unfold d9
 by_cases h:v=0
 ·rw[if_pos h];exact Nat.le_trans (List.length_filter_le ..) (Nat.le_succ _)
 ·rw[if_neg h];exact x7
theorem b0m(S:Sp A):a7 TT (m+1) 2 [.obj 0, .int A, .int 16] (hm d aa)= .ok .none (hm d aa):=
 m5 r2 (by rfl) (by rfl) (iz (m6 (b:=false) (by kernel_rfl) rfl (m6 (b:=decide (A<0)) (by kernel_rfl) (decide_eq_false S.lo) (m6 (b:=decide (1024<A+16)) (by kernel_rfl) (decide_eq_false S.hi) rfl))) rfl)
theorem wh_{C:Cx}{l aq:Loc}{J af:H}{t:MB}{b r:MSs}{n:Nat}{x:RS}(hl:n7 (λl J=>tstE C l t J) (λl J=>execB C b l J) n l J= .next aq af)(hr:execB C r aq af=x):execB C (.cons (.whileS n t b) r) l J=x:=by
 show(n7 (λl J=>tstE C l t J) (λl J=>execB C b l J) n l J).and _=x;rw[hl];exact hr
theorem b3p(S:Sp A)(hf:d.length<=1000):a7 TT (m+2) 9 [.obj 0, .int A, .bytes a2f] (hm d aa)= .ok .none (hm (A0 d A 84215045) aa):=by
 have g0:n9 d.length=true:=decide_eq_true (Nat.le_trans hf (by decide));have k1:=Nat.le_trans (g8 (d:=d) (i:=A.fdiv 4) (v:=84215045)) (Nat.succ_le_succ hf);have g1:n9 _=true:=decide_eq_true (Nat.le_trans k1 (by decide));have k2:=Nat.le_trans (g8 (d:=d9 d (A.fdiv 4) 84215045) (i:=(A+4).fdiv 4) (v:=84215045)) (Nat.succ_le_succ k1);have g2:n9 _=true:=decide_eq_true (Nat.le_trans k2 (by decide));have k3:=Nat.le_trans (g8 (d:=d9 (d9 d (A.fdiv 4) 84215045) ((A+4).fdiv 4) 84215045) (i:=(A+4+4).fdiv 4) (v:=84215045)) (Nat.succ_le_succ k2);have g3:n9 _=true:=decide_eq_true (Nat.le_trans k3 (by decide));obtain⟨l0,e0⟩: ∃l0,upd (upd (upd (bl r9 [.obj 0, .int A, .bytes a2f]) 30 (.int A)) 29 (.int 0)) 4 (.int 16)=stU l0 A (4*0:Nat):=⟨_,(b4r (by rfl) (by rfl) (by rfl) (by rfl) (by rfl)).symm⟩
 obtain⟨a1,h1⟩:=b0v (m:=m) (aa:=aa) (l:=l0) (i:=0) (by decide) S.c0 g0;obtain⟨a2,h2⟩:=b0v (m:=m) (aa:=aa) (l:=a1) (i:=1) (by decide) S.c1 g1;obtain⟨a3,h3⟩:=b0v (m:=m) (aa:=aa) (l:=a2) (i:=2) (by decide) S.c2 g2;obtain⟨a4,h4⟩:=b0v (m:=m) (aa:=aa) (l:=a3) (i:=3) (by decide) S.c3 g3;refine m5 (l':=stU a4 (A+4+4+4+4) (4*(3+1):Nat)) r9 (by rfl) (by rfl) (ex (v:= .none) (ae:=hm d aa) (b0m (m:=m) S) (H8 (v:= .tup [.int A, .int 0, .int 16]) (ae:=hm d aa) (l':=upd (upd (upd (bl r9 [.obj 0, .int A, .bytes a2f]) 30 (.int A)) 29 (.int 0)) 4 (.int 16)) (af:=hm d aa) (by kernel_rfl) (by kernel_rfl) ?_));rw[e0];exact wh_ (wln (by kernel_rfl) h1 (wln (by kernel_rfl) h2 (wln (by kernel_rfl) h3 (wln (by kernel_rfl) h4 (wle (by kernel_rfl)))))) rfl
theorem b9y(S:Sp A)(hf:d.length<=1000):a7 TT (m+2) 10 [.obj 0, .int A, .int 16] (hm d aa)= .ok .none (hm (A0 d A 0) aa):=by
 have g0:n9 d.length=true:=decide_eq_true (Nat.le_trans hf (by decide));have k1:=Nat.le_trans (g8 (d:=d) (i:=A.fdiv 4) (v:=0)) (Nat.succ_le_succ hf);have g1:n9 _=true:=decide_eq_true (Nat.le_trans k1 (by decide));have k2:=Nat.le_trans (g8 (d:=d9 d (A.fdiv 4) 0) (i:=(A+4).fdiv 4) (v:=0)) (Nat.succ_le_succ k1);have g2:n9 _=true:=decide_eq_true (Nat.le_trans k2 (by decide));have k3:=Nat.le_trans (g8 (d:=d9 (d9 d (A.fdiv 4) 0) ((A+4).fdiv 4) 0) (i:=(A+4+4).fdiv 4) (v:=0)) (Nat.succ_le_succ k2);have g3:n9 _=true:=decide_eq_true (Nat.le_trans k3 (by decide));obtain⟨l0,e0⟩: ∃l0,upd (upd (bl r10 [.obj 0, .int A, .int 16]) 30 (.int A)) 4 (.int (A+16))=zeU l0 A (A+16):=⟨_,(b4m (by rfl) (by rfl) (by rfl)).symm⟩
 obtain⟨a1,h1⟩:=b06 (m:=m) (aa:=aa) (l:=l0) (E:=A+16) (by lia) S.c0 g0;obtain⟨a2,h2⟩:=b06 (m:=m) (aa:=aa) (l:=a1) (E:=A+16) (by lia) S.c1 g1;obtain⟨a3,h3⟩:=b06 (m:=m) (aa:=aa) (l:=a2) (E:=A+16) (by lia) S.c2 g2;obtain⟨a4,h4⟩:=b06 (m:=m) (aa:=aa) (l:=a3) (E:=A+16) (by lia) S.c3 g3;refine m5 (l':=zeU a4 (A+4+4+4+4) (A+16)) r10 (by rfl) (by rfl) (ex (v:= .none) (ae:=hm d aa) (b0m (m:=m) S) (H8 (v:= .tup [.int A, .int (A+16)]) (ae:=hm d aa) (l':=upd (upd (bl r10 [.obj 0, .int A, .int 16]) 30 (.int A)) 4 (.int (A+16))) (af:=hm d aa) (by kernel_rfl) (by kernel_rfl) ?_));rw[e0];have tt: ∀{l P}{d:List (Int×AV)}(b:Bool),decide (P<A+16)=b->tstE (cm (m+1)) (zeU l P (A+16)) (.of (.cmp .lt (.loc 30) (.loc 4))) (hm d aa)= .ok b (hm d aa):=λb hb=>tst (b:=decide (_<A+16)) (by kernel_rfl) hb;exact wh_ (wln (tt true (decide_eq_true (by lia))) h1 (wln (tt true (decide_eq_true (by lia))) h2 (wln (tt true (decide_eq_true (by lia))) h3 (wln (tt true (decide_eq_true (by lia))) h4 (wle (tt false (decide_eq_false (by lia)))))))) rfl
end
end
section
noncomputable def fP0:Nat->AV:=upd (upd (upd (upd (upd (upd (upd (upd (λ_=> .undef) 90 (.obj 0)) 6 (.int 864)) 15 (.int 10)) 12 (.int 16)) 124 (.bool true)) 123 (.int 0)) 122 (.obj 4)) 121 (.obj 5)
noncomputable def E6(u:Int):Nat->AV:=upd fP0 123 (.int u)
noncomputable abbrev hp(d:List (Int×AV))(u:Int)(G:List (Int×AV))(aa:H):H:=hb d (.inst 2 (E6 u)) (.list []) (.idict G) aa
section
variable{d G:List (Int×AV)}{aa:H}{m:Nat}{u A a f q o e t fl ph:Int}{b:Bool}
theorem a24(hu:u<=9):a7 TT (m+2) 47 [.obj 3, .int 1] (hp d u G aa)= .ok .none (hp d u G aa):=
 have e0:a7 TT (m+1) 46 [.obj 3] (hp d u G aa)= .ok (.int (10-u+0)) (hp d u G aa):=d6 r46 (by rfl) (by rfl) (rt (by kernel_rfl))
 m5 r47 (by rfl) (by rfl) (iz (cmi (x:= .int (10-u+0)) (y:= .int 1) e0 (by kernel_rfl) (by
  show R.ok (AV.bool (decide (10-u+0<1))) _=_;rw[decide_eq_false (by lia)])) rfl)
theorem c34(hu:u<=9)(hA:864+u*16=A)(S:Sp A)(hf:d.length<=1000)(hG:n9 G.length=true):a7 TT (m+4) 49 [.obj 3] (hp d u G aa)= .ok (.int A) (hp (A0 d A 84215045) (u+1) (i5 G A (.int 1)) aa):=by
 subst hA;have e1:a7 TT (m+3) 45 [.obj 3, .int u] (hp d u G aa)= .ok (.int (864+u*16)) (hp d u G aa):=
  d6 (m:=m+2) r45 (by rfl) (by rfl) (rt (j6 (x:=864) (y:=u*16) (by kernel_rfl) (j6 (x:=u) (y:=16) (by kernel_rfl) (by kernel_rfl) (whn (p:=small u||small 16) (z:=none) (by kernel_rfl) (Bool.or_true _))) rfl))
 have e2:a7 TT (m+3) 48 [.obj 3, .int (864+u*16), .int 5] (hp d (u+1) (i5 G (864+u*16) (.int 1)) aa)= .ok .none (hp (A0 d (864+u*16) 84215045) (u+1) (i5 G (864+u*16) (.int 1)) aa):=
  m5 (m:=m+2) (l':=bl r48 [.obj 3, .int (864+u*16), .int 5]) r48 (by rfl) (by rfl) (ift (ae:=hp d (u+1) (i5 G (864+u*16) (.int 1)) aa) (aq:=bl r48 [.obj 3, .int (864+u*16), .int 5]) (af:=hp (A0 d (864+u*16) 84215045) (u+1) (i5 G (864+u*16) (.int 1)) aa) (by kernel_rfl)
   (ex (v:= .none) (z6 (id:=0) (ae:=hp d (u+1) (i5 G (864+u*16) (.int 1)) aa) (af:=hp d (u+1) (i5 G (864+u*16) (.int 1)) aa) (c:=0) (f:=a1n) (i:=9) (vs:=[.int (864+u*16), .bytes a2f]) (by kernel_rfl) rfl (by kernel_rfl) (by kernel_rfl) (by kernel_rfl) (b3p (m:=m) S hf)) rfl) rfl)
 have eset:hp d u G aa=hb d (.inst 2 (E6 u)) (.list []) (.idict G) aa:=rfl;refine d6 r49 (by rfl) (by rfl) (ex (v:= .none) (ae:=hp d u G aa) (a24 (m:=m+1) hu) (iff (ae:=hp d u G aa) (aq:=upd (bl r49 [.obj 3]) 14 (.int (864+u*16))) (af:=hp d (u+1) G aa) (by kernel_rfl)
  (w1 (v:= .int (864+u*16)) (ae:=hp d u G aa) e1 (stp (l':=upd (bl r49 [.obj 3]) 14 (.int (864+u*16))) (ae:=hp d (u+1) G aa) ?_ rfl))
  (H8 (v:= .int 1) (ae:=hp d (u+1) G aa) (l':=upd (bl r49 [.obj 3]) 14 (.int (864+u*16))) (af:=hp d (u+1) (i5 G (864+u*16) (.int 1)) aa) (by kernel_rfl) (whs (p:=n9 G.length) (z:= .bad) (y:=hp d (u+1) (i5 G (864+u*16) (.int 1)) aa) (f:=λJ=>R.ok (upd (bl r49 [.obj 3]) 14 (.int (864+u*16))) J) (by kernel_rfl) hG)
   (ex (v:= .none) e2 (rt (by kernel_rfl))))))
 refine(show a60 (cm (m+3)) (.augAttr 10 123 (.int 1)) (upd (bl r49 [.obj 3]) 14 (.int (864+u*16))) (hp d u G aa)= .next (upd (bl r49 [.obj 3]) 14 (.int (864+u*16))) (hb d (.inst 2 (upd (E6 u) 123 (.int (u+1)))) (.list []) (.idict G) aa)from by kernel_rfl).trans ?_;show RS.next _ (hb d (.inst 2 (upd (upd fP0 123 (.int u)) 123 (.int (u+1)))) (.list []) (.idict G) aa)=RS.next _ (hb d (.inst 2 (upd fP0 123 (.int (u+1)))) (.list []) (.idict G) aa);rw[b8c]
theorem A3{v:Int}{n:Nat}(h:d.length<=n):(A0 d A v).length<=n+4:=by
 unfold A0;exact Nat.le_trans g8 (Nat.succ_le_succ (Nat.le_trans g8 (Nat.succ_le_succ (Nat.le_trans g8 (Nat.succ_le_succ (Nat.le_trans g8 (Nat.succ_le_succ h)))))))
noncomputable abbrev C8(d:List (Int×AV))(A:Int):List (Int×AV):=A0 (A0 d A 84215045) A 0
theorem a2q(hu:u<=9)(hA:864+u*16=A)(S:Sp A)(hf:d.length<=500)(hG:n9 G.length=true):a7 TT (m+5) 30 [.obj 9] (hp d u G aa)= .ok (.int A) (hp (C8 d A) (u+1) (i5 G A (.int 1)) aa):=by
 have k:(A0 d A 84215045).length<=1000:=Nat.le_trans (A3 hf) (by decide);exact d6 r30 (by rfl) (by rfl) (w1 (v:= .int A) (ae:=hp (A0 d A 84215045) (u+1) (i5 G A (.int 1)) aa) (c34 hu hA S (Nat.le_trans hf (by decide)) hG)
  (ex (v:= .none) (ae:=hp (C8 d A) (u+1) (i5 G A (.int 1)) aa) (b9y (m:=m+2) S k) (rt (by kernel_rfl))))
end
end
section
noncomputable abbrev a6k(A:Int):Int:=bitOr (A.fdiv 16*1024) 1
noncomputable abbrev enA(ro:Int)(a:Int):List AV:=[.obj 9, .int ro, .int a]
noncomputable abbrev enM(ro:Int)(a f q o e:Int):Loc:=upd (upd (upd (upd (bl r33 (enA ro a)) 43 (.int f)) 44 (.int q)) 45 (.int o)) 49 (.int e)
section
variable{d d1 G G1:List (Int×AV)}{aa:H}{p g h:AO}{m:Nat}{ro u u1 A a f q o e e2 t fl ph pl:Int}{z:RS}
theorem b7k(ha:Ad a f q o)(w:Wd (ro+4*f))(he:u8 d ((ro+4*f).fdiv 4)= .int e)(h1:(bitAnd e 1==0)=true)(hu:u<=9)(hA:864+u*16=A)(S:Sp A)(hf:d.length<=500)(hG:n9 G.length=true)(hs:small (A.fdiv 16)=true)(P:Pt (a6k A) A):
  a7 TT (m+6) 32 (wkA ro a true) (hp d u G aa)= .ok (.int (A+4*q)) (hp (d9 (C8 d A) ((ro+4*f).fdiv 4) (bitAnd (a6k A) 4294967295)) (u+1) (i5 G A (.int 1)) aa):=by
 have k:n9 (C8 d A).length=true:=decide_eq_true (Nat.le_trans (A3 (A3 hf)) (by decide));have e1:a6 (cm (m+5)) (wkM ro a true f q o (ro+4*f) e) (.meth (.attr (.loc 10) 64) 49 (.cons (.meth (.loc 10) 94 .nil) (.cons (.glo 53) .nil))) (hp d u G aa)= .ok (.int (a6k A)) (hp (C8 d A) (u+1) (i5 G A (.int 1)) aa):=
  z6 (id:=2) (ae:=hp d u G aa) (af:=hp (C8 d A) (u+1) (i5 G A (.int 1)) aa) (c:=1) (f:=z5) (i:=16) (vs:=[.int A, .int 1]) (by kernel_rfl) rfl (by kernel_rfl) (by kernel_rfl) (c8 (a2q (m:=m) hu hA S hf hG) (by kernel_rfl)) (N2 (m:=m+4) hs)
 refine d6 r32 (by rfl) (by rfl) (a3k (m:=m+3) ha w he (ift (ae:=hp d u G aa) (aq:=upd (wkM ro a true f q o (ro+4*f) e) 49 (.int (a6k A))) (af:=hp (d9 (C8 d A) ((ro+4*f).fdiv 4) (bitAnd (a6k A) 4294967295)) (u+1) (i5 G A (.int 1)) aa) (tst (b:=bitAnd e 1==0) (by kernel_rfl) h1)
  (iz (by kernel_rfl) (w1 e1 (ex (v:= .none) (p9 (m:=m+3) w k) rfl))) (rt (j6 (x:=A) (y:=4*q) ((k4 (m:=m+4) P.s).trans (by rw[P.p])) (by kernel_rfl) rfl))))
theorem a28(ha:Ad a f q o)(w:Wd (ro+4*f))(he:u8 d ((ro+4*f).fdiv 4)= .int e)(hz:execB (cm (m+2)) (tl (tl b33)) (enM ro a f q o e) (hb d p g h aa)=z):execB (cm (m+2)) b33 (bl r33 (enA ro a)) (hb d p g h aa)=z:=
 H8 (v:= .tup [.int f, .int q, .int o]) (ae:=hb d p g h aa) (l':=upd (upd (upd (bl r33 (enA ro a)) 43 (.int f)) 44 (.int q)) 45 (.int o)) (af:=hb d p g h aa) (y9 (m:=m) ha) (by kernel_rfl) (w1 (v:= .int e) (ae:=hb d p g h aa) (he▸w4 (m:=m) w) hz)
theorem b8i{C:Cx}{l:Loc}{J:H}(hl:l 49= .int e)(hg:C.T=TT)(h1:(bitAnd e 1==0)=true):a6 C l (.ite (.of (.cmp .ne (.bin .and (.loc 49) (.glo 53)) (.int 0))) (.loc 49) (.int 0)) J= .ok (.int 0) J:=by
 obtain⟨cl,hz,T⟩:=C;cases hg;refine a96 (tst (b:= !(bitAnd e 1==0)) (cmi (x:= .int (bitAnd e 1)) (y:= .int 0) (j6 (x:=e) (y:=1) ?_ (by kernel_rfl) rfl) (by kernel_rfl) (by kernel_rfl)) (by rw[h1];rfl)) (by kernel_rfl);show l9 R.bad (l 49) (.ok (l 49) _)=_;rw[hl];rfl
theorem b4y(ha:Ad a f q o)(w:Wd (ro+4*f))(he:u8 d ((ro+4*f).fdiv 4)= .int e)(h1:(bitAnd e 1==0)=true):a7 TT (m+3) 33 (enA ro a) (hb d p g h aa)= .ok (.int 0) (hb d p g h aa):=
 d6 r33 (by rfl) (by rfl) (a28 ha w he (irz (V7 (b:=bitAnd e 1==0) (by kernel_rfl) h1) (rt (b8i (by rfl) rfl h1))))
theorem c3a(ha:Ad a f q o)(w:Wd (ro+4*f))(he:u8 d ((ro+4*f).fdiv 4)= .int e)(P:Pt e t)(w2:Wd (t+4*q))(he2:u8 d ((t+4*q).fdiv 4)= .int e2)(h1:(bitAnd e2 1==0)=true):a7 TT (m+3) 33 (enA ro a) (hb d p g h aa)= .ok (.int 0) (hb d p g h aa):=by
 refine d6 r33 (by rfl) (by rfl) (a28 ha w he (iz (m6 (b:=bitAnd e 1==0) (by kernel_rfl) (by simpa using P.v) (m6 (b:=false) ((ofB (i0 (m:=m+1)) P.l)) rfl rfl))
  (w1 (v:= .int e2) (ae:=hb d p g h aa) ?_ (rt (b8i (by rfl) rfl h1)))))
 exact z6 (id:=0) (ae:=hb d p g h aa) (af:=hb d p g h aa) (c:=0) (f:=a1n) (i:=4) (vs:=[.int (t+4*q)]) (by kernel_rfl) rfl (by kernel_rfl) (by kernel_rfl)
  (c8 (j6 (x:=t) (y:=4*q) ((k4 (m:=m+1) P.s).trans (by rw[P.p])) (by kernel_rfl) rfl) rfl) (he2▸w4 (m:=m) w2)
noncomputable abbrev H9(ph fl:Int):Int:=bitOr (ph.fdiv 16*1024) (bitOr fl 1)
theorem c1s(F:Fl fl)(h1:(bitAnd a 15==0)=true)(h2:(bitAnd ph 15==0)=true)(hs:small (ph.fdiv 16)=true)(he:a7 TT (m+6) 33 (enA ro a) (hp d u G aa)= .ok (.int 0) (hp d u G aa))
  (hw:a7 TT (m+6) 32 (wkA ro a true) (hp d u G aa)= .ok (.int pl) (hp d1 u1 G1 aa))(w:Wd pl)(hf:n9 d1.length=true):
  a7 TT (m+7) 35 [.obj 9, .int ro, .int a, .int ph, .int fl] (hp d u G aa)= .ok .none (hp (d9 d1 (pl.fdiv 4) (bitAnd (H9 ph fl) 4294967295)) u1 G1 aa):=by
 have e1:a6 (cm (m+6)) (bl r35 [.obj 9, .int ro, .int a, .int ph, .int fl]) (.meth (.attr (.loc 10) 64) 49 (.cons (.loc 46) (.cons (.bin .or (.loc 48) (.glo 53)) .nil))) (hp d1 u1 G1 aa)= .ok (.int (H9 ph fl)) (hp d1 u1 G1 aa):=
  z6 (id:=2) (ae:=hp d1 u1 G1 aa) (af:=hp d1 u1 G1 aa) (c:=1) (f:=z5) (i:=16) (vs:=[.int ph, .int (bitOr fl 1)]) (by kernel_rfl) rfl (by kernel_rfl) (by kernel_rfl) (by kernel_rfl) (N2 (m:=m+5) hs)
 refine m5 (l':=bl r35 [.obj 9, .int ro, .int a, .int ph, .int fl]) r35 (by rfl) (by rfl) (ex (v:= .none) (ae:=hp d u G aa) (N1 (m:=m+4) F) (iz (m6 (b:=false) (C4 (b:=true) ((u5 (m:=m+5)).trans (by rw[h1]))) rfl (m6 (b:=false) (C4 (b:=true) ((u5 (m:=m+5)).trans (by rw[h2]))) rfl rfl))
  (iz (cmi (x:= .int 0) (y:= .int 0) he (by kernel_rfl) (by kernel_rfl)) (ex (v:= .none) (ae:=hp (d9 d1 (pl.fdiv 4) (bitAnd (H9 ph fl) 4294967295)) u1 G1 aa) ?_ rfl))))
 exact z6 (id:=0) (ae:=hp d u G aa) (af:=hp d1 u1 G1 aa) (c:=0) (f:=a1n) (i:=5) (vs:=[.int pl, .int (H9 ph fl)]) (by kernel_rfl) rfl (by kernel_rfl) (by kernel_rfl) (c8 hw (c8 (c8 e1 rfl) rfl)) (p9 (m:=m+4) w hf)
end
end
section
section
variable{d O:List (Int×AV)}{p g h:AO}{aa J τ:H}{m j k i:Nat}{ro a:Int}{v w:AV}
noncomputable abbrev tdA(ro:Int)(j:Nat)(a:Int)(k:Nat):List AV:=[.obj j, .int ro, .int a, .int (k:Nat)]
theorem d0g(hi:i=22\/i=27):a7 TT (m+1) i [.obj j, .int ro, .int a, .str (kc k), .int 0] J=a7 TT (m+1) i (P9 ro j a k 0 0 0) J:=by
 rcases hi with rfl |rfl<;>kernel_rfl
theorem b8v{c:Nat}{f:Nat->AV}{R:R AV}(hi:i=22\/i=27)(hk:k<3)(hw:J[j]? =some (.inst c f))(hm:TT.meth c 88=some i)(hu:isU (f 88)=true)(hr:a7 TT (m+1) i (P9 ro j a k 0 0 0) J=R):
  a6 (cm (m+1)) (bl r52 (tdA ro j a k)) (.meth (.loc 168) 88 (.cons (.loc 75) (.cons (.loc 14) (.cons (.idx (.lstF (.cons (.str 156) (.cons (.str 77) (.cons (.str 79) .nil)))) (.loc 57)) (.cons (.int 0) .nil))))) J=R:=
 z6 (id:=j) (ae:=J) (c:=c) (f:=f) (i:=i) (vs:=[.int ro, .int a, .str (kc k), .int 0]) (by kernel_rfl) hw hm hu (by refine lt3 hk ?_ ?_ ?_<;>kernel_rfl) ((d0g hi).trans hr)
theorem I9{c:Nat}{f:Nat->AV}(hi:i=22\/i=27)(hk:k<3)(hw:J[j]? =some (.inst c f))(hm:TT.meth c 88=some i)(hu:isU (f 88)=true)(hr:a7 TT (m+1) i (P9 ro j a k 0 0 0) J= .ok v τ):a7 TT (m+2) 52 (tdA ro j a k) J= .ok v τ:=
 d6 r52 (by rfl) (by rfl) (d25 (rt (b8v hi hk hw hm hu hr)))
theorem b1c{c:Nat}{f:Nat->AV}(hi:i=22\/i=27)(hk:k<3)(hw:J[j]? =some (.inst c f))(hm:TT.meth c 88=some i)(hu:isU (f 88)=true)(hr:a7 TT (m+1) i (P9 ro j a k 0 0 0) J= .exc τ.length (τ++[X5 k a])):a7 TT (m+2) 52 (tdA ro j a k) J= .ok (.tup [.int (pf k), .int a]) (τ++[X5 k a]):=
 d6 r52 (by rfl) (by rfl) (c9c (af:=τ++[X5 k a]) (c:=7) (g:=y5 (pf k) a) (z:=true) (d:=7) (rtx (b8v hi hk hw hm hu hr)) j7 (by kernel_rfl) (by kernel_rfl) (by
  rw[I8];refine rt (c8 (x:=[.int (pf k), .int a]) (ae:=τ++[X5 k a]) (c8 (x:= .int (pf k)) (ae:=τ++[X5 k a]) ?_ (c8 (x:=[.int a]) (ae:=τ++[X5 k a]) (c8 (x:= .int a) (ae:=τ++[X5 k a]) ?_ rfl) rfl)) rfl)
  ·refine c8 (x:= .obj τ.length) (ae:=τ++[X5 k a]) (by kernel_rfl) ?_
   show opI (R6 R.bad (τ++[X5 k a])[τ.length]? _) (τ++[X5 k a])[τ.length]? _=_;rw[j7];kernel_rfl
  ·refine c8 (x:= .obj τ.length) (ae:=τ++[X5 k a]) (by kernel_rfl) ?_
   show opI (R6 R.bad (τ++[X5 k a])[τ.length]? _) (τ++[X5 k a])[τ.length]? _=_;rw[j7];kernel_rfl))
end
end
section
section
variable{d:List (Int×AV)}{p g h:AO}{aa:H}{m c:Nat}{ro a e u fl ph:Int}{z:RS}
theorem b61{C:Cx}{l:Loc}(hC:C=cm (m+4))(w2:Wd u)(he:u8 d (u.fdiv 4)= .int e)(hs:small (e.fdiv 1024)=true)(hw:a6 C l (.meth (.attr (.loc 10) 90) 25 (.cons (.loc 30) .nil)) (hb d p g h aa)= .ok (.int e) (hb d p g h aa))(hl:a6 C l (.attr (.loc 10) 64) (hb d p g h aa)= .ok (.obj 2) (hb d p g h aa)):
  a6 C l (.meth (.attr (.loc 10) 64) 46 (.cons (.meth (.attr (.loc 10) 90) 25 (.cons (.loc 30) .nil)) .nil)) (hb d p g h aa)= .ok (.int (e.fdiv 1024*16)) (hb d p g h aa):=by
 subst hC;exact z6 (id:=2) (ae:=hb d p g h aa) (af:=hb d p g h aa) (c:=1) (f:=z5) (i:=17) (vs:=[.int e]) hl rfl (by kernel_rfl) (by kernel_rfl) (c8 hw (by kernel_rfl)) (k4 (m:=m+3) hs)
theorem c1n(w2:Wd u)(he:u8 d (u.fdiv 4)= .int e)(hs:small (e.fdiv 1024)=true)(hp:a7 TT (m+4) 37 [.obj 9, .int ro, .int (bitAnd a (bitNot 15))] (hb d p g h aa)= .ok (.int u) (hb d p g h aa))(hf:n9 d.length=true):
  a7 TT (m+5) 38 [.obj 9, .int ro, .int a] (hb d p g h aa)= .ok (.int (e.fdiv 1024*16)) (hb (d9 d (u.fdiv 4) 0) p g h aa):=
 d6 r38 (by rfl) (by rfl) (w1 (v:= .int u) (ae:=hb d p g h aa) hp (w1 (v:= .int (e.fdiv 1024*16)) (ae:=hb d p g h aa) (b61 (m:=m) rfl w2 he hs (he▸w4 (m:=m+2) w2) (by kernel_rfl))
  (ex (v:= .none) (ae:=hb (d9 d (u.fdiv 4) 0) p g h aa) (p9 (m:=m+2) (v:=0) w2 hf) (rt (by kernel_rfl)))))
theorem c2i(hp:a7 TT (m+4) 37 [.obj 9, .int ro, .int (bitAnd a (bitNot 15))] (hb d p g h aa)= .exc (aa.length+10) (hb d p g h (aa++[bad c]))):
  a7 TT (m+5) 38 [.obj 9, .int ro, .int a] (hb d p g h aa)= .exc (aa.length+10) (hb d p g h (aa++[bad c])):=
 o7 (af:=hb d p g h aa) (z:=true) (c:=8) (g:=w5 (.str c)) r38 (by rfl) (by rfl) (stx (id:=aa.length+10) (ae:=hb d p g h (aa++[bad c])) hp)
theorem b6o(F:Fl fl)(h2:(bitAnd ph 15==0)=true)(hz:execB (cm (m+4)) (tl (tl b39)) (bl r39 [.obj 9, .int ro, .int a, .int ph, .int fl]) (hb d p g h aa)=z):execB (cm (m+4)) b39 (bl r39 [.obj 9, .int ro, .int a, .int ph, .int fl]) (hb d p g h aa)=z:=
 ex (v:= .none) (ae:=hb d p g h aa) (N1 (m:=m+2) F) (iz (C4 (b:=true) ((u5 (m:=m+3)).trans (by rw[h2]))) hz)
theorem c2x(F:Fl fl)(h2:(bitAnd ph 15==0)=true)(hq:small (ph.fdiv 16)=true)(w2:Wd u)(he:u8 d (u.fdiv 4)= .int e)(hs:small (e.fdiv 1024)=true)(hp:a7 TT (m+4) 37 [.obj 9, .int ro, .int (bitAnd a (bitNot 15))] (hb d p g h aa)= .ok (.int u) (hb d p g h aa))(hf:n9 d.length=true):
  a7 TT (m+5) 39 [.obj 9, .int ro, .int a, .int ph, .int fl] (hb d p g h aa)= .ok (.int (e.fdiv 1024*16)) (hb (d9 d (u.fdiv 4) (bitAnd (H9 ph fl) 4294967295)) p g h aa):=
 d6 r39 (by rfl) (by rfl) (b6o F h2 (w1 (v:= .int u) (ae:=hb d p g h aa) hp (w1 (v:= .int (e.fdiv 1024*16)) (ae:=hb d p g h aa) (b61 (m:=m) rfl w2 he hs (he▸w4 (m:=m+2) w2) (by kernel_rfl))
  (ex (v:= .none) (ae:=hb (d9 d (u.fdiv 4) (bitAnd (H9 ph fl) 4294967295)) p g h aa) (z6 (id:=0) (ae:=hb d p g h aa) (af:=hb d p g h aa) (c:=0) (f:=a1n) (i:=5) (vs:=[.int u, .int (H9 ph fl)]) (by kernel_rfl) rfl (by kernel_rfl) (by kernel_rfl)
   (c8 (x:= .int u) (ae:=hb d p g h aa) (by kernel_rfl) (c8 (x:=[.int (H9 ph fl)]) (ae:=hb d p g h aa) (c8 (x:= .int (H9 ph fl)) (ae:=hb d p g h aa) (z6 (id:=2) (ae:=hb d p g h aa) (af:=hb d p g h aa) (c:=1) (f:=z5) (i:=16) (vs:=[.int ph, .int (bitOr fl 1)]) (by kernel_rfl) rfl (by kernel_rfl) (by kernel_rfl) (by kernel_rfl) (N2 (m:=m+3) hq)) rfl) rfl))
   (p9 (m:=m+2) w2 hf)) (rt (by kernel_rfl))))))
theorem c7l(F:Fl fl)(h2:(bitAnd ph 15==0)=true)(hp:a7 TT (m+4) 37 [.obj 9, .int ro, .int (bitAnd a (bitNot 15))] (hb d p g h aa)= .exc (aa.length+10) (hb d p g h (aa++[bad c]))):
  a7 TT (m+5) 39 [.obj 9, .int ro, .int a, .int ph, .int fl] (hb d p g h aa)= .exc (aa.length+10) (hb d p g h (aa++[bad c])):=
 o7 (af:=hb d p g h aa) (z:=true) (c:=8) (g:=w5 (.str c)) r39 (by rfl) (by rfl) (b6o F h2 (stx (id:=aa.length+10) (ae:=hb d p g h (aa++[bad c])) hp))
end
end
section
section
variable{d:List (Int×AV)}{p g h:AO}{aa:H}{m c:Nat}{ro a e u fl ph f q o:Int}{z:RS}
noncomputable abbrev mlA(ro a ph fl:Int):List AV:=[.obj 9, .int ro, .int a, .int ph, .int fl]
theorem b8h{C:Cx}{l:Loc}{J:H}{e1 e2:ME}{x:Int}(h1:a6 C l e1 J= .ok (.int x) J)(h2:a6 C l e2 J= .ok (.int 64) J)(hx:x.fmod 64=0):tstE C l (.of (.cmp .ne (.bin .mod e1 e2) (.int 0))) J= .ok false J:=
 cmi (x:= .int 0) (y:= .int 0) (j6 (x:=x) (y:=64) h1 h2 ((show a1q .mod x 64=some (x.fmod 64)by kernel_rfl).trans (by rw[hx]))) (by kernel_rfl) (by kernel_rfl)
theorem b90(F:Fl fl)(h1:a.fmod 64=0)(h2:ph.fmod 64=0)(ha:Ad a f q o)(hz:execB (cm (m+4)) (tl (tl (tl b36))) (upd (bl r36 (mlA ro a ph fl)) 30 (.int (ro+4*f))) (hb d p g h aa)=z):execB (cm (m+4)) b36 (bl r36 (mlA ro a ph fl)) (hb d p g h aa)=z:=
 ex (v:= .none) (ae:=hb d p g h aa) (N1 (m:=m+2) F) (iz (m6 (b:=false) (b8h (x:=a) (by kernel_rfl) (by kernel_rfl) h1) rfl (m6 (b:=false) (b8h (x:=ph) (by kernel_rfl) (by kernel_rfl) h2) rfl rfl))
  (w1 (v:= .int (ro+4*f)) (ae:=hb d p g h aa) (j6 (x:=ro) (y:=4*f) (by kernel_rfl) (j6 (x:=4) (y:=f) (by kernel_rfl) (c8 (x:= .tup [.int f, .int q, .int o]) (ae:=hb d p g h aa) (y9 (m:=m+2) ha) (by kernel_rfl)) rfl) rfl) hz))
theorem b5l(w:Wd (ro+4*f))(he:u8 d ((ro+4*f).fdiv 4)= .int e):tstE (cm (m+4)) (upd (bl r36 (mlA ro a ph fl)) 30 (.int (ro+4*f))) (.of (.cmp .ne (.bin .and (.meth (.attr (.loc 10) 90) 25 (.cons (.loc 30) .nil)) (.glo 53)) (.int 0))) (hb d p g h aa)= .ok (!(bitAnd e 1==0)) (hb d p g h aa):=
 cmi (x:= .int (bitAnd e 1)) (y:= .int 0) (j6 (x:=e) (y:=1) (he▸w4 (m:=m+2) w) (by kernel_rfl) rfl) (by kernel_rfl) (by kernel_rfl)
theorem b2i(F:Fl fl)(h1:a.fmod 64=0)(h2:ph.fmod 64=0)(ha:Ad a f q o)(hq:small (ph.fdiv 16)=true)(w:Wd (ro+4*f))(he:u8 d ((ro+4*f).fdiv 4)= .int e)(h3:(bitAnd e 1==0)=true)(hf:n9 d.length=true):
  a7 TT (m+5) 36 (mlA ro a ph fl) (hb d p g h aa)= .ok .none (hb (d9 d ((ro+4*f).fdiv 4) (bitAnd (H9 ph fl) 4294967295)) p g h aa):=
 m5 (l':=upd (bl r36 (mlA ro a ph fl)) 30 (.int (ro+4*f))) r36 (by rfl) (by rfl) (b90 F h1 h2 ha (iz ((b5l w he).trans (by rw[h3];rfl))
  (ex (v:= .none) (ae:=hb (d9 d ((ro+4*f).fdiv 4) (bitAnd (H9 ph fl) 4294967295)) p g h aa) (z6 (id:=0) (ae:=hb d p g h aa) (af:=hb d p g h aa) (c:=0) (f:=a1n) (i:=5) (vs:=[.int (ro+4*f), .int (H9 ph fl)]) (by kernel_rfl) rfl (by kernel_rfl) (by kernel_rfl)
   (c8 (x:= .int (ro+4*f)) (ae:=hb d p g h aa) (by kernel_rfl) (c8 (x:=[.int (H9 ph fl)]) (ae:=hb d p g h aa) (c8 (x:= .int (H9 ph fl)) (ae:=hb d p g h aa) (z6 (id:=2) (ae:=hb d p g h aa) (af:=hb d p g h aa) (c:=1) (f:=z5) (i:=16) (vs:=[.int ph, .int (bitOr fl 1)]) (by kernel_rfl) rfl (by kernel_rfl) (by kernel_rfl) (by kernel_rfl) (N2 (m:=m+3) hq)) rfl) rfl))
   (p9 (m:=m+2) w hf)) rfl)))
theorem b3s(F:Fl fl)(h1:a.fmod 64=0)(h2:ph.fmod 64=0)(ha:Ad a f q o)(w:Wd (ro+4*f))(he:u8 d ((ro+4*f).fdiv 4)= .int e)(h3:(bitAnd e 1==0)=false):
  a7 TT (m+5) 36 (mlA ro a ph fl) (hb d p g h aa)= .exc (aa.length+10) (hb d p g h (aa++[bad 105])):=
 o7 (af:=hb d p g h aa) (z:=false) (c:=8) (g:=w5 (.str 105)) r36 (by rfl) (by rfl) (b90 F h1 h2 ha (ixz ((b5l w he).trans (by rw[h3];rfl)) (w7 (m:=m+3))))
end
end
section
theorem a8e{d:List (Int×AV)}{p g h:AO}{aa:H}{m j wj kj:Nat}{room:Int}(hq:aa[j]? =some (.inst 4 (qf wj kj room))):
  a7 TT (m+1) 28 [.obj (j+10)] (hb d p g h aa)= .ok .none (hb d p g h ((aa++[AO.tdict []]).set j (.inst 4 (qf wj aa.length room)))):=by
 refine d6 r28 (by rfl) (by rfl) (irz (by kernel_rfl) (H8 (v:= .obj (aa.length+10)) (ae:=hb d p g h (aa++[AO.tdict []])) (l':=bl r28 [.obj (j+10)])
  (Eq.trans (b:= .ok (.obj (hb d p g h aa).length) (hb d p g h aa++[AO.tdict []])) (by kernel_rfl) rfl)
  ((sia (id:=j+10) (J:=hb d p g h (aa++[AO.tdict []])) (c:=4) (f:=qf wj kj room) (by kernel_rfl) (i9 hq) (by kernel_rfl)).trans ?_) rfl))
 unfold qf;rw[b8c];rfl
end
section
noncomputable abbrev duA(w:Nat)(a:Int)(k:Nat):List AV:=[.obj w, .int a, .int (k:Nat)]
noncomputable abbrev duL(w:Nat)(a:Int)(k:Nat)(lg:AV)(pg fl sz:Int):Loc:=upd (upd (upd (upd (bl r40 (duA w a k)) 36 lg) 38 (.int pg)) 48 (.int fl)) 12 (.int sz)
section
variable{d O:List (Int×AV)}{p g h:AO}{aa:H}{m k w:Nat}{a pg fl sz:Int}{z:RS}
theorem c4x(hO:aa[w]? =some (.idict O))(hv:a9 O (a.fdiv 64-100)=some (.tup [.int pg, .int fl]))
  (hz:execB (cm m) (tl (tl b40)) (duL (w+10) a k (.tup [.int pg, .int fl]) pg fl 64) (hb d p g h aa)=z):execB (cm m) b40 (bl r40 (duA (w+10) a k)) (hb d p g h aa)=z:=
 w1 (v:= .tup [.int pg, .int fl]) (ae:=hb d p g h aa) (dgv (hb d p g h aa) (id:=w+10) (D:=O) (n:=a.fdiv 64-100) (by kernel_rfl) hO (by kernel_rfl) (by rw[hv];rfl))
  (H8 (v:= .tup [.int pg, .int fl, .int 64]) (ae:=hb d p g h aa) (l':=duL (w+10) a k (.tup [.int pg, .int fl]) pg fl 64) (af:=hb d p g h aa) (by kernel_rfl) (by kernel_rfl) hz)
theorem dg2{C:Cx}{l:Loc}{J:H}{o e t:ME}{D:List (Int×AV)}{n:Int}{id:Nat}{v:AV}(ho:a6 C l o J= .ok (.obj id) J)(h:J[id]? =some (.idict D))(ha:a6 C l e J= .ok (.int n) J)(ht:a6 C l t J= .ok v J):a6 C l (.meth o 2 (.cons e (.cons t .nil))) J= .ok (g9 v (a9 D n) λv=>v) J:=by
 refine c8 ho ?_;show opI (g9 R.bad (s6 J[id]? 2) λb=>R.bind _ λvs ae=>c6 .bad (s6 ae[id]? 2==some b) (a0k id 2 vs ae)) J[id]? _=_;rw[h];refine c8 (x:=[.int n,v]) (ae:=J) ?_ ?_
 ·exact c8 ha (c8 (c8 ht rfl) rfl)
 ·show c6 R.bad (s6 J[id]? 2==some "dict.get") (a7p id J [.int n,v])=_
  unfold a7p;rw[h];rfl
theorem c7u(hO:aa[w]? =some (.idict O))(hv:a9 O (a.fdiv 64-100)=none)(hw:(g9 (AV.tup [.int 0, .int 0]) (a9 O (a.fdiv 16)) λv=>v)= .tup [.int pg, .int fl])
  (hz:execB (cm m) (tl (tl b40)) (duL (w+10) a k .none pg fl 16) (hb d p g h aa)=z):execB (cm m) b40 (bl r40 (duA (w+10) a k)) (hb d p g h aa)=z:=
 w1 (v:= .none) (ae:=hb d p g h aa) (dgv (hb d p g h aa) (id:=w+10) (D:=O) (n:=a.fdiv 64-100) (by kernel_rfl) hO (by kernel_rfl) (by rw[hv];rfl))
  (H8 (v:= .tup [.int pg, .int fl, .int 16]) (ae:=hb d p g h aa) (l':=duL (w+10) a k .none pg fl 16) (af:=hb d p g h aa) (a96 (by kernel_rfl)
   (c8 (x:= .tup [.int pg, .int fl]) (ae:=hb d p g h aa) ((dg2 (id:=w+10) (D:=O) (n:=a.fdiv 16) (v:= .tup [.int 0, .int 0]) (by kernel_rfl) hO (by kernel_rfl) (by kernel_rfl)).trans (by rw[hw])) (by kernel_rfl))) (by kernel_rfl) hz)
noncomputable def ndK(k:Nat):Int:=match k with |0=>8 |1=>2 |_=>4
theorem b0f(hk:k<3){lg:AV}{b c:Bool}(hb1:(bitAnd fl 16==0)=b)(hc:(bitAnd fl (ndK k)==0)=c)(hs:sz=16\/sz=64):
  execB (cm m) (tl (tl b40)) (duL w a k lg pg fl sz) (hb d p g h aa)= .ret (match b||c with |true=> .tup [.int (pf k), .int a] |false=> .int (pg+a.fmod sz)) (hb d p g h aa):=by
 have e0:tstE (cm m) (duL w a k lg pg fl sz) (.of (.cmp .eq (.bin .and (.loc 48) (.int 16)) (.int 0))) (hb d p g h aa)= .ok b (hb d p g h aa):=
  cmi (x:= .int (bitAnd fl 16)) (y:= .int 0) (by kernel_rfl) (by kernel_rfl) (by rw[<-hb1];kernel_rfl)
 have e1:tstE (cm m) (duL w a k lg pg fl sz) (.of (.cmp .eq (.bin .and (.loc 48) (.idx (.lstF (Es [.int 8, .int 2, .int 4])) (.loc 57))) (.int 0))) (hb d p g h aa)= .ok c (hb d p g h aa):=
  cmi (x:= .int (bitAnd fl (ndK k))) (y:= .int 0) (by refine lt3 hk ?_ ?_ ?_<;>kernel_rfl) (by kernel_rfl) (by rw[<-hc];kernel_rfl)
 have r: ∀C:Cx,C=cm m->execB C (.cons (.ret (.tup (Es [.idx (.lstF (Es [.int 12, .int 13, .int 15])) (.loc 57), .loc 14]))) .nil) (duL w a k lg pg fl sz) (hb d p g h aa)= .ret (.tup [.int (pf k), .int a]) (hb d p g h aa):=λC hC=>by
  subst hC;refine rt ?_;refine lt3 hk ?_ ?_ ?_<;>kernel_rfl
 cases b with
 |true=>exact irz (V7 e0 rfl) (r _ rfl)
 |false=>cases c with
  |true=>exact irz (m6 e0 rfl (V7 e1 rfl)) (r _ rfl)
  |false=>exact iz (m6 e0 rfl (m6 e1 rfl rfl)) (rt (by rcases hs with rfl |rfl<;>kernel_rfl))
noncomputable def c31(a:Int)(k:Nat)(pg fl sz:Int):AV:=match bitAnd fl 16==0||bitAnd fl (ndK k)==0 with |true=> .tup [.int (pf k), .int a] |false=> .int (pg+a.fmod sz)
theorem dueB(hk:k<3)(hO:aa[w]? =some (.idict O))(hv:a9 O (a.fdiv 64-100)=some (.tup [.int pg, .int fl])):a7 TT (m+1) 40 (duA (w+10) a k) (hb d p g h aa)= .ok (c31 a k pg fl 64) (hb d p g h aa):=
 d6 r40 (by rfl) (by rfl) (c4x hO hv (b0f hk rfl rfl (.inr rfl)))
theorem d1i(hk:k<3)(hO:aa[w]? =some (.idict O))(hv:a9 O (a.fdiv 64-100)=none)(hw:(g9 (AV.tup [.int 0, .int 0]) (a9 O (a.fdiv 16)) λv=>v)= .tup [.int pg, .int fl]):a7 TT (m+1) 40 (duA (w+10) a k) (hb d p g h aa)= .ok (c31 a k pg fl 16) (hb d p g h aa):=
 d6 r40 (by rfl) (by rfl) (c7u hO hv hw (b0f hk rfl rfl (.inl rfl)))
end
end
section
theorem d0s{C:Cx}{l aq l':Loc}{J af ae:H}{body h r:MSs}{gl id c d:Nat}{g:Nat->AV}{z:Bool}{v:AV}(hb:execB C body l J= .exc id aq af)(ho:af[id]? =some (.exc c g z))(hg:C.T.glob gl= .cls d)(hs:(C.hz&&C.T.isExc c&&C.T.sub c d)=true)(hh:execB (quiet C) h aq (af.set id (.exc c g true))= .ret v ae):execB C (.cons (.tryS body gl none h) r) l J= .ret v ae:=by
 show((execB C body l J).orTry _).and _=_;rw[hb];show(R6 RS.bad af[id]? _).and _=_;rw[ho];show(z9 RS.bad (C.T.glob gl) _).and _=_;rw[hg];show(c6 RS.bad (C.hz&&C.T.isExc c&&C.T.sub c d) ((execB (quiet C) h aq (R6 af af[id]? _)).caught _)).and _=_;rw[hs,ho];show(c6 RS.bad true ((execB (quiet C) h aq (af.set id (.exc c g true))).caught _)).and _=_;rw[hh];rfl
noncomputable def L9(j:Nat):Int:=match j with |0=>22 |1=>18 |2=>26 |3=>30 |_=>2
noncomputable abbrev deA(ro:Int)(w mm:Nat)(wy nm rr:Int):List AV:=[.obj 9, .int ro, .obj w, .obj mm, .int wy, .int nm, .int rr]
noncomputable abbrev s9(ro:Int)(w mm:Nat)(wy nm rr:Int)(j:Nat)(lg:Bool):Loc:=upd (upd (upd (bl r53 (deA ro w mm wy nm rr)) 38 (.int (16*rr.fmod 55))) 48 (.int (L9 j))) 189 (.bool lg)
section
variable{d O:List (Int×AV)}{p g h:AO}{aa:H}{m j w mm:Nat}{ro wy nm rr:Int}{z:RS}
theorem d4p(hj:j<5)(hx:(rr.fdiv 55).fmod 5=(j:Nat)):a6 (cm m) (bl r53 (deA ro w mm wy nm rr)) (.tup (Es [.bin .mul (.int 16) (.bin .mod (.loc 170) (.int 55)), .idx (.lstF (Es [.int 22, .int 18, .int 26, .int 30, .int 2])) (.bin .mod (.bin .fdiv (.loc 170) (.int 55)) (.int 5))])) (hb d p g h aa)= .ok (.tup [.int (16*rr.fmod 55), .int (L9 j)]) (hb d p g h aa):=by
 have e2:a6 (cm m) (bl r53 (deA ro w mm wy nm rr)) (.bin .mod (.bin .fdiv (.loc 170) (.int 55)) (.int 5)) (hb d p g h aa)= .ok (.int (j:Nat)) (hb d p g h aa):=
  j6 (x:=rr.fdiv 55) (y:=5) (by kernel_rfl) (by kernel_rfl) ((show a1q .mod (rr.fdiv 55) 5=some ((rr.fdiv 55).fmod 5)by kernel_rfl).trans (by rw[hx]))
 have e3:a6 (cm m) (bl r53 (deA ro w mm wy nm rr)) (.idx (.lstF (Es [.int 22, .int 18, .int 26, .int 30, .int 2])) (.bin .mod (.bin .fdiv (.loc 170) (.int 55)) (.int 5))) (hb d p g h aa)= .ok (.int (L9 j)) (hb d p g h aa):=by
  refine c8 (x:= .lst [.int 22, .int 18, .int 26, .int 30, .int 2]) (ae:=hb d p g h aa) (by kernel_rfl) (c8 e2 ?_)
  match j,hj with
  |0,_=>kernel_rfl
  |1,_=>kernel_rfl
  |2,_=>kernel_rfl
  |3,_=>kernel_rfl
  |4,_=>kernel_rfl
 exact c8 (x:=[.int (16*rr.fmod 55), .int (L9 j)]) (ae:=hb d p g h aa) (c8 (x:= .int (16*rr.fmod 55)) (ae:=hb d p g h aa) (j6 (x:=16) (y:=rr.fmod 55) (by kernel_rfl) (by kernel_rfl) (by kernel_rfl)) (c8 (c8 e3 rfl) rfl)) rfl
theorem c1t(hj:j<5)(hx:(rr.fdiv 55).fmod 5=(j:Nat))(hO:aa[w]? =some (.idict O)){v:AV}{lg:Bool}(hv:(g9 AV.none (a9 O (nm.fdiv 4-100)) λv=>v)=v)(hl:w0 .isNot v .none (hb d p g h aa)= .ok (.bool lg) (hb d p g h aa))
  (hz:execB (cm m) (tl (tl b53)) (s9 ro (w+10) mm wy nm rr j lg) (hb d p g h aa)=z):execB (cm m) b53 (bl r53 (deA ro (w+10) mm wy nm rr)) (hb d p g h aa)=z:=
 H8 (v:= .tup [.int (16*rr.fmod 55), .int (L9 j)]) (ae:=hb d p g h aa) (l':=upd (upd (bl r53 (deA ro (w+10) mm wy nm rr)) 38 (.int (16*rr.fmod 55))) 48 (.int (L9 j))) (af:=hb d p g h aa) (d4p hj hx) (by kernel_rfl)
  (w1 (v:= .bool lg) (ae:=hb d p g h aa) (c8 (x:=v) (ae:=hb d p g h aa) (dgv (hb d p g h aa) (id:=w+10) (D:=O) (n:=nm.fdiv 4-100) (v:=v) (by kernel_rfl) hO (by kernel_rfl) hv) (c8 (x:= .none) (ae:=hb d p g h aa) (by kernel_rfl) hl)) hz)
end
end
section
noncomputable def bTr:MSs->MSs | .cons _ (.cons _ (.cons (.tryS b _ _ _) _))=>b |_=> .nil
section
variable{p g h:AO}{J τ:H}{m j w mm id:Nat}{ro nm rr:Int}{lg:Bool}{v:AV}
theorem de_1(hc:a7 TT m 38 [.obj 9, .int ro, .int (16*nm)] J= .ok v τ)(ht:J[9]? =some (.inst 5 y0)):execB (cm m) (bTr b53) (s9 ro w mm 1 nm rr j lg) J= .next (s9 ro w mm 1 nm rr j lg) τ:=
 iff (ae:=J) (aq:=s9 ro w mm 1 nm rr j lg) (af:=τ) (by kernel_rfl) (ift (ae:=J) (aq:=s9 ro w mm 1 nm rr j lg) (af:=τ) (by kernel_rfl)
  (ex (v:=v) (ae:=τ) (z6 (id:=9) (ae:=J) (af:=J) (c:=5) (f:=y0) (i:=38) (vs:=[.int ro, .int (16*nm)]) (by kernel_rfl) ht (by kernel_rfl) (by kernel_rfl) (by kernel_rfl) hc) rfl) rfl) rfl
theorem de_0(hc:a7 TT m 35 [.obj 9, .int ro, .int (16*nm), .int (16*rr.fmod 55), .int (L9 j)] J= .ok v τ)(ht:J[9]? =some (.inst 5 y0)):execB (cm m) (bTr b53) (s9 ro w mm 0 nm rr j lg) J= .next (s9 ro w mm 0 nm rr j lg) τ:=
 ift (ae:=J) (aq:=(s9 ro w mm 0 nm rr j lg)) (af:=τ) (by kernel_rfl) (ex (v:=v) (ae:=τ) (z6 (id:=9) (ae:=J) (af:=J) (c:=5) (f:=y0) (i:=35) (vs:=[.int ro, .int (16*nm), .int (16*rr.fmod 55), .int (L9 j)]) (by kernel_rfl) ht (by kernel_rfl) (by kernel_rfl) (by kernel_rfl) hc) rfl) rfl
theorem c44(hc:a7 TT m 35 [.obj 9, .int ro, .int (16*nm), .int (16*rr.fmod 55), .int (L9 j)] J= .exc id τ)(ht:J[9]? =some (.inst 5 y0)):execB (cm m) (bTr b53) (s9 ro w mm 0 nm rr j lg) J= .exc id (s9 ro w mm 0 nm rr j lg) τ:=
 ixz (by kernel_rfl) (exx (id:=id) (ae:=τ) (z6 (id:=9) (ae:=J) (af:=J) (c:=5) (f:=y0) (i:=35) (vs:=[.int ro, .int (16*nm), .int (16*rr.fmod 55), .int (L9 j)]) (by kernel_rfl) ht (by kernel_rfl) (by kernel_rfl) (by kernel_rfl) hc))
theorem d4q(hc:a7 TT m 38 [.obj 9, .int ro, .int (16*nm)] J= .exc id τ)(ht:J[9]? =some (.inst 5 y0)):execB (cm m) (bTr b53) (s9 ro w mm 1 nm rr j lg) J= .exc id (s9 ro w mm 1 nm rr j lg) τ:=
 a8s (by kernel_rfl) (ixz (by kernel_rfl) (exx (id:=id) (ae:=τ) (z6 (id:=9) (ae:=J) (af:=J) (c:=5) (f:=y0) (i:=38) (vs:=[.int ro, .int (16*nm)]) (by kernel_rfl) ht (by kernel_rfl) (by kernel_rfl) (by kernel_rfl) hc)))
theorem de_2(hc:a7 TT m 39 [.obj 9, .int ro, .int (16*nm), .int (16*rr.fmod 55), .int (L9 j)] J= .ok v τ)(ht:J[9]? =some (.inst 5 y0)):execB (cm m) (bTr b53) (s9 ro w mm 2 nm rr j lg) J= .next (s9 ro w mm 2 nm rr j lg) τ:=
 iff (ae:=J) (aq:=(s9 ro w mm 2 nm rr j lg)) (af:=τ) (by kernel_rfl) (iff (ae:=J) (aq:=(s9 ro w mm 2 nm rr j lg)) (af:=τ) (by kernel_rfl) (ift (ae:=J) (aq:=(s9 ro w mm 2 nm rr j lg)) (af:=τ) (by kernel_rfl) (ex (v:=v) (ae:=τ) (z6 (id:=9) (ae:=J) (af:=J) (c:=5) (f:=y0) (i:=39) (vs:=[.int ro, .int (16*nm), .int (16*rr.fmod 55), .int (L9 j)]) (by kernel_rfl) ht (by kernel_rfl) (by kernel_rfl) (by kernel_rfl) hc) rfl) rfl) rfl) rfl
theorem d3z(hc:a7 TT m 39 [.obj 9, .int ro, .int (16*nm), .int (16*rr.fmod 55), .int (L9 j)] J= .exc id τ)(ht:J[9]? =some (.inst 5 y0)):execB (cm m) (bTr b53) (s9 ro w mm 2 nm rr j lg) J= .exc id (s9 ro w mm 2 nm rr j lg) τ:=
 a8s (by kernel_rfl) (a8s (by kernel_rfl) (ixz (by kernel_rfl) (exx (id:=id) (ae:=τ) (z6 (id:=9) (ae:=J) (af:=J) (c:=5) (f:=y0) (i:=39) (vs:=[.int ro, .int (16*nm), .int (16*rr.fmod 55), .int (L9 j)]) (by kernel_rfl) ht (by kernel_rfl) (by kernel_rfl) (by kernel_rfl) hc))))
theorem de_3(hc:a7 TT m 36 [.obj 9, .int ro, .int (64*nm.fdiv 4), .int (64*rr.fmod 13), .int (L9 j)] J= .ok v τ)(ht:J[9]? =some (.inst 5 y0)):execB (cm m) (bTr b53) (s9 ro w mm 3 nm rr j lg) J= .next (s9 ro w mm 3 nm rr j lg) τ:=
 iff (ae:=J) (aq:=(s9 ro w mm 3 nm rr j lg)) (af:=τ) (by kernel_rfl) (iff (ae:=J) (aq:=(s9 ro w mm 3 nm rr j lg)) (af:=τ) (by kernel_rfl) (iff (ae:=J) (aq:=(s9 ro w mm 3 nm rr j lg)) (af:=τ) (by kernel_rfl) ((ex (v:=v) (ae:=τ) (z6 (id:=9) (ae:=J) (af:=J) (c:=5) (f:=y0) (i:=36) (vs:=[.int ro, .int (64*nm.fdiv 4), .int (64*rr.fmod 13), .int (L9 j)]) (by kernel_rfl) ht (by kernel_rfl) (by kernel_rfl) (by kernel_rfl) hc) rfl)) rfl) rfl) rfl
theorem d4v(hc:a7 TT m 36 [.obj 9, .int ro, .int (64*nm.fdiv 4), .int (64*rr.fmod 13), .int (L9 j)] J= .exc id τ)(ht:J[9]? =some (.inst 5 y0)):execB (cm m) (bTr b53) (s9 ro w mm 3 nm rr j lg) J= .exc id (s9 ro w mm 3 nm rr j lg) τ:=
 a8s (by kernel_rfl) (a8s (by kernel_rfl) (a8s (by kernel_rfl) ((exx (id:=id) (ae:=τ) (z6 (id:=9) (ae:=J) (af:=J) (c:=5) (f:=y0) (i:=36) (vs:=[.int ro, .int (64*nm.fdiv 4), .int (64*rr.fmod 13), .int (L9 j)]) (by kernel_rfl) ht (by kernel_rfl) (by kernel_rfl) (by kernel_rfl) hc)))))
end
end
section
theorem a5p: ∀L:List Int,a36 U9 (L.map .int)=some (L.map .int)
 |[]=>by kernel_rfl
 |a::r=>by
  show g9 none (U9 (.int a)) (λx=>g9 none (a36 U9 (r.map .int)) λy=>some (x::y))=_;rw[a5p r];kernel_rfl
noncomputable def has(L:List Int)(n:Int):Bool:=(L.map PyData.int).any λy=>PyData.eqv y (.int n)
theorem c75{J:H}{id:Nat}{L:List Int}{n:Int}(h:J[id]? =some (.list (L.map .int))):w0 .isIn (.int n) (.obj id) J= .ok (.bool (has L n)) J:=by
 show W9 (W6 R.bad J[id]? _) J[id]? _=_;rw[h];show g9 R.bad (inL (.int n) (L.map .int)) _=_;unfold inL;rw[a5p];kernel_rfl
end
section
noncomputable def cB(wy:Nat)(x y:Bool):Bool:=match wy with |3=>x |0=>y |_=> !y
theorem c90{P:Nat->Prop}{k:Nat}(hk:k<4)(h0:P 0)(h1:P 1)(h2:P 2)(h3:P 3):P k:=match k,hk with |0,_=>h0 |1,_=>h1 |2,_=>h2 |3,_=>h3
section
variable{O:List (Int×AV)}{L:List Int}{J:H}{m j w mm wy:Nat}{ro nm rr:Int}{lg:Bool}{C:Cx}
theorem d4r(hC:C.T=TT)(h:J[w]? =some (.idict O))(hw:wy<3):a6 C (s9 ro w mm (wy:Nat) nm rr j lg) (.cmp .eq (.cmp .isIn (.loc 42) (.loc 140)) (.cmp .eq (.loc 167) (.int 0))) J= .ok (.bool (cB wy (has L (nm.fdiv 4)) (a9 O nm).isSome)) J:=by
 refine c8 (x:= .bool (a9 O nm).isSome) (ae:=J) (c8 (x:= .int nm) (ae:=J) (by kernel_rfl) (c8 (x:= .obj w) (ae:=J) (by kernel_rfl) (in_ h))) (c8 (x:= .bool (wy==0)) (ae:=J) (c8 (x:= .int (wy:Nat)) (ae:=J) (by kernel_rfl) (c8 (x:= .int 0) (ae:=J) (by kernel_rfl) ?_)) ?_)
 ·refine lt3 hw ?_ ?_ ?_<;>kernel_rfl
 ·cases(a9 O nm).isSome<;>exact lt3 hw (by kernel_rfl) (by kernel_rfl) (by kernel_rfl)
end
end
section
theorem bA(a b:Nat):bitAnd (a:Int) (b:Int)=((a&&&b:Nat):Int):=by
 unfold bitAnd;rw[decide_eq_true (Int.natCast_nonneg a),decide_eq_true (Int.natCast_nonneg b)];rfl
theorem bNn(a:Nat): ¬(0:Int)<=bitNot (a:Int):=by unfold bitNot;lia
theorem bNN(a:Nat):bitNot (bitNot (a:Int))=a:=by unfold bitNot;lia
theorem bM(a b:Nat):bitAnd (a:Int) (bitNot (b:Int))=((a-(a&&&b):Nat):Int):=by
 unfold bitAnd;rw[decide_eq_true (Int.natCast_nonneg a),decide_eq_false (bNn b),bNN];exact(Int.ofNat_sub Nat.and_le_left).symm
theorem bO(a b:Nat):bitOr (a:Int) (b:Int)=((a|||b:Nat):Int):=by
 unfold bitOr;have e:bitAnd (bitNot (a:Int)) (bitNot (b:Int))=bitNot ((a|||b:Nat):Int):=by
  unfold bitAnd;rw[decide_eq_false (bNn a),decide_eq_false (bNn b),bNN,bNN];rfl
 rw[e,bNN]
theorem c8o(a b:Nat):(((a:Int)==(b:Int)):Bool)=(a==b):=by
 by_cases h:a=b
 ·subst h;rw[BEq.rfl,BEq.rfl]
 ·exact Eq.trans (b:=false) (beq_eq_false_iff_ne.mpr λc=>h (Int.ofNat.inj c)) (beq_eq_false_iff_ne.mpr h).symm
theorem u7{a m:Nat}:(a:Int).fmod (m:Int)=((a %m:Nat):Int):=by rw[Int.fmod_eq_emod_of_nonneg _ (Int.natCast_nonneg m)];rfl
theorem H3{a m:Nat}:(a:Int).fdiv (m:Int)=((a/m:Nat):Int):=by rw[Int.fdiv_eq_ediv_of_nonneg _ (Int.natCast_nonneg m)];rfl
theorem c16{c:Nat}:(c:Int)*16=((16*c:Nat):Int):=(Int.mul_comm ..).trans (Int.natCast_mul 16 c).symm
theorem m16{n o:Nat}(ho:o<16):(16*n+o) %16=o:=(Nat.mul_add_mod 16 n o).trans (Nat.mod_eq_of_lt ho)
theorem d16{n o:Nat}(ho:o<16):(16*n+o)/16=n:=by rw[Nat.mul_add_div (by decide),Nat.div_eq_of_lt ho,Nat.add_zero]
theorem m64{n o:Nat}(ho:o<16):(16*n+o) %64=16*(n %4)+o:=(Nat.mod_mul (a:=16) (b:=4)).trans (by rw[m16 ho,d16 ho,Nat.add_comm])
noncomputable def en(c f:Nat):Nat:=1024*c+f
theorem z0{c f z:Nat}(hf:f<1024)(hz:z<1024):en c f&&&z=f&&&z:=by
 apply Nat.eq_of_testBit_eq;intro i;unfold en;rw[Nat.testBit_and,Nat.testBit_and,show(1024:Nat)=2^10 from rfl,Nat.testBit_two_pow_mul_add c (show f<2^10 from hf)]
 by_cases h:i<10
 ·rw[if_pos h]
 ·rw[if_neg h,Nat.testBit_lt_two_pow (x:=z) (Nat.lt_of_lt_of_le hz (Nat.pow_le_pow_right (by decide) (Nat.not_lt.mp h):2^10<=2^i)),Bool.and_false,Bool.and_false]
theorem d1e{c f z:Nat}(hf:f<1024)(hz:z<1024):en c f|||z=en c (f|||z):=by
 unfold en;rw[show(1024:Nat)=2^10 from rfl,Nat.two_pow_add_eq_or_of_lt hf,Nat.or_assoc, <-Nat.two_pow_add_eq_or_of_lt (Nat.or_lt_two_pow hf hz)]
theorem M5{c f:Nat}(hf:f<1024):(en c f:Int).fdiv 1024=c:=by
 refine(H3 (m:=1024)).trans (congrArg _ ?_);unfold en;rw[Nat.mul_add_div (by decide),Nat.div_eq_of_lt hf,Nat.add_zero]
noncomputable def mk(k:Nat):Nat:=match k with |0=>64 |1=>64 |_=>192
theorem c7p(k:Nat)(f:Nat):J8 k (f:Int)=((f|||mk k:Nat):Int):=by
 have e1:bitOr (f:Int) 64=((f|||64:Nat):Int):=bO f 64;unfold J8;rw[e1]
 match k with
 |0=>exact(bO (f|||64) 0).trans (by rw[Nat.or_zero];rfl)
 |1=>exact(bO (f|||64) 0).trans (by rw[Nat.or_zero];rfl)
 |_+2=>exact(bO (f|||64) 128).trans (by rw[Nat.or_assoc];rfl)
structure FG (f:Nat):Prop where
 lt:f<512
 o:f&&&1=1
 l:(f&&&10==0)=false
 w:(f&&&6==4)=false
theorem a2z{f z:Nat}(k:Nat)(h:192&&&z=0)(h':64&&&z=0):(f|||mk k)&&&z=f&&&z:=by
 rw[Nat.and_or_distrib_right];have:mk k&&&z=0:=by unfold mk;match k with |0=>exact h' |1=>exact h' |_+2=>exact h
 rw[this,Nat.or_zero]
theorem b7j(k:Nat):mk k<512:=match k with |0=>(by decide:64<512) |1=>(by decide:64<512) |_+2=>(by decide:192<512)
theorem d3i{f:Nat}(k:Nat)(h:f<512):f|||mk k<512:=Nat.or_lt_two_pow (n:=9) h (b7j k)
theorem FG.mark{f:Nat}(k:Nat)(F:FG f):FG (f|||Mine.mk k):=
 ⟨d3i k F.lt,(a2z k rfl rfl).trans F.o,by rw[a2z k rfl rfl];exact F.l,by rw[a2z k rfl rfl];exact F.w⟩
theorem mk_mk{f:Nat}(k k':Nat)(h:f|||Mine.mk k=f):(f|||Mine.mk k')|||Mine.mk k=f|||Mine.mk k':=by
 rw[Nat.or_assoc,Nat.or_comm (Mine.mk k'), <-Nat.or_assoc,h]
theorem FG.lt'{f:Nat}(F:FG f):f<1024:=Nat.lt_trans F.lt (by decide)
theorem N4{n:Nat}(h:n<2^60):small (n:Int)=true:=decide_eq_true h
theorem b7t{c f:Nat}(F:FG f)(hc:c<1024):Lf (en c f:Int) where
 v:=by
  rw[show bitAnd (en c f:Int) 1=((f&&&1:Nat):Int)from(bA _ 1).trans (by rw[z0 F.lt' (by decide)]),F.o];rfl
 w:=by
  rw[show bitAnd (en c f:Int) 6=((f&&&6:Nat):Int)from(bA _ 6).trans (by rw[z0 F.lt' (by decide)]),show((((f&&&6:Nat):Int)==4):Bool)=false from(c8o _ 4).trans F.w];rfl
 l:=by
  rw[show bitAnd (en c f:Int) 10=((f&&&10:Nat):Int)from(bA _ 10).trans (by rw[z0 F.lt' (by decide)]),show((((f&&&10:Nat):Int)==0):Bool)=false from(c8o _ 0).trans F.l];rfl
 s:=by rw[M5 F.lt'];exact N4 (Nat.lt_trans hc (by decide))
theorem Y5{c:Nat}(hc:c<1024):Pt (en c 1:Int) ((16*c:Nat):Int) where
 v:=by rw[show bitAnd (en c 1:Int) 1=((1&&&1:Nat):Int)from(bA _ 1).trans (by rw[z0 (by decide) (by decide)])];rfl
 w:=by rw[show bitAnd (en c 1:Int) 6=((1&&&6:Nat):Int)from(bA _ 6).trans (by rw[z0 (by decide) (by decide)])];rfl
 l:=by rw[show bitAnd (en c 1:Int) 10=((1&&&10:Nat):Int)from(bA _ 10).trans (by rw[z0 (by decide) (by decide)])];rfl
 s:=by rw[M5 (by decide)];exact N4 (Nat.lt_trans hc (by decide))
 p:=by rw[M5 (by decide)];lia
theorem d0m{c f:Nat}(k:Nat)(F:FG f):J8 k (en c f:Int)=(en c (f|||Mine.mk k):Int):=by
 rw[c7p,d1e F.lt' (Nat.lt_trans (b7j k) (by decide))]
theorem a9v{n:Nat}(h:n<2^32):bitAnd (n:Int) 4294967295=n:=(bA n 4294967295).trans (by
 rw[show(4294967295:Nat)=2^32-1 from rfl,Nat.and_two_pow_sub_one_eq_mod,Nat.mod_eq_of_lt h])
theorem b69{c f:Nat}(hc:c<1024)(hf:f<1024):en c f<2^32:=by unfold en;lia
theorem d4c{c f:Nat}(F:FG f)(k:Nat)(x:Int):a3g k x (en c f:Int)=a3g k x (f:Int):=by
 have e: ∀z:Nat,z<1024->bitAnd (en c f:Int) (z:Int)=bitAnd (f:Int) (z:Int):=λz hz=>by rw[bA,bA,z0 F.lt' hz]
 have e8:bitAnd (en c f:Int) 8=bitAnd (f:Int) 8:=e 8 (by decide);have e2:bitAnd (en c f:Int) 2=bitAnd (f:Int) 2:=e 2 (by decide);have e4:bitAnd (en c f:Int) 4=bitAnd (f:Int) 4:=e 4 (by decide);unfold a3g;rw[e8,e2,e4]
theorem may_e{c f:Nat}(F:FG f)(k:Nat)(md s x:Int):Q5 k md s x (en c f:Int)=Q5 k md s x (f:Int):=by
 have e16:bitAnd (en c f:Int) 16=bitAnd (f:Int) 16:=(bA _ 16).trans (by rw[z0 F.lt' (by decide)];exact(bA f 16).symm);unfold Q5;rw[e16,d4c F]
noncomputable def c7c(p:Nat->Bool):Nat->Bool |0=>true |n+1=>match p n with |true=>c7c p n |false=>false
theorem c4z{p:Nat->Bool}: ∀{n},c7c p n=true-> ∀i,i<n->p i=true
 |n+1,h,i,hi=>by
  have h':(match p n with |true=>c7c p n |false=>false)=true:=h;cases e:p n with
  |false=>rw[e]at h';cases h'
  |true=>
   rw[e]at h';rcases Nat.lt_succ_iff_lt_or_eq.mp hi with hi |rfl
   ·exact c4z h' i hi
   ·exact e
theorem d4h{w:Nat}(h:w<256):Wd ((4*w:Nat):Int) where
 al:=by rw[Int.fmod_eq_emod_of_nonneg _ (by decide)];exact beq_iff_eq.mpr (by lia)
 lo:=by lia
 hi:=by lia
theorem b3u{w:Nat}:((4*w:Nat):Int).fdiv 4=w:=(H3 (m:=4)).trans (congrArg _ (Nat.mul_div_cancel_left w (by decide)))
theorem b2z{n o:Nat}(hn:n<16)(ho:o<16):Ad ((16*n+o:Nat):Int) ((n/4:Nat):Int) ((n %4:Nat):Int) (o:Int):=by
 have e:((16*n+o:Nat):Int).fdiv 16=n:=(H3 (m:=16)).trans (congrArg _ (d16 ho));refine⟨by lia,by lia, ?_, ?_, ?_,N4 (by lia)⟩
 ·rw[e,Int.fdiv_eq_ediv_of_nonneg _ (by decide)];rfl
 ·rw[e];exact(bA n 3).trans (congrArg _ (Nat.and_two_pow_sub_one_eq_mod n 2))
 ·exact(bA _ 15).trans (congrArg _ ((Nat.and_two_pow_sub_one_eq_mod _ 4).trans (m16 ho)))
theorem c79{c o:Nat}(ho:o<16):bitOr ((16*c:Nat):Int) (o:Int)=((16*c+o:Nat):Int):=
 (bO _ _).trans (congrArg _ (Nat.two_pow_add_eq_or_of_lt (i:=4) ho c).symm)
theorem Z1{c o:Nat}(ho:o<16):bitAnd ((16*c+o:Nat):Int) (bitNot 15)=((16*c:Nat):Int):=
 (bM _ 15).trans (congrArg _ (by rw[show(16*c+o)&&&15=(16*c+o) %16 from Nat.and_two_pow_sub_one_eq_mod _ 4,m16 ho,Nat.add_sub_cancel]))
theorem b4p{n o:Nat}(ho:o<16):bitAnd ((16*n+o:Nat):Int) 15=(o:Int):=(bA _ 15).trans (congrArg _ ((Nat.and_two_pow_sub_one_eq_mod _ 4).trans (m16 ho)))
theorem s0{n o:Nat}(ho:o<16):((16*n+o:Nat):Int).fdiv 16=n:=(H3 (m:=16)).trans (congrArg _ (d16 ho))
theorem X4{n:Nat}:n %4<4:=Nat.mod_lt _ (by decide)
theorem q4{n:Nat}(h:n<16):n/4<4:=Nat.div_lt_of_lt_mul (show n<4*4 from h)
theorem mO{x n:Nat}(h:x<2^n):x %2^n=x:=Nat.mod_eq_of_lt h
theorem or64{q a:Nat}:bitOr ((16*(4*q):Nat):Int) (bitAnd (a:Int) 63)=((16*(4*q)+a %64:Nat):Int):=by
 rw[show bitAnd (a:Int) 63=((a %64:Nat):Int)from(bA a 63).trans (congrArg _ (Nat.and_two_pow_sub_one_eq_mod a 6)),show 16*(4*q)=2^6*q from(Nat.mul_assoc 16 4 q).symm];exact(bO _ _).trans (congrArg _ (Nat.two_pow_add_eq_or_of_lt (i:=6) (Nat.mod_lt _ (by decide)) q).symm)
noncomputable abbrev ro(r:Nat):Int:=((4*(216+4*r):Nat):Int)
section
variable{r f k s q c f0 fw:Nat}
theorem c50:ro r+4*(f:Int)=((4*(216+4*r+f):Nat):Int):=by rw[Nat.mul_add 4 (216+4*r) f];rfl
theorem a4x(hr:r<2)(hf:f<4):216+4*r+f<224:=by lia
theorem B9(hr:r<2)(hf:f<4):Wd (ro r+4*(f:Int)):=by rw[c50];exact d4h (Nat.lt_trans (a4x hr hf) (by decide))
theorem Y4:(ro r+4*(f:Int)).fdiv 4=((216+4*r+f:Nat):Int):=by rw[c50];exact b3u
theorem t16:16*(54+k)=4*(216+4*k):=(Nat.mul_assoc 4 4 (54+k)).trans (congrArg (4* ·) (Nat.mul_add 4 54 k))
theorem d12:((16*(54+k):Nat):Int)+4*(q:Int)=((4*(216+4*k+q):Nat):Int):=by rw[t16,Nat.mul_add 4 (216+4*k) q];rfl
theorem d10(hk:k<10)(hs:s<4):216+4*k+s<256:=by lia
theorem b1s(hk:2<=k):224<=216+4*k+s:=by lia
theorem K6(hk:k<10)(hq:q<4):Wd (((16*(54+k):Nat):Int)+4*(q:Int)):=by rw[d12];exact d4h (d10 hk hq)
theorem Y1:(((16*(54+k):Nat):Int)+4*(q:Int)).fdiv 4=((216+4*k+q:Nat):Int):=by rw[d12];exact b3u
theorem a22{k k' s s':Nat}(hs:s<4)(hs':s'<4)(h:216+4*k+s=216+4*k'+s'):k=k'/\s=s':=by lia
theorem k54(h:k<10):54+k<1024:=Nat.lt_trans (Nat.add_lt_add_left h 54) (by decide)
theorem c64(h:c<64):c<1024:=Nat.lt_trans h (by decide)
theorem d3g{z:Nat}(h:fw&&&30=f0)(hz:30&&&z=z):f0&&&z=fw&&&z:=by rw[<-h,Nat.and_assoc,hz]
theorem den{c:Nat}(F:FG fw)(h:fw&&&30=f0){z:Nat}(hz:30&&&z=z)(h1:z<1024):bitAnd (en c fw:Int) (z:Int)=bitAnd (f0:Int) (z:Int):=by
 rw[bA,bA,z0 F.lt' h1,d3g h hz]
noncomputable def nay(k f:Nat):Bool:=bitAnd (f:Int) 16==0||bitAnd (f:Int) (ndK k)==0
theorem b0u(hk:k<3)(F:FG fw)(h:fw&&&30=f0):Q5 k 0 0 0 (en c fw:Int)= !nay k f0:=by
 have e16:bitAnd (en c fw:Int) 16=bitAnd (f0:Int) 16:=den F h (z:=16) rfl (by decide);have e8:bitAnd (en c fw:Int) 8=bitAnd (f0:Int) 8:=den F h (z:=8) rfl (by decide);have e2:bitAnd (en c fw:Int) 2=bitAnd (f0:Int) 2:=den F h (z:=2) rfl (by decide);have e4:bitAnd (en c fw:Int) 4=bitAnd (f0:Int) 4:=den F h (z:=4) rfl (by decide);unfold Q5 a3g nay ndK;rw[e16,e8,e2,e4];refine lt3 hk ?_ ?_ ?_
 ·cases bitAnd (f0:Int) 16==0<;>rfl
 ·cases bitAnd (f0:Int) 16==0
  ·show(match !(bitAnd (f0:Int) 2==0)with |true=>true |false=>false)= !(false||(bitAnd (f0:Int) 2==0))
   cases bitAnd (f0:Int) 2==0<;>rfl
  ·rfl
 ·cases bitAnd (f0:Int) 16==0<;>rfl
theorem mk30(h:fw&&&30=f0):(fw|||Mine.mk k)&&&30=f0:=(a2z k rfl rfl).trans h
end
end
section
section
variable{α β:Type}[DecidableEq α]{d:List (α×β)}{k j:α}{v:β}
theorem n0{p:α×β}:a9 (p::d) j=if p.1=j then some p.2 else a9 d j:=by
 unfold a9;rw[List.find?_cons]
 by_cases h:p.1=j
 ·rw[decide_eq_true h,if_pos h];rfl
 ·rw[decide_eq_false h,if_neg h]
theorem a4j(hn: ∀p:α×β,(if p.1=k then (p.1,v)else p).1=p.1): ∀d:List (α×β),a9 (d.map λp=>if p.1=k then (p.1,v)else p) j=(a9 d j).map λx=>if j=k then v else x
 |[]=>rfl
 |p::r=>by
  rw[List.map_cons,n0,n0,hn,a4j hn r]
  by_cases h:p.1=j
  ·rw[if_pos h,if_pos h,Option.map_some]
   by_cases h2:j=k
   ·rw[if_pos (h.trans h2),if_pos h2]
   ·rw[if_neg (λc=>h2 (h.symm.trans c)),if_neg h2]
  ·rw[if_neg h,if_neg h]
theorem a4e{p:α×β}: ∀d:List (α×β),a9 (d++[p]) j=match a9 d j with |some x=>some x |none=>if p.1=j then some p.2 else none
 |[]=>n0
 |q::r=>by
  rw[List.cons_append,n0,n0,a4e r]
  by_cases h:q.1=j
  ·rw[if_pos h,if_pos h]
  ·rw[if_neg h,if_neg h]
theorem a2h(h: ¬d.any (λp=>p.1=k)=true):a9 d k=none:=by
 unfold a9;rw[List.find?_eq_none.mpr λx hx c=>h (List.any_eq_true.mpr ⟨x,hx,c⟩)];rfl
theorem b3h(h:d.any (λp=>p.1=k)=true): ∃x,a9 d k=some x:=by
 obtain⟨p,hp,e⟩:=List.any_eq_true.mp h;exact N6 (v:=p.2) (by rw[<-of_decide_eq_true e];exact hp)
theorem I5:a9 (i5 d k v) j=if j=k then some v else a9 d j:=by
 unfold i5
 by_cases hc:d.any (λp=>p.1=k)=true
 ·rw[if_pos hc,a4j (λp=>by by_cases h:p.1=k;rw[if_pos h];rw[if_neg h])]
  by_cases h:j=k
  ·obtain⟨x,hx⟩:=b3h hc
   rw[h,hx,if_pos rfl,Option.map_some,if_pos rfl]
  ·rw[if_neg h]
   cases a9 d j with
   |none=>rfl
   |some x=>rw[Option.map_some,if_neg h]
 ·rw[if_neg hc,a4e]
  by_cases h:j=k
  ·rw[h,a2h hc,if_pos rfl];first |done |exact if_pos rfl
  ·rw[if_neg h]
   cases a9 d j with
   |none=>exact if_neg λc=>h c.symm
   |some x=>rfl
theorem J5: ∀d:List (α×β),a9 (o8 d k) j=if j=k then none else a9 d j
 |[]=>by by_cases h:j=k;rw[if_pos h];rfl;rw[if_neg h];rfl
 |p::r=>by
  have ih:=J5 r;unfold o8 at ih⊢;rw[List.filter_cons]
  by_cases h:p.1=k
  ·rw[if_neg (by simpa using h),ih,n0]
   by_cases h2:j=k
   ·rw[if_pos h2,if_pos h2]
   ·rw[if_neg h2,if_neg h2,if_neg λc=>h2 (c.symm.trans h)]
  ·rw[if_pos (by simpa using h),n0,ih,n0]
   by_cases h2:j=k
   ·rw[if_pos h2,if_pos h2,if_neg λc=>h (c.trans h2)]
   ·rw[if_neg h2,if_neg h2]
theorem b1z{x:β}(h:a9 d k=some x):(i5 d k v).length=d.length:=by
 unfold i5
 by_cases hc:d.any (λp=>p.1=k)=true
 ·rw[if_pos hc,List.length_map]
 ·rw[a2h hc]at h;cases h
end
noncomputable def w3(W:Int->Int)(i v:Int):Int->Int:=λj=>if j=i then v else W j
theorem C7{W:Int->Int}{i v:Int}:w3 W i v i=v:=if_pos rfl
theorem c22{W:Int->Int}{i v j:Int}(h:j≠i):w3 W i v j=W j:=if_neg h
section
variable{d:List (Int×AV)}{W:Int->Int}{i v:Int}
theorem n8(h: ∀i,u8 d i= .int (W i))(j:Int):u8 (d9 d i v) j= .int (w3 W i v j):=by
 unfold d9 w3;have hj:=h j;unfold u8 at hj⊢
 by_cases h0:v=0
 ·rw[if_pos h0,J5]
  by_cases e:j=i
  ·rw[if_pos e,if_pos e,h0];rfl
  ·rw[if_neg e,if_neg e];exact hj
 ·rw[if_neg h0,I5]
  by_cases e:j=i
  ·rw[if_pos e,if_pos e];rfl
  ·rw[if_neg e,if_neg e];exact hj
theorem b89(h:u8 d i= .int v)(hv:v≠0): ∃x,a9 d i=some x:=by
 unfold u8 at h;cases e:a9 d i with
 |some x=>exact⟨x,rfl⟩
 |none=>rw[e]at h;exact absurd (AV.int.inj h).symm hv
theorem b4k{c f:Nat}(F:FG f):((en c f:Nat):Int)≠0:=λz=>by
 have z2:=congrArg (· &&&1) (Int.ofNat.inj z:en c f=0);rw[show en c f&&&1=f&&&1 from z0 F.lt' (by decide),F.o]at z2;cases z2
abbrev Mw(d:List (Int×AV))(W:Int->Int):Prop:= ∀i,u8 d i= .int (W i)
theorem c2z{c f k:Nat}(M:Mw d W)(hw:W i=(en c f:Nat))(F:FG f)(hc:c<64):Mw (x0 d i k (en c f:Nat)) (w3 W i (en c (f|||mk k):Nat))/\(x0 d i k (en c f:Nat)).length=d.length:=by
 unfold x0;rw[d0m k F];cases q:(((en c (f|||mk k):Nat):Int)==((en c f:Nat):Int))with
 |true=>
  have e:=eq_of_beq q;refine⟨λj=> ?_,rfl⟩;unfold w3
  by_cases h:j=i
  ·rw[if_pos h,h,e,M,hw]
  ·rw[if_neg h];exact M j
 |false=>
  show Mw (d9 d i (bitAnd ((en c (f|||mk k):Nat):Int) 4294967295)) _/\(d9 d i (bitAnd ((en c (f|||mk k):Nat):Int) 4294967295)).length=_;rw[a9v (b69 (c64 hc) (F.mark k).lt')];refine⟨n8 M, ?_⟩;unfold d9;rw[if_neg (b4k (F.mark k))];obtain⟨x,hx⟩:=b89 ((M i).trans (by rw[hw])) (v:=(en c f:Nat)) (b4k F);exact b1z hx
end
theorem H0{W:Int->Int}{a b:Nat}{v:Int}(h:b≠a):w3 W (a:Nat) v (b:Nat)=W (b:Nat):=c22 λc=>h (Int.ofNat.inj c)
noncomputable def U7(W:Int->Int)(u:Nat)(v:Int):Int->Int:=w3 (w3 (w3 (w3 W ((216+4*u:Nat)) v) ((216+4*u+1:Nat)) v) ((216+4*u+2:Nat)) v) ((216+4*u+3:Nat)) v
theorem b0x{W:Int->Int}{u j:Nat}{v:Int}(h:j<216+4*u\/216+4*u+3<j):U7 W u v (j:Nat)=W (j:Nat):=by
 unfold U7;have q: ∀s,s<=3->j≠216+4*u+s:=λs hs z=>h.elim (λq=>Nat.not_le_of_lt q (Nat.le_trans (Nat.le_add_right _ s) (Nat.le_of_eq z.symm))) (λq=>Nat.not_le_of_lt q (Nat.le_trans (Nat.le_of_eq z) (Nat.add_le_add_left hs _)));rw[H0 (q 3 (by decide)),H0 (q 2 (by decide)),H0 (q 1 (by decide)),H0 (show j≠216+4*u from q 0 (by decide))]
theorem c4s{W:Int->Int}{u s:Nat}{v:Int}(h:s<4):U7 W u v ((216+4*u+s:Nat))=v:=by
 unfold U7;have q: ∀{a b:Nat},a≠b->216+4*u+a≠216+4*u+b:=λh z=>h (Nat.add_left_cancel z)
 match s,h with
 |0,_=>rw[H0 (q (by decide)),H0 (q (by decide)),H0 (q (by decide))];exact C7
 |1,_=>rw[H0 (q (by decide)),H0 (q (by decide))];exact C7
 |2,_=>rw[H0 (q (by decide))];exact C7
 |3,_=>exact C7
theorem a56{d:List (Int×AV)}{W:Int->Int}{u:Nat}{v:Int}(M:Mw d W):Mw (A0 d ((16*(54+u):Nat):Int) v) (U7 W u v):=by
 have e0:((16*(54+u):Nat):Int).fdiv 4=((216+4*u:Nat):Int):=(b3u (w:=216+4*u)).symm▸congrArg (λx=>Int.fdiv x 4) (congrArg Int.ofNat t16);have e1:(((16*(54+u):Nat):Int)+4).fdiv 4=((216+4*u+1:Nat):Int):=(b3u (w:=216+4*u+1)).symm▸congrArg (λx=>Int.fdiv x 4) (congrArg (λz:Nat=>(z:Int)+4) t16);have e2:(((16*(54+u):Nat):Int)+4+4).fdiv 4=((216+4*u+2:Nat):Int):=(b3u (w:=216+4*u+2)).symm▸congrArg (λx=>Int.fdiv x 4) (congrArg (λz:Nat=>(z:Int)+4+4) t16);have e3:(((16*(54+u):Nat):Int)+4+4+4).fdiv 4=((216+4*u+3:Nat):Int):=(b3u (w:=216+4*u+3)).symm▸congrArg (λx=>Int.fdiv x 4) (congrArg (λz:Nat=>(z:Int)+4+4+4) t16);unfold A0 U7;rw[e0,e1,e2,e3];exact n8 (n8 (n8 (n8 M)))
theorem sp_n{u:Nat}(h:u<=9):Sp ((16*(54+u):Nat):Int):=by
 have m3: ∀x:Nat,x %4=0->bitAnd (x:Int) 3=0:=λx h=>(bA x 3).trans (congrArg Int.ofNat ((Nat.and_two_pow_sub_one_eq_mod x 2).trans h));have z: ∀w:Nat,4*w %4=0:=Nat.mul_mod_right 4;refine⟨Int.not_lt.mpr (Int.natCast_nonneg _),Int.not_lt.mpr (Int.ofNat_le.mpr (Nat.add_le_add_right (Nat.mul_le_mul_left 16 (Nat.add_le_add_left h 54)) 16)),m3 _ (t16▸z _), ?_, ?_, ?_⟩
 ·exact m3 (16*(54+u)+4) (by rw[t16];exact z (216+4*u+1))
 ·exact m3 (16*(54+u)+4+4) (by rw[t16];exact z (216+4*u+2))
 ·exact m3 (16*(54+u)+4+4+4) (by rw[t16];exact z (216+4*u+3))
theorem a0g{α β:Type}[DecidableEq α]{d:List (α×β)}{k:α}{v:β}(h:(d.map (·.1)).Nodup):((i5 d k v).map (·.1)).Nodup:=by
 unfold i5
 by_cases hc:d.any (λp=>p.1=k)=true
 ·rw[if_pos hc,List.map_map,show((λx:α×β=>x.1) ∘ λp=>if p.1=k then (p.1,v)else p)=λx=>x.1 from funext λp=>by
   show(if p.1=k then (p.1,v)else p).1=p.1
   by_cases c:p.1=k
   ·rw[if_pos c]
   ·rw[if_neg c]]
  exact h
 ·rw[if_neg hc,List.map_append]
  refine List.nodup_append.mpr ⟨h,List.pairwise_singleton ..,λa ha b hb e=>hc ?_⟩;obtain⟨q,hq,rfl⟩:=List.mem_map.mp ha;exact List.any_eq_true.mpr ⟨q,hq,decide_eq_true (e.trans (List.mem_singleton.mp hb))⟩
theorem a82{α β:Type}[DecidableEq α]{d:List (α×β)}{k:α}(h:(d.map (·.1)).Nodup):((o8 d k).map (·.1)).Nodup:=by
 unfold o8;exact(List.Sublist.map _ List.filter_sublist).nodup h
theorem c1o{α β:Type}[DecidableEq α]{d:List (α×β)}{k:α}{p:α×β}(h:p∈o8 d k):p∈d:=by
 unfold o8 at h;exact(List.mem_filter.mp h).1
theorem a4i{α β:Type}[DecidableEq α]{d:List (α×β)}{k:α}:(o8 d k).length<=d.length:=by
 unfold o8;exact List.length_filter_le ..
end
section
structure Pg where
 c:Nat
 f:Nat
set_option genSizeOf false in
inductive Fs
 |no
 |tab (k:Nat) (p:Nat->Option Pg)
 |big (g:Pg)
abbrev Sx:=Nat->Nat->Fs
structure PV (g:Pg) (z:Int):Prop where
 ex: ∃fw,z=(en g.c fw:Nat)/\FG fw/\fw&&&30=g.f
 c:g.c<64
def Cel(r f:Nat)(x:Fs)(j:Nat):Prop:=j=216+4*r+f\/ ∃k p s,x= .tab k p/\s<4/\j=216+4*k+s
structure Ok (W:Int->Int) (r f:Nat) (x:Fs):Prop where
 n:x= .no->W ((216+4*r+f:Nat))=0
 t: ∀k p,x= .tab k p->2<=k/\k<10/\W ((216+4*r+f:Nat))=(en (54+k) 1:Nat)/\ ∀s,s<4->(p s=none->W ((216+4*k+s:Nat))=0)/\ ∀g,p s=some g->PV g (W ((216+4*k+s:Nat)))
 b: ∀g,x= .big g->PV g (W ((216+4*r+f:Nat)))/\ ∃q,g.c=4*q
structure Inv (d:List (Int×AV)) (W:Int->Int) (X:Sx):Prop where
 M:Mw d W
 ok: ∀r f,r<2->f<4->Ok W r f (X r f)
 inj: ∀r f r' f' k p p',r<2->f<4->r'<2->f'<4->X r f= .tab k p->X r' f'= .tab k p'->r=r'/\f=f'
noncomputable def o5(X:Sx)(r f:Nat)(x:Fs):Sx:=λr' f'=>if r'=r/\f'=f then x else X r' f'
noncomputable def s8(p:Nat->Option Pg)(s:Nat)(v:Option Pg):Nat->Option Pg:=λs'=>if s'=s then v else p s'
theorem n5{X:Sx}{r f:Nat}{x:Fs}:o5 X r f x r f=x:=if_pos ⟨rfl,rfl⟩
theorem m8{X:Sx}{r f r' f':Nat}{x:Fs}(h: ¬(r'=r/\f'=f)):o5 X r f x r' f'=X r' f':=if_neg h
theorem b1j{X:Sx}{r f:Nat}{x:Fs}(h:X r f=x):o5 X r f x=X:=funext λr'=>funext λf'=>by
 unfold o5
 by_cases c:r'=r/\f'=f
 ·rw[if_pos c,c.1,c.2,h]
 ·rw[if_neg c]
theorem c36{p:Nat->Option Pg}{s:Nat}{v:Option Pg}(h:p s=v):s8 p s v=p:=funext λs'=>by
 unfold s8
 by_cases c:s'=s
 ·rw[if_pos c,c,h]
 ·rw[if_neg c]
section
variable{d d':List (Int×AV)}{W W':Int->Int}{X:Sx}{r f r' f' k s j u:Nat}{x x':Fs}{p:Nat->Option Pg}{g:Pg}{z:Int}{v:Option Pg}
theorem Ok.congr(O:Ok W r f x)(h: ∀j,Cel r f x j->W' (j:Nat)=W (j:Nat)):Ok W' r f x where
 n e:=(h _ (.inl rfl)).trans (O.n e)
 t k p e:=by
  obtain⟨k1,k2,w,hs⟩:=O.t k p e;refine⟨k1,k2,(h _ (.inl rfl)).trans w,λs h4=> ?_⟩;rw[h _ (.inr ⟨k,p,s,e,h4,rfl⟩)];exact hs s h4
 b g e:=by rw[h _ (.inl rfl)];exact O.b g e
theorem c82(hf:f<4)(hf':f'<4)(h:216+4*r+f=216+4*r'+f'):r=r'/\f=f':=a22 hf hf' h
theorem c7k(O:Ok W r f x)(O':Ok W' r' f' x')(hr:r<2)(hf:f<4)(hr':r'<2)(hf':f'<4)(hn: ¬(r'=r/\f'=f))(hk: ∀k p p',x= .tab k p->x'= .tab k p'->r'=r/\f'=f)(h:Cel r f x j): ¬Cel r' f' x' j:=by
 intro h';rcases h' with e |⟨k',p',s',e',h4',e0⟩<;>rcases h with e3 |⟨k,p,s,e1,h4,e2⟩
 ·obtain⟨a,b⟩:=c82 hf hf' (e3.symm.trans e)
  exact hn ⟨a.symm,b.symm⟩
 ·have:=b1s (s:=s) (O.t k p e1).1
  rw[<-e2,e]at this;exact Nat.not_le_of_lt (a4x hr' hf') this
 ·have:=b1s (s:=s') (O'.t k' p' e').1
  rw[<-e0,e3]at this;exact Nat.not_le_of_lt (a4x hr hf) this
 ·obtain⟨rfl,_⟩:=a22 h4' h4 (e0.symm.trans e2)
  exact hn (hk _ _ _ e1 e')
theorem Inv.put(I:Inv d W X)(hr:r<2)(hf:f<4)(hM:Mw d' W')(fr: ∀j:Nat, ¬Cel r f x j->W' (j:Nat)=W (j:Nat))(O:Ok W' r f x)
  (hk: ∀k p r' f' p',x= .tab k p->r'<2->f'<4->X r' f'= .tab k p'->r'=r/\f'=f):Inv d' W' (o5 X r f x) where
 M:=hM
 ok r' f' hr' hf':=by
  by_cases c:r'=r/\f'=f
  ·rw[c.1,c.2,n5];exact O
  ·rw[m8 c]
   refine(I.ok r' f' hr' hf').congr λj hj=>fr j λhj'=> ?_;exact c7k O (I.ok r' f' hr' hf') hr hf hr' hf' c (λk p p' e e'=>hk k p r' f' p' e hr' hf' e') hj' hj
 inj r1 f1 r2 f2 k p p' h1 h2 h3 h4 e e':=by
  by_cases c:r1=r/\f1=f
  ·rw[c.1,c.2,n5]at e
   by_cases c':r2=r/\f2=f
   ·exact⟨c.1.trans c'.1.symm,c.2.trans c'.2.symm⟩
   ·rw[m8 c']at e'
    obtain⟨a,b⟩:=hk _ _ _ _ _ e h3 h4 e';exact absurd ⟨a,b⟩ c'
  ·rw[m8 c]at e
   by_cases c':r2=r/\f2=f
   ·rw[c'.1,c'.2,n5]at e'
    obtain⟨a,b⟩:=hk _ _ _ _ _ e' h1 h2 e;exact absurd ⟨a,b⟩ c
   ·rw[m8 c']at e'
    exact I.inj _ _ _ _ _ _ _ h1 h2 h3 h4 e e'
theorem a1x{a b:Nat}{v:Int}(h:b≠a):w3 W (a:Nat) v (b:Nat)=W (b:Nat):=H0 h
theorem Ok.setp(O:Ok W r f (.tab k p))(hr:r<2)(hf:f<4)(hs:s<4)(h0:v=none->z=0)(h1: ∀g,v=some g->PV g z):Ok (w3 W ((216+4*k+s:Nat)) z) r f (.tab k (s8 p s v)) where
 n:=nofun
 b:=nofun
 t k' p' e:=by
  cases e;obtain⟨k1,k2,w,hq⟩:=O.t k p rfl;refine⟨k1,k2,(a1x λe=> ?_).trans w,λs' h4=> ?_⟩
  ·have:=b1s (s:=s) k1
   rw[<-e]at this;exact Nat.not_le_of_lt (a4x hr hf) this
  ·unfold s8
   by_cases c:s'=s
   ·rw[if_pos c,c,C7];exact⟨h0,h1⟩
   ·rw[if_neg c,a1x λe=>c (a22 h4 hs e).2];exact hq s' h4
theorem Inv.setp(I:Inv d W X)(hr:r<2)(hf:f<4)(e:X r f= .tab k p)(hs:s<4)(hM:Mw d' (w3 W ((216+4*k+s:Nat)) z))(h0:v=none->z=0)(h1: ∀g,v=some g->PV g z):Inv d' (w3 W ((216+4*k+s:Nat)) z) (o5 X r f (.tab k (s8 p s v))):=
 I.put hr hf hM (λj hj=>a1x λe=>hj (.inr ⟨k,_,s,rfl,hs,e⟩)) ((e▸I.ok r f hr hf:Ok W r f (.tab k p)).setp hr hf hs h0 h1)
  λk' p1 r' f' p' e1 h1 h2 e2=>by cases e1;exact I.inj _ _ _ _ _ _ _ h1 h2 hr hf e2 e
theorem Inv.setb(I:Inv d W X)(hr:r<2)(hf:f<4)(hM:Mw d' (w3 W ((216+4*r+f:Nat)) z))(h1:PV g z)(hq: ∃q,g.c=4*q):Inv d' (w3 W ((216+4*r+f:Nat)) z) (o5 X r f (.big g)):=
 I.put hr hf hM (λj hj=>a1x λe=>hj (.inl e)) ⟨nofun,nofun,λg' e=>by cases e;rw[C7];exact⟨h1,hq⟩⟩ nofun
theorem Inv.table(I:Inv d W X)(hr:r<2)(hf:f<4)(hu:2<=u)(hu9:u<10)(hk: ∀r' f' k p,r'<2->f'<4->X r' f'= .tab k p->k<u){v:Int}(hM:Mw d' (w3 (U7 (U7 W u v) u 0) ((216+4*r+f:Nat)) (en (54+u) 1:Nat))):
  Inv d' (w3 (U7 (U7 W u v) u 0) ((216+4*r+f:Nat)) (en (54+u) 1:Nat)) (o5 X r f (.tab u λ_=>none)):=by
 refine I.put hr hf hM (λj hj=> ?_) ⟨nofun,λk p e=> ?_,nofun⟩ λk p r' f' p' e h1 h2 e2=> ?_
 ·have hj1:j≠216+4*r+f:=λe=>hj (.inl e)
  have hj2:j<216+4*u\/216+4*u+3<j:=by
   by_cases c1:j<216+4*u
   ·exact .inl c1
   ·by_cases c2:216+4*u+3<j
    ·exact .inr c2
    ·exact absurd (.inr ⟨u,_,j-(216+4*u),rfl,by lia,by lia⟩) hj
  rw[a1x hj1,b0x hj2,b0x hj2]
 ·cases e
  refine⟨hu,hu9,C7,λs hs=>⟨λ_=> ?_,nofun⟩⟩;rw[a1x λe=> ?_,c4s hs];have:=b1s (s:=s) hu;rw[e]at this;exact Nat.not_le_of_lt (a4x hr hf) this
 ·cases e
  exact absurd (hk _ _ _ _ h1 h2 e2) (Nat.lt_irrefl _)
end
end
section
noncomputable def smp(x:Fs)(s:Nat):Option Pg:=match x with | .tab _ p=>p s |_=>none
noncomputable def bgp(x:Fs):Option Pg:=match x with | .big g=>some g |_=>none
noncomputable def isT(x:Fs):Bool:=match x with | .tab _ _=>true |_=>false
noncomputable def vl(g:Pg):AV:= .tup [.int (16*g.c:Nat), .int (g.f:Nat)]
structure Ow (x:Nat->Fs) (O:List (Int×AV)) (L:List Int):Prop where
 s: ∀n:Nat,n<16->a9 O (n:Int)=(smp (x (n/4)) (n %4)).map vl
 b: ∀f:Nat,f<4->a9 O ((f:Int)-100)=(bgp (x f)).map vl
 K: ∀q∈O, ∃n:Nat,n<16/\(q.1=(n:Int)\/q.1=(n:Int)-100)
 N:(O.map (·.1)).Nodup
 m: ∀f:Nat,f<4->has L ((f:Nat):Int)=isT (x f)
noncomputable def M8(x:Fs)(n k:Nat):Option Nat:=match x with
 | .no=>none
 | .tab _ p=>(p (n %4)).bind λg=>match nay k g.f with |true=>none |false=>some g.c
 | .big g=>match nay k g.f with |true=>none |false=>some (g.c+n %4)
noncomputable def anN(o:Option Nat)(n o' k:Nat):AV:=match o with |some c=> .int (16*c+o':Nat) |none=> .tup [.int (pf k), .int (16*n+o':Nat)]
noncomputable def j0(x:Fs)(n o k:Nat):AV:=anN (M8 x n k) n o k
section
variable{d d' O:List (Int×AV)}{W W':Int->Int}{X:Sx}{r f k s j u n o m w c:Nat}{x x':Fs}{p:Nat->Option Pg}{g:Pg}{z:Int}{v:Option Pg}{P Gv Hv:AO}{aa:H}{L:List Int}{xs:Nat->Fs}
theorem d0t(ho:o<16):((16*n+o:Nat):Int).fdiv 64=((n/4:Nat):Int):=(H3 (m:=64)).trans (congrArg _ (by rw[<-Nat.div_div_eq_div_mul (16*n+o) 16 4,d16 ho]))
theorem c10{f sz:Nat}(h:16*c+(16*n+o) %sz=16*j+o):c31 ((16*n+o:Nat):Int) k ((16*c:Nat):Int) ((f:Nat):Int) ((sz:Nat):Int)=anN (match nay k f with |true=>none |false=>some j) n o k:=by
 unfold c31;show(match nay k f with |true=>_ |false=>_)=_;cases nay k f with
 |true=>rfl
 |false=>
  show AV.int (((16*c:Nat):Int)+((16*n+o:Nat):Int).fmod (sz:Nat))=AV.int ((16*j+o:Nat):Int);rw[u7, <-h];rfl
theorem d4e(hw:aa[w]? =some (.idict O))(Q:Ow xs O L)(hn:n<16)(ho:o<16)(hk:k<3):a7 TT (m+1) 40 (duA (w+10) (16*n+o:Nat) k) (hb d P Gv Hv aa)= .ok (j0 (xs (n/4)) n o k) (hb d P Gv Hv aa):=by
 have hb':=Q.b (n/4) (q4 hn);have hs:=Q.s n hn;have e64: ∀{y},a9 O (((n/4:Nat):Int)-100)=y->a9 O (((16*n+o:Nat):Int).fdiv 64-100)=y:=λh=>by rw[d0t ho];exact h
 have e16: ∀{y},a9 O (n:Int)=y->a9 O (((16*n+o:Nat):Int).fdiv 16)=y:=λh=>by rw[s0 ho];exact h
 have nil:bgp (xs (n/4))=none->smp (xs (n/4)) (n %4)=none->M8 (xs (n/4)) n k=none->a7 TT (m+1) 40 (duA (w+10) (16*n+o:Nat) k) (hb d P Gv Hv aa)= .ok (j0 (xs (n/4)) n o k) (hb d P Gv Hv aa):=λh1 h2 h3=>by
  rw[h1]at hb';rw[h2]at hs;refine(d1i (pg:=0) (fl:=0) hk hw (e64 hb') (by rw[e16 hs];rfl)).trans ?_;unfold j0;rw[h3];rfl
 cases e:xs (n/4)with
 |no=>rw[e]at nil;exact nil rfl rfl rfl
 |tab k' p=>
  cases e2:p (n %4)with
  |none=>rw[e]at nil;exact nil rfl e2 (by unfold M8;show(p (n %4)).bind _=_;rw[e2];rfl)
  |some g=>
   rw[e]at hb' hs;have hs':a9 O (n:Int)=some (vl g):=hs.trans (by show(p (n %4)).map vl=_;rw[e2];rfl);refine(d1i (pg:=((16*g.c:Nat))) (fl:=((g.f:Nat))) hk hw (e64 hb') (by rw[e16 hs'];rfl)).trans ?_;refine congrArg (λv=>R.ok v _) ((c10 (sz:=16) (j:=g.c) (by rw[m16 ho])).trans ?_);unfold j0 M8;show _=anN ((p (n %4)).bind _) n o k;rw[e2];rfl
 |big g=>
  rw[e]at hb';refine(dueB (pg:=((16*g.c:Nat))) (fl:=((g.f:Nat))) hk hw (e64 hb')).trans ?_;exact congrArg (λv=>R.ok v _) (c10 (sz:=64) (j:=g.c+n %4) (by rw[m64 ho];lia))
inductive Wk (d:List (Int×AV)) (X:Sx) (P Gv Hv:AO) (aa:H) (r n o k m:Nat):Prop
 |no (e:M8 (X r (n/4)) n k=none) (c:a7 TT m 22 (P9 (ro r) 8 (16*n+o:Nat) k 0 0 0) (hb d P Gv Hv aa)= .exc (aa.length+10) (hb d P Gv Hv (aa++[X5 k (16*n+o:Nat)])))
 |ok (c:Nat) (d':List (Int×AV)) (W':Int->Int) (e:M8 (X r (n/4)) n k=some c) (q:a7 TT m 22 (P9 (ro r) 8 (16*n+o:Nat) k 0 0 0) (hb d P Gv Hv aa)= .ok (.int (16*c+o:Nat)) (hb d' P Gv Hv aa)) (I:Inv d' W' X) (l:d'.length=d.length)
theorem Inv.mark{fw i:Nat}(I:Inv d W X)(hr:r<2)(hf:f<4)(hi:Cel r f (X r f) i)(hw:W (i:Nat)=(en g.c fw:Nat))(F:FG fw)(h30:fw&&&30=g.f)(hc:g.c<64)(k:Nat)
  (hx:X r f= .big g/\i=216+4*r+f\/ ∃k p s,X r f= .tab k p/\s<4/\i=216+4*k+s/\p s=some g):Inv (x0 d (i:Nat) k (en g.c fw:Nat)) (w3 W (i:Nat) (en g.c (fw|||Mine.mk k):Nat)) X/\(x0 d (i:Nat) k (en g.c fw:Nat)).length=d.length:=by
 obtain⟨M',l'⟩:=c2z (k:=k) I.M hw F hc;refine⟨?_,l'⟩;have V:PV g (en g.c (fw|||Mine.mk k):Nat):=⟨⟨_,rfl,F.mark k,mk30 h30⟩,hc⟩
 rcases hx with ⟨e,rfl⟩ |⟨k',p,s,e,hs,rfl,h⟩
 ·have:=I.setb hr hf M' V ((I.ok r f hr hf).b g e).2
  rwa [b1j e]at this
 ·have:=I.setp (v:=some g) hr hf e hs M' nofun (λg' e=>by cases e;exact V)
  rwa [c36 h,b1j e]at this
theorem b1a{q f:Nat}(F:FG f)(hc:c=4*q):((((en c f:Nat):Int).fdiv 1024*16).fmod 64==0)=true:=by
 rw[M5 F.lt',hc,c16,show((16*(4*q):Nat):Int).fmod 64=((16*(4*q) %64:Nat):Int)from u7 (m:=64),show 16*(4*q)=64*q from(Nat.mul_assoc 16 4 q).symm,Nat.mul_mod_right];rfl
theorem a2p(I:Inv d W X)(hr:r<2)(hn:n<16)(ho:o<16)(hk:k<3)(hl:d.length<=500):Wk d X P Gv Hv aa r n o k (m+7):=by
 have fi:n9 d.length=true:=decide_eq_true (Nat.le_trans hl (by decide));have O:=I.ok r (n/4) hr (q4 hn);have M: ∀{z:Int},W ((216+4*r+n/4:Nat))=z->u8 d ((ro r+4*((n/4:Nat):Int)).fdiv 4)= .int z:=λh=>by rw[Y4,I.M,h]
 have rw':=B9 hr (q4 hn);have ad:=b2z hn ho;cases e:X r (n/4)with
 |no=>exact .no (by rw[e];rfl) (d0o hk ad rfl rw' (M (O.n e)) rfl)
 |tab k' p=>
  obtain⟨k1,k2,w,hs⟩:=O.t k' p e;have Pt':Pt (en (54+k') 1:Nat) ((16*(54+k'):Nat):Int):=Y5 (k54 k2);have T: ∀{z:Int},W ((216+4*k'+n %4:Nat))=z->u8 d ((((16*(54+k'):Nat):Int)+4*((n %4:Nat):Int)).fdiv 4)= .int z:=λh=>by rw[Y1,I.M,h]
  cases e2:p (n %4)with
  |none=>
   refine .no ?_ (c94 hk ad rfl rw' (M w) Pt' (K6 k2 X4) (T ((hs _ X4).1 e2)) rfl);rw[e];show(p (n %4)).bind _=_;rw[e2];rfl
  |some g=>
   obtain⟨⟨fw,hz,F,h30⟩,hc⟩:=(hs _ X4).2 g e2;have L:=b7t F (c64 hc);have my:=b0u (c:=g.c) hk F h30;have et:M8 (X r (n/4)) n k=match nay k g.f with |true=>none |false=>some g.c:=by rw[e];show(p (n %4)).bind _=_;rw[e2];rfl
   cases y:nay k g.f with
   |true=>
    exact .no (by rw[et,y]) (a8k hk ad rfl rw' (M w) Pt' (K6 k2 X4) (T hz) L (.inl rfl) (.inl rfl) (.inl rfl) (by rw[my,y];rfl))
   |false=>
    have q:=a9w (m:=m) (p:=P) (g:=Gv) (h:=Hv) (aa:=aa) hk ad rfl rw' fi (M w) Pt' (K6 k2 X4) (T hz) L (.inl rfl) (.inl rfl) (.inl rfl) (by rw[my,y];rfl);rw[M5 F.lt',c16,c79 ho,Y1]at q;obtain⟨I',l'⟩:=I.mark hr (q4 hn) (.inr ⟨k',p,_,e,X4,rfl⟩) hz F h30 hc k (.inr ⟨k',p,_,e,X4,rfl,e2⟩);exact .ok g.c _ _ (by rw[et,y]) q I' l'
 |big g=>
  obtain⟨⟨⟨fw,hz,F,h30⟩,hc⟩,q,hq⟩:=O.b g e;have L:=b7t F (c64 hc);have my:=b0u (c:=g.c) hk F h30;have et:M8 (X r (n/4)) n k=match nay k g.f with |true=>none |false=>some (g.c+n %4):=by rw[e];rfl
  cases y:nay k g.f with
  |true=>
   exact .no (by rw[et,y]) (a6a hk ad rfl rw' (M hz) L (b1a F hq) (.inl rfl) (.inl rfl) (.inl rfl) (by rw[my,y];rfl))
  |false=>
   have t:=a6w (m:=m) (p:=P) (g:=Gv) (h:=Hv) (aa:=aa) hk ad rfl rw' fi (M hz) L (b1a F hq) (.inl rfl) (.inl rfl) (.inl rfl) (by rw[my,y];rfl);rw[M5 F.lt',Y4]at t;have ev:bitOr ((g.c:Int)*16) (bitAnd ((16*n+o:Nat):Int) 63)=((16*(g.c+n %4)+o:Nat):Int):=by
    rw[c16,hq,or64,m64 ho,Nat.mul_add,Nat.add_assoc]
   rw[ev]at t;obtain⟨I',l'⟩:=I.mark hr (q4 hn) (.inl rfl) hz F h30 hc k (.inl ⟨e,rfl⟩);exact .ok _ _ _ (by rw[et,y]) t I' l'
end
end
section
def Known(X:Sx)(ks:List KA)(v:Int):Prop:= ∃r n k c:Nat,ks=kq (ro r) (n:Nat) k 0 0 0/\r<2/\n<16/\k<3/\M8 (X r (n/4)) n k=some c/\v=((16*c:Nat):Int)
structure QI (aa:H) (X0 X:Sx) (jq kj room:Nat) (D:KD):Prop where
 q:aa[jq]? =some (AO.inst 4 (qf 0 kj (room:Nat)))
 k:aa[kj]? =some (AO.tdict D)
 l:D.length<=5
 r:room<=5
 en: ∀q∈D,Known X0 q.1 q.2\/Known X q.1 q.2
structure Keep (aa rest':H):Prop where
 l: ∀(i:Nat)(l:List AV),aa[i]? =some (AO.list l)->rest'[i]? =some (AO.list l)
 d: ∀(i:Nat)(D:List (Int×AV)),aa[i]? =some (AO.idict D)->rest'[i]? =some (AO.idict D)
noncomputable def ck(c:Nat):Nat:=match c with |156=>0 |77=>1 |_=>2
theorem c5d{k:Nat}(h:k<3):ck (kc k)=k:=by refine lt3 h ?_ ?_ ?_<;>rfl
theorem c8l{k k':Nat}(h:k<3)(h':k'<3)(e:kc k=kc k'):k=k':=by rw[<-c5d h,e,c5d h']
theorem d0v{r r':Nat}(h:ro r=ro r'):r=r':=by have:=Int.ofNat.inj h;lia
section
variable{d d':List (Int×AV)}{P Gv Hv:AO}{aa rest':H}{W W':Int->Int}{X0 X:Sx}{m r n o k jq kj room j:Nat}{v:Int}{D D':KD}{a b:AO}
theorem Keep.rfl':Keep aa aa:=⟨λ_ _ h=>h,λ_ _ h=>h⟩
theorem Keep.app:Keep aa (aa++rest'):=⟨λi l h=>i9 h,λi l h=>i9 h⟩
theorem Keep.set(h:aa[j]? =some a)(h1: ∀l,a≠AO.list l)(h2: ∀D,a≠AO.idict D):Keep aa (aa.set j b):=
 ⟨λi l e=>by
  rw[List.getElem?_set_ne (λc=>by rw[<-c,h]at e;exact h1 l (Option.some.inj e))];exact e,λi l e=>by
  rw[List.getElem?_set_ne (λc=>by rw[<-c,h]at e;exact h2 l (Option.some.inj e))];exact e⟩
theorem Keep.trans{r3:H}(h:Keep aa rest')(h':Keep rest' r3):Keep aa r3:=⟨λi l e=>h'.l i l (h.l i l e),λi l e=>h'.d i l (h.d i l e)⟩
theorem Known.at(h:Known X (kq (ro r) (n:Nat) k 0 0 0) v)(hk:k<3): ∃c,M8 (X r (n/4)) n k=some c/\v=((16*c:Nat):Int):=by
 obtain⟨r',n',k',c,e,_,_,hk',h1,h2⟩:=h;obtain⟨e1,e2⟩:=List.cons.inj e;obtain⟨e2,e3⟩:=List.cons.inj e2;obtain⟨_,e4⟩:=List.cons.inj e3;obtain⟨_,e5⟩:=List.cons.inj e4;obtain⟨_,e6⟩:=List.cons.inj e5;obtain⟨e7,_⟩:=List.cons.inj e6;have f1:=Int.ofNat.inj (KA.i.inj e1);have f2:=c8l hk hk' (KA.s.inj e2);have f3:=d0v (KA.i.inj e7);subst f1 f2 f3;exact⟨c,h1,h2⟩
theorem v3{j i:Nat}{o y:AO}(h:aa[j]? =some o)(h':aa[i]? =some y)(hn:o≠y):(aa.set i b)[j]? =some o:=by
 rw[List.getElem?_set_ne (λc=>by rw[c,h]at h';exact hn (Option.some.inj h'))];exact h
theorem B6{i:Nat}{y:AO}(h':aa[i]? =some y):(aa.set i b)[i]? =some b:=List.getElem?_set_self (List.getElem?_eq_some_iff.mp h').1
theorem QI.app(Q:QI aa X0 X jq kj room D):QI (aa++rest') X0 X jq kj room D:={ Q with q:=i9 Q.q,k:=i9 Q.k }
theorem QI.setk(Q:QI aa X0 X jq kj room D)(hl:D'.length<=5)(hk: ∀q∈D',Known X0 q.1 q.2\/Known X q.1 q.2):QI (aa.set kj (AO.tdict D')) X0 X jq kj room D':=
 ⟨v3 Q.q Q.k nofun,B6 Q.k,hl,Q.r,hk⟩
theorem QI.newf{Y0 Y:Sx}(Q:QI aa X0 X jq kj room D)(hl:D'.length<=5)(hk: ∀q∈D',Known Y0 q.1 q.2\/Known Y q.1 q.2):QI ((aa++[AO.tdict D']).set jq (AO.inst 4 (qf 0 aa.length (room:Nat)))) Y0 Y jq aa.length room D':=
 have hq:(aa++[AO.tdict D'])[jq]? =some _:=i9 Q.q
 ⟨B6 hq,v3 j7 hq nofun,hl,Q.r,hk⟩
theorem QI.keep_newf(Q:QI aa X0 X jq kj room D):Keep aa ((aa++[AO.tdict D']).set jq b):= .trans .app (.set (i9 Q.q) nofun nofun)
theorem QI.keep_setk(Q:QI aa X0 X jq kj room D):Keep aa (aa.set kj b):= .set Q.k nofun nofun
inductive Acc (d:List (Int×AV)) (P Gv Hv:AO) (aa:H) (X0 X:Sx) (jq room m r n o k:Nat):Prop
 |mk (v:AV) (d':List (Int×AV)) (r2:H) (W':Int->Int) (kj':Nat) (D':KD)
   (cj:a7 TT m 52 (tdA (ro r) (jq+10) (16*n+o:Nat) k) (hb d P Gv Hv aa)= .ok v (hb d' P Gv Hv r2))
   (hv:v=j0 (X0 r (n/4)) n o k\/v=j0 (X r (n/4)) n o k)
   (I:Inv d' W' X) (l:d'.length=d.length) (K:Keep aa r2) (Q:QI r2 X0 X jq kj' room D')
theorem acc(I:Inv d W X)(hl:d.length<=500)(Q:QI aa X0 X jq kj room D)(hr:r<2)(hn:n<16)(ho:o<16)(hk:k<3):Acc d P Gv Hv aa X0 X jq room (m+10) r n o k:=by
 have f1:A1 D.length=true:=decide_eq_true (Nat.le_trans Q.l (by decide));have f2:n9 D.length=true:=decide_eq_true (Nat.le_trans Q.l (by decide));cases z:a9 D (kq (ro r) (((16*n+o:Nat):Int).fdiv 16) k 0 0 0)with
 |some v=>
  have z':=z;rw[s0 ho]at z';have hv: ∃c,(M8 (X0 r (n/4)) n k=some c\/M8 (X r (n/4)) n k=some c)/\v=((16*c:Nat):Int):=by
   rcases Q.en _ (a55 z')with h |h
   ·obtain⟨c,h1,h2⟩:=h.at hk
    exact⟨c, .inl h1,h2⟩
   ·obtain⟨c,h1,h2⟩:=h.at hk
    exact⟨c, .inr h1,h2⟩
  obtain⟨c,h1,h2⟩:=hv;refine .mk (.int (16*c+o:Nat)) d aa W kj D (I9 (.inr rfl) hk Q.q (by kernel_rfl) (by kernel_rfl) ((a15 Q.q Q.k z).trans ?_)) ?_ I rfl .rfl' Q
  ·rw[h2,b4p ho,c79 ho]
  ·unfold j0
   rcases h1 with h1 |h1
   ·exact .inl (by rw[h1];rfl)
   ·exact .inr (by rw[h1];rfl)
 |none=>
  cases a2p (P:=P) (Gv:=Gv) (Hv:=Hv) (aa:=aa) (m:=m+1) I hr hn ho hk hl with
  |no e c=>
   exact .mk _ d _ W kj D (b1c (τ:=hb d P Gv Hv aa) (.inr rfl) hk Q.q (by kernel_rfl) (by kernel_rfl) (a43 Q.q rfl Q.k z c)) (.inr (by unfold j0;rw[e];rfl)) I rfl .app Q.app
  |ok c d' W' e q I' l=>
   have hK: ∀q∈[(kq (ro r) (n:Nat) k 0 0 0,((16*c:Nat):Int))],Known X0 q.1 q.2\/Known X q.1 q.2:=λq hq=>by rw[List.mem_singleton.mp hq];exact .inr ⟨r,n,k,c,rfl,hr,hn,hk,e,rfl⟩
   have hd:AV.int (16*c+o:Nat)=j0 (X r (n/4)) n o k:=by unfold j0;rw[e];rfl
   by_cases hr:((room:Nat):Int)<=(D.length:Nat)
   ·have t:=a1w Q.q rfl Q.k z f1 hr q
    rw[s0 ho,Z1 ho]at t;have N:=Q.newf (Y0:=X0) (Y:=X) (D':=[]) (by decide) (λq hq=>nomatch hq);exact .mk _ _ _ _ _ _ (I9 (.inr rfl) hk Q.q (by kernel_rfl) (by kernel_rfl) t) (.inr hd) I' l (.trans Q.keep_newf N.keep_setk) (N.setk (show 1<=5 by decide) hK)
   ·have t:=a13 Q.q rfl Q.k z f1 f2 hr q
    rw[s0 ho,Z1 ho]at t;refine .mk _ _ _ _ _ _ (I9 (.inr rfl) hk Q.q (by kernel_rfl) (by kernel_rfl) t) (.inr hd) I' l Q.keep_setk (Q.setk ?_ λq hq=> ?_)
    ·exact Nat.le_trans x7 (Nat.le_trans (Nat.lt_of_not_le λc=>hr (Int.ofNat_le.mpr c)) Q.r)
    ·rcases P2 hq with hq |rfl
     ·exact Q.en q hq
     ·exact hK _ (.head _)
end
end
section
theorem c1y{C:Cx}{l:Loc}{J:H}{t:MB}{a b:ME}{y:R AV}(ht:tstE C l t J= .ok true J)(h:a6 C l a J=y):a6 C l (.ite t a b) J=y:=c8 ht h
section
variable{d d1 G G1:List (Int×AV)}{aa:H}{p g h:AO}{m:Nat}{ro u a f q o e e2 t fl ph:Int}{z:RS}
theorem b81{C:Cx}{l:Loc}{J:H}(hl:l 49= .int e)(hg:C.T=TT)(h1:(!(bitAnd e 1==0))=true):a6 C l (.ite (.of (.cmp .ne (.bin .and (.loc 49) (.glo 53)) (.int 0))) (.loc 49) (.int 0)) J= .ok (.int e) J:=by
 obtain⟨cl,hz,T⟩:=C;cases hg;have he: ∀C:Cx,a6 C l (.loc 49) J= .ok (.int e) J:=λC=>by
  show l9 R.bad (l 49) (.ok (l 49) _)=_;rw[hl];rfl
 exact c1y (tst (b:= !(bitAnd e 1==0)) (cmi (x:= .int (bitAnd e 1)) (y:= .int 0) (j6 (x:=e) (y:=1) (he _) (by kernel_rfl) rfl) (by kernel_rfl) (by kernel_rfl)) h1) (he _)
theorem c4l(ha:Ad a f q o)(w:Wd (ro+4*f))(he:u8 d ((ro+4*f).fdiv 4)= .int e)(L:Lf e):a7 TT (m+3) 33 (enA ro a) (hb d p g h aa)= .ok (.int e) (hb d p g h aa):=
 d6 r33 (by rfl) (by rfl) (a28 ha w he (irz (m6 (b:=bitAnd e 1==0) (by kernel_rfl) (by simpa using L.v) (V7 (b:=true) (ofB (i0 (m:=m+1)) L.l) rfl)) (rt (b81 (by rfl) rfl L.v))))
theorem b6l(ha:Ad a f q o)(w:Wd (ro+4*f))(he:u8 d ((ro+4*f).fdiv 4)= .int e)(P:Pt e t)(w2:Wd (t+4*q))(he2:u8 d ((t+4*q).fdiv 4)= .int e2)(L:Lf e2):a7 TT (m+3) 33 (enA ro a) (hb d p g h aa)= .ok (.int e2) (hb d p g h aa):=by
 refine d6 r33 (by rfl) (by rfl) (a28 ha w he (iz (m6 (b:=bitAnd e 1==0) (by kernel_rfl) (by simpa using P.v) (m6 (b:=false) ((ofB (i0 (m:=m+1)) P.l)) rfl rfl))
  (w1 (v:= .int e2) (ae:=hb d p g h aa) ?_ (rt (b81 (by rfl) rfl L.v)))))
 exact z6 (id:=0) (ae:=hb d p g h aa) (af:=hb d p g h aa) (c:=0) (f:=a1n) (i:=4) (vs:=[.int (t+4*q)]) (by kernel_rfl) rfl (by kernel_rfl) (by kernel_rfl)
  (c8 (j6 (x:=t) (y:=4*q) ((k4 (m:=m+1) P.s).trans (by rw[P.p])) (by kernel_rfl) rfl) rfl) (he2▸w4 (m:=m) w2)
theorem c04(F:Fl fl)(h1:(bitAnd a 15==0)=true)(h2:(bitAnd ph 15==0)=true)(he:a7 TT (m+4) 33 (enA ro a) (hb d p g h aa)= .ok (.int e) (hb d p g h aa))(hz:e≠0):
  a7 TT (m+5) 35 [.obj 9, .int ro, .int a, .int ph, .int fl] (hb d p g h aa)= .exc (aa.length+10) (hb d p g h (aa++[bad 101])):=
 o7 (af:=hb d p g h aa) (z:=false) (c:=8) (g:=w5 (.str 101)) r35 (by rfl) (by rfl) (ex (v:= .none) (ae:=hb d p g h aa) (N1 (m:=m+2) F) (iz (m6 (b:=false) (C4 (b:=true) ((u5 (m:=m+3)).trans (by rw[h1]))) rfl (m6 (b:=false) (C4 (b:=true) ((u5 (m:=m+3)).trans (by rw[h2]))) rfl rfl))
  (ixz (cmi (x:= .int e) (y:= .int 0) he (by kernel_rfl) (Eq.trans (b:=R.ok (AV.bool !(e==0)) (hb d p g h aa)) (by kernel_rfl) (by rw[beq_eq_false_iff_ne.mpr hz];rfl))) (w7 (m:=m+3)))))
end
theorem lt5{P:Nat->Prop}{k:Nat}(hk:k<5)(h0:P 0)(h1:P 1)(h2:P 2)(h3:P 3)(h4:P 4):P k:=match k,hk with |0,_=>h0 |1,_=>h1 |2,_=>h2 |3,_=>h3 |4,_=>h4
noncomputable def flN(j:Nat):Nat:=match j with |0=>22 |1=>18 |2=>26 |3=>30 |_=>2
theorem b0e{j:Nat}(hj:j<5):L9 j=((flN j:Nat):Int):=by refine lt5 (P:=λj=>L9 j=((flN j:Nat):Int)) hj ?_ ?_ ?_ ?_ ?_<;>rfl
structure F0 (f:Nat):Prop where
 fl:Fl ((f:Nat):Int)
 fg:FG (f+1)
 p:f|||1=f+1
 h:(f+1)&&&30=f
theorem c6w:F0 22:=⟨⟨by kernel_rfl,by kernel_rfl,by kernel_rfl,by kernel_rfl⟩,⟨by decide,rfl,rfl,rfl⟩,rfl,rfl⟩
theorem f0_n{j:Nat}(hj:j<5):F0 (flN j):=by
 refine lt5 (P:=λj=>F0 (flN j)) hj c6w ?_ ?_ ?_ ?_<;>exact⟨⟨by kernel_rfl,by kernel_rfl,by kernel_rfl,by kernel_rfl⟩,⟨by decide,rfl,rfl,rfl⟩,rfl,rfl⟩
theorem c6m{c f:Nat}(hf:f<1024):bitOr ((c:Int)*1024) (f:Int)=(en c f:Nat):=by
 rw[show(c:Int)*1024=((1024*c:Nat):Int)from(Int.mul_comm ..).trans (Int.natCast_mul 1024 c).symm];exact(bO _ _).trans (congrArg Int.ofNat (Nat.two_pow_add_eq_or_of_lt (i:=10) hf c).symm)
theorem b9d{u:Nat}:a6k ((16*(54+u):Nat):Int)=(en (54+u) 1:Nat):=by
 unfold a6k;rw[show((16*(54+u):Nat):Int).fdiv 16=((54+u:Nat):Int)from s0 (o:=0) (by decide)];exact c6m (f:=1) (by decide)
theorem c60{c f:Nat}(F:F0 f):H9 ((16*c:Nat):Int) (f:Nat)=(en c (f+1):Nat):=by
 unfold H9;rw[show((16*c:Nat):Int).fdiv 16=(c:Int)from s0 (o:=0) (by decide),show bitOr (f:Int) 1=((f+1:Nat):Int)from(bO f 1).trans (by rw[F.p])];exact c6m F.fg.lt'
theorem c3u{c f:Nat}(F:F0 f)(hc:c<64):bitAnd (H9 ((16*c:Nat):Int) (f:Nat)) 4294967295=(en c (f+1):Nat):=by rw[c60 F,a9v (b69 (c64 hc) F.fg.lt')]
theorem F0.pv{c f:Nat}(F:F0 f)(hc:c<64):PV ⟨c,f⟩ (en c (f+1):Nat):=⟨⟨f+1,rfl,F.fg,F.h⟩,hc⟩
theorem z15{n:Nat}:(bitAnd ((16*n:Nat):Int) 15==0)=true:=by rw[show bitAnd ((16*n:Nat):Int) 15=_ from b4p (n:=n) (o:=0) (by decide)];rfl
theorem s16{c:Nat}(hc:c<64):small (((16*c:Nat):Int).fdiv 16)=true:=by
 rw[show((16*c:Nat):Int).fdiv 16=(c:Int)from s0 (o:=0) (by decide)];exact N4 (Nat.lt_trans hc (by decide))
theorem d11{n:Nat}:bitAnd ((16*n:Nat):Int) (bitNot 15)=((16*n:Nat):Int):=Z1 (c:=n) (o:=0) (by decide)
end
section
noncomputable def a0q(g:Nat->Nat):Nat->Nat |0=>0 |n+1=>a0q g n+g n
theorem a0m{g g':Nat->Nat}: ∀{n},(∀j,j<n->g' j=g j)->a0q g' n=a0q g n
 |0,_=>rfl
 |n+1,h=>by
  show a0q g' n+g' n=a0q g n+g n;rw[a0m λj hj=>h j (Nat.lt_succ_of_lt hj),h n (Nat.lt_succ_self n)]
theorem a64{g g':Nat->Nat}{i:Nat}: ∀{n},i<n->(∀j,j<n->j≠i->g' j=g j)->a0q g' n+g i=a0q g n+g' i
 |n+1,hi,h=>by
  show a0q g' n+g' n+g i=a0q g n+g n+g' i;rcases Nat.lt_succ_iff_lt_or_eq.mp hi with hi' |rfl
  ·have:=a64 hi' λj hj=>h j (Nat.lt_succ_of_lt hj)
   rw[h n (Nat.lt_succ_self n) (Nat.ne_of_gt hi'),Nat.add_right_comm,this,Nat.add_right_comm]
  ·rw[a0m λj hj=>h j (Nat.lt_succ_of_lt hj) (Nat.ne_of_lt hj),Nat.add_right_comm]
theorem b0c{g:Nat->Nat}: ∀{n},(∀j,g j<=1)->a0q g n<=n
 |0,_=>Nat.le_refl _
 |n+1,h=>Nat.add_le_add (b0c h) (h n)
noncomputable def tN(X:Sx)(i:Nat):Nat:=(isT (X (i/4) (i %4))).toNat
noncomputable def cnt(X:Sx):Nat:=a0q (tN X) 8
section
variable{d d' G:List (Int×AV)}{P Gv Hv:AO}{W W':Int->Int}{X:Sx}{r f k s j u n o m w c fl:Nat}{x:Fs}{p:Nat->Option Pg}{g:Pg}{z:Int}{v:Option Pg}{aa:H}
theorem ix8(hr:r<2)(hf:f<4):4*r+f<8:=by lia
theorem ixd(hf:f<4):(4*r+f)/4=r:=by rw[Nat.mul_add_div (by decide),Nat.div_eq_of_lt hf,Nat.add_zero]
theorem ixm(hf:f<4):(4*r+f) %4=f:=by rw[Nat.mul_add_mod,Nat.mod_eq_of_lt hf]
theorem a26(hr:r<2)(hf:f<4):cnt (o5 X r f x)+(isT (X r f)).toNat=cnt X+(isT x).toNat:=by
 have:=a64 (g:=tN X) (g':=tN (o5 X r f x)) (ix8 hr hf) λj hj hn=>by
  unfold tN;rw[m8 λc=>hn (by rw[<-c.1, <-c.2,Nat.div_add_mod])]
 unfold tN at this;rw[ixd hf,ixm hf,n5]at this;exact this
theorem c98(hr:r<2)(hf:f<4)(h:isT (X r f)=false):cnt X<=7:=by
 have h1:=a26 (X:=X) (x:= .tab 0 λ_=>none) hr hf;rw[h]at h1;have h2:cnt (o5 X r f (.tab 0 λ_=>none))<=8:=b0c λj=>by unfold tN;cases isT _<;>decide
 have h3:cnt (o5 X r f (.tab 0 λ_=>none))=cnt X+1:=h1;rw[h3]at h2;exact Nat.le_of_succ_le_succ h2
structure Sp2 (d:List (Int×AV)) (u:Nat) (W:Int->Int) (X:Sx):Prop where
 I:Inv d W X
 uk: ∀r f k p,r<2->f<4->X r f= .tab k p->k<u
 uc:u=2+cnt X
theorem Sp2.upd(S:Sp2 d u W X)(hr:r<2)(hf:f<4)(I:Inv d' W' (o5 X r f x))(hT:isT x=isT (X r f))(hk: ∀k p,x= .tab k p->k<u):Sp2 d' u W' (o5 X r f x) where
 I:=I
 uk r' f' k p hr' hf' e:=by
  by_cases c:r'=r/\f'=f
  ·rw[c.1,c.2,n5]at e;exact hk k p e
  ·rw[m8 c]at e;exact S.uk _ _ _ _ hr' hf' e
 uc:=by
  have:=a26 (X:=X) (x:=x) hr hf;rw[hT]at this;rw[Nat.add_right_cancel this];exact S.uc
def Tv(y:Fs)(k:Nat)(p:Nat->Option Pg):Prop:=y= .tab k p\/y= .no/\p=λ_=>none
theorem Inv.rootW(I:Inv d W X){z:Int}(h:W ((216+4*r+f:Nat))=z):u8 d ((ro r+4*(f:Int)).fdiv 4)= .int z:=by rw[Y4,I.M,h]
theorem Inv.tabW(I:Inv d W X){z:Int}(h:W ((216+4*k+s:Nat))=z):u8 d ((((16*(54+k):Nat):Int)+4*(s:Int)).fdiv 4)= .int z:=by rw[Y1,I.M,h]
theorem PV.lf(V:PV g z):Lf z:=by obtain⟨⟨fw,rfl,F,_⟩,hc⟩:=V;exact b7t F (c64 hc)
theorem PV.nz(V:PV g z):z≠0:=by obtain⟨⟨fw,rfl,F,_⟩,hc⟩:=V;exact b4k F
theorem PV.ph(V:PV g z):z.fdiv 1024*16=((16*g.c:Nat):Int):=by obtain⟨⟨fw,rfl,F,_⟩,hc⟩:=V;rw[M5 F.lt',c16]
theorem Lf.v'{z:Int}(L:Lf z):(bitAnd z 1==0)=false:=by have:=L.v;simpa using this
theorem d1s(I:Inv d W X)(hr:r<2)(hn:n<16)(e:X r (n/4)= .tab k p)(h:p (n %4)=some g):a7 TT (m+4) 37 [.obj 9, .int (ro r), .int (bitAnd ((16*n:Nat):Int) (bitNot 15))] (hb d P Gv Hv aa)= .ok (.int (((16*(54+k):Nat):Int)+4*((n %4:Nat):Int))) (hb d P Gv Hv aa):=by
 obtain⟨k1,k2,w,hs⟩:=(I.ok r _ hr (q4 hn)).t k p e;rw[d11];exact d3c (m:=m) (b2z (o:=0) hn (by decide)) (B9 hr (q4 hn)) (I.rootW w) (Y5 (k54 k2)) (K6 k2 X4) (I.tabW rfl) ((hs _ X4).2 g h).lf.v'
theorem d4i(I:Inv d W X)(hr:r<2)(hn:n<16)(h:smp (X r (n/4)) (n %4)=none): ∃c,a7 TT (m+4) 37 [.obj 9, .int (ro r), .int (bitAnd ((16*n:Nat):Int) (bitNot 15))] (hb d P Gv Hv aa)= .exc (aa.length+10) (hb d P Gv Hv (aa++[bad c])):=by
 have O:=I.ok r _ hr (q4 hn);have ad:=b2z (n:=n) (o:=0) hn (by decide);rw[d11];cases e:X r (n/4)with
 |no=>exact⟨_,c2w (m:=m) ad (B9 hr (q4 hn)) (I.rootW (O.n e)) rfl⟩
 |tab k p=>
  obtain⟨k1,k2,w,hs⟩:=O.t k p e;rw[e]at h;exact⟨_,d28 (m:=m) ad (B9 hr (q4 hn)) (I.rootW w) (Y5 (k54 k2)) (K6 k2 X4) (I.tabW ((hs _ X4).1 h)) rfl⟩
 |big g=>exact⟨_,c92 (m:=m) ad (B9 hr (q4 hn)) (I.rootW rfl) (O.b g e).1.lf⟩
theorem b73(h:d.length<=500):n9 d.length=true:=decide_eq_true (Nat.le_trans h (by decide))
theorem a25(I:Inv d W X)(hr:r<2)(hn:n<16)(e:X r (n/4)= .tab k p)(h:p (n %4)=some g)(hl:d.length<=500):
  a7 TT (m+5) 38 [.obj 9, .int (ro r), .int (16*n:Nat)] (hb d P Gv Hv aa)= .ok (.int (16*g.c:Nat)) (hb (d9 d ((216+4*k+n %4:Nat)) 0) P Gv Hv aa)/\Inv (d9 d ((216+4*k+n %4:Nat)) 0) (w3 W ((216+4*k+n %4:Nat)) 0) (o5 X r (n/4) (.tab k (s8 p (n %4) none))):=by
 obtain⟨k1,k2,w,hs⟩:=(I.ok r _ hr (q4 hn)).t k p e;have V:=(hs _ X4).2 g h;have q:=c1n (m:=m) (K6 k2 X4) (I.tabW rfl) V.lf.s (d1s (m:=m) (P:=P) (Gv:=Gv) (Hv:=Hv) (aa:=aa) I hr hn e h) (b73 hl);rw[V.ph,Y1]at q;exact⟨q,I.setp hr (q4 hn) e X4 (n8 I.M) (λ_=>rfl) nofun⟩
theorem c3w(I:Inv d W X)(hr:r<2)(hn:n<16)(h:smp (X r (n/4)) (n %4)=none): ∃c,a7 TT (m+5) 38 [.obj 9, .int (ro r), .int (16*n:Nat)] (hb d P Gv Hv aa)= .exc (aa.length+10) (hb d P Gv Hv (aa++[bad c])):=by
 obtain⟨c,hc⟩:=d4i (m:=m) (P:=P) (Gv:=Gv) (Hv:=Hv) (aa:=aa) I hr hn h;exact⟨c,c2i hc⟩
theorem c95(F:F0 fl)(hc:c<64)(I:Inv d W X)(hr:r<2)(hn:n<16)(e:X r (n/4)= .tab k p)(h:p (n %4)=some g)(hl:d.length<=500):
  a7 TT (m+5) 39 [.obj 9, .int (ro r), .int (16*n:Nat), .int (16*c:Nat), .int (fl:Nat)] (hb d P Gv Hv aa)= .ok (.int (16*g.c:Nat)) (hb (d9 d ((216+4*k+n %4:Nat)) (en c (fl+1):Nat)) P Gv Hv aa)/\Inv (d9 d ((216+4*k+n %4:Nat)) (en c (fl+1):Nat)) (w3 W ((216+4*k+n %4:Nat)) (en c (fl+1):Nat)) (o5 X r (n/4) (.tab k (s8 p (n %4) (some ⟨c,fl⟩)))):=by
 obtain⟨k1,k2,w,hs⟩:=(I.ok r _ hr (q4 hn)).t k p e;have V:=(hs _ X4).2 g h;have q:=c2x (m:=m) (ph:=((16*c:Nat):Int)) F.fl z15 (s16 hc) (K6 k2 X4) (I.tabW rfl) V.lf.s (d1s (m:=m) (P:=P) (Gv:=Gv) (Hv:=Hv) (aa:=aa) I hr hn e h) (b73 hl);rw[V.ph,Y1,c3u F hc]at q;exact⟨q,I.setp hr (q4 hn) e X4 (n8 I.M) nofun (λg' e=>by cases e;exact F.pv hc)⟩
theorem c9s(F:F0 fl)(I:Inv d W X)(hr:r<2)(hn:n<16)(h:smp (X r (n/4)) (n %4)=none): ∃c',a7 TT (m+5) 39 [.obj 9, .int (ro r), .int (16*n:Nat), .int (16*c:Nat), .int (fl:Nat)] (hb d P Gv Hv aa)= .exc (aa.length+10) (hb d P Gv Hv (aa++[bad c'])):=by
 obtain⟨c',hc⟩:=d4i (m:=m) (P:=P) (Gv:=Gv) (Hv:=Hv) (aa:=aa) I hr hn h;exact⟨c',c7l F.fl z15 hc⟩
end
end
section
section
variable{d d' G:List (Int×AV)}{P Gv Hv:AO}{W W':Int->Int}{X:Sx}{r f k s j u n o m w c fl q:Nat}{x y:Fs}{p:Nat->Option Pg}{g:Pg}{z:Int}{v:Option Pg}{aa:H}
theorem b2v:o5 (o5 X r f x) r f y=o5 X r f y:=funext λr'=>funext λf'=>by
 by_cases c:r'=r/\f'=f
 ·rw[c.1,c.2,n5,n5]
 ·rw[m8 c,m8 c,m8 c]
inductive MapR (d:List (Int×AV)) (u:Nat) (G:List (Int×AV)) (aa:H) (X:Sx) (r n c fl m:Nat):Prop
 |mk (d':List (Int×AV)) (u':Nat) (G':List (Int×AV)) (W':Int->Int) (k:Nat) (p:Nat->Option Pg)
   (call:a7 TT m 35 [.obj 9, .int (ro r), .int (16*n:Nat), .int (16*c:Nat), .int (fl:Nat)] (hp d (u:Nat) G aa)= .ok .none (hp d' (u':Nat) G' aa))
   (t:Tv (X r (n/4)) k p) (S:Sp2 d' u' W' (o5 X r (n/4) (.tab k (s8 p (n %4) (some ⟨c,fl⟩))))) (dl:d'.length<=d.length+10) (gl:G'.length<=G.length+1)
theorem c6i(S:Sp2 d u W X)(F:F0 fl)(hc:c<64)(hr:r<2)(hn:n<16)(hl:d.length<=450)(hG:G.length<=400)(h:smp (X r (n/4)) (n %4)=none)(hb':bgp (X r (n/4))=none):MapR d u G aa X r n c fl (m+7):=by
 have O:=S.I.ok r _ hr (q4 hn);have ad:=b2z (n:=n) (o:=0) hn (by decide);have rw':=B9 hr (q4 hn);have V:=F.pv hc;cases e:X r (n/4)with
 |big g=>rw[e]at hb';cases hb'
 |tab k p=>
  obtain⟨k1,k2,w,hs⟩:=O.t k p e;rw[e]at h;have P:Pt (en (54+k) 1:Nat) ((16*(54+k):Nat):Int):=Y5 (k54 k2);have w2:=K6 (k:=k) (q:=n %4) k2 X4;have q:=c1s (m:=m) (G:=G) (u:=(u:Nat)) (ph:=((16*c:Nat):Int)) F.fl z15 z15 (s16 hc) (c3a (m:=m+3) (aa:=aa) ad rw' (S.I.rootW w) P w2 (S.I.tabW ((hs _ X4).1 h)) rfl) (a04 (m:=m+3) ad rw' (S.I.rootW w) P) w2 (b73 (Nat.le_trans hl (by decide)));rw[Y1,c3u F hc]at q;have I':=S.I.setp (v:=some ⟨c,fl⟩) hr (q4 hn) e X4 (n8 (i:=((216+4*k+n %4:Nat))) S.I.M) nofun (λg' e=>by cases e;exact V);refine .mk _ u G _ k p q (.inl e) (S.upd hr (q4 hn) I' (by rw[e];rfl) λk' p' e'=>by cases e';exact S.uk _ _ _ _ hr (q4 hn) e) (Nat.le_trans g8 (Nat.add_le_add_left (by decide) _)) (Nat.le_succ _)
 |no=>
  have hT:isT (X r (n/4))=false:=by rw[e];rfl
  have hc7:=c98 hr (q4 hn) hT;have hu9:u<=9:=by rw[S.uc];exact Nat.add_le_add_left hc7 2
  have hu2:2<=u:=by rw[S.uc];exact Nat.le_add_right 2 _
  have hu:=k54 (Nat.lt_succ_of_le hu9);have z:=O.n e;have P:Pt (a6k ((16*(54+u):Nat):Int)) ((16*(54+u):Nat):Int):=by rw[b9d];exact Y5 hu
  have w2:=K6 (k:=u) (q:=n %4) (Nat.lt_succ_of_le hu9) X4;have hA:864+((u:Nat):Int)*16=((16*(54+u):Nat):Int):=by rw[Nat.mul_add,Int.mul_comm];rfl
  have kl:(d9 (C8 d ((16*(54+u):Nat):Int)) ((216+4*r+n/4:Nat)) (en (54+u) 1:Nat)).length<=d.length+9:=Nat.le_trans g8 (Nat.succ_le_succ (A3 (A3 (Nat.le_refl _))));have hw:=b7k (m:=m) (G:=G) (aa:=aa) ad rw' (S.I.rootW z) rfl (Int.ofNat_le.mpr hu9) hA (sp_n hu9) (Nat.le_trans hl (by decide)) (decide_eq_true (Nat.le_trans hG (by decide))) (by
   rw[show((16*(54+u):Nat):Int).fdiv 16=((54+u:Nat):Int)from s0 (o:=0) (by decide)];exact N4 (Nat.lt_trans hu (by decide))) P
  rw[b9d,a9v (b69 hu (by decide)),Y4]at hw;have q:=c1s (m:=m) (ph:=((16*c:Nat):Int)) F.fl z15 z15 (s16 hc) (b4y (m:=m+3) ad rw' (S.I.rootW z) rfl) hw w2 (b73 (Nat.le_trans kl (Nat.le_trans (Nat.add_le_add_right hl 9) (by decide))));rw[Y1,c3u F hc]at q;have M1:Mw (d9 (C8 d ((16*(54+u):Nat):Int)) ((216+4*r+n/4:Nat)) (en (54+u) 1:Nat)) (w3 (U7 (U7 W u 84215045) u 0) ((216+4*r+n/4:Nat)) (en (54+u) 1:Nat)):=n8 (a56 (a56 S.I.M));have I1:=S.I.table hr (q4 hn) hu2 (Nat.lt_succ_of_le hu9) S.uk M1;have I2:=I1.setp (v:=some ⟨c,fl⟩) hr (q4 hn) n5 X4 (n8 (i:=((216+4*u+n %4:Nat))) I1.M) nofun (λg' e=>by cases e;exact V);rw[b2v]at I2;refine .mk _ (u+1) _ _ u _ q (.inr ⟨e,rfl⟩) ⟨I2,λr' f' k' p' hr' hf' e'=> ?_, ?_⟩ (Nat.le_trans g8 (Nat.succ_le_succ kl)) x7
  ·by_cases c:r'=r/\f'=n/4
   ·rw[c.1,c.2,n5]at e';cases e';exact Nat.lt_succ_self _
   ·rw[m8 c]at e';exact Nat.lt_succ_of_lt (S.uk _ _ _ _ hr' hf' e')
  ·have h1:=a26 (X:=X) (x:= .tab u (s8 (λ_=>none) (n %4) (some ⟨c,fl⟩))) hr (q4 hn)
   rw[hT]at h1;exact(congrArg (· +1) S.uc).trans ((Nat.add_assoc 2 _ 1).trans (congrArg (2+ ·) h1.symm))
theorem c54(S:Sp2 d u W X)(F:F0 fl)(hc:c<64)(hr:r<2)(hn:n<16)(h:(smp (X r (n/4)) (n %4)).isSome=true\/(bgp (X r (n/4))).isSome=true):
  a7 TT (m+5) 35 [.obj 9, .int (ro r), .int (16*n:Nat), .int (16*c:Nat), .int (fl:Nat)] (hb d P Gv Hv aa)= .exc (aa.length+10) (hb d P Gv Hv (aa++[bad 101])):=by
 have O:=S.I.ok r _ hr (q4 hn);have ad:=b2z (n:=n) (o:=0) hn (by decide);have rw':=B9 hr (q4 hn);cases e:X r (n/4)with
 |no=>rw[e]at h;rcases h with h |h<;>cases h
 |big g=>
  have V:=(O.b g e).1;exact c04 F.fl z15 z15 (c4l (m:=m+1) ad rw' (S.I.rootW rfl) V.lf) V.nz
 |tab k p=>
  obtain⟨k1,k2,w,hs⟩:=O.t k p e;rw[e]at h;cases e2:p (n %4)with
  |none=>
   rcases h with h |h
   ·rw[show smp (.tab k p) (n %4)=none from e2]at h;cases h
   ·cases h
  |some g=>
   have V:=(hs _ X4).2 g e2;exact c04 F.fl z15 z15 (b6l (m:=m+1) ad rw' (S.I.rootW w) (Y5 (k54 k2)) (K6 k2 X4) (S.I.tabW rfl) V.lf) V.nz
theorem f64:(64:Int)*((q:Nat):Int)=((16*(4*q):Nat):Int):=by lia
theorem c4k:((16*(4*q):Nat):Int).fmod 64=0:=(u7 (m:=64)).trans (congrArg _ (by rw[show 16*(4*q)=64*q from(Nat.mul_assoc 16 4 q).symm,Nat.mul_mod_right]))
theorem d29(hf:f<4):Ad (64*(f:Int)) (f:Nat) (0:Nat) (0:Nat):=by
 have:=b2z (n:=4*f) (o:=0) (by lia) (by decide);rw[Nat.mul_div_cancel_left f (by decide),Nat.mul_mod_right]at this;rw[f64];exact this
theorem c1f(S:Sp2 d u W X)(F:F0 fl)(hq:q<13)(hr:r<2)(hf:f<4)(hl:d.length<=450)(e:X r f= .no):
  a7 TT (m+5) 36 (mlA (ro r) (64*(f:Int)) (64*(q:Int)) (fl:Nat)) (hb d P Gv Hv aa)= .ok .none (hb (d9 d ((216+4*r+f:Nat)) (en (4*q) (fl+1):Nat)) P Gv Hv aa)/\Sp2 (d9 d ((216+4*r+f:Nat)) (en (4*q) (fl+1):Nat)) u (w3 W ((216+4*r+f:Nat)) (en (4*q) (fl+1):Nat)) (o5 X r f (.big ⟨4*q,fl⟩)):=by
 have hc:4*q<64:=Nat.lt_of_lt_of_le ((Nat.mul_lt_mul_left (by decide)).mpr hq) (by decide);have z:=(S.I.ok r f hr hf).n e;have t:=b2i (m:=m) (p:=P) (g:=Gv) (h:=Hv) (aa:=aa) (ph:=64*(q:Int)) F.fl (by rw[f64];exact c4k) (by rw[f64];exact c4k) (d29 hf) (by rw[f64];exact s16 hc) (B9 hr hf) (S.I.rootW z) rfl (b73 (Nat.le_trans hl (by decide)));rw[Y4,f64 (q:=q),c3u F hc]at t;refine⟨(f64 (q:=q)).symm▸t,S.upd hr hf (S.I.setb hr hf (n8 S.I.M) (F.pv hc) ⟨q,rfl⟩) (by rw[e];rfl) nofun⟩
theorem c0o(S:Sp2 d u W X)(F:F0 fl)(hr:r<2)(hf:f<4)(e:X r f≠ .no):
  a7 TT (m+5) 36 (mlA (ro r) (64*(f:Int)) (64*(q:Int)) (fl:Nat)) (hb d P Gv Hv aa)= .exc (aa.length+10) (hb d P Gv Hv (aa++[bad 105])):=by
 have O:=S.I.ok r f hr hf;have k: ∀{z:Int},W ((216+4*r+f:Nat))=z->(bitAnd z 1==0)=false->a7 TT (m+5) 36 (mlA (ro r) (64*(f:Int)) (64*(q:Int)) (fl:Nat)) (hb d P Gv Hv aa)= .exc (aa.length+10) (hb d P Gv Hv (aa++[bad 105])):=λhz h1=>
  b3s (m:=m) F.fl (by rw[f64];exact c4k) (by rw[f64];exact c4k) (d29 hf) (B9 hr hf) (S.I.rootW hz) h1
 cases c:X r f with
 |no=>exact absurd c e
 |tab k' p=>
  obtain⟨k1,k2,w,hs⟩:=O.t k' p c;exact k w (by have:=(Y5 (k54 k2)).v;simpa using this)
 |big g=>exact k rfl (O.b g c).1.lf.v'
end
end
section
theorem b05{a b:Int}:PyData.eqv (.int a) (.int b)=(a==b):=by kernel_rfl
noncomputable def a03(x:Nat->Fs)(f:Nat)(y:Fs):Nat->Fs:=λf'=>if f'=f then y else x f'
theorem y2{x:Nat->Fs}{f:Nat}{y:Fs}:a03 x f y f=y:=if_pos rfl
theorem D0{x:Nat->Fs}{f f':Nat}{y:Fs}(h:f'≠f):a03 x f y f'=x f':=if_neg h
theorem b76{X:Sx}{r f:Nat}{y:Fs}:o5 X r f y r=a03 (X r) f y:=funext λf'=>by
 unfold o5 a03
 by_cases c:f'=f
 ·rw[if_pos ⟨rfl,c⟩,if_pos c]
 ·rw[if_neg λz=>c z.2,if_neg c]
theorem a9l{X:Sx}{r r' f:Nat}{y:Fs}(h:r'≠r):o5 X r f y r'=X r':=funext λf'=>if_neg λz=>h z.1
theorem b5y{n f:Nat}(hf:f<4):((n:Nat):Int)≠((f:Nat):Int)-100:=by lia
theorem c4p{f f':Nat}(h:((f:Nat):Int)-100=((f':Nat):Int)-100):f=f':=by lia
theorem c3p{L:List Int}{a b:Int}:has (L++[a]) b=(has L b||(a==b)):=by
 unfold has;rw[List.map_append,List.any_append,List.map_cons,List.map_nil,List.any_cons,List.any_nil,Bool.or_false,b05]
noncomputable def a3a(L:List Int)(f:Nat):List Int:=match has L (f:Nat)with |true=>L |false=>L++[((f:Nat):Int)]
theorem b7c{L:List Int}{f f':Nat}:has (a3a L f) ((f':Nat):Int)=(has L ((f':Nat):Int)||(f==f')):=by
 unfold a3a;cases h:has L (f:Nat)with
 |true=>
  by_cases c:f=f'
  ·subst c;rw[h];rfl
  ·rw[beq_eq_false_iff_ne.mpr c,Bool.or_false]
 |false=>exact c3p.trans (by rw[c8o])
section
variable{d d' O:List (Int×AV)}{L:List Int}{X:Sx}{x:Nat->Fs}{r f k s n c:Nat}{y:Fs}{p:Nat->Option Pg}{g:Pg}{v:Option Pg}
theorem Tv.smp(t:Tv y k p):Mine.smp y s=p s:=by rcases t with rfl |⟨rfl,rfl⟩<;>rfl
theorem Tv.bgp(t:Tv y k p):Mine.bgp y=none:=by rcases t with rfl |⟨rfl,_⟩<;>rfl
theorem Tv.tl(t:Tv y k p):M8 y n c=(p (n %4)).bind λg=>match nay c g.f with |true=>none |false=>some g.c:=by rcases t with rfl |⟨rfl,rfl⟩<;>rfl
theorem b70{n n':Nat}(h:n'/4=n/4)(hn:n'≠n):n' %4≠n %4:=λc=>hn (by rw[<-Nat.div_add_mod n' 4,h,c,Nat.div_add_mod])
theorem a23{s':Nat}(h:s'≠s):s8 p s v s'=p s':=if_neg h
theorem b01:s8 p s v s=v:=if_pos rfl
theorem b4z(t:Tv (X r (n/4)) k p){r' n' k':Nat}(hn:n'≠n):M8 (o5 X r (n/4) (.tab k (s8 p (n %4) v)) r' (n'/4)) n' k'=M8 (X r' (n'/4)) n' k':=by
 by_cases c:r'=r/\n'/4=n/4
 ·rw[c.1,c.2,n5,t.tl]
  show(s8 p (n %4) v (n' %4)).bind _=_;rw[a23 (b70 c.2 hn)];first |done |rfl
 ·rw[m8 c]
theorem Ow.small_s(Q:Ow x O L)(hn:n<16)(t:Tv (x (n/4)) k p){O':List (Int×AV)}(h: ∀j:Int,a9 O' j=if j=(n:Nat)then v.map vl else a9 O j):(∀n':Nat,n'<16->a9 O' (n':Int)=(smp (a03 x (n/4) (.tab k (s8 p (n %4) v)) (n'/4)) (n' %4)).map vl)/\ ∀f:Nat,f<4->a9 O' ((f:Int)-100)=(bgp (a03 x (n/4) (.tab k (s8 p (n %4) v)) f)).map vl:=by
 refine⟨λn' hn'=> ?_,λf hf=> ?_⟩
 ·rw[h]
  by_cases c:n'=n
  ·rw[c,if_pos rfl,y2]
   show _=(s8 p (n %4) v (n %4)).map vl;rw[b01]
  ·rw[if_neg (show ¬((n':Nat):Int)=((n:Nat):Int)from λz=>c (Int.ofNat.inj z)),Q.s n' hn']
   by_cases c2:n'/4=n/4
   ·rw[c2,y2,t.smp]
    show _=(s8 p (n %4) v (n' %4)).map vl;rw[a23 (b70 c2 c)]
   ·rw[D0 c2]
 ·rw[h,if_neg (b5y hf).symm,Q.b f hf]
  by_cases c:f=n/4
  ·rw[c,y2,t.bgp];rfl
  ·rw[D0 c]
theorem Ow.set(Q:Ow x O L)(hn:n<16)(t:Tv (x (n/4)) k p):Ow (a03 x (n/4) (.tab k (s8 p (n %4) (some g)))) (i5 O (n:Nat) (vl g)) (a3a L (n/4)):=by
 obtain⟨h1,h2⟩:=Q.small_s (v:=some g) hn t (O':=i5 O (n:Nat) (vl g)) λj=>I5;refine⟨h1,h2,λq hq=> ?_,a0g Q.N,λf hf=> ?_⟩
 ·rcases P2 hq with hq |rfl
  ·exact Q.K q hq
  ·exact⟨n,hn, .inl rfl⟩
 ·rw[b7c,Q.m f hf]
  by_cases c:f=n/4
  ·rw[c,y2,BEq.rfl,Bool.or_true];rfl
  ·rw[D0 c,beq_eq_false_iff_ne.mpr (Ne.symm c),Bool.or_false]
theorem Ow.pop(Q:Ow x O L)(hn:n<16)(t:x (n/4)= .tab k p):Ow (a03 x (n/4) (.tab k (s8 p (n %4) none))) (o8 O (n:Nat)) L:=by
 obtain⟨h1,h2⟩:=Q.small_s (v:=none) hn (.inl t) (O':=o8 O (n:Nat)) λj=>J5 O;refine⟨h1,h2,λq hq=>Q.K q (c1o hq),a82 Q.N,λf hf=> ?_⟩;rw[Q.m f hf]
 by_cases c:f=n/4
 ·rw[c,y2,t];rfl
 ·rw[D0 c]
theorem Ow.move(Q:Ow x O L)(hn:n<16)(t:x (n/4)= .tab k p):Ow (a03 x (n/4) (.tab k (s8 p (n %4) (some g)))) (i5 O (n:Nat) (vl g)) (a3a L (n/4)):=Q.set hn (.inl t)
theorem Ow.bigs(Q:Ow x O L)(hf:f<4)(t:x f= .no):Ow (a03 x f (.big g)) (i5 O ((f:Int)-100) (vl g)) L:=by
 refine⟨λn hn=> ?_,λf' hf'=> ?_,λq hq=> ?_,a0g Q.N,λf' hf'=> ?_⟩
 ·rw[I5,if_neg (b5y hf),Q.s n hn]
  by_cases c:n/4=f
  ·rw[c,y2,t];rfl
  ·rw[D0 c]
 ·rw[I5]
  by_cases c:f'=f
  ·rw[c,if_pos rfl,y2];rfl
  ·rw[if_neg (show ¬((f':Nat):Int)-100=((f:Nat):Int)-100 from λz=>c (c4p z)),D0 c,Q.b f' hf']
 ·rcases P2 hq with hq |rfl
  ·exact Q.K q hq
  ·exact⟨f,Nat.lt_trans hf (by decide), .inr rfl⟩
 ·rw[Q.m f' hf']
  by_cases c:f'=f
  ·rw[c,y2,t];rfl
  ·rw[D0 c]
end
end
section
section
variable{C:Cx}{l:Loc}{J:H}{o e i:ME}{v:AV}{D:List (Int×AV)}{A:List AV}{n:Int}{id:Nat}
theorem d2l(ho:a6 C l o J= .ok (.obj id) J)(h:J[id]? =some (.idict D))(ha:a6 C l e J= .ok (.int n) J)(hf:n9 D.length=true)(hv:a9 D n=some v):a6 C l (.meth o 3 (.cons e .nil)) J= .ok v (J.set id (.idict (o8 D n))):=by
 refine c8 ho ?_;show opI (g9 R.bad (s6 J[id]? 3) λb=>R.bind _ λvs ae=>c6 .bad (s6 ae[id]? 3==some b) (a0k id 3 vs ae)) J[id]? _=_;rw[h];refine c8 (x:=[.int n]) (ae:=J) (c8 ha rfl) ?_;show c6 R.bad (s6 J[id]? 3==some "dict.pop") (c24 id J [.int n])=_;unfold c24;rw[h];show c6 R.bad true (c6 R.bad (n9 D.length) (g9 R.bad (a9 D n) _))=_;rw[hf,hv];rfl
theorem app1(ho:a6 C l o J= .ok (.obj id) J)(h:J[id]? =some (.list A))(ha:a6 C l e J= .ok v J)(hf:n9 A.length=true):a6 C l (.meth o 0 (.cons e .nil)) J= .ok .none (J.set id (.list (A++[v]))):=by
 refine c8 ho ?_;show opI (g9 R.bad (s6 J[id]? 0) λb=>R.bind _ λvs ae=>c6 .bad (s6 ae[id]? 0==some b) (a0k id 0 vs ae)) J[id]? _=_;rw[h];refine c8 (x:=[v]) (ae:=J) (c8 ha rfl) ?_;show c6 R.bad (s6 J[id]? 0==some "list.append") (W8 id J [v])=_;unfold W8;rw[h];show c6 R.bad true (c6 R.bad (n9 A.length) _)=_;rw[hf];rfl
theorem sii(ho:a6 C l o J= .ok (.obj id) J)(hi:a6 C l i J= .ok (.int n) J)(h:J[id]? =some (.idict D))(hf:n9 D.length=true):v5 C v (.idx o i) l J= .ok l (J.set id (.idict (i5 D n v))):=by
 refine c8 ho (c8 hi ?_);show g9 R.bad (W6 (W9 _ J[id]? _) J[id]? _) _=_;rw[h];show g9 R.bad (c6 none (n9 D.length) _) _=_;rw[hf];rfl
theorem c63{L:List Int}(h:J[id]? =some (.list (L.map .int))):w0 .notIn (.int n) (.obj id) J= .ok (.bool (!has L n)) J:=by
 show a0a (w0 .isIn (.int n) (.obj id) J)=_;rw[c75 h];rfl
end
section
variable{O:List (Int×AV)}{L:List Int}{J τ:H}{m j w mm wy n c:Nat}{ro rr:Int}{lg:Bool}{C:Cx}
theorem fd4:((n:Nat):Int).fdiv 4=((n/4:Nat):Int):=H3 (m:=4)
theorem d1m(hC:C.T=TT)(h:J[w]? =some (.idict O))(h2:J[mm]? =some (.list (L.map .int)))(hw:wy<4):a6 C (s9 ro w mm (wy:Nat) (n:Nat) rr j lg) (.ite (.of (.cmp .eq (.loc 167) (.int 3))) (.cmp .isIn (.bin .fdiv (.loc 42) (.int 4)) (.loc 188)) (.cmp .eq (.cmp .isIn (.loc 42) (.loc 140)) (.cmp .eq (.loc 167) (.int 0)))) J= .ok (.bool (cB wy (has L ((n/4:Nat):Int)) (a9 O (n:Nat)).isSome)) J:=by
 rcases Nat.lt_succ_iff_lt_or_eq.mp hw with hw |rfl
 ·exact a96 (lt3 hw (by kernel_rfl) (by kernel_rfl) (by kernel_rfl)) ((d4r hC h hw).trans (by rw[fd4]))
 ·refine c1y (by kernel_rfl) (c8 (x:= .int ((n/4:Nat):Int)) (ae:=J) (j6 (x:=(n:Int)) (y:=4) (by kernel_rfl) (by kernel_rfl) ((show a1q .fdiv (n:Int) 4=some ((n:Int).fdiv 4)by kernel_rfl).trans (by rw[fd4]))) (c8 (x:= .obj mm) (ae:=J) (by kernel_rfl) (c75 h2)))
theorem d15(h:J[w]? =some (.idict O))(h2:J[mm]? =some (.list (L.map .int)))(hw:wy<4)(hc:cB wy (has L ((n/4:Nat):Int)) (a9 O (n:Nat)).isSome=false):tstE (cm m) (s9 ro w mm (wy:Nat) (n:Nat) rr j false) (.ops false (.cons (.of (.loc 189)) (.cons (.ite (.of (.cmp .eq (.loc 167) (.int 3))) (.of (.cmp .isIn (.bin .fdiv (.loc 42) (.int 4)) (.loc 188))) (.of (.cmp .eq (.cmp .isIn (.loc 42) (.loc 140)) (.cmp .eq (.loc 167) (.int 0))))) .nil))) J= .ok false J:=by
 refine m6 (b:=false) (by kernel_rfl) rfl (m6 (b:=false) ?_ rfl rfl);rcases Nat.lt_succ_iff_lt_or_eq.mp hw with hw |rfl
 ·exact c8 (x:=false) (ae:=J) (lt3 hw (by kernel_rfl) (by kernel_rfl) (by kernel_rfl)) (ofB (d4r rfl h hw) (by rw[fd4];exact hc))
 ·exact c8 (x:=true) (ae:=J) (by kernel_rfl) (cmi (x:= .int ((n/4:Nat):Int)) (y:= .obj mm) (j6 (x:=(n:Int)) (y:=4) (by kernel_rfl) (by kernel_rfl) ((show a1q .fdiv (n:Int) 4=some ((n:Int).fdiv 4)by kernel_rfl).trans (by rw[fd4]))) (by kernel_rfl) ((c75 h2).trans (congrArg (λb=>R.ok (AV.bool b) J) hc)))
theorem d4l{id:Nat}(hb:execB (cm m) (bTr b53) (s9 ro w mm (wy:Nat) (n:Nat) rr j lg) J= .exc id (s9 ro w mm (wy:Nat) (n:Nat) rr j lg) τ)(hx:τ[id]? =some (bad c))(h:τ[w]? =some (.idict O))(h2:τ[mm]? =some (.list (L.map .int)))(hw:wy<4)(hc:(lg||cB wy (has L ((n/4:Nat):Int)) (a9 O (n:Nat)).isSome)=true):
  execB (cm m) (tl (tl b53)) (s9 ro w mm (wy:Nat) (n:Nat) rr j lg) J= .ret (.bool true) τ:=by
 have st:τ.set id (AO.exc 8 (w5 (.str c)) true)=τ:=by
  obtain⟨hi,e⟩:=List.getElem?_eq_some_iff.mp hx;rw[show AO.exc 8 (w5 (.str c)) true=bad c from rfl, <-e,List.set_getElem_self]
 refine d0s (l':=λ_=> .undef) (ae:=τ) (c:=8) (d:=8) (g:=w5 (.str c)) (z:=true) hb hx (by kernel_rfl) (by kernel_rfl) ?_;rw[st];have e0: ∀C:Cx,a6 C (s9 ro w mm (wy:Nat) (n:Nat) rr j lg) (.loc 189) τ= .ok (.bool lg) τ:=λC=>by kernel_rfl
 refine rt ?_;cases lg with
 |true=>exact a3q (k:=false) (b:=true) (e0 _) rfl
 |false=>exact b1n (k:=false) (b:=false) (e0 _) rfl (W4 ((d1m rfl h h2 hw).trans (by rw[show cB wy (has L ((n/4:Nat):Int)) (a9 O (n:Nat)).isSome=true from hc])))
theorem b9o{z:RS}(hb:execB (cm m) (bTr b53) (s9 ro w mm (wy:Nat) (n:Nat) rr j false) J= .next (s9 ro w mm (wy:Nat) (n:Nat) rr j false) τ)(h:τ[w]? =some (.idict O))(h2:τ[mm]? =some (.list (L.map .int)))(hw:wy<4)(hc:cB wy (has L ((n/4:Nat):Int)) (a9 O (n:Nat)).isSome=false)
  (hz:execB (cm m) (tl (tl (tl (tl b53)))) (s9 ro w mm (wy:Nat) (n:Nat) rr j false) τ=z):execB (cm m) (tl (tl b53)) (s9 ro w mm (wy:Nat) (n:Nat) rr j false) J=z:=
 b1w hb (iz (d15 h h2 hw hc) hz)
theorem c8q{v:AV}(h:τ[w]? =some (.idict O))(hf:n9 O.length=true)(hv:a9 O (n:Nat)=some v):execB (cm m) (tl (tl (tl (tl b53)))) (s9 ro w mm ((1:Nat):Int) (n:Nat) rr j false) τ= .ret (.bool true) (τ.set w (.idict (o8 O (n:Nat)))):=
 ift (ae:=τ) (aq:=s9 ro w mm ((1:Nat):Int) (n:Nat) rr j false) (af:=τ.set w (.idict (o8 O (n:Nat)))) (by kernel_rfl) (ex (v:=v) (d2l (by kernel_rfl) h (by kernel_rfl) hf hv) rfl) (rt (by kernel_rfl))
theorem d0u{q:Nat}(hq:rr.fmod 13=(q:Nat))(h:τ[w]? =some (.idict O))(hf:n9 O.length=true):execB (cm m) (tl (tl (tl (tl b53)))) (s9 ro w mm ((3:Nat):Int) (n:Nat) rr j false) τ= .ret (.bool true) (τ.set w (.idict (i5 O (((n/4:Nat):Int)-100) (.tup [.int (64*(q:Int)), .int (L9 j)])))):=by
 refine iff (ae:=τ) (aq:=s9 ro w mm ((3:Nat):Int) (n:Nat) rr j false) (af:=τ.set w (.idict (i5 O (((n/4:Nat):Int)-100) (.tup [.int (64*(q:Int)), .int (L9 j)])))) (by kernel_rfl)
  (ift (ae:=τ) (aq:=s9 ro w mm ((3:Nat):Int) (n:Nat) rr j false) (af:=τ.set w (.idict (i5 O (((n/4:Nat):Int)-100) (.tup [.int (64*(q:Int)), .int (L9 j)])))) (by kernel_rfl) (H8 (v:= .tup [.int (64*(q:Int)), .int (L9 j)]) (ae:=τ) (l':=s9 ro w mm ((3:Nat):Int) (n:Nat) rr j false) ?_ (sii (by kernel_rfl) (j6 (x:=((n/4:Nat):Int)) (y:=100) (j6 (x:=(n:Int)) (y:=4) (by kernel_rfl) (by kernel_rfl) ((show a1q .fdiv (n:Int) 4=some ((n:Int).fdiv 4)by kernel_rfl).trans (by rw[fd4]))) (by kernel_rfl) rfl) h hf) rfl) rfl) (rt (by kernel_rfl))
 exact Eq.trans (b:= .ok (.tup [.int (64*rr.fmod 13), .int (L9 j)]) τ) (by kernel_rfl) (by rw[hq])
theorem c70{c:Nat}(hwy:wy=0\/wy=2)(hc:rr.fmod 55=(c:Nat))(h:τ[w]? =some (.idict O))(h2:τ[mm]? =some (.list (L.map .int)))(hn:mm≠w)(hf:n9 O.length=true)(hL:n9 L.length=true):
  execB (cm m) (tl (tl (tl (tl b53)))) (s9 ro w mm (wy:Nat) (n:Nat) rr j false) τ= .ret (.bool true) ((τ.set w (.idict (i5 O (n:Nat) (.tup [.int (16*(c:Int)), .int (L9 j)])))).set mm (.list ((a3a L (n/4)).map .int))):=by
 obtain⟨bB,cO⟩: ∃bB,τ.set w (.idict (i5 O (n:Nat) (.tup [.int (16*(c:Int)), .int (L9 j)])))=bB:=⟨_,rfl⟩
 have h2':bB[mm]? =some (.list (L.map .int)):=by rw[<-cO,List.getElem?_set_ne hn.symm];exact h2
 have ef: ∀J:H,a6 (cm m) (s9 ro w mm (wy:Nat) (n:Nat) rr j false) (.bin .fdiv (.loc 42) (.int 4)) J= .ok (.int ((n/4:Nat):Int)) J:=λJ=>j6 (x:=(n:Int)) (y:=4) (by kernel_rfl) (by kernel_rfl) ((show a1q .fdiv (n:Int) 4=some ((n:Int).fdiv 4)by kernel_rfl).trans (by rw[fd4]));have ev:a6 (cm m) (s9 ro w mm (wy:Nat) (n:Nat) rr j false) (.tup (.cons (.loc 38) (.cons (.loc 48) .nil))) τ= .ok (.tup [.int (16*(c:Int)), .int (L9 j)]) τ:=Eq.trans (b:= .ok (.tup [.int (16*rr.fmod 55), .int (L9 j)]) τ) (by kernel_rfl) (by rw[hc]);have et:tstE (cm m) (s9 ro w mm (wy:Nat) (n:Nat) rr j false) (.of (.cmp .notIn (.bin .fdiv (.loc 42) (.int 4)) (.loc 188))) bB= .ok (!has L ((n/4:Nat):Int)) bB:=cmi (ef bB) (by kernel_rfl) (c63 h2');have fin:execB (cm m) (.cons (.ifS (.of (.cmp .notIn (.bin .fdiv (.loc 42) (.int 4)) (.loc 188))) (.cons (.expr (.meth (.loc 188) 0 (.cons (.bin .fdiv (.loc 42) (.int 4)) .nil))) .nil) .nil) .nil) (s9 ro w mm (wy:Nat) (n:Nat) rr j false) bB= .next (s9 ro w mm (wy:Nat) (n:Nat) rr j false) (bB.set mm (.list ((a3a L (n/4)).map .int))):=by
  unfold a3a;cases hh:has L ((n/4:Nat):Int)with
  |true=>
   refine if0 (ae:=bB) (et.trans (by rw[hh];rfl)) ?_;obtain⟨hi,e⟩:=List.getElem?_eq_some_iff.mp h2';show RS.next _ bB=RS.next _ (bB.set mm (.list (L.map .int)));rw[<-e,List.set_getElem_self]
  |false=>
   refine ift (ae:=bB) (aq:=s9 ro w mm (wy:Nat) (n:Nat) rr j false) (af:=bB.set mm (.list ((L++[((n/4:Nat):Int)]).map .int))) (et.trans (by rw[hh];rfl)) ?_ rfl;rw[List.map_append];exact ex (v:= .none) (app1 (by kernel_rfl) h2' (ef bB) (by rw[List.length_map];exact hL)) rfl
 rw[cO];rcases hwy with rfl |rfl
 ·exact iff (ae:=τ) (by kernel_rfl) (iff (ae:=τ) (by kernel_rfl) (H8 ev (sii (by kernel_rfl) (by kernel_rfl) h hf) (by rw[cO];exact fin)) rfl) (rt (by kernel_rfl))
 ·exact iff (ae:=τ) (by kernel_rfl) (iff (ae:=τ) (by kernel_rfl) (H8 ev (sii (by kernel_rfl) (by kernel_rfl) h hf) (by rw[cO];exact fin)) rfl) (rt (by kernel_rfl))
end
end
section
structure St2 (d:List (Int×AV)) (u:Nat) (G:List (Int×AV)) (aa:H) (W:Int->Int) (X:Sx) (j:Nat):Prop where
 S:Sp2 d u W X
 dl:d.length<=12*j+20
 gl:G.length<=j+2
 ow: ∀r,r<2-> ∃O L,aa[2+r]? =some (AO.idict O)/\aa[4+r]? =some (AO.list (L.map .int))/\Ow (X r) O L/\O.length<=j/\L.length<=j+2
section
variable{d d' G G' O O':List (Int×AV)}{L L':List Int}{aa rest':H}{W W':Int->Int}{X:Sx}{r f k s j u u' n o m w c fl q Rn way:Nat}{x y:Fs}{p:Nat->Option Pg}{g:Pg}
theorem St2.keep(T:St2 d u G aa W X j)(K:Keep aa rest'):St2 d u G rest' W X j:=⟨T.S,T.dl,T.gl,λr hr=>by
 obtain⟨O,L,h1,h2,h3⟩:=T.ow r hr;exact⟨O,L,K.d _ _ h1,K.l _ _ h2,h3⟩⟩
theorem St2.up(T:St2 d u G aa W X j):St2 d u G aa W X (j+1):=⟨T.S,Nat.le_trans T.dl (by lia),Nat.le_succ_of_le T.gl,λr hr=>by
 obtain⟨O,L,h1,h2,h3,h4,h5⟩:=T.ow r hr;exact⟨O,L,h1,h2,h3,Nat.le_succ_of_le h4,Nat.le_succ_of_le h5⟩⟩
theorem i24{r r':Nat}(h:r<2):2+r≠4+r':=λc=>by lia
theorem St2.put(T:St2 d u G aa W X j)(hr:r<2)(h:aa[2+r]? =some (AO.idict O))(h2:aa[4+r]? =some (AO.list (L.map .int)))(S':Sp2 d' u' W' (o5 X r f y))(dl:d'.length<=d.length+10)(gl:G'.length<=G.length+1)
  (Q:Ow (a03 (X r) f y) O' L')(ol:O'.length<=j+1)(ll:L'.length<=j+3):St2 d' u' G' ((aa.set (2+r) (.idict O')).set (4+r) (.list (L'.map .int))) W' (o5 X r f y) (j+1):=by
 refine⟨S',Nat.le_trans dl (Nat.le_trans (Nat.add_le_add_right T.dl 10) (by lia)),Nat.le_trans gl (Nat.succ_le_succ T.gl),λr' hr'=> ?_⟩;have hl:(aa.set (2+r) (AO.idict O'))[4+r]? =some (AO.list (L.map .int)):=by rw[List.getElem?_set_ne (i24 hr)];exact h2
 by_cases c:r'=r
 ·subst c
  refine⟨O',L', ?_,B6 hl,by rw[b76];exact Q,ol,ll⟩;rw[List.getElem?_set_ne (i24 hr).symm];exact B6 h
 ·obtain⟨O1,L1,h3,h4,h5,h6,h7⟩:=T.ow r' hr'
  refine⟨O1,L1, ?_, ?_,by rw[a9l c];exact h5,Nat.le_succ_of_le h6,Nat.le_succ_of_le h7⟩
  ·rw[List.getElem?_set_ne (i24 hr').symm,List.getElem?_set_ne λe=>c (Nat.add_left_cancel e).symm];exact h3
  ·rw[List.getElem?_set_ne λe=>c (Nat.add_left_cancel e).symm,List.getElem?_set_ne (i24 hr)];exact h4
inductive Deed (d:List (Int×AV)) (u:Nat) (G:List (Int×AV)) (aa:H) (X:Sx) (r n Rn way m j:Nat):Prop
 |mk (d':List (Int×AV)) (u':Nat) (G':List (Int×AV)) (r1:H) (W':Int->Int) (X':Sx)
   (call:a7 TT m 53 (deA (ro r) (2+r+10) (4+r+10) (way:Nat) (n:Nat) (Rn:Nat)) (hp d (u:Nat) G aa)= .ok (.bool true) (hp d' (u':Nat) G' r1))
   (S:St2 d' u' G' r1 W' X' (j+1))
   (K: ∀(i:Nat)(o:AO),(∀l,o≠AO.list l)->(∀D,o≠AO.idict D)->aa[i]? =some o->r1[i]? =some o)
   (ag: ∀r' n' k c,n'≠n->M8 (X r' (n'/4)) n' k=some c->M8 (X' r' (n'/4)) n' k=some c)
theorem keep2{a b:AO}(h:aa[2+r]? =some (AO.idict O))(h2:aa[4+r]? =some (AO.list (L.map .int)))(hr:r<2){i:Nat}{o:AO}(hl: ∀l,o≠AO.list l)(hd: ∀D,o≠AO.idict D)(e:aa[i]? =some o):((aa.set (2+r) a).set (4+r) b)[i]? =some o:=by
 have e1:=v3 (b:=a) e h (hd _);have e2:(aa.set (2+r) a)[4+r]? =some (AO.list (L.map .int)):=by rw[List.getElem?_set_ne (i24 hr)];exact h2
 exact v3 e1 e2 (hl _)
theorem b6u{α:Type}{l:List α}{i:Nat}{x:α}(h:l[i]? =some x):l.set i x=l:=by
 obtain⟨hi,e⟩:=List.getElem?_eq_some_iff.mp h;rw[<-e,List.set_getElem_self]
theorem P1{z:RS}(Q:Ow (X r) O L)(hn:n<16)(h:aa[2+r]? =some (AO.idict O))(hz:execB (cm m) (tl (tl b53)) (s9 (ro r) (2+r+10) (4+r+10) (way:Nat) (n:Nat) (Rn:Nat) (Rn/55 %5) (bgp (X r (n/4))).isSome) (hp d (u:Nat) G aa)=z):
  execB (cm m) b53 (bl r53 (deA (ro r) (2+r+10) (4+r+10) (way:Nat) (n:Nat) (Rn:Nat))) (hp d (u:Nat) G aa)=z:=by
 have hv:a9 O ((n:Int).fdiv 4-100)=(bgp (X r (n/4))).map vl:=by rw[fd4];exact Q.b _ (q4 hn)
 have hx:((Rn:Int).fdiv 55).fmod 5=((Rn/55 %5:Nat):Int):=by rw[show(Rn:Int).fdiv 55=((Rn/55:Nat):Int)from H3 (m:=55)];exact u7 (m:=5)
 have hj:Rn/55 %5<5:=Nat.mod_lt _ (by decide);cases e:bgp (X r (n/4))with
 |none=>
  rw[e]at hv hz;exact c1t (w:=2+r) (v:= .none) hj hx h (by rw[hv];rfl) (by kernel_rfl) hz
 |some g=>
  rw[e]at hv hz;exact c1t (w:=2+r) (v:=vl g) hj hx h (by rw[hv];rfl) (by kernel_rfl) hz
theorem a6y{i:Nat}{J:H}{v:R AV}(h:a7 TT m i [.obj 9, .int (ro r), .int (16*n:Nat), .int (16*(Rn %55):Nat), .int (flN (Rn/55 %5):Nat)] J=v):a7 TT m i [.obj 9, .int (ro r), .int (16*(n:Int)), .int (16*(Rn:Int).fmod 55), .int (L9 (Rn/55 %5))] J=v:=by
 rw[show(Rn:Int).fmod 55=((Rn %55:Nat):Int)from u7 (m:=55),b0e (Nat.mod_lt _ (by decide))];exact h
theorem c5b{J:H}{v:R AV}(h:a7 TT m 36 (mlA (ro r) (64*((n/4:Nat):Int)) (64*((Rn %13:Nat):Int)) (flN (Rn/55 %5):Nat)) J=v):a7 TT m 36 [.obj 9, .int (ro r), .int (64*(n:Int).fdiv 4), .int (64*(Rn:Int).fmod 13), .int (L9 (Rn/55 %5))] J=v:=by
 rw[show(Rn:Int).fmod 13=((Rn %13:Nat):Int)from u7 (m:=13),b0e (Nat.mod_lt _ (by decide)),fd4];exact h
theorem P0(T:St2 d u G aa W X j)(hr:r<2)(hn:n<16)(hw:way<4)(h:aa[2+r]? =some (AO.idict O))(h2:aa[4+r]? =some (AO.list (L.map .int)))(Q:Ow (X r) O L)
  (hb:execB (cm m) (bTr b53) (s9 (ro r) (2+r+10) (4+r+10) (way:Nat) (n:Nat) (Rn:Nat) (Rn/55 %5) (bgp (X r (n/4))).isSome) (hp d (u:Nat) G aa)= .exc (aa.length+10) (s9 (ro r) (2+r+10) (4+r+10) (way:Nat) (n:Nat) (Rn:Nat) (Rn/55 %5) (bgp (X r (n/4))).isSome) (hp d (u:Nat) G (aa++[bad c])))
  (hc:((bgp (X r (n/4))).isSome||cB way (isT (X r (n/4))) (smp (X r (n/4)) (n %4)).isSome)=true):Deed d u G aa X r n Rn way (m+1) j:=by
 refine .mk d u G (aa++[bad c]) W X (d6 r53 (by rfl) (by rfl) (P1 Q hn h (d4l (τ:=hp d (u:Nat) G (aa++[bad c])) (O:=O) (L:=L) hb (j7 (J:=aa)) (i9 h) (i9 h2) hw ?_))) (T.keep .app).up (λi o _ _ e=>i9 e) (λ_ _ _ _ _ e=>e);rw[Q.m _ (q4 hn),Q.s n hn];cases e:smp (X r (n/4)) (n %4)<;>rw[e]at hc<;>exact hc
end
end
section
section
variable{d d' G G' O O':List (Int×AV)}{L L':List Int}{aa rest':H}{W W':Int->Int}{X:Sx}{r f k s j u u' n o m w c fl q Rn way:Nat}{x y:Fs}{p:Nat->Option Pg}{g:Pg}
theorem b3q(h:O.length<=j)(hj:j<=35):n9 O.length=true:=decide_eq_true (Nat.le_trans h (Nat.le_trans hj (by decide)))
theorem b75(T:St2 d u G aa W X j)(hj:j<=35):d.length<=450:=Nat.le_trans T.dl (Nat.le_trans (Nat.add_le_add_right (Nat.mul_le_mul_left 12 hj) 20) (by decide))
theorem m55:Rn %55<64:=Nat.lt_of_lt_of_le (Nat.mod_lt _ (by decide)) (by decide)
theorem cB0{a b:Bool}:cB 0 a b=b:=rfl
theorem a6h(T:St2 d u G aa W X j)(hj:j<=35)(hr:r<2)(hn:n<16)(hwy:way=0\/way=2)(h:aa[2+r]? =some (AO.idict O))(h2:aa[4+r]? =some (AO.list (L.map .int)))(Q:Ow (X r) O L)(ol:O.length<=j)(ll:L.length<=j+2)
  (t:Tv (X r (n/4)) k p)(hc:cB way (isT (X r (n/4))) (smp (X r (n/4)) (n %4)).isSome=false)
  (S':Sp2 d' u' W' (o5 X r (n/4) (.tab k (s8 p (n %4) (some ⟨Rn %55,flN (Rn/55 %5)⟩)))))(dl:d'.length<=d.length+10)(gl:G'.length<=G.length+1)
  (hb:execB (cm m) (bTr b53) (s9 (ro r) (2+r+10) (4+r+10) (way:Nat) (n:Nat) (Rn:Nat) (Rn/55 %5) false) (hp d (u:Nat) G aa)= .next (s9 (ro r) (2+r+10) (4+r+10) (way:Nat) (n:Nat) (Rn:Nat) (Rn/55 %5) false) (hp d' (u':Nat) G' aa)):
  Deed d u G aa X r n Rn way (m+1) j:=by
 have hw:way<4:=by rcases hwy with rfl |rfl<;>decide
 have hc':cB way (has L ((n/4:Nat):Int)) (a9 O (n:Nat)).isSome=false:=by
  rw[Q.m _ (q4 hn),Q.s n hn];cases e:smp (X r (n/4)) (n %4)<;>rw[e]at hc<;>exact hc
 have ex:=b9o (O:=O) (L:=L) hb (show(hp d' (u':Nat) G' aa)[2+r+10]? =_ from h) (show(hp d' (u':Nat) G' aa)[4+r+10]? =_ from h2) hw hc'
  (c70 hwy (show(Rn:Int).fmod 55=((Rn %55:Nat):Int)from u7 (m:=55)) h h2 (λe=>i24 (r:=r) (r':=r) hr (Nat.add_right_cancel e).symm) (b3q ol hj) (decide_eq_true (Nat.le_trans ll (Nat.le_trans (Nat.add_le_add_right hj 2) (by decide)))))
 rw[b0e (Nat.mod_lt _ (by decide))]at ex;have al:(a3a L (n/4)).length<=j+3:=by
  unfold a3a;cases has L ((n/4:Nat):Int)with
  |true=>exact Nat.le_succ_of_le ll
  |false=>show(L++[_]).length<=_;rw[List.length_append];exact Nat.succ_le_succ ll
 have B0:bgp (X r (n/4))=none:=t.bgp;refine .mk d' u' G' _ W' _ (d6 Mine.r53 (by rfl) (by rfl) (P1 Q hn h (by rw[B0];exact ex))) (T.put hr h h2 S' dl gl (Q.set hn t) (Nat.le_trans x7 (Nat.succ_le_succ ol)) al) (λi o hl hd e=>keep2 h h2 hr hl hd e) (λr' n' k' c' hn' e=> ?_);rw[b4z t hn'];exact e
theorem deed(T:St2 d u G aa W X j)(hj:j<=35)(hr:r<2)(hn:n<16)(hw:way<4):Deed d u G aa X r n Rn way (m+8) j:=by
 obtain⟨O,L,h,h2,Q,ol,ll⟩:=T.ow r hr;have F:=f0_n (j:=Rn/55 %5) (Nat.mod_lt _ (by decide));have c64':Rn %55<64:=m55;have q13:Rn %13<13:=Nat.mod_lt _ (by decide);have dl:=b75 T hj;have dl':d.length<=500:=Nat.le_trans dl (by decide);have gl:G.length<=400:=Nat.le_trans T.gl (Nat.le_trans (Nat.add_le_add_right hj 2) (by decide));refine c90 (P:=λway=>Deed d u G aa X r n Rn way (m+8) j) hw ?_ ?_ ?_ ?_
 ·cases e:smp (X r (n/4)) (n %4)with
  |some g=>exact P0 T hr hn (by decide) h h2 Q (c44 (a6y (c54 (m:=m+2) T.S F c64' hr hn (.inl (by rw[e];rfl)))) rfl) (by rw[cB0,e];exact Bool.or_true _)
  |none=>
   cases e2:bgp (X r (n/4))with
   |some g=>
    have:=P0 (way:=0) (Rn:=Rn) (m:=m+7) (c:=101) T hr hn (by decide) h h2 Q (c44 (a6y (c54 (m:=m+2) T.S F c64' hr hn (.inr (by rw[e2];rfl)))) rfl) (by rw[e2];rfl);exact this
   |none=>
    obtain⟨d',u',G',W',k,p,call,t,S',dl1,gl1⟩:=c6i (m:=m) T.S F c64' hr hn dl gl e e2;exact a6h T hj hr hn (.inl rfl) h h2 Q ol ll t (by rw[cB0,e];rfl) S' dl1 gl1 (de_0 (a6y call) rfl)
 ·cases e:smp (X r (n/4)) (n %4)with
  |none=>
   obtain⟨c,hc⟩:=c3w (m:=m+2) (P:= .inst 2 (E6 (u:Nat))) (Gv:= .list []) (Hv:= .idict G) (aa:=aa) T.S.I hr hn e;exact P0 T hr hn (by decide) h h2 Q (d4q hc rfl) (by rw[e];exact Bool.or_true _)
  |some g=>
   cases ex:X r (n/4)with
   |no=>rw[ex]at e;cases e
   |big g=>rw[ex]at e;cases e
   |tab k p=>
    have e':=e;rw[ex]at e';obtain⟨q,I'⟩:=a25 (m:=m+2) (P:= .inst 2 (E6 (u:Nat))) (Gv:= .list []) (Hv:= .idict G) (aa:=aa) T.S.I hr hn ex e' dl';have hd:a9 O (n:Nat)=some (vl g):=by rw[Q.s n hn,e];rfl
    have t:Tv (X r (n/4)) k p:= .inl ex;have B0:bgp (X r (n/4))=none:=t.bgp;have xx:=b9o (J:=hp d (u:Nat) G aa) (O:=O) (L:=L) (ro:=ro r) (rr:=(Rn:Nat)) (j:=Rn/55 %5) (wy:=1) (n:=n) (w:=2+r+10) (mm:=4+r+10) (de_1 q rfl) h h2 (by decide) (by rw[hd];rfl) (c8q h (b3q ol hj) hd);have S':=T.S.upd hr (q4 hn) I' (by rw[ex];rfl) λk' p' e'=>by cases e';exact T.S.uk _ _ _ _ hr (q4 hn) ex
    have T':=T.put (G':=G) hr h h2 S' (Nat.le_trans g8 (Nat.add_le_add_left (by decide) _)) (Nat.le_succ _) (Q.pop hn ex) (Nat.le_trans a4i (Nat.le_succ_of_le ol)) (Nat.le_succ_of_le ll);have hl:(aa.set (2+r) (AO.idict (o8 O (n:Nat))))[4+r]? =some (AO.list (L.map .int)):=by rw[List.getElem?_set_ne (i24 hr)];exact h2
    have K: ∀(i:Nat)(o:AO),(∀l,o≠AO.list l)->(∀D,o≠AO.idict D)->aa[i]? =some o->((aa.set (2+r) (AO.idict (o8 O (n:Nat)))).set (4+r) (AO.list (L.map .int)))[i]? =some o:=λi o hl hd e=>keep2 h h2 hr hl hd e;rw[b6u hl]at T' K;refine .mk _ u G _ _ _ (d6 Mine.r53 (by rfl) (by rfl) (P1 Q hn h (by rw[B0];exact xx))) T' K (λr' n' k' c' hn' e=> ?_);rw[b4z t hn'];exact e
 ·cases e:smp (X r (n/4)) (n %4)with
  |none=>
   obtain⟨c,hc⟩:=c9s (m:=m+2) (c:=Rn %55) (P:= .inst 2 (E6 (u:Nat))) (Gv:= .list []) (Hv:= .idict G) (aa:=aa) F T.S.I hr hn e;exact P0 T hr hn (by decide) h h2 Q (d3z (a6y hc) rfl) (by rw[e];exact Bool.or_true _)
  |some g=>
   cases ex:X r (n/4)with
   |no=>rw[ex]at e;cases e
   |big g=>rw[ex]at e;cases e
   |tab k p=>
    have e':=e;rw[ex]at e';obtain⟨q,I'⟩:=c95 (m:=m+2) (P:= .inst 2 (E6 (u:Nat))) (Gv:= .list []) (Hv:= .idict G) (aa:=aa) F c64' T.S.I hr hn ex e' dl';have S':=T.S.upd hr (q4 hn) I' (by rw[ex];rfl) λk' p' e'=>by cases e';exact T.S.uk _ _ _ _ hr (q4 hn) ex
    exact a6h T hj hr hn (.inr rfl) h h2 Q ol ll (.inl ex) (by rw[e];rfl) S' (Nat.le_trans g8 (Nat.add_le_add_left (by decide) _)) (Nat.le_succ _) (de_2 (a6y q) rfl)
 ·by_cases ex:X r (n/4)= .no
  ·obtain⟨q,S'⟩:=c1f (m:=m+2) (P:= .inst 2 (E6 (u:Nat))) (Gv:= .list []) (Hv:= .idict G) (aa:=aa) T.S F q13 hr (q4 hn) dl ex
   have B0:bgp (X r (n/4))=none:=by rw[ex];rfl
   have hq:(Rn:Int).fmod 13=((Rn %13:Nat):Int):=u7 (m:=13);have xx:=b9o (J:=hp d (u:Nat) G aa) (O:=O) (L:=L) (ro:=ro r) (rr:=(Rn:Nat)) (j:=Rn/55 %5) (wy:=3) (n:=n) (w:=2+r+10) (mm:=4+r+10) (de_3 (c5b q) rfl) h h2 (by decide) (by rw[Q.m _ (q4 hn),ex];rfl) (d0u hq h (b3q ol hj));rw[b0e (Nat.mod_lt _ (by decide)),f64]at xx;have T':=T.put (G':=G) hr h h2 S' (Nat.le_trans g8 (Nat.add_le_add_left (by decide) _)) (Nat.le_succ _) (Q.bigs (q4 hn) ex) (Nat.le_trans x7 (Nat.succ_le_succ ol)) (Nat.le_succ_of_le ll);have hl: ∀D,(aa.set (2+r) (AO.idict D))[4+r]? =some (AO.list (L.map .int)):=λD=>by rw[List.getElem?_set_ne (i24 hr)];exact h2
   have K: ∀(i:Nat)(o:AO),(∀l,o≠AO.list l)->(∀D,o≠AO.idict D)->aa[i]? =some o->((aa.set (2+r) (AO.idict (i5 O (((n/4:Nat):Int)-100) (vl ⟨4*(Rn %13),flN (Rn/55 %5)⟩)))).set (4+r) (AO.list (L.map .int)))[i]? =some o:=λi o hl hd e=>keep2 h h2 hr hl hd e;rw[b6u (hl _)]at T' K;refine .mk _ u G _ _ _ (d6 Mine.r53 (by rfl) (by rfl) (P1 Q hn h (by rw[B0];exact xx))) T' K (λr' n' k' c' hn' e=> ?_)
   by_cases c:r'=r/\n'/4=n/4
   ·rw[c.1,c.2,ex]at e;cases e
   ·rw[m8 c];exact e
  ·refine P0 T hr hn (by decide) h h2 Q (d4v (c5b (c0o (m:=m+2) T.S F hr (q4 hn) ex)) rfl) ?_
   cases c:X r (n/4)with
   |no=>exact absurd c ex
   |tab k p=>exact Bool.or_true _
   |big g=>rfl
end
end
section
section
variable{C:Cx}{l l' aq:Loc}{J ae af:H}{b r:MSs}{it:ME}{v:AV}{vs:List AV}{x z:RS}{tg:MT}
theorem a2n(he:a6 C l it J= .ok v ae)(hs:b3w v=some vs)(hz:C.hz=true)(hl:l8 (λa l J=>match v5 C a tg l J with | .ok l' ae=>execB C b l' ae |_=> .bad) vs l ae= .next aq af)(hr:execB C r aq af=x):execB C (.cons (.forS tg it b) r) l J=x:=by
 show(c6 RS.bad C.hz ((a6 C l it J).then l _)).and _=x;rw[hz,he];show(c6 RS.bad true (g9 RS.bad (b3w v) _)).and _=x;rw[hs];exact(congrArg (λz=>RS.and (c6 RS.bad true z) λl J=>execB C r l J) hl).trans hr
theorem lpn{g:AV->Loc->H->RS}(h:g v l J= .next aq af)(hr:l8 g vs aq af=z):l8 g (v::vs) l J=z:=by
 show(match g v l J with | .next aq af=>l8 g vs aq af | .cont aq af=>l8 g vs aq af | .ret v af=>RS.ret v af |_=>RS.bad)=z;rw[h];exact hr
end
theorem a2u{a:Int}{J:H}:w0 .ne (.int a) (.int a) J= .ok (.bool false) J:=by
 exact Eq.trans (b:=R.ok (AV.bool !(a==a)) J) (by kernel_rfl) (by rw[BEq.rfl];rfl)
theorem c9a{a b:Int}{J:H}:w0 .ne (.tup [.int a, .int b]) (.tup [.int a, .int b]) J= .ok (.bool false) J:=by
 exact Eq.trans (b:=R.ok (AV.bool !((a==a)&&((b==b)&&true))) J) (by kernel_rfl) (by rw[BEq.rfl,BEq.rfl];rfl)
noncomputable abbrev rts:AV:= .lst [.int (ro 0), .int (ro 1)]
noncomputable abbrev ows:AV:= .lst [.obj 12, .obj 13]
noncomputable abbrev mds:AV:= .lst [.obj 14, .obj 15]
theorem lt2{P:Nat->Prop}{k:Nat}(hk:k<2)(h0:P 0)(h1:P 1):P k:=match k,hk with |0,_=>h0 |1,_=>h1
structure Arg (C:Cx) (l:Loc) (er eo ea ek:ME) (w n o k:Nat):Prop where
 r: ∀J,a6 C l er J= .ok (.int (ro w)) J
 w: ∀J,a6 C l eo J= .ok (.obj (2+w+10)) J
 a: ∀J,a6 C l ea J= .ok (.int (16*n+o:Nat)) J
 k: ∀J,a6 C l ek J= .ok (.int (k:Nat)) J
 q: ∀J,a6 C l (.loc 168) J= .ok (.obj (0+10)) J
def Good(room:Nat)(d:List (Int×AV))(u:Nat)(G:List (Int×AV))(aa:H)(j:Nat):Prop:= ∃W X kj D,St2 d u G aa W X j/\QI aa X X 0 kj room D
section
variable{d d' G G' O O':List (Int×AV)}{L L':List Int}{aa rest':H}{W W':Int->Int}{X0 X:Sx}{r f k s j jq u u' n o m w c fl q Rn way room kj:Nat}{p:Nat->Option Pg}{g:Pg}{l:Loc}{er eo ea ek:ME}{D:KD}
theorem St2.acc(T:St2 d u G aa W X j)(I:Inv d' W' X)(l:d'.length=d.length)(K:Keep aa rest'):St2 d' u G rest' W' X j:=
 ⟨⟨I,T.S.uk,T.S.uc⟩,by rw[l];exact T.dl,T.gl,(T.keep K).ow⟩
theorem St2.dl5(T:St2 d u G aa W X j)(hj:j<=35):d.length<=500:=Nat.le_trans (b75 T hj) (by decide)
theorem c9q{x:Fs}{J:H}:w0 .ne (j0 x n o k) (j0 x n o k) J= .ok (.bool false) J:=by
 unfold j0 anN;cases M8 x n k with
 |none=>exact c9a
 |some c=>exact a2u
theorem b4l{J:H}{v:R AV}(A:Arg (cm m) l er eo ea ek w n o k)(h:a7 TT m 52 (tdA (ro w) 10 (16*n+o:Nat) k) J=v):a6 (cm m) l (.call (.glo 171) (.cons (.loc 168) (.cons er (.cons ea (.cons ek .nil))))) J=v:=
 b5i (i:=52) (vs:=tdA (ro w) 10 (16*n+o:Nat) k) (ae:=J) (by kernel_rfl) (c8 (A.q J) (c8 (c8 (A.r J) (c8 (c8 (A.a J) (c8 (c8 (A.k J) (c8 rfl rfl)) rfl)) rfl)) rfl)) h
theorem d1o{J:H}{v:R AV}(A:Arg (cm m) l er eo ea ek w n o k)(h:a7 TT m 40 (duA (2+w+10) (16*n+o:Nat) k) J=v):a6 (cm m) l (.call (.glo 172) (.cons eo (.cons ea (.cons ek .nil)))) J=v:=
 b5i (i:=40) (vs:=duA (2+w+10) (16*n+o:Nat) k) (ae:=J) (by kernel_rfl) (c8 (A.w J) (c8 (c8 (A.a J) (c8 (c8 (A.k J) (c8 rfl rfl)) rfl)) rfl)) h
theorem St2.due(T:St2 d u G aa W X j)(A:Arg (cm (m+1)) l er eo ea ek w n o k)(hw:w<2)(hn:n<16)(ho:o<16)(hk:k<3):a6 (cm (m+1)) l (.call (.glo 172) (.cons eo (.cons ea (.cons ek .nil)))) (hp d (u:Nat) G aa)= .ok (j0 (X w (n/4)) n o k) (hp d (u:Nat) G aa):=by
 obtain⟨O,L,h1,_,h3,_⟩:=T.ow w hw;exact d1o A (d4e h1 h3 hn ho hk)
theorem cmj{C:Cx}{l:Loc}{J af ax:H}{op:COp}{a b:ME}{x y:AV}{z:Bool}(h1:a6 C l a J= .ok x af)(h2:a6 C l b af= .ok y ax)(h3:w0 op x y ax= .ok (.bool z) ax):tstE C l (.of (.cmp op a b)) J= .ok z ax:=by
 show R.tru _=_;rw[show a6 C l (.cmp op a b) J= .ok (.bool z) ax from c8 h1 (c8 h2 h3)];rfl
theorem chk2(T:St2 d u G aa W X j)(Q:QI aa X X jq kj room D)(hq:jq=0)(hj:j<=35)(A:Arg (cm (m+10)) l er eo ea ek w n o k)(hw:w<2)(hn:n<16)(ho:o<16)(hk:k<3): ∃d' rest' W' kj' D',
  tstE (cm (m+10)) l (.of (.cmp .ne (.call (.glo 171) (.cons (.loc 168) (.cons er (.cons ea (.cons ek .nil))))) (.call (.glo 172) (.cons eo (.cons ea (.cons ek .nil)))))) (hp d (u:Nat) G aa)= .ok false (hp d' (u:Nat) G rest')/\St2 d' u G rest' W' X j/\QI rest' X X jq kj' room D'/\Keep aa rest':=by
 subst hq;obtain⟨v,d',r2,W',kj',D',cj,hv,I',l',K,Q'⟩:=acc (m:=m) (P:= .inst 2 (E6 (u:Nat))) (Gv:= .list []) (Hv:= .idict G) T.S.I (T.dl5 hj) Q hw hn ho hk;have hv:v=j0 (X w (n/4)) n o k:=hv.elim id id;subst hv;have T':=T.acc I' l' K;exact⟨d',r2,W',kj',D',cmj (b4l A cj) (T'.due (m:=m+9) A hw hn ho hk) c9q,T',Q',K⟩
theorem chk(Gd:Good room d u G aa j)(hj:j<=35)(A:Arg (cm (m+10)) l er eo ea ek w n o k)(hw:w<2)(hn:n<16)(ho:o<16)(hk:k<3): ∃d' rest',
  tstE (cm (m+10)) l (.of (.cmp .ne (.call (.glo 171) (.cons (.loc 168) (.cons er (.cons ea (.cons ek .nil))))) (.call (.glo 172) (.cons eo (.cons ea (.cons ek .nil)))))) (hp d (u:Nat) G aa)= .ok false (hp d' (u:Nat) G rest')/\Good room d' u G rest' j:=by
 obtain⟨W,X,kj,D,T,Q⟩:=Gd;obtain⟨d',rest',W',kj',D',h,T',Q',_⟩:=chk2 (m:=m) T Q rfl hj A hw hn ho hk;exact⟨d',rest',h,W',X,kj',D',T',Q'⟩
end
end
section
noncomputable abbrev laB(l:Loc)(S:Nat):Loc:=upd (upd (upd (upd (upd (upd (upd l 84 (.obj 8)) 114 (.obj 9)) 168 (.obj 10)) 195 rts) 194 ows) 188 mds) 143 (.int (S:Nat))
theorem a0i{l:Loc}{S:Nat}(h1:l 84= .obj 8)(h2:l 114= .obj 9)(h3:l 168= .obj 10)(h4:l 195=rts)(h5:l 194=ows)(h6:l 188=mds)(h7:l 143= .int (S:Nat)):laB l S=l:=by
 unfold laB;rw[i7 h1,i7 h2,i7 h3,i7 h4,i7 h5,i7 h6,i7 h7]
noncomputable abbrev F3(l:Loc)(S:Nat)(ls:AV)(w n o k way Rn:Nat):Loc:=upd (upd (upd (upd (upd (upd (upd (laB l S) 199 ls) 196 (.int (w:Nat))) 42 (.int (n:Nat))) 57 (.int (k:Nat))) 167 (.int (way:Nat))) 170 (.int (Rn:Nat))) 14 (.int (16*n+o:Nat))
theorem Z8{l:Loc}{S w n o k way Rn:Nat}{ls:AV}(h1:l 84= .obj 8)(h2:l 114= .obj 9)(h3:l 168= .obj 10)(h4:l 195=rts)(h5:l 194=ows)(h6:l 188=mds)(h7:l 143= .int (S:Nat))
  (g1:l 199=ls)(g2:l 196= .int (w:Nat))(g3:l 42= .int (n:Nat))(g4:l 57= .int (k:Nat))(g5:l 167= .int (way:Nat))(g6:l 170= .int (Rn:Nat))(g7:l 14= .int (16*n+o:Nat)):F3 l S ls w n o k way Rn=l:=by
 unfold F3;rw[a0i h1 h2 h3 h4 h5 h6 h7,i7 g1,i7 g2,i7 g3,i7 g4,i7 g5,i7 g6,i7 g7]
noncomputable def bMn:MSs:=match tl (tl (tl (tl (tl (tl (tl (tl b55)))))))with | .cons (.forS _ _ b) _=>b |_=> .nil
noncomputable def bIn:MSs:=match tl (tl (tl bMn))with | .cons (.forS _ _ b) _=>b |_=> .nil
noncomputable def bDe:MSs:=match tl (tl (tl (tl (tl bMn))))with | .cons (.ifS _ a _) _=>a |_=> .nil
noncomputable abbrev Q6(w n o k:Nat):AV:= .lst [.int (w:Nat), .int (16*n+o:Nat), .int (k:Nat)]
def IsItm(v:AV):Prop:= ∃w n o k,w<2/\n<16/\o<16/\k<3/\v=Q6 w n o k
noncomputable abbrev lpF(C:Cx)(xs:List Nat)(b:MSs):AV->Loc->H->RS:=λa l J=>match v5 C a (.names xs) l J with | .ok l' ae=>execB C b l' ae |_=> .bad
section
variable{d G:List (Int×AV)}{aa:H}{u m j room S w n o k way Rn w' n' o' k':Nat}{ls:AV}{l:Loc}
theorem d0q(hw:w'<2):Arg (cm m) (upd (upd (upd (F3 l S ls w n o k way Rn) 200 (.int (w':Nat))) 30 (.int (16*n'+o':Nat))) 201 (.int (k':Nat))) (.idx (.loc 195) (.loc 200)) (.idx (.loc 194) (.loc 200)) (.loc 30) (.loc 201) w' n' o' k' where
 r J:=by refine lt2 (P:=λw'=>a6 (cm m) (upd (upd (upd (F3 l S ls w n o k way Rn) 200 (.int (w':Nat))) 30 (.int (16*n'+o':Nat))) 201 (.int (k':Nat))) (.idx (.loc 195) (.loc 200)) J= .ok (.int (ro w')) J) hw ?_ ?_<;>kernel_rfl
 w J:=by refine lt2 (P:=λw'=>a6 (cm m) (upd (upd (upd (F3 l S ls w n o k way Rn) 200 (.int (w':Nat))) 30 (.int (16*n'+o':Nat))) 201 (.int (k':Nat))) (.idx (.loc 194) (.loc 200)) J= .ok (.obj (2+w'+10)) J) hw ?_ ?_<;>kernel_rfl
 a J:=by kernel_rfl
 k J:=by kernel_rfl
 q J:=by kernel_rfl
theorem a8v(Gd:Good room d u G aa j)(hj:j<=35)(hw:w'<2)(hn:n'<16)(ho:o'<16)(hk:k'<3):
  ∃aq d' rest',lpF (cm (m+10)) [200,30,201] bIn (Q6 w' n' o' k') (F3 l S ls w n o k way Rn) (hp d (u:Nat) G aa)= .next (F3 aq S ls w n o k way Rn) (hp d' (u:Nat) G rest')/\Good room d' u G rest' j:=by
 obtain⟨d',r2,h,G'⟩:=chk (m:=m) Gd hj (d0q (m:=m+10) (l:=l) (S:=S) (ls:=ls) (w:=w) (n:=n) (o:=o) (k:=k) (way:=way) (Rn:=Rn) (n':=n') (o':=o') (k':=k') hw) hw hn ho hk;refine⟨upd (upd (upd (F3 l S ls w n o k way Rn) 200 (.int (w':Nat))) 30 (.int (16*n'+o':Nat))) 201 (.int (k':Nat)),d',r2, ?_,G'⟩;rw[Z8 (l:=upd (upd (upd (F3 l S ls w n o k way Rn) 200 (.int (w':Nat))) 30 (.int (16*n'+o':Nat))) 201 (.int (k':Nat))) (by rfl) (by rfl) (by rfl) (by rfl) (by rfl) (by rfl) (by rfl) (by rfl) (by rfl) (by rfl) (by rfl) (by rfl) (by rfl) (by rfl)];exact if0 h rfl
theorem a0u: ∀(vs:List AV),(∀v∈vs,IsItm v)-> ∀l d aa,Good room d u G aa j->j<=35->
  ∃aq d' rest',l8 (lpF (cm (m+10)) [200,30,201] bIn) vs (F3 l S ls w n o k way Rn) (hp d (u:Nat) G aa)= .next (F3 aq S ls w n o k way Rn) (hp d' (u:Nat) G rest')/\Good room d' u G rest' j
 |[],_,l,d,aa,Gd,_=>⟨l,d,aa,rfl,Gd⟩
 |v::vs,hv,l,d,aa,Gd,hj=>by
  obtain⟨w',n',o',k',hw,hn,ho,hk,rfl⟩:=hv v (List.mem_cons_self ..);obtain⟨aq,bU,aW,h,ak⟩:=a8v (m:=m) (S:=S) (ls:=ls) (w:=w) (n:=n) (o:=o) (k:=k) (way:=way) (Rn:=Rn) (l:=l) Gd hj hw hn ho hk;obtain⟨aP,bS,aU,h2,aA⟩:=a0u vs (λw hw=>hv w (List.mem_cons_of_mem _ hw)) aq bU aW ak hj;exact⟨aP,bS,aU,lpn h h2,aA⟩
end
end
section
noncomputable def c6z(v:Option Nat)(n o k:Nat):PyData:=match v with |some c=> .int (16*c+o:Nat) |none=> .tuple [.int (pf k), .int (16*n+o:Nat)]
theorem a8t{v:Option Nat}{n o k:Nat}:U9 (anN v n o k)=some (c6z v n o k):=by cases v<;>kernel_rfl
theorem b8r{v:Option Nat}{n o k:Nat}:PyData.eqv (c6z v n o k) (c6z v n o k)=true:=by
 cases v with
 |some c=>exact b05.trans BEq.rfl
 |none=>
  refine Eq.trans (b:=(pf k==pf k)&&((((16*n+o:Nat):Int)==((16*n+o:Nat):Int))&&true)) (by kernel_rfl) ?_;rw[BEq.rfl,BEq.rfl];rfl
theorem c3n{x y:Fs}{n o k:Nat}{v:AV}{J:H}(h:v=j0 x n o k\/v=j0 y n o k):w0 .notIn v (.lst [j0 x n o k,j0 y n o k]) J= .ok (.bool false) J:=by
 have e:inL v [j0 x n o k,j0 y n o k]=some true:=by
  unfold inL;show g9 none (g9 none (U9 (anN _ n o k)) λa=>g9 none (g9 none (U9 (anN _ n o k)) λb=>g9 none (some []) λc=>some (b::c)) λd=>some (a::d)) _=_;rw[a8t,a8t];rcases h with rfl |rfl<;>unfold j0<;>rw[a8t]
  ·show some (PyData.eqv _ _||_)=_
   rw[b8r];rfl
  ·show some (_||(PyData.eqv _ _||_))=_
   rw[b8r,Bool.true_or,Bool.or_true]
 show a0a (g9 R.bad (inL v _) _)=_;rw[e];rfl
theorem c9k{C:Cx}{l:Loc}{J ae:H}{t:MB}{ts:MBs}(h:tstE C l t J= .ok false ae):tstEs C l true (.cons t ts) J= .ok false ae:=by
 show(tstE C l t J).bind _=_;rw[h];rfl
theorem D1{C:Cx}{l:Loc}{J:H}{x:Nat}{n:Int}(h:l x= .int n):a6 C l (.loc x) J= .ok (.int n) J:=by
 show l9 R.bad (l x) (.ok (l x) _)=_;rw[h];rfl
theorem a0r{C:Cx}{l:Loc}{J:H}{x n:Nat}(h:l x= .obj n):a6 C l (.loc x) J= .ok (.obj n) J:=by
 show l9 R.bad (l x) (.ok (l x) _)=_;rw[h];rfl
theorem V1{C:Cx}{l:Loc}{J:H}{x:Nat}{n:List AV}(h:l x= .lst n):a6 C l (.loc x) J= .ok (.lst n) J:=by
 show l9 R.bad (l x) (.ok (l x) _)=_;rw[h];rfl
theorem b5o{C:Cx}{l:Loc}{w x:Nat}(hw:w<2)(h1:l 195=rts)(h4:l x= .int (w:Nat))(J:H):a6 C l (.idx (.loc 195) (.loc x)) J= .ok (.int (ro w)) J:=
 c8 (V1 h1) (c8 (D1 h4) (lt2 (P:=λw=>a2v rts (.int (w:Nat)) J= .ok (.int (ro w)) J) hw (by kernel_rfl) (by kernel_rfl)))
theorem b5q{C:Cx}{l:Loc}{w x:Nat}(hw:w<2)(h2:l 194=ows)(h4:l x= .int (w:Nat))(J:H):a6 C l (.idx (.loc 194) (.loc x)) J= .ok (.obj (2+w+10)) J:=
 c8 (V1 h2) (c8 (D1 h4) (lt2 (P:=λw=>a2v ows (.int (w:Nat)) J= .ok (.obj (2+w+10)) J) hw (by kernel_rfl) (by kernel_rfl)))
theorem a9k{C:Cx}{l:Loc}{w n o k x xa xk:Nat}(hw:w<2)(h1:l 195=rts)(h2:l 194=ows)(h3:l 168= .obj 10)(h4:l x= .int (w:Nat))(h5:l xa= .int (16*n+o:Nat))(h6:l xk= .int (k:Nat)):Arg C l (.idx (.loc 195) (.loc x)) (.idx (.loc 194) (.loc x)) (.loc xa) (.loc xk) w n o k:=
 ⟨b5o hw h1 h4,b5q hw h2 h4,λJ=>D1 h5,λJ=>D1 h6,λJ=>a0r h3⟩
section
variable{d G:List (Int×AV)}{aa:H}{W:Int->Int}{X0 X:Sx}{u m j jq kj room S w n o k way Rn:Nat}{ls v1 v2:AV}{l:Loc}{D:KD}{P Gv Hv:AO}
theorem QI.fa(Q:QI aa X0 X jq kj room D):QI ((aa++[AO.tdict []]).set jq (.inst 4 (qf 0 aa.length (room:Nat)))) X X jq aa.length room []:=Q.newf (by decide) (λq hq=>nomatch hq)
theorem QI.fo(Q:QI aa X0 X jq kj room D)(ag: ∀r' n' k c,n'≠n->M8 (X0 r' (n'/4)) n' k=some c->M8 (X r' (n'/4)) n' k=some c){g:List KA->Bool}(hg: ∀n':Nat, ∀ro' k,g (kq ro' (n':Nat) k 0 0 0)=true->n'≠n):
  QI ((aa++[AO.tdict (dco D g)]).set jq (.inst 4 (qf 0 aa.length (room:Nat)))) X X jq aa.length room (dco D g):=Q.newf (Nat.le_trans c3x Q.l) λq hq=>by
 obtain⟨h1,h2⟩:=c2l hq;rcases Q.en q h1 with ⟨r,n',k,c,e,hr,hn,hk,t,hv⟩ |h
 ·exact .inr ⟨r,n',k,c,e,hr,hn,hk,ag _ _ _ _ (hg _ _ _ (e▸h2)) t,hv⟩
 ·exact .inr h
theorem QI.shape(Q:QI aa X0 X jq kj room D): ∀p∈D, ∃ro n k md s x,p.1=kq ro n k md s x:=λp hp=>by
 rcases Q.en p hp with ⟨r,n',k,c,e,_⟩ |⟨r,n',k,c,e,_⟩<;>exact⟨_,_,_,_,_,_,e⟩
theorem b5g(Q:QI aa X0 X 0 kj room D)(ho:o<16)(ag: ∀r' n' k c,n'≠n->M8 (X0 r' (n'/4)) n' k=some c->M8 (X r' (n'/4)) n' k=some c): ∃r3 kj' D',a7 TT (m+1) 28 [.obj (0+10), .int (16*n+o:Nat)] (hb d P Gv Hv aa)= .ok .none (hb d P Gv Hv r3)/\QI r3 X X 0 kj' room D'/\Keep aa r3:=by
 have h:=b2b (m:=m) (a:=((16*n+o:Nat):Int)) (d:=d) (p:=P) (g:=Gv) (h:=Hv) Q.q Q.k (decide_eq_true (Nat.le_trans Q.l (by decide))) Q.shape;refine⟨_,_,_,h,Q.fo ag λn' ro' k e=> ?_,Q.keep_newf⟩;rw[s0 ho]at e;intro c;rw[c]at e;have e':(!(((n:Nat):Int)==((n:Nat):Int)))=true:=e;rw[BEq.rfl]at e';cases e'
end
end
section
theorem nob{C:Cx}{l:Loc}{J ae:H}{b:Bool}{e:ME}(h:a6 C l e J= .ok (.bool b) ae):tstE C l (.not (.of e)) J= .ok (!b) ae:=by
 show((a6 C l e J).tru).bind _=_;rw[h];rfl
theorem lo_d{C:Cx}{l:Loc}{J:H}{x n o k:Nat}{y:Fs}(h:l x=j0 y n o k):a6 C l (.loc x) J= .ok (j0 y n o k) J:=by
 show l9 R.bad (l x) (.ok (l x) _)=_;rw[h];unfold j0 anN;cases M8 y n k<;>rfl
section
variable{d G:List (Int×AV)}{aa:H}{W:Int->Int}{X0 X:Sx}{u m j jq kj room S w n o k way Rn:Nat}{ls v1 v2:AV}{l:Loc}{D:KD}{P Gv Hv:AO}{C:Cx}
noncomputable abbrev l3(l:Loc)(S:Nat)(ls:AV)(w n o k way Rn:Nat)(v1 v2:AV):Loc:=upd (upd (F3 l S ls w n o k way Rn) 197 v1) 158 v2
theorem d3t(hw:w<2):Arg C (F3 l S ls w n o k way Rn) (.idx (.loc 195) (.loc 196)) (.idx (.loc 194) (.loc 196)) (.loc 14) (.loc 57) w n o k:=a9k hw (by rfl) (by rfl) (by rfl) (by rfl) (by rfl) (by rfl)
theorem d22(hw:w<2):Arg C (upd (F3 l S ls w n o k way Rn) 197 v1) (.idx (.loc 195) (.loc 196)) (.idx (.loc 194) (.loc 196)) (.loc 14) (.loc 57) w n o k:=a9k hw (by rfl) (by rfl) (by rfl) (by rfl) (by rfl) (by rfl)
theorem c6j(hw:w<2):Arg C (l3 l S ls w n o k way Rn v1 v2) (.idx (.loc 195) (.loc 196)) (.idx (.loc 194) (.loc 196)) (.loc 14) (.loc 57) w n o k:=a9k hw (by rfl) (by rfl) (by rfl) (by rfl) (by rfl) (by rfl)
theorem c73(T:St2 d u G aa W X j)(hj:j<=35)(Q:QI aa X0 X 0 kj room D)(hw:w<2)(hn:n<16)(ho:o<16)(hk:k<3)(ag: ∀r' n' k c,n'≠n->M8 (X0 r' (n'/4)) n' k=some c->M8 (X r' (n'/4)) n' k=some c):
  ∃d' rest',execB (cm (m+10)) (tl (tl (tl (tl bDe)))) (l3 l S ls w n o k way Rn v1 v2) (hp d (u:Nat) G aa)= .next (l3 l S ls w n o k way Rn v1 v2) (hp d' (u:Nat) G rest')/\Good room d' u G rest' j:=by
 have fin: ∀{r3 kj' D'},QI r3 X X 0 kj' room D'->Keep aa r3-> ∃d' rest',execB (cm (m+10)) (tl (tl (tl (tl (tl bDe))))) (l3 l S ls w n o k way Rn v1 v2) (hp d (u:Nat) G r3)= .next (l3 l S ls w n o k way Rn v1 v2) (hp d' (u:Nat) G rest')/\Good room d' u G rest' j:=λ{r3 kj' D'} Q3 K=>by
  obtain⟨d',r4,h,Gd⟩:=chk (m:=m) ⟨W,X,_,_,T.keep K,Q3⟩ hj (c6j (C:=cm (m+10)) (l:=l) (S:=S) (ls:=ls) (o:=o) (k:=k) (n:=n) (way:=way) (Rn:=Rn) (v1:=v1) (v2:=v2) hw) hw hn ho hk;exact⟨d',r4,if0 h rfl,Gd⟩
 have t:tstE (cm (m+10)) (l3 l S ls w n o k way Rn v1 v2) (.ops false (.cons (.of (.cmp .eq (.loc 167) (.int 3))) (.cons (.of (.cmp .eq (.bin .mod (.loc 170) (.int 2)) (.int 0))) .nil))) (hp d (u:Nat) G aa)= .ok (((way:Int)==3)||((Rn:Int).fmod 2==0)) (hp d (u:Nat) G aa):=by
  have a:tstE (cm (m+10)) (l3 l S ls w n o k way Rn v1 v2) (.of (.cmp .eq (.loc 167) (.int 3))) (hp d (u:Nat) G aa)= .ok ((way:Int)==3) (hp d (u:Nat) G aa):=by kernel_rfl
  have b:tstE (cm (m+10)) (l3 l S ls w n o k way Rn v1 v2) (.of (.cmp .eq (.bin .mod (.loc 170) (.int 2)) (.int 0))) (hp d (u:Nat) G aa)= .ok ((Rn:Int).fmod 2==0) (hp d (u:Nat) G aa):=by kernel_rfl
  cases e:((way:Int)==3)with
  |true=>exact V7 a e
  |false=>cases e2:((Rn:Int).fmod 2==0)with
   |true=>exact m6 a e (V7 b e2)
   |false=>exact m6 a e (m6 b e2 rfl)
 cases e:(((way:Int)==3)||((Rn:Int).fmod 2==0))with
 |true=>
  obtain⟨d',r4,h,Gd⟩:=fin Q.fa Q.keep_newf;refine⟨d',r4,ift (t.trans (by rw[e])) (ex (v:= .none) (z6 (id:=0+10) (ae:=hp d (u:Nat) G aa) (af:=hp d (u:Nat) G aa) (c:=4) (f:=qf 0 kj (room:Nat)) (i:=28) (vs:=[]) (by kernel_rfl) Q.q (by kernel_rfl) (by kernel_rfl) (by kernel_rfl) (a8e (m:=m+9) Q.q)) rfl) h,Gd⟩
 |false=>
  obtain⟨r3,kj',D',hf,Q3,K⟩:=b5g (m:=m+9) (d:=d) (P:= .inst 2 (E6 (u:Nat))) (Gv:= .list []) (Hv:= .idict G) Q ho ag;obtain⟨d',r4,h,Gd⟩:=fin Q3 K;exact⟨d',r4,iff (t.trans (by rw[e])) (ex (v:= .none) (z6 (id:=0+10) (ae:=hp d (u:Nat) G aa) (af:=hp d (u:Nat) G aa) (c:=4) (f:=qf 0 kj (room:Nat)) (i:=28) (vs:=[.int (16*n+o:Nat)]) (by kernel_rfl) Q.q (by kernel_rfl) (by kernel_rfl) (by kernel_rfl) hf) rfl) h,Gd⟩
theorem a7v(Gd:Good room d u G aa j)(hj:j<=34)(hw:w<2)(hn:n<16)(ho:o<16)(hk:k<3)(hy:way<4):
  ∃aq d' u' G' rest',execB (cm (m+10)) bDe (F3 l S ls w n o k way Rn) (hp d (u:Nat) G aa)= .next (F3 aq S ls w n o k way Rn) (hp d' (u':Nat) G' rest')/\Good room d' u' G' rest' (j+1):=by
 obtain⟨W,X,kj,D,T,Q⟩:=Gd;have due1:=T.due (m:=m+9) (d3t (C:=cm (m+9+1)) (l:=l) (S:=S) (ls:=ls) (o:=o) (k:=k) (n:=n) (way:=way) (Rn:=Rn) hw) hw hn ho hk;obtain⟨d1,u1,G1,r1,W1,X1,call,T1,K1,ag⟩:=deed (m:=m+2) (Rn:=Rn) T (Nat.le_succ_of_le hj) hw hn hy;have Q1:QI r1 X X1 0 kj room D:=⟨K1 _ _ nofun nofun Q.q,K1 _ _ nofun nofun Q.k,Q.l,Q.r,λq hq=> .inl ((Q.en q hq).elim id id)⟩
 have hj1:j+1<=35:=Nat.succ_le_succ hj;have due2:=T1.due (m:=m+9) (d22 (C:=cm (m+9+1)) (l:=l) (S:=S) (ls:=ls) (o:=o) (k:=k) (n:=n) (way:=way) (Rn:=Rn) (v1:=j0 (X w (n/4)) n o k) hw) hw hn ho hk;have args:evalEs (cm (m+10)) (upd (F3 l S ls w n o k way Rn) 197 (j0 (X w (n/4)) n o k)) (Es [.loc 114, .idx (.loc 195) (.loc 196), .idx (.loc 194) (.loc 196), .idx (.loc 188) (.loc 196), .loc 167, .loc 42, .loc 170]) (hp d (u:Nat) G aa)= .ok (deA (ro w) (2+w+10) (4+w+10) (way:Nat) (n:Nat) (Rn:Nat)) (hp d (u:Nat) G aa):=by
  generalize j0 (X w (n/4)) n o k=v1;refine lt2 (P:=λw=>evalEs (cm (m+10)) (upd (F3 l S ls w n o k way Rn) 197 v1) (Es [.loc 114, .idx (.loc 195) (.loc 196), .idx (.loc 194) (.loc 196), .idx (.loc 188) (.loc 196), .loc 167, .loc 42, .loc 170]) (hp d (u:Nat) G aa)= .ok (deA (ro w) (2+w+10) (4+w+10) (way:Nat) (n:Nat) (Rn:Nat)) (hp d (u:Nat) G aa)) hw ?_ ?_<;>kernel_rfl
 have lst:a6 (cm (m+10)) (upd (F3 l S ls w n o k way Rn) 197 (j0 (X w (n/4)) n o k)) (.lstF (Es [.loc 197, .call (.glo 172) (Es [.idx (.loc 194) (.loc 196), .loc 14, .loc 57])])) (hp d1 (u1:Nat) G1 r1)= .ok (.lst [j0 (X w (n/4)) n o k,j0 (X1 w (n/4)) n o k]) (hp d1 (u1:Nat) G1 r1):=
  c8 (x:=[j0 (X w (n/4)) n o k,j0 (X1 w (n/4)) n o k]) (c8 (lo_d rfl) (c8 (c8 due2 rfl) rfl)) rfl
 have a:tstE (cm (m+10)) (l3 l S ls w n o k way Rn (j0 (X w (n/4)) n o k) (.lst [j0 (X w (n/4)) n o k,j0 (X1 w (n/4)) n o k])) (.of (.cmp .eq (.bin .mod (.loc 170) (.int 5)) (.int 0))) (hp d1 (u1:Nat) G1 r1)= .ok ((Rn:Int).fmod 5==0) (hp d1 (u1:Nat) G1 r1):=by kernel_rfl
 have mid: ∃d2 r2 W2 kj2 D2,tstE (cm (m+10)) (l3 l S ls w n o k way Rn (j0 (X w (n/4)) n o k) (.lst [j0 (X w (n/4)) n o k,j0 (X1 w (n/4)) n o k])) (.ops true (Ts [.of (.cmp .eq (.bin .mod (.loc 170) (.int 5)) (.int 0)), .of (.cmp .notIn (.call (.glo 171) (Es [.loc 168, .idx (.loc 195) (.loc 196), .loc 14, .loc 57])) (.loc 158))])) (hp d1 (u1:Nat) G1 r1)= .ok false (hp d2 (u1:Nat) G1 r2)/\St2 d2 u1 G1 r2 W2 X1 (j+1)/\QI r2 X X1 0 kj2 room D2:=by
  cases e:((Rn:Int).fmod 5==0)with
  |false=>exact⟨d1,r1,W1,kj,D,a4w a e,T1,Q1⟩
  |true=>
   obtain⟨v,d2,r2,W2,kj2,D2,cj,hv,I2,l2,K2,Q2⟩:=acc (m:=m) (P:= .inst 2 (E6 (u1:Nat))) (Gv:= .list []) (Hv:= .idict G1) T1.S.I (T1.dl5 hj1) Q1 hw hn ho hk;exact⟨d2,r2,W2,kj2,D2,u4 a e (c9k (cmj (b4l (c6j hw) cj) (V1 rfl) (c3n hv))),T1.acc I2 l2 K2,Q2⟩
 obtain⟨d2,r2,W2,kj2,D2,tm,T2,Q2⟩:=mid;obtain⟨d3,r3,he,Gd3⟩:=c73 (m:=m) (l:=l) (S:=S) (ls:=ls) (way:=way) (Rn:=Rn) (v1:=j0 (X w (n/4)) n o k) (v2:= .lst [j0 (X w (n/4)) n o k,j0 (X1 w (n/4)) n o k]) T2 hj1 Q2 hw hn ho hk ag;refine⟨l3 l S ls w n o k way Rn (j0 (X w (n/4)) n o k) (.lst [j0 (X w (n/4)) n o k,j0 (X1 w (n/4)) n o k]),d3,u1,G1,r3, ?_,Gd3⟩;rw[Z8 (l:=l3 l S ls w n o k way Rn (j0 (X w (n/4)) n o k) (.lst [j0 (X w (n/4)) n o k,j0 (X1 w (n/4)) n o k])) (by rfl) (by rfl) (by rfl) (by rfl) (by rfl) (by rfl) (by rfl) (by rfl) (by rfl) (by rfl) (by rfl) (by rfl) (by rfl) (by rfl)];exact w1 due1 (if0 (nob (b:=true) (b5i (i:=53) (by kernel_rfl) args call)) (w1 lst (if0 tm he)))
end
end
section
noncomputable abbrev laL(l:Loc)(S:Nat)(ls:AV):Loc:=upd (laB l S) 199 ls
theorem a9p{l:Loc}{S:Nat}{ls:AV}(h1:l 84= .obj 8)(h2:l 114= .obj 9)(h3:l 168= .obj 10)(h4:l 195=rts)(h5:l 194=ows)(h6:l 188=mds)(h7:l 143= .int (S:Nat))(h8:l 199=ls):laL l S ls=l:=by
 unfold laL;rw[a0i h1 h2 h3 h4 h5 h6 h7,i7 h8]
section
variable{d G:List (Int×AV)}{aa:H}{u m j room S w n o k way Rn N:Nat}{ls:AV}{l:Loc}
theorem Good.up(Gd:Good room d u G aa j):Good room d u G aa (j+1):=by
 obtain⟨W,X,kj,D,T,Q⟩:=Gd;exact⟨W,X,kj,D,T.up,Q⟩
theorem IsItm.lst{v:AV}(h:IsItm v): ∃L,v= .lst L:=by
 obtain⟨w,n,o,k,_,_,_,_,rfl⟩:=h;exact⟨_,rfl⟩
theorem body(Gd:Good room d u G aa j)(hj:j<=34)(hi:IsItm ls)(hw:w<2)(hn:n<16)(ho:o<16)(hk:k<3):
  ∃aq d' u' G' rest',execB (cm (m+10)) (tl (tl bMn)) (F3 l S ls w n o k way Rn) (hp d (u:Nat) G aa)= .next (laL aq S (Q6 w n o k)) (hp d' (u':Nat) G' rest')/\Good room d' u' G' rest' (j+1):=by
 have me:IsItm (Q6 w n o k):=⟨w,n,o,k,hw,hn,ho,hk,rfl⟩
 have t0:tstE (cm (m+10)) (F3 l S ls w n o k way Rn) (.of (.cmp .gt (.bin .mod (.loc 170) (.int 3)) (.int 0))) (hp d (u:Nat) G aa)= .ok (decide (0<(Rn:Int).fmod 3)) (hp d (u:Nat) G aa):=by kernel_rfl
 have ask: ∃v,IsItm v/\a6 (cm (m+10)) (F3 l S ls w n o k way Rn) (.ite (.of (.cmp .gt (.bin .mod (.loc 170) (.int 3)) (.int 0))) (.lstF (Es [.loc 196, .loc 14, .loc 57])) (.loc 199)) (hp d (u:Nat) G aa)= .ok v (hp d (u:Nat) G aa):=by
  cases e:decide (0<(Rn:Int).fmod 3)with
  |true=>exact⟨_,me,c1y (t0.trans (by rw[e])) (by kernel_rfl)⟩
  |false=>
   obtain⟨L,rfl⟩:=hi.lst;exact⟨_,hi,a96 (t0.trans (by rw[e])) (V1 rfl)⟩
 obtain⟨v,hv,ea⟩:=ask;obtain⟨l2,e2⟩: ∃l2,upd (F3 l S ls w n o k way Rn) 202 v=F3 l2 S ls w n o k way Rn:=⟨_,(Z8 (by rfl) (by rfl) (by rfl) (by rfl) (by rfl) (by rfl) (by rfl) (by rfl) (by rfl) (by rfl) (by rfl) (by rfl) (by rfl) (by rfl)).symm⟩
 have hvs: ∀x∈[Q6 w n o k,v,Q6 (1-w) n o k],IsItm x:=λx hx=>by
  rcases List.mem_cons.mp hx with rfl |hx
  ·exact me
  ·rcases List.mem_cons.mp hx with rfl |hx
   ·exact hv
   ·rw[List.mem_singleton.mp hx];exact⟨1-w,n,o,k,by lia,hn,ho,hk,rfl⟩
 have it:a6 (cm (m+10)) (upd (F3 l S ls w n o k way Rn) 202 v) (.lstF (Es [.lstF (Es [.loc 196, .loc 14, .loc 57]), .loc 202, .lstF (Es [.bin .sub (.int 1) (.loc 196), .loc 14, .loc 57])])) (hp d (u:Nat) G aa)= .ok (.lst [Q6 w n o k,v,Q6 (1-w) n o k]) (hp d (u:Nat) G aa):=by
  have e3:a6 (cm (m+10)) (upd (F3 l S ls w n o k way Rn) 202 v) (.lstF (Es [.bin .sub (.int 1) (.loc 196), .loc 14, .loc 57])) (hp d (u:Nat) G aa)= .ok (Q6 (1-w) n o k) (hp d (u:Nat) G aa):=
   lt2 (P:=λw=>a6 (cm (m+10)) (upd (F3 l S ls w n o k way Rn) 202 v) (.lstF (Es [.bin .sub (.int 1) (.loc 196), .loc 14, .loc 57])) (hp d (u:Nat) G aa)= .ok (Q6 (1-w) n o k) (hp d (u:Nat) G aa)) hw (by kernel_rfl) (by kernel_rfl)
  obtain⟨L,rfl⟩:=hv.lst;exact c8 (x:=[Q6 w n o k, .lst L,Q6 (1-w) n o k]) (ae:=hp d (u:Nat) G aa) (c8 (x:=Q6 w n o k) (ae:=hp d (u:Nat) G aa) (by kernel_rfl) (c8 (c8 (V1 rfl) (c8 (c8 e3 (c8 rfl rfl)) rfl)) rfl)) rfl
 obtain⟨aq,d1,r1,hl,G1⟩:=a0u (m:=m) (S:=S) (ls:=ls) (w:=w) (n:=n) (o:=o) (k:=k) (way:=way) (Rn:=Rn) _ hvs l2 d aa Gd (Nat.le_succ_of_le hj);rw[<-e2]at hl;obtain⟨l3',e3⟩: ∃l3',upd (F3 aq S ls w n o k way Rn) 199 (Q6 w n o k)=F3 l3' S (Q6 w n o k) w n o k way Rn:=⟨_,(Z8 (by rfl) (by rfl) (by rfl) (by rfl) (by rfl) (by rfl) (by rfl) (by rfl) (by rfl) (by rfl) (by rfl) (by rfl) (by rfl) (by rfl)).symm⟩
 have e4: ∀l,laL (F3 l S (Q6 w n o k) w n o k way Rn) S (Q6 w n o k)=F3 l S (Q6 w n o k) w n o k way Rn:=λl=>a9p (by rfl) (by rfl) (by rfl) (by rfl) (by rfl) (by rfl) (by rfl) (by rfl);have t5:tstE (cm (m+10)) (F3 l3' S (Q6 w n o k) w n o k way Rn) (.of (.cmp .lt (.loc 167) (.int 4))) (hp d1 (u:Nat) G r1)= .ok (decide ((way:Int)<4)) (hp d1 (u:Nat) G r1):=by kernel_rfl
 have fin: ∃aq d' u' G' rest',execB (cm (m+10)) (tl (tl (tl (tl (tl bMn))))) (F3 l3' S (Q6 w n o k) w n o k way Rn) (hp d1 (u:Nat) G r1)= .next (F3 aq S (Q6 w n o k) w n o k way Rn) (hp d' (u':Nat) G' rest')/\Good room d' u' G' rest' (j+1):=by
  by_cases h4:way<4
  ·obtain⟨l4,d2,u2,G2,r2,hd,Gd2⟩:=a7v (m:=m) (l:=l3') (S:=S) (ls:=Q6 w n o k) (Rn:=Rn) G1 hj hw hn ho hk h4
   exact⟨l4,d2,u2,G2,r2,ift (t5.trans (by rw[show decide ((way:Int)<4)=true from decide_eq_true (Int.ofNat_lt.mpr h4)])) hd rfl,Gd2⟩
  ·exact⟨l3',d1,u,G,r1,if0 (t5.trans (by rw[show decide ((way:Int)<4)=false from decide_eq_false λc=>h4 (Int.ofNat_lt.mp c)])) rfl,G1.up⟩
 obtain⟨l5,d2,u2,G2,r2,hf,Gd2⟩:=fin;refine⟨F3 l5 S (Q6 w n o k) w n o k way Rn,d2,u2,G2,r2, ?_,Gd2⟩;rw[e4];exact w1 ea (a2n it rfl rfl hl (w1 (v:=Q6 w n o k) (ae:=hp d1 (u:Nat) G r1) (by kernel_rfl) (by rw[e3];exact hf)))
theorem a8q(Gd:Good room d u G aa j)(hj:j<=34)(hi:IsItm ls):
  ∃aq ls' d' u' G' rest',execB (cm (m+10)) bMn (upd (laL l S ls) 138 (.int (N:Nat))) (hp d (u:Nat) G aa)= .next (laL aq S ls') (hp d' (u':Nat) G' rest')/\IsItm ls'/\Good room d' u' G' rest' (j+1):=by
 have h0:a6 (cm (m+10)) (upd (laL l S ls) 138 (.int (N:Nat))) (.tup (Es [.bin .mod (.loc 138) (.int 2), .bin .mod (.bin .fdiv (.loc 138) (.int 2)) (.int 16), .bin .mod (.bin .fdiv (.loc 138) (.int 32)) (.int 3), .bin .mod (.bin .fdiv (.loc 138) (.int 96)) (.int 7), .bin .fdiv (.loc 138) (.int 672)])) (hp d (u:Nat) G aa)= .ok (.tup [.int (N %2:Nat), .int (N/2 %16:Nat), .int (N/32 %3:Nat), .int (N/96 %7:Nat), .int (N/672:Nat)]) (hp d (u:Nat) G aa):=by
  refine Eq.trans (b:= .ok (.tup [.int ((N:Int).fmod 2), .int (((N:Int).fdiv 2).fmod 16), .int (((N:Int).fdiv 32).fmod 3), .int (((N:Int).fdiv 96).fmod 7), .int ((N:Int).fdiv 672)]) (hp d (u:Nat) G aa)) (by kernel_rfl) ?_;rw[show(N:Int).fmod 2=((N %2:Nat):Int)from u7 (m:=2),show(N:Int).fdiv 2=((N/2:Nat):Int)from H3 (m:=2),show(N:Int).fdiv 32=((N/32:Nat):Int)from H3 (m:=32),show(N:Int).fdiv 96=((N/96:Nat):Int)from H3 (m:=96),show(N:Int).fdiv 672=((N/672:Nat):Int)from H3 (m:=672)];rw[show((N/2:Nat):Int).fmod 16=((N/2 %16:Nat):Int)from u7 (m:=16),show((N/32:Nat):Int).fmod 3=((N/32 %3:Nat):Int)from u7 (m:=3),show((N/96:Nat):Int).fmod 7=((N/96 %7:Nat):Int)from u7 (m:=7)]
 have hw:N %2<2:=Nat.mod_lt _ (by decide);have hn:N/2 %16<16:=Nat.mod_lt _ (by decide);have hk:N/32 %3<3:=Nat.mod_lt _ (by decide);generalize N %2=w at h0 hw;generalize N/2 %16=n at h0 hn;generalize N/32 %3=k at h0 hk;generalize N/96 %7=way at h0;generalize N/672=Rn at h0;have ho:Rn %16<16:=Nat.mod_lt _ (by decide);have h1:a6 (cm (m+10)) (upd (upd (upd (upd (upd (upd (laL l S ls) 138 (.int (N:Nat))) 196 (.int (w:Nat))) 42 (.int (n:Nat))) 57 (.int (k:Nat))) 167 (.int (way:Nat))) 170 (.int (Rn:Nat))) (.bin .add (.bin .mul (.int 16) (.loc 42)) (.bin .mod (.loc 170) (.int 16))) (hp d (u:Nat) G aa)= .ok (.int (16*n+Rn %16:Nat)) (hp d (u:Nat) G aa):=by
  refine Eq.trans (b:= .ok (.int (16*(n:Int)+(Rn:Int).fmod 16)) (hp d (u:Nat) G aa)) (by kernel_rfl) ?_;rw[show(Rn:Int).fmod 16=((Rn %16:Nat):Int)from u7 (m:=16)];rfl
 obtain⟨l1,e1⟩: ∃l1,upd (upd (upd (upd (upd (upd (upd (laL l S ls) 138 (.int (N:Nat))) 196 (.int (w:Nat))) 42 (.int (n:Nat))) 57 (.int (k:Nat))) 167 (.int (way:Nat))) 170 (.int (Rn:Nat))) 14 (.int (16*n+Rn %16:Nat))=F3 l1 S ls w n (Rn %16) k way Rn:=⟨_,(Z8 (by rfl) (by rfl) (by rfl) (by rfl) (by rfl) (by rfl) (by rfl) (by rfl) (by rfl) (by rfl) (by rfl) (by rfl) (by rfl) (by rfl)).symm⟩
 obtain⟨aq,d',u',G',r',hb,Gd'⟩:=body (m:=m) (l:=l1) (S:=S) (way:=way) (Rn:=Rn) Gd hj hi hw hn ho hk;exact⟨aq,_,d',u',G',r',H8 (af:=hp d (u:Nat) G aa) h0 (by kernel_rfl) (w1 h1 (by rw[e1];exact hb)),⟨w,n,_,k,hw,hn,ho,hk,rfl⟩,Gd'⟩
noncomputable abbrev lpM(C:Cx):AV->Loc->H->RS:=λa l J=>match v5 C a (.name 138) l J with | .ok l' ae=>execB C bMn l' ae |_=> .bad
theorem a0e: ∀(ns:List Nat) l ls d u G aa j,Good room d u G aa j->IsItm ls->j+ns.length<=35->
  ∃aq ls' d' u' G' rest',l8 (lpM (cm (m+10))) (ns.map λn=>AV.int ((n:Nat):Int)) (laL l S ls) (hp d (u:Nat) G aa)= .next (laL aq S ls') (hp d' (u':Nat) G' rest')/\Good room d' u' G' rest' (j+ns.length)
 |[],l,ls,d,u,G,aa,j,Gd,_,_=>⟨l,ls,d,u,G,aa,rfl,Gd⟩
 |N::ns,l,ls,d,u,G,aa,j,Gd,hi,hj=>by
  rw[List.length_cons]at hj;obtain⟨aq,dm,bU,dM,ak,aW,h,dn,dq⟩:=a8q (m:=m) (l:=l) (S:=S) (N:=N) Gd (by lia) hi;obtain⟨aP,dt,bS,dN,aA,aU,h2,du⟩:=a0e ns aq dm bU dM ak aW (j+1) dq dn (by lia);exact⟨aP,dt,bS,dN,aA,aU,lpn h h2,by rw[List.length_cons, <-Nat.add_assoc,Nat.add_right_comm];exact du⟩
end
end
section
noncomputable abbrev laI(l:Loc)(S:Nat)(ls:AV)(w:Nat):Loc:=upd (laL l S ls) 196 (.int (w:Nat))
theorem c7g{l:Loc}{S w:Nat}{ls:AV}(h1:l 84= .obj 8)(h2:l 114= .obj 9)(h3:l 168= .obj 10)(h4:l 195=rts)(h5:l 194=ows)(h6:l 188=mds)(h7:l 143= .int (S:Nat))(h8:l 199=ls)(h9:l 196= .int (w:Nat)):laI l S ls w=l:=by
 unfold laI;rw[a9p h1 h2 h3 h4 h5 h6 h7 h8,i7 h9]
noncomputable def bFo:MSs:=match tl (tl (tl (tl (tl (tl (tl (tl (tl b55))))))))with | .cons (.forS _ _ b) _=>b |_=> .nil
noncomputable def bFi:MSs:=match bFo with | .cons (.forS _ _ b) _=>b |_=> .nil
noncomputable abbrev il(ns:List Nat):List AV:=ns.map λn=>AV.int ((n:Nat):Int)
noncomputable abbrev lpN(C:Cx)(x:Nat)(b:MSs):AV->Loc->H->RS:=λa l J=>match v5 C a (.name x) l J with | .ok l' ae=>execB C b l' ae |_=> .bad
section
variable{d G:List (Int×AV)}{aa:H}{u m j room S w n:Nat}{ls:AV}{l:Loc}
theorem d0a(hw:w<2):Arg (cm m) (upd (laI l S ls w) 42 (.int (n:Nat))) (.idx (.loc 195) (.loc 196)) (.idx (.loc 194) (.loc 196)) (.bin .add (.bin .mul (.int 16) (.loc 42)) (.int 9)) (.int 1) w n 9 1 where
 r:=b5o hw (by rfl) (by rfl)
 w:=b5q hw (by rfl) (by rfl)
 a J:=by kernel_rfl
 k J:=by kernel_rfl
 q J:=by kernel_rfl
theorem b0r(hw:w<2)(hj:j<=35): ∀(ns:List Nat) l d aa,(∀n∈ns,n<16)->Good room d u G aa j->
  ∃aq d' rest',l8 (lpN (cm (m+10)) 42 bFi) (il ns) (laI l S ls w) (hp d (u:Nat) G aa)= .next (laI aq S ls w) (hp d' (u:Nat) G rest')/\Good room d' u G rest' j
 |[],l,d,aa,_,Gd=>⟨l,d,aa,rfl,Gd⟩
 |n::ns,l,d,aa,hn,Gd=>by
  obtain⟨bU,aW,h,ak⟩:=chk (m:=m) Gd hj (d0a (m:=m+10) (l:=l) (S:=S) (ls:=ls) (n:=n) hw) hw (hn n (List.mem_cons_self ..)) (by decide) (by decide);have e:=c7g (l:=upd (laI l S ls w) 42 (.int (n:Nat))) (S:=S) (w:=w) (ls:=ls) (by rfl) (by rfl) (by rfl) (by rfl) (by rfl) (by rfl) (by rfl) (by rfl) (by rfl);obtain⟨aP,bS,aU,h2,aA⟩:=b0r hw hj ns (upd (laI l S ls w) 42 (.int (n:Nat))) bU aW (λw hw=>hn w (List.mem_cons_of_mem _ hw)) ak;rw[e]at h2;exact⟨aP,bS,aU,lpn (if0 h rfl) h2,aA⟩
theorem b0q(Gd:Good room d u G aa j)(hw:w<2)(hj:j<=35): ∃aq d' rest',lpN (cm (m+10)) 196 bFo (.int (w:Nat)) (laL l S ls) (hp d (u:Nat) G aa)= .next (laL aq S ls) (hp d' (u:Nat) G rest')/\Good room d' u G rest' j:=by
 have hn: ∀n∈[0,3,5,6,7,S %16],n<16:=λn hn=>by
  simp only [List.mem_cons,List.not_mem_nil,or_false]at hn;rcases hn with rfl |rfl |rfl |rfl |rfl |rfl<;>first |exact Nat.mod_lt _ (by decide) |decide
 obtain⟨aq,d',r',h,G'⟩:=b0r (m:=m) (S:=S) (ls:=ls) hw hj _ l d aa hn Gd;refine⟨laI aq S ls w,d',r', ?_,G'⟩;rw[a9p (l:=laI aq S ls w) (by rfl) (by rfl) (by rfl) (by rfl) (by rfl) (by rfl) (by rfl) (by rfl)];refine a2n (v:= .tup (il [0,3,5,6,7,S %16])) (ae:=hp d (u:Nat) G aa) ?_ rfl rfl h rfl;refine Eq.trans (b:= .ok (.tup [.int 0, .int 3, .int 5, .int 6, .int 7, .int ((S:Int).fmod 16)]) (hp d (u:Nat) G aa)) (by kernel_rfl) ?_;rw[show(S:Int).fmod 16=((S %16:Nat):Int)from u7 (m:=16)];rfl
theorem c32(Gd:Good room d u G aa j)(hj:j<=35): ∃aq d' rest',l8 (lpN (cm (m+10)) 196 bFo) (il [0,1]) (laL l S ls) (hp d (u:Nat) G aa)= .next (laL aq S ls) (hp d' (u:Nat) G rest')/\Good room d' u G rest' j:=by
 obtain⟨aq,bU,aW,h1,ak⟩:=b0q (m:=m) (l:=l) (S:=S) (ls:=ls) (w:=0) Gd (by decide) hj;obtain⟨aP,bS,aU,h2,aA⟩:=b0q (m:=m) (l:=aq) (S:=S) (ls:=ls) (w:=1) ak (by decide) hj;exact⟨aP,bS,aU,lpn h1 (lpn h2 rfl),aA⟩
end
end
section
theorem a9z{α:Type}{C:Cx}{l:Loc}{J:H}{it elt:ME}{conds:MBs}{x:Nat}{free:List Nat}{xs:List α}(e:α->AV)(g:α->Bool)(y:α->AV)(hi:a6 C l it J= .ok (.lst (xs.map e)) J)(hz:C.hz=true)(hp:n9 xs.length=true)
  (hf: ∀a∈xs,allE C (upd (only free l) x (e a)) conds J= .ok (g a) J/\a6 C (upd (only free l) x (e a)) elt J= .ok (y a) J):a6 C l (.lcomp x free it conds elt) J= .ok (.lst ((xs.filter g).map y)) J:=by
 refine c8 hi ?_;show c6 R.bad (C.hz&&n9 (xs.map e).length&&true) _=_;rw[List.length_map,hz,hp];refine(c8 (Y7 e (λa=>match g a with |true=>some (y a) |false=>none) xs λa hm=> ?_) rfl).trans ?_
 ·obtain⟨h1,h2⟩:=hf a hm
  refine c8 h1 ?_;cases g a with
  |false=>rfl
  |true=>exact c8 h2 rfl
 ·refine congrArg (λl=>R.ok (AV.lst l) J) ?_
  clear hi hp hf
  induction xs with
  |nil=>rfl
  |cons a r ih=>
   rw[List.filterMap_cons,List.filter_cons];cases g a with
   |false=>exact ih
   |true=>
    show y a::_=_;rw[ih];rfl
theorem c4a{α:Type}{r s:List α}{x y:α}:(r++x::s).set r.length y=r++y::s:=by
 rw[List.set_append_right _ _ (Nat.le_refl _),Nat.sub_self];rfl
section
variable{d:List (Int×AV)}{p g0 h0:AO}{aa:H}{m:Nat}
theorem a0j{room:Nat}(hr:1<=room):a7 TT (m+1) 26 [.obj (aa.length+10), .obj 8, .int (room:Nat)] (hb d p g0 h0 (aa++[AO.inst 4 (λ_=> .undef)]))= .ok .none (hb d p g0 h0 ((aa++[AO.inst 4 (qf 0 (aa.length+1) (room:Nat))])++[AO.tdict []])):=by
 have st: ∀{e:ME}{v:AV}{n:Nat}{r:MSs}{x:RS}(f:Nat->AV),a6 (cm m) (bl r26 [.obj (aa.length+10), .obj 8, .int (room:Nat)]) e (hb d p g0 h0 (aa++[AO.inst 4 f]))= .ok v (hb d p g0 h0 (aa++[AO.inst 4 f]))->(TT.fld 4 n&&decide (n<256))=true->
   execB (cm m) r (bl r26 [.obj (aa.length+10), .obj 8, .int (room:Nat)]) (hb d p g0 h0 (aa++[AO.inst 4 (upd f n v)]))=x->execB (cm m) (.cons (.assign (.attr (.loc 10) n) e) r) (bl r26 [.obj (aa.length+10), .obj 8, .int (room:Nat)]) (hb d p g0 h0 (aa++[AO.inst 4 f]))=x:=
  λ{e v n r x} f he hf hx=>H8 (ae:=hb d p g0 h0 (aa++[AO.inst 4 f])) (af:=hb d p g0 h0 (aa++[AO.inst 4 (upd f n v)])) he ((sia (id:=aa.length+10) (c:=4) (f:=f) (by kernel_rfl) (j7 (J:=aa)) hf).trans (congrArg (λτ=>R.ok _ (hb d p g0 h0 τ)) I8)) hx
 have hlen:(aa++[AO.inst 4 (upd (upd (upd (λ_=> .undef) 84 (.obj 8)) 64 (.obj 2)) 83 (.int (room:Nat)))]).length=aa.length+1:=by rw[List.length_append];rfl
 refine m5 (l':=bl r26 [.obj (aa.length+10), .obj 8, .int (room:Nat)]) r26 (by rfl) (by rfl) (iz (tst (b:=decide ((room:Int)<1)) (by kernel_rfl) (decide_eq_false (by lia))) (st (v:= .obj 8) _ (by kernel_rfl) (by kernel_rfl) (st (v:= .obj 2) _ (at_ (id:=8) (c:=3) (f:=k7) (by kernel_rfl) rfl (by kernel_rfl) rfl nofun) (by kernel_rfl) (st (v:= .int (room:Nat)) _ (by kernel_rfl) (by kernel_rfl)
  (H8 (v:= .obj (aa.length+1+10)) (ae:=hb d p g0 h0 ((aa++[AO.inst 4 (upd (upd (upd (λ_=> .undef) 84 (.obj 8)) 64 (.obj 2)) 83 (.int (room:Nat)))])++[AO.tdict []])) ?_ ((sia (J:=hb d p g0 h0 ((aa++[AO.inst 4 (upd (upd (upd (λ_=> .undef) 84 (.obj 8)) 64 (.obj 2)) 83 (.int (room:Nat)))])++[AO.tdict []])) (id:=aa.length+10) (c:=4) (f:=upd (upd (upd (λ_=> .undef) 84 (.obj 8)) 64 (.obj 2)) 83 (.int (room:Nat))) (by kernel_rfl) (i9 (j7 (J:=aa))) (by kernel_rfl)).trans (congrArg (λτ=>R.ok _ (hb d p g0 h0 τ)) ?_)) rfl)))))
 ·rw[<-hlen];rfl
 ·show((aa++[_])++[AO.tdict []]).set aa.length _=(aa++[_])++[AO.tdict []]
  rw[List.append_assoc,List.append_assoc];exact c4a
end
section
variable{d:List (Int×AV)}{P Gv Hv:AO}{aa:H}{W:Int->Int}{X:Sx}{m r n o k jq kj c a:Nat}{v:Int}{D:KD}
structure QE(aa:H)(jq kj:Nat)(D:KD):Prop where
 q:aa[jq]? =some (AO.inst 4 (qf 0 kj ((1:Nat):Int)))
 k:aa[kj]? =some (AO.tdict D)
theorem b87(I:Inv d W X)(hl:d.length<=500)(Q:QE aa jq kj [])(hr:r<2)(hn:n<16)(ho:o<16)(hk:k<3)(e:M8 (X r (n/4)) n k=some c): ∃d' W',a7 TT (m+10) 52 (tdA (ro r) (jq+10) (16*n+o:Nat) k) (hb d P Gv Hv aa)= .ok (.int (16*c+o:Nat)) (hb d' P Gv Hv (aa.set kj (AO.tdict [(kq (ro r) (n:Nat) k 0 0 0,((16*c:Nat):Int))])))/\Inv d' W' X/\d'.length=d.length:=by
 cases a2p (P:=P) (Gv:=Gv) (Hv:=Hv) (aa:=aa) (m:=m+1) I hr hn ho hk hl with
 |no e'=>rw[e]at e';cases e'
 |ok c' d' W' e' q I' l=>
  rw[e]at e';cases e';have t:=a13 Q.q rfl Q.k (a:=((16*n+o:Nat):Int)) (k:=k) (md:=0) (s:=0) (x:=0) (ro:=ro r) rfl rfl rfl (by decide) q;rw[s0 ho,Z1 ho]at t;exact⟨d',W',I9 (.inr rfl) hk Q.q (by kernel_rfl) (by kernel_rfl) t,I',l⟩
theorem a30{k k':List KA}(h:k≠k'):a9 [(k,v)] k'=none:=by
 rw[n0,if_neg h];rfl
theorem c5m{ro':Int}(h:a≠n):kq ro' (a:Nat) k 0 0 0≠kq ro' (n:Nat) k 0 0 0:=λe=>h (Int.ofNat.inj (KA.i.inj (List.cons.inj e).1))
theorem c0l(I:Inv d W X)(hl:d.length<=500)(Q:QE aa jq kj [(kq (ro r) (a:Nat) k 0 0 0,v)])(ha:a≠n)(hr:r<2)(hn:n<16)(ho:o<16)(hk:k<3)(e:M8 (X r (n/4)) n k=some c): ∃d' W' r2,a7 TT (m+10) 52 (tdA (ro r) (jq+10) (16*n+o:Nat) k) (hb d P Gv Hv aa)= .ok (.int (16*c+o:Nat)) (hb d' P Gv Hv r2)/\Inv d' W' X/\d'.length=d.length/\QE r2 jq aa.length [(kq (ro r) (n:Nat) k 0 0 0,((16*c:Nat):Int))]/\Keep aa r2:=by
 cases a2p (P:=P) (Gv:=Gv) (Hv:=Hv) (aa:=aa) (m:=m+1) I hr hn ho hk hl with
 |no e'=>rw[e]at e';cases e'
 |ok c' d' W' e' q I' l=>
  rw[e]at e';cases e';have t:=a1w Q.q rfl Q.k (a:=((16*n+o:Nat):Int)) (k:=k) (md:=0) (s:=0) (x:=0) (ro:=ro r) (by rw[s0 ho];exact a30 (c5m ha)) rfl (Int.le_refl 1) q;rw[s0 ho,Z1 ho]at t;have hq:(aa++[AO.tdict []])[jq]? =some _:=i9 Q.q;have k1:((aa++[AO.tdict []]).set jq (AO.inst 4 (qf 0 aa.length ((1:Nat):Int))))[aa.length]? =some (AO.tdict []):=v3 j7 hq nofun;exact⟨d',W',_,I9 (.inr rfl) hk Q.q (by kernel_rfl) (by kernel_rfl) t,I',l,⟨v3 (B6 hq) k1 nofun,B6 k1⟩, .trans (.trans .app (.set hq nofun nofun)) (.set k1 nofun nofun)⟩
theorem b68(Q:QE aa jq kj D)(ho:o<16)(hk:k<3)(h:a9 D (kq (ro r) (n:Nat) k 0 0 0)=some ((16*c:Nat):Int)):a7 TT (m+10) 52 (tdA (ro r) (jq+10) (16*n+o:Nat) k) (hb d P Gv Hv aa)= .ok (.int (16*c+o:Nat)) (hb d P Gv Hv aa):=by
 refine I9 (.inr rfl) hk Q.q (by kernel_rfl) (by kernel_rfl) ((a15 Q.q Q.k (by rw[s0 ho];exact h)).trans ?_);rw[b4p ho,c79 ho]
theorem c3f(I:Inv d W X)(hl:d.length<=500)(Q:QE aa jq kj D)(hr:r<2)(hn:n<16)(ho:o<16)(hk:k<3)(h:a9 D (kq (ro r) (n:Nat) k 0 0 0)=none)(e:M8 (X r (n/4)) n k=none):a7 TT (m+10) 52 (tdA (ro r) (jq+10) (16*n+o:Nat) k) (hb d P Gv Hv aa)= .ok (.tup [.int (pf k), .int (16*n+o:Nat)]) (hb d P Gv Hv (aa++[X5 k (16*n+o:Nat)])):=by
 cases a2p (P:=P) (Gv:=Gv) (Hv:=Hv) (aa:=aa) (m:=m+1) I hr hn ho hk hl with
 |ok c' d' W' e'=>rw[e]at e';cases e'
 |no e' c=>exact b1c (τ:=hb d P Gv Hv aa) (.inr rfl) hk Q.q (by kernel_rfl) (by kernel_rfl) (a43 Q.q rfl Q.k (by rw[s0 ho];exact h) c)
end
end
section
noncomputable def gX(x:Nat->Fs)(a:Int):Bool:=match a with
 | .ofNat n=>match smp (x (n/4)) (n %4)with |some g=>bitAnd (g.f:Int) 18==18 |none=>false
 | .negSucc _=>false
theorem b5j{x:Nat->Fs}{a:Int}(h:a<0):gX x a=false:=match a,h with
 | .ofNat n,h=>absurd h (Int.not_lt.mpr (Int.natCast_nonneg n))
 | .negSucc _,_=>rfl
theorem b03{x:Nat->Fs}{n:Nat}{g:Pg}(h:smp (x (n/4)) (n %4)=some g):gX x (n:Nat)=(bitAnd (g.f:Int) 18==18):=by
 show(match smp (x (n/4)) (n %4)with |some g=>bitAnd (g.f:Int) 18==18 |none=>false)=_;rw[h]
theorem c52{f:Nat}(h:(bitAnd (f:Int) 18==18)=true):nay 1 f=false:=by
 have e:f&&&18=18:=by
  have h':((f&&&18:Nat):Int)=18:=(bA f 18).symm.trans (eq_of_beq h);exact Int.ofNat.inj h'
 have k: ∀z,18&&&z=z->f&&&z=z:=λz hz=>by
  have:(f&&&18)&&&z=18&&&z:=by rw[e]
  rwa [Nat.and_assoc,hz]at this
 have e16:bitAnd (f:Int) 16=16:=(bA f 16).trans (congrArg _ (k 16 rfl));have e2:bitAnd (f:Int) 2=2:=(bA f 2).trans (congrArg _ (k 2 rfl));unfold nay ndK;rw[e16];show(false||bitAnd (f:Int) 2==0)=false;rw[e2];rfl
section
variable{O:List (Int×AV)}{L:List Int}{J af:H}{m w n c jq:Nat}{x:Nat->Fs}{l:Loc}{a b:Int}{v:AV}{g:Pg}
theorem b66{C:Cx}(h:J[2+w+10]? =some (.idict O))(h1:l 140= .obj (2+w+10))(h2:l 42= .int a)(hv:a9 O a=some v):a6 C l (.idx (.loc 140) (.loc 42)) J= .ok v J:=by
 refine ixo (id:=2+w+10) (y:= .int a) (a0r h1) (D1 h2) h ?_;show g9 R.bad (a9 O a) _=_;rw[hv];rfl
theorem c3s(h:J[2+w+10]? =some (.idict O))(Q:Ow x O L)(hl:O.length<64)(h1:l 140= .obj (2+w+10)): ∃F:List Int,a6 (cm m) l (.lcomp 42 [140] (.call (.glo 163) (Es [.loc 140])) (Ts [.ops true (Ts [.of (.cmp .ge (.loc 42) (.int 0)), .of (.cmp .eq (.bin .and (.idx (.idx (.loc 140) (.loc 42)) (.int 1)) (.int 18)) (.int 18))])]) (.loc 42)) J= .ok (.lst (F.map .int)) J/\F.Nodup/\F.length<64/\ ∀a∈F, ∃(n:Nat)(g:Pg),a=n/\n<16/\smp (x (n/4)) (n %4)=some g/\(bitAnd (g.f:Int) 18==18)=true:=by
 have hp:=D3 (lt:=λa b:Int=>decide (a<b)) (O.map (·.1));have hin: ∀a∈K8 (λa b:Int=>decide (a<b)) (O.map (·.1)),(∃(n:Nat)(g:Pg),a=n/\n<16/\smp (x (n/4)) (n %4)=some g)\/a<0:=λa ha=>by
  obtain⟨q,hq,rfl⟩:=List.mem_map.mp (hp.mem_iff.mp ha);obtain⟨n,hn,e |e⟩:=Q.K q hq
  ·obtain⟨v,hv⟩:=N6 (k:=q.1) (v:=q.2) hq
   rw[e,Q.s n hn]at hv;cases c:smp (x (n/4)) (n %4)with
   |none=>rw[c]at hv;cases hv
   |some g=>exact .inl ⟨n,g,e,hn,c⟩
  ·exact .inr (by rw[e];lia)
 have hlen:(K8 (λa b:Int=>decide (a<b)) (O.map (·.1))).length<64:=by rw[hp.length_eq,List.length_map];exact hl
 have hs:a6 (cm m) l (.call (.glo 163) (Es [.loc 140])) J= .ok (.lst ((K8 (λa b:Int=>decide (a<b)) (O.map (·.1))).map .int)) J:=by
  refine c8 (x:= .bi .sorted) (ae:=J) (by kernel_rfl) (c8 (x:=[.obj (2+w+10)]) (ae:=J) (c8 (a0r h1) rfl) ?_);show W9 R.bad J[2+w+10]? _=_;rw[h];show c6 R.bad (decide (O.length<64)) _=_;rw[decide_eq_true hl];rfl
 refine⟨(K8 (λa b:Int=>decide (a<b)) (O.map (·.1))).filter (gX x),a9z AV.int (gX x) AV.int hs rfl (decide_eq_true (Nat.le_trans (Nat.le_of_lt hlen) (by decide))) λa ha=>⟨al1 ?_,by kernel_rfl⟩,(List.filter_sublist).nodup (hp.symm.nodup Q.N),Nat.lt_of_le_of_lt (List.length_filter_le ..) hlen,λa ha=> ?_⟩
 ·have t0:tstE (cm m) (upd (only [140] l) 42 (.int a)) (.of (.cmp .ge (.loc 42) (.int 0))) J= .ok (decide (0<=a)) J:=by kernel_rfl
  rcases hin a ha with ⟨n,g,rfl,hn,e⟩ |hneg
  ·rw[b03 e]
   have t1:tstE (cm m) (upd (only [140] l) 42 (.int (n:Nat))) (.of (.cmp .eq (.bin .and (.idx (.idx (.loc 140) (.loc 42)) (.int 1)) (.int 18)) (.int 18))) J= .ok (bitAnd (g.f:Int) 18==18) J:=
    cmi (x:= .int (bitAnd (g.f:Int) 18)) (y:= .int 18) (j6 (x:=(g.f:Int)) (y:=18) (c8 (b66 (C:=cm m) (O:=O) h h1 rfl (by rw[Q.s n hn,e];rfl)) (c8 rfl (by kernel_rfl))) (by kernel_rfl) rfl) (by kernel_rfl) (by kernel_rfl)
   refine u4 t0 (decide_eq_true (Int.natCast_nonneg n)) ?_;cases y:(bitAnd (g.f:Int) 18==18)with
   |true=>exact u4 t1 y rfl
   |false=>exact a4w t1 y
  ·rw[b5j hneg]
   exact a4w t0 (decide_eq_false (Int.not_le.mpr hneg))
 ·obtain⟨h1,h2⟩:=List.mem_filter.mp ha
  rcases hin a h1 with ⟨n,g,rfl,hn,e⟩ |hneg
  ·exact⟨n,g,rfl,hn,e,by rw[b03 e]at h2;exact h2⟩
  ·rw[b5j hneg]at h2;cases h2
end
noncomputable def bL3:MSs:=match tl (tl (tl b54))with | .cons (.forS _ _ b) _=>b |_=> .nil
noncomputable def bL4:MSs:=match tl (tl (tl (tl b54)))with | .cons (.forS _ _ b) _=>b |_=> .nil
section
variable{O:List (Int×AV)}{J af:H}{m w n c jq o:Nat}{l:Loc}{v:AV}{g:Pg}{ea:ME}{y:R AV}
theorem d0f(h1:l 192= .obj (jq+10))(h2:l 75= .int (ro w))(ha:a6 (cm m) l ea J= .ok (.int (16*n+o:Nat)) J)(ht:a7 TT m 52 (tdA (ro w) (jq+10) (16*n+o:Nat) 1) J=y):a6 (cm m) l (.call (.glo 171) (.cons (.loc 192) (.cons (.loc 75) (.cons ea (.cons (.int 1) .nil))))) J=y:=
 b5i (i:=52) (vs:=tdA (ro w) (jq+10) (16*n+o:Nat) 1) (ae:=J) (by kernel_rfl) (c8 (a0r h1) (c8 (c8 (D1 h2) (c8 (c8 ha (c8 (c8 rfl rfl) rfl)) rfl)) rfl)) ht
theorem s3(h1:l 192= .obj (jq+10))(h2:l 75= .int (ro w))(h3:l 42= .int (n:Nat))(h4:l 38= .int (16*c:Nat))(ht:a7 TT m 52 (tdA (ro w) (jq+10) (16*n+4:Nat) 1) J= .ok (.int (16*c+4:Nat)) af):execB (cm m) bL3 l J= .next l af:=
 if0 (cmj (d0f h1 h2 (j6 (x:=16*(n:Int)) (y:=4) (j6 (x:=16) (y:=(n:Int)) rfl (D1 h3) (by kernel_rfl)) rfl rfl) ht) (j6 (x:=((16*c:Nat):Int)) (y:=4) (D1 h4) rfl rfl) a2u) rfl
theorem s4(h1:l 114= .obj 9)(h2:l 75= .int (ro w))(h3:l 42= .int (n:Nat))(h4:l 38= .int (16*c:Nat))(h5:l 140= .obj (2+w+10))(hT:J[9]? =some (.inst 5 y0))(hc:a7 TT m 38 [.obj 9, .int (ro w), .int (16*n:Nat)] J= .ok (.int (16*c:Nat)) af)
  (hO:af[2+w+10]? =some (.idict O))(hf:n9 O.length=true)(hv:a9 O (n:Nat)=some v):execB (cm m) bL4 l J= .next l (af.set (2+w+10) (.idict (o8 O (n:Nat)))):=
 if0 (cmj (z6 (id:=9) (ae:=J) (af:=J) (c:=5) (f:=y0) (i:=38) (vs:=[.int (ro w), .int (16*n:Nat)]) (a0r h1) hT (by kernel_rfl) (by kernel_rfl) (c8 (D1 h2) (c8 (c8 (j6 (x:=16) (y:=(n:Int)) rfl (D1 h3) (by kernel_rfl)) rfl) rfl)) hc) (D1 h4) a2u) (ex (v:=v) (d2l (a0r h5) hO (D1 h3) hf hv) rfl)
end
end
section
theorem d0c{a b:Int}{J:H}:w0 .eq (.tup [.int a, .int b]) (.tup [.int a, .int b]) J= .ok (.bool true) J:=by
 exact Eq.trans (b:=R.ok (AV.bool ((a==a)&&((b==b)&&true))) J) (by kernel_rfl) (by rw[BEq.rfl,BEq.rfl];rfl)
theorem evs{C:Cx}{l:Loc}{e:ME}{J:H}{x:AV}{f:AV->H->R AV}{y:R AV}(h:a6 C l e J= .ok x J)(k:f x J=y):(a6 C l e J).bind f=y:=c8 h k
theorem Z7{x:Fs}{s:Nat}{g:Pg}(h:smp x s=some g): ∃k p,x= .tab k p/\p s=some g:=by
 cases x with
 |no=>cases h
 |big _=>cases h
 |tab k p=>exact⟨k,p,rfl,h⟩
theorem b00{x:Fs}{k k' n:Nat}{p:Nat->Option Pg}{g:Pg}(e:x= .tab k p)(h:p (n %4)=some g)(y:nay k' g.f=false):M8 x n k'=some g.c:=by
 subst e;show(p (n %4)).bind _=_;rw[h];show(match nay k' g.f with |true=>none |false=>some g.c)=_;rw[y]
section
variable{d G:List (Int×AV)}{aa:H}{W:Int->Int}{X:Sx}{u m j w n:Nat}
theorem c7h{J:H}{x:AO}{n:Nat}(h:J.length=n):(J++[x])[n]? =some x:=by subst h;exact j7
theorem b65{r k r' n':Nat}{p:Nat->Option Pg}{v:Option Pg}(t:Tv (X r (n/4)) k p)(hn:n'≠n):smp (o5 X r (n/4) (.tab k (s8 p (n %4) v)) r' (n'/4)) (n' %4)=smp (X r' (n'/4)) (n' %4):=by
 by_cases c:r'=r/\n'/4=n/4
 ·rw[c.1,c.2,n5,t.smp]
  show s8 p (n %4) v (n' %4)=_;rw[a23 (b70 c.2 hn)]
 ·rw[m8 c]
noncomputable abbrev loA(w:Nat):List AV:=[.obj 8, .obj 9, .int (ro w), .obj (2+w+10)]
noncomputable abbrev a2k(aa:H):H:=(aa++[AO.inst 4 (qf 0 (aa.length+1) ((1:Nat):Int))])++[AO.tdict []]
theorem len1{x:AO}:(aa++[x]).length=aa.length+1:=by rw[List.length_append];rfl
theorem qe1:QE (a2k aa) aa.length (aa.length+1) []:=⟨i9 j7,c7h len1⟩
theorem new1{l:Loc}(h:l 84= .obj 8):a6 (cm (m+2)) l (.call (.glo 175) (Es [.loc 84, .int 1])) (hp d (u:Nat) G aa)= .ok (.obj (aa.length+10)) (hp d (u:Nat) G (a2k aa)):=
 c37 (c:=4) (i:=26) (vs:=[.obj 8, .int ((1:Nat):Int)]) (ae:=hp d (u:Nat) G aa) (o:=AO.inst 4 (λ_=> .undef)) (by kernel_rfl) (c8 (a0r h) (c8 (c8 rfl rfl) rfl)) (by kernel_rfl) (by kernel_rfl) (a0j (m:=m+1) (room:=1) (Nat.le_refl 1))
noncomputable abbrev tpl(n c:Nat):AV:= .tup [.int (n:Nat), .int (16*c:Nat)]
noncomputable abbrev loL(w:Nat)(F:List AV)(q:Nat)(na ca nb cb:Nat):Loc:=upd (upd (upd (bl r54 (loA w)) 164 (.lst F)) 192 (.obj (q+10))) 165 (.lst [tpl na ca,tpl nb cb])
theorem d1y{O:List (Int×AV)}{J:H}{l:Loc}{F:List AV}{na nb:Nat}{ga gb:Pg}(h1:l 140= .obj (2+w+10))(h2:l 164= .lst F)(hF:F.take 2=[.int (na:Nat), .int (nb:Nat)])(hf:A1 F.length=true)(h:J[2+w+10]? =some (.idict O))(ha:a9 O (na:Nat)=some (vl ga))(hb:a9 O (nb:Nat)=some (vl gb)):
  a6 (cm m) l (.lcomp 42 [140] (.sliceTo (.loc 164) (.int 2)) .nil (.tup (Es [.loc 42, .idx (.idx (.loc 140) (.loc 42)) (.int 0)]))) J= .ok (.lst [tpl na ga.c,tpl nb gb.c]) J:=by
 have hi:a6 (cm m) l (.sliceTo (.loc 164) (.int 2)) J= .ok (.lst ([(na,ga.c),(nb,gb.c)].map λq:Nat×Nat=>AV.int (q.1:Nat))) J:=by
  refine c8 (V1 h2) (c8 rfl ?_);show c6 R.bad (A1 F.length) (R.ok (AV.lst (F.take 2)) J)=_;rw[hf,hF];rfl
 refine(a9z (λq:Nat×Nat=>AV.int (q.1:Nat)) (λ_=>true) (λq=>tpl q.1 q.2) hi rfl (by kernel_rfl) λq hq=>⟨rfl, ?_⟩).trans rfl;have ev: ∀{n:Nat}{g:Pg},a9 O (n:Nat)=some (vl g)->a6 (cm m) (upd (only [140] l) 42 (.int (n:Nat))) (.tup (Es [.loc 42, .idx (.idx (.loc 140) (.loc 42)) (.int 0)])) J= .ok (tpl n g.c) J:=λ{n g} hv=>
  c8 (c8 (D1 rfl) (c8 (c8 (c8 (b66 (C:=cm m) (O:=O) h h1 rfl hv) (c8 rfl (by kernel_rfl:a2v (vl g) (.int 0) J= .ok (.int (16*g.c:Nat)) J))) rfl) rfl)) rfl
 rcases List.mem_cons.mp hq with rfl |hq
 ·exact ev ha
 ·rw[List.mem_singleton.mp hq];exact ev hb
theorem a8r(T:St2 d u G aa W X j)(hw:w<2)(hj:j<=35): ∃ae,a7 TT (m+11) 54 (loA w) (hp d (u:Nat) G aa)= .ok (.bool true) ae:=by
 obtain⟨O,L,h,h2,Q,ol,ll⟩:=T.ow w hw;obtain⟨F,hF,nd,len,mem⟩:=c3s (m:=m+10) (l:=bl r54 (loA w)) (J:=hp d (u:Nat) G aa) h Q (Nat.lt_of_le_of_lt ol (Nat.lt_of_le_of_lt hj (by decide))) (by rfl);have f1:A1 (F.map AV.int).length=true:=decide_eq_true (by rw[List.length_map];exact Nat.le_trans (Nat.le_of_lt len) (by decide));have tl0:tstE (cm (m+10)) (upd (bl r54 (loA w)) 164 (.lst (F.map .int))) (.of (.cmp .lt (.call (.glo 34) (Es [.loc 164])) (.int 2))) (hp d (u:Nat) G aa)= .ok (decide ((F.length:Int)<2)) (hp d (u:Nat) G aa):=by
  refine cmi (x:= .int (F.length:Nat)) (y:= .int 2) (c8 (x:= .bi .len) (ae:=hp d (u:Nat) G aa) (by kernel_rfl) (c8 (x:=[.lst (F.map .int)]) (ae:=hp d (u:Nat) G aa) (c8 (V1 rfl) rfl) ?_)) rfl (by kernel_rfl);show c6 R.bad (A1 (F.map AV.int).length) (R.ok (AV.int ((F.map AV.int).length:Nat)) _)=_;rw[f1,List.length_map];rfl
 have short:F.length<=1-> ∃ae,a7 TT (m+11) 54 (loA w) (hp d (u:Nat) G aa)= .ok (.bool true) ae:=λh1=>
  ⟨hp d (u:Nat) G aa,d6 r54 (by rfl) (by rfl) (w1 hF (irz (tl0.trans (by rw[decide_eq_true (by lia)])) (rt (v:= .bool true) (by kernel_rfl))))⟩
 match F,hF,nd,mem,f1,tl0,short with
 |[],_,_,_,_,_,short=>exact short (Nat.zero_le _)
 |[a],_,_,_,_,_,short=>exact short (Nat.le_refl _)
 |a::b::r,hF,nd,mem,f1,tl0,_=>
  obtain⟨na,ga,rfl,hna,ea,fa⟩:=mem a (.head _);obtain⟨nb,gb,rfl,hnb,eb,fb⟩:=mem b (.tail _ (.head _));have hab:na≠nb:=λc=>(List.nodup_cons.mp nd).1 (c▸ .head _);have oa:a9 O (na:Nat)=some (vl ga):=by rw[Q.s na hna,ea];rfl
  have ob:a9 O (nb:Nat)=some (vl gb):=by rw[Q.s nb hnb,eb];rfl
  obtain⟨ka,pa,xa,pga⟩:=Z7 ea;obtain⟨kb',pb',xb',pgb'⟩:=Z7 eb;have dl:=b75 T hj;have hfO:n9 O.length=true:=b3q ol hj;have e1:=new1 (m:=m+8) (d:=d) (G:=G) (u:=u) (aa:=aa) (l:=upd (bl r54 (loA w)) 164 (.lst (((na:Nat):Int)::((nb:Nat):Int)::r |>.map .int))) (by rfl);have e2:=d1y (m:=m+10) (w:=w) (J:=hp d (u:Nat) G (a2k aa)) (l:=upd (bl r54 (loA w)) 164 (.lst (((na:Nat):Int)::((nb:Nat):Int)::r |>.map .int))) (by rfl) (by rfl) rfl f1 (i9 (i9 h)) oa ob;obtain⟨d1,W1,ht1,I1,l1⟩:=b87 (m:=m) (o:=4) (P:= .inst 2 (E6 (u:Nat))) (Gv:= .list []) (Hv:= .idict G) T.S.I (Nat.le_trans dl (by decide)) (qe1 (aa:=aa)) hw hna (by decide) (by decide) (b00 xa pga (c52 fa));obtain⟨R1,hR1⟩: ∃R1,(a2k aa).set (aa.length+1) (AO.tdict [(kq (ro w) (na:Nat) 1 0 0 0,((16*ga.c:Nat):Int))])=R1:=⟨_,rfl⟩
  have Q1:QE R1 aa.length (aa.length+1) [(kq (ro w) (na:Nat) 1 0 0 0,((16*ga.c:Nat):Int))]:=by rw[<-hR1];exact⟨v3 qe1.q qe1.k nofun,B6 qe1.k⟩
  have O1:R1[2+w]? =some (AO.idict O):=by rw[<-hR1];exact v3 (i9 (i9 h)) qe1.k nofun
  rw[hR1]at ht1;obtain⟨d2,W2,R2,ht2,I2,l2,Q2,K2⟩:=c0l (m:=m) (o:=4) (P:= .inst 2 (E6 (u:Nat))) (Gv:= .list []) (Hv:= .idict G) I1 (by rw[l1];exact Nat.le_trans dl (by decide)) Q1 hab hw hnb (by decide) (by decide) (b00 xb' pgb' (c52 fb));have O2:=K2.d _ _ O1;have ld2:d2.length<=450:=by rw[l2,l1];exact dl
  obtain⟨q3,I3⟩:=a25 (m:=m+5) (P:= .inst 2 (E6 (u:Nat))) (Gv:= .list []) (Hv:= .idict G) (aa:=R2) I2 hw hna xa pga (Nat.le_trans ld2 (by decide));have tva:Tv (X w (na/4)) ka pa:= .inl xa;have eb3:smp (o5 X w (na/4) (.tab ka (s8 pa (na %4) none)) w (nb/4)) (nb %4)=some gb:=(b65 tva hab.symm).trans eb;obtain⟨kb,pb,xb,pgb⟩:=Z7 eb3;have Q3:QE (R2.set (2+w) (AO.idict (o8 O (na:Nat)))) aa.length R1.length [(kq (ro w) (nb:Nat) 1 0 0 0,((16*gb.c:Nat):Int))]:=⟨v3 Q2.q O2 nofun,v3 Q2.k O2 nofun⟩
  have O3:(R2.set (2+w) (AO.idict (o8 O (na:Nat))))[2+w]? =some (AO.idict (o8 O (na:Nat))):=B6 O2;obtain⟨q4',I4⟩:=a25 (m:=m+5) (P:= .inst 2 (E6 (u:Nat))) (Gv:= .list []) (Hv:= .idict G) (aa:=R2.set (2+w) (AO.idict (o8 O (na:Nat)))) I3 hw hnb xb pgb (Nat.le_trans g8 (Nat.le_trans (Nat.succ_le_succ ld2) (by decide)));have Q4:QE ((R2.set (2+w) (AO.idict (o8 O (na:Nat)))).set (2+w) (AO.idict (o8 (o8 O (na:Nat)) (nb:Nat)))) aa.length R1.length [(kq (ro w) (nb:Nat) 1 0 0 0,((16*gb.c:Nat):Int))]:=⟨v3 Q3.q O3 nofun,v3 Q3.k O3 nofun⟩
  have ob3:a9 (o8 O (na:Nat)) (nb:Nat)=some (vl gb):=by rw[J5,if_neg (show ¬((nb:Nat):Int)=((na:Nat):Int)from λz=>hab (Int.ofNat.inj z).symm)];exact ob
  have ht5:=b68 (m:=m) (o:=6) (d:=d9 (d9 d2 ((216+4*ka+na %4:Nat)) 0) ((216+4*kb+nb %4:Nat)) 0) (P:= .inst 2 (E6 (u:Nat))) (Gv:= .list []) (Hv:= .idict G) (k:=1) (n:=nb) (r:=w) (c:=gb.c) Q4 (by decide) (by decide) (by rw[n0,if_pos rfl]);have tn:M8 (o5 (o5 X w (na/4) (.tab ka (s8 pa (na %4) none))) w (nb/4) (.tab kb (s8 pb (nb %4) none)) w (na/4)) na 1=none:=by
   rw[b4z (.inl xb) hab,n5];show(s8 pa (na %4) none (na %4)).bind _=_;rw[b01];rfl
  have ht6:=c3f (m:=m) (o:=4) (P:= .inst 2 (E6 (u:Nat))) (Gv:= .list []) (Hv:= .idict G) I4 (Nat.le_trans g8 (Nat.le_trans (Nat.succ_le_succ (Nat.le_trans g8 (Nat.succ_le_succ ld2))) (by decide))) Q4 hw hna (by decide) (by decide) (a30 (c5m hab.symm)) tn;refine⟨_,d6 r54 (by rfl) (by rfl) (w1 hF (iz (tl0.trans (by rw[decide_eq_false (by rw[List.length_cons,List.length_cons];lia)])) (H8 (af:=hp d (u:Nat) G (a2k aa)) (l':=loL w (((na:Nat):Int)::((nb:Nat):Int)::r |>.map .int) aa.length na ga.c nb gb.c) (c8 (c8 e1 (c8 (c8 e2 rfl) rfl)) rfl) (by kernel_rfl)
   (a2n (v:= .lst [tpl na ga.c,tpl nb gb.c]) (ae:=hp d (u:Nat) G (a2k aa)) (V1 rfl) rfl rfl (lpn (s3 (n:=na) (c:=ga.c) (w:=w) (jq:=aa.length) (by rfl) (by rfl) (by rfl) (by rfl) ht1) (lpn (s3 (n:=nb) (c:=gb.c) (w:=w) (jq:=aa.length) (by rfl) (by rfl) (by rfl) (by rfl) ht2) rfl))
   (a2n (v:= .lst [tpl na ga.c,tpl nb gb.c]) (ae:=hp d2 (u:Nat) G R2) (V1 rfl) rfl rfl (lpn (s4 (n:=na) (c:=ga.c) (w:=w) (by rfl) (by rfl) (by rfl) (by rfl) (by rfl) rfl q3 O2 hfO oa) (lpn (s4 (n:=nb) (c:=gb.c) (w:=w) (by rfl) (by rfl) (by rfl) (by rfl) (by rfl) rfl q4' O3 (b3q (Nat.le_trans a4i ol) hj) ob3) rfl))
   (if0 (cmj (d0f (w:=w) (jq:=aa.length) (n:=nb) (o:=6) (by rfl) (by rfl) (by kernel_rfl) ht5) (by kernel_rfl) a2u)
   (rt (c8 (d0f (w:=w) (jq:=aa.length) (n:=na) (o:=4) (by rfl) (by rfl) (by kernel_rfl) ht6) (evs (x:= .tup [.int (pf 1), .int (16*na+4:Nat)]) (by kernel_rfl) d0c)))))))))⟩
end
end
section
structure St0 (d:List (Int×AV)) (u:Nat) (G:List (Int×AV)) (aa:H) (W:Int->Int) (X:Sx) (j:Nat):Prop where
 S:Sp2 d u W X
 dl:d.length<=12*j+20
 gl:G.length<=j+2
 ow: ∀r,r<2-> ∃O L,aa[2+r]? =some (AO.idict O)/\Ow (X r) O L/\O.length<=j
structure Chg (X X':Sx) (w n:Nat):Prop where
 o: ∀r,r≠w->X' r=X r
 b:(∀f,bgp (X w f)=none)-> ∀f,bgp (X' w f)=none
 s: ∀n',n'≠n->smp (X' w (n'/4)) (n' %4)=smp (X w (n'/4)) (n' %4)
 t: ∀f,isT (X' w f)=(isT (X w f)||f==n/4)
noncomputable abbrev laW(l:Loc)(S w:Nat):Loc:=upd (laB l S) 196 (.int (w:Nat))
noncomputable def bMo:MSs:=match tl (tl (tl (tl (tl (tl b55)))))with | .cons (.forS _ _ b) _=>b |_=> .nil
noncomputable def bMi:MSs:=match bMo with | .cons (.forS _ _ b) _=>b |_=> .nil
section
variable{d G:List (Int×AV)}{aa:H}{W:Int->Int}{X X':Sx}{u m j w n k S:Nat}{p:Nat->Option Pg}{v:Option Pg}{l:Loc}
theorem c7o(t:Tv (X w (n/4)) k p):Chg X (o5 X w (n/4) (.tab k (s8 p (n %4) v))) w n where
 o r hr:=a9l hr
 b h f:=by
  by_cases c:f=n/4
  ·rw[c,n5];rfl
  ·rw[m8 λz=>c z.2];exact h f
 s n' hn:=b65 t hn
 t f:=by
  by_cases c:f=n/4
  ·rw[c,n5,BEq.rfl,Bool.or_true];rfl
  ·rw[m8 λz=>c z.2,beq_eq_false_iff_ne.mpr c,Bool.or_false]
theorem a0b(T:St0 d u G aa W X j)(hj:j<=8)(hw:w<2)(hn:n<16)(hb:bgp (X w (n/4))=none)(hs:smp (X w (n/4)) (n %4)=none): ∃d' u' G' rest' W' X',
  execB (cm (m+7)) bMi (upd (laW l S w) 42 (.int (n:Nat))) (hp d (u:Nat) G aa)= .next (upd (laW l S w) 42 (.int (n:Nat))) (hp d' (u':Nat) G' rest')/\St0 d' u' G' rest' W' X' (j+1)/\Chg X X' w n/\ ∀i,i≠2+w->rest'[i]? =aa[i]? :=by
 obtain⟨O,L,h,Q,ol⟩:=T.ow w hw;have hc:n+20*w<64:=by lia
 obtain⟨d',u',G',W',k,p,call,t,S',dl1,gl1⟩:=c6i (m:=m) (aa:=aa) T.S c6w hc hw hn (Nat.le_trans T.dl (Nat.le_trans (Nat.add_le_add_right (Nat.mul_le_mul_left 12 hj) 20) (by decide))) (Nat.le_trans T.gl (Nat.le_trans (Nat.add_le_add_right hj 2) (by decide))) hs hb;have ew: ∀J:H,a6 (cm (m+7)) (upd (laW l S w) 42 (.int (n:Nat))) (.bin .mul (.int 16) (.bin .add (.loc 42) (.bin .mul (.int 20) (.loc 196)))) J= .ok (.int (16*(n+20*w):Nat)) J:=λJ=>
  j6 (x:=16) (y:=((n+20*w:Nat):Int)) rfl (j6 (x:=(n:Int)) (y:=((20*w:Nat):Int)) (D1 rfl) (j6 (x:=20) (y:=(w:Int)) rfl (D1 rfl) (by kernel_rfl)) rfl) (by kernel_rfl)
 refine⟨d',u',G',aa.set (2+w) (.idict (i5 O (n:Nat) (vl ⟨n+20*w,22⟩))),W',_,ex (v:= .none) (ae:=hp d' (u':Nat) G' aa) ?_ (H8 (v:=vl ⟨n+20*w,22⟩) (ae:=hp d' (u':Nat) G' aa) (c8 (c8 (ew _) (c8 (c8 rfl rfl) rfl)) rfl) (sii (id:=2+w+10) (D:=O) (n:=(n:Nat)) (b5q hw (by rfl) (by rfl) _) (D1 rfl) h (b3q ol (Nat.le_trans hj (by decide)))) rfl), ?_,c7o (v:=some ⟨n+20*w,22⟩) t,λi hi=>List.getElem?_set_ne hi.symm⟩
 ·exact z6 (id:=9) (ae:=hp d (u:Nat) G aa) (af:=hp d (u:Nat) G aa) (c:=5) (f:=y0) (i:=35) (vs:=[.int (ro w), .int (16*n:Nat), .int (16*(n+20*w):Nat), .int (22:Nat)]) (a0r rfl) rfl (by kernel_rfl) (by kernel_rfl)
   (c8 (b5o hw (by rfl) (by rfl) _) (c8 (c8 (j6 (x:=16) (y:=(n:Int)) rfl (D1 rfl) (by kernel_rfl)) (c8 (c8 (ew _) (c8 (c8 rfl rfl) rfl)) rfl)) rfl)) call
 ·refine⟨S',Nat.le_trans dl1 (Nat.le_trans (Nat.add_le_add_right T.dl 10) (by lia)),Nat.le_trans gl1 (Nat.succ_le_succ T.gl),λr hr=> ?_⟩
  by_cases c:r=w
  ·subst c
   exact⟨_,_,B6 h,by rw[b76];exact Q.set hn t,Nat.le_trans x7 (Nat.succ_le_succ ol)⟩
  ·obtain⟨O1,L1,h1,h2,h3⟩:=T.ow r hr
   exact⟨O1,L1,by rw[List.getElem?_set_ne λe=>c (Nat.add_left_cancel e).symm];exact h1,by rw[a9l c];exact h2,Nat.le_succ_of_le h3⟩
theorem d2u:laB (upd (laW l S w) 42 (.int (n:Nat))) S=upd (laW l S w) 42 (.int (n:Nat)):=a0i (by rfl) (by rfl) (by rfl) (by rfl) (by rfl) (by rfl) (by rfl)
theorem b8n:laW (upd (laW l S w) 42 (.int (n:Nat))) S w=upd (laW l S w) 42 (.int (n:Nat)):=by
 unfold laW;rw[d2u];exact i7 rfl
theorem d2h{a b c:Nat}(T:St0 d u G aa W X j)(hj:j<=6)(hw:w<2)(ha:a<16)(hb:b<16)(hc:c<16)(hab:a≠b)(hac:a≠c)(hbc:b≠c)(hX: ∀f,X w f= .no): ∃l' d' u' G' rest' W' X',
  l8 (lpN (cm (m+7)) 42 bMi) (il [a,b,c]) (laW l S w) (hp d (u:Nat) G aa)= .next (laB l' S) (hp d' (u':Nat) G' rest')/\St0 d' u' G' rest' W' X' (j+3)/\(∀r,r≠w->X' r=X r)/\(∀f,isT (X' w f)=(f==a/4||f==b/4||f==c/4))/\(∀i,i≠2+w->rest'[i]? =aa[i]?)/\l' 139=l 139:=by
 have B0: ∀f,bgp (X w f)=none:=λf=>by rw[hX];rfl
 have S0: ∀n:Nat,smp (X w (n/4)) (n %4)=none:=λn=>by rw[hX];rfl
 obtain⟨d1,u1,G1,r1,W1,X1,e1,T1,C1,K1⟩:=a0b (m:=m) (l:=l) (S:=S) T (Nat.le_trans hj (by decide)) hw ha (B0 _) (S0 a);have B1:=C1.b B0;obtain⟨d2,u2,G2,r2,W2,X2,e2,T2,C2,K2⟩:=a0b (m:=m) (l:=upd (laW l S w) 42 (.int (a:Nat))) (S:=S) T1 (Nat.le_trans (Nat.succ_le_succ hj) (by decide)) hw hb (B1 _) ((C1.s b hab.symm).trans (S0 b));have B2:=C2.b B1;obtain⟨d3,u3,G3,r3,W3,X3,e3,T3,C3,K3⟩:=a0b (m:=m) (l:=upd (laW (upd (laW l S w) 42 (.int (a:Nat))) S w) 42 (.int (b:Nat))) (S:=S) T2 (Nat.succ_le_succ (Nat.succ_le_succ hj)) hw hc (B2 _) ((C2.s c hbc.symm).trans ((C1.s c hac.symm).trans (S0 c)));rw[b8n,b8n]at e3;rw[b8n]at e2;refine⟨upd (upd (upd (laW l S w) 42 (.int (a:Nat))) 42 (.int (b:Nat))) 42 (.int (c:Nat)),d3,u3,G3,r3,W3,X3,lpn e1 (lpn e2 (lpn e3 (congrArg (RS.next · _) ?_))),T3,λr hr=>(C3.o r hr).trans ((C2.o r hr).trans (C1.o r hr)),λf=> ?_,λi hi=>(K3 i hi).trans ((K2 i hi).trans (K1 i hi)),by rfl⟩
 ·exact(a0i (l:=upd (upd (upd (laW l S w) 42 (.int (a:Nat))) 42 (.int (b:Nat))) 42 (.int (c:Nat))) (S:=S) (by rfl) (by rfl) (by rfl) (by rfl) (by rfl) (by rfl) (by rfl)).symm
 ·rw[C3.t,C2.t,C1.t,hX];rfl
end
end
section
theorem c0z: ∀ns:List Nat,(ns.map λn=>((n:Nat):Int)).sum=((ns.sum:Nat):Int)
 |[]=>rfl
 |n::r=>by rw[List.map_cons,List.sum_cons,c0z r,List.sum_cons];rfl
theorem b0o: ∀ns:List Nat,M3 (il ns)=some (ns.map λn=>((n:Nat):Int))
 |[]=>rfl
 |n::r=>by
  show(M3 (il r)).map (((n:Nat):Int):: ·)=_;rw[b0o r];rfl
noncomputable def c9(l:List Int):List Nat:=((l.take 10).map λn=>n.natAbs %10^12)++(match l with |[]=>[42,3] |_=>[])
theorem b3y(l:List Int):(c9 l).length<=12:=by
 unfold c9;rw[List.length_append,List.length_map];refine Nat.add_le_add (List.length_take_le ..) (?_:_<=2);cases l with
 |nil=>exact(by decide:2<=2)
 |cons _ _=>exact Nat.zero_le _
section
variable{l:List Int}{m S:Nat}{J:H}
theorem b5a(hl:l.length<=63):a6 (cm m) (bl r55 [.arg l]) (.bin .add (.lcomp 138 [] (.sliceTo (.loc 185) (.int 10)) .nil (.bin .mod (.call (.glo 186) (.cons (.loc 138) .nil)) (.bin .pow (.int 10) (.int 12)))) (.bin .mul (.lstF (.cons (.int 42) (.cons (.int 3) .nil))) (.call (.glo 145) (.cons (.cmp .eq (.loc 185) (.lstF .nil)) .nil)))) J= .ok (.lst (il (c9 l))) J:=by
 have f1:A1 l.length=true:=decide_eq_true (Nat.le_trans hl (by decide));have h1:a6 (cm m) (bl r55 [.arg l]) (.sliceTo (.loc 185) (.int 10)) J= .ok (.lst ((l.take 10).map .int)) J:=by
  refine c8 (x:= .arg l) (ae:=J) (by kernel_rfl) (c8 (x:= .int 10) (ae:=J) (by kernel_rfl) ?_);refine Eq.trans (b:=c6 R.bad (A1 l.length) (.ok (.lst ((l.take 10).map .int)) J)) (by kernel_rfl) ?_;rw[f1];rfl
 have f2:(l.take 10).length<=10:=List.length_take_le ..;have h2:=a9z (C:=cm m) (l:=bl r55 [.arg l]) (x:=138) (free:=[]) (conds:= .nil) (elt:= .bin .mod (.call (.glo 186) (.cons (.loc 138) .nil)) (.bin .pow (.int 10) (.int 12))) AV.int (λ_=>true) (λn=> .int ((n.natAbs %10^12:Nat):Int)) h1 rfl (decide_eq_true (Nat.le_trans f2 (by decide))) λa _=>⟨by kernel_rfl,by
  refine Eq.trans (b:= .ok (.int ((a.natAbs:Int).fmod 1000000000000)) J) (by kernel_rfl) ?_;rw[show(a.natAbs:Int).fmod 1000000000000=((a.natAbs %10^12:Nat):Int)from u7 (m:=10^12)]⟩
 rw[List.filter_eq_self.mpr λ_ _=>rfl]at h2;refine c8 h2 ?_;unfold c9;cases l with
 |nil=>kernel_rfl
 |cons a r=>
  refine c8 (x:= .lst []) (ae:=J) (by kernel_rfl) ?_;show c6 R.bad (true&&n9 ((((a::r).take 10).map λn=>AV.int ((n.natAbs %10^12:Nat):Int)).length+0)) _=_;rw[Bool.true_and,List.length_map,show n9 (((a::r).take 10).length+0)=true from decide_eq_true (Nat.le_trans f2 (by decide))];show R.ok (AV.lst (_++[])) J=_;rw[List.append_nil,List.append_nil];unfold il;rw[List.map_map];rfl
noncomputable abbrev h3:H:=[.inst 0 a1n, .idict [], .inst 1 z5]
noncomputable abbrev h6:H:=[.inst 0 a1n, .idict [], .inst 1 z5, .inst 2 fP0, .list [], .idict []]
noncomputable abbrev h9:H:=[.inst 0 a1n, .idict [], .inst 1 z5, .inst 2 fP0, .list [], .idict [], .inst 6 b2c, .list [], .inst 3 k7]
noncomputable abbrev hq0(aa:H):H:=hb [] (.inst 2 fP0) (.list []) (.idict []) aa
noncomputable abbrev rqA(room:Nat):H:=[AO.inst 4 (qf 0 1 (room:Nat)),AO.tdict []]
noncomputable abbrev rqB(room:Nat):H:=[AO.inst 4 (qf 0 1 (room:Nat)),AO.tdict [],AO.idict [],AO.idict [],AO.list [.int 0, .int 1],AO.list [.int 0, .int 1]]
noncomputable abbrev G2:List (Int×AV):=[(864, .int 1),(880, .int 1)]
noncomputable abbrev lw1(l:List Int):Loc:=upd (upd (upd (upd (bl r55 [.arg l]) 139 (.lst (il (c9 l)))) 143 (.int ((c9 l).sum:Nat))) 90 (.obj 0)) 64 (.obj 2)
noncomputable abbrev lw3(l:List Int):Loc:=upd (upd (lw1 l) 180 (.obj 3)) 84 (.obj 8)
noncomputable abbrev lw4(l:List Int):Loc:=upd (upd (lw3 l) 114 (.obj 9)) 168 (.obj 10)
noncomputable abbrev lw5(l:List Int):Loc:=upd (upd (upd (lw4 l) 195 rts) 194 ows) 188 mds
theorem c65:a6 (cm 11) (upd (bl r55 [.arg l]) 139 (.lst (il (c9 l)))) (.tup (.cons (.call (.glo 184) (.cons (.loc 139) .nil)) (.cons (.call (.glo 183) (.cons (.int 1024) .nil)) (.cons (.call (.glo 182) (.cons (.int 4) .nil)) .nil)))) []= .ok (.tup [.int ((c9 l).sum:Nat), .obj 0, .obj 2]) h3:=by
 refine c8 (x:=[.int ((c9 l).sum:Nat), .obj 0, .obj 2]) (ae:=h3) (c8 (x:= .int ((c9 l).sum:Nat)) (ae:=[]) (c8 (x:= .bi .sum) (ae:=[]) (by kernel_rfl) (c8 (x:=[.lst (il (c9 l))]) (ae:=[]) (by kernel_rfl) ?_)) (by kernel_rfl)) rfl;show g9 R.bad (M3 (il (c9 l))) _=_;rw[b0o];exact congrArg (λx=>R.ok (AV.int x) []) (c0z _)
theorem c6x:a6 (cm 11) (lw1 l) (.call (.glo 181) (.cons (.loc 90) (.cons (.int 864) (.cons (.int 10) (.cons (.int 16) .nil))))) h3= .ok (.obj 3) h6:=by kernel_rfl
theorem c8k:a6 (cm 11) (upd (lw1 l) 180 (.obj 3)) (.call (.glo 176) (.cons (.call (.glo 178) (.cons (.loc 90) .nil)) (.cons (.loc 64) .nil))) h6= .ok (.obj 8) h9:=by kernel_rfl
theorem c9u:a6 (cm 11) (lw3 l) (.tup (.cons (.call (.glo 179) (.cons (.loc 90) (.cons (.loc 64) (.cons (.loc 180) .nil)))) (.cons (.call (.glo 175) (.cons (.loc 84) (.cons (.bin .add (.int 1) (.bin .mod (.loc 143) (.int 4))) .nil))) .nil))) h9= .ok (.tup [.obj 9, .obj 10]) (hq0 (rqA (1+(c9 l).sum %4))):=by
 have e3:a6 (cm 11) (lw3 l) (.bin .add (.int 1) (.bin .mod (.loc 143) (.int 4))) (hq0 [])= .ok (.int ((1+(c9 l).sum %4:Nat):Int)) (hq0 []):=by
  refine j6 (x:=1) (y:=(((c9 l).sum %4:Nat):Int)) rfl (j6 (x:=((c9 l).sum:Int)) (y:=4) (D1 rfl) rfl ?_) rfl;show some (((c9 l).sum:Int).fmod 4)=_;rw[show((c9 l).sum:Int).fmod 4=(((c9 l).sum %4:Nat):Int)from u7 (m:=4)]
 have e4:a6 (cm 11) (lw3 l) (.call (.glo 175) (.cons (.loc 84) (.cons (.bin .add (.int 1) (.bin .mod (.loc 143) (.int 4))) .nil))) (hq0 [])= .ok (.obj 10) (hq0 (rqA (1+(c9 l).sum %4))):=
  c37 (c:=4) (i:=26) (vs:=[.obj 8, .int ((1+(c9 l).sum %4:Nat):Int)]) (ae:=hq0 []) (o:=AO.inst 4 (λ_=> .undef)) (by kernel_rfl) (c8 (a0r rfl) (c8 (c8 e3 rfl) rfl)) (by kernel_rfl) (by kernel_rfl) (a0j (m:=10) (aa:=[]) (room:=1+(c9 l).sum %4) (Nat.le_add_right 1 _))
 exact c8 (c8 (x:= .obj 9) (ae:=hq0 []) (by kernel_rfl) (c8 (c8 e4 rfl) rfl)) rfl
theorem c6y{room:Nat}:a6 (cm 11) (lw4 l) (.tup (Es [.lstF (Es [.meth (.loc 114) 94 .nil, .meth (.loc 114) 94 .nil]), .lstF (Es [.dict0, .dict0]), .lstF (Es [.lstM (Es [.int 0, .int 1]), .lstM (Es [.int 0, .int 1])])])) (hq0 (rqA room))= .ok (.tup [rts,ows,mds]) (hp [] ((2:Nat):Int) G2 (rqB room)):=by
 have e1:a6 (cm 11) (lw4 l) (.meth (.loc 114) 94 .nil) (hq0 (rqA room))= .ok (.int (ro 0)) (hp [] 1 [(864, .int 1)] (rqA room)):=by kernel_rfl
 have e2:a6 (cm 11) (lw4 l) (.meth (.loc 114) 94 .nil) (hp [] 1 [(864, .int 1)] (rqA room))= .ok (.int (ro 1)) (hp [] ((2:Nat):Int) G2 (rqA room)):=by
  refine(show a6 (cm 11) (lw4 l) (.meth (.loc 114) 94 .nil) (hp [] 1 [(864, .int 1)] (rqA room))= .ok (.int (ro 1)) (hb [] (.inst 2 (upd (E6 1) 123 (.int 2))) (.list []) (.idict G2) (rqA room))from by kernel_rfl).trans ?_;show R.ok _ (hb [] (.inst 2 (upd (upd fP0 123 (.int 1)) 123 (.int 2))) (.list []) (.idict G2) (rqA room))=R.ok _ (hb [] (.inst 2 (upd fP0 123 (.int 2))) (.list []) (.idict G2) (rqA room));rw[b8c]
 exact c8 (c8 (c8 (c8 e1 (c8 (c8 e2 rfl) rfl)) rfl) (c8 (x:=[ows,mds]) (ae:=hp [] ((2:Nat):Int) G2 (rqB room)) (by kernel_rfl) rfl)) rfl
end
end
section
theorem a42:Ow (λ_=>Fs.no) [] []:=⟨λ_ _=>rfl,λ_ _=>rfl,nofun, .nil,λ_ _=>rfl⟩
theorem b77{room:Nat}:St0 [] 2 G2 (rqB room) (λ_=>0) (λ_ _=> .no) 0 where
 S:={ I:=⟨λ_=>rfl,λ_ _ _ _=>⟨λ_=>rfl,nofun,nofun⟩,nofun⟩,uk:=nofun,uc:=by kernel_rfl }
 dl:=Nat.zero_le _
 gl:=by decide
 ow r hr:=lt2 (P:=λr=> ∃O L,(rqB room)[2+r]? =some (AO.idict O)/\Ow (λ_=>Fs.no) O L/\O.length<=0) hr ⟨[],[],rfl,a42,Nat.le_refl _⟩ ⟨[],[],rfl,a42,Nat.le_refl _⟩
section
variable{room:Nat}{l:Loc}{S m:Nat}
theorem c8w: ∃l' d u G aa W X j,l8 (lpN (cm (m+7)) 196 bMo) (il [0,1]) (laB l S) (hp [] ((2:Nat):Int) G2 (rqB room))= .next (laB l' S) (hp d (u:Nat) G aa)/\St2 d u G aa W X j/\j<=6/\aa[0]? =some (AO.inst 4 (qf 0 1 (room:Nat)))/\aa[1]? =some (AO.tdict [])/\l' 139=l 139:=by
 obtain⟨l1,d1,u1,G1,r1,W1,X1,e1,T1,o1,t1,K1,L1⟩:=d2h (m:=m) (w:=0) (l:=l) (S:=S) (a:=0) (b:=5) (c:=6) (b77 (room:=room)) (by decide) (by decide) (by decide) (by decide) (by decide) (by decide) (by decide) (by decide) (λ_=>rfl);obtain⟨l2,d2,u2,G2',r2,W2,X2,e2,T2,o2,t2,K2,L2⟩:=d2h (m:=m) (w:=1) (l:=l1) (S:=S) (a:=3) (b:=5) (c:=7) T1 (by decide) (by decide) (by decide) (by decide) (by decide) (by decide) (by decide) (by decide) (λf=>by rw[o1 1 (by decide)]);have it: ∀(w:Nat)(hw:w<2)(l:Loc)(J:H),a6 (cm (m+7)) (laW l S w) (.tup (Es [.bin .mul (.int 3) (.loc 196), .int 5, .bin .add (.int 6) (.loc 196)])) J= .ok (.tup (il [3*w,5,6+w])) J:=λw hw l J=>
  lt2 (P:=λw=>a6 (cm (m+7)) (laW l S w) (.tup (Es [.bin .mul (.int 3) (.loc 196), .int 5, .bin .add (.int 6) (.loc 196)])) J= .ok (.tup (il [3*w,5,6+w])) J) hw (by kernel_rfl) (by kernel_rfl)
 refine⟨l2,d2,u2,G2',r2,W2,X2,6,lpn (a2n (it 0 (by decide) l _) rfl rfl e1 rfl) (lpn (a2n (it 1 (by decide) l1 _) rfl rfl e2 rfl) rfl),⟨T2.S,T2.dl,T2.gl,λr hr=> ?_⟩,Nat.le_refl _,(K2 0 (by decide)).trans (K1 0 (by decide)),(K2 1 (by decide)).trans (K1 1 (by decide)),L2.trans L1⟩;obtain⟨O,L,h,Q,ol⟩:=T2.ow r hr;have ht: ∀f,f<4->has [0,1] ((f:Nat):Int)=isT (X2 r f):=lt2 (P:=λr=> ∀f,f<4->has [0,1] ((f:Nat):Int)=isT (X2 r f)) hr
  (λf hf=>by rw[o2 0 (by decide),t1];exact c90 (P:=λf=>has [0,1] ((f:Nat):Int)=(f==0/4||f==5/4||f==6/4)) hf (by kernel_rfl) (by kernel_rfl) (by kernel_rfl) (by kernel_rfl))
  (λf hf=>by rw[t2];exact c90 (P:=λf=>has [0,1] ((f:Nat):Int)=(f==3/4||f==5/4||f==7/4)) hf (by kernel_rfl) (by kernel_rfl) (by kernel_rfl) (by kernel_rfl))
 refine⟨O,[0,1],h, ?_,{ Q with m:=ht },ol,(by decide:2<=8)⟩;exact lt2 (P:=λr=>r2[4+r]? =some (AO.list ([0,1].map .int))) hr ((K2 4 (by decide)).trans (K1 4 (by decide))) ((K2 5 (by decide)).trans (K1 5 (by decide)))
end
theorem plain(l:List Int)(hl:l.length<=63): ∃m J,m<=80/\a7 (p8 a1t) m 55 [.arg l] []= .ok (.bool true) J:=by
 have hlen:=b3y l;have room5:1+(c9 l).sum %4<=5:=by have:=Nat.mod_lt (c9 l).sum (show 0<4 by decide);lia
 obtain⟨l0,e0⟩: ∃l0,lw5 l=laB l0 (c9 l).sum:=⟨_,(a0i (by rfl) (by rfl) (by rfl) (by rfl) (by rfl) (by rfl) (by rfl)).symm⟩
 obtain⟨l1,d1,u1,G1,r1,W1,X1,j,h6,T,hj,hq,hk,h139⟩:=c8w (m:=4) (room:=1+(c9 l).sum %4) (l:=l0) (S:=(c9 l).sum);have Gd:Good (1+(c9 l).sum %4) d1 u1 G1 r1 j:=⟨W1,X1,1,[],T,⟨hq,hk,by decide,room5,nofun⟩⟩
 obtain⟨l2,ls2,d2,u2,G2',r2,h8,Gd2⟩:=a0e (m:=1) (S:=(c9 l).sum) (c9 l) l1 (Q6 0 5 0 1) d1 u1 G1 r1 j Gd ⟨0,5,0,1,by decide,by decide,by decide,by decide,rfl⟩ (by lia);obtain⟨l3,d3,r3,h9,Gd3⟩:=c32 (m:=1) (l:=l2) (S:=(c9 l).sum) (ls:=ls2) Gd2 (by lia);obtain⟨W3,X3,kj,D,T3,_⟩:=Gd3;have hS:(c9 l).sum %2<2:=Nat.mod_lt _ (by decide);obtain⟨ae,h10⟩:=a8r (m:=0) T3 hS (by lia);have sm: ∀J:H,a6 (cm 11) (laL l3 (c9 l).sum ls2) (.bin .mod (.loc 143) (.int 2)) J= .ok (.int ((c9 l).sum %2:Nat)) J:=λJ=>by
  refine j6 (x:=((c9 l).sum:Int)) (y:=2) (D1 rfl) rfl ?_;show some (((c9 l).sum:Int).fmod 2)=_;rw[show((c9 l).sum:Int).fmod 2=(((c9 l).sum %2:Nat):Int)from u7 (m:=2)]
 have e139:l0 139= .lst (il (c9 l)):=by
  have:laB l0 (c9 l).sum 139=lw5 l 139:=by rw[<-e0]
  exact this
 have hm:a6 (cm 11) (upd (laB l1 (c9 l).sum) 199 (Q6 0 5 0 1)) (.loc 139) (hp d1 (u1:Nat) G1 r1)= .ok (.lst (il (c9 l))) (hp d1 (u1:Nat) G1 r1):=V1 (h139.trans e139);have args: ∀J:H,evalEs (cm 11) (laL l3 (c9 l).sum ls2) (Es [.loc 84, .loc 114, .idx (.loc 195) (.bin .mod (.loc 143) (.int 2)), .idx (.loc 194) (.bin .mod (.loc 143) (.int 2))]) J= .ok (loA ((c9 l).sum %2)) J:=λJ=>
  c8 (a0r rfl) (c8 (c8 (a0r rfl) (c8 (c8 (c8 (V1 rfl) (c8 (sm J) (lt2 (P:=λw=>a2v rts (.int (w:Nat)) J= .ok (.int (ro w)) J) hS (by kernel_rfl) (by kernel_rfl)))) (c8 (c8 (c8 (V1 rfl) (c8 (sm J) (lt2 (P:=λw=>a2v ows (.int (w:Nat)) J= .ok (.obj (2+w+10)) J) hS (by kernel_rfl) (by kernel_rfl)))) rfl) rfl)) rfl)) rfl)
 exact⟨12,ae,by decide,d6 (m:=11) r55 (by rfl) (by rfl) (w1 (b5a hl) (H8 (af:=h3) (l':=lw1 l) c65 (by kernel_rfl) (w1 c6x (w1 c8k (H8 (l':=lw4 l) (af:=hq0 (rqA (1+(c9 l).sum %4))) c9u (by kernel_rfl) (H8 (l':=laB l0 (c9 l).sum) (af:=hp [] ((2:Nat):Int) G2 (rqB (1+(c9 l).sum %4))) c6y (by rw[<-e0];kernel_rfl)
  (a2n (v:= .rng 2) (ae:=hp [] ((2:Nat):Int) G2 (rqB (1+(c9 l).sum %4))) (by kernel_rfl) rfl rfl h6 (w1 (v:=Q6 0 5 0 1) (ae:=hp d1 (u1:Nat) G1 r1) (by kernel_rfl) (a2n hm rfl rfl h8 (a2n (v:= .rng 2) (ae:=hp d2 (u2:Nat) G2' r2) (by kernel_rfl) rfl rfl h9 (rt (b5i (i:=54) (by kernel_rfl) (args _) h10))))))))))))⟩
end
end
section
open PySem PySem.W PyProof.Rows PySem.Calls
section
noncomputable abbrev lpr:=M9.row.prog
theorem nmF: @namesMeet=PySem.W.Fast.tw17119622794617984870:=PySem.W.Fast.te17119622794617984870
theorem roV:readsOut lpr lpr.main.body "vars" =false:=by
 show(!namesMeet lpr lpr.main.body _)=false;rw[nmF];kernel_rfl
theorem roD:readsOut lpr lpr.main.body "dir" =false:=by
 show(!namesMeet lpr lpr.main.body _)=false;rw[nmF];kernel_rfl
theorem roL:readsOut lpr lpr.main.body "locals" =false:=by
 show(!namesMeet lpr lpr.main.body _)=false;rw[nmF];kernel_rfl
theorem d4o:(["vars", "dir", "locals"]:List Str).filter (readsOut lpr lpr.main.body)=[]:=by
 rw[List.filter_cons_of_neg (by rw[roV];exact Bool.false_ne_true),List.filter_cons_of_neg (by rw[roD];exact Bool.false_ne_true),List.filter_cons_of_neg (by rw[roL];exact Bool.false_ne_true)];rfl
theorem sa5:noRoadLSs { strict:= !(importedModules lpr.main.body).all cThrough.contains,foot:=none,bare:=(["vars", "dir", "locals"]:List Str).filter (readsOut lpr lpr.main.body) } lpr.main.body=true:=by
 rw[d4o];kernel_rfl
theorem sa3:namesResolve lpr=true:=by kernel_rfl
theorem sa6:(namesMeet lpr lpr.main.body λ_ n=>attrL n)=true:=by rw[nmF];kernel_rfl
theorem saL:looksOpen lpr=true:=look_both (look_both (look_both (look_both (look_both (by kernel_rfl) (by kernel_rfl)) sa3) (by kernel_rfl)) sa5) sa6
theorem saP:M9.row.partSaid=true:=by
 refine look_both (look_both (look_both (look_both (look_both (look_both (look_both (look_both (look_both (look_both (look_both (look_both (look_both saL ?_) ?_) ?_) ?_) ?_) ?_) ?_) ?_) ?_) ?_) ?_) ?_) ?_<;>kernel_rfl
theorem saR:M9.row.wellSaid=true:=look_both (look_both saP (by kernel_rfl)) (by kernel_rfl)
theorem saF:noRoadLSs { strict:=true,foot:=some M9.bound',writes:=M9.writes,may:=M9.may } M9.footing=true:=by kernel_rfl
theorem saA:namesMeet M9.prog M9.above (λ_ n=> !M9.own.contains n)=true:=by kernel_rfl
theorem saB:M9.bound'.all (λn=> !builtinNamed n||M9.about==[n]|| !M9.reads n)=true:=by kernel_rfl
theorem said1:M9.wellSaid=true:=by
 refine look_both (look_both (look_both (look_both (look_both (look_both (look_both (look_both (look_both (look_both (look_both (look_both (look_both (look_both (look_both (look_both (look_both (look_both saR ?_) ?_) ?_) ?_) ?_) saF) ?_) ?_) ?_) saB) ?_) ?_) ?_) ?_) ?_) ?_) saA) ?_<;>kernel_rfl
end
end
end Mine

theorem PySem.Challenge.cw_nz0226_02_holds : PySem.Challenge.rw_nz0226_02.Holds :=
 Mine.law_holds Mine.said1 (Mine.walk1 Mine.plain)
