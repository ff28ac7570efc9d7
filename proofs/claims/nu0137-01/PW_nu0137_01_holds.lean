import PyProof.Rows.All
import Wide.All
import OpenK.AllK
import Wide.FinOn
import Lean
import PySem.Challenge.RW_nu0137_01
open PySem PySem.W PySem.Calls PyProof.Rows
set_option Elab.async false
set_option maxRecDepth 100000
set_option compiler.extract_closed false
set_option genInjectivity false
set_option genSizeOf false
set_option linter.all false
set_option bootstrap.genMatcherCode false
set_option tactic.hygienic false
set_option genCtorIdx false
namespace Mine
section
set_option genInjectivity true in
set_option genCtorIdx true in
inductive V where
 | none | bool (b:Bool) | int (i:Int) | str (s:Str) | bytes (b:List UInt8) | ref (a:Nat) | pair (a b:Int)
 deriving DecidableEq
abbrev Lo:=List (Option V)
structure St where
 I:Nat->Option (Nat×List (Nat×V))
 L:Nat->Option (List V)
 T:Nat->Option (List V)
 D:Nat->Option (List (V×V))
 F:Nat->Option (List V)
noncomputable def upd {α:Type} (f:Nat->Option α) (a:Nat) (x:α):Nat->Option α:=λb=>if b=a then some x else f b
@[simp] theorem upd_same {α:Type} (f:Nat->Option α) (a:Nat) (x:α):upd f a x a=some x:=by simp [upd]
theorem upd_ne {α:Type} (f:Nat->Option α) {a b:Nat} (x:α) (h:b≠a):upd f a x b=f b:=by simp [upd,h]
theorem upd_old {α:Type}{f:Nat->Option α}{a b:Nat}{x y:α} (h:f b=some y) (hf:f a=none):upd f a x b=some y:=by
 rw [upd_ne _ _ (λe=>by rw [e,hf] at h;cases h)];exact h
theorem upd_upd {α:Type} (f:Nat->Option α) (a:Nat) (x y:α):upd (upd f a x) a y=upd f a y:=by
 funext b;unfold upd;split <;> rfl
namespace St
noncomputable def setI (σ:St) (a:Nat) (x:Nat×List (Nat×V)):St:={ σ with I:=upd σ.I a x }
noncomputable def setL (σ:St) (a:Nat) (x:List V):St:={ σ with L:=upd σ.L a x }
noncomputable def setT (σ:St) (a:Nat) (x:List V):St:={ σ with T:=upd σ.T a x }
noncomputable def setD (σ:St) (a:Nat) (x:List (V×V)):St:={ σ with D:=upd σ.D a x }
@[simp] theorem setI_I (σ:St) (a x):(σ.setI a x).I=upd σ.I a x:=rfl
@[simp] theorem setI_L (σ:St) (a x):(σ.setI a x).L=σ.L:=rfl
@[simp] theorem setI_T (σ:St) (a x):(σ.setI a x).T=σ.T:=rfl
@[simp] theorem setI_D (σ:St) (a x):(σ.setI a x).D=σ.D:=rfl
@[simp] theorem setI_F (σ:St) (a x):(σ.setI a x).F=σ.F:=rfl
@[simp] theorem setL_I (σ:St) (a x):(σ.setL a x).I=σ.I:=rfl
@[simp] theorem setL_L (σ:St) (a x):(σ.setL a x).L=upd σ.L a x:=rfl
@[simp] theorem setL_T (σ:St) (a x):(σ.setL a x).T=σ.T:=rfl
@[simp] theorem setL_D (σ:St) (a x):(σ.setL a x).D=σ.D:=rfl
@[simp] theorem setL_F (σ:St) (a x):(σ.setL a x).F=σ.F:=rfl
@[simp] theorem setT_I (σ:St) (a x):(σ.setT a x).I=σ.I:=rfl
@[simp] theorem setT_L (σ:St) (a x):(σ.setT a x).L=σ.L:=rfl
@[simp] theorem setT_T (σ:St) (a x):(σ.setT a x).T=upd σ.T a x:=rfl
@[simp] theorem setT_D (σ:St) (a x):(σ.setT a x).D=σ.D:=rfl
@[simp] theorem setT_F (σ:St) (a x):(σ.setT a x).F=σ.F:=rfl
@[simp] theorem setD_I (σ:St) (a x):(σ.setD a x).I=σ.I:=rfl
@[simp] theorem setD_L (σ:St) (a x):(σ.setD a x).L=σ.L:=rfl
@[simp] theorem setD_T (σ:St) (a x):(σ.setD a x).T=σ.T:=rfl
@[simp] theorem setD_D (σ:St) (a x):(σ.setD a x).D=upd σ.D a x:=rfl
@[simp] theorem setD_F (σ:St) (a x):(σ.setD a x).F=σ.F:=rfl
@[simp] theorem setI_setI (σ:St) (a x y):(σ.setI a x).setI a y=σ.setI a y:=by simp [setI,upd_upd]
@[simp] theorem setL_setL (σ:St) (a x y):(σ.setL a x).setL a y=σ.setL a y:=by simp [setL,upd_upd]
@[simp] theorem setD_setD (σ:St) (a x y):(σ.setD a x).setD a y=σ.setD a y:=by simp [setD,upd_upd]
noncomputable def fresh (σ:St) (a:Nat):Prop:=σ.I a=none/\σ.L a=none/\σ.T a=none/\σ.D a=none/\σ.F a=none
structure sub (σ τ:St):Prop where
 I:∀ a x,σ.I a=some x->τ.I a=some x
 L:∀ a x,σ.L a=some x->τ.L a=some x
 T:∀ a x,σ.T a=some x->τ.T a=some x
 D:∀ a x,σ.D a=some x->τ.D a=some x
 F:∀ a x,σ.F a=some x->τ.F a=some x
theorem sub.refl (σ:St):σ.sub σ:=⟨λø ø h=>h,λø ø h=>h,λø ø h=>h,λø ø h=>h,λø ø h=>h⟩
theorem sub.trans {a b c:St} (x:a.sub b) (y:b.sub c):a.sub c:=
 ⟨λi v h=>y.I i v (x.I i v h),λi v h=>y.L i v (x.L i v h),λi v h=>y.T i v (x.T i v h),λi v h=>y.D i v (x.D i v h),λi v h=>y.F i v (x.F i v h)⟩
end St
set_option genCtorIdx true in
inductive Bop where | add | sub | mul | fdiv | mod | pow | shl | shr | and | or | xor
set_option genCtorIdx true in
inductive Cop where | eq | ne | lt | le | gt | ge | is | isnot | isin | notin
set_option genCtorIdx true in
inductive B1 where | len | bytes | int | list
set_option genCtorIdx true in
inductive M1 where | append | pop | get
set_option genCtorIdx true in
inductive M2 where | insert | get
inductive DK where | int (i:Int) | str (s:String)
inductive Tgt where | one (i:Nat) | many (is:List Nat)
mutual
inductive E where
 | var (i:Nat) | gint (x:String) (n:Int) | int (n:Int) | nil | tru | fls | str (s:String)
 | bin (o:Bop) (a b:E) | neg (a:E) | notv (a:E) | cmp (o:Cop) (a b:E) | andv (a b:E) | orv (a b:E) | ite (c a b:E)
 | attr (a:E) (f:Nat) | idx (a i:E) | slc (a lo hi:E) | rev (a:E)
 | call (f:Nat) (args:EL) | new (c:Nat) (args:EL) | newk (c:Nat) (args:EL) (kw:String) (v:E) | meth (a:E) (m:Nat) (args:EL)
 | bi (b:B1) (a:E) | max2 (a b:E) | m1 (m:M1) (a x:E) | m2 (m:M2) (a x y:E)
 | list (es:EL) | tup (es:EL) | dict (ks:List DK) (vs:EL)
 | pget (d a b z:E) | comp (fvs:List Nat) (nl:Nat) (t:Tgt) (s:Src) (c:E) (e:E)
inductive EL where
 | nil | cons (e:E) (r:EL)
inductive Src where
 | obj (e:E) | rng1 (e:E) | rng2 (a b:E)
end
mutual
inductive S where
 | expr (e:E) | asg (i:Nat) (e:E) | asgT (is:List Nat) (e:E) | setA (a:E) (f:Nat) (e:E) | setI (a i e:E)
 | augV (i:Nat) (o:Bop) (e:E) | augA (a:E) (f:Nat) (o:Bop) (e:E) | augI (a i:E) (o:Bop) (e:E)
 | ite (c:E) (t e:SL) | loop (t:Tgt) (s:Src) (b:SL) | while (c:E) (b:SL) | ret (e:E) | tryw (i f:Nat) (as:EL) (b:SL) (j fd:Nat) | retn | pset (d a b e:E) | raise | fail
inductive SL where
 | nil | cons (s:S) (r:SL)
end
inductive Fl where | nx | rt (v:V) | ex
abbrev KV:=V->St->Prop
abbrev Phi:=Nat->List V->St->KV->Prop
noncomputable def big:Nat:=1000000
noncomputable def truth:V->Option Bool
 | .bool b=>some b
 | .int i=>some (i != 0)
 | .none=>some false
 | _=>Option.none
noncomputable def small64 (a:Int):Prop:=a.natAbs<2 ^ 64
noncomputable def gI (f:Int->Prop):V->Prop
 | .int i=>f i
 | _=>False
noncomputable def gB (f:List UInt8->Prop):V->Prop
 | .bytes i=>f i
 | _=>False
noncomputable def gR (f:Nat->Prop):V->Prop
 | .ref i=>f i
 | _=>False
noncomputable def gN (p:Prop):V->Prop
 | .none=>p
 | _=>False
noncomputable def gS {α:Type} (f:α->Prop):Option α->Prop
 | some a=>f a
 | _=>False
noncomputable def gC (b:Bool) (p q:Prop):Prop:=match b with
 | true=>p
 | false=>q
theorem gS_of {α:Type}{f:α->Prop}{o:Option α}{a:α} (h:o=some a) (q:f a):gS f o:=by rw [h];exact q
theorem gS_ok {α:Type}{f:α->Prop}{P:Prop}:∀ {o:Option α},gS f o->(∀ a,o=some a->f a->P)->P
 | some a,h,k=>k a rfl h
 | none,h,_=>h.elim
noncomputable def gE {α:Type} (f:α->Prop) (p:Prop):Option α->Prop
 | some a=>f a
 | none=>p
theorem gE_some {α:Type}{f:α->Prop}{p:Prop}{o:Option α}{a:α} (h:o=some a) (q:f a):gE f p o:=by rw [h];exact q
theorem gE_none {α:Type}{f:α->Prop}{p:Prop}{o:Option α} (h:o=none) (q:p):gE f p o:=by rw [h];exact q
theorem gE_ok {α:Type}{f:α->Prop}{p P:Prop}:∀ {o:Option α},gE f p o->(∀ a,o=some a->f a->P)->(o=none->p->P)->P
 | some a,h,k,_=>k a rfl h
 | none,h,_,k=>k rfl h
theorem gI_ok {f:Int->Prop}{P:V->Prop}{x:V} (h:gI f x) (k:∀ i,f i->P (.int i)):P x:=by
 cases x <;> first | exact k _ h | exact h.elim
theorem gB_ok {f:List UInt8->Prop}{P:V->Prop}{x:V} (h:gB f x) (k:∀ i,f i->P (.bytes i)):P x:=by
 cases x <;> first | exact k _ h | exact h.elim
theorem gR_ok {f:Nat->Prop}{P:V->Prop}{x:V} (h:gR f x) (k:∀ i,f i->P (.ref i)):P x:=by
 cases x <;> first | exact k _ h | exact h.elim
theorem gN_ok {f:Prop}{P:V->Prop}{x:V} (h:gN f x) (k:f->P .none):P x:=by
 cases x <;> first | exact k h | exact h.elim
noncomputable def addV (x y:V) (σ:St) (k:KV):Prop:=match x with
 | .int a=>gI (λb=>k (.int (a+b)) σ) y
 | .bytes a=>gB (λb=>a.length+b.length<=big/\k (.bytes (a++b)) σ) y
 | .ref a=>gR (λb=>gS (λxs=>gS (λys=>xs.length+ys.length<=big/\∀ c,σ.fresh c->k (.ref c) (σ.setL c (xs++ys))) (σ.L b)) (σ.L a)) y
 | _=>False
noncomputable def mulV (x y:V) (σ:St) (k:KV):Prop:=match x with
 | .int a=>gI (λb=>(small64 a\/small64 b)/\k (.int (a * b)) σ) y
 | .ref a=>gI (λn=>gS (λxs=>0<=n/\n<=16/\xs.length<=16/\∀ c,σ.fresh c->k (.ref c) (σ.setL c (List.replicate n.toNat xs).flatten)) (σ.L a)) y
 | _=>False
noncomputable def binop (o:Bop) (x y:V) (σ:St) (k:KV):Prop:=match o with
 | .add=>addV x y σ k
 | .sub=>gI (λa=>gI (λb=>k (.int (a - b)) σ) y) x
 | .mul=>mulV x y σ k
 | .fdiv=>gI (λa=>gI (λb=>b≠0/\small64 b/\k (.int (a.fdiv b)) σ) y) x
 | .mod=>gI (λa=>gI (λb=>b≠0/\k (.int (a.fmod b)) σ) y) x
 | .pow=>gI (λa=>gI (λn=>0<=n/\n<=1000/\small64 a/\k (.int (a ^ n.toNat)) σ) y) x
 | .shl=>gI (λa=>gI (λn=>0<=n/\n<=1000/\small64 a/\k (.int (a * 2 ^ n.toNat)) σ) y) x
 | .shr=>gI (λa=>gI (λn=>0<=n/\k (.int (a.fdiv (2 ^ n.toNat))) σ) y) x
 | .and=>gI (λa=>gI (λb=>k (.int (Builtin.bitAnd a b)) σ) y) x
 | .or=>gI (λa=>gI (λb=>k (.int (Builtin.bitOr a b)) σ) y) x
 | .xor=>gI (λa=>gI (λb=>k (.int (Builtin.bitXor a b)) σ) y) x
noncomputable def isI:V->Bool
 | .int _=>true
 | _=>false
noncomputable def isB:V->Bool
 | .bytes _=>true
 | _=>false
noncomputable def among (x:V) (ys:List V):Bool:=(isI x&&ys.all isI) || (isB x&&ys.all isB)
noncomputable def eqV (f:Bool->Bool) (x y:V) (σ:St) (k:Bool->Prop):Prop:=match x with
 | .int a=>gI (λb=>k (f (a == b))) y
 | .bytes a=>gB (λb=>k (f (a == b))) y
 | .ref a=>gR (λb=>gS (λxs=>gS (λys=>if xs.length=ys.length then xs.all isB=true/\ys.all isB=true/\k (f (xs == ys)) else k (f false)) (σ.L b)) (σ.L a)) y
 | _=>False
noncomputable def inV (x y:V) (σ:St) (k:Bool->Prop):Prop:=gR (λb=>gE (λys=>among x ys=true/\k (ys.any (· == x))) (gS (λys=>among x ys=true/\k (ys.any (· == x))) (σ.T b)) (σ.L b)) y
noncomputable def cmpop (o:Cop) (x y:V) (σ:St) (k:Bool->Prop):Prop:=match o with
 | .eq=>eqV (λb=>b) x y σ k
 | .ne=>eqV (λb=>!b) x y σ k
 | .lt=>gI (λa=>gI (λb=>k (decide (a<b))) y) x
 | .le=>gI (λa=>gI (λb=>k (decide (a<=b))) y) x
 | .gt=>gI (λa=>gI (λb=>k (decide (a > b))) y) x
 | .ge=>gI (λa=>gI (λb=>k (decide (a ≥ b))) y) x
 | .is=>gN (k (x == .none)) y
 | .isnot=>gN (k (!(x == .none))) y
 | .isin=>inV x y σ k
 | .notin=>inV x y σ λr=>k (!r)
noncomputable def octet (b:UInt8):V:=.int b.toNat
noncomputable def isS:V->Bool
 | .str _=>true
 | _=>false
noncomputable def keyFit (k:V) (d:List (V×V)):Bool:=(isI k&&d.all λp=>isI p.1) || (isS k&&d.all λp=>isS p.1)
noncomputable def isP:V->Bool
 | .pair _ _=>true
 | _=>false
noncomputable def pairFit (d:List (V×V)):Bool:=d.all λp=>isP p.1
noncomputable def plainK (d:List (V×V)):Bool:=d.all λp=>!isP p.1
noncomputable def dget (k:V) (d:List (V×V)):Option V:=(d.find? λp=>p.1=k).map (λø=>ø.2)
noncomputable def dput (k v:V) (d:List (V×V)):List (V×V):=if d.any (λp=>p.1=k) then d.map (λp=>if p.1=k then (p.1,v) else p) else d++[(k,v)]
noncomputable def ddel (k:V) (d:List (V×V)):List (V×V):=d.filter λp=>decide (p.1≠k)
noncomputable def seqV (xs:List V) (y:V) (k:V->Prop):Prop:=gI (λn=>gS (λj=>gS k xs[j]?) (seqIndex? n xs.length)) y
noncomputable def getidx (x i:V) (σ:St) (k:V->Prop):Prop:=match x with
 | .bytes b=>gI (λn=>b.length<=big/\0<=n/\gS (λu=>k (octet u)) b[n.toNat]?) i
 | .ref a=>gE (λxs=>seqV xs i k) (gE (λxs=>seqV xs i k) (gE (λd=>gS k (dget i d)) (gS (λxs=>seqV xs i k) (σ.F a)) (σ.D a)) (σ.T a)) (σ.L a)
 | _=>False
noncomputable def part:V->Option (Option Int)
 | .none=>some Option.none
 | .int i=>some (some i)
 | _=>Option.none
noncomputable def cutO {α:Type} (xs:List α) (lo hi:Option Int):List α:=
 (xs.drop (lo.elim 0 (clipAt xs.length))).take (hi.elim xs.length (clipAt xs.length) - lo.elim 0 (clipAt xs.length))
noncomputable def getslice (x lo hi:V) (σ:St) (k:KV):Prop:=gS (λi=>gS (λj=>match x with
 | .bytes b=>b.length<=big/\k (.bytes (cutO b i j)) σ
 | .ref a=>gS (λxs=>∀ c,σ.fresh c->k (.ref c) (σ.setL c (cutO xs i j))) (σ.L a)
 | _=>False) (part hi)) (part lo)
noncomputable def getrev (x:V) (σ:St) (k:KV):Prop:=gR (λa=>gS (λxs=>∀ c,σ.fresh c->k (.ref c) (σ.setL c xs.reverse)) (σ.L a)) x
noncomputable def intsOf:List V->Option (List Int)
 | []=>some []
 | .int i::r=>match intsOf r with
   | some l=>some (i::l)
   | _=>Option.none
 | _=>Option.none
noncomputable def lenV (x:V) (σ:St) (k:KV):Prop:=match x with
 | .bytes b=>b.length<=big/\k (.int b.length) σ
 | .ref a=>gE (λxs=>k (.int xs.length) σ) (gE (λd=>plainK d=true/\k (.int d.length) σ) (gS (λxs=>k (.int xs.length) σ) (σ.F a)) (σ.D a)) (σ.L a)
 | _=>False
noncomputable def bytesV (x:V) (σ:St) (k:KV):Prop:=match x with
 | .int n=>0<=n/\n<=big/\k (.bytes (List.replicate n.toNat 0)) σ
 | .ref a=>gS (λxs=>gS (λns=>(∀ n∈ns,0<=n/\n<256)/\k (.bytes (ns.map λn=>n.toNat.toUInt8)) σ) (intsOf xs)) (σ.L a)
 | _=>False
noncomputable def intV (x:V) (σ:St) (k:KV):Prop:=match x with
 | .int i=>k (.int i) σ
 | .bool b=>k (.int (if b then 1 else 0)) σ
 | _=>False
noncomputable def bi1 (b:B1) (x:V) (σ:St) (k:KV):Prop:=match b with
 | .len=>lenV x σ k
 | .bytes=>bytesV x σ k
 | .int=>intV x σ k
 | .list=>gR (λa=>gE (λxs=>∀ c,σ.fresh c->k (.ref c) (σ.setL c xs)) (gS (λd=>plainK d=true/\∀ c,σ.fresh c->k (.ref c) (σ.setL c (d.map (λø=>ø.1)))) (σ.D a)) (σ.L a)) x
noncomputable def max2 (x y:V) (k:V->Prop):Prop:=gI (λa=>gI (λb=>k (.int (if b > a then b else a))) y) x
noncomputable def kd (x:V) (σ:St):Option Bool:=match x with
 | .ref a=>if (σ.L a).isSome then some true else if (σ.D a).isSome then some false else Option.none
 | _=>Option.none
noncomputable def M1.ok:M1->Bool->Bool
 | .append,true=>true | .pop,true=>true | .pop,false=>true | .get,false=>true
 | _,_=>false
noncomputable def M2.ok:M2->Bool->Bool
 | .insert,true=>true | .get,false=>true
 | _,_=>false
noncomputable def popV (xs:List V) (y:V) (f:V->List V->Prop):Prop:=match xs with
 | z::r=>gI (λi=>i=0/\f z r) y
 | []=>False
noncomputable def methL (a:Nat) (m:M1) (y:V) (σ:St) (k:KV):Prop:=match m with
 | .append=>gS (λxs=>xs.length<big/\k .none (σ.setL a (xs++[y]))) (σ.L a)
 | .pop=>gS (λxs=>popV xs y λz r=>k z (σ.setL a r)) (σ.L a)
 | .get=>False
noncomputable def methD (a:Nat) (m:M1) (y:V) (σ:St) (k:KV):Prop:=match m with
 | .append=>False
 | .pop=>gS (λd=>gS (λv=>k v (σ.setD a (ddel y d))) (dget y d)) (σ.D a)
 | .get=>gS (λd=>keyFit y d=true/\k ((dget y d).getD .none) σ) (σ.D a)
noncomputable def meth1 (b:Bool) (m:M1) (x y:V) (σ:St) (k:KV):Prop:=gR (λa=>gC b (methL a m y σ k) (methD a m y σ k)) x
noncomputable def insV (a:Nat) (m:M2) (y z:V) (σ:St) (k:KV):Prop:=match m with
 | .insert=>gS (λxs=>gI (λi=>0<=i/\i<=xs.length/\xs.length<big/\k .none (σ.setL a (xs.take i.toNat++z::xs.drop i.toNat))) y) (σ.L a)
 | .get=>False
noncomputable def getV (a:Nat) (m:M2) (y z:V) (σ:St) (k:KV):Prop:=match m with
 | .insert=>False
 | .get=>gS (λd=>keyFit y d=true/\k ((dget y d).getD z) σ) (σ.D a)
noncomputable def meth2 (b:Bool) (m:M2) (x y z:V) (σ:St) (k:KV):Prop:=gR (λa=>gC b (insV a m y z σ k) (getV a m y z σ k)) x
noncomputable def setidx (x i v:V) (σ:St) (k:St->Prop):Prop:=gR (λa=>gE (λxs=>gI (λn=>gS (λj=>k (σ.setL a (xs.set j v))) (seqIndex? n xs.length)) i)
 (gS (λd=>keyFit i d=true/\d.length<big/\k (σ.setD a (dput i v d))) (σ.D a)) (σ.L a)) x
noncomputable def DK.v:DK->V
 | .int i=>.int i
 | .str s=>.str (Str.ofString s)
noncomputable def DK.isI:DK->Bool
 | .int _=>true
 | .str _=>false
noncomputable def fput (f:Nat) (v:V):List (Nat×V)->List (Nat×V)
 | []=>[(f,v)]
 | (a,b)::r=>if a=f then (a,v)::r else (a,b)::fput f v r
theorem fput_nil {f:Nat}{v:V}:fput f v []=[(f,v)]:=rfl
theorem fput_cons {f a:Nat}{v b:V}{r:List (Nat×V)}:fput f v ((a,b)::r)=if a=f then (a,v)::r else (a,b)::fput f v r:=rfl
noncomputable def bindMany:List Nat->List V->Lo->Lo
 | i::is,v::vs,lo=>bindMany is vs (lo.set i (some v))
 | _,_,lo=>lo
noncomputable def kMany (is:List Nat) (k:Lo->St->Prop) (lo:Lo) (v:V) (σ:St):Prop:=gR (λa=>gS (λvs=>vs.length=is.length/\k (bindMany is vs lo) σ) (σ.T a)) v
noncomputable def bindT (t:Tgt) (x:V) (lo:Lo) (σ:St) (k:Lo->Prop):Prop:=match t with
 | .one i=>k (lo.set i (some x))
 | .many is=>kMany is (λlo ø=>k lo) lo x σ
abbrev Guard:=St->Prop
abbrev KL:=Fl->Lo->St->Prop
noncomputable def wlK (f:Lo->St->Prop) (k:KL) (fl:Fl) (lo:Lo) (σ:St):Prop:=match fl with
 | .nx=>f lo σ
 | .rt v=>k (.rt v) lo σ
 | .ex=>False
noncomputable def loopW (t:Tgt) (g:Guard) (body:Lo->St->KL->Prop) (k:KL):List V->Lo->St->Prop
 | [],lo,σ=>g σ/\k .nx lo σ
 | x::xs,lo,σ=>g σ/\bindT t x lo σ λlo1=>body lo1 σ (wlK (λlo σ=>loopW t g body k xs lo σ) k)
noncomputable def putK (l:Nat) (f:St->Prop) (v:V) (σ:St):Prop:=gS (λacc=>acc.length<big/\f (σ.setL l (acc++[v]))) (σ.L l)
noncomputable def compW (l:Nat) (t:Tgt) (g:Guard) (c:Lo->St->(Bool->St->Prop)->Prop) (e:Lo->St->KV->Prop) (lo:Lo) (k:St->Prop):List V->St->Prop
 | [],σ=>g σ/\k σ
 | x::xs,σ=>g σ/\bindT t x lo σ λlo1=>c lo1 σ λb σ1=>gC b (e lo1 σ1 (putK l λσ=>compW l t g c e lo k xs σ)) (compW l t g c e lo k xs σ1)
structure Tabs where
 mt:Nat->Nat->Option Nat
 ini:Nat->Nat
 fld:Nat->Nat->Bool
 mr:Nat->Nat
 kw:Nat->Str->Bool
 rs:Nat->List V->St->Prop
noncomputable def rangeL (a b:Int):List V:=(List.range (b - a).toNat).map λ(j:Nat)=>V.int (a+(j:Int))
noncomputable def pairV (l:List V) (f:Int->Int->Prop):Prop:=match l with
 | [x,y]=>gI (λi=>gI (f i) y) x
 | _=>False
noncomputable def pgetK (x t v:V) (σ:St) (k:KV):Prop:=gR (λr=>gR (λc=>gS (λdd=>gS (λl=>pairV l λi j=>pairFit dd=true/\k ((dget (.pair i j) dd).getD v) σ) (σ.T c)) (σ.D r)) t) x
noncomputable def psetK (w x y u:V) (σ:St) (k:St->Prop):Prop:=gR (λr=>gI (λi=>gI (λj=>gS (λdd=>pairFit dd=true/\dd.length<big/\k (σ.setD r (dput (.pair i j) w dd))) (σ.D r)) u) y) x
noncomputable def kVar (x:Option (Option V)) (k:KV) (σ:St):Prop:=gS (gS λv=>k v σ) x
noncomputable def kNeg (k:KV) (x:V) (σ:St):Prop:=gI (λi=>k (.int (-i)) σ) x
noncomputable def kNot (k:KV) (x:V) (σ:St):Prop:=gS (λb=>k (.bool (!b)) σ) (truth x)
noncomputable def kTest (k:Bool->St->Prop) (v:V) (σ:St):Prop:=gS (λb=>k b σ) (truth v)
noncomputable def kAttr (f:Nat) (k:KV) (x:V) (σ:St):Prop:=gR (λr=>gS (λp=>gS (λv=>k v σ) (p.2.lookup f)) (σ.I r)) x
noncomputable def kMethG (mt:Nat->Nat->Option Nat) (m:Nat) (g:Nat->Nat->St->Prop) (x:V) (σ:St):Prop:=gR (λr=>gS (λp=>gS (λf=>p.2.lookup m=none/\g f r σ) (mt p.1 m)) (σ.I r)) x
noncomputable def kList (k:KV) (vs:List V) (σ:St):Prop:=vs.length<=big/\∀ c,σ.fresh c->k (.ref c) (σ.setL c vs)
noncomputable def kTup (k:KV) (vs:List V) (σ:St):Prop:=vs.length<=big/\∀ c,σ.fresh c->k (.ref c) (σ.setT c vs)
noncomputable def kDict (ks:List DK) (k:KV) (vs:List V) (σ:St):Prop:=vs.length=ks.length/\vs.length<=15/\∀ c,σ.fresh c->k (.ref c) (σ.setD c ((ks.map DK.v).zip vs))
noncomputable def kObj (k:List V->Guard->St->Prop) (x:V) (σ:St):Prop:=match x with
 | .bytes b=>b.length<=big/\k (b.map octet) (λø=>True) σ
 | .ref a=>gE (λxs=>k xs (λτ=>τ.L a=some xs) σ) (gS (λxs=>k xs (λτ=>τ.T a=some xs) σ) (σ.T a)) (σ.L a)
 | _=>False
noncomputable def kRng1 (k:List V->Guard->St->Prop) (x:V) (σ:St):Prop:=gI (λn=>0<=n/\n<=big/\k (rangeL 0 n) (λø=>True) σ) x
noncomputable def kRng2 (k:List V->Guard->St->Prop) (x y:V) (σ:St):Prop:=gI (λm=>gI (λn=>0<=m/\m<=big/\0<=n/\n<=big/\k (rangeL m n) (λø=>True) σ) y) x
section
variable (TB:Tabs) (Φ:Phi)
noncomputable def kNew (c:Nat) (k:KV) (vs:List V) (σ:St):Prop:=∀ x,σ.fresh x->Φ (TB.ini c) (.ref x::vs) (σ.setI x (c,[])) λr σ=>r=.none/\k (.ref x) σ
mutual
noncomputable def wpE:E->Lo->St->KV->Prop
 | .var i,lo,σ,k=>kVar lo[i]? k σ
 | .gint _ n,_,σ,k=>k (.int n) σ
 | .int n,_,σ,k=>k (.int n) σ
 | .nil,_,σ,k=>k .none σ
 | .tru,_,σ,k=>k (.bool true) σ
 | .fls,_,σ,k=>k (.bool false) σ
 | .str s,_,σ,k=>k (.str (Str.ofString s)) σ
 | .bin o a b,lo,σ,k=>wpE a lo σ λx σ=>wpE b lo σ λy σ=>binop o x y σ k
 | .neg a,lo,σ,k=>wpE a lo σ (kNeg k)
 | .notv a,lo,σ,k=>wpE a lo σ (kNot k)
 | .cmp o a b,lo,σ,k=>wpE a lo σ λx σ=>wpE b lo σ λy σ=>cmpop o x y σ λr=>k (.bool r) σ
 | .andv a b,lo,σ,k=>wpE a lo σ λx σ=>gS (λr=>gC r (wpE b lo σ k) (k x σ)) (truth x)
 | .orv a b,lo,σ,k=>wpE a lo σ λx σ=>gS (λr=>gC r (k x σ) (wpE b lo σ k)) (truth x)
 | .ite c a b,lo,σ,k=>wpC c lo σ (wpE c lo σ) λr σ=>gC r (wpE a lo σ k) (wpE b lo σ k)
 | .attr a f,lo,σ,k=>wpE a lo σ (kAttr f k)
 | .idx a i,lo,σ,k=>wpE a lo σ λx σ=>wpE i lo σ λy σ=>getidx x y σ λv=>k v σ
 | .slc a l h,lo,σ,k=>wpE a lo σ λx σ=>wpE l lo σ λy σ=>wpE h lo σ λz σ=>getslice x y z σ k
 | .rev a,lo,σ,k=>wpE a lo σ λx σ=>getrev x σ k
 | .call f args,lo,σ,k=>wpEL args lo σ λvs σ=>Φ f vs σ k
 | .new c args,lo,σ,k=>wpEL args lo σ (kNew TB Φ c k)
 | .newk c args _ v,lo,σ,k=>wpEL args lo σ λvs σ=>wpE v lo σ λy σ=>kNew TB Φ c k (vs++[y]) σ
 | .meth a m args,lo,σ,k=>wpE a lo σ (kMethG TB.mt m λf r σ=>wpEL args lo σ λvs σ=>Φ f (.ref r::vs) σ k)
 | .bi b a,lo,σ,k=>wpE a lo σ λx σ=>bi1 b x σ k
 | .max2 a b,lo,σ,k=>wpE a lo σ λx σ=>wpE b lo σ λy σ=>max2 x y λv=>k v σ
 | .m1 m a x,lo,σ,k=>wpE a lo σ λu σ=>gS (λb=>m.ok b=true/\wpE x lo σ λv σ=>meth1 b m u v σ k) (kd u σ)
 | .m2 m a x y,lo,σ,k=>wpE a lo σ λu σ=>gS (λb=>m.ok b=true/\wpE x lo σ λv σ=>wpE y lo σ λw σ=>meth2 b m u v w σ k) (kd u σ)
 | .list es,lo,σ,k=>wpEL es lo σ (kList k)
 | .tup es,lo,σ,k=>wpEL es lo σ (kTup k)
 | .dict ks vs,lo,σ,k=>wpEL vs lo σ (kDict ks k)
 | .pget d a b z,lo,σ,k=>wpE d lo σ λx σ=>kd x σ=some false/\wpE a lo σ λy σ=>wpE b lo σ λu σ=>[y,u].length<=big/\∀ c,σ.fresh c->wpE z lo (σ.setT c [y,u]) λv σ=>pgetK x (.ref c) v σ k
 | .comp fvs nl t s c e,lo,σ,k=>wpSrc s lo σ λxs g σ=>∀ l,σ.fresh l ->
  compW l t g (λlo σ k=>wpC c lo σ (wpE c lo σ) k) (λlo σ k=>wpE e lo σ k) (fvs.map (λi=>(lo[i]?).join)++List.replicate nl Option.none) (λσ=>k (.ref l) σ) xs (σ.setL l [])
noncomputable def wpC:E->Lo->St->(KV->Prop)->(Bool->St->Prop)->Prop
 | .notv a,lo,σ,_,k=>wpC a lo σ (wpE a lo σ) λb σ=>k (!b) σ
 | .andv a b,lo,σ,_,k=>wpC a lo σ (wpE a lo σ) λr σ=>gC r (wpC b lo σ (wpE b lo σ) k) (k false σ)
 | .orv a b,lo,σ,_,k=>wpC a lo σ (wpE a lo σ) λr σ=>gC r (k true σ) (wpC b lo σ (wpE b lo σ) k)
 | .ite c a b,lo,σ,_,k=>wpC c lo σ (wpE c lo σ) λr σ=>gC r (wpC a lo σ (wpE a lo σ) k) (wpC b lo σ (wpE b lo σ) k)
 | .cmp o a b,lo,σ,_,k=>wpE a lo σ λx σ=>wpE b lo σ λy σ=>cmpop o x y σ λr=>k r σ
 | _,_,_,whole,k=>whole (kTest k)
noncomputable def wpEL:EL->Lo->St->(List V->St->Prop)->Prop
 | .nil,_,σ,k=>k [] σ
 | .cons e r,lo,σ,k=>wpE e lo σ λv σ=>wpEL r lo σ λvs σ=>k (v::vs) σ
noncomputable def wpSrc:Src->Lo->St->(List V->Guard->St->Prop)->Prop
 | .obj e,lo,σ,k=>wpE e lo σ (kObj k)
 | .rng1 e,lo,σ,k=>wpE e lo σ (kRng1 k)
 | .rng2 a b,lo,σ,k=>wpE a lo σ λx σ=>wpE b lo σ λy σ=>kRng2 k x y σ
end
noncomputable def kSetA (f:Nat) (v:V) (k:St->Prop) (x:V) (σ:St):Prop:=gR (λr=>gS (λp=>TB.fld p.1 f=true/\p.2.length<=50/\k (σ.setI r (p.1,fput f v p.2))) (σ.I r)) x
noncomputable def kAugV (o:Bop) (k:V->St->Prop) (x y:V) (σ:St):Prop:=gI (λa=>binop o (.int a) y σ k) x
noncomputable def kAugA (f:Nat) (o:Bop) (e:E) (lo:Lo) (k:St->Prop) (x:V) (σ:St):Prop:=gR (λr=>gS (λp=>gS (gI λu=>wpE TB Φ e lo σ λy σ=>binop o (.int u) y σ λv σ=>kSetA TB f v k (.ref r) σ) (p.2.lookup f)) (σ.I r)) x
noncomputable def kAugI (o:Bop) (e:E) (lo:Lo) (x y:V) (k:St->Prop) (σ:St) (u:V):Prop:=gI (λu=>wpE TB Φ e lo σ λz σ=>binop o (.int u) z σ λv σ=>setidx x y v σ k) u
noncomputable def exF (k:KL) (fl:Fl) (lo:Lo) (σ:St):Prop:=match fl with
 | .ex=>False
 | .nx=>k .nx lo σ
 | .rt v=>k (.rt v) lo σ
noncomputable def sqK (f:Lo->St->Prop) (k:KL) (fl:Fl) (lo:Lo) (σ:St):Prop:=match fl with
 | .nx=>f lo σ
 | .rt v=>k (.rt v) lo σ
 | .ex=>k .ex lo σ
noncomputable def kHand (fd:Nat) (lo:Lo) (k:KL) (σ:St) (o:Option (Option V)):Prop:=gS (gS (gR λr=>gS (λp=>gS (gI λu=>TB.fld p.1 fd=true/\p.2.length<=50/\∀ l1,(σ.setI r (p.1,fput fd (.int (u+1)) p.2)).fresh l1->∀ l2,((σ.setI r (p.1,fput fd (.int (u+1)) p.2)).setL l1 []).fresh l2 ->
              ∀ t,(((σ.setI r (p.1,fput fd (.int (u+1)) p.2)).setL l1 []).setL l2 []).fresh t->k (.rt (.ref t)) lo ((((σ.setI r (p.1,fput fd (.int (u+1)) p.2)).setL l1 []).setL l2 []).setT t [.ref l1,.ref l2])) (p.2.lookup fd)) (σ.I r))) o
mutual
noncomputable def wpS:S->Lo->St->KL->Prop
 | .expr e,lo,σ,k=>wpE TB Φ e lo σ λø σ=>k .nx lo σ
 | .asg i e,lo,σ,k=>wpE TB Φ e lo σ λv σ=>k .nx (lo.set i (some v)) σ
 | .asgT is e,lo,σ,k=>wpE TB Φ e lo σ λv σ=>bindT (.many is) v lo σ λlo=>k .nx lo σ
 | .setA a f e,lo,σ,k=>wpE TB Φ e lo σ λv σ=>wpE TB Φ a lo σ λx σ=>kSetA TB f v (λσ=>k .nx lo σ) x σ
 | .setI a i e,lo,σ,k=>wpE TB Φ e lo σ λv σ=>wpE TB Φ a lo σ λx σ=>wpE TB Φ i lo σ λy σ=>setidx x y v σ λσ=>k .nx lo σ
 | .augV i o e,lo,σ,k=>wpE TB Φ (.var i) lo σ λx σ=>wpE TB Φ e lo σ λy σ=>kAugV o (λv σ=>k .nx (lo.set i (some v)) σ) x y σ
 | .augA a f o e,lo,σ,k=>wpE TB Φ a lo σ (kAugA TB Φ f o e lo λσ=>k .nx lo σ)
 | .augI a i o e,lo,σ,k=>wpE TB Φ a lo σ λx σ=>wpE TB Φ i lo σ λy σ=>getidx x y σ (kAugI TB Φ o e lo x y (λσ=>k .nx lo σ) σ)
 | .ite c t e,lo,σ,k=>wpC TB Φ c lo σ (wpE TB Φ c lo σ) λr σ=>gC r (wpSL t lo σ k) (wpSL e lo σ k)
 | .loop t s b,lo,σ,k=>wpSrc TB Φ s lo σ λxs g σ=>loopW t g (λlo σ k=>wpSL b lo σ k) k xs lo σ
 | .while c b,lo,σ,k=>∃ (J:Nat->Lo->St->Prop) (n:Nat),J n lo σ/\∀ n lo σ,J n lo σ->wpC TB Φ c lo σ (wpE TB Φ c lo σ) λr σ=>gC r (wpSL b lo σ (wlK (λlo σ=>∃ m,m<n/\J m lo σ) k)) (k .nx lo σ)
 | .ret e,lo,σ,k=>wpE TB Φ e lo σ λv σ=>k (.rt v) lo σ
 | .tryw i f as b j fd,lo,σ,k=>wpEL TB Φ as lo σ λvs σ=>Φ f vs σ (λv σ=>wpSL b (lo.set i (some v)) σ (exF k))\/(TB.rs f vs σ/\kHand TB fd lo k σ lo[j]?)
 | .raise,lo,σ,k=>k .ex lo σ
 | .retn,lo,σ,k=>k (.rt .none) lo σ
 | .pset d a b e,lo,σ,k=>wpE TB Φ e lo σ λw σ=>wpE TB Φ d lo σ λx σ=>wpE TB Φ a lo σ λy σ=>wpE TB Φ b lo σ λu σ=>psetK w x y u σ λσ=>k .nx lo σ
 | .fail,_,_,_=>False
noncomputable def wpSL:SL->Lo->St->KL->Prop
 | .nil,lo,σ,k=>k .nx lo σ
 | .cons s r,lo,σ,k=>wpS s lo σ (sqK (λlo σ=>wpSL r lo σ k) k)
end
end
theorem int_min (m n:Nat):min (m:Int) (n:Int)=((min m n:Nat):Int):=by
 rcases Nat.le_total m n with h | h
 ·rw [Int.min_eq_left (Int.ofNat_le.mpr h),Nat.min_eq_left h]
 ·rw [Int.min_eq_right (Int.ofNat_le.mpr h),Nat.min_eq_right h]
theorem clip_nat (n m:Nat):clipAt n (m:Int)=min m n:=by
 unfold clipAt
 rw [if_neg (Int.not_lt.mpr (Int.natCast_nonneg m)),int_min,Int.max_eq_right (Int.natCast_nonneg _),Int.toNat_natCast]
theorem clip_neg {n m:Nat} (h:m<=n) (h0:0<m):clipAt n (-(m:Int))=n - m:=by
 unfold clipAt
 rw [if_pos (Int.neg_neg_of_pos (Int.natCast_pos.mpr h0)),Int.add_comm,<- Int.sub_eq_add_neg,<- Int.natCast_sub h,int_min,Nat.min_eq_left (Nat.sub_le n m),Int.max_eq_right (Int.natCast_nonneg _),Int.toNat_natCast]
theorem cut_mid {b:List UInt8}{n m:Nat} (h:m<=b.length) (hn:n<=m):cutO b (some (n:Int)) (some (m:Int))=(b.take m).drop n:=by
 unfold cutO
 rw [Option.elim_some,Option.elim_some,clip_nat,clip_nat,Nat.min_eq_left h,Nat.min_eq_left (Nat.le_trans hn h),List.drop_take]
theorem cut_body14 {hd s:List UInt8} (hs:s.length=4) (h:14<=hd.length):cutO (hd++s) (some 14) (some (-4))=hd.drop 14:=by
 unfold cutO
 rw [Option.elim_some,Option.elim_some,show (14:Int)=((14:Nat):Int) from rfl,show (4:Int)=((4:Nat):Int) from rfl,List.length_append,hs,clip_nat,clip_neg (Nat.le_add_left _ _) (by decide),Nat.min_eq_left (Nat.le_trans h (Nat.le_add_right _ _)),Nat.add_sub_cancel,List.drop_append_of_le_length h,List.take_left' List.length_drop]
theorem cut_body {hd s:List UInt8} (hs:s.length=4):cutO (hd++s) Option.none (some (-4))=hd:=by
 unfold cutO
 rw [Option.elim_some,Option.elim_none,show (4:Int)=((4:Nat):Int) from rfl,List.length_append,hs,clip_neg (Nat.le_add_left _ _) (by decide),Nat.add_sub_cancel,List.drop_zero,Nat.sub_zero,List.take_left]
theorem cut_sum {hd s:List UInt8} (hs:s.length=4):cutO (hd++s) (some (-4)) Option.none=s:=by
 unfold cutO
 rw [Option.elim_some,Option.elim_none,show (4:Int)=((4:Nat):Int) from rfl,List.length_append,hs,clip_neg (Nat.le_add_left _ _) (by decide),Nat.add_sub_cancel,Nat.add_sub_cancel_left,List.drop_left,<- hs,List.take_length]
theorem cut_from {b:List UInt8}{n:Nat} (h:n<=b.length):cutO b (some (n:Int)) Option.none=b.drop n:=by
 unfold cutO
 rw [Option.elim_some,Option.elim_none,clip_nat,Nat.min_eq_left h,<- List.length_drop,List.take_length]
theorem cut_to {b:List UInt8}{n:Nat} (h:n<=b.length):cutO b Option.none (some (n:Int))=b.take n:=by
 unfold cutO
 rw [Option.elim_some,Option.elim_none,clip_nat,Nat.min_eq_left h,List.drop_zero,Nat.sub_zero]
theorem cut_to' {b:List UInt8}{n:Nat}:cutO b Option.none (some (n:Int))=b.take n:=by
 unfold cutO
 rw [Option.elim_some,Option.elim_none,clip_nat,List.drop_zero,Nat.sub_zero,<- List.take_eq_take_min]
theorem cutO_len {α:Type} (xs:List α) (lo hi:Option Int):(cutO xs lo hi).length<=xs.length:=by
 unfold cutO;rw [List.length_take];exact Nat.le_trans (Nat.min_le_right _ _) (by rw [List.length_drop];exact Nat.sub_le _ _)
end
section
noncomputable def av:Value->Option V
 | .none=>some .none
 | .bool b=>some (.bool b)
 | .int i _=>some (.int i)
 | .str s _=>some (.str s)
 | .bytes b _=>some (.bytes b.toList)
 | .ref a=>some (.ref a)
 | _=>Option.none
noncomputable def Vs (us:List Value) (vs:List V):Prop:=us.map av=vs.map some
theorem Vs.nil:Vs [] []:=rfl
theorem Vs.cons {u us v vs} (h:av u=some v) (r:Vs us vs):Vs (u::us) (v::vs):=by unfold Vs at *;simp [h,r]
theorem Vs.len {us vs} (h:Vs us vs):us.length=vs.length:=by have:=congrArg List.length h;simpa using this
theorem Vs.app {us vs us' vs'} (h:Vs us vs) (h':Vs us' vs'):Vs (us++us') (vs++vs'):=by unfold Vs at *;simp [h,h']
theorem Vs.get {us vs} (h:Vs us vs) {i:Nat}{v:V} (hv:vs[i]?=some v):∃ u,us[i]?=some u/\av u=some v:=by
 have e:(us.map av)[i]?=(vs.map some)[i]?:=by rw [h]
 rw [List.getElem?_map,List.getElem?_map,hv] at e
 cases q:us[i]? with
 | none=>rw [q] at e;cases e
 | some u=>rw [q] at e;exact ⟨u,rfl,by simpa using e⟩
theorem Vs.uncons {us v vs} (h:Vs us (v::vs)):∃ u us',us=u::us'/\av u=some v/\Vs us' vs:=by
 cases us with
 | nil=>cases h
 | cons u us'=>unfold Vs at h;simp at h;exact ⟨u,us',rfl,h.1,h.2⟩
inductive Role where
 | inst | idict (o:Addr) | lst | tup | dct | pk | ex
noncomputable def Role.ctorIdx (x:Role):Nat:=by cases x;exact 0;exact 1;exact 2;exact 3;exact 4;exact 5;exact 6
abbrev Led:=List (Addr×Role×Obj)
noncomputable def Led.pl (l:Led):List (Addr×Obj):=l.map λe=>(e.1,e.2.2)
noncomputable def Led.put (l:Led) (a:Addr) (o:Obj):Led:=l.map λe=>if e.1=a then (e.1,e.2.1,o) else e
theorem Led.put_keys (l:Led) (a:Addr) (o:Obj):(l.put a o).map (λø=>ø.1)=l.map (λø=>ø.1):=by
 unfold Led.put;rw [List.map_map];apply List.map_congr_left;intro e _;simp only [Function.comp];split <;> rfl
theorem Led.mem_put_ne {l:Led}{a:Addr}{o:Obj}{e:Addr×Role×Obj} (h:e∈l) (hn:e.1≠a):e∈l.put a o:=by
 unfold Led.put;refine List.mem_map.mpr ⟨e,h,?_⟩;rw [if_neg hn]
theorem Led.mem_put_eq {l:Led}{a:Addr}{r:Role}{o o':Obj} (h:(a,r,o)∈l):(a,r,o')∈l.put a o':=by
 unfold Led.put;refine List.mem_map.mpr ⟨_,h,?_⟩;rw [if_pos rfl]
theorem Led.uniq {l:Led} (hn:(l.map (λø=>ø.1)).Nodup) {a:Addr}{r r':Role}{o o':Obj} (h:(a,r,o)∈l) (h':(a,r',o')∈l):r=r'/\o=o':=by
 induction l with
 | nil=>cases h
 | cons x l ih=>
   rw [List.map_cons,List.nodup_cons] at hn
   rcases List.mem_cons.mp h with e | h1 <;> rcases List.mem_cons.mp h' with e' | h2
   ·have:=e.trans e'.symm;cases this;exact ⟨rfl,rfl⟩
   ·exact absurd (by rw [<- e];exact List.mem_map_of_mem (f:=(λø=>ø.1)) h2) hn.1
   ·exact absurd (by rw [<- e'];exact List.mem_map_of_mem (f:=(λø=>ø.1)) h1) hn.1
   ·exact ih hn.2 h1 h2
theorem Led.mem_pl {l:Led}{a:Addr}{r:Role}{o:Obj} (h:(a,r,o)∈l):(a,o)∈l.pl:=List.mem_map.mpr ⟨_,h,rfl⟩
theorem Led.split {l:Led} (hn:(l.map (λø=>ø.1)).Nodup) {a:Addr}{r:Role}{o:Obj} (h:(a,r,o)∈l) (o':Obj) :
 ∃ pre post,l.pl=pre++(a,o)::post/\(l.put a o').pl=pre++(a,o')::post/\(∀ p∈pre,p.1≠a)/\∀ p∈post,p.1≠a:=by
 induction l with
 | nil=>cases h
 | cons x l ih=>
   rw [List.map_cons,List.nodup_cons] at hn
   have far:x.1=a->∀ p∈Led.pl l,p.1≠a:=λe p hp q=>by
    obtain ⟨y,hy,rfl⟩:=List.mem_map.mp hp
    exact hn.1 (by rw [e,<- q];exact List.mem_map_of_mem (f:=(λø=>ø.1)) hy)
   rcases List.mem_cons.mp h with rfl | h1
   ·refine ⟨[],Led.pl l,rfl,?_,(λø h=>nomatch h),far rfl⟩
    unfold Led.put Led.pl
    rw [List.map_cons,List.map_cons,if_pos rfl,List.nil_append]
    refine congrArg _ ?_
    rw [List.map_map]
    refine List.map_congr_left λy hy=>?_
    simp only [Function.comp]
    rw [if_neg λq=>hn.1 (by rw [<- q];exact List.mem_map_of_mem (f:=(λø=>ø.1)) hy)]
   ·have hx:x.1≠a:=λe=>far e (a,o) (Led.mem_pl h1) rfl
    obtain ⟨pre,post,e1,e2,h3,h4⟩:=ih hn.2 h1
    refine ⟨(x.1,x.2.2)::pre,post,?_,?_,?_,h4⟩
    ·show (x.1,x.2.2)::Led.pl l=_;rw [e1];rfl
    ·show Led.pl ((if x.1=a then (x.1,x.2.1,o') else x)::Led.put l a o')=_
     rw [if_neg hx];show (x.1,x.2.2)::Led.pl (Led.put l a o')=_;rw [e2];rfl
    ·intro p hp;rcases List.mem_cons.mp hp with rfl | hp;exact hx;exact h3 p hp
structure Nm where
 fa:Nat->Addr
 ca:Nat->Addr
 fn:Nat->Str
 xc:Addr
 xn:Str
 TB:Tabs
structure FRel (N:Nm) (c:Nat) (fs:List (Nat×V)) (es:List DictEntry):Prop where
 has:∀ f v,fs.lookup f=some v->∃ u,getL (N.fn f) es=some (some u)/\av u=some v
 no:∀ x,(∀ f,(fs.lookup f).isSome->N.fn f≠x)->getL x es=some none
 len:es.length<=fs.length
 ok:∀ f,(fs.lookup f).isSome->N.TB.fld c f=true
abbrev tupOf (us:Array Value) (n:Nat):Obj:={ cls:=.type "tuple",data:=.seq us n }
noncomputable def pairOf:List Int->V
 | [i,j]=>.pair i j
 | _=>.none
noncomputable def PRel (prog:Program) (w:World) (l:Led) (d:List (V×V)) (o:Obj):Prop:=
 o.ExactDict/\∃ es ep,∃ xs:List (List Int×Addr×Value),o.data=.dict es ep/\es.toList=xs.map (entryOfKey (tupleKind (intKind prog w))) /\
  (∀ x∈xs,∃ i j t u n,x.1=[i,j]/\(x.2.1,Role.pk,tupOf #[.int i t,.int j u] n)∈l)/\(xs.map (λø=>ø.1)).Nodup/\xs.map (λx=>(pairOf x.1,av x.2.2))=d.map λp=>(p.1,some p.2)
noncomputable def DRel (prog:Program) (w:World) (l:Led) (d:List (V×V)) (o:Obj):Prop:=
 (∃ kvs:List (Int×Value),o.IsDictOf (intKind prog w) kvs/\kvs.map (λp=>(V.int p.1,av p.2))=d.map λp=>(p.1,some p.2)) \/
 (∃ kvs:List (Str×Value),o.IsDictOf (strKind prog w) kvs/\kvs.map (λp=>(V.str p.1,av p.2))=d.map λp=>(p.1,some p.2))\/PRel prog w l d o
theorem DRel.mono {prog:Program}{w:World}{l l':Led}{d:List (V×V)}{o:Obj} (h:DRel prog w l d o) (g:∀ a o,(a,Role.pk,o)∈l->(a,Role.pk,o)∈l'):DRel prog w l' d o:=by
 rcases h with h | h | ⟨h1,es,ep,xs,h2,h3,h4,h5⟩
 ·exact .inl h
 ·exact .inr (.inl h)
 ·exact .inr (.inr ⟨h1,es,ep,xs,h2,h3,(λx hx=>by obtain ⟨i,j,t,u,n,a,b⟩:=h4 x hx;exact ⟨i,j,t,u,n,a,g _ _ b⟩),h5⟩)
noncomputable def Sl (o o':Obj):Prop:=o'=o\/(o.cls=.type "frame"/\o'.data=o.data)
theorem Sl.data {o o':Obj} (h:Sl o o'):o'.data=o.data:=by rcases h with rfl | ⟨_,h⟩;rfl;exact h
theorem Sl.eq {o o':Obj} (h:Sl o o') (hc:o.cls≠.type "frame"):o'=o:=by rcases h with h | h;exact h;exact absurd h.1 hc
structure Abs (N:Nm) (prog:Program) (w:World) (l:Led) (σ:St) (X:Addr->Option Obj):Prop where
 inst:∀ a c fs,σ.I a=some (c,fs)->∃ dx es n,(a,.inst,instObj (N.ca c) dx)∈l/\(dx,.idict a,dictOf es n)∈l/\FRel N c fs es
 lst:∀ a vs,σ.L a=some vs->∃ us n,(a,.lst,listOf us n)∈l/\Vs us.toList vs/\vs.length<=big
 tup:∀ a vs,σ.T a=some vs->∃ us n,(a,.tup,tupOf us n)∈l/\Vs us.toList vs/\vs.length<=big
 dct:∀ a d,σ.D a=some d->∃ o,(a,.dct,o)∈l/\DRel prog w l d o/\(a == sysModules)=false/\d.length<=big
 ex:∀ a o,X a=some o->∃ o',(a,.ex,o')∈l/\Sl o o'
section
variable {N:Nm}{prog:Program}{w:World}{l l':Led}{σ:St}{X:Addr->Option Obj}{P:Role->Prop}
theorem Abs.instU (A:Abs N prog w l σ X) (up:∀ {a r o},P r->(a,r,o)∈l->(a,r,o)∈l') (p:P .inst) (q:∀ a,P (.idict a)):∀ a c fs,σ.I a=some (c,fs)->∃ dx es n,(a,Role.inst,instObj (N.ca c) dx)∈l'/\(dx,Role.idict a,dictOf es n)∈l'/\FRel N c fs es:=
 λa c fs e=>by obtain ⟨dx,es,n,x,y,z⟩:=A.inst a c fs e;exact ⟨dx,es,n,up p x,up (q a) y,z⟩
theorem Abs.lstU (A:Abs N prog w l σ X) (up:∀ {a r o},P r->(a,r,o)∈l->(a,r,o)∈l') (p:P .lst):∀ a vs,σ.L a=some vs->∃ us n,(a,Role.lst,listOf us n)∈l'/\Vs us.toList vs/\vs.length<=big:=
 λa vs e=>by obtain ⟨us,n,x,y⟩:=A.lst a vs e;exact ⟨us,n,up p x,y⟩
theorem Abs.tupU (A:Abs N prog w l σ X) (up:∀ {a r o},P r->(a,r,o)∈l->(a,r,o)∈l') (p:P .tup):∀ a vs,σ.T a=some vs->∃ us n,(a,Role.tup,tupOf us n)∈l'/\Vs us.toList vs/\vs.length<=big:=
 λa vs e=>by obtain ⟨us,n,x,y⟩:=A.tup a vs e;exact ⟨us,n,up p x,y⟩
theorem Abs.dctU (A:Abs N prog w l σ X) (up:∀ {a r o},P r->(a,r,o)∈l->(a,r,o)∈l') (p:P .dct) (q:P .pk):∀ a d,σ.D a=some d->∃ o,(a,Role.dct,o)∈l'/\DRel prog w l' d o/\(a == sysModules)=false/\d.length<=big:=
 λa d e=>by obtain ⟨o,x,y,z⟩:=A.dct a d e;exact ⟨o,up p x,y.mono λø ø h=>up q h,z⟩
theorem Abs.exU (A:Abs N prog w l σ X) (up:∀ {a r o},P r->(a,r,o)∈l->(a,r,o)∈l') (p:P .ex):∀ a o,X a=some o->∃ o',(a,Role.ex,o')∈l'/\Sl o o':=
 λa o e=>by obtain ⟨o',x,y⟩:=A.ex a o e;exact ⟨o',up p x,y⟩
theorem upd_some {α:Type}{f:Nat->Option α}{a b:Nat}{v x:α} (h:upd f a v b=some x) {Q:Prop} (k:b=a->v=x->Q) (k':b≠a->f b=some x->Q):Q:=by
 by_cases e:b=a
 ·subst e;exact k rfl (Option.some.inj ((upd_same _ _ _).symm.trans h))
 ·exact k' e ((upd_ne _ _ e).symm.trans h)
end
structure Wd where
 prog:Program
 w:World
 K:Frag
 B:Heap
 p:Program
 loose:List Str
 mg:Str->Option Value
 mb:Str->Option Value
 X:K.In B
 T:TopRead p loose mg mb B
 N:Nm
variable {W:Wd}
noncomputable def FOk (W:Wd) (σ:St):Prop:=∀ a vs,σ.F a=some vs->∃ us:List Value,W.B.IsList a us.toArray/\Vs us vs/\vs.length<=big
structure HS (W:Wd) (L:Addr) (m:Str->Option Value) (X:Addr->Option Obj) (σ:St) (h:Heap):Prop where
 fr:Fr W.B L h m
 led:∃ l:Led,(l.map (λø=>ø.1)).Nodup/\News W.B L h l.pl/\Abs W.N W.prog W.w l σ X
 st:FOk W σ
section
variable {L:Addr}{m:Str->Option Value}{X:Addr->Option Obj}{σ τ:St}{h:Heap}
theorem Abs.sub {N:Nm}{prog:Program}{w:World}{l:Led} (A:Abs N prog w l σ X) (s:τ.sub σ):Abs N prog w l τ X:=
 ⟨λa c fs e=>A.inst a c fs (s.I a _ e),λa vs e=>A.lst a vs (s.L a _ e),λa vs e=>A.tup a vs (s.T a _ e),λa vs e=>A.dct a vs (s.D a _ e),A.ex⟩
theorem HS.sub (H:HS W L m X σ h) (s:τ.sub σ):HS W L m X τ h:=
 by obtain ⟨l,n,N,A⟩:=H.led;exact ⟨H.fr,⟨l,n,N,A.sub s⟩,λa vs e=>H.st a vs (s.F a _ e)⟩
theorem HS.subX {X':Addr->Option Obj} (H:HS W L m X σ h) (s:∀ a o,X' a=some o->X a=some o):HS W L m X' σ h:=
 by obtain ⟨l,n,N,A⟩:=H.led;exact ⟨H.fr,⟨l,n,N,A.inst,A.lst,A.tup,A.dct,λa o e=>A.ex a o (s a o e)⟩,H.st⟩
theorem HS.keep (H:HS W L m X σ h) {a:Addr}{o:Obj} (e:W.B.get? a=some o):h.get? a=some o:=H.fr.keep a o e
theorem HS.inK (H:HS W L m X σ h):W.K.In h:=W.X.keeps H.fr.keep
theorem HS.at' (H:HS W L m X σ h) {a:Addr}{o:Obj} (e:X a=some o):∃ o',h.get? a=some o'/\Sl o o':=
 by obtain ⟨_,_,N,A⟩:=H.led;exact by obtain ⟨o',x,y⟩:=A.ex a o e;exact ⟨o',(N _ (Led.mem_pl x)).1,y⟩
theorem HS.at (H:HS W L m X σ h) {a:Addr}{o:Obj} (e:X a=some o) (hc:o.cls≠.type "frame"):h.get? a=some o:=
 by obtain ⟨_,x,y⟩:=H.at' e;exact by rw [<- y.eq hc];exact x
theorem HS.atne (H:HS W L m X σ h) {a:Addr}{o:Obj} (e:X a=some o):a≠L:=
 by obtain ⟨_,_,N,A⟩:=H.led;exact by obtain ⟨_,x,_⟩:=A.ex a o e;exact (N _ (Led.mem_pl x)).2.1
theorem HS.getL (H:HS W L m X σ h) {a:Addr}{vs:List V} (e:σ.L a=some vs):∃ us n,IsL h a us n/\Vs us.toList vs/\vs.length<=big:=
 by obtain ⟨_,_,N,A⟩:=H.led;exact by obtain ⟨us,n,x,y,z⟩:=A.lst a vs e;exact ⟨us,n,(N _ (Led.mem_pl x)).1,y,z⟩
theorem HS.getT (H:HS W L m X σ h) {a:Addr}{vs:List V} (e:σ.T a=some vs):∃ us n,h.get? a=some (tupOf us n)/\Vs us.toList vs/\vs.length<=big:=
 by obtain ⟨_,_,N,A⟩:=H.led;exact by obtain ⟨us,n,x,y,z⟩:=A.tup a vs e;exact ⟨us,n,(N _ (Led.mem_pl x)).1,y,z⟩
theorem HS.getF (H:HS W L m X σ h) {a:Addr}{vs:List V} (e:σ.F a=some vs):∃ us:List Value,h.IsList a us.toArray/\Vs us vs/\vs.length<=big:=
 by obtain ⟨us,⟨o,x,y⟩,z⟩:=H.st a vs e;exact ⟨us,⟨o,H.keep x,y⟩,z⟩
theorem HS.getD (H:HS W L m X σ h) {a:Addr}{d:List (V×V)} (e:σ.D a=some d):∃ o l,h.get? a=some o/\DRel W.prog W.w l d o/\(a == sysModules)=false/\d.length<=big:=
 by obtain ⟨_,_,N,A⟩:=H.led;exact by obtain ⟨o,x,y⟩:=A.dct a d e;exact ⟨o,_,(N _ (Led.mem_pl x)).1,y⟩
theorem HS.ledK (H:HS W L m X σ h) {P:Prop} (k:∀ l:Led,(l.map (λø=>ø.1)).Nodup->News W.B L h l.pl->Abs W.N W.prog W.w l σ X->P):P:=by obtain ⟨l,a,b,c⟩:=H.led;exact k l a b c
theorem HS.getLK (H:HS W L m X σ h) {a:Addr}{vs:List V} (e:σ.L a=some vs) {P:Prop} (k:∀ us n,IsL h a us n->Vs us.toList vs->vs.length<=big->P):P:=by obtain ⟨us,n,x,y,z⟩:=H.getL e;exact k us n x y z
theorem HS.getTK (H:HS W L m X σ h) {a:Addr}{vs:List V} (e:σ.T a=some vs) {P:Prop} (k:∀ us n,h.get? a=some (tupOf us n)->Vs us.toList vs->vs.length<=big->P):P:=by obtain ⟨us,n,x,y,z⟩:=H.getT e;exact k us n x y z
theorem HS.getFK (H:HS W L m X σ h) {a:Addr}{vs:List V} (e:σ.F a=some vs) {P:Prop} (k:∀ us:List Value,h.IsList a us.toArray->Vs us vs->vs.length<=big->P):P:=by obtain ⟨us,x,y,z⟩:=H.getF e;exact k us x y z
theorem HS.getDK (H:HS W L m X σ h) {a:Addr}{d:List (V×V)} (e:σ.D a=some d) {P:Prop} (k:∀ o l,h.get? a=some o->DRel W.prog W.w l d o->(a == sysModules)=false->d.length<=big->P):P:=by obtain ⟨o,l,x,y,z,w⟩:=H.getD e;exact k o l x y z w
theorem Abs.lstK {N:Nm}{prog:Program}{w:World}{l:Led}{σ:St}{X:Addr->Option Obj} (A:Abs N prog w l σ X) {a:Addr}{vs:List V} (e:σ.L a=some vs) {P:Prop} (k:∀ us n,(a,.lst,listOf us n)∈l->Vs us.toList vs->vs.length<=big->P):P:=by obtain ⟨us,n,x,y,z⟩:=A.lst a vs e;exact k us n x y z
theorem Abs.dctK {N:Nm}{prog:Program}{w:World}{l:Led}{σ:St}{X:Addr->Option Obj} (A:Abs N prog w l σ X) {a:Addr}{d:List (V×V)} (e:σ.D a=some d) {P:Prop} (k:∀ o,(a,.dct,o)∈l->DRel prog w l d o->(a == sysModules)=false->d.length<=big->P):P:=by obtain ⟨o,x,y,z,v⟩:=A.dct a d e;exact k o x y z v
theorem Vs.unconsK {us v vs} (h:Vs us (v::vs)) {P:List Value->Prop} (k:∀ u us',av u=some v->Vs us' vs->P (u::us')):P us:=by obtain ⟨u,us',e,x,y⟩:=h.uncons;exact e ▸ k u us' x y
theorem HS.getI (H:HS W L m X σ h) {a:Addr}{c:Nat}{fs:List (Nat×V)} (e:σ.I a=some (c,fs)) :
 ∃ dx es n,InstAt h a (instObj (W.N.ca c) dx) (W.N.ca c) (some (dictOf es n))/\FRel W.N c fs es:=
 by obtain ⟨_,_,N,A⟩:=H.led;exact by obtain ⟨dx,es,n,x,y,z⟩:=A.inst a c fs e;exact ⟨dx,es,n,⟨(N _ (Led.mem_pl x)).1,rfl,rfl,(N _ (Led.mem_pl y)).1⟩,z⟩
theorem Abs.none_of {N:Nm}{prog:Program}{w:World}{l:Led} (A:Abs N prog w l σ X) {a:Addr} (hn:∀ r o,(a,r,o) ∉ l) :
 σ.I a=none/\σ.L a=none/\σ.T a=none/\σ.D a=none/\X a=none:=by
 refine ⟨?_,?_,?_,?_,?_⟩
 ·cases q:σ.I a with
  | none=>rfl
  | some x=>obtain ⟨c,fs⟩:=x;obtain ⟨dx,es,n,x,_⟩:=A.inst a c fs q;exact absurd x (hn _ _)
 ·cases q:σ.L a with
  | none=>rfl
  | some x=>obtain ⟨us,n,x,_⟩:=A.lst a x q;exact absurd x (hn _ _)
 ·cases q:σ.T a with
  | none=>rfl
  | some x=>obtain ⟨us,n,x,_⟩:=A.tup a x q;exact absurd x (hn _ _)
 ·cases q:σ.D a with
  | none=>rfl
  | some x=>obtain ⟨o,x,_⟩:=A.dct a x q;exact absurd x (hn _ _)
 ·cases q:X a with
  | none=>rfl
  | some x=>obtain ⟨_,y,_⟩:=A.ex a x q;exact absurd y (hn _ _)
theorem HS.none_at (H:HS W L m X σ h) {a:Addr} (ha:h.get? a=none):σ.fresh a/\X a=none:=by
 obtain ⟨l,n,N,A⟩:=H.led
 obtain ⟨a1,a2,a3,a4,a5⟩:=A.none_of (a:=a) λr o hm=>by have:=(N _ (Led.mem_pl hm)).1;rw [ha] at this;cases this
 refine ⟨⟨a1,a2,a3,a4,?_⟩,a5⟩
 cases q:σ.F a with
 | none=>rfl
 | some vs=>obtain ⟨us,⟨o,x,_⟩,_⟩:=H.getF q;rw [ha] at x;cases x
theorem HS.fresh (H:HS W L m X σ h):σ.fresh h.objs.size/\X h.objs.size=none:=H.none_at (Heap.get?_none_of_le (Nat.le_refl _))
theorem HS.pushed (H:HS W L m X σ h) (o:Obj) (r:Role) (hf:o.isFreed=false) {σ':St}{X':Addr->Option Obj} (hF:σ'.F=σ.F)
 (k:∀ l:Led,Abs W.N W.prog W.w l σ X->Abs W.N W.prog W.w ((h.objs.size,r,o)::l) σ' X'):HS W L m X' σ' (h.push o):=by
 obtain ⟨l,n,N,A⟩:=H.led
 refine ⟨H.fr.push o,⟨(h.objs.size,r,o)::l,?_,N.push H.fr o hf,k l A⟩,λa vs e=>H.st a vs (hF ▸ e)⟩
 rw [List.map_cons,List.nodup_cons]
 refine ⟨λhm=>?_,n⟩
 obtain ⟨e,he,q⟩:=List.mem_map.mp hm
 have:=(N _ (List.mem_map.mpr ⟨e,he,rfl⟩)).1
 have:=Heap.lt_size this
 exact absurd this (by show ¬ e.1<h.objs.size;rw [q];exact Nat.lt_irrefl _)
theorem Abs.grow {N:Nm}{prog:Program}{w:World}{l:Led} (A:Abs N prog w l σ X) (e:Addr×Role×Obj):Abs N prog w (e::l) σ X:=
 have up:∀ {a r o},True->(a,r,o)∈l->(a,r,o)∈e::l:=λø h=>.tail _ h
 ⟨A.instU up trivial λø=>trivial,A.lstU up trivial,A.tupU up trivial,A.dctU up trivial trivial,A.exU up trivial⟩
theorem HS.push (H:HS W L m X σ h) (o:Obj) (hf:o.isFreed=false):HS W L m X σ (h.push o):=H.pushed o .ex hf rfl λø A=>A.grow _
theorem HS.newL (H:HS W L m X σ h) {us:List Value}{vs:List V} (x:Vs us vs) (hb:vs.length<=big) (n:Nat):HS W L m X (σ.setL h.objs.size vs) (h.push (listOf us.toArray n)):=
 H.pushed _ .lst rfl rfl λl A=>⟨(A.grow _).inst,λa ws q=>upd_some q (λe1 e2=>by subst e1;subst e2;exact ⟨us.toArray,n,.head _,x,hb⟩) λø q=>(A.grow _).lst a ws q,(A.grow _).tup,(A.grow _).dct,(A.grow _).ex⟩
theorem HS.newT (H:HS W L m X σ h) {us:List Value}{vs:List V} (x:Vs us vs) (hb:vs.length<=big) (n:Nat):HS W L m X (σ.setT h.objs.size vs) (h.push (tupOf us.toArray n)):=
 H.pushed _ .tup rfl rfl λl A=>⟨(A.grow _).inst,(A.grow _).lst,λa ws q=>upd_some q (λe1 e2=>by subst e1;subst e2;exact ⟨us.toArray,n,.head _,x,hb⟩) λø q=>(A.grow _).tup a ws q,(A.grow _).dct,(A.grow _).ex⟩
theorem HS.newX (H:HS W L m X σ h) (o:Obj) (hf:o.isFreed=false):HS W L m (upd X h.objs.size o) σ (h.push o):=
 H.pushed _ .ex hf rfl λl A=>⟨(A.grow _).inst,(A.grow _).lst,(A.grow _).tup,(A.grow _).dct,λa ws q=>upd_some q (λe1 e2=>by subst e1;subst e2;exact ⟨_,.head _,.inl rfl⟩) λø q=>(A.grow _).ex a ws q⟩
theorem HS.changed {h':Heap} (H:HS W L m X σ h) {a:Addr}{r:Role}{o o':Obj}{l:Led} (hn:(l.map (λø=>ø.1)).Nodup) (hm:(a,r,o)∈l)
 (F:Fr W.B L h' m) (N:News W.B L h' (l.put a o').pl) {σ':St}{X':Addr->Option Obj} (hF:σ'.F=σ.F)
 (k:Abs W.N W.prog W.w (l.put a o') σ' X'):HS W L m X' σ' h':=
 ⟨F,⟨l.put a o',by rw [Led.put_keys];exact hn,N,k⟩,λa vs e=>H.st a vs (hF ▸ e)⟩
end
end
section
variable {W:Wd}
theorem upd_of {d:Addr}{o o':Obj}:∀ {pre post:List (Addr×Obj)},(∀ p∈pre,p.1≠d)->(∀ p∈post,p.1≠d)->Upd d o o' (pre++(d,o)::post) (pre++(d,o')::post)
 | [],_,_,h=>.head h
 | p::_,_,h1,h2=>.tail (h1 p (.head _)) (upd_of (λq hq=>h1 q (.tail _ hq)) h2)
theorem updF_of {d:Addr}{o:Obj}:∀ {pre post:List (Addr×Obj)},(∀ p∈pre,p.1≠d)->(∀ p∈post,p.1≠d)->UpdF d o (pre++(d,o)::post) (λo'=>pre++(d,o')::post)
 | [],_,_,h=>.head h
 | p::_,_,h1,h2=>.tail (h1 p (.head _)) (updF_of (λq hq=>h1 q (.tail _ hq)) h2)
theorem Led.upd {l:Led} (hn:(l.map (λø=>ø.1)).Nodup) {a:Addr}{r:Role}{o:Obj} (h:(a,r,o)∈l) (o':Obj):Upd a o o' l.pl (l.put a o').pl:=by
 obtain ⟨pre,post,e1,e2,h1,h2⟩:=Led.split hn h o'
 rw [e1,e2];exact upd_of h1 h2
theorem Led.updF {l:Led} (hn:(l.map (λø=>ø.1)).Nodup) {a:Addr}{r:Role}{o:Obj} (h:(a,r,o)∈l):UpdF a o l.pl (λo'=>(l.put a o').pl):=by
 obtain ⟨pre,post,e1,e2,h1,h2⟩:=Led.split hn h o
 have e:(λo'=>(l.put a o').pl)=λo'=>pre++(a,o')::post:=by
  funext o'
  obtain ⟨pre',post',e1',e2',h1',h2'⟩:=Led.split hn h o'
  rw [e2']
  have:pre=pre'/\post=post':=by
   have q:pre++(a,o)::post=pre'++(a,o)::post':=by rw [<- e1,e1']
   clear e1 e2 e1' e2' h h2 h2'
   induction pre generalizing pre' with
   | nil=>cases pre' with
     | nil=>simp at q;exact ⟨rfl,q⟩
     | cons p pre'=>simp at q;exact absurd (by rw [<- q.1]) (h1' p (.head _))
   | cons p pre ih=>cases pre' with
     | nil=>simp at q;exact absurd (by rw [q.1]) (h1 p (.head _))
     | cons p' pre'=>
       simp at q
       obtain ⟨x,y⟩:=ih (λr hr=>h1 r (.tail _ hr)) pre' (λr hr=>h1' r (.tail _ hr)) (by simpa using q.2)
       exact ⟨by rw [q.1,x],y⟩
  rw [this.1,this.2]
 rw [e,e1];exact updF_of h1 h2
section
variable {L:Addr}{m:Str->Option Value}{X:Addr->Option Obj}{σ τ:St}{h:Heap}
theorem Led.putU {l:Led} (hn:(l.map (λø=>ø.1)).Nodup) {a:Addr}{r₀:Role}{o o':Obj} (hm:(a,r₀,o)∈l) {b:Addr}{r:Role}{p:Obj} (hr:r≠r₀) (hb:(b,r,p)∈l):(b,r,p)∈l.put a o':=
 Led.mem_put_ne hb λe=>by subst e;exact hr (Led.uniq hn hb hm).1
theorem Abs.putL {N:Nm}{prog:Program}{w:World}{l:Led} (A:Abs N prog w l σ X) (hn:(l.map (λø=>ø.1)).Nodup) {a:Addr}{o:Obj} (hm:(a,Role.lst,o)∈l) {us:Array Value}{n:Nat}{vs:List V} (x:Vs us.toList vs) (hb:vs.length<=big) :
 Abs N prog w (l.put a (listOf us n)) (σ.setL a vs) X:=
 ⟨A.instU (Led.putU hn hm) nofun λø=>nofun,λb ws q=>upd_some q (λe1 e2=>by subst e1;subst e2;exact ⟨us,n,Led.mem_put_eq hm,x,hb⟩) λe q=>by obtain ⟨us',k,y,z⟩:=A.lst b ws q;exact ⟨us',k,Led.mem_put_ne y e,z⟩,
  A.tupU (Led.putU hn hm) nofun,A.dctU (Led.putU hn hm) nofun nofun,A.exU (Led.putU hn hm) nofun⟩
theorem Abs.putD {N:Nm}{prog:Program}{w:World}{l:Led} (A:Abs N prog w l σ X) (hn:(l.map (λø=>ø.1)).Nodup) {a:Addr}{o o':Obj} (hm:(a,Role.dct,o)∈l) {d:List (V×V)} (x:DRel prog w l d o') (hb:d.length<=big) (hs:(a == sysModules)=false) :
 Abs N prog w (l.put a o') (σ.setD a d) X:=
 ⟨A.instU (Led.putU hn hm) nofun λø=>nofun,A.lstU (Led.putU hn hm) nofun,A.tupU (Led.putU hn hm) nofun,
  λb d' q=>upd_some q (λe1 e2=>by subst e1;subst e2;exact ⟨o',Led.mem_put_eq hm,x.mono λø ø h=>Led.putU hn hm nofun h,hs,hb⟩) λe q=>by obtain ⟨p,y,z,f⟩:=A.dct b d' q;exact ⟨p,Led.mem_put_ne y e,z.mono λø ø h=>Led.putU hn hm nofun h,f⟩,
  A.exU (Led.putU hn hm) nofun⟩
theorem Abs.putX {N:Nm}{prog:Program}{w:World}{l:Led} (A:Abs N prog w l σ X) (hn:(l.map (λø=>ø.1)).Nodup) {a:Addr}{o:Obj} (hm:X a=some o) (o':Obj) :
 Abs N prog w (l.put a o') σ (Mine.upd X a o'):=
 by obtain ⟨_,hm',_⟩:=A.ex a o hm;exact ⟨A.instU (Led.putU hn hm') nofun λø=>nofun,A.lstU (Led.putU hn hm') nofun,A.tupU (Led.putU hn hm') nofun,A.dctU (Led.putU hn hm') nofun nofun,
  λb p q=>upd_some q (λe1 e2=>by subst e1;subst e2;exact ⟨_,Led.mem_put_eq hm',.inl rfl⟩) λe q=>by obtain ⟨p',y,z⟩:=A.ex b p q;exact ⟨p',Led.mem_put_ne y e,z⟩⟩
theorem Abs.putI {N:Nm}{prog:Program}{w:World}{l:Led} (A:Abs N prog w l σ X) (hn:(l.map (λø=>ø.1)).Nodup) {a dx:Addr}{c:Nat}{o o₁:Obj} (h1:(a,Role.inst,o)∈l) (ho:o=instObj (N.ca c) dx)
 (hm:(dx,Role.idict a,o₁)∈l) {es:List DictEntry}{n:Nat}{fs:List (Nat×V)} (x:FRel N c fs es):Abs N prog w (l.put dx (dictOf es n)) (σ.setI a (c,fs)) X:=by
 subst ho
 refine ⟨λb c' fs' q=>upd_some q (λe1 e2=>?_) λe q=>?_,A.lstU (Led.putU hn hm) nofun,A.tupU (Led.putU hn hm) nofun,A.dctU (Led.putU hn hm) nofun nofun,A.exU (Led.putU hn hm) nofun⟩
 ·subst e1;cases e2
  exact ⟨dx,es,n,Led.putU hn hm nofun h1,Led.mem_put_eq hm,x⟩
 ·obtain ⟨dx',es',k,y,z,f⟩:=A.inst b c' fs' q
  refine ⟨dx',es',k,Led.putU hn hm nofun y,Led.mem_put_ne z λq'=>?_,f⟩
  have q':dx'=dx:=q'
  subst q'
  cases (Led.uniq hn z hm).1;exact e rfl
theorem HS.sameX {h':Heap} (H:HS W L m X σ h) {a:Addr}{o o':Obj} (e:X a=some o) (hs:Heap.SameBut a h h') (he:h'.get? a=some o'):HS W L m (Mine.upd X a o') σ h':=by
 obtain ⟨l,hn,N,A⟩:=H.led
 obtain ⟨o₁,hm,_⟩:=A.ex a o e
 have D:=N _ (Led.mem_pl hm)
 have F':Fr W.B L h' m:=by
  obtain ⟨oL,es,ep,hL,r⟩:=H.fr.ns
  refine ⟨⟨oL,es,ep,(hs.2 L (Ne.symm D.2.1)).trans hL,r⟩,λb x q=>(hs.2 b λz=>?_).trans (H.fr.keep b x q),H.fr.above⟩
  have:=D.2.2;rw [z] at q;rw [this] at q;cases q
 refine H.changed hn hm F' (λp hp=>?_) rfl (A.putX hn e o')
 obtain ⟨y,hy,rfl⟩:=List.mem_map.mp hp
 unfold Led.put at hy
 obtain ⟨x,hx,rfl⟩:=List.mem_map.mp hy
 split
 ·rename_i q
  dsimp only
  rw [q]
  exact ⟨he,D.2⟩
 ·rename_i q
  have P:=N _ (List.mem_map.mpr ⟨x,hx,rfl⟩)
  exact ⟨(hs.2 _ q).trans P.1,P.2⟩
theorem HS.sameF {h':Heap}{m':Str->Option Value} (H:HS W L m X σ h) (hs:Heap.SameBut L h h') (hn:h'.Ns L m'):HS W L m' X σ h':=by
 obtain ⟨l,n,N,A⟩:=H.led
 exact ⟨H.fr.set hn hs,⟨l,n,N.set hs,A⟩,H.st⟩
theorem HS.keeps {h':Heap} (H:HS W L m X σ h) (hk:∀ b o,h.get? b=some o->h'.get? b=some o):HS W L m X σ h':=by
 obtain ⟨l,n,N,A⟩:=H.led
 obtain ⟨oL,es,ep,hL,r⟩:=H.fr.ns
 exact ⟨⟨⟨oL,es,ep,hk _ _ hL,r⟩,λb o e=>hk _ _ (H.fr.keep b o e),H.fr.above⟩,⟨l,n,λp hp=>⟨hk _ _ (N p hp).1,(N p hp).2⟩,A⟩,H.st⟩
end
variable {W:Wd}{L:Addr}{m:Str->Option Value}{X:Addr->Option Obj}{σ τ:St}{h:Heap}
theorem HS.kNew (H:HS W L m X σ h) {l:Led} (hn:(l.map (λø=>ø.1)).Nodup) (A:Abs W.N W.prog W.w l σ X) {D:Addr}{o:Obj}{h':Heap}
 (F':Fr W.B L h' m) (N':News W.B L h' ((D,o)::l.pl)) (lt:∀ p∈Led.pl l,p.1<D) :
 σ.fresh D/\X D=none/\(∀ (r:Role) (σ':St) (X':Addr->Option Obj),σ'.F=σ.F->Abs W.N W.prog W.w ((D,r,o)::l) σ' X'->HS W L m X' σ' h'):=by
 have out:∀ r o,(D,r,o) ∉ l:=λr o hm=>absurd (lt _ (Led.mem_pl hm)) (Nat.lt_irrefl _)
 obtain ⟨a1,a2,a3,a4,a5⟩:=A.none_of out
 refine ⟨⟨a1,a2,a3,a4,?_⟩,a5,λr σ' X' hF A'=>⟨F',⟨(D,r,o)::l,?_,N',A'⟩,λa vs e=>H.st a vs (hF ▸ e)⟩⟩
 ·cases q:σ.F D with
  | none=>rfl
  | some vs=>
    obtain ⟨us,⟨ob,hb,_⟩,_⟩:=H.st D vs q
    have:=(N' (D,o) (.head _)).2.2
    rw [hb] at this;cases this
 ·rw [List.map_cons,List.nodup_cons]
  refine ⟨λhm=>?_,hn⟩
  obtain ⟨⟨a,r,o'⟩,he,q⟩:=List.mem_map.mp hm
  exact out r o' (by cases q;exact he)
theorem Abs.consL {l:Led}{prog:Program}{w:World}{N:Nm} (A:Abs N prog w l σ X) {a:Addr}{us:List Value}{vs:List V} (x:Vs us vs) (hb:vs.length<=big) (n:Nat) :
 Abs N prog w ((a,.lst,listOf us.toArray n)::l) (σ.setL a vs) X:=
 ⟨(A.grow _).inst,λb ws q=>upd_some q (λe1 e2=>by subst e1;subst e2;exact ⟨us.toArray,n,.head _,x,hb⟩) λø q=>(A.grow _).lst b ws q,(A.grow _).tup,(A.grow _).dct,(A.grow _).ex⟩
theorem HS.kNewL (H:HS W L m X σ h) {l:Led} (hn:(l.map (λø=>ø.1)).Nodup) (A:Abs W.N W.prog W.w l σ X) {D:Addr}{us:List Value}{vs:List V}{n:Nat}{h':Heap} (x:Vs us vs) (hb:vs.length<=big)
 (F':Fr W.B L h' m) (N':News W.B L h' ((D,listOf us.toArray n)::l.pl)) (lt:∀ p∈Led.pl l,p.1<D):σ.fresh D/\HS W L m X (σ.setL D vs) h':=
 by obtain ⟨f,_,k⟩:=H.kNew hn A F' N' lt;exact ⟨f,k .lst _ _ rfl (A.consL x hb n)⟩
end
section
variable {W:Wd}
noncomputable def avI:V->Value->Prop
 | .none,u=>u=.none
 | .bool b,u=>u=.bool b
 | .int i,u=>∃ t,u=.int i t
 | .str x,u=>∃ t,u=.str x t
 | .bytes b,u=>∃ t,u=.bytes b.toArray t
 | .ref a,u=>u=.ref a
 | .pair _ _,_=>False
theorem av_inv {u:Value}{v:V} (h:av u=some v):avI v u:=by
 cases u <;> cases h <;> first | exact Eq.refl _ | exact Exists.intro _ (Eq.refl _)
theorem av_int {u:Value}{i:Int} (h:av u=some (.int i)):∃ t,u=.int i t:=av_inv h
theorem av_bool {u:Value}{b:Bool} (h:av u=some (.bool b)):u=.bool b:=av_inv h
theorem av_none {u:Value} (h:av u=some .none):u=.none:=av_inv h
theorem av_str {u:Value}{x:Str} (h:av u=some (.str x)):∃ t,u=.str x t:=av_inv h
theorem av_bytes {u:Value}{b:List UInt8} (h:av u=some (.bytes b)):∃ t,u=.bytes b.toArray t:=av_inv h
theorem av_ref {u:Value}{a:Nat} (h:av u=some (.ref a)):u=.ref a:=av_inv h
theorem av_of_int (i:Int) (t:Tok):av (.int i t)=some (.int i):=rfl
theorem av_of_bytes (b:List UInt8) (t:Tok):av (.bytes b.toArray t)=some (.bytes b):=rfl
theorem fI {u:Value}{i:Int}{P:Value->Prop} (h:av u=some (.int i)) (k:∀ t,P (.int i t)):P u:=by obtain ⟨t,e⟩:=av_int h;exact e ▸ k t
theorem fB {u:Value}{b:List UInt8}{P:Value->Prop} (h:av u=some (.bytes b)) (k:∀ t,P (.bytes b.toArray t)):P u:=by obtain ⟨t,e⟩:=av_bytes h;exact e ▸ k t
theorem fR {u:Value}{r:Nat}{P:Value->Prop} (h:av u=some (.ref r)) (k:P (.ref r)):P u:=av_ref h ▸ k
theorem eI {u:Value}{x:V}{f:Int->Prop}{P:Value->Prop} (hu:av u=some x) (h:gI f x) (k:∀ i t,f i->P (.int i t)):P u:=
 gI_ok (P:=λx=>av u=some x->P u) h (λi h hu=>fI hu λt=>k i t h) hu
theorem eB {u:Value}{x:V}{f:List UInt8->Prop}{P:Value->Prop} (hu:av u=some x) (h:gB f x) (k:∀ b t,f b->P (.bytes b.toArray t)):P u:=
 gB_ok (P:=λx=>av u=some x->P u) h (λi h hu=>fB hu λt=>k i t h) hu
theorem eR {u:Value}{x:V}{f:Nat->Prop}{P:Value->Prop} (hu:av u=some x) (h:gR f x) (k:∀ r,f r->P (.ref r)):P u:=
 gR_ok (P:=λx=>av u=some x->P u) h (λi h hu=>fR hu (k i h)) hu
theorem eN {u:Value}{x:V}{f:Prop}{P:Value->Prop} (hu:av u=some x) (h:gN f x) (k:f->P .none):P u:=
 gN_ok (P:=λx=>av u=some x->P u) h (λh hu=>av_none hu ▸ k h) hu
theorem eII {a b:Value}{v w:V}{f:Int->Int->Prop}{P:Value->Value->Prop} (ha:av a=some v) (hb:av b=some w) (h:gI (λi=>gI (f i) w) v) (k:∀ i t j u,f i j->P (.int i t) (.int j u)):P a b:=
 eI (P:=λa=>P a b) ha h λi t h=>eI (P:=λb=>P (.int i t) b) hb h λj u h=>k i t j u h
abbrev Mo (W:Wd):Model:=model W.prog W.w
noncomputable def BK (W:Wd) (L:Addr) (m:Str->Option Value) (X:Addr->Option Obj) (s:Shared) (k:KV) (Q:Value->Shared->Prop):Prop:=
 ∀ u v h' t' σ',av u=some v->HS W L m X σ' h'->k v σ'->Q u { s with heap:=h',toks:=t' }
noncomputable def Bop.op:Bop->Operator
 | .add=>.Add | .sub=>.Sub | .mul=>.Mult | .fdiv=>.FloorDiv | .mod=>.Mod | .pow=>.Pow
 | .shl=>.LShift | .shr=>.RShift | .and=>.BitAnd | .or=>.BitOr | .xor=>.BitXor
noncomputable def opOk (o:Bop) (p:Operator):Bool:=decide (p=o.op)
theorem opOk_eq {o:Bop}{p:Operator} (h:opOk o p=true):p=o.op:=of_decide_eq_true h
noncomputable def Cop.op:Cop->CmpOp
 | .eq=>.Eq | .ne=>.NotEq | .lt=>.Lt | .le=>.LtE | .gt=>.Gt | .ge=>.GtE | .is=>.Is | .isnot=>.IsNot | .isin=>.In | .notin=>.NotIn
noncomputable def copOk (o:Cop) (p:CmpOp):Bool:=decide (p=o.op)
theorem copOk_eq {o:Cop}{p:CmpOp} (h:copOk o p=true):p=o.op:=of_decide_eq_true h
theorem intBits_small {a:Int} (h:small64 a):Builtin.Int.intBits a<=64:=by
 unfold small64 at h
 exact intBits_le_64 (by omega) (by omega)
theorem mulOk {a b:Int} (h:small64 a\/small64 b):IntMulOk a b:=by
 unfold IntMulOk
 simp only [Bool.and_eq_true,decide_eq_true_eq,not_and]
 intro x y
 exfalso
 rcases h with h | h
 ·have:=intBits_small h;exact absurd x.1 (by rw [show shortFactorBits=64 from rfl];lia)
 ·have:=intBits_small h;exact absurd x.2 (by rw [show shortFactorBits=64 from rfl];lia)
section
variable {L:Addr}{m:Str->Option Value}{X:Addr->Option Obj}{σ:St}{s:Shared}{A:Around}{E:Value->Shared->Prop}{Q:Value->Shared->Prop}{k:KV}
theorem size_big {vs:List V}{us:Array Value} (x:Vs us.toList vs) (h:vs.length<=big):us.size<=sizeLine:=by
 have:=x.len;rw [Array.length_toList] at this;rw [this,sizeLine_eq];unfold big at h;lia
theorem kmaMul {h₀:Heap}{prog:Program}{w:World}{l:Addr}{us:Array Value}{x:Int}{u:Tok}{news:List (Addr×Obj)} (Fm:Fr h₀ L s.heap m) (N:News h₀ L s.heap news) (hl:s.heap.IsList l us) (hlo:-(2 ^ 63:Int)<=x) (hhi:x<2 ^ 63) (hsz:us.size * x.toNat<=256)
 (h:∀ D h',Fr h₀ L h' m->News h₀ L h' ((D,listOf (List.replicate x.toNat us.toList).flatten.toArray 0)::news)->(∀ p∈news,p.1<D)->Q (.ref D) { s with heap:=h' }) :
 wpAny (model prog w) A (binaryOp .Mult (.ref l) (.int x u)) Q E s:=
 KMa.mul (vs:=us.toList) Fm N hl hlo hhi (by simpa using hsz) rfl h
theorem noPy {a b:Int} (h:small64 b):Builtin.divisionGoesByPylong a b=false:=PyProof.noPylong_of_log2 (by
 unfold small64 at h
 by_cases q:b.natAbs=0
 ·rw [q];decide
 ·have:=(Nat.log2_lt q).mpr h;lia)
theorem rep_vs {us:List Value}{xs:List V} (v1:Vs us xs):∀ n:Nat,Vs (List.replicate n us).flatten (List.replicate n xs).flatten
 | 0=>Vs.nil
 | n+1=>v1.app (rep_vs v1 n)
theorem op_add {a b:Value}{v w:V} (ha:av a=some v) (hb:av b=some w) (H:HS W L m X σ s.heap)
 (hw:addV v w σ k) (K:BK W L m X s k Q):wpAny (Mo W) A (binaryOp .Add a b) Q E s:=by
 cases v with
 | int i=>exact fI (P:=λa=>wpAny (Mo W) A (binaryOp .Add a b) Q E s) ha λt=>eI (P:=λb=>wpAny (Mo W) A (binaryOp .Add (.int i t) b) Q E s) hb hw λj u hw=>PyProof.Rows.add_int (K _ _ _ _ σ rfl H hw)
 | bytes i=>
   refine fB (P:=λa=>wpAny (Mo W) A (binaryOp .Add a b) Q E s) ha λt=>eB (P:=λb=>wpAny (Mo W) A (binaryOp .Add (.bytes i.toArray t) b) Q E s) hb hw λj u hw=>?_
   refine KBy.add_bytes (by have h:i.length+j.length<=1000000:=hw.1;simp;lia) λt' tk=>?_
   exact K _ _ s.heap tk σ (by simp [av]) H hw.2
 | ref i=>
   refine fR (P:=λa=>wpAny (Mo W) A (binaryOp .Add a b) Q E s) ha (eR (P:=λb=>wpAny (Mo W) A (binaryOp .Add (.ref i) b) Q E s) hb hw λj hw=>?_)
   refine gS_ok hw λxs e1 hw=>gS_ok hw λys e2 hw=>?_
   refine H.getLK e1 λus n i1 v1 ø=>H.getLK e2 λus' n' i2 v2 ø=>?_
   have hz:us.size+us'.size<=1000000:=by rw [<- Array.length_toList,<- Array.length_toList (xs:=us'),v1.len,v2.len];exact hw.1
   refine P.add_list i1 i2 ?_ (by rw [sizeLine_eq];lia)
   have hn:=H.newL (us:=us.toList++us'.toList) (v1.app v2) (by rw [List.length_append];exact hw.1) 0
   have:=K (.ref s.heap.objs.size) (.ref s.heap.objs.size) _ s.toks _ rfl hn (hw.2 _ H.fresh.1)
   rw [show (us.toList++us'.toList).toArray=us++us' by simp] at this
   exact this
 | _=>exact hw.elim
theorem op_mul {a b:Value}{v w:V} (ha:av a=some v) (hb:av b=some w) (H:HS W L m X σ s.heap)
 (hw:mulV v w σ k) (K:BK W L m X s k Q):wpAny (Mo W) A (binaryOp .Mult a b) Q E s:=by
 cases v with
 | int i=>exact fI (P:=λa=>wpAny (Mo W) A (binaryOp .Mult a b) Q E s) ha λt=>eI (P:=λb=>wpAny (Mo W) A (binaryOp .Mult (.int i t) b) Q E s) hb hw λj u hw=>PyProof.Rows.mul_int (K _ _ _ _ σ rfl H hw.2) (mulOk hw.1)
 | ref i=>
   refine fR (P:=λa=>wpAny (Mo W) A (binaryOp .Mult a b) Q E s) ha (eI (P:=λb=>wpAny (Mo W) A (binaryOp .Mult (.ref i) b) Q E s) hb hw λy t hw=>gS_ok hw λxs e1 hw=>?_)
   refine H.ledK λl hn N Ab=>H.getLK e1 λus n i1 v1 ø=>?_
   have q1:us.size=xs.length:=by rw [<- Array.length_toList,v1.len]
   have y16:y.toNat<=16:=Int.toNat_le.mpr hw.2.1
   have hlen:(List.replicate y.toNat xs).flatten.length<=big:=by
    rw [List.length_flatten,List.map_replicate,List.sum_replicate_nat]
    exact Nat.le_trans (Nat.mul_le_mul y16 hw.2.2.1) (by decide)
   refine kmaMul H.fr N i1.isList (Int.le_trans (by decide) hw.1) (Int.lt_of_le_of_lt hw.2.1 (by decide)) ?_ λD h' F' N' lt=>?_
   ·rw [q1];exact Nat.le_trans (Nat.mul_le_mul hw.2.2.1 y16) (by decide)
   ·have z:=H.kNewL hn Ab (rep_vs v1 y.toNat) hlen F' N' lt
    exact K _ _ _ s.toks _ rfl z.2 (hw.2.2.2 D z.1)
 | _=>exact hw.elim
theorem op_bin {o:Bop}{a b:Value}{v w:V} (ha:av a=some v) (hb:av b=some w) (H:HS W L m X σ s.heap)
 (hw:binop o v w σ k) (K:BK W L m X s k Q):wpAny (Mo W) A (binaryOp o.op a b) Q E s:=by
 have fin:∀ {i:Int}{t':Tok},k (.int i) σ->Q (.int i s.toks) { s with toks:=t' }:=λ{i t'} h=>K (.int i s.toks) (.int i) s.heap t' σ rfl H h
 let P o:=λa b=>wpAny (Mo W) A (binaryOp o a b) Q E s
 cases o with
 | add=>exact op_add ha hb H hw K
 | mul=>exact op_mul ha hb H hw K
 | sub=>exact eII (P:=P .Sub) ha hb hw λi t j u hw=>PyProof.Rows.sub_int (fin hw)
 | fdiv=>exact eII (P:=P .FloorDiv) ha hb hw λi t j u hw=>PyProof.Rows.floordiv_int hw.1 (fin hw.2.2) (.inl (noPy hw.2.1))
 | mod=>exact eII (P:=P .Mod) ha hb hw λi t j u hw=>PyProof.Rows.mod_int' hw.1 (fin hw.2)
 | pow=>exact eII (P:=P .Pow) ha hb hw λi t j u hw=>PyProof.Rows.pow_int_small hw.1 (Int.le_trans hw.2.1 (by decide)) hw.2.2.1 (fin hw.2.2.2)
 | shl=>exact eII (P:=P .LShift) ha hb hw λi t j u hw=>PyProof.Rows.lshift_int_small hw.1 (Int.le_trans hw.2.1 (by decide)) hw.2.2.1 (fin hw.2.2.2)
 | shr=>exact eII (P:=P .RShift) ha hb hw λi t j u hw=>PyProof.Rows.rshift_int hw.1 (fin hw.2)
 | and=>exact eII (P:=P .BitAnd) ha hb hw λi t j u hw=>PyProof.Rows.and_int (fin hw)
 | or=>exact eII (P:=P .BitOr) ha hb hw λi t j u hw=>PyProof.Rows.or_int (fin hw)
 | xor=>exact eII (P:=P .BitXor) ha hb hw λi t j u hw=>PyProof.Rows.xor_int (fin hw)
end
end
section
variable {W:Wd}
section
variable {L:Addr}{m:Str->Option Value}{X:Addr->Option Obj}{σ:St}{s:Shared}{A:Around}{E:Value->Shared->Prop}{Q:Value->Shared->Prop}
theorem eqg_bytes (b c:List UInt8) (t u:Tok):MeetsSeq.EqGives (.bytes b.toArray t) (.bytes c.toArray u) (b == c):=λprog w A E s Q h=>PySem.W.eqBool_bytes (by
 have e:decide (b.toArray.toList=c.toArray.toList)=(b == c):=by
  by_cases q:b=c <;> simp [q]
 rw [e];exact h)
theorem isI_eq {v:V} (h:isI v=true):∃ i,v=.int i:=by cases v <;> first | exact ⟨_,rfl⟩ | cases h
theorem isB_eq {v:V} (h:isB v=true):∃ i,v=.bytes i:=by cases v <;> first | exact ⟨_,rfl⟩ | cases h
theorem eqg_I {a b:Value}{v w:V} (ha:av a=some v) (hb:av b=some w) (hv:isI v=true) (hw:isI w=true):MeetsSeq.EqGives a b (v == w):=by
 obtain ⟨i,rfl⟩:=isI_eq hv;obtain ⟨j,rfl⟩:=isI_eq hw
 obtain ⟨t,rfl⟩:=av_int ha;obtain ⟨u,rfl⟩:=av_int hb
 have:=MeetsSeq.EqGives.int i j t u
 have e:(V.int i == V.int j)=(i == j):=by rw [Bool.eq_iff_iff,beq_iff_eq,beq_iff_eq,V.int.injEq]
 rw [e];exact this
theorem eqg_B {a b:Value}{v w:V} (ha:av a=some v) (hb:av b=some w) (hv:isB v=true) (hw:isB w=true):MeetsSeq.EqGives a b (v == w):=by
 obtain ⟨i,rfl⟩:=isB_eq hv;obtain ⟨j,rfl⟩:=isB_eq hw
 obtain ⟨t,rfl⟩:=av_bytes ha;obtain ⟨u,rfl⟩:=av_bytes hb
 have:=eqg_bytes i j t u
 have e:(V.bytes i == V.bytes j)=(i == j):=by rw [Bool.eq_iff_iff,beq_iff_eq,beq_iff_eq,V.bytes.injEq]
 rw [e];exact this
theorem eqs_of {xs ys:List V}{us us':Array Value} (hx:Vs us.toList xs) (hy:Vs us'.toList ys) (hl:xs.length=ys.length) (bx:xs.all isB=true) (by':ys.all isB=true) :
 us.size=us'.size/\(∀ j (h1:j<us.size) (h2:j<us'.size),MeetsSeq.EqGives us[j] us'[j] (xs[j]? == ys[j]?))/\(List.range us.size).all (λj=>xs[j]? == ys[j]?)=(xs == ys):=by
 have l1:=hx.len;have l2:=hy.len
 rw [Array.length_toList] at l1 l2
 refine ⟨by lia,λj h1 h2=>?_,?_⟩
 ·have j1:j<xs.length:=by lia
  have j2:j<ys.length:=by lia
  obtain ⟨u,e1,a1⟩:=hx.get (i:=j) (v:=xs[j]) (by simp [j1])
  obtain ⟨u',e2,a2⟩:=hy.get (i:=j) (v:=ys[j]) (by simp [j2])
  have q1:us[j]=u:=by simpa [h1] using e1
  have q2:us'[j]=u':=by simpa [h2] using e2
  have:=eqg_B a1 a2 (List.all_eq_true.mp bx _ (List.getElem_mem j1)) (List.all_eq_true.mp by' _ (List.getElem_mem j2))
  rw [q1,q2]
  have e:(xs[j]? == ys[j]?)=(xs[j] == ys[j]):=by simp [j1,j2]
  rw [e];exact this
 ·rw [l1]
  rw [Bool.eq_iff_iff]
  simp only [List.all_eq_true,List.mem_range,beq_iff_eq]
  constructor
  ·intro h
   apply List.ext_getElem? λj=>?_
   by_cases q:j<xs.length
   ·exact h j q
   ·rw [List.getElem?_eq_none (by lia),List.getElem?_eq_none (by lia)]
  ·intro h j _;rw [h]
theorem any_of {xs:List V}{us:Array Value}{x:V}{u:Value} (hx:Vs us.toList xs) (hu:av u=some x) (ok:among x xs=true) :
 (∀ y,y∈us->MeetsSeq.EqGives y u ((av y).any (· == x)))/\us.any (λy=>(av y).any (· == x))=xs.any (· == x):=by
 constructor
 ·intro y hy
  obtain ⟨j,hj,rfl⟩:=Array.getElem_of_mem hy
  have l1:=hx.len
  rw [Array.length_toList] at l1
  have j1:j<xs.length:=by lia
  obtain ⟨u',e1,a1⟩:=hx.get (i:=j) (v:=xs[j]) (by simp [j1])
  have q1:us[j]=u':=by simpa [hj] using e1
  rw [q1,a1]
  show MeetsSeq.EqGives u' u (xs[j] == x)
  unfold among at ok
  rw [Bool.or_eq_true,Bool.and_eq_true,Bool.and_eq_true] at ok
  rcases ok with ⟨o1,o2⟩ | ⟨o1,o2⟩
  ·exact eqg_I a1 hu (List.all_eq_true.mp o2 _ (List.getElem_mem j1)) o1
  ·exact eqg_B a1 hu (List.all_eq_true.mp o2 _ (List.getElem_mem j1)) o1
 ·rw [<- Array.any_toList]
  have:us.toList.any (λy=>(av y).any (· == x))=(us.toList.map av).any (λy=>y.any (· == x)):=by rw [List.any_map];rfl
  rw [this,show us.toList.map av=xs.map some from hx,List.any_map]
  rfl
theorem op_eq {a b:Value}{v w:V}{k:Bool->Prop} (ha:av a=some v) (hb:av b=some w) (H:HS W L m X σ s.heap) (hu:A.units+8<cLine)
 (hw:eqV (λb=>b) v w σ k) (K:∀ r,k r->Q (.bool r) s):wpAny (Mo W) A (compareOp .Eq a b) Q E s:=by
 cases v with
 | int i=>exact fI (P:=λa=>wpAny (Mo W) A (compareOp .Eq a b) Q E s) ha λt=>eI (P:=λb=>wpAny (Mo W) A (compareOp .Eq (.int i t) b) Q E s) hb hw λj u hw=>PyProof.Rows.eq_int (K _ hw)
 | bytes i=>exact fB (P:=λa=>wpAny (Mo W) A (compareOp .Eq a b) Q E s) ha λt=>eB (P:=λb=>wpAny (Mo W) A (compareOp .Eq (.bytes i.toArray t) b) Q E s) hb hw λj u hw=>PySem.W.eq_bytes (by simpa using K _ hw)
 | ref i=>
   refine fR (P:=λa=>wpAny (Mo W) A (compareOp .Eq a b) Q E s) ha (eR (P:=λb=>wpAny (Mo W) A (compareOp .Eq (.ref i) b) Q E s) hb hw λj hw=>gS_ok hw λxs e1 hw=>gS_ok hw λys e2 hw=>?_)
   refine H.getLK e1 λus n i1 v1 ø=>H.getLK e2 λus' n' i2 v2 ø=>?_
   by_cases hl:xs.length=ys.length
   ·rw [if_pos hl] at hw
    have q:=eqs_of v1 v2 hl hw.1 hw.2.1
    exact P.eq_list i1 i2 q.1 q.2.1 (by lia) (by rw [q.2.2];exact K _ hw.2.2)
   ·rw [if_neg hl] at hw
    exact P.eq_list_lengths i1 i2 (bne_iff_ne.mpr (by rw [<- Array.length_toList,<- Array.length_toList (xs:=us'),v1.len,v2.len];exact hl)) (by lia) (K _ hw)
 | _=>exact hw.elim
theorem op_ne {a b:Value}{v w:V}{k:Bool->Prop} (ha:av a=some v) (hb:av b=some w) (H:HS W L m X σ s.heap) (hu:A.units+8<cLine)
 (hw:eqV (λb=>!b) v w σ k) (K:∀ r,k r->Q (.bool r) s):wpAny (Mo W) A (compareOp .NotEq a b) Q E s:=by
 cases v with
 | int i=>exact fI (P:=λa=>wpAny (Mo W) A (compareOp .NotEq a b) Q E s) ha λt=>eI (P:=λb=>wpAny (Mo W) A (compareOp .NotEq (.int i t) b) Q E s) hb hw λj u hw=>PyProof.Rows.ne_int (K _ hw)
 | bytes i=>exact fB (P:=λa=>wpAny (Mo W) A (compareOp .NotEq a b) Q E s) ha λt=>eB (P:=λb=>wpAny (Mo W) A (compareOp .NotEq (.bytes i.toArray t) b) Q E s) hb hw λj u hw=>PySem.W.ne_bytes (by simpa [bne] using K _ hw)
 | ref i=>
   refine fR (P:=λa=>wpAny (Mo W) A (compareOp .NotEq a b) Q E s) ha (eR (P:=λb=>wpAny (Mo W) A (compareOp .NotEq (.ref i) b) Q E s) hb hw λj hw=>gS_ok hw λxs e1 hw=>gS_ok hw λys e2 hw=>?_)
   refine H.getLK e1 λus n i1 v1 ø=>H.getLK e2 λus' n' i2 v2 ø=>cmp_ofNotEq ?_
   by_cases hl:xs.length=ys.length
   ·rw [if_pos hl] at hw
    have q:=eqs_of v1 v2 hl hw.1 hw.2.1
    exact richCompare_meets_room (op:=.NotEq) ⟨_,i1,rfl⟩ ⟨_,i2,rfl⟩ F.slot_list_ne F.entry_list_ne (F.args_list_ne_2 _ _) (PySem.SeqAt.list_neAt _ _ us us' n n' none none #[] #[] q.1 (λj=>xs[j]? == ys[j]?))
     ⟨i1,i2,λj h1 h2=>(q.2.1 j h1 h2).at _ _,(λx=>nomatch x),by rw [q.2.2];exact K _ hw.2.2⟩ (by lia)
   ·rw [if_neg hl] at hw
    exact richCompare_meets_room (op:=.NotEq) ⟨_,i1,rfl⟩ ⟨_,i2,rfl⟩ F.slot_list_ne F.entry_list_ne (F.args_list_ne_2 _ _) (PySem.SeqAt.list_ne_lengthsAt _ _ us us' n n' none none #[] #[] (bne_iff_ne.mpr (by rw [<- Array.length_toList,<- Array.length_toList (xs:=us'),v1.len,v2.len];exact hl)))
     ⟨i1,i2,(λx=>nomatch x),K _ hw⟩ (by lia)
 | _=>exact hw.elim
theorem none_beq {a:Value}{v:V} (ha:av a=some v):(a == Value.none)=(v == V.none):=by
 cases a <;> cases ha <;> rfl
theorem op_cmp {o:Cop}{a b:Value}{v w:V}{k:Bool->Prop} (ha:av a=some v) (hb:av b=some w) (H:HS W L m X σ s.heap) (hu:A.units+8<cLine)
 (hw:cmpop o v w σ k) (K:∀ r,k r->Q (.bool r) s):wpAny (Mo W) A (compareOp o.op a b) Q E s:=by
 let P o:=λa b=>wpAny (Mo W) A (compareOp o a b) Q E s
 cases o with
 | eq=>exact op_eq ha hb H hu hw K
 | ne=>exact op_ne ha hb H hu hw K
 | lt=>exact eII (P:=P .Lt) ha hb hw λi t j u hw=>PyProof.Rows.lt_int (K _ hw)
 | le=>exact eII (P:=P .LtE) ha hb hw λi t j u hw=>PyProof.Rows.le_int (K _ hw)
 | gt=>exact eII (P:=P .Gt) ha hb hw λi t j u hw=>PyProof.Rows.gt_int (K _ hw)
 | ge=>exact eII (P:=P .GtE) ha hb hw λi t j u hw=>PyProof.Rows.ge_int (K _ hw)
 | is=>exact eN (P:=P .Is a) hb hw λhw=>is_none (by rw [none_beq ha];exact K _ hw)
 | isnot=>exact eN (P:=P .IsNot a) hb hw λhw=>isNot_none (by rw [none_beq ha];exact K _ hw)
 | isin=>exact eR (P:=P .In a) hb hw λr hw=>gE_ok (P:=P .In a (.ref r)) hw (λys e hw=>H.getLK e λus n i1 v1 ø=>SeqRoads2.in_list _ (any_of v1 ha hw.1).1 i1 (by rw [(any_of v1 ha hw.1).2];exact K _ hw.2)) λø hw=>gS_ok hw λys e hw=>H.getTK e λus n i1 v1 ø=>SeqRoads2.in_tuple _ (any_of v1 ha hw.1).1 i1 (by rw [(any_of v1 ha hw.1).2];exact K _ hw.2)
 | notin=>exact eR (P:=P .NotIn a) hb hw λr hw=>gE_ok (P:=P .NotIn a (.ref r)) hw (λys e hw=>H.getLK e λus n i1 v1 ø=>SeqRoads2.notIn_list _ (any_of v1 ha hw.1).1 i1 (by rw [(any_of v1 ha hw.1).2];exact K _ hw.2)) λø hw=>gS_ok hw λys e hw=>H.getTK e λus n i1 v1 ø=>SeqRoads2.notIn_tuple _ (any_of v1 ha hw.1).1 i1 (by rw [(any_of v1 ha hw.1).2];exact K _ hw.2)
theorem op_truth {a:Value}{v:V}{b:Bool}{Q:Bool->Shared->Prop} (ha:av a=some v) (ht:truth v=some b) (K:Q b s):wpAny (Mo W) A (truthy a) Q E s:=by
 cases v <;> try cases ht
 ·obtain rfl:=av_none ha;exact PyProof.Rows.truthy_none K
 ·obtain rfl:=av_bool ha;exact wpAny_truthy_bool K
 ·obtain ⟨t,rfl⟩:=av_int ha;exact PyProof.Rows.truthy_int K
end
end
section
variable {W:Wd}
section
variable {L:Addr}{m:Str->Option Value}{X:Addr->Option Obj}{σ:St}{s:Shared}{A:Around}{E:Value->Shared->Prop}
theorem isS_eq {v:V} (h:isS v=true):∃ i,v=.str i:=by cases v <;> first | exact ⟨_,rfl⟩ | cases h
theorem seqIndex_cases {i:Int}{n j:Nat} (h:seqIndex? i n=some j):(0<=i/\j=i.toNat/\j<n)\/(i<0/\-(n:Int)<=i/\j=(i+n).toNat/\j<n):=by
 unfold seqIndex? at h
 dsimp only at h
 split at h
 ·rename_i h0
  split at h
  ·rename_i h1;cases h
   simp only [Bool.and_eq_true,decide_eq_true_eq] at h1
   exact .inr ⟨h0,by omega,rfl,by omega⟩
  ·cases h
 ·rename_i h0
  split at h
  ·rename_i h1;cases h
   simp only [Bool.and_eq_true,decide_eq_true_eq] at h1
   exact .inl ⟨by omega,rfl,by omega⟩
  ·cases h
theorem item_lst {a:Addr}{us:List Value}{xs:List V}{n:Int}{t:Tok}{j:Nat}{u:V}{Q:Value->Shared->Prop} (hl:s.heap.IsList a us.toArray) (v:Vs us xs) (hb:xs.length<=big) (hj:seqIndex? n xs.length=some j) (hu:xs[j]?=some u)
 (K:∀ r,av r=some u->Q r s):wpAny (Mo W) A (getItem (.ref a) (.int n t)) Q E s:=by
 obtain ⟨r,e1,e2⟩:=v.get hu
 have l1:=v.len
 rw [<- l1] at hj
 have hb':us.length<=1000000:=by rw [l1];exact hb
 rcases seqIndex_cases hj with ⟨h0,h1,h2⟩ | ⟨h0,h1,h2,h3⟩
 ·exact wpAny_getItem_list hl h0 (by lia) (by rw [<- h1];simpa using e1) (K r e2)
 ·exact wpAny_getItem_list_neg hl h0 (by simpa using h1) (by lia) (by rw [List.size_toArray,<- h2];simpa using e1) (K r e2)
theorem PRel.nil {prog:Program}{w:World}{l:Led}{o:Obj} (h:PRel prog w l [] o):o.IsDictOf (intKind prog w) []:=by
 obtain ⟨h1,es,ep,xs,h2,h3,h4,h5,h6⟩:=h
 have:xs=[]:=by simpa using h6
 subst this
 have hz:es=#[]:=by apply Array.ext';simpa using h3
 subst hz
 exact ⟨#[],ep,h1,h2,(λe he=>by simp at he),.nil,List.nodup_nil⟩
theorem DRel.plain {prog:Program}{w:World}{l:Led}{d:List (V×V)}{o:Obj} (h:DRel prog w l d o) (hp:plainK d=true) :
 (∃ kvs:List (Int×Value),o.IsDictOf (intKind prog w) kvs/\kvs.map (λp=>(V.int p.1,av p.2))=d.map λp=>(p.1,some p.2)) \/
 (∃ kvs:List (Str×Value),o.IsDictOf (strKind prog w) kvs/\kvs.map (λp=>(V.str p.1,av p.2))=d.map λp=>(p.1,some p.2)):=by
 rcases h with h | h | h
 ·exact .inl h
 ·exact .inr h
 ·cases d with
  | nil=>exact .inl ⟨[],h.nil,rfl⟩
  | cons p d=>
    obtain ⟨h1,es,ep,xs,h2,h3,h4,h5,h6⟩:=h
    cases xs with
    | nil=>simp at h6
    | cons x xs=>
      simp only [List.map_cons,List.cons.injEq,Prod.mk.injEq] at h6
      obtain ⟨i,j,t,u,n,e,_⟩:=h4 x (.head _)
      unfold plainK at hp
      rw [List.all_cons,Bool.and_eq_true,<- h6.1.1,e] at hp
      cases hp.1
theorem plain_of_ints {d:List (V×V)} (h:(d.all λp=>isI p.1)=true):plainK d=true:=List.all_eq_true.mpr λp hp=>by
 have:=List.all_eq_true.mp h p hp
 cases q:p.1 <;> rw [q] at this <;> first | rfl | cases this
theorem plain_of_strs {d:List (V×V)} (h:(d.all λp=>isS p.1)=true):plainK d=true:=List.all_eq_true.mpr λp hp=>by
 have:=List.all_eq_true.mp h p hp
 cases q:p.1 <;> rw [q] at this <;> first | rfl | cases this
theorem DRel.ints {prog:Program}{w:World}{l:Led}{d:List (V×V)}{o:Obj} (h:DRel prog w l d o) (hi:(d.all λp=>isI p.1)=true) :
 ∃ kvs:List (Int×Value),o.IsDictOf (intKind prog w) kvs/\kvs.map (λp=>(V.int p.1,av p.2))=d.map λp=>(p.1,some p.2):=by
 rcases h.plain (plain_of_ints hi) with h | ⟨kvs,h1,h2⟩
 ·exact h
 ·cases d with
  | nil=>
    have:kvs=[]:=by simpa using h2
    subst this
    obtain ⟨es,ep,a1,a2,a3,a4,a5⟩:=h1
    cases hes:es.toList with
    | nil=>
      have hz:es=#[]:=by apply Array.ext';simpa using hes
      subst hz
      exact ⟨[],⟨#[],ep,a1,a2,(λe he=>by simp at he),.nil,List.nodup_nil⟩,rfl⟩
    | cons e r=>rw [hes] at a4;cases a4
  | cons p r=>
    cases kvs with
    | nil=>simp at h2
    | cons q r'=>
      simp only [List.map_cons,List.cons.injEq,Prod.mk.injEq] at h2
      rw [List.all_cons,Bool.and_eq_true,<- h2.1.1] at hi
      exact absurd hi.1 (λh=>by cases h)
theorem DRel.strs {prog:Program}{w:World}{l:Led}{d:List (V×V)}{o:Obj} (h:DRel prog w l d o) (hi:(d.all λp=>isS p.1)=true) :
 ∃ kvs:List (Str×Value),o.IsDictOf (strKind prog w) kvs/\kvs.map (λp=>(V.str p.1,av p.2))=d.map λp=>(p.1,some p.2):=by
 rcases h.plain (plain_of_strs hi) with ⟨kvs,h1,h2⟩ | h
 ·cases d with
  | nil=>
    have:kvs=[]:=by simpa using h2
    subst this
    obtain ⟨es,ep,a1,a2,a3,a4,a5⟩:=h1
    cases hes:es.toList with
    | nil=>
      have hz:es=#[]:=by apply Array.ext';simpa using hes
      subst hz
      exact ⟨[],⟨#[],ep,a1,a2,(λe he=>by simp at he),.nil,List.nodup_nil⟩,rfl⟩
    | cons e r=>rw [hes] at a4;cases a4
  | cons p r=>
    cases kvs with
    | nil=>simp at h2
    | cons q r'=>
      simp only [List.map_cons,List.cons.injEq,Prod.mk.injEq] at h2
      rw [List.all_cons,Bool.and_eq_true,<- h2.1.1] at hi
      exact absurd hi.1 (λh=>by cases h)
 ·exact h
structure DKv (K:Type) [DecidableEq K] {prog:Program}{w:World} (knd:KeyKind prog w K) (inj:K->V) (d:List (V×V)) (kvs:List (K×Value)):Prop where
 map:kvs.map (λp=>(inj p.1,av p.2))=d.map λp=>(p.1,some p.2)
 inj:∀ a b,inj a=inj b->a=b
section
variable {K:Type} [DecidableEq K] {prog:Program}{w:World}{knd:KeyKind prog w K}{inj:K->V}
theorem DKv.len {d:List (V×V)}{kvs:List (K×Value)} (h:DKv K knd inj d kvs):kvs.length=d.length:=by
 have:=congrArg List.length h.map;rwa [List.length_map,List.length_map] at this
theorem dk_head {p:K×Value}{kvs:List (K×Value)}{q:V×V}{d:List (V×V)} (h:(p::kvs).map (λp=>(inj p.1,av p.2))=(q::d).map λp=>(p.1,some p.2)):inj p.1=q.1/\av p.2=some q.2/\kvs.map (λp=>(inj p.1,av p.2))=d.map λp=>(p.1,some p.2):=
 ⟨congrArg Prod.fst (List.cons.inj h).1,congrArg Prod.snd (List.cons.inj h).1,(List.cons.inj h).2⟩
theorem dk_dec (hi:∀ a b,inj a=inj b->a=b) {p k:K}{q:V} (e:inj p=q):decide (p=k)=decide (q=inj k):=by
 rw [<- e];exact decide_eq_decide.mpr ⟨congrArg inj,hi _ _⟩
theorem dk_get (hi:∀ a b,inj a=inj b->a=b) (k:K):∀ {kvs:List (K×Value)}{d:List (V×V)},kvs.map (λp=>(inj p.1,av p.2))=d.map (λp=>(p.1,some p.2))->(valueAt kvs k).map av=(dget (inj k) d).map some
 | [],[],_=>rfl
 | [],_::_,h=>nomatch h
 | _::_,[],h=>nomatch h
 | p::kvs,q::d,h=>by
   have e:=dk_head h
   have ih:=dk_get hi k e.2.2
   unfold valueAt dget at ih |-
   rw [List.find?_cons,List.find?_cons,<- dk_dec (k:=k) hi e.1]
   cases decide (p.1=k) with
   | true=>exact congrArg some e.2.1
   | false=>exact ih
theorem DKv.get {d:List (V×V)}{kvs:List (K×Value)} (h:DKv K knd inj d kvs) (k:K):(valueAt kvs k).map av=(dget (inj k) d).map some:=dk_get h.inj k h.map
theorem dk_any (hi:∀ a b,inj a=inj b->a=b) (k:K):∀ {kvs:List (K×Value)}{d:List (V×V)},kvs.map (λp=>(inj p.1,av p.2))=d.map (λp=>(p.1,some p.2))->(d.any λp=>decide (p.1=inj k))=kvs.any λp=>decide (p.1=k)
 | [],[],_=>rfl
 | [],_::_,h=>nomatch h
 | _::_,[],h=>nomatch h
 | p::kvs,q::d,h=>by rw [List.any_cons,List.any_cons,dk_any hi k (dk_head h).2.2,dk_dec (k:=k) hi (dk_head h).1]
theorem dk_set (hi:∀ a b,inj a=inj b->a=b) (k:K) {u:Value}{v:V} (hu:av u=some v):∀ {kvs:List (K×Value)}{d:List (V×V)},kvs.map (λp=>(inj p.1,av p.2))=d.map (λp=>(p.1,some p.2)) ->
 (kvs.map (λkv=>if kv.1=k then (kv.1,u) else kv)).map (λp=>(inj p.1,av p.2))=(d.map (λp=>if p.1=inj k then (p.1,v) else p)).map λp=>(p.1,some p.2)
 | [],[],_=>rfl
 | [],_::_,h=>nomatch h
 | _::_,[],h=>nomatch h
 | p::kvs,q::d,h=>by
   have e:=dk_head h
   rw [List.map_cons,List.map_cons,List.map_cons,List.map_cons,dk_set hi k hu e.2.2]
   refine congrArg (·::_) ?_
   by_cases c:p.1=k
   ·rw [if_pos c,if_pos (e.1.symm.trans (congrArg inj c))];exact Prod.ext e.1 hu
   ·rw [if_neg c,if_neg λx=>c (hi _ _ (e.1.trans x))];exact Prod.ext e.1 e.2.1
theorem DKv.set {d:List (V×V)}{kvs:List (K×Value)} (h:DKv K knd inj d kvs) (k:K) {u:Value}{v:V} (hu:av u=some v):DKv K knd inj (dput (inj k) v d) (stored kvs k u):=by
 refine ⟨?_,h.inj⟩
 unfold dput stored
 rw [dk_any h.inj k h.map]
 split
 ·exact dk_set h.inj k hu h.map
 ·rw [List.map_append,List.map_append,h.map];exact congrArg (_++[·]) (Prod.ext rfl hu)
theorem dk_del (hi:∀ a b,inj a=inj b->a=b) (k:K):∀ {kvs:List (K×Value)}{d:List (V×V)},kvs.map (λp=>(inj p.1,av p.2))=d.map (λp=>(p.1,some p.2)) ->
 (without kvs k).map (λp=>(inj p.1,av p.2))=(ddel (inj k) d).map λp=>(p.1,some p.2)
 | [],[],_=>rfl
 | [],_::_,h=>nomatch h
 | _::_,[],h=>nomatch h
 | p::kvs,q::d,h=>by
   have e:=dk_head h
   have ih:=dk_del hi k e.2.2
   unfold without ddel at ih |-
   by_cases c:p.1=k
   ·rw [List.filter_cons_of_neg (by simpa using c),List.filter_cons_of_neg (by simpa using e.1.symm.trans (congrArg inj c))];exact ih
   ·rw [List.filter_cons_of_pos (by simpa using c),List.filter_cons_of_pos (a:=q) (by simpa using λx=>c (hi _ _ (e.1.trans x))),List.map_cons,List.map_cons,ih]
    exact congrArg (·::_) (Prod.ext e.1 e.2.1)
theorem DKv.del {d:List (V×V)}{kvs:List (K×Value)} (h:DKv K knd inj d kvs) (k:K):DKv K knd inj (ddel (inj k) d) (without kvs k):=⟨dk_del h.inj k h.map,h.inj⟩
end
structure DAt (W:Wd) (h:Heap) (a:Addr) (d:List (V×V)) (K:Type) [DecidableEq K] (knd:KeyKind W.prog W.w K) (inj:K->V) (i:K) (b:Value) (kvs:List (K×Value)) (o:Obj):Prop where
 is:knd.is i b=true
 at':h.get? a=some o
 dict:o.IsDictOf knd kvs
 dk:DKv K knd inj d kvs
 rel:∀ {l d o}{kvs:List (K×Value)},o.IsDictOf knd kvs->DKv K knd inj d kvs->DRel W.prog W.w l d o
 part:(keyPart b).isSome=true
theorem HS.dictK (H:HS W L m X σ s.heap) {a:Addr}{d:List (V×V)} (e:σ.D a=some d) {y:V} (hk:keyFit y d=true) {b:Value} (hb:av b=some y) {P:V->Value->Prop}
 (k:∀ (K:Type) [DecidableEq K] (knd:KeyKind W.prog W.w K) (inj:K->V) (i:K) (b:Value) (kvs:List (K×Value)) (o:Obj),DAt W s.heap a d K knd inj i b kvs o->P (inj i) b):P y b:=by
 refine H.getDK e λo l h1 h2 h3 h4=>?_
 unfold keyFit at hk
 rw [Bool.or_eq_true,Bool.and_eq_true,Bool.and_eq_true] at hk
 rcases hk with hk | hk
 ·obtain ⟨i,rfl⟩:=isI_eq hk.1
  obtain ⟨kvs,q1,q2⟩:=h2.ints hk.2
  exact fI (P:=P (.int i)) hb λt=>k Int (PySem.intKind W.prog W.w) V.int i _ kvs o ⟨by simp [PySem.intKind,Value.isInt],h1,q1,⟨q2,λa b x=>V.int.inj x⟩,λh q=>.inl ⟨_,h,q.map⟩,rfl⟩
 ·obtain ⟨i,rfl⟩:=isS_eq hk.1
  obtain ⟨t,rfl⟩:=av_str hb
  obtain ⟨kvs,q1,q2⟩:=h2.strs hk.2
  exact k Str (PySem.strKind W.prog W.w) V.str i _ kvs o ⟨by simp [PySem.strKind,Value.isStrOf],h1,q1,⟨q2,λa b x=>V.str.inj x⟩,λh q=>.inr (.inl ⟨_,h,q.map⟩),rfl⟩
theorem kf_all {d:List (V×V)}{α:Type}{f:α->V×Option V}{kvs:List α} (h2:kvs.map f=d.map λp=>(p.1,some p.2)) {g:V->Bool} (hg:∀ z,g (f z).1=true):(d.all λp=>g p.1)=true:=
 List.all_eq_true.mpr λr hr=>by
  have:(r.1,some r.2)∈d.map λp=>(p.1,some p.2):=List.mem_map.mpr ⟨r,hr,rfl⟩
  rw [<- h2] at this
  obtain ⟨z,_,e⟩:=List.mem_map.mp this
  have q:=hg z
  rw [e] at q;exact q
theorem keyFit_of_get {d:List (V×V)}{y u:V}{prog:Program}{w:World}{l:Led}{o:Obj}{b:Value} (hb:av b=some y) (h:DRel prog w l d o) (hg:dget y d=some u):keyFit y d=true:=by
 unfold dget at hg
 cases q:d.find? (λp=>decide (p.1=y)) with
 | none=>rw [q] at hg;cases hg
 | some p=>
   have hp:=of_decide_eq_true (List.find?_some (p:=λp:V×V=>decide (p.1=y)) q)
   have hm:=List.mem_of_find?_eq_some q
   subst hp
   rcases h with ⟨kvs,_,h2⟩ | ⟨kvs,_,h2⟩ | h
   ·have all:=kf_all h2 (g:=isI) λz=>rfl
    unfold keyFit;rw [List.all_eq_true.mp all p hm,all];rfl
   ·have all:=kf_all h2 (g:=isS) λz=>rfl
    unfold keyFit;rw [List.all_eq_true.mp all p hm,all,Bool.and_self,Bool.or_true]
   ·obtain ⟨_,es,ep,xs,_,_,h4,_,h6⟩:=h
    have:(p.1,some p.2)∈d.map λp=>(p.1,some p.2):=List.mem_map.mpr ⟨p,hm,rfl⟩
    rw [<- h6] at this
    obtain ⟨x,hx,e⟩:=List.mem_map.mp this
    obtain ⟨i,j,t,u',n,e1,_⟩:=h4 x hx
    have e2:=(Prod.mk.inj e).1
    rw [e1] at e2
    rw [<- e2] at hb
    cases b <;> cases hb
theorem get_av {kvs:Option Value}{o:Option V}{u:V} (g:kvs.map av=o.map some) (h:o=some u) {P:Prop} (k:∀ r,kvs=some r->av r=some u->P):P:=by
 subst h
 cases kvs with
 | none=>cases g
 | some r=>exact k r rfl (Option.some.inj g)
theorem op_getItem {a b:Value}{x y:V}{k:V->Prop}{Q:Value->Shared->Prop} (ha:av a=some x) (hb:av b=some y) (H:HS W L m X σ s.heap) (hw:getidx x y σ k) (K:∀ r v t',av r=some v->k v->Q r { s with toks:=t' }) :
 wpAny (Mo W) A (getItem a b) Q E s/\∃ T id,s.TypeIs a T/\typeLookup (.type T) "__getitem__"=pure (some (.builtin id)):=by
 cases x with
 | bytes c=>
   refine fB (P:=λa=>wpAny (Mo W) A (getItem a b) Q E s/\∃ T id,s.TypeIs a T/\typeLookup (.type T) "__getitem__"=pure (some (.builtin id))) ha λt=>⟨?_,_,_,PySem.W.typeIs_bytes s _ _,FB.slot_bytes_getitem.lookup⟩
   refine eI (P:=λb=>wpAny (Mo W) A (getItem (.bytes c.toArray t) b) Q E s) hb hw λn u hw=>gS_ok hw.2.2 λd hd hk=>?_
   refine PySem.W.getItem_bytes (by have h:c.length<=1000000:=hw.1;lia) hw.2.1 (by have:=(List.getElem?_eq_some_iff.mp hd).1;lia) (K _ _ _ rfl ?_)
   rw [show c.getD n.toNat 0=d by rw [List.getD,hd];rfl];exact hk
 | ref r=>
   refine fR (P:=λa=>wpAny (Mo W) A (getItem a b) Q E s/\∃ T id,s.TypeIs a T/\typeLookup (.type T) "__getitem__"=pure (some (.builtin id))) ha ?_
   refine gE_ok hw (λxs e hw=>H.getLK e λus nn i1 v1 hb'=>?_) λø hw=>gE_ok hw (λxs e hw=>H.getTK e λus nn i1 v1 hb'=>?_) λø hw=>gE_ok hw (λd e hw=>gS_ok hw λu hu hw=>?_) λø hw=>gS_ok hw λxs e hw=>H.getFK e λus hl v1 hb'=>?_
   ·have hl:s.heap.IsList r us.toList.toArray:=by simpa using IsL.isList i1
    exact ⟨eI (P:=λb=>wpAny (Mo W) A (getItem (.ref r) b) Q E s) hb hw λn t hw=>gS_ok hw λj hj hw=>gS_ok hw λu hu hw=>item_lst hl v1 hb' hj hu λr hr=>K r u s.toks hr hw,_,_,hl.typeIs,PySem.F.slot_list_getitem.lookup⟩
   ·refine ⟨eI (P:=λb=>wpAny (Mo W) A (getItem (.ref r) b) Q E s) hb hw λn t hw=>gS_ok hw λj hj hw=>gS_ok hw λu hu hw=>?_,_,_,(show s.TypeIs (.ref _) "tuple" from ⟨_,i1,rfl⟩),PySem.F.slot_tuple_getitem.lookup⟩
    obtain ⟨q,e1,e2⟩:=v1.get hu
    have l1:us.size=xs.length:=by rw [<- Array.length_toList,v1.len]
    have hb2:xs.length<=1000000:=hb'
    have hlo:-(2 ^ 63)<=n/\n<2 ^ 63:=by
     rcases seqIndex_cases hj with h | h <;> lia
    exact P.getItem_tuple i1 hlo.1 hlo.2 (by rw [l1];exact hj) (by simpa using e1) (K q u s.toks e2 hw)
   ·refine H.getDK e λø ø ø h2 ø ø=>H.dictK e (keyFit_of_get hb h2 hu) hb (P:=λy b=>dget y d=some u->wpAny (Mo W) A (getItem (.ref r) b) Q E s/\∃ T id,s.TypeIs (.ref r) T/\typeLookup (.type T) "__getitem__"=pure (some (.builtin id))) (λK' ø knd inj i b kvs o D hu=>?_) hu
    have hD:s.heap.DictOf knd _ kvs:=Heap.dictOf_iff.mpr ⟨o,D.at',D.dict⟩
    exact get_av (D.dk.get i) hu λq hv g=>⟨wpAny_getItem_of (knd:=knd) (k:=i) D.is hD.mapOf hv (K q u _ g hw),_,_,hD.typeIs,PySem.F.slot_dict_getitem.lookup⟩
   ·exact ⟨eI (P:=λb=>wpAny (Mo W) A (getItem (.ref r) b) Q E s) hb hw λn t hw=>gS_ok hw λj hj hw=>gS_ok hw λu hu hw=>item_lst hl v1 hb' hj hu λr hr=>K r u s.toks hr hw,_,_,hl.typeIs,PySem.F.slot_list_getitem.lookup⟩
 | _=>exact hw.elim
end
end
section
variable {W:Wd}
section
variable {L:Addr}{m:Str->Option Value}{X:Addr->Option Obj}{σ:St}{s:Shared}{A:Around}{E:Value->Shared->Prop}
theorem isPart_of {l:Value}{lo:V}{i:Option Int} (h:av l=some lo) (p:part lo=some i):IsPart l i:=by
 cases lo <;> cases p
 ·obtain rfl:=av_none h;exact .none
 ·obtain ⟨t,rfl⟩:=av_int h;exact .int _ _
abbrev sliceObj (l u st:Value):Obj:={ cls:=.type "slice",data:=.fields #[l,u,st] }
theorem Vs.drop {us vs} (h:Vs us vs) (n:Nat):Vs (us.drop n) (vs.drop n):=by unfold Vs at *;rw [List.map_drop,List.map_drop,h]
theorem Vs.take {us vs} (h:Vs us vs) (n:Nat):Vs (us.take n) (vs.take n):=by unfold Vs at *;rw [List.map_take,List.map_take,h]
theorem Vs.rev {us vs} (h:Vs us vs):Vs us.reverse vs.reverse:=by unfold Vs at *;rw [List.map_reverse,List.map_reverse,h]
theorem op_slice {value el:Expr}{a l u:Value}{x lo hi:V}{k:KV}{Q:Value->Shared->Prop} (ha:av a=some x) (hl:av l=some lo) (hu:av u=some hi) (H:HS W L m X σ s.heap) (hw:getslice x lo hi σ k) (K:BK W L m X s k Q)
 (hs:∀ o i,subscripted el false o i=operate [i,o] (getItem o i)) :
 wpAny (Mo W) A (subscriptTail value el a (.ref s.heap.objs.size)) Q E { s with heap:=s.heap.push (sliceObj l u .none) }:=by
 have H1:=H.push (sliceObj l u .none) rfl
 refine gS_ok hw λi hi' hw=>gS_ok hw λj hj' hw=>?_
 have p1:=isPart_of hl hi'
 have p2:=isPart_of hu hj'
 cases x with
 | bytes b=>
   refine fB (P:=λa=>wpAny (Mo W) A (subscriptTail value el a (.ref s.heap.objs.size)) Q E { s with heap:=s.heap.push (sliceObj l u .none) }) ha λt=>?_
   refine tail_any (T:="bytes") (id:="bytes.__getitem__") (PySem.W.typeIs_bytes _ _ _) FB.slot_bytes_getitem.lookup ?_ (hs _ _)
   refine getItem_meets (PySem.W.typeIs_bytes _ _ _) (by decide) FB.slot_bytes_getitem FB.entry_bytes_getitem (FB.args_bytes_getitem_2 _ _) (KBc.meets_slice2 b.toArray t _ p1 p2)
    ⟨Heap.IsSliceOf.new _ _ _ _,?_,λt' kk=>?_⟩
   ·refine Nat.le_trans (KBc.size_picked_le _ _ _) ?_
    have h:b.length<=1000000:=hw.1
    rw [sizeLine_eq];simp;lia
   ·refine K _ (.bytes (cutO b i j)) _ kk σ ?_ H1 hw.2
    rw [KBc.picked_eq]
    simp [av,cutO]
 | ref r=>
   refine fR (P:=λa=>wpAny (Mo W) A (subscriptTail value el a (.ref s.heap.objs.size)) Q E { s with heap:=s.heap.push (sliceObj l u .none) }) ha (gS_ok hw λxs e hw=>H.getLK e λus n i1 v1 hb=>?_)
   have i1':IsL (s.heap.push (sliceObj l u .none)) r us n:=i1.push _
   refine tail_any (T:="list") (IsL.isList i1').typeIs PySem.F.slot_list_getitem.lookup ?_ (hs _ _)
   refine wpAny_getItem_list_slice (IsL.isList i1') (Heap.IsSliceOf.new _ _ _ _) p1 p2 .none (by simp) ?_ (size_big v1 hb)
   rw [slicePick_plain]
   have l1:us.size=xs.length:=by rw [<- Array.length_toList,v1.len]
   have vv:Vs ((us.toList.drop (i.elim 0 (clipAt us.size))).take (j.elim us.size (clipAt us.size) - i.elim 0 (clipAt us.size))) (cutO xs i j):=by
    unfold cutO;rw [<- l1];exact (v1.drop _).take _
   exact K (.ref _) (.ref _) _ s.toks _ rfl (H1.newL vv (Nat.le_trans (cutO_len _ _ _) hb) 0) (hw _ H1.fresh.1)
 | _=>exact hw.elim
theorem op_rev {value el:Expr}{a:Value}{x:V}{k:KV}{Q:Value->Shared->Prop}{t:Tok} (ha:av a=some x) (H:HS W L m X σ s.heap) (hw:getrev x σ k) (K:BK W L m X s k Q)
 (hs:∀ o i,subscripted el false o i=operate [o,i] (getItem o i)) :
 wpAny (Mo W) A (subscriptTail value el a (.ref s.heap.objs.size)) Q E { s with heap:=s.heap.push (sliceObj .none .none (.int (-1) t)) }:=by
 have H1:=H.push (sliceObj .none .none (.int (-1) t)) rfl
 refine eR (P:=λa=>wpAny (Mo W) A (subscriptTail value el a (.ref s.heap.objs.size)) Q E { s with heap:=s.heap.push (sliceObj .none .none (.int (-1) t)) }) ha hw λr hw=>gS_ok hw λxs e hw=>H.getLK e λus n i1 v1 hb=>?_
 have i1':IsL (s.heap.push (sliceObj .none .none (.int (-1) t))) r us n:=i1.push _
 refine tail_any (T:="list") (IsL.isList i1').typeIs PySem.F.slot_list_getitem.lookup ?_ (hs _ _)
 refine wpAny_getItem_list_slice (IsL.isList i1') (Heap.IsSliceOf.new _ _ _ _) .none .none (.int _ _) (by decide) ?_ (size_big v1 hb)
 rw [krv_pick]
 exact K (.ref _) (.ref _) _ s.toks _ rfl (H1.newL v1.rev (by rw [List.length_reverse];exact hb) 0) (hw _ H1.fresh.1)
theorem intsOf_eq:∀ {xs:List V}{ns:List Int}{us:List Value},intsOf xs=some ns->Vs us xs->IntsAre us ns
 | [],ns,us,h,v=>by cases h;cases us with | nil=>exact .nil | cons _ _=>cases v
 | x::r,ns,us,h,v=>by
   cases x with
   | int i=>
     have h:(match intsOf r with | some l=>some (i::l) | _=>none)=some ns:=h
     cases hl:intsOf r with
     | none=>rw [hl] at h;cases h
     | some l=>
       rw [hl] at h
       cases h
       exact v.unconsK (P:=λus=>IntsAre us (i::l)) λu us' h1 h2=>fI (P:=λu=>IntsAre (u::us') (i::l)) h1 λt=>.cons _ _ (intsOf_eq hl h2)
   | _=>cases h
noncomputable def B1.val:B1->Value
 | .len=>.builtin "len" | .bytes=>.type "bytes" | .int=>.type "int" | .list=>.type "list"
theorem no_bytes_int:typeLookup (.type "int") "__bytes__"=pure none:=by rw [typeLookup_type,builtinLookup_eq_fast];kernel_rfl
theorem index_int:typeLookup (.type "int") "__index__"=pure (some (.builtin "int.__index__")):=by rw [typeLookup_type,builtinLookup_eq_fast];kernel_rfl
theorem bytes_new_int {n:Int}{t:Tok}{Q:Value->Shared->Prop} (h0:0<=n) (h1:n<=big) (K:∀ t' tk,Q (.bytes (Array.replicate n.toNat 0) t') { s with toks:=tk }) :
 codeAny (Mo W) A (.call (.builtin "bytes.__new__") ⟨[.type "bytes",.int n t],[]⟩) (wants Q E) s:=by
 refine codeAny_of_tree ?_
 show wpAny _ A.in1 (do checkBuiltinCall "bytes.__new__" ⟨[.type "bytes",.int n t],[]⟩;again (.builtin "bytes.__new__" ⟨[.type "bytes",.int n t],[]⟩)) _ _ s
 refine wpAny_bind (wpAny_of_eq (F.bm_newCall _) (wpAny_pure ⟨plainId_quiet F.bm_plain _,codeAny_builtin F.bm_entry ?_⟩))
 rw [Around.under_plainId F.bm_plain _]
 have hT:s.TypeIs (.int n t) "int":=typeIs_int s n t
 have hn:n<=1000000:=h1
 unfold Builtin.«bytes.__new__»
 refine wpAny_bind (wpAny_of_eq (a:=true) rfl ?_)
 refine bm_if_false rfl ?_
 refine wpAny_bind (wpAny_of_eq F.bm_sub ?_)
 refine bm_if_false rfl ?_
 refine wpAny_bind (wpAny_of_eq (F.bm_bind _) ?_)
 refine wpAny_bind (wpAny_of_eq (a:=()) rfl ?_)
 refine wpAny_bind (wpAny_of_eq (a:=()) rfl ?_)
 refine bm_if_false rfl ?_
 refine wpAny_bind (wpAny_specialOf hT no_bytes_int ?_)
 refine wpAny_bind (wpAny_of_eq (a:=false) rfl ?_)
 refine bm_if_false rfl ?_
 refine wpAny_bind (wpAny_specialOf hT index_int ?_)
 refine bm_if_false rfl ?_
 refine wpAny_bind (wpAny_attempt (wpAny_of_eq (rfl:asIndex (.int n t)=pure n) ?_))
 dsimp only
 refine bm_if_false (by unfold Builtin.Bytes.fitsIndex;simp;lia) ?_
 rw [if_neg (show ¬ n<0 by lia),if_neg (show ¬ n > 2 ^ 63 - 34 by lia)]
 have ht:Builtin.Bytes.tooLong n.toNat=false:=by
  unfold Builtin.Bytes.tooLong
  simp only [decide_eq_false_iff_not]
  rw [sizeLine_eq]
  lia
 refine bm_if_false ht ?_
 refine wpAny_bind (wpAny_rule ?_)
 refine wpAny_bind (wpAny_mkBytes ?_ (by rw [Array.size_replicate,sizeLine_eq];lia))
 show wpAny _ _ (if (Value.type "bytes" == Value.type "bytes")=true then _ else _) _ _ _
 refine bm_if_true (by decide) ?_
 first
  | exact wpAny_pure (K _ _)
  | exact wpAny_bind (wpAny_pure (wpAny_pure (K _ _)))
theorem call_bytes_int {n:Int}{t:Tok}{Q:Value->Shared->Prop} (h0:0<=n) (h1:n<=big) (K:∀ t' tk,Q (.bytes (List.replicate n.toNat 0).toArray t') { s with toks:=tk }):wpAny (Mo W) A (call (.type "bytes") [.int n t]) Q E s:=by
 refine callType_codes (Q₁:=λobj s₁=>s₁.TypeIs obj "bytes"/\Q obj s₁) F.bm_called (F.bm_typeCall _) F.entry_object_init
  (bytes_new_int h0 h1 λt' tk=>⟨PySem.W.typeIs_bytes _ _ _,by have:=K t' tk;rw [show (List.replicate n.toNat (0:UInt8)).toArray=Array.replicate n.toNat 0 by simp] at this;exact this⟩) λobj s₁ h₁=>?_
 exact ⟨h₁.1,F.args_object_init_2 obj _,object_init_meets F.bm_called.init.lookup F.bm_called.made (by decide) _ _ A.in1 _ s₁ ⟨h₁.1,rfl,h₁.2⟩⟩
theorem DRel.plainG {prog:Program}{w:World}{l:Led}{d:List (V×V)}{o:Obj} (h:DRel prog w l d o) (hp:plainK d=true) {P:Prop}
 (k:∀ (K:Type) [DecidableEq K] (knd:KeyKind prog w K) (inj:K->V) (kvs:List (K×Value)),o.IsDictOf knd kvs->kvs.map (λp=>(inj p.1,av p.2))=d.map (λp=>(p.1,some p.2))->(∀ k v,knd.is k v=true->av v=some (inj k))->P):P:=by
 rcases h.plain hp with ⟨kvs,q1,q2⟩ | ⟨kvs,q1,q2⟩
 ·exact k _ _ V.int kvs q1 q2 λk v e=>by obtain ⟨_,e⟩:=Value.isInt_shape e;exact e ▸ rfl
 ·exact k _ _ V.str kvs q1 q2 λk v e=>by obtain ⟨_,e⟩:=Value.isStrOf_shape e;exact e ▸ rfl
theorem keys_vs {d:List (V×V)}{K:Type}{inj:K->V}{kvs:List (K×Value)}{vs:List Value}{is:K->Value->Bool} (q2:kvs.map (λp=>(inj p.1,av p.2))=d.map (λp=>(p.1,some p.2))) (sh:∀ k v,is k v=true->av v=some (inj k))
 (hlen:vs.length=kvs.length) (hvs:∀ (j:Nat) (v:Value),vs[j]?=some v->∃ k x,kvs[j]?=some (k,x)/\is k v=true):Vs vs (d.map (λø=>ø.1)):=by
 have e:(d.map λp=>(p.1,some p.2)).map (λø=>ø.1)=d.map (λø=>ø.1):=by rw [List.map_map];rfl
 have e':(kvs.map λp=>(inj p.1,av p.2)).map (λø=>ø.1)=kvs.map λp=>inj p.1:=by rw [List.map_map];rfl
 rw [<- e,<- q2,e']
 unfold Vs
 refine List.ext_getElem? λj=>?_
 rw [List.getElem?_map,List.getElem?_map,List.getElem?_map]
 cases hj:vs[j]? with
 | none=>rw [List.getElem?_eq_none (hlen ▸ List.getElem?_eq_none_iff.mp hj)];rfl
 | some v=>
   obtain ⟨k,x,e1,e2⟩:=hvs j v hj
   rw [e1];exact congrArg some (sh k v e2)
theorem op_len {a:Value}{x:V}{k:KV}{Q:Value->Shared->Prop} (ha:av a=some x) (H:HS W L m X σ s.heap) (hw:lenV x σ k) (K:BK W L m X s k Q):wpAny (Mo W) A (call (.builtin "len") [a]) Q E s:=by
 cases x with
 | bytes b=>exact fB (P:=λa=>wpAny (Mo W) A (call (.builtin "len") [a]) Q E s) ha λt=>PySem.W.len_bytes (by have h:b.length<=1000000:=hw.1;simp;lia) (K _ (.int b.length) s.heap _ σ (by simp [av]) H hw.2)
 | ref r=>
   refine fR (P:=λa=>wpAny (Mo W) A (call (.builtin "len") [a]) Q E s) ha (gE_ok hw (λxs e hw=>H.getLK e λus n i1 v1 hb=>?_) λø hw=>gE_ok hw (λd e hw=>H.getDK e λo l h1 h2 h3 h4=>?_) λø hw=>gS_ok hw λxs e hw=>H.getFK e λus hl v1 hb=>?_)
   ·have l1:us.size=xs.length:=by rw [<- Array.length_toList,v1.len]
    exact call_len_list (IsL.isList i1) (by rw [l1];have h:xs.length<=1000000:=hb;lia) (K _ (.int xs.length) s.heap _ σ (by rw [l1];rfl) H hw)
   ·refine h2.plainG hw.1 λK' ø knd inj kvs q1 q2 ø=>?_
    have hl:kvs.length=d.length:=by have:=congrArg List.length q2;rwa [List.length_map,List.length_map] at this
    exact call_len_dict h3 (Heap.dictOf_iff.mpr ⟨o,h1,q1⟩) (by rw [hl];have h:d.length<=1000000:=h4;lia) (K _ (.int d.length) s.heap _ σ (by rw [hl];rfl) H hw.2)
   ·have l1:=v1.len
    exact call_len_list hl (by rw [List.size_toArray,l1];have h:xs.length<=1000000:=hb;lia) (K _ (.int xs.length) s.heap _ σ (by rw [List.size_toArray,l1];rfl) H hw)
 | _=>exact hw.elim
theorem op_list {a:Value}{x:V}{k:KV}{Q:Value->Shared->Prop} (ha:av a=some x) (H:HS W L m X σ s.heap) (hA:A.handled=none) (hw:bi1 .list x σ k) (K:BK W L m X s k Q):wpAny (Mo W) A (call (.type "list") [a]) Q E s:=by
 refine eR (P:=λa=>wpAny (Mo W) A (call (.type "list") [a]) Q E s) ha hw λr hw=>H.ledK λl hn N Ab=>gE_ok hw (λxs e hw=>H.getLK e λus n i1 v1 hb=>?_) λø hw=>gS_ok hw λd e hw=>H.getDK e λo l' h1 h2 h3 h4=>h2.plainG hw.1 λK' ø knd inj kvs q1 q2 sh=>?_
 ·refine list_copyK H.fr N (IsL.isList i1) (λD c h' F' N' lt=>?_) (size_big v1 hb)
  have e2:listOf us c=listOf us.toList.toArray c:=by simp
  rw [e2] at N'
  have z:=H.kNewL hn Ab v1 hb F' N' lt
  exact K _ _ _ s.toks _ rfl z.2 (hw D z.1)
 ·have hl:kvs.length=d.length:=by have:=congrArg List.length q2;rwa [List.length_map,List.length_map] at this
  obtain ⟨ep,hat⟩:=Heap.DictOf.dictAt (Heap.dictOf_iff.mpr ⟨o,h1,q1⟩)
  refine kdl_N (kdl_dict h3) hA H.fr N hat (by rw [hl,sizeLine_eq];have h:d.length<=1000000:=h4;lia) λD c h' tk vs F' N' lt hlen hvs=>?_
  have z:=H.kNewL hn Ab (keys_vs q2 sh hlen hvs) (by rw [List.length_map];exact h4) F' N' lt
  exact K _ _ _ tk _ rfl z.2 (hw.2 D z.1)
theorem op_bytes {a:Value}{x:V}{k:KV}{Q:Value->Shared->Prop} (ha:av a=some x) (H:HS W L m X σ s.heap) (hA:A.handled=none) (hw:bytesV x σ k) (K:BK W L m X s k Q):wpAny (Mo W) A (call (.type "bytes") [a]) Q E s:=by
 cases x with
 | int n=>exact fI (P:=λa=>wpAny (Mo W) A (call (.type "bytes") [a]) Q E s) ha λt=>call_bytes_int hw.1 hw.2.1 λt' tk=>K _ _ s.heap tk σ (av_of_bytes _ _) H hw.2.2
 | ref r=>
   refine fR (P:=λa=>wpAny (Mo W) A (call (.type "bytes") [a]) Q E s) ha (gS_ok hw λxs e hw=>gS_ok hw λns hn hw=>H.getLK e λus n i1 v1 hb=>?_)
   have hl:s.heap.IsList r us.toList.toArray:=by simpa using IsL.isList i1
   refine call_bytes_ints hl (intsOf_eq hn v1) hw.1 (by rw [v1.len,sizeLine_eq];have h:xs.length<=1000000:=hb;lia) hA λh' t k' hk=>?_
   exact K _ (.bytes (ns.map λn=>n.toNat.toUInt8)) h' k' σ (by simp [av,byteArr]) (H.keeps hk) hw.2
 | _=>exact hw.elim
theorem op_bi1 {b:B1}{a:Value}{x:V}{k:KV}{Q:Value->Shared->Prop} (ha:av a=some x) (H:HS W L m X σ s.heap) (hA:A.handled=none) (hw:bi1 b x σ k) (K:BK W L m X s k Q):wpAny (Mo W) A (call b.val [a]) Q E s:=by
 cases b with
 | len=>exact op_len ha H hw K
 | list=>exact op_list ha H hA hw K
 | bytes=>exact op_bytes ha H hA hw K
 | int=>
   cases x with
   | int i=>exact fI (P:=λa=>wpAny (Mo W) A (call (.type "int") [a]) Q E s) ha λt=>call_int_int (K _ _ s.heap s.toks σ rfl H hw)
   | bool b=>obtain rfl:=av_bool ha;exact call_int_bool (K _ _ s.heap _ σ rfl H hw)
   | _=>exact hw.elim
theorem op_max {a b:Value}{x y:V}{k:V->Prop}{Q:Value->Shared->Prop} (ha:av a=some x) (hb:av b=some y) (H:HS W L m X σ s.heap) (hA:A.handled=none) (hw:max2 x y k) (K:∀ r v h' t',av r=some v->HS W L m X σ h'->k v->Q r { s with heap:=h',toks:=t' }) :
 wpAny (Mo W) A (call (.builtin "max") [a,b]) Q E s:=
 eII (P:=λa b=>wpAny (Mo W) A (call (.builtin "max") [a,b]) Q E s) ha hb hw λi t j u hw=>H.ledK λl hn N Ab=>max_two_N hA H.fr N λh' tk F' N'=>K _ _ h' tk rfl ⟨F',⟨l,hn,N',Ab⟩,H.st⟩ hw
theorem set_eq (u:Value):∀ (us:List Value) (j:Nat),j<us.length->ki_setL us j u=some (us.set j u)
 | [],_,h=>nomatch h
 | z::us,0,_=>rfl
 | z::us,j+1,h=>by
   show (match ki_setL us j u with | some q=>some (z::q) | none=>none)=_
   rw [set_eq u us j (Nat.lt_of_succ_lt_succ h)];rfl
theorem op_setItem {a b u:Value}{x y v:V}{k:St->Prop}{Q:Unit->Shared->Prop} (ha:av a=some x) (hb:av b=some y) (hu:av u=some v) (H:HS W L m X σ s.heap) (hw:setidx x y v σ k)
 (K:∀ h' t' σ',HS W L m X σ' h'->k σ'->Q () { s with heap:=h',toks:=t' }):wpAny (Mo W) A (setItem a b u) Q E s:=by
 refine eR (P:=λa=>wpAny (Mo W) A (setItem a b u) Q E s) ha hw λr hw=>H.ledK λl hn N Ab=>gE_ok hw (λxs e hw=>?_) λø hw=>gS_ok hw λd e hw=>?_
 ·refine eI (P:=λb=>wpAny (Mo W) A (setItem (.ref r) b u) Q E s) hb hw λn t hw=>gS_ok hw λj hj hw=>Ab.lstK e λus c hm v1 hbig=>?_
  have l1:us.size=xs.length:=by rw [<- Array.length_toList,v1.len]
  have vv:Vs (us.toList.set j u) (xs.set j v):=by
   have v1':us.toList.map av=xs.map some:=v1
   unfold Vs;rw [List.map_set,List.map_set,v1',hu]
  have fin:∀ h',Fr W.B L h' m->News W.B L h' (l.put r (listOf (us.toList.set j u).toArray c)).pl->Q () { s with heap:=h' }:=λh' F' N'=>
   K h' s.toks (σ.setL r (xs.set j v)) (H.changed hn hm F' N' rfl (Ab.putL hn hm (by simpa using vv) (by rw [List.length_set];exact hbig))) hw
  have hb':xs.length<=1000000:=hbig
  rcases seqIndex_cases hj with h | h
  ·obtain ⟨h0,rfl,h2⟩:=h
   exact ki_set H.fr N h0 (by lia) (set_eq _ _ _ (by rw [Array.length_toList,l1];exact h2)) (Led.upd hn hm _) fin
  ·exact ki_setNeg H.fr N h.1 (by lia) (by rw [l1];exact hj) (set_eq _ _ _ (by rw [Array.length_toList,l1];exact h.2.2.2)) (Led.upd hn hm _) fin
 ·refine Ab.dctK e λo hm h2 h3 h4=>?_
  have ho:s.heap.get? r=some o:=(N _ (Led.mem_pl hm)).1
  have hbd:(dput y v d).length<=big:=by
   unfold dput
   split
   ·rw [List.length_map];exact h4
   ·rw [List.length_append];exact hw.2.1
  refine H.dictK e hw.1 hb (P:=λy b=>(dput y v d).length<=big->k (σ.setD r (dput y v d))->wpAny (Mo W) A (setItem (.ref r) b u) Q E s) (λK' ø knd inj i b kvs o' D hbd hk=>?_) hbd hw.2.2
  cases (D.at'.symm.trans ho)
  refine kda_set (knd:=knd) (k:=i) H.fr N (Led.updF hn hm) D.dict D.is (by rw [D.dk.len,sizeLine_eq];have h:d.length<=1000000:=h4;lia) λh' o2 F' N' hd=>?_
  exact K h' _ (σ.setD r (dput (inj i) v d)) (H.changed hn hm F' N' rfl (Ab.putD hn hm (D.rel hd (D.dk.set i hu)) hbd h3)) hk
end
end
section
variable {W:Wd}
section
variable {L:Addr}{m:Str->Option Value}{X:Addr->Option Obj}{σ:St}{s:Shared}{A:Around}{E:Value->Shared->Prop}
noncomputable def M1.nm:M1->Str
 | .append=>"append" | .pop=>"pop" | .get=>"get"
noncomputable def M2.nm:M2->Str
 | .insert=>"insert" | .get=>"get"
noncomputable def M1.id:Bool->M1->Option String
 | true,.append=>some "list.append" | true,.pop=>some "list.pop" | false,.pop=>some "dict.pop" | false,.get=>some "dict.get"
 | _,_=>none
noncomputable def M2.id:Bool->M2->Option String
 | true,.insert=>some "list.insert" | false,.get=>some "dict.get"
 | _,_=>none
theorem HS.isDict (H:HS W L m X σ s.heap) {a:Addr}{d:List (V×V)} (e:σ.D a=some d):s.TypeIs (.ref a) "dict"/\∃ o,s.heap.get? a=some o/\o.dict=none:=by
 obtain ⟨o,l,h1,h2,_⟩:=H.getD e
 rcases h2 with ⟨kvs,⟨es,ep,x,y,_⟩,_⟩ | ⟨kvs,⟨es,ep,x,y,_⟩,_⟩ | ⟨x,_⟩ <;> exact ⟨⟨o,h1,x.1⟩,o,h1,x.2.1⟩
theorem kd_true {x:V} (h:kd x σ=some true):∃ a xs,x=.ref a/\σ.L a=some xs:=by
 cases x <;> try cases h
 have h:(if (σ.L a).isSome then some true else if (σ.D a).isSome then some false else none)=some true:=h
 by_cases q:(σ.L a).isSome
 ·obtain ⟨xs,e⟩:=Option.isSome_iff_exists.mp q;exact ⟨_,xs,rfl,e⟩
 ·rw [if_neg q] at h;by_cases r:(σ.D a).isSome
  ·rw [if_pos r] at h;cases h
  ·rw [if_neg r] at h;cases h
theorem kd_false {x:V} (h:kd x σ=some false):∃ a d,x=.ref a/\σ.D a=some d:=by
 cases x <;> try cases h
 have h:(if (σ.L a).isSome then some true else if (σ.D a).isSome then some false else none)=some false:=h
 by_cases q:(σ.L a).isSome
 ·rw [if_pos q] at h;cases h
 ·rw [if_neg q] at h;by_cases r:(σ.D a).isSome
  ·obtain ⟨xs,e⟩:=Option.isSome_iff_exists.mp r;exact ⟨_,xs,rfl,e⟩
  ·rw [if_neg r] at h;cases h
theorem op_getMethod1 {a:Value}{x:V}{b:Bool}{n:M1}{id:String}{pl:Sem Bool}{Q:Value×List Value->Shared->Prop} (ha:av a=some x) (H:HS W L m X σ s.heap) (hk:kd x σ=some b) (hid:n.id b=some id) (K:Q (.builtin id,[a]) s) :
 wpAny (Mo W) A (getMethod a n.nm pl) Q E s:=by
 cases b with
 | true=>
   obtain ⟨r,xs,rfl,e⟩:=kd_true hk
   obtain rfl:=av_ref ha
   obtain ⟨us,c,i1,_⟩:=H.getL e
   have hd:∀ q:Addr,Value.ref r=.ref q->∃ o,s.heap.get? q=some o/\o.dict=none:=λq hq=>by cases hq;exact ⟨_,i1,rfl⟩
   cases n <;> cases hid
   ·exact getMethod_builtin (IsL.isList i1).typeIs PySem.F.plainAttrs_list PySem.F.slot_list_append PySem.F.type_list_append hd K
   ·exact getMethod_builtin (IsL.isList i1).typeIs PySem.F.plainAttrs_list PySem.F.slot_list_pop PySem.F.type_list_pop hd K
 | false=>
   obtain ⟨r,d,rfl,e⟩:=kd_false hk
   obtain rfl:=av_ref ha
   obtain ⟨i1,o,h1,h2⟩:=H.isDict e
   have hd:∀ q:Addr,Value.ref r=.ref q->∃ o,s.heap.get? q=some o/\o.dict=none:=λq hq=>by cases hq;exact ⟨_,h1,h2⟩
   cases n <;> cases hid
   ·exact getMethod_builtin i1 PySem.F.plainAttrs_dict PySem.F.slot_dict_pop PySem.F.type_dict_pop hd K
   ·exact getMethod_builtin i1 PySem.F.plainAttrs_dict PySem.F.slot_dict_get PySem.F.type_dict_get hd K
theorem op_getMethod2 {a:Value}{x:V}{b:Bool}{n:M2}{id:String}{pl:Sem Bool}{Q:Value×List Value->Shared->Prop} (ha:av a=some x) (H:HS W L m X σ s.heap) (hk:kd x σ=some b) (hid:n.id b=some id) (K:Q (.builtin id,[a]) s) :
 wpAny (Mo W) A (getMethod a n.nm pl) Q E s:=by
 cases b with
 | true=>
   obtain ⟨r,xs,rfl,e⟩:=kd_true hk
   obtain rfl:=av_ref ha
   obtain ⟨us,c,i1,_⟩:=H.getL e
   have hd:∀ q:Addr,Value.ref r=.ref q->∃ o,s.heap.get? q=some o/\o.dict=none:=λq hq=>by cases hq;exact ⟨_,i1,rfl⟩
   cases n <;> cases hid
   exact getMethod_builtin (IsL.isList i1).typeIs PySem.F.plainAttrs_list PySem.F.slot_list_insert PySem.F.type_list_insert hd K
 | false=>
   obtain ⟨r,d,rfl,e⟩:=kd_false hk
   obtain rfl:=av_ref ha
   obtain ⟨i1,o,h1,h2⟩:=H.isDict e
   have hd:∀ q:Addr,Value.ref r=.ref q->∃ o,s.heap.get? q=some o/\o.dict=none:=λq hq=>by cases hq;exact ⟨_,h1,h2⟩
   cases n <;> cases hid
   exact getMethod_builtin i1 PySem.F.plainAttrs_dict PySem.F.slot_dict_get PySem.F.type_dict_get hd K
theorem getD_av {o:Option Value}{p:Option V}{d:Value}{e:V} (h:o.map av=p.map some) (hd:av d=some e):av (o.getD d)=some (p.getD e):=by
 cases o with
 | none=>cases p with
   | none=>exact hd
   | some q=>cases h
 | some u=>cases p with
   | none=>cases h
   | some q=>simpa using h
theorem op_meth1 {a c:Value}{x y:V}{b:Bool}{n:M1}{k:KV}{Q:Value->Shared->Prop} (ha:av a=some x) (hc:av c=some y) (H:HS W L m X σ s.heap) (hw:meth1 b n x y σ k) (K:BK W L m X s k Q) :
 ∃ id,n.id b=some id/\wpAny (Mo W) A (call (.builtin id) [a,c]) Q E s:=by
 refine eR (P:=λa=>∃ id,n.id b=some id/\wpAny (Mo W) A (call (.builtin id) [a,c]) Q E s) ha hw λr hw=>H.ledK λl hn N Ab=>?_
 cases b with
 | true=>
   cases n with
   | append=>
     refine ⟨_,rfl,gS_ok hw λxs e hw=>Ab.lstK e λus cc hm v1 hb=>?_⟩
     have vv:Vs (us.push c).toList (xs++[y]):=by rw [Array.toList_push];exact v1.app (Vs.cons hc Vs.nil)
     refine append_K H.fr N (Led.upd hn hm _) (λh' F' N'=>?_) (size_big v1 hb)
     exact K .none .none h' s.toks (σ.setL r (xs++[y])) rfl (H.changed hn hm F' N' rfl (Ab.putL hn hm vv (by rw [List.length_append];exact hw.1))) hw.2
   | pop=>
     refine ⟨_,rfl,gS_ok hw λxs e hw=>Ab.lstK e λus cc hm v1 hb=>?_⟩
     cases xs with
     | nil=>exact hw.elim
     | cons z xs=>
       refine eI (P:=λc=>wpAny (Mo W) A (call (.builtin "list.pop") [.ref r,c]) Q E s) hc hw λi t hw=>?_
       obtain ⟨rfl,hw⟩:=hw
       obtain ⟨u,us',eu,v2,v3⟩:=v1.uncons
       refine kl_popAt (p:=[]) (q:=us') (y:=u) (k:=0) H.fr N (by decide) ?_ ?_ (Led.upd hn hm _) ?_ (λh' F' N'=>?_)
       ·have:us.size=us'.length+1:=by rw [<- Array.length_toList,eu];rfl
        unfold seqIndex?;rw [this];simp
       ·rw [eu];rfl
       ·rw [v1.len,sizeLine_eq];exact Nat.le_trans hb (by decide)
       ·have vv:Vs (([]:List Value)++us').toArray.toList xs:=by simpa using v3
        exact K u z h' s.toks (σ.setL r xs) v2 (H.changed hn hm F' N' rfl (Ab.putL hn hm vv (Nat.le_trans (Nat.le_succ _) hb))) hw
   | get=>exact hw.elim
 | false=>
   cases n with
   | append=>exact hw.elim
   | pop=>
     refine ⟨_,rfl,gS_ok hw λd e hw=>gS_ok hw λv hv hw=>Ab.dctK e λo hm h2 h3 h4=>?_⟩
     have ho:s.heap.get? r=some o:=(N _ (Led.mem_pl hm)).1
     have hbd:(ddel y d).length<=big:=Nat.le_trans (List.length_filter_le _ _) h4
     refine H.dictK e (keyFit_of_get hc h2 hv) hc (P:=λy c=>dget y d=some v->(ddel y d).length<=big->k v (σ.setD r (ddel y d))->wpAny (Mo W) A (call (.builtin "dict.pop") [.ref r,c]) Q E s) (λK' ø knd inj i b kvs o' D hv hbd hk=>?_) hv hbd hw
     cases (D.at'.symm.trans ho)
     refine get_av (D.dk.get i) hv λu hva g=>?_
     refine kob_pop (knd:=knd) (k:=i) (more:=[]) H.fr N (Led.updF hn hm) D.dict D.is (.inl rfl) D.part (PySem.F.args_dict_pop_2 _ _) hva (by rw [D.dk.len,sizeLine_eq];exact Nat.le_trans h4 (by decide)) λh' o2 F' N' hd=>?_
     exact K u v h' _ (σ.setD r (ddel (inj i) d)) g (H.changed hn hm F' N' rfl (Ab.putD hn hm (D.rel hd (D.dk.del i)) hbd h3)) hk
   | get=>
     refine ⟨_,rfl,gS_ok hw λd e hw=>Ab.dctK e λo hm h2 h3 h4=>?_⟩
     have ho:s.heap.get? r=some o:=(N _ (Led.mem_pl hm)).1
     refine H.dictK e hw.1 hc (P:=λy c=>k ((dget y d).getD .none) σ->wpAny (Mo W) A (call (.builtin "dict.get") [.ref r,c]) Q E s) (λK' ø knd inj i b kvs o' D hk=>?_) hw.2
     cases (D.at'.symm.trans ho)
     exact kdg_get1 (knd:=knd) (k:=i) N (Led.mem_pl hm) D.dict h3 D.is _ rfl (K _ _ s.heap _ σ (getD_av (D.dk.get i) rfl) H hk)
theorem ins_eq:∀ (l:List Value) (i:Int) (y:Value),0<=i->i<=l.length->kl_ins l i y=l.take i.toNat++y::l.drop i.toNat:=by
 intro l i y h0 h1
 unfold kl_ins
 have e:(if i<0 then (i+(l.length:Int)).toNat else min i.toNat l.length)=i.toNat:=by rw [if_neg (by lia)];lia
 rw [e]
theorem op_meth2 {a c e:Value}{x y z:V}{b:Bool}{n:M2}{k:KV}{Q:Value->Shared->Prop} (ha:av a=some x) (hc:av c=some y) (he:av e=some z) (H:HS W L m X σ s.heap) (hw:meth2 b n x y z σ k) (K:BK W L m X s k Q) :
 ∃ id,n.id b=some id/\wpAny (Mo W) A (call (.builtin id) [a,c,e]) Q E s:=by
 refine eR (P:=λa=>∃ id,n.id b=some id/\wpAny (Mo W) A (call (.builtin id) [a,c,e]) Q E s) ha hw λr hw=>H.ledK λl hn N Ab=>?_
 cases b with
 | true=>
   cases n with
   | insert=>
     refine ⟨_,rfl,gS_ok hw λxs e1 hw=>eI (P:=λc=>wpAny (Mo W) A (call (.builtin "list.insert") [.ref r,c,e]) Q E s) hc hw λi t hw=>Ab.lstK e1 λus cc hm v1 hb=>?_⟩
     have l1:=v1.len
     have h2:xs.length<1000000:=hw.2.2.1
     have h0:=hw.1
     have h1:=hw.2.1
     have vv:Vs (us.toList.take i.toNat++e::us.toList.drop i.toNat).toArray.toList (xs.take i.toNat++z::xs.drop i.toNat):=(v1.take _).app (Vs.cons he (v1.drop _))
     refine kl_insert H.fr N ?_ (ins_eq us.toList i e h0 (by rw [l1];exact h1)) (Led.upd hn hm _) ?_ (λh' F' N'=>?_)
     ·unfold Builtin.List.listFitsIndex;simp;lia
     ·rw [l1,sizeLine_eq];lia
     ·refine K .none .none h' s.toks (σ.setL r (xs.take i.toNat++z::xs.drop i.toNat)) rfl (H.changed hn hm F' N' rfl (Ab.putL hn hm vv ?_)) hw.2.2.2
      rw [List.length_append,List.length_cons,List.length_take,List.length_drop]
      show _<=1000000
      lia
   | get=>exact hw.elim
 | false=>
   cases n with
   | insert=>exact hw.elim
   | get=>
     refine ⟨_,rfl,gS_ok hw λd e1 hw=>Ab.dctK e1 λo hm h2 h3 h4=>?_⟩
     have ho:s.heap.get? r=some o:=(N _ (Led.mem_pl hm)).1
     refine H.dictK e1 hw.1 hc (P:=λy c=>k ((dget y d).getD z) σ->wpAny (Mo W) A (call (.builtin "dict.get") [.ref r,c,e]) Q E s) (λK' ø knd inj i b kvs o' D hk=>?_) hw.2
     cases (D.at'.symm.trans ho)
     exact kdg_get2 (knd:=knd) (k:=i) N (Led.mem_pl hm) D.dict h3 D.is _ rfl (K _ _ s.heap _ σ (getD_av (D.dk.get i) he) H hk)
end
end
section
noncomputable def fldOk (K:Frag) (C:Addr) (name:Str):Bool:=plainGet K C name&&hasDictIn K C&&findIn K (.ref C) name == some none&&findIn K (.ref C) "__setattr__" == some (some (.builtin "object.__setattr__"))&&plainOver K C&&takerIn K C name == some none
noncomputable def methOk (K:Frag) (C:Addr) (name:Str) (f:Addr):Bool:=plainGet K C name&&findIn K (.ref C) name == some (some (.ref f))&&isFn K (.ref f)&&keepIn K (.ref f)
noncomputable def clsOk (K:Frag) (C f:Addr):Bool:=makesIn K C&&findIn K (.ref C) "__init__" == some (some (.ref f))&&typeIn K (.ref f) == some (.type "function")&&keepIn K (.ref C)
structure NOk (W:Wd):Prop where
 fld:∀ c f,W.N.TB.fld c f=true->fldOk W.K (W.N.ca c) (W.N.fn f)=true
 mt:∀ c n g,W.N.TB.mt c n=some g->methOk W.K (W.N.ca c) (W.N.fn n) (W.N.fa g)=true
 mr:∀ c n g,W.N.TB.mt c n=some g->g<W.N.TB.mr n
 minj:∀ c f m,W.N.TB.fld c f=true->(W.N.TB.mt c m).isSome->W.N.fn f=W.N.fn m->f=m
 inj:∀ c f f',W.N.TB.fld c f=true->W.N.TB.fld c f'=true->W.N.fn f=W.N.fn f'->f=f'
theorem getL_putL {x name:Str}{h:Int}{t:Tok}{u:Value}:∀ {es:List DictEntry},getL x (putL name h (.str name t) u es)=if x=name then some (some u) else getL x es:=by
 intro es
 unfold getL
 by_cases hx:x=name
 ·subst hx
  rw [if_pos rfl]
  have:∃ e,(putL x h (.str x t) u es).find? (λe=>e.key.isStr x)=some e/\e.val=u:=by
   induction es with
   | nil=>exact ⟨⟨h,.str x t,u⟩,by simp [putL,Value.isStr],rfl⟩
   | cons e r ih=>
     unfold putL
     split
     ·rename_i q;exact ⟨⟨e.hash,e.key,u⟩,by simp [q],rfl⟩
     ·rename_i q
      obtain ⟨e',h1,h2⟩:=ih
      exact ⟨e',by simp [q,h1],h2⟩
  obtain ⟨e,h1,h2⟩:=this
  rw [h1,<- h2]
 ·rw [if_neg hx]
  have key:∀ e:DictEntry,e.key.isStr name=true->e.key.isStr x=false:=by
   intro e he
   cases hk:e.key <;> rw [hk] at he <;> simp [Value.isStr] at he |-
   intro q;exact hx (q.symm.trans he)
  have f:(putL name h (.str name t) u es).find? (λe=>e.key.isStr x)=es.find? (λe=>e.key.isStr x):=by
   induction es with
   | nil=>simp only [putL,List.find?_cons,List.find?_nil];rw [key ⟨h,.str name t,u⟩ (by simp [Value.isStr])]
   | cons e r ih=>
     unfold putL
     split
     ·rename_i q
      rw [List.find?_cons,List.find?_cons,key e q]
     ·rw [List.find?_cons,List.find?_cons,ih]
  have g:(putL name h (.str name t) u es).any (λø=>ø.refKey)=es.any (λø=>ø.refKey):=by
   clear f
   induction es with
   | nil=>simp [putL,DictEntry.refKey]
   | cons e r ih=>
     unfold putL
     split
     ·simp [List.any_cons,DictEntry.refKey]
     ·rw [List.any_cons,List.any_cons,ih]
  rw [f,g]
theorem putL_len (name:Str) (h:Int) (k u:Value):∀ es:List DictEntry,(putL name h k u es).length=if es.any (λe=>e.key.isStr name) then es.length else es.length+1
 | []=>rfl
 | e::r=>by
   unfold putL
   by_cases q:e.key.isStr name=true
   ·simp [q]
   ·have q':e.key.isStr name=false:=by simpa using q
    rw [if_neg q,List.length_cons,putL_len name h k u r,List.any_cons,q',Bool.false_or,List.length_cons]
    split <;> lia
theorem lookup_fput (f:Nat) (v:V) (g:Nat):∀ fs:List (Nat×V),(fput f v fs).lookup g=if g=f then some v else fs.lookup g
 | []=>by
   simp only [fput_nil,List.lookup_cons,List.lookup_nil]
   by_cases h:g=f
   ·simp [h]
   ·have:(g == f)=false:=by simp [h]
    rw [this,if_neg h]
 | (a,b)::r=>by
   rw [fput_cons]
   by_cases h:a=f
   ·subst h
    rw [if_pos rfl,List.lookup_cons,List.lookup_cons]
    by_cases q:g=a
    ·subst q;simp
    ·have:(g == a)=false:=by simp [q]
     rw [this,if_neg q]
   ·rw [if_neg h,List.lookup_cons,lookup_fput f v g r,List.lookup_cons]
    by_cases q:g=a
    ·subst q;simp [h]
    ·have:(g == a)=false:=by simp [q]
     rw [this]
theorem fput_len (f:Nat) (v:V):∀ fs:List (Nat×V),(fput f v fs).length=if (fs.lookup f).isSome then fs.length else fs.length+1
 | []=>rfl
 | (a,b)::r=>by
   rw [fput_cons]
   by_cases h:a=f
   ·subst h;simp [List.lookup_cons]
   ·have h':(f == a)=false:=by simp;exact λe=>h e.symm
    rw [if_neg h,List.length_cons,fput_len f v r,List.lookup_cons,h',List.length_cons]
    dsimp only
    split <;> lia
set_option tactic.hygienic true in
theorem any_of_getL {x:Str}{es:List DictEntry}{u:Value} (h:getL x es=some (some u)):es.any (λe=>e.key.isStr x)=true:=by
 unfold getL at h
 split at h
 ·rename_i e he
  exact List.any_eq_true.mpr ⟨e,List.mem_of_find?_eq_some he,List.find?_some (p:=λe:DictEntry=>e.key.isStr x) he⟩
 ·split at h <;> cases h
theorem FRel.put {N:Nm}{c:Nat}{fs:List (Nat×V)}{es:List DictEntry} (R:FRel N c fs es) {f:Nat}{v:V}{u:Value}{h:Int}{t:Tok} (hv:av u=some v) (hf:N.TB.fld c f=true)
 (inj:∀ f f',N.TB.fld c f=true->N.TB.fld c f'=true->N.fn f=N.fn f'->f=f'):FRel N c (fput f v fs) (putL (N.fn f) h (.str (N.fn f) t) u es) where
 has:=λg w hw=>by
  rw [lookup_fput] at hw
  rw [getL_putL]
  by_cases q:g=f
  ·subst q;rw [if_pos rfl] at hw |-;cases hw;exact ⟨u,rfl,hv⟩
  ·rw [if_neg q] at hw
   have hg:=R.ok g (by rw [hw];rfl)
   rw [if_neg λe=>q (inj _ _ hg hf e)]
   exact R.has g w hw
 no:=λx hx=>by
  rw [getL_putL,if_neg λe=>?_]
  ·refine R.no x λg hg=>hx g ?_
   rw [lookup_fput];split <;> first | rfl | exact hg
  ·exact hx f (by rw [lookup_fput,if_pos rfl];rfl) e.symm
 len:=by
  rw [putL_len,fput_len]
  have:=R.len
  cases q:fs.lookup f with
  | none=>simp;split <;> lia
  | some w=>
    obtain ⟨u',h1,_⟩:=R.has f w q
    rw [any_of_getL h1];simpa using this
 ok:=λg hg=>by
  rw [lookup_fput] at hg
  by_cases q:g=f
  ·subst q;exact hf
  ·rw [if_neg q] at hg;exact R.ok g hg
variable {W:Wd}
section
variable {L:Addr}{m:Str->Option Value}{X:Addr->Option Obj}{σ:St}{s:Shared}{A:Around}{E:Value->Shared->Prop}
theorem handed_of {u:Value}{v:V} (h:av u=some v):handedIn u=true:=by
 cases u <;> first | rfl | cases h
theorem op_getAttr (T:NOk W) {r c f:Nat}{fs:List (Nat×V)}{v:V}{e:Bool}{Q:Value->Shared->Prop} (H:HS W L m X σ s.heap) (hI:σ.I r=some (c,fs)) (hf:fs.lookup f=some v) (K:∀ u t',av u=some v->Q u { s with toks:=t' }) :
 wpAny (Mo W) A (getAttr (.ref r) (W.N.fn f) e) Q E s:=by
 obtain ⟨dx,es,n,I,R⟩:=H.getI hI
 obtain ⟨u,h1,h2⟩:=R.has f v hf
 have ok:=T.fld c f (R.ok f (by rw [hf];rfl))
 unfold fldOk at ok
 simp only [Bool.and_eq_true,beq_iff_eq] at ok
 obtain ⟨⟨⟨⟨⟨o1,o2⟩,o3⟩,_⟩,_⟩,_⟩:=ok
 exact get_own H.fr W.X I o1 o2 o3 rfl h1 (handed_of h2) (K u _ h2)
theorem op_setAttr (T:NOk W) {r c f:Nat}{fs:List (Nat×V)}{v:V}{u:Value}{Q:Unit->Shared->Prop} (H:HS W L m X σ s.heap) (hI:σ.I r=some (c,fs)) (hf:W.N.TB.fld c f=true) (hl:fs.length<=50) (hv:av u=some v)
 (K:∀ h' t',HS W L m X (σ.setI r (c,fput f v fs)) h'->Q () { s with heap:=h',toks:=t' }):wpAny (Mo W) A (setAttr (.ref r) (W.N.fn f) u) Q E s:=by
 obtain ⟨l,hn,N,Ab⟩:=H.led
 obtain ⟨dx,es,n,h1,h2,R⟩:=Ab.inst _ _ _ hI
 have I:InstAt s.heap r (instObj (W.N.ca c) dx) (W.N.ca c) (some (dictOf es n)):=⟨(N _ (Led.mem_pl h1)).1,rfl,rfl,(N _ (Led.mem_pl h2)).1⟩
 have ok:=T.fld c f hf
 unfold fldOk at ok
 simp only [Bool.and_eq_true,beq_iff_eq] at ok
 obtain ⟨⟨⟨⟨⟨o1,o2⟩,o3⟩,o4⟩,o5⟩,o6⟩:=ok
 have hls:(getL (W.N.fn f) es).isSome=true:=by
  cases q:fs.lookup f with
  | some w=>obtain ⟨u',h1,_⟩:=R.has f w q;rw [h1];rfl
  | none=>
    rw [R.no (W.N.fn f) λg hg e=>?_];rfl
    have:=T.inj c g f (R.ok g hg) hf e
    subst this;rw [q] at hg;cases hg
 have R':=R.put (f:=f) (h:=PyData.keyHash W.w.params (W.N.fn f)) (t:=s.toks+1) hv hf (T.inj c)
 have hz:(putL (W.N.fn f) (PyData.keyHash W.w.params (W.N.fn f)) (.str (W.N.fn f) (s.toks+1)) u es).length<=1000:=by
  have:=R'.len
  rw [fput_len] at this
  have h3:(if (fs.lookup f).isSome=true then fs.length else fs.length+1)<=51:=by split <;> lia
  lia
 refine set_dict H.fr W.X N I rfl o4 o5 o6 o2 hls rfl (Led.upd hn h2 _) hz λh' F' N'=>?_
 exact K h' _ (H.changed hn h2 F' N' rfl (Ab.putI hn h1 rfl h2 R'))
theorem op_getMeth (T:NOk W) {r c n g:Nat}{fs:List (Nat×V)}{pl:Sem Bool}{Q:Value×List Value->Shared->Prop} (H:HS W L m X σ s.heap) (hI:σ.I r=some (c,fs)) (hm:W.N.TB.mt c n=some g) (hf:fs.lookup n=none)
 (hn:∀ f,W.N.TB.fld c f=true->W.N.fn f=W.N.fn n->f=n) (K:Q (.ref (W.N.fa g),[.ref r]) s):wpAny (Mo W) A (getMethod (.ref r) (W.N.fn n) pl) Q E s:=by
 obtain ⟨dx,es,k,I,R⟩:=H.getI hI
 have ok:=T.mt c n g hm
 unfold methOk at ok
 simp only [Bool.and_eq_true,beq_iff_eq] at ok
 obtain ⟨⟨⟨o1,o2⟩,o3⟩,o4⟩:=ok
 exact method_inst H.fr W.X I o1 o2 o3 (R.no _ λf hs e=>by
  have:=hn f (R.ok f hs) e
  subst this;rw [hf] at hs;cases hs) K
end
end
section
structure Ck where
 vt:List Str
 sc:List (Str×NameKind)
 own:Bool
noncomputable def Ck.glob (c:Ck) (x:Str):Bool:=c.sc.lookup x == some .globalImplicit&&!(x == ("__debug__":Str))&&!(x == ("__name__":Str))
noncomputable def bootVal (K:Frag) (x:Str) (v:Value):Bool:=nsIn K mainGlobals x == some none&&bootBuiltins x == some v
noncomputable def B1.name:B1->Str
 | .len=>"len" | .bytes=>"bytes" | .int=>"int" | .list=>"list"
noncomputable def compNames (sc:List (Str×NameKind)):List Str:=(sc.filter λp=>p.2 == .local&&!(p.1 == (".0":Str))).map (λø=>ø.1)
noncomputable def compScope (outer sc:List (Str×NameKind)):List (Str×NameKind):=sc.map λp=>if p.2 == .free&&outer.lookup p.1 == some .cell then (p.1,.cell) else p
noncomputable def dkKinds (ks:List DK):Bool:=ks.all DK.isI || ks.all λk=>!k.isI
noncomputable def DK.same:DK->DK->Bool
 | .int i,.int j=>i == j
 | .str x,.str y=>Str.ofString x == Str.ofString y
 | _,_=>false
noncomputable def dkApart:List DK->Bool
 | []=>true
 | k::r=>r.all (λq=>!k.same q)&&dkApart r
theorem dkApart_cons {k:DK}{r:List DK}:dkApart (k::r)=(r.all (λq=>!k.same q)&&dkApart r):=rfl
noncomputable def EL.isNil:EL->Bool
 | .nil=>true
 | .cons _ _=>false
noncomputable def chkVar (c:Ck) (i:Nat) (y:Str):Bool:=c.vt[i]? == some y&&(c.sc.lookup y == some .local || (c.own&&c.sc.lookup y == some .cell))
noncomputable def nodupB:List Str->Bool
 | []=>true
 | x::r=>!r.contains x&&nodupB r
theorem nodupB_cons {x:Str}{r:List Str}:nodupB (x::r)=(!r.contains x&&nodupB r):=rfl
noncomputable def compOk (outer sc:List (Str×NameKind)):Bool:=nodupB (sc.map (λø=>ø.1))&&sc.all λp=>!(p.2 == .cell)&&(!(p.2 == .free) || outer.lookup p.1 == some .cell)
noncomputable def compCk (c:Ck) (fvs:List Nat) (sc:List (Str×NameKind)):Ck:=⟨fvs.filterMap (λi=>c.vt[i]?)++compNames sc,compScope c.sc sc,false⟩
noncomputable def incOp:Bop->Bool
 | .add=>true
 | .sub=>true
 | _=>false
theorem aL {a b:Bool} (h:(a&&b)=true):a=true:=((Bool.and_eq_true a b).mp h).1
theorem aR {a b:Bool} (h:(a&&b)=true):b=true:=((Bool.and_eq_true a b).mp h).2
theorem nL {a:Bool} (h:(!a)=true):a=false:=by cases a <;> first | rfl | cases h
theorem andI {a b:Bool} (h:a=true) (k:b=true):(a&&b)=true:=by rw [h,k];rfl
noncomputable def u1 {α:Type} (f:α->Bool):List α->Bool
 | [a]=>f a
 | _=>false
noncomputable def u2 {α:Type} (f:α->α->Bool):List α->Bool
 | [a,b]=>f a b
 | _=>false
noncomputable def uc {α:Type} (f:α->List α->Bool):List α->Bool
 | a::l=>f a l
 | _=>false
noncomputable def un {α:Type}:List α->Bool
 | []=>true
 | _=>false
noncomputable def oSm {α:Type} (f:α->Bool):Option α->Bool
 | some a=>f a
 | _=>false
noncomputable def oNo {α:Type}:Option α->Bool
 | none=>true
 | _=>false
section
variable {α:Type}{P:List α->Prop}
theorem uc_ok {f:α->List α->Bool}:∀ {l},uc f l=true->(∀ a r,f a r=true->P (a::r))->P l
 | _::_,h,k=>k _ _ h
 | [],h,_=>(Bool.false_ne_true h).elim
theorem un_ok:∀ {l:List α},un l=true->P []->P l
 | [],_,k=>k
 | _::_,h,_=>(Bool.false_ne_true h).elim
theorem u1_ok {f:α->Bool}:∀ {l},u1 f l=true->(∀ a,f a=true->P [a])->P l
 | [_],h,k=>k _ h
 | [],h,_=>(Bool.false_ne_true h).elim
 | _::_::_,h,_=>(Bool.false_ne_true h).elim
theorem u2_ok {f:α->α->Bool}:∀ {l},u2 f l=true->(∀ a b,f a b=true->P [a,b])->P l
 | [_,_],h,k=>k _ _ h
 | [],h,_=>(Bool.false_ne_true h).elim
 | [_],h,_=>(Bool.false_ne_true h).elim
 | _::_::_::_,h,_=>(Bool.false_ne_true h).elim
theorem oSm_ok {P:Option α->Prop}{f:α->Bool}:∀ {o},oSm f o=true->(∀ a,f a=true->P (some a))->P o
 | some _,h,k=>k _ h
 | none,h,_=>(Bool.false_ne_true h).elim
theorem oNo_ok {P:Option α->Prop}:∀ {o},oNo o=true->P none->P o
 | none,_,k=>k
 | some _,h,_=>(Bool.false_ne_true h).elim
end
noncomputable def vAny {α β:Type}{mk:β->α}{x:α} (o:Option {b:β // x=mk b}) (f:β->Bool):Bool:=match o with
 | some b=>f b.1
 | _=>false
theorem vOk {α β:Type}{mk:β->α}{x:α}{P:α->Prop}{f:β->Bool}{o:Option {b:β // x=mk b}} (h:vAny o f=true) (k:∀ b,f b=true->P (mk b)):P x:=
 match o,h with
 | some ⟨b,e⟩,h=>e ▸ k b h
noncomputable def xel {M:PySem.Expr->Type} (x:PySem.Expr) (d:∀ x,M x) (nm_:∀ a0 a1,M (.Name a0 a1):=λa0 a1=>d (.Name a0 a1)) (cn_:∀ a0 a1 a2,M (.Constant a0 a1 a2):=λa0 a1 a2=>d (.Constant a0 a1 a2)) (bn_:∀ a0 a1 a2 a3,M (.BinOp a0 a1 a2 a3):=λa0 a1 a2 a3=>d (.BinOp a0 a1 a2 a3)) (un_:∀ a0 a1 a2,M (.UnaryOp a0 a1 a2):=λa0 a1 a2=>d (.UnaryOp a0 a1 a2)) (cm_:∀ a0 a1 a2 a3,M (.Compare a0 a1 a2 a3):=λa0 a1 a2 a3=>d (.Compare a0 a1 a2 a3)) (bl_:∀ a0 a1 a2,M (.BoolOp a0 a1 a2):=λa0 a1 a2=>d (.BoolOp a0 a1 a2)) (if_:∀ a0 a1 a2 a3,M (.IfExp a0 a1 a2 a3):=λa0 a1 a2 a3=>d (.IfExp a0 a1 a2 a3)) (at_:∀ a0 a1 a2,M (.Attribute a0 a1 a2):=λa0 a1 a2=>d (.Attribute a0 a1 a2)) (sb_:∀ a0 a1 a2,M (.Subscript a0 a1 a2):=λa0 a1 a2=>d (.Subscript a0 a1 a2)) (sl_:∀ a0 a1 a2 a3,M (.Slice a0 a1 a2 a3):=λa0 a1 a2 a3=>d (.Slice a0 a1 a2 a3)) (cl_:∀ a0 a1 a2 a3,M (.Call a0 a1 a2 a3):=λa0 a1 a2 a3=>d (.Call a0 a1 a2 a3)) (ls_:∀ a0 a1,M (.List a0 a1):=λa0 a1=>d (.List a0 a1)) (tp_:∀ a0 a1 a2,M (.Tuple a0 a1 a2):=λa0 a1 a2=>d (.Tuple a0 a1 a2)) (dc_:∀ a0 a1 a2,M (.Dict a0 a1 a2):=λa0 a1 a2=>d (.Dict a0 a1 a2)) (lc_:∀ a0 a1 a2 a3,M (.ListComp a0 a1 a2 a3):=λa0 a1 a2 a3=>d (.ListComp a0 a1 a2 a3)) (sc_:∀ a0 a1 a2 a3,M (.SetComp a0 a1 a2 a3):=λa0 a1 a2 a3=>d (.SetComp a0 a1 a2 a3)) (dk_:∀ a0 a1 a2 a3 a4,M (.DictComp a0 a1 a2 a3 a4):=λa0 a1 a2 a3 a4=>d (.DictComp a0 a1 a2 a3 a4)) (sr_:∀ a0 a1,M (.Starred a0 a1):=λa0 a1=>d (.Starred a0 a1)) (st_:∀ a0 a1 a2,M (.Set a0 a1 a2):=λa0 a1 a2=>d (.Set a0 a1 a2)):M x:=by
 cases x with
 | Name a0 a1=>exact nm_ a0 a1
 | Constant a0 a1 a2=>exact cn_ a0 a1 a2
 | BinOp a0 a1 a2 a3=>exact bn_ a0 a1 a2 a3
 | UnaryOp a0 a1 a2=>exact un_ a0 a1 a2
 | Compare a0 a1 a2 a3=>exact cm_ a0 a1 a2 a3
 | BoolOp a0 a1 a2=>exact bl_ a0 a1 a2
 | IfExp a0 a1 a2 a3=>exact if_ a0 a1 a2 a3
 | Attribute a0 a1 a2=>exact at_ a0 a1 a2
 | Subscript a0 a1 a2=>exact sb_ a0 a1 a2
 | Slice a0 a1 a2 a3=>exact sl_ a0 a1 a2 a3
 | Call a0 a1 a2 a3=>exact cl_ a0 a1 a2 a3
 | List a0 a1=>exact ls_ a0 a1
 | Tuple a0 a1 a2=>exact tp_ a0 a1 a2
 | Dict a0 a1 a2=>exact dc_ a0 a1 a2
 | ListComp a0 a1 a2 a3=>exact lc_ a0 a1 a2 a3
 | SetComp a0 a1 a2 a3=>exact sc_ a0 a1 a2 a3
 | DictComp a0 a1 a2 a3 a4=>exact dk_ a0 a1 a2 a3 a4
 | Starred a0 a1=>exact sr_ a0 a1
 | Set a0 a1 a2=>exact st_ a0 a1 a2
 | _=>exact d _
noncomputable def voNm (x:PySem.Expr):Option {b:Str×Pos // x=.Name b.1 b.2}:=xel (M:=λx=>Option {b:Str×Pos // x=.Name b.1 b.2}) x (λø=>none) (nm_:=λy q=>some ⟨(y,q),rfl⟩)
@[irreducible] noncomputable def oNm (f:Str->Pos->Bool) (x:PySem.Expr):Bool:=vAny (voNm x) λb=>f b.1 b.2
theorem oNm_ok {P:PySem.Expr->Prop}{f:Str->Pos->Bool}{x:PySem.Expr} (h:oNm f x=true) (k:∀ y q,f y q=true->P (.Name y q)):P x:=by delta oNm at h;exact vOk h λb=>k b.1 b.2
noncomputable def voCn (x:PySem.Expr):Option {b:Const×Nat×Pos // x=.Constant b.1 b.2.1 b.2.2}:=xel (M:=λx=>Option {b:Const×Nat×Pos // x=.Constant b.1 b.2.1 b.2.2}) x (λø=>none) (cn_:=λc p1 p2=>some ⟨(c,p1,p2),rfl⟩)
@[irreducible] noncomputable def oCn (f:Const->Bool) (x:PySem.Expr):Bool:=vAny (voCn x) λb=>f b.1
theorem oCn_ok {P:PySem.Expr->Prop}{f:Const->Bool}{x:PySem.Expr} (h:oCn f x=true) (k:∀ c p1 p2,f c=true->P (.Constant c p1 p2)):P x:=by delta oCn at h;exact vOk h λb=>k b.1 b.2.1 b.2.2
noncomputable def voBn (x:PySem.Expr):Option {b:Expr×Operator×Expr×Pos // x=.BinOp b.1 b.2.1 b.2.2.1 b.2.2.2}:=xel (M:=λx=>Option {b:Expr×Operator×Expr×Pos // x=.BinOp b.1 b.2.1 b.2.2.1 b.2.2.2}) x (λø=>none) (bn_:=λl o r p1=>some ⟨(l,o,r,p1),rfl⟩)
@[irreducible] noncomputable def oBn (f:Expr->Operator->Expr->Bool) (x:PySem.Expr):Bool:=vAny (voBn x) λb=>f b.1 b.2.1 b.2.2.1
theorem oBn_ok {P:PySem.Expr->Prop}{f:Expr->Operator->Expr->Bool}{x:PySem.Expr} (h:oBn f x=true) (k:∀ l o r p1,f l o r=true->P (.BinOp l o r p1)):P x:=by delta oBn at h;exact vOk h λb=>k b.1 b.2.1 b.2.2.1 b.2.2.2
noncomputable def voUn (x:PySem.Expr):Option {b:UnaryOp×Expr×Pos // x=.UnaryOp b.1 b.2.1 b.2.2}:=xel (M:=λx=>Option {b:UnaryOp×Expr×Pos // x=.UnaryOp b.1 b.2.1 b.2.2}) x (λø=>none) (un_:=λo y p1=>some ⟨(o,y,p1),rfl⟩)
@[irreducible] noncomputable def oUn (f:UnaryOp->Expr->Bool) (x:PySem.Expr):Bool:=vAny (voUn x) λb=>f b.1 b.2.1
theorem oUn_ok {P:PySem.Expr->Prop}{f:UnaryOp->Expr->Bool}{x:PySem.Expr} (h:oUn f x=true) (k:∀ o y p1,f o y=true->P (.UnaryOp o y p1)):P x:=by delta oUn at h;exact vOk h λb=>k b.1 b.2.1 b.2.2
noncomputable def voCm (x:PySem.Expr):Option {b:Expr×List CmpOp×List Expr×Pos // x=.Compare b.1 b.2.1 b.2.2.1 b.2.2.2}:=xel (M:=λx=>Option {b:Expr×List CmpOp×List Expr×Pos // x=.Compare b.1 b.2.1 b.2.2.1 b.2.2.2}) x (λø=>none) (cm_:=λl o r p1=>some ⟨(l,o,r,p1),rfl⟩)
@[irreducible] noncomputable def oCm (f:Expr->List CmpOp->List Expr->Bool) (x:PySem.Expr):Bool:=vAny (voCm x) λb=>f b.1 b.2.1 b.2.2.1
theorem oCm_ok {P:PySem.Expr->Prop}{f:Expr->List CmpOp->List Expr->Bool}{x:PySem.Expr} (h:oCm f x=true) (k:∀ l o r p1,f l o r=true->P (.Compare l o r p1)):P x:=by delta oCm at h;exact vOk h λb=>k b.1 b.2.1 b.2.2.1 b.2.2.2
noncomputable def voBl (x:PySem.Expr):Option {b:BoolOp×List Expr×Pos // x=.BoolOp b.1 b.2.1 b.2.2}:=xel (M:=λx=>Option {b:BoolOp×List Expr×Pos // x=.BoolOp b.1 b.2.1 b.2.2}) x (λø=>none) (bl_:=λo l q=>some ⟨(o,l,q),rfl⟩)
@[irreducible] noncomputable def oBl (f:BoolOp->List Expr->Pos->Bool) (x:PySem.Expr):Bool:=vAny (voBl x) λb=>f b.1 b.2.1 b.2.2
theorem oBl_ok {P:PySem.Expr->Prop}{f:BoolOp->List Expr->Pos->Bool}{x:PySem.Expr} (h:oBl f x=true) (k:∀ o l q,f o l q=true->P (.BoolOp o l q)):P x:=by delta oBl at h;exact vOk h λb=>k b.1 b.2.1 b.2.2
noncomputable def voIf (x:PySem.Expr):Option {b:Expr×Expr×Expr×Pos // x=.IfExp b.1 b.2.1 b.2.2.1 b.2.2.2}:=xel (M:=λx=>Option {b:Expr×Expr×Expr×Pos // x=.IfExp b.1 b.2.1 b.2.2.1 b.2.2.2}) x (λø=>none) (if_:=λa b c p1=>some ⟨(a,b,c,p1),rfl⟩)
@[irreducible] noncomputable def oIf (f:Expr->Expr->Expr->Bool) (x:PySem.Expr):Bool:=vAny (voIf x) λb=>f b.1 b.2.1 b.2.2.1
theorem oIf_ok {P:PySem.Expr->Prop}{f:Expr->Expr->Expr->Bool}{x:PySem.Expr} (h:oIf f x=true) (k:∀ a b c p1,f a b c=true->P (.IfExp a b c p1)):P x:=by delta oIf at h;exact vOk h λb=>k b.1 b.2.1 b.2.2.1 b.2.2.2
noncomputable def voAt (x:PySem.Expr):Option {b:Expr×Str×Pos // x=.Attribute b.1 b.2.1 b.2.2}:=xel (M:=λx=>Option {b:Expr×Str×Pos // x=.Attribute b.1 b.2.1 b.2.2}) x (λø=>none) (at_:=λv a q=>some ⟨(v,a,q),rfl⟩)
@[irreducible] noncomputable def oAt (f:Expr->Str->Pos->Bool) (x:PySem.Expr):Bool:=vAny (voAt x) λb=>f b.1 b.2.1 b.2.2
theorem oAt_ok {P:PySem.Expr->Prop}{f:Expr->Str->Pos->Bool}{x:PySem.Expr} (h:oAt f x=true) (k:∀ v a q,f v a q=true->P (.Attribute v a q)):P x:=by delta oAt at h;exact vOk h λb=>k b.1 b.2.1 b.2.2
noncomputable def voSb (x:PySem.Expr):Option {b:Expr×Expr×Pos // x=.Subscript b.1 b.2.1 b.2.2}:=xel (M:=λx=>Option {b:Expr×Expr×Pos // x=.Subscript b.1 b.2.1 b.2.2}) x (λø=>none) (sb_:=λv s p1=>some ⟨(v,s,p1),rfl⟩)
@[irreducible] noncomputable def oSb (f:Expr->Expr->Bool) (x:PySem.Expr):Bool:=vAny (voSb x) λb=>f b.1 b.2.1
theorem oSb_ok {P:PySem.Expr->Prop}{f:Expr->Expr->Bool}{x:PySem.Expr} (h:oSb f x=true) (k:∀ v s p1,f v s=true->P (.Subscript v s p1)):P x:=by delta oSb at h;exact vOk h λb=>k b.1 b.2.1 b.2.2
noncomputable def voSl (x:PySem.Expr):Option {b:Option Expr×Option Expr×Option Expr×Pos // x=.Slice b.1 b.2.1 b.2.2.1 b.2.2.2}:=xel (M:=λx=>Option {b:Option Expr×Option Expr×Option Expr×Pos // x=.Slice b.1 b.2.1 b.2.2.1 b.2.2.2}) x (λø=>none) (sl_:=λa b c p1=>some ⟨(a,b,c,p1),rfl⟩)
@[irreducible] noncomputable def oSl (f:Option Expr->Option Expr->Option Expr->Bool) (x:PySem.Expr):Bool:=vAny (voSl x) λb=>f b.1 b.2.1 b.2.2.1
theorem oSl_ok {P:PySem.Expr->Prop}{f:Option Expr->Option Expr->Option Expr->Bool}{x:PySem.Expr} (h:oSl f x=true) (k:∀ a b c p1,f a b c=true->P (.Slice a b c p1)):P x:=by delta oSl at h;exact vOk h λb=>k b.1 b.2.1 b.2.2.1 b.2.2.2
noncomputable def voCl (x:PySem.Expr):Option {b:Expr×List Expr×List Keyword×Pos // x=.Call b.1 b.2.1 b.2.2.1 b.2.2.2}:=xel (M:=λx=>Option {b:Expr×List Expr×List Keyword×Pos // x=.Call b.1 b.2.1 b.2.2.1 b.2.2.2}) x (λø=>none) (cl_:=λg l k q=>some ⟨(g,l,k,q),rfl⟩)
@[irreducible] noncomputable def oCl (f:Expr->List Expr->List Keyword->Pos->Bool) (x:PySem.Expr):Bool:=vAny (voCl x) λb=>f b.1 b.2.1 b.2.2.1 b.2.2.2
theorem oCl_ok {P:PySem.Expr->Prop}{f:Expr->List Expr->List Keyword->Pos->Bool}{x:PySem.Expr} (h:oCl f x=true) (k:∀ g l k q,f g l k q=true->P (.Call g l k q)):P x:=by delta oCl at h;exact vOk h λb=>k b.1 b.2.1 b.2.2.1 b.2.2.2
noncomputable def voLs (x:PySem.Expr):Option {b:List Expr×Pos // x=.List b.1 b.2}:=xel (M:=λx=>Option {b:List Expr×Pos // x=.List b.1 b.2}) x (λø=>none) (ls_:=λl p1=>some ⟨(l,p1),rfl⟩)
@[irreducible] noncomputable def oLs (f:List Expr->Bool) (x:PySem.Expr):Bool:=vAny (voLs x) λb=>f b.1
theorem oLs_ok {P:PySem.Expr->Prop}{f:List Expr->Bool}{x:PySem.Expr} (h:oLs f x=true) (k:∀ l p1,f l=true->P (.List l p1)):P x:=by delta oLs at h;exact vOk h λb=>k b.1 b.2
noncomputable def voTp (x:PySem.Expr):Option {b:List Expr×Nat×Pos // x=.Tuple b.1 b.2.1 b.2.2}:=xel (M:=λx=>Option {b:List Expr×Nat×Pos // x=.Tuple b.1 b.2.1 b.2.2}) x (λø=>none) (tp_:=λl p1 p2=>some ⟨(l,p1,p2),rfl⟩)
@[irreducible] noncomputable def oTp (f:List Expr->Bool) (x:PySem.Expr):Bool:=vAny (voTp x) λb=>f b.1
theorem oTp_ok {P:PySem.Expr->Prop}{f:List Expr->Bool}{x:PySem.Expr} (h:oTp f x=true) (k:∀ l p1 p2,f l=true->P (.Tuple l p1 p2)):P x:=by delta oTp at h;exact vOk h λb=>k b.1 b.2.1 b.2.2
noncomputable def voDc (x:PySem.Expr):Option {b:List (Option Expr)×List Expr×Pos // x=.Dict b.1 b.2.1 b.2.2}:=xel (M:=λx=>Option {b:List (Option Expr)×List Expr×Pos // x=.Dict b.1 b.2.1 b.2.2}) x (λø=>none) (dc_:=λk l p1=>some ⟨(k,l,p1),rfl⟩)
@[irreducible] noncomputable def oDc (f:List (Option Expr)->List Expr->Bool) (x:PySem.Expr):Bool:=vAny (voDc x) λb=>f b.1 b.2.1
theorem oDc_ok {P:PySem.Expr->Prop}{f:List (Option Expr)->List Expr->Bool}{x:PySem.Expr} (h:oDc f x=true) (k:∀ k l p1,f k l=true->P (.Dict k l p1)):P x:=by delta oDc at h;exact vOk h λb=>k b.1 b.2.1 b.2.2
noncomputable def voLc (x:PySem.Expr):Option {b:Expr×List Comprehension×Scope×Pos // x=.ListComp b.1 b.2.1 b.2.2.1 b.2.2.2}:=xel (M:=λx=>Option {b:Expr×List Comprehension×Scope×Pos // x=.ListComp b.1 b.2.1 b.2.2.1 b.2.2.2}) x (λø=>none) (lc_:=λy g s q=>some ⟨(y,g,s,q),rfl⟩)
@[irreducible] noncomputable def oLc (f:Expr->List Comprehension->Scope->Pos->Bool) (x:PySem.Expr):Bool:=vAny (voLc x) λb=>f b.1 b.2.1 b.2.2.1 b.2.2.2
theorem oLc_ok {P:PySem.Expr->Prop}{f:Expr->List Comprehension->Scope->Pos->Bool}{x:PySem.Expr} (h:oLc f x=true) (k:∀ y g s q,f y g s q=true->P (.ListComp y g s q)):P x:=by delta oLc at h;exact vOk h λb=>k b.1 b.2.1 b.2.2.1 b.2.2.2
noncomputable def isCallName (x:PySem.Expr):Bool:=xel (M:=λø=>Bool) x (λø=>false) (cl_:=λg l k ø=>un l&&un k&&xel (M:=λø=>Bool) g (λø=>false) (nm_:=λø ø=>true))
noncomputable def isSlice (x:PySem.Expr):Bool:=xel (M:=λø=>Bool) x (λø=>false) (sl_:=λø ø ø ø=>true)
noncomputable def isStar (x:PySem.Expr):Bool:=xel (M:=λø=>Bool) x (λø=>false) (sr_:=λø ø=>true)
noncomputable def isComp (x:PySem.Expr):Bool:=xel (M:=λø=>Bool) x (λø=>false) (lc_:=λø ø ø ø=>true) (sc_:=λø ø ø ø=>true) (dk_:=λø ø ø ø ø=>true)
noncomputable def isTuple (x:PySem.Expr):Bool:=xel (M:=λø=>Bool) x (λø=>false) (tp_:=λø ø ø=>true) (ls_:=λø ø=>true)
noncomputable def isSet (x:PySem.Expr):Bool:=xel (M:=λø=>Bool) x (λø=>false) (st_:=λø ø ø=>true)
noncomputable def sel {M:Stmt->Type} (x:Stmt) (d:∀ x,M x) (xp_:∀ a0 a1,M (.Expr a0 a1):=λa0 a1=>d (.Expr a0 a1)) (as_:∀ a0 a1 a2,M (.Assign a0 a1 a2):=λa0 a1 a2=>d (.Assign a0 a1 a2)) (au_:∀ a0 a1 a2 a3,M (.AugAssign a0 a1 a2 a3):=λa0 a1 a2 a3=>d (.AugAssign a0 a1 a2 a3)) (fi_:∀ a0 a1 a2 a3,M (.If a0 a1 a2 a3):=λa0 a1 a2 a3=>d (.If a0 a1 a2 a3)) (fr_:∀ a0 a1 a2 a3 a4,M (.For a0 a1 a2 a3 a4):=λa0 a1 a2 a3 a4=>d (.For a0 a1 a2 a3 a4)) (wh_:∀ a0 a1 a2 a3,M (.While a0 a1 a2 a3):=λa0 a1 a2 a3=>d (.While a0 a1 a2 a3)) (rt_:∀ a0 a1,M (.Return a0 a1):=λa0 a1=>d (.Return a0 a1)) (ra_:∀ a0 a1 a2,M (.Raise a0 a1 a2):=λa0 a1 a2=>d (.Raise a0 a1 a2)) (ty_:∀ a0 a1 a2 a3 a4,M (.Try a0 a1 a2 a3 a4):=λa0 a1 a2 a3 a4=>d (.Try a0 a1 a2 a3 a4)):M x:=by
 cases x with
 | Expr a0 a1=>exact xp_ a0 a1
 | Assign a0 a1 a2=>exact as_ a0 a1 a2
 | AugAssign a0 a1 a2 a3=>exact au_ a0 a1 a2 a3
 | If a0 a1 a2 a3=>exact fi_ a0 a1 a2 a3
 | For a0 a1 a2 a3 a4=>exact fr_ a0 a1 a2 a3 a4
 | While a0 a1 a2 a3=>exact wh_ a0 a1 a2 a3
 | Return a0 a1=>exact rt_ a0 a1
 | Raise a0 a1 a2=>exact ra_ a0 a1 a2
 | Try a0 a1 a2 a3 a4=>exact ty_ a0 a1 a2 a3 a4
 | _=>exact d _
noncomputable def vtXp (x:Stmt):Option {b:Expr×Pos // x=.Expr b.1 b.2}:=sel (M:=λx=>Option {b:Expr×Pos // x=.Expr b.1 b.2}) x (λø=>none) (xp_:=λy p1=>some ⟨(y,p1),rfl⟩)
@[irreducible] noncomputable def tXp (f:Expr->Bool) (x:Stmt):Bool:=vAny (vtXp x) λb=>f b.1
theorem tXp_ok {P:Stmt->Prop}{f:Expr->Bool}{x:Stmt} (h:tXp f x=true) (k:∀ y p1,f y=true->P (.Expr y p1)):P x:=by delta tXp at h;exact vOk h λb=>k b.1 b.2
noncomputable def vtAs (x:Stmt):Option {b:List Expr×Expr×Pos // x=.Assign b.1 b.2.1 b.2.2}:=sel (M:=λx=>Option {b:List Expr×Expr×Pos // x=.Assign b.1 b.2.1 b.2.2}) x (λø=>none) (as_:=λl y p1=>some ⟨(l,y,p1),rfl⟩)
@[irreducible] noncomputable def tAs (f:List Expr->Expr->Bool) (x:Stmt):Bool:=vAny (vtAs x) λb=>f b.1 b.2.1
theorem tAs_ok {P:Stmt->Prop}{f:List Expr->Expr->Bool}{x:Stmt} (h:tAs f x=true) (k:∀ l y p1,f l y=true->P (.Assign l y p1)):P x:=by delta tAs at h;exact vOk h λb=>k b.1 b.2.1 b.2.2
noncomputable def vtAu (x:Stmt):Option {b:Expr×Operator×Expr×Pos // x=.AugAssign b.1 b.2.1 b.2.2.1 b.2.2.2}:=sel (M:=λx=>Option {b:Expr×Operator×Expr×Pos // x=.AugAssign b.1 b.2.1 b.2.2.1 b.2.2.2}) x (λø=>none) (au_:=λa o y p1=>some ⟨(a,o,y,p1),rfl⟩)
@[irreducible] noncomputable def tAu (f:Expr->Operator->Expr->Bool) (x:Stmt):Bool:=vAny (vtAu x) λb=>f b.1 b.2.1 b.2.2.1
theorem tAu_ok {P:Stmt->Prop}{f:Expr->Operator->Expr->Bool}{x:Stmt} (h:tAu f x=true) (k:∀ a o y p1,f a o y=true->P (.AugAssign a o y p1)):P x:=by delta tAu at h;exact vOk h λb=>k b.1 b.2.1 b.2.2.1 b.2.2.2
noncomputable def vtFi (x:Stmt):Option {b:Expr×List Stmt×List Stmt×Pos // x=.If b.1 b.2.1 b.2.2.1 b.2.2.2}:=sel (M:=λx=>Option {b:Expr×List Stmt×List Stmt×Pos // x=.If b.1 b.2.1 b.2.2.1 b.2.2.2}) x (λø=>none) (fi_:=λy a b p1=>some ⟨(y,a,b,p1),rfl⟩)
@[irreducible] noncomputable def tFi (f:Expr->List Stmt->List Stmt->Bool) (x:Stmt):Bool:=vAny (vtFi x) λb=>f b.1 b.2.1 b.2.2.1
theorem tFi_ok {P:Stmt->Prop}{f:Expr->List Stmt->List Stmt->Bool}{x:Stmt} (h:tFi f x=true) (k:∀ y a b p1,f y a b=true->P (.If y a b p1)):P x:=by delta tFi at h;exact vOk h λb=>k b.1 b.2.1 b.2.2.1 b.2.2.2
noncomputable def vtFr (x:Stmt):Option {b:Expr×Expr×List Stmt×List Stmt×Pos // x=.For b.1 b.2.1 b.2.2.1 b.2.2.2.1 b.2.2.2.2}:=sel (M:=λx=>Option {b:Expr×Expr×List Stmt×List Stmt×Pos // x=.For b.1 b.2.1 b.2.2.1 b.2.2.2.1 b.2.2.2.2}) x (λø=>none) (fr_:=λa b l r p1=>some ⟨(a,b,l,r,p1),rfl⟩)
@[irreducible] noncomputable def tFr (f:Expr->Expr->List Stmt->List Stmt->Bool) (x:Stmt):Bool:=vAny (vtFr x) λb=>f b.1 b.2.1 b.2.2.1 b.2.2.2.1
theorem tFr_ok {P:Stmt->Prop}{f:Expr->Expr->List Stmt->List Stmt->Bool}{x:Stmt} (h:tFr f x=true) (k:∀ a b l r p1,f a b l r=true->P (.For a b l r p1)):P x:=by delta tFr at h;exact vOk h λb=>k b.1 b.2.1 b.2.2.1 b.2.2.2.1 b.2.2.2.2
noncomputable def vtWh (x:Stmt):Option {b:Expr×List Stmt×List Stmt×Pos // x=.While b.1 b.2.1 b.2.2.1 b.2.2.2}:=sel (M:=λx=>Option {b:Expr×List Stmt×List Stmt×Pos // x=.While b.1 b.2.1 b.2.2.1 b.2.2.2}) x (λø=>none) (wh_:=λa l r p1=>some ⟨(a,l,r,p1),rfl⟩)
@[irreducible] noncomputable def tWh (f:Expr->List Stmt->List Stmt->Bool) (x:Stmt):Bool:=vAny (vtWh x) λb=>f b.1 b.2.1 b.2.2.1
theorem tWh_ok {P:Stmt->Prop}{f:Expr->List Stmt->List Stmt->Bool}{x:Stmt} (h:tWh f x=true) (k:∀ a l r p1,f a l r=true->P (.While a l r p1)):P x:=by delta tWh at h;exact vOk h λb=>k b.1 b.2.1 b.2.2.1 b.2.2.2
noncomputable def vtRt (x:Stmt):Option {b:Option Expr×Pos // x=.Return b.1 b.2}:=sel (M:=λx=>Option {b:Option Expr×Pos // x=.Return b.1 b.2}) x (λø=>none) (rt_:=λv p1=>some ⟨(v,p1),rfl⟩)
@[irreducible] noncomputable def tRt (f:Option Expr->Bool) (x:Stmt):Bool:=vAny (vtRt x) λb=>f b.1
theorem tRt_ok {P:Stmt->Prop}{f:Option Expr->Bool}{x:Stmt} (h:tRt f x=true) (k:∀ v p1,f v=true->P (.Return v p1)):P x:=by delta tRt at h;exact vOk h λb=>k b.1 b.2
noncomputable def vtRa (x:Stmt):Option {b:Option Expr×Option Expr×Pos // x=.Raise b.1 b.2.1 b.2.2}:=sel (M:=λx=>Option {b:Option Expr×Option Expr×Pos // x=.Raise b.1 b.2.1 b.2.2}) x (λø=>none) (ra_:=λa b p1=>some ⟨(a,b,p1),rfl⟩)
@[irreducible] noncomputable def tRa (f:Option Expr->Option Expr->Bool) (x:Stmt):Bool:=vAny (vtRa x) λb=>f b.1 b.2.1
theorem tRa_ok {P:Stmt->Prop}{f:Option Expr->Option Expr->Bool}{x:Stmt} (h:tRa f x=true) (k:∀ a b p1,f a b=true->P (.Raise a b p1)):P x:=by delta tRa at h;exact vOk h λb=>k b.1 b.2.1 b.2.2
noncomputable def vtTy (x:Stmt):Option {b:List Stmt×List ExceptHandler×List Stmt×List Stmt×Pos // x=.Try b.1 b.2.1 b.2.2.1 b.2.2.2.1 b.2.2.2.2}:=sel (M:=λx=>Option {b:List Stmt×List ExceptHandler×List Stmt×List Stmt×Pos // x=.Try b.1 b.2.1 b.2.2.1 b.2.2.2.1 b.2.2.2.2}) x (λø=>none) (ty_:=λa b l r p1=>some ⟨(a,b,l,r,p1),rfl⟩)
@[irreducible] noncomputable def tTy (f:List Stmt->List ExceptHandler->List Stmt->List Stmt->Bool) (x:Stmt):Bool:=vAny (vtTy x) λb=>f b.1 b.2.1 b.2.2.1 b.2.2.2.1
theorem tTy_ok {P:Stmt->Prop}{f:List Stmt->List ExceptHandler->List Stmt->List Stmt->Bool}{x:Stmt} (h:tTy f x=true) (k:∀ a b l r p1,f a b l r=true->P (.Try a b l r p1)):P x:=by delta tTy at h;exact vOk h λb=>k b.1 b.2.1 b.2.2.1 b.2.2.2.1 b.2.2.2.2
theorem oTp_eq {f l k q}:oTp f (.Tuple l k q)=f l:=by delta oTp;rfl
theorem oLc_eq {f y g s q}:oLc f (.ListComp y g s q)=f y g s q:=by delta oLc;rfl
noncomputable def cInt (i:Int):Const->Bool
 | .int j=>i == j
 | _=>false
noncomputable def cBool (b:Bool):Const->Bool
 | .bool c=>b == c
 | _=>false
noncomputable def cNone:Const->Bool
 | .none=>true
 | _=>false
noncomputable def cStr (s:Str):Const->Bool
 | .str t=>s == t
 | _=>false
theorem cInt_ok {i:Int}{c:Const} (h:cInt i c=true):c=.int i:=by
 cases c <;> first | exact congrArg Const.int (eq_of_beq h).symm | exact (Bool.false_ne_true h).elim
theorem cBool_ok {i:Bool}{c:Const} (h:cBool i c=true):c=.bool i:=by
 cases c <;> first | exact congrArg Const.bool (eq_of_beq h).symm | exact (Bool.false_ne_true h).elim
theorem cStr_ok {i:Str}{c:Const} (h:cStr i c=true):c=.str i:=by
 cases c <;> first | exact congrArg Const.str (eq_of_beq h).symm | exact (Bool.false_ne_true h).elim
theorem cNone_ok {c:Const} (h:cNone c=true):c=.none:=by
 cases c <;> first | rfl | exact (Bool.false_ne_true h).elim
noncomputable def isText:Const->Bool
 | .str _=>true
 | _=>false
theorem isText_ok {c:Const} (h:isText c=true):∃ s,c=.str s:=by
 cases c <;> first | exact ⟨_,rfl⟩ | exact (Bool.false_ne_true h).elim
noncomputable def DK.is:DK->Const->Bool
 | .int i=>cInt i
 | .str s=>cStr (Str.ofString s)
noncomputable def DK.con:DK->Const
 | .int i=>.int i
 | .str s=>.str (Str.ofString s)
theorem DK.is_ok {d:DK}{c:Const} (h:d.is c=true):c=d.con:=by
 cases d with
 | int i=>exact cInt_ok h
 | str s=>exact cStr_ok h
noncomputable def dkOk:List DK->List (Option Expr)->Bool
 | [],l=>un l
 | d::r,l=>uc (λk q=>oSm (oCn d.is) k&&dkOk r q) l
noncomputable def chkVars (c:Ck):List Nat->List Expr->Bool
 | [],l=>un l
 | i::r,l=>uc (λx q=>oNm (λy ø=>chkVar c i y) x&&chkVars c r q) l
noncomputable def chkT (c:Ck):Tgt->Expr->Bool
 | .one i,x=>oNm (λy ø=>chkVar c i y) x
 | .many is,x=>oTp (chkVars c is) x
noncomputable def handlerOk (N:Nm) (c:Ck) (j fd:Nat):ExceptHandler->Bool
 | .ExceptHandler ty nm bd _=>oNo nm&&oSm (oNm λy ø=>c.own&&c.glob y&&y == N.xn) ty&&u2 (λs t=>
   tAu (λtg op v=>op == .Add&&oAt (λb a ø=>a == N.fn fd&&oNm (λx ø=>c.vt[j]? == some x&&!(x == ("__debug__":Str))) b) tg&&oCn (cInt 1) v) s &&
   tRt (oSm (oTp (u2 λa b=>oLs un a&&oLs un b))) t) bd
noncomputable def isInt (i:Int):Option (Option Value)->Bool
 | some (some (.int j _))=>i == j
 | _=>false
theorem isInt_ok {i:Int}{o:Option (Option Value)} (h:isInt i o=true):∃ t,o=some (some (.int i t)):=by
 match o,h with
 | some (some v),h=>cases v <;> first | exact ⟨_,by rw [eq_of_beq h]⟩ | exact (Bool.false_ne_true h).elim
 | some none,h=>exact (Bool.false_ne_true h).elim
 | none,h=>exact (Bool.false_ne_true h).elim
noncomputable def tailB (o:BoolOp) (y:Expr) (q:Pos):List Expr->Expr
 | []=>y
 | r=>.BoolOp o (y::r) q
noncomputable def oPt (z:Bool) (f:Expr->Bool):Option Expr->Bool
 | none=>z
 | some x=>f x
noncomputable def E.isNil:E->Bool
 | .nil=>true
 | _=>false
noncomputable def E.isTru:E->Bool
 | .tru=>true
 | _=>false
noncomputable def E.isC:E->Bool
 | .comp ..=>true
 | _=>false
theorem E.isNil_ok {e:E} (h:e.isNil=true):e=.nil:=by cases e <;> first | rfl | exact (Bool.false_ne_true h).elim
theorem E.isTru_ok {e:E} (h:e.isTru=true):e=.tru:=by cases e <;> first | rfl | exact (Bool.false_ne_true h).elim
theorem E.isC_ok {P:E->Prop}{e:E} (h:e.isC=true) (k:∀ a b c d f g,P (.comp a b c d f g)):P e:=by cases e <;> first | exact k _ _ _ _ _ _ | exact (Bool.false_ne_true h).elim
noncomputable def oIfs (z:Bool) (f:Expr->Bool):List Expr->Bool
 | []=>z
 | [x]=>f x
 | _=>false
noncomputable def cmpA (c:Ck) (fvs:List Nat) (nl:Nat) (as:Int) (sc:Scope) (it:Expr):Bool:=
 as == 0&&sc.kind == .function&&nodupB (compCk c fvs sc.names).vt&&(compNames sc.names).length == nl&&fvs.all (λi=>(c.vt[i]?).any λn=>sc.names.lookup n == some .free)&&compOk c.sc sc.names&&!isSet it
section
variable (K:Frag) (N:Nm) (n:Nat)
noncomputable def glF (c:Ck) (a:Addr) (g:Str):Bool:=c.glob g&&nsIn K mainGlobals g == some (some (.ref a))
noncomputable def glB (c:Ck) (v:Value) (g:Str):Bool:=c.glob g&&bootVal K g v
mutual
noncomputable def chkE:Ck->E->Expr->Bool
 | c,.var i,x=>oNm (λy ø=>c.vt[i]? == some y&&!(y == ("__debug__":Str))) x
 | c,.gint s i,x=>oNm (λy ø=>Str.ofString s == y&&c.glob y&&isInt i (nsIn K mainGlobals y)) x
 | _,.int i,x=>oCn (cInt i) x
 | _,.nil,x=>oCn cNone x
 | _,.tru,x=>oCn (cBool true) x
 | _,.fls,x=>oCn (cBool false) x
 | _,.str s,x=>oCn (cStr (Str.ofString s)) x
 | c,.bin o a b,x=>oBn (λl op r=>opOk o op&&chkE c a l&&chkE c b r) x
 | c,.neg a,x=>oUn (λo y=>o == .USub&&chkE c a y) x
 | c,.notv a,x=>oUn (λo y=>o == .Not&&chkE c a y) x
 | c,.cmp o a b,x=>oCm (λl os rs=>u1 (λp=>u1 (λr=>copOk o p&&!behindInMarks p r&&chkE c a l&&chkE c b r) rs) os) x
 | c,.andv a b,x=>oBl (λo vs q=>o == .And&&uc (λy r=>uc (λz r=>chkE c a y&&chkE c b (tailB .And z q r)) r) vs) x
 | c,.orv a b,x=>oBl (λo vs q=>o == .Or&&uc (λy r=>uc (λz r=>chkE c a y&&chkE c b (tailB .Or z q r)) r) vs) x
 | c,.ite t a b,x=>oIf (λu v w=>chkE c t u&&chkE c a v&&chkE c b w) x
 | c,.attr a f,x=>oAt (λv m ø=>m == N.fn f&&!isCallName v&&chkE c a v) x
 | c,.idx a i,x=>oSb (λv s=>!isSlice s&&chkE c a v&&chkE c i s) x
 | c,.slc a l h,x=>oSb (λv s=>oSl (λlo up st=>oNo st&&chkE c a v&&oPt l.isNil (chkE c l) lo&&oPt h.isNil (chkE c h) up) s) x
 | c,.rev a,x=>oSb (λv s=>oSl (λlo up st=>oNo lo&&oNo up&&oSm (oUn λo y=>o == .USub&&oCn (cInt 1) y) st&&chkE c a v) s) x
 | c,.call f as,x=>oCl (λfx xs ks ø=>oNm (λg ø=>decide (f<n)&&glF K c (N.fa f) g&&keepIn K (.ref (N.fa f))&&un ks&&chkEL c as xs) fx) x
 | c,.new k as,x=>oCl (λfx xs ks ø=>oNm (λg ø=>decide (N.TB.ini k<n)&&glF K c (N.ca k) g&&clsOk K (N.ca k) (N.fa (N.TB.ini k))&&un ks&&chkEL c as xs) fx) x
 | c,.newk k as w v,x=>oCl (λfx xs ks ø=>oNm (λg ø=>decide (N.TB.ini k<n)&&glF K c (N.ca k) g&&clsOk K (N.ca k) (N.fa (N.TB.ini k))&&!as.isNil&&chkEL c as xs&&u1 (λkw=>oSm (λs=>N.TB.kw (N.TB.ini k) s) kw.arg&&chkE c v kw.value) ks) fx) x
 | c,.meth a m as,x=>oCl (λfx xs ks q=>oAt (λo m' p=>decide (N.TB.mr m<=n)&&p.endLine == q.line&&m' == N.fn m&&!isCallName o&&decide (xs.length<29)&&chkE c a o&&un ks&&chkEL c as xs) fx) x
 | c,.bi b a,x=>oCl (λfx xs ks ø=>oNm (λg ø=>g == b.name&&glB K c b.val g&&un ks&&u1 (λy=>!isStar y&&chkE c a y) xs) fx) x
 | c,.max2 a b,x=>oCl (λfx xs ks ø=>oNm (λg ø=>g == ("max":Str)&&glB K c (.builtin "max") g&&un ks&&u2 (λy z=>!isStar y&&!isStar z&&chkE c a y&&chkE c b z) xs) fx) x
 | c,.m1 m a b,x=>oCl (λfx xs ks q=>oAt (λo m' p=>p.endLine == q.line&&m' == m.nm&&!isCallName o&&chkE c a o&&un ks&&u1 (λy=>!isStar y&&chkE c b y) xs) fx) x
 | c,.m2 m a b d,x=>oCl (λfx xs ks q=>oAt (λo m' p=>p.endLine == q.line&&m' == m.nm&&!isCallName o&&chkE c a o&&un ks&&u2 (λy z=>!isStar y&&!isStar z&&chkE c b y&&chkE c d z) xs) fx) x
 | c,.list es,x=>oLs (chkEL c es) x
 | c,.pget d a b z,x=>oCl (λfx xs ks q=>oAt (λo m' p=>p.endLine == q.line&&m' == ("get":Str)&&!isCallName o&&chkE c d o&&un ks&&u2 (λt w=>!isStar w&&chkE c z w&&oTp (u2 λy u=>!isStar y&&!isStar u&&chkE c a y&&chkE c b u) t) xs) fx) x
 | c,.tup es,x=>oTp (chkEL c es) x
 | c,.dict ks vs,x=>oDc (λkx xs=>kx.length == xs.length&&decide (kx.length<=15)&&dkOk ks kx&&dkKinds ks&&dkApart ks&&chkEL c vs xs) x
 | c,.comp fvs nl t s cnd e,x=>oLc (λy gs sc ø=>u1 (λg=>cmpA c fvs nl g.is_async sc g.iter&&chkT (compCk c fvs sc.names) t g.target&&chkSrc c s g.iter&&chkE (compCk c fvs sc.names) e y&&oIfs cnd.isTru (chkE (compCk c fvs sc.names) cnd) g.ifs) gs) x
noncomputable def chkEL:Ck->EL->List Expr->Bool
 | _,.nil,l=>un l
 | c,.cons e r,l=>uc (λx xs=>!isStar x&&chkE c e x&&chkEL c r xs) l
noncomputable def chkSrc:Ck->Src->Expr->Bool
 | c,.obj e,x=>chkE c e x
 | c,.rng1 e,x=>oCl (λfx xs ks ø=>oNm (λg ø=>g == ("range":Str)&&glB K c (.type "range") g&&un ks&&u1 (λy=>!isStar y&&chkE c e y) xs) fx) x
 | c,.rng2 a b,x=>oCl (λfx xs ks ø=>oNm (λg ø=>g == ("range":Str)&&glB K c (.type "range") g&&un ks&&u2 (λy z=>!isStar y&&!isStar z&&chkE c a y&&chkE c b z) xs) fx) x
end
noncomputable def asgC (c:Ck) (y:Str) (q:Pos):Expr->Bool:=oLc λø ø sc p=>c.sc.lookup y == some .local&&q.line == p.line&&!(sc.names.any λ(n,k)=>n == y&&(k == .local || k == .cell))
mutual
noncomputable def chkS:Ck->S->Stmt->Bool
 | c,.expr e,x=>tXp (λy=>!isComp y&&chkE K N n c e y) x
 | c,.asg i e,x=>tAs (λts v=>u1 (oNm λy q=>chkVar c i y&&chkE K N n c e v&&(!isComp v || (e.isC&&asgC c y q v))) ts) x
 | c,.asgT is e,x=>tAs (λts v=>u1 (oTp λxs=>!isComp v&&!isTuple v&&chkVars c is xs&&chkE K N n c e v) ts) x
 | c,.setA a f e,x=>tAs (λts v=>u1 (oAt λo m ø=>!isComp v&&m == N.fn f&&chkE K N n c a o&&chkE K N n c e v) ts) x
 | c,.setI a i e,x=>tAs (λts v=>u1 (oSb λo s=>!isComp v&&!isSlice s&&chkE K N n c a o&&chkE K N n c i s&&chkE K N n c e v) ts) x
 | c,.augV i o e,x=>tAu (λt op v=>oNm (λy ø=>incOp o&&chkVar c i y&&!(y == ("__debug__":Str))&&opOk o op&&chkE K N n c e v) t) x
 | c,.augA a f o e,x=>tAu (λt op v=>oAt (λb m ø=>incOp o&&m == N.fn f&&opOk o op&&chkE K N n c a b&&chkE K N n c e v) t) x
 | c,.augI a i o e,x=>tAu (λt op v=>oSb (λb s=>incOp o&&!isSlice s&&opOk o op&&chkE K N n c a b&&chkE K N n c i s&&chkE K N n c e v) t) x
 | c,.ite t a b,x=>tFi (λy ys zs=>chkE K N n c t y&&chkSL c a ys&&chkSL c b zs) x
 | c,.loop t s b,x=>tFr (λtg it ys zs=>chkT c t tg&&!isSet it&&chkSrc K N n c s it&&chkSL c b ys&&un zs) x
 | c,.while t b,x=>tWh (λy ys zs=>chkE K N n c t y&&chkSL c b ys&&un zs) x
 | c,.ret e,x=>tRt (oSm (chkE K N n c e)) x
 | c,.tryw i f as b j fd,x=>tTy (λbd hs os fs=>un os&&un fs&&u1 (handlerOk N c j fd) hs&&uc (λz ys=>tAs (λts v=>u1 (oNm λy ø=>chkVar c i y&&oCl (λfx xs ks ø=>oNm (λg ø=>decide (f<n)&&glF K c (N.fa f) g&&keepIn K (.ref (N.fa f))&&un ks&&chkEL K N n c as xs) fx) v) ts) z&&chkSL c b ys) bd) x
 | c,.raise,x=>tRa (λe f=>oNo f&&oSm (oCl λfx xs ks ø=>oNm (λy ø=>glF K c N.xc y&&un ks&&u1 (oCn isText) xs) fx) e) x
 | _,.retn,x=>tRt oNo x
 | c,.pset d a b e,x=>tAs (λts v=>u1 (oSb λo s=>oTp (u2 λy z=>!isComp v&&!isStar y&&!isStar z&&chkE K N n c d o&&chkE K N n c a y&&chkE K N n c b z&&chkE K N n c e v) s) ts) x
 | _,.fail,_=>true
noncomputable def chkSL:Ck->SL->List Stmt->Bool
 | _,.nil,l=>un l
 | c,.cons s r,l=>uc (λx xs=>chkS c s x&&chkSL c r xs) l
end
end
end
section
structure Cx (W:Wd) where
 env:Env
 L:Addr
 fl:List Env
 vt:List Str
 own:Bool
 fn:env.scope.kind=.function
 gl:env.globals=mainGlobals
 bu:env.builtins=builtinsNs
 nd:∀ (i j:Nat) (x:Str),vt[i]?=some x->vt[j]?=some x->i=j
 cb:∀ x,env.kindOf x=some .cell->∃ a,env.cells.lookup x=some a
 ci:∀ x y a,env.cells.lookup x=some a->env.cells.lookup y=some a->x=y
 top:own=true->(∃ o,fl=env::o)/\env.frame=some L
variable {W:Wd}
noncomputable def Cx.of (C:Cx W) (ck:Ck):Prop:=C.vt=ck.vt/\C.env.scope.names=ck.sc/\C.own=ck.own
theorem Cx.kind {C:Cx W}{ck:Ck} (h:C.of ck) (x:Str):C.env.kindOf x=ck.sc.lookup x:=by unfold Env.kindOf;rw [h.2.1]
noncomputable def ObjNs (o:Obj) (m:Str->Option Value):Prop:=∃ es ep,o.data=.dict es ep/\StrKeys es/\∀ name,nsFind es name=m name
inductive Rd (C:Cx W) (m:Str->Option Value) (X:Addr->Option Obj) (x:Str) (v:Value):Prop
 | loc (hk:C.env.kindOf x=some .local) (hl:C.env.locals=C.L) (h:m x=some v)
 | com (o:Obj) (mc:Str->Option Value) (hk:C.env.kindOf x=some .local) (h1:X C.env.locals=some o) (h2:ObjNs o mc) (h:mc x=some v)
 | cel (a:Addr) (o:Obj) (hk:C.env.kindOf x=some .cell) (h1:C.env.cells.lookup x=some a) (h2:X a=some o) (h:o.data=.cell (some v))
noncomputable def FX (fl:List Env) (L:Addr) (X:Addr->Option Obj):Prop:=
 ∀ e∈fl,e.scope.kind≠.module/\∃ Le,e.frame=some Le/\(Le=L\/∃ o es ep,X Le=some o/\o.data=.dict es ep/\o.cls=.type "frame")
structure VOk (C:Cx W) (m:Str->Option Value) (X:Addr->Option Obj) (lo:Lo):Prop where
 vars:∀ (i:Nat) (v:V),lo[i]?=some (some v)->∃ x u,C.vt[i]?=some x/\av u=some v/\Rd C m X x u
 fx:FX C.fl C.L X
 cells:∀ x a,C.env.cells.lookup x=some a->∃ o v,X a=some o/\o.data=.cell v
 dict:C.env.locals=C.L\/∃ o mc,X C.env.locals=some o/\ObjNs o mc/\∀ e∈C.fl,e.frame≠some C.env.locals
structure ACond (A:Around) (fl:List Env) (n:Nat):Prop where
 h:A.handled=none
 d:A.depth+3 * n<=900
 u:A.units+8 * n<=9000
 f:A.frames=some fl
structure ACall (A:Around) (fl:List Env) (g:Nat):Prop where
 h:A.handled=none
 d:A.depth+3 * g+2<=900
 u:A.units+8 * g+7<=9000
 f:A.frames=some fl
theorem ACond.call {A:Around}{fl:List Env}{n g:Nat} (a:ACond A fl n) (h:g<n):ACall A fl g:=⟨a.h,by have:=a.d;lia,by have:=a.u;lia,a.f⟩
theorem ACond.room {A:Around}{fl:List Env}{n:Nat} (a:ACond A fl n):A.units+64<cLine:=by have:=a.u;show A.units+64<9900;lia
noncomputable def CallOK (W:Wd) (Φ:Phi) (g:Nat):Prop:=∀ (A:Around) (fl:List Env) (L:Addr) (m:Str->Option Value) (X:Addr->Option Obj) (σ:St) (s:Shared) (R:Result->Shared->Prop) (k:KV) (us:List Value) (vs:List V),
 ACall A fl g->FX fl L X->HS W L m X σ s.heap->Vs us vs->Φ g vs σ k ->
 (∀ u v h' t' σ',av u=some v->HS W L m X σ' h'->k v σ'->R (.ok (.ret u)) { s with heap:=h',toks:=t' }) ->
 codeAny (Mo W) A (.call (.ref (W.N.fa g)) ⟨us,[]⟩) R s
noncomputable def CallKW (W:Wd) (Φ:Phi) (g:Nat) (w:Str):Prop:=∀ (A:Around) (fl:List Env) (L:Addr) (m:Str->Option Value) (X:Addr->Option Obj) (σ:St) (s:Shared) (R:Result->Shared->Prop) (k:KV) (us:List Value) (vs:List V) (u₀:Value) (v₀:V),
 ACall A fl g->FX fl L X->HS W L m X σ s.heap->Vs us vs->av u₀=some v₀->Φ g (vs++[v₀]) σ k ->
 (∀ u v h' t' σ',av u=some v->HS W L m X σ' h'->k v σ'->R (.ok (.ret u)) { s with heap:=h',toks:=t' }) ->
 codeAny (Mo W) A (.call (.ref (W.N.fa g)) ⟨us,[(w,u₀)]⟩) R s
section
variable (Φ:Phi)
noncomputable def SE (n:Nat) (ck:Ck) (e:E) (x:Expr):Prop:=∀ (C:Cx W),C.of ck->∀ (A:Around) (m:Str->Option Value) (X:Addr->Option Obj) (lo:Lo) (σ:St) (s:Shared) (Q:Value->Shared->Prop) (Er:Value->Shared->Prop) (k:KV),
 ACond A C.fl n->VOk C m X lo->HS W C.L m X σ s.heap->wpE W.N.TB Φ e lo σ k->BK W C.L m X s k Q->wpAny (Mo W) A (eval x C.env) Q Er s
noncomputable def SC (n:Nat) (ck:Ck) (e:E) (x:Expr):Prop:=∀ (C:Cx W),C.of ck->∀ (A:Around) (m:Str->Option Value) (X:Addr->Option Obj) (lo:Lo) (σ:St) (s:Shared) (Q:Bool->Shared->Prop) (Er:Value->Shared->Prop) (k:Bool->St->Prop),
 ACond A C.fl n->VOk C m X lo->HS W C.L m X σ s.heap->wpC W.N.TB Φ e lo σ (wpE W.N.TB Φ e lo σ) k->(∀ b h' t' σ',HS W C.L m X σ' h'->k b σ'->Q b { s with heap:=h',toks:=t' })->wpAny (Mo W) A (isTrue x C.env (eval x C.env)) Q Er s
noncomputable def SEL (n:Nat) (ck:Ck) (es:EL) (xs:List Expr):Prop:=∀ (C:Cx W),C.of ck->∀ (A:Around) (m:Str->Option Value) (X:Addr->Option Obj) (lo:Lo) (σ:St) (s:Shared) (Q:List Value->Shared->Prop) (Er:Value->Shared->Prop) (k:List V->St->Prop) (pos:Pos),
 ACond A C.fl n->VOk C m X lo->HS W C.L m X σ s.heap->wpEL W.N.TB Φ es lo σ k->(∀ us vs h' t' σ',Vs us vs->HS W C.L m X σ' h'->k vs σ'->Q us { s with heap:=h',toks:=t' })->wpAny (Mo W) A (spliced (backTo pos (starEach xs C.env))) Q Er s
end
section
variable {Φ:Phi}{n:Nat}{ck:Ck}
theorem HS.ns (_C:Cx W) {m:Str->Option Value}{X:Addr->Option Obj}{σ:St}{h:Heap}{L:Addr} (H:HS W L m X σ h) {a:Addr}{o:Obj}{mc:Str->Option Value} (h1:X a=some o) (h2:ObjNs o mc):h.Ns a mc:=
 by obtain ⟨es,ep,x,y,z⟩:=h2;exact by obtain ⟨o',g,sl⟩:=H.at' h1;exact ⟨o',es,ep,g,by rw [sl.data];exact x,y,z⟩
theorem loadRd {C:Cx W}{A:Around}{m:Str->Option Value}{X:Addr->Option Obj}{σ:St}{s:Shared}{Q:Value->Shared->Prop}{Er:Value->Shared->Prop}{x:Str}{u:Value} (H:HS W C.L m X σ s.heap) (r:Rd C m X x u) (q:Q u s) :
 wpAny (Mo W) A (loadName C.env x) Q Er s:=by
 cases r with
 | loc hk hl h=>exact wpAny_loadName_local C.fn hk (by rw [hl];exact H.fr.ns) h q
 | com o mc hk h1 h2 h=>exact wpAny_loadName_local C.fn hk (H.ns C h1 h2) h q
 | cel a o hk h1 h2 h=>obtain ⟨o',g,sl⟩:=H.at' h2;exact wpAny_loadName_cell C.fn hk h1 ⟨o',g,by rw [sl.data];exact h⟩ q
theorem s_var {i:Nat}{y:Str}{q:Pos} (h:(ck.vt[i]? == some y&&!(y == ("__debug__":Str)))=true):SE (W:=W) Φ n ck (.var i) (.Name y q):=by
 intro C hC A m X lo σ s Q Er k hA hV H hw K
 refine gS_ok hw λo hv hw=>gS_ok hw λv ho hw=>?_
 obtain ⟨x,u,e1,e2,r⟩:=hV.vars i v (hv.trans (congrArg some ho))
 have:x=y:=Option.some.inj (e1.symm.trans ((congrArg (·[i]?) hC.1).trans (eq_of_beq (aL h))))
 subst this
 exact wpAny_Name (loadRd H r (K u v s.heap s.toks σ e2 H hw)) (nL (aR h))
theorem glob_of {C:Cx W}{A:Around}{m:Str->Option Value}{X:Addr->Option Obj}{σ:St}{s:Shared}{Q:Value->Shared->Prop}{Er:Value->Shared->Prop}{y:Str}{q:Pos}{u:Value} (hC:C.of ck) (H:HS W C.L m X σ s.heap)
 (hg:ck.glob y=true) (hn:nsIn W.K mainGlobals y=some (some u)) (hQ:Q u s):wpAny (Mo W) A (eval (.Name y q) C.env) Q Er s:=by
 unfold Ck.glob at hg
 simp only [Bool.and_eq_true,beq_iff_eq,Bool.not_eq_true'] at hg
 refine Name_function_global C.fn (by rw [C.kind hC];exact hg.1.1) (loadGlobal_global (env:=C.env) (mg:=W.mg) ?_ (mg_of W.X W.T.g hn) hQ) hg.1.2
 rw [C.gl];exact W.T.g.keeps H.fr.keep
theorem boot_of {C:Cx W}{A:Around}{m:Str->Option Value}{X:Addr->Option Obj}{σ:St}{s:Shared}{Q:Value->Shared->Prop}{Er:Value->Shared->Prop}{y:Str}{q:Pos}{u:Value} (hC:C.of ck) (H:HS W C.L m X σ s.heap)
 (hg:ck.glob y=true) (hn:bootVal W.K y u=true) (hQ:Q u s):wpAny (Mo W) A (eval (.Name y q) C.env) Q Er s:=by
 unfold Ck.glob at hg
 unfold bootVal at hn
 simp only [Bool.and_eq_true,beq_iff_eq,Bool.not_eq_true'] at hg hn
 have hne:y≠"__name__":=by
  have:=hg.2
  intro e
  rw [e] at this
  exact absurd this (by decide)
 refine Name_function_global C.fn (by rw [C.kind hC];exact hg.1.1) (loadGlobal_builtin (env:=C.env) (mg:=W.mg) (mb:=W.mb) ?_ (mg_none_of W.X W.T.g hn.1) ?_ ((W.T.builtins y hne).trans hn.2) hQ) hg.1.2
 ·rw [C.gl];exact W.T.g.keeps H.fr.keep
 ·rw [C.bu];exact W.T.b.keeps H.fr.keep
theorem s_gint {x:String}{i:Int}{y:Str}{q:Pos} (h:(Str.ofString x == y&&ck.glob y&&isInt i (nsIn W.K mainGlobals y))=true):SE (W:=W) Φ n ck (.gint x i) (.Name y q):=by
 intro C hC A m X lo σ s Q Er k hA hV H hw K
 obtain ⟨t,hn⟩:=isInt_ok (aR h)
 exact glob_of hC H (aR (aL h)) hn (K _ _ s.heap s.toks σ rfl H hw)
theorem s_int {i:Int}{kk:Nat}{q:Pos}:SE (W:=W) Φ n ck (.int i) (.Constant (.int i) kk q):=by
 intro C hC A m X lo σ s Q Er k hA hV H hw K
 exact wpAny_Constant_int (K _ _ s.heap _ σ rfl H hw)
theorem s_nil {kk:Nat}{q:Pos}:SE (W:=W) Φ n ck .nil (.Constant .none kk q):=by
 intro C hC A m X lo σ s Q Er k hA hV H hw K
 exact wpAny_pure (a:=Value.none) (K _ _ s.heap s.toks σ rfl H hw)
theorem s_tru {kk:Nat}{q:Pos}:SE (W:=W) Φ n ck .tru (.Constant (.bool true) kk q):=by
 intro C hC A m X lo σ s Q Er k hA hV H hw K
 exact wpAny_pure (a:=Value.bool true) (K _ _ s.heap s.toks σ rfl H hw)
theorem s_fls {kk:Nat}{q:Pos}:SE (W:=W) Φ n ck .fls (.Constant (.bool false) kk q):=by
 intro C hC A m X lo σ s Q Er k hA hV H hw K
 exact wpAny_pure (a:=Value.bool false) (K _ _ s.heap s.toks σ rfl H hw)
theorem s_str {x:String}{kk:Nat}{q:Pos}:SE (W:=W) Φ n ck (.str x) (.Constant (.str (Str.ofString x)) kk q):=by
 intro C hC A m X lo σ s Q Er k hA hV H hw K
 exact wpAny_mkText (K _ _ s.heap _ σ rfl H hw)
theorem s_bin {o:Bop}{a b:E}{l r:Expr}{q:Pos} (ha:SE (W:=W) Φ n ck a l) (hb:SE (W:=W) Φ n ck b r):SE (W:=W) Φ n ck (.bin o a b) (.BinOp l o.op r q):=by
 intro C hC A m X lo σ s Q Er k hA hV H hw K
 refine wpAny_BinOp (ha C hC A m X lo σ s _ Er _ hA hV H hw λu v h1 t1 σ1 e1 H1 w1=>?_)
 refine hb C hC A m X lo σ1 _ _ Er _ hA hV H1 w1 λu' v' h2 t2 σ2 e2 H2 w2=>?_
 exact op_bin e1 e2 H2 w2 λu3 v3 h3 t3 σ3 e3 H3 w3=>K u3 v3 h3 t3 σ3 e3 H3 w3
theorem s_neg {a:E}{x:Expr}{q:Pos} (ha:SE (W:=W) Φ n ck a x):SE (W:=W) Φ n ck (.neg a) (.UnaryOp .USub x q):=by
 intro C hC A m X lo σ s Q Er k hA hV H hw K
 refine UnaryOp_ (ha C hC A m X lo σ s _ Er _ hA hV H hw λu v h1 t1 σ1 e1 H1 w1=>?_)
 exact eI (P:=λu=>wpAny (Mo W) A (unaryOp .USub u) Q Er { s with heap:=h1,toks:=t1 }) e1 w1 λi t w1=>PyProof.Rows.neg_int (K _ _ h1 _ σ1 rfl H1 w1)
theorem s_notv {a:E}{x:Expr}{q:Pos} (ha:SE (W:=W) Φ n ck a x):SE (W:=W) Φ n ck (.notv a) (.UnaryOp .Not x q):=by
 intro C hC A m X lo σ s Q Er k hA hV H hw K
 refine UnaryOp_ (ha C hC A m X lo σ s _ Er _ hA hV H hw λu v h1 t1 σ1 e1 H1 w1=>?_)
 exact gS_ok w1 λb hb w1=>not_of (op_truth e1 hb (K _ _ h1 t1 σ1 rfl H1 w1))
theorem s_cmp {o:Cop}{a b:E}{l r:Expr}{q:Pos} (hm:behindInMarks o.op r=false) (ha:SE (W:=W) Φ n ck a l) (hb:SE (W:=W) Φ n ck b r):SE (W:=W) Φ n ck (.cmp o a b) (.Compare l [o.op] [r] q):=by
 intro C hC A m X lo σ s Q Er k hA hV H hw K
 refine wpAny_Compare1 (ha C hC A m X lo σ s _ Er _ hA hV H hw λu v h1 t1 σ1 e1 H1 w1=>?_) hm
 refine hb C hC A m X lo σ1 _ _ Er _ hA hV H1 w1 λu' v' h2 t2 σ2 e2 H2 w2=>?_
 exact op_cmp e1 e2 H2 (by have:=hA.room;lia) w2 λr hr=>K (.bool r) (.bool r) h2 t2 σ2 rfl H2 hr
theorem c_cmp {o:Cop}{a b:E}{l r:Expr}{q:Pos} (hm:behindInMarks o.op r=false) (ha:SE (W:=W) Φ n ck a l) (hb:SE (W:=W) Φ n ck b r):SC (W:=W) Φ n ck (.cmp o a b) (.Compare l [o.op] [r] q):=by
 intro C hC A m X lo σ s Q Er k hA hV H hw K
 refine wpAny_isTrue_Compare1 (ha C hC A m X lo σ s _ Er _ hA hV H hw λu v h1 t1 σ1 e1 H1 w1=>?_) hm
 refine hb C hC A m X lo σ1 _ _ Er _ hA hV H1 w1 λu' v' h2 t2 σ2 e2 H2 w2=>?_
 exact op_cmp e1 e2 H2 (by have:=hA.room;lia) w2 λr hr=>wpAny_truthy_bool (K r h2 t2 σ2 H2 hr)
theorem s_and {a b:E}{x y:Expr}{r:List Expr}{q:Pos} (ha:SE (W:=W) Φ n ck a x) (hb:SE (W:=W) Φ n ck b (.BoolOp .And (y::r) q)):SE (W:=W) Φ n ck (.andv a b) (.BoolOp .And (x::y::r) q):=by
 intro C hC A m X lo σ s Q Er k hA hV H hw K
 refine BoolOp_and (ha C hC A m X lo σ s _ Er _ hA hV H hw λu v h1 t1 σ1 e1 H1 w1=>gS_ok w1 λr hr w1=>op_truth e1 hr ?_)
 cases r with
 | true=>exact hb C hC A m X lo σ1 _ _ Er _ hA hV H1 w1 λu v h' t' σ' e' H' w'=>K u v h' t' σ' e' H' w'
 | false=>exact K u v h1 t1 σ1 e1 H1 w1
theorem s_or {a b:E}{x y:Expr}{r:List Expr}{q:Pos} (ha:SE (W:=W) Φ n ck a x) (hb:SE (W:=W) Φ n ck b (.BoolOp .Or (y::r) q)):SE (W:=W) Φ n ck (.orv a b) (.BoolOp .Or (x::y::r) q):=by
 intro C hC A m X lo σ s Q Er k hA hV H hw K
 refine BoolOp_or (ha C hC A m X lo σ s _ Er _ hA hV H hw λu v h1 t1 σ1 e1 H1 w1=>gS_ok w1 λr hr w1=>op_truth e1 hr ?_)
 cases r with
 | true=>exact K u v h1 t1 σ1 e1 H1 w1
 | false=>exact hb C hC A m X lo σ1 _ _ Er _ hA hV H1 w1 λu v h' t' σ' e' H' w'=>K u v h' t' σ' e' H' w'
theorem s_one {op:BoolOp}{a:E}{x:Expr}{q:Pos} (ha:SE (W:=W) Φ n ck a x):SE (W:=W) Φ n ck a (.BoolOp op [x] q):=λC hC A m X lo σ s Q Er k hA hV H hw K=>BoolOp_one (ha C hC A m X lo σ s Q Er k hA hV H hw K)
theorem s_ite {t a b:E}{x y z:Expr}{q:Pos} (ht:SC (W:=W) Φ n ck t x) (ha:SE (W:=W) Φ n ck a y) (hb:SE (W:=W) Φ n ck b z):SE (W:=W) Φ n ck (.ite t a b) (.IfExp x y z q):=by
 intro C hC A m X lo σ s Q Er k hA hV H hw K
 refine IfExp_ (ht C hC A m X lo σ s _ Er _ hA hV H hw λr h1 t1 σ1 H1 w1=>?_)
 cases r with
 | true=>exact ha C hC A m X lo σ1 _ _ Er _ hA hV H1 w1 λu v h' t' σ' e' H' w'=>K u v h' t' σ' e' H' w'
 | false=>exact hb C hC A m X lo σ1 _ _ Er _ hA hV H1 w1 λu v h' t' σ' e' H' w'=>K u v h' t' σ' e' H' w'
theorem c_not {a:E}{x:Expr}{q:Pos} (ha:SC (W:=W) Φ n ck a x):SC (W:=W) Φ n ck (.notv a) (.UnaryOp .Not x q):=by
 intro C hC A m X lo σ s Q Er k hA hV H hw K
 exact isTrue_not (ha C hC A m X lo σ s _ Er _ hA hV H hw λb h1 t1 σ1 H1 w1=>K _ h1 t1 σ1 H1 w1)
theorem c_ite {t a b:E}{x y z:Expr}{q:Pos} (ht:SC (W:=W) Φ n ck t x) (ha:SC (W:=W) Φ n ck a y) (hb:SC (W:=W) Φ n ck b z):SC (W:=W) Φ n ck (.ite t a b) (.IfExp x y z q):=by
 intro C hC A m X lo σ s Q Er k hA hV H hw K
 refine isTrue_IfExp (ht C hC A m X lo σ s _ Er _ hA hV H hw λr h1 t1 σ1 H1 w1=>?_)
 cases r with
 | true=>exact ha C hC A m X lo σ1 _ _ Er _ hA hV H1 w1 λb h' t' σ' H' w'=>K b h' t' σ' H' w'
 | false=>exact hb C hC A m X lo σ1 _ _ Er _ hA hV H1 w1 λb h' t' σ' H' w'=>K b h' t' σ' H' w'
theorem c_and {a b:E}{x y:Expr}{r:List Expr}{q:Pos} (ha:SC (W:=W) Φ n ck a x) (hb:SC (W:=W) Φ n ck b (.BoolOp .And (y::r) q)):SC (W:=W) Φ n ck (.andv a b) (.BoolOp .And (x::y::r) q):=by
 intro C hC A m X lo σ s Q Er k hA hV H hw K
 refine isTrue_and (ha C hC A m X lo σ s _ Er _ hA hV H hw λc h1 t1 σ1 H1 w1=>?_)
 cases c with
 | true=>exact hb C hC A m X lo σ1 _ _ Er _ hA hV H1 w1 λb h' t' σ' H' w'=>K b h' t' σ' H' w'
 | false=>exact K false h1 t1 σ1 H1 w1
theorem c_or {a b:E}{x y:Expr}{r:List Expr}{q:Pos} (ha:SC (W:=W) Φ n ck a x) (hb:SC (W:=W) Φ n ck b (.BoolOp .Or (y::r) q)):SC (W:=W) Φ n ck (.orv a b) (.BoolOp .Or (x::y::r) q):=by
 intro C hC A m X lo σ s Q Er k hA hV H hw K
 refine isTrue_or (ha C hC A m X lo σ s _ Er _ hA hV H hw λc h1 t1 σ1 H1 w1=>?_)
 cases c with
 | true=>exact K true h1 t1 σ1 H1 w1
 | false=>exact hb C hC A m X lo σ1 _ _ Er _ hA hV H1 w1 λb h' t' σ' H' w'=>K b h' t' σ' H' w'
theorem c_oneAnd {a:E}{x:Expr}{q:Pos} (ha:SC (W:=W) Φ n ck a x):SC (W:=W) Φ n ck a (.BoolOp .And [x] q):=by
 intro C hC A m X lo σ s Q Er k hA hV H hw K
 refine isTrue_and (ha C hC A m X lo σ s _ Er _ hA hV H hw λc h1 t1 σ1 H1 w1=>?_)
 cases c with
 | true=>exact isTrue_and_nil (K true h1 t1 σ1 H1 w1)
 | false=>exact K false h1 t1 σ1 H1 w1
theorem c_oneOr {a:E}{x:Expr}{q:Pos} (ha:SC (W:=W) Φ n ck a x):SC (W:=W) Φ n ck a (.BoolOp .Or [x] q):=by
 intro C hC A m X lo σ s Q Er k hA hV H hw K
 refine isTrue_or (ha C hC A m X lo σ s _ Er _ hA hV H hw λc h1 t1 σ1 H1 w1=>?_)
 cases c with
 | true=>exact K true h1 t1 σ1 H1 w1
 | false=>exact isTrue_or_nil (K false h1 t1 σ1 H1 w1)
theorem base_plain {o:Expr}{f:Str}{env:Env}{whole:Sem Value} (h:isCallName o=false):attributeBase o f env whole=whole:=by
 cases o with
 | Call fx xs ks q=>
   cases fx with
   | Name g p=>
     cases xs with
     | cons=>rfl
     | nil=>
       cases ks with
       | cons=>rfl
       | nil=>exact (Bool.false_ne_true h.symm).elim
   | _=>rfl
 | _=>rfl
theorem s_attr (T:NOk W) {a:E}{f:Nat}{v:Expr}{q:Pos} (hn:isCallName v=false) (ha:SE (W:=W) Φ n ck a v):SE (W:=W) Φ n ck (.attr a f) (.Attribute v (W.N.fn f) q):=by
 intro C hC A m X lo σ s Q Er k hA hV H hw K
 refine Attribute_any_ (ha C hC A m X lo σ s _ Er _ hA hV H hw λu v h1 t1 σ1 e1 H1 w1=>?_) ?_
 ·exact eR (P:=λu=>wpAny (Mo W) A (getAttr u (W.N.fn f) true) Q Er { s with heap:=h1,toks:=t1 }) e1 w1 λr w1=>gS_ok w1 λp hI w1=>gS_ok w1 λv hv w1=>op_getAttr T H1 hI hv λu t' e'=>K u v h1 t' σ1 e' H1 w1
 ·show (do let o <- attributeBase v (W.N.fn f) C.env (eval v C.env);standAt q.atName;let r <- holding [o] (getAttr o (W.N.fn f) true);letTemporaryGo v o r;pure r)=_
  rw [base_plain hn]
theorem sub_plain {el:Expr} (h:isSlice el=false) (o i:Value):subscripted el false o i=operate [o,i] (getItem o i):=by
 cases el <;> first | rfl | exact (Bool.false_ne_true h.symm).elim
theorem s_idx {a i:E}{v sl:Expr}{q:Pos} (hs:isSlice sl=false) (ha:SE (W:=W) Φ n ck a v) (hi:SE (W:=W) Φ n ck i sl):SE (W:=W) Φ n ck (.idx a i) (.Subscript v sl q):=by
 intro C hC A m X lo σ s Q Er k hA hV H hw K
 refine Subscript_ (ha C hC A m X lo σ s _ Er _ hA hV H hw λu x h1 t1 σ1 e1 H1 w1=>?_)
 refine hi C hC A m X lo σ1 _ _ Er _ hA hV H1 w1 λu' y h2 t2 σ2 e2 H2 w2=>?_
 obtain ⟨g,Ty,id,hT,hl⟩:=op_getItem (A:=A) (E:=Er) (s:={ s with heap:=h2,toks:=t2 }) (Q:=Q) e1 e2 H2 w2 λr v t' e' w'=>K r v h2 t' σ2 e' H2 w'
 exact tail_any hT hl g (sub_plain hs _ _)
end
end
section
variable {W:Wd}{Φ:Phi}{n:Nat}{ck:Ck}
theorem star_cons {x:Expr}{xs:List Expr}{env:Env} (h:isStar x=false):starEach (x::xs) env=(false,eval x env)::starEach xs env:=by
 cases x <;> first | rfl | cases h
theorem star_any {env:Env}{pos:Pos}:∀ {xs:List Expr},xs.any isStar=false->(backTo pos (starEach xs env)).any (λø=>ø.1)=false
 | [],_=>rfl
 | x::xs,h=>by
   rw [List.any_cons,Bool.or_eq_false_iff] at h
   rw [star_cons h.1]
   show (false || (backTo pos (starEach xs env)).any (λø=>ø.1))=false
   rw [star_any h.2];rfl
theorem l_nil:SEL (W:=W) Φ n ck .nil []:=by
 intro C hC A m X lo σ s Q Er k pos hA hV H hw K
 exact spliced_nil (K [] [] s.heap s.toks σ Vs.nil H hw)
theorem l_cons {e:E}{r:EL}{x:Expr}{xs:List Expr} (hx:isStar x=false) (he:SE (W:=W) Φ n ck e x) (hr:SEL (W:=W) Φ n ck r xs):SEL (W:=W) Φ n ck (.cons e r) (x::xs):=by
 intro C hC A m X lo σ s Q Er k pos hA hV H hw K
 rw [star_cons hx]
 show wpAny (Mo W) A (spliced ((false,eval x C.env)::backTo pos (starEach xs C.env))) Q Er s
 refine spliced_cons (he C hC A m X lo σ s _ Er _ hA hV H hw λu v h1 t1 σ1 e1 H1 w1=>?_)
 exact hr C hC A m X lo σ1 _ _ Er _ pos hA hV H1 w1 λus vs h2 t2 σ2 e2 H2 w2=>K (u::us) (v::vs) h2 t2 σ2 (Vs.cons e1 e2) H2 w2
theorem evalArgs_any {M:Model}{A:Around}{E:Value->Shared->Prop}{s:Shared}{f:Value}{args:List (Bool×Sem Value)}{Q:Args->Shared->Prop} (hp:args.any (λø=>ø.1)=false)
 (h:wpAny M A (spliced args) (λvs s'=>Q ⟨vs,[]⟩ s') E s):wpAny M A (evalArgs f true args []) Q E s:=by
 cases args with
 | nil=>
   unfold evalArgs
   show wpAny M A (spliced [] >>= _) Q E s
   refine wpAny_bind (wpAny_mono h (λvs s' h'=>?_) λø ø x=>x)
   refine wpAny_holding ?_
   exact wpAny_bind (wpAny_pure (wpAny_bind (wpAny_pure (wpAny_pure h'))))
 | cons a r=>
   obtain ⟨b,x⟩:=a
   cases b with
   | true=>cases hp
   | false=>exact evalArgs_plain h
noncomputable def KeepOk (W:Wd) (f:Value):Prop:=∀ h,W.K.In h->∃ k,(k=Keeper.frame\/k=Keeper.machine\/k=Keeper.boundFrame)/\Looks (Mo W) h (keeperOf f) k
theorem keep_plain {f:Value} (h:∀ a,f≠.ref a):KeepOk W f:=λhp ø=>⟨.machine,.inr (.inl rfl),by
 refine Looks.of_pure ?_
 cases f <;> first | rfl | exact absurd rfl (h _)⟩
theorem callEL {es:EL}{xs:List Expr}{f:Value}{first:List Value} (hns:xs.any isStar=false) (hk:KeepOk W f) (hs:SEL (W:=W) Φ n ck es xs)
 {C:Cx W} (hC:C.of ck) {A:Around}{m:Str->Option Value}{X:Addr->Option Obj}{lo:Lo}{σ:St}{s:Shared}{Q:Value->Shared->Prop}{Er:Value->Shared->Prop}{k:List V->St->Prop}{pos:Pos}
 (hA:ACond A C.fl n) (hV:VOk C m X lo) (H:HS W C.L m X σ s.heap) (hw:wpEL W.N.TB Φ es lo σ k)
 (K:∀ us vs h' t' σ',Vs us vs->HS W C.L m X σ' h'->k vs σ'->wpAny (Mo W) A (call f (first++us)) Q Er { s with heap:=h',toks:=t' }) :
 wpAny (Mo W) A (callWith pos f first (backTo pos (starEach xs C.env)) []) Q Er s:=by
 refine callWith_of (P:=W.K.In) (by rw [star_any hns];rfl) hk (evalArgs_any (star_any hns) ?_)
 exact hs C hC A m X lo σ s _ Er _ pos hA hV H hw λus vs h1 t1 σ1 e1 H1 w1=>⟨H1.inK,K us vs h1 t1 σ1 e1 H1 w1⟩
noncomputable def PartOk (W:Wd) (Φ:Phi) (n:Nat) (ck:Ck) (e:E):Option Expr->Prop
 | none=>e=.nil
 | some x=>SE (W:=W) Φ n ck e x
theorem s_slc {a l h:E}{v:Expr}{lo' up:Option Expr}{p q:Pos} (ha:SE (W:=W) Φ n ck a v)
 (hl:PartOk W Φ n ck l lo') (hu:PartOk W Φ n ck h up) :
 SE (W:=W) Φ n ck (.slc a l h) (.Subscript v (.Slice lo' up none p) q):=by
 intro C hC A m X lo σ s Q Er k hA hV H hw K
 refine Subscript_ (ha C hC A m X lo σ s _ Er _ hA hV H hw λu x h1 t1 σ1 e1 H1 w1=>?_)
 have pt:∀ (e:E) (o:Option Expr),PartOk W Φ n ck e o->∀ (σ:St) (s:Shared) (Q:Value->Shared->Prop) (k:KV),HS W C.L m X σ s.heap->wpE W.N.TB Φ e lo σ k->BK W C.L m X s k Q->wpAny (Mo W) A (evalPart o C.env) Q Er s:=by
  intro e o ho σ s Q k H hw K
  cases o with
  | none=>
    obtain rfl:e=.nil:=ho
    rw [evalPart_none];exact wpAny_pure (K .none .none s.heap s.toks σ rfl H hw)
  | some x=>rw [evalPart_some];exact ho C hC A m X lo σ s Q Er k hA hV H hw K
 refine wpAny_Slice (pt l lo' hl σ1 _ _ _ H1 w1 λu2 v2 h2 t2 σ2 e2 H2 w2=>?_)
 refine pt h up hu σ2 _ _ _ H2 w2 λu3 v3 h3 t3 σ3 e3 H3 w3=>?_
 rw [evalPart_none]
 refine wpAny_pure ?_
 exact op_slice (s:={ s with heap:=h3,toks:=t3 }) e1 e2 e3 H3 w3 (λu v h' t' σ' e' H' w'=>K u v h' t' σ' e' H' w') λø ø=>rfl
theorem s_rev {a:E}{v:Expr}{p q q' q'':Pos}{kk:Nat} (ha:SE (W:=W) Φ n ck a v) :
 SE (W:=W) Φ n ck (.rev a) (.Subscript v (.Slice none none (some (.UnaryOp .USub (.Constant (.int 1) kk q'') q')) p) q):=by
 intro C hC A m X lo σ s Q Er k hA hV H hw K
 refine Subscript_ (ha C hC A m X lo σ s _ Er _ hA hV H hw λu x h1 t1 σ1 e1 H1 w1=>?_)
 refine wpAny_Slice ?_
 rw [evalPart_none]
 refine wpAny_pure (wpAny_pure ?_)
 rw [evalPart_some]
 refine UnaryOp_ (wpAny_Constant_int (PyProof.Rows.neg_int ?_))
 exact op_rev (s:={ s with heap:=h1,toks:=_ }) e1 H1 w1 (λu v h' t' σ' e' H' w'=>K u v h' t' σ' e' H' w') λø ø=>rfl
theorem s_list {es:EL}{xs:List Expr}{q:Pos} (hs:SEL (W:=W) Φ n ck es xs):SE (W:=W) Φ n ck (.list es) (.List xs q):=by
 intro C hC A m X lo σ s Q Er k hA hV H hw K
 refine List_ (hs C hC A m X lo σ s _ Er _ q hA hV H hw λus vs h1 t1 σ1 e1 H1 w1=>?_)
 refine wpAny_newObj_type ?_ ?_
 ·exact K (.ref h1.objs.size) (.ref h1.objs.size) _ _ _ rfl (H1.newL e1 w1.1 0) (w1.2 _ H1.fresh.1)
 ·show us.toArray.size<=sizeLine
  have:=e1.len;have:=w1.1;rw [sizeLine_eq];unfold big at this;simp;lia
theorem s_tup {es:EL}{xs:List Expr}{kk:Nat}{q:Pos} (hs:SEL (W:=W) Φ n ck es xs):SE (W:=W) Φ n ck (.tup es) (.Tuple xs kk q):=by
 intro C hC A m X lo σ s Q Er k hA hV H hw K
 refine Tuple_ (hs C hC A m X lo σ s _ Er _ q hA hV H hw λus vs h1 t1 σ1 e1 H1 w1=>?_)
 refine wpAny_newObj_type ?_ ?_
 ·exact K (.ref h1.objs.size) (.ref h1.objs.size) _ _ _ rfl (H1.newT e1 w1.1 0) (w1.2 _ H1.fresh.1)
 ·show us.toArray.size<=sizeLine
  have:=e1.len;have:=w1.1;rw [sizeLine_eq];unfold big at this;simp;lia
theorem s_call {f:Nat}{as:EL}{g:Str}{xs:List Expr}{p q:Pos} (h:(ck.glob g&&nsIn W.K mainGlobals g == some (some (.ref (W.N.fa f)))&&keepIn W.K (.ref (W.N.fa f)))=true) (hns:xs.any isStar=false)
 (hs:SEL (W:=W) Φ n ck as xs) (hf:f<n) (hok:CallOK W Φ f):SE (W:=W) Φ n ck (.call f as) (.Call (.Name g p) xs [] q):=by
 intro C hC A m X lo σ s Q Er k hA hV H hw K
 simp only [Bool.and_eq_true,beq_iff_eq] at h
 refine Call_ (glob_of hC H h.1.1 h.1.2 ?_)
 refine callEL hns (λø X=>keeps_K h.2 _ X) hs hC hA hV H hw λus vs h1 t1 σ1 e1 H1 w1=>?_
 refine wpAny_call (hok A C.fl C.L m X σ1 _ _ k us vs (hA.call hf) hV.fx H1 e1 w1 λu v h2 t2 σ2 e2 H2 w2=>?_)
 exact K u v h2 t2 σ2 e2 H2 w2
theorem newI_of {L:Addr}{m:Str->Option Value}{X:Addr->Option Obj}{σ:St}{h:Heap} (H:HS W L m X σ h) (c:Nat) :
 σ.fresh (h.objs.size+1)/\HS W L m X (σ.setI (h.objs.size+1) (c,[])) ((h.push emptyDict).push (instObj (W.N.ca c) h.objs.size)):=by
 have n1:h.get? (h.objs.size+1)=none:=Heap.get?_none_of_le (Nat.le_succ _)
 have H1:=H.push emptyDict rfl
 refine ⟨(H.none_at n1).1,?_⟩
 obtain ⟨l,hn,N,Ab⟩:=H.led
 have n2:=N.push H.fr emptyDict rfl
 have n3:=n2.push (H.fr.push _) (instObj (W.N.ca c) h.objs.size) rfl
 rw [Heap.size_push] at n3
 have out:∀ (a:Addr),h.objs.size<=a->∀ r o,(a,r,o) ∉ l:=λa ha r o hm=>by
  have:=Heap.lt_size (N _ (Led.mem_pl hm)).1
  exact absurd this (Nat.not_lt.mpr ha)
 refine ⟨(H.fr.push _).push _,⟨(h.objs.size+1,.inst,instObj (W.N.ca c) h.objs.size)::(h.objs.size,.idict (h.objs.size+1),emptyDict)::l,?_,n3,?_⟩,H.st⟩
 ·rw [List.map_cons,List.map_cons,List.nodup_cons,List.nodup_cons]
  refine ⟨λhm=>?_,λhm=>?_,hn⟩
  ·rcases List.mem_cons.mp hm with e | hm
   ·exact absurd e (Nat.succ_ne_self _)
   ·obtain ⟨⟨a,r,o⟩,he,q⟩:=List.mem_map.mp hm
    exact out a (by show _<=a;rw [show a=_ from q];exact Nat.le_succ _) r o he
  ·obtain ⟨⟨a,r,o⟩,he,q⟩:=List.mem_map.mp hm
   exact out a (by show _<=a;rw [show a=_ from q];exact Nat.le_refl _) r o he
 ·have G:=(Ab.grow (h.objs.size,.idict (h.objs.size+1),emptyDict)).grow (h.objs.size+1,.inst,instObj (W.N.ca c) h.objs.size)
  refine ⟨λa c' fs q=>?_,G.lst,G.tup,G.dct,G.ex⟩
  unfold St.setI upd at q
  dsimp only at q
  split at q
  ·rename_i e;subst e;cases q
   refine ⟨h.objs.size,[],0,.head _,.tail _ (.head _),⟨(λø ø q=>nomatch q),(λø ø=>rfl),Nat.le_refl _,(λø q=>nomatch q)⟩⟩
  ·exact G.inst a c' fs q
end
section
variable {W:Wd}{Φ:Phi}{n:Nat}{ck:Ck}
theorem keep_K {f:Value} (h:keepIn W.K f=true):KeepOk W f:=λø X=>keeps_K h _ X
theorem ACond.make {A:Around}{fl:List Env}{n g:Nat} (a:ACond A fl n) (h:g<n) (C:Addr) (args:List Value) (kw:List (Str×Value)):ACall (A.under (.builtin "type.__call__" ⟨.ref C::args,kw⟩)) fl g where
 h:=a.h
 d:=by rw [depth_under_kw];have:=a.d;lia
 u:=by
  show A.units+(Code.builtin "type.__call__" ⟨.ref C::args,kw⟩).cUnits+8 * g+7<=9000
  have e:(Code.builtin "type.__call__" ⟨.ref C::args,kw⟩).cUnits=1:=rfl
  rw [e];have:=a.u;lia
 f:=by
  show pushEnvs [] A.frames=_
  exact a.f
theorem s_new {c:Nat}{as:EL}{g:Str}{xs:List Expr}{p q:Pos} (h:(ck.glob g&&nsIn W.K mainGlobals g == some (some (.ref (W.N.ca c)))&&clsOk W.K (W.N.ca c) (W.N.fa (W.N.TB.ini c)))=true) (hns:xs.any isStar=false)
 (hs:SEL (W:=W) Φ n ck as xs) (hf:W.N.TB.ini c<n) (hok:CallOK W Φ (W.N.TB.ini c)):SE (W:=W) Φ n ck (.new c as) (.Call (.Name g p) xs [] q):=by
 intro C hC A m X lo σ s Q Er k hA hV H hw K
 unfold clsOk at h
 simp only [Bool.and_eq_true,beq_iff_eq] at h
 obtain ⟨⟨h1,h2⟩,⟨⟨h3,h4⟩,h5⟩,h6⟩:=h
 refine Call_ (glob_of hC H h1 h2 ?_)
 refine callEL hns (keep_K h6) hs hC hA hV H hw λus vs h1 t1 σ1 e1 H1 w1=>?_
 obtain ⟨fr,H2⟩:=newI_of H1 c
 refine wpAny_call (make_core (makes_of H1.inK h3) (looks_findIn H1.inK h4) (λself=>bind_fn H1.inK self h5) (.inl rfl) ?_)
 refine hok _ C.fl C.L m X _ _ _ _ (.ref (h1.objs.size+1)::us) (.ref (h1.objs.size+1)::vs) (hA.make hf _ _ _) hV.fx H2 (Vs.cons rfl e1) (w1 _ fr) λu v h2 t2 σ2 e2 H2 w2=>?_
 obtain ⟨rfl,w2⟩:=w2
 obtain rfl:=av_none e2
 exact ⟨rfl,K _ _ h2 t2 σ2 rfl H2 w2⟩
theorem s_newk {c:Nat}{as:EL}{kw:Str}{v:E}{g:Str}{xs:List Expr}{x:Expr}{p q:Pos}{y:Pos}{w:String} (h:(ck.glob g&&nsIn W.K mainGlobals g == some (some (.ref (W.N.ca c)))&&clsOk W.K (W.N.ca c) (W.N.fa (W.N.TB.ini c)))=true) (hns:xs.any isStar=false)
 (hxs:xs≠[])
 (hs:SEL (W:=W) Φ n ck as xs) (hv:SE (W:=W) Φ n ck v x) (hf:W.N.TB.ini c<n) (hok:CallKW W Φ (W.N.TB.ini c) kw):SE (W:=W) Φ n ck (.newk c as w v) (.Call (.Name g p) xs [⟨some kw,x,y⟩] q):=by
 intro C hC A m X lo σ s Q Er k hA hV H hw K
 unfold clsOk at h
 simp only [Bool.and_eq_true,beq_iff_eq] at h
 obtain ⟨⟨h1,h2⟩,⟨⟨h3,h4⟩,h5⟩,h6⟩:=h
 refine wpAny_Call_Name_kw (glob_of hC H h1 h2 ?_)
 refine callWith_of (P:=W.K.In) (by rw [star_any hns];rfl) (keep_K h6) ?_
 have hst:=star_any (env:=C.env) (pos:=q) hns
 have go:wpAny (Mo W) A (spliced (backTo q (starEach xs C.env))) (λvs s₁=>wpAny (Mo W) A (evalAll ((backToKw q (keywordEach [⟨some kw,x,y⟩] C.env)).map (λø=>ø.2))) (λks s₂=>
  W.K.In s₂.heap/\wpAny (Mo W) A (call (.ref (W.N.ca c)) ([]++vs) (((backToKw q (keywordEach [⟨some kw,x,y⟩] C.env)).filterMap (λø=>ø.1)).zip ks)) Q Er s₂) Er s₁) Er s:=by
  refine hs C hC A m X lo σ s _ Er _ q hA hV H hw λus vs h1 t1 σ1 e1 H1 w1=>?_
  refine wpAny_evalAll_cons ?_
  refine wpAny_bind (hv C hC A m X lo σ1 _ _ Er _ hA hV H1 w1 λu₀ v₀ h2 t2 σ2 e0 H2 w2=>wpAny_bind (wpAny_standAt (wpAny_pure (wpAny_evalAll_nil ⟨H2.inK,?_⟩))))
  obtain ⟨fr,H3⟩:=newI_of H2 c
  refine wpAny_call (make_core (makes_of H2.inK h3) (looks_findIn H2.inK h4) (λself=>bind_fn H2.inK self h5) (.inl rfl) ?_)
  refine hok _ C.fl C.L m X _ _ _ _ (.ref (h2.objs.size+1)::us) (.ref (h2.objs.size+1)::vs) u₀ v₀ (hA.make hf _ _ _) hV.fx H3 (Vs.cons rfl e1) e0 (w2 _ fr) λu v h2 t2 σ2 e2 H2 w2=>?_
  obtain ⟨rfl,w2⟩:=w2
  obtain rfl:=av_none e2
  exact ⟨rfl,K _ _ h2 t2 σ2 rfl H2 w2⟩
 cases xs with
 | nil=>exact absurd rfl hxs
 | cons x0 xr=>
   have h0:isStar x0=false:=by
    rw [List.any_cons,Bool.or_eq_false_iff] at hns;exact hns.1
   rw [star_cons h0] at go |-
   exact evalArgs_kw rfl go
theorem mcall {o:Expr}{name:Str}{apos pos:Pos}{args:List Expr}{env:Env}{M:Model}{A:Around}{s:Shared}{Er:Value->Shared->Prop}{Q:Value->Shared->Prop} (ho:isCallName o=false) (hl:apos.endLine=pos.line) (hn:args.length<29) (hns:args.any isStar=false)
 (h:wpAny M A (eval o env) (λov s₁=>wpAny M A (getMethod ov name (do return (<- importBound o env).getD true)) (λfx s₂=>wpAny M A (callWith pos fx.1 fx.2 (backTo pos (starEach args env)) []) Q Er s₂) Er s₁) Er s) :
 wpAny M A (eval (.Call (.Attribute o name apos) args [] pos) env) Q Er s:=by
 refine MethodCall_ h ?_
 show (do
  let ov <- attributeBase o name env (eval o env)
  standAt apos.atName
  methodCall o name apos pos env ov (args.length+0) (backTo pos (starEach args env)) [])=_
 rw [base_plain ho]
 have all:∀ {xs:List Expr},xs.any isStar=false->(backTo pos (starEach xs env)).all (!·.1)=true:=by
  intro xs
  induction xs with
  | nil=>intro _;rfl
  | cons x xs ih=>
    intro h
    rw [List.any_cons,Bool.or_eq_false_iff] at h
    rw [star_cons h.1]
    show (true&&(backTo pos (starEach xs env)).all (!·.1))=true
    rw [ih h.2];rfl
 have f1:methodCallForm (args.length+0) (backTo pos (starEach args env)) []=true:=by
  unfold methodCallForm
  rw [all hns]
  show decide (args.length+0+0<30)=true
  exact decide_eq_true (by lia)
 have f2:methodCallPos true o env apos pos=pure pos:=by unfold methodCallPos;simp [hl]
 unfold methodCall
 rw [f1,f2]
 rfl
theorem s_meth (T:NOk W) {a:E}{mm:Nat}{as:EL}{o:Expr}{xs:List Expr}{p q:Pos} (ho:isCallName o=false) (hl:p.endLine=q.line) (hn:xs.length<29) (hns:xs.any isStar=false)
 (ha:SE (W:=W) Φ n ck a o) (hs:SEL (W:=W) Φ n ck as xs) (hf:∀ c f,W.N.TB.mt c mm=some f->f<n) (hok:∀ f,f<n->CallOK W Φ f):SE (W:=W) Φ n ck (.meth a mm as) (.Call (.Attribute o (W.N.fn mm) p) xs [] q):=by
 intro C hC A m X lo σ s Q Er k hA hV H hw K
 refine mcall ho hl hn hns (ha C hC A m X lo σ s _ Er _ hA hV H hw λu v h1 t1 σ1 e1 H1 w1=>?_)
 refine eR (P:=λu=>wpAny (Mo W) A (getMethod u (W.N.fn mm) _) _ Er { s with heap:=h1,toks:=t1 }) e1 w1 λr w1=>gS_ok w1 λp hI w1=>gS_ok w1 λf hm w1=>?_
 obtain ⟨c,fs⟩:=p
 refine op_getMeth T H1 hI hm w1.1 (λf' hf' e=>T.minj c f' mm hf' (by rw [hm];rfl) e) ?_
 refine callEL hns (keep_K (aR (T.mt c mm f hm))) hs hC hA hV H1 w1.2 λus vs h2 t2 σ2 e2 H2 w2=>?_
 refine wpAny_call (hok f (hf c f hm) A C.fl C.L m X σ2 _ _ k (.ref r::us) (.ref r::vs) (hA.call (hf c f hm)) hV.fx H2 (Vs.cons rfl e2) w2 λu v h2 t2 σ2 e2 H2 w2=>?_)
 exact K u v h2 t2 σ2 e2 H2 w2
noncomputable def on1 (f:V->St->Prop):List V->St->Prop
 | [v],σ=>f v σ
 | _,_=>False
noncomputable def on2 (f:V->V->St->Prop):List V->St->Prop
 | [v,w],σ=>f v w σ
 | _,_=>False
theorem on1_ok {f:V->St->Prop}{σ:St}:∀ {vs:List V}{us:List Value}{P:List Value->Prop},Vs us vs->on1 f vs σ->(∀ u v,av u=some v->f v σ->P [u])->P us
 | [v],us,P,h,w,k=>h.unconsK (P:=P) λu us' e1 e2=>by cases us' with | nil=>exact k u v e1 w | cons=>cases e2
 | [],_,_,_,w,_=>w.elim
 | _::_::_,_,_,_,w,_=>w.elim
theorem on2_ok {f:V->V->St->Prop}{σ:St}:∀ {vs:List V}{us:List Value}{P:List Value->Prop},Vs us vs->on2 f vs σ->(∀ u v u' v',av u=some v->av u'=some v'->f v v' σ->P [u,u'])->P us
 | [v,v'],us,P,h,w,k=>h.unconsK (P:=P) λu us' e1 e2=>e2.unconsK (P:=λus'=>P (u::us')) λu' us'' e3 e4=>by cases us'' with | nil=>exact k u v u' v' e1 e3 w | cons=>cases e4
 | [],_,_,_,w,_=>w.elim
 | [_],_,_,_,w,_=>w.elim
 | _::_::_::_,_,_,_,w,_=>w.elim
theorem s_bi {b:B1}{a:E}{g:Str}{x:Expr}{p q:Pos} (h:(ck.glob g&&bootVal W.K g b.val)=true) (hx:isStar x=false) (ha:SE (W:=W) Φ n ck a x):SE (W:=W) Φ n ck (.bi b a) (.Call (.Name g p) [x] [] q):=by
 intro C hC A m X lo σ s Q Er k hA hV H hw K
 refine Call_ (boot_of hC H (aL h) (aR h) ?_)
 have hs:SEL (W:=W) Φ n ck (.cons a .nil) [x]:=l_cons hx ha l_nil
 refine callEL (k:=on1 λv σ=>bi1 b v σ k) (by rw [List.any_cons,hx];rfl) (keep_plain (by intro a;cases b <;> intro e <;> cases e)) hs hC hA hV H hw λus vs h1 t1 σ1 e1 H1 w1=>?_
 exact on1_ok (P:=λus=>wpAny (Mo W) A (call b.val ([]++us)) Q Er { s with heap:=h1,toks:=t1 }) e1 w1 λu v e2 w1=>op_bi1 (s:={ s with heap:=h1,toks:=t1 }) e2 H1 hA.h w1 λu v h' t' σ' e' H' w'=>K u v h' t' σ' e' H' w'
theorem s_max {a b:E}{g:Str}{x y:Expr}{p q:Pos} (h:(ck.glob g&&bootVal W.K g (.builtin "max"))=true) (hx:isStar x=false) (hy:isStar y=false) (ha:SE (W:=W) Φ n ck a x) (hb:SE (W:=W) Φ n ck b y):SE (W:=W) Φ n ck (.max2 a b) (.Call (.Name g p) [x,y] [] q):=by
 intro C hC A m X lo σ s Q Er k hA hV H hw K
 refine Call_ (boot_of hC H (aL h) (aR h) ?_)
 have hs:SEL (W:=W) Φ n ck (.cons a (.cons b .nil)) [x,y]:=l_cons hx ha (l_cons hy hb l_nil)
 refine callEL (k:=on2 λv w σ=>max2 v w λr=>k r σ) (by rw [List.any_cons,hx,List.any_cons,hy];rfl) (keep_plain (by intro a e;cases e)) hs hC hA hV H hw λus vs h1 t1 σ1 e1 H1 w1=>?_
 exact on2_ok (P:=λus=>wpAny (Mo W) A (call (.builtin "max") ([]++us)) Q Er { s with heap:=h1,toks:=t1 }) e1 w1 λu v u' v' e2 e3 w1=>op_max (s:={ s with heap:=h1,toks:=t1 }) e2 e3 H1 hA.h w1 λr v h' t' e' H' w'=>K r v h' t' σ1 e' H' w'
theorem s_m1 {mm:M1}{a b:E}{o x:Expr}{p q:Pos} (ho:isCallName o=false) (hl:p.endLine=q.line) (hx:isStar x=false) (ha:SE (W:=W) Φ n ck a o) (hb:SE (W:=W) Φ n ck b x):SE (W:=W) Φ n ck (.m1 mm a b) (.Call (.Attribute o mm.nm p) [x] [] q):=by
 intro C hC A m X lo σ s Q Er k hA hV H hw K
 have hns:[x].any isStar=false:=by rw [List.any_cons,hx];rfl
 refine mcall ho hl (show 1<29 by decide) hns (ha C hC A m X lo σ s _ Er _ hA hV H hw λu v h1 t1 σ1 e1 H1 w1=>gS_ok w1 λc hk w1=>?_)
 obtain ⟨id,hid⟩:∃ id,mm.id c=some id:=by have ok:=w1.1;revert ok;cases c <;> cases mm <;> intro ok <;> first | exact ⟨_,rfl⟩ | cases ok
 refine op_getMethod1 e1 H1 hk hid ?_
 have hs:SEL (W:=W) Φ n ck (.cons b .nil) [x]:=l_cons hx hb l_nil
 refine callEL (k:=on1 λw σ=>meth1 c mm v w σ k) hns (keep_plain (by intro a e;cases e)) hs hC hA hV H1 w1.2 λus vs h2 t2 σ2 e2 H2 w2=>?_
 refine on1_ok (P:=λus=>wpAny (Mo W) A (call (.builtin id) ([u]++us)) Q Er { s with heap:=h2,toks:=t2 }) e2 w2 λu' v' e3 w2=>?_
 obtain ⟨id',q1,q2⟩:=op_meth1 (s:={ s with heap:=h2,toks:=t2 }) (A:=A) (E:=Er) e1 e3 H2 w2 λu v h' t' σ' e' H' w'=>K u v h' t' σ' e' H' w'
 rw [hid] at q1;cases q1
 exact q2
theorem s_m2 {mm:M2}{a b c:E}{o x y:Expr}{p q:Pos} (ho:isCallName o=false) (hl:p.endLine=q.line) (hx:isStar x=false) (hy:isStar y=false) (ha:SE (W:=W) Φ n ck a o) (hb:SE (W:=W) Φ n ck b x) (hc:SE (W:=W) Φ n ck c y):SE (W:=W) Φ n ck (.m2 mm a b c) (.Call (.Attribute o mm.nm p) [x,y] [] q):=by
 intro C hC A m X lo σ s Q Er k hA hV H hw K
 have hns:[x,y].any isStar=false:=by rw [List.any_cons,hx,List.any_cons,hy];rfl
 refine mcall ho hl (show 2<29 by decide) hns (ha C hC A m X lo σ s _ Er _ hA hV H hw λu v h1 t1 σ1 e1 H1 w1=>gS_ok w1 λd hk w1=>?_)
 obtain ⟨id,hid⟩:∃ id,mm.id d=some id:=by have ok:=w1.1;revert ok;cases d <;> cases mm <;> intro ok <;> first | exact ⟨_,rfl⟩ | cases ok
 refine op_getMethod2 e1 H1 hk hid ?_
 have hs:SEL (W:=W) Φ n ck (.cons b (.cons c .nil)) [x,y]:=l_cons hx hb (l_cons hy hc l_nil)
 refine callEL (k:=on2 λw z σ=>meth2 d mm v w z σ k) hns (keep_plain (by intro a e;cases e)) hs hC hA hV H1 w1.2 λus vs h2 t2 σ2 e2 H2 w2=>?_
 refine on2_ok (P:=λus=>wpAny (Mo W) A (call (.builtin id) ([u]++us)) Q Er { s with heap:=h2,toks:=t2 }) e2 w2 λu' v' u'' v'' e3 e4 w2=>?_
 obtain ⟨id',q1,q2⟩:=op_meth2 (s:={ s with heap:=h2,toks:=t2 }) (A:=A) (E:=Er) e1 e3 e4 H2 w2 λu v h' t' σ' e' H' w'=>K u v h' t' σ' e' H' w'
 rw [hid] at q1;cases q1
 exact q2
theorem c_plain {e:E}{x:Expr} (hc:∀ lo σ whole k,wpC W.N.TB Φ e lo σ whole k=whole (kTest k)) (hx:∀ env whole,isTrue x env whole=(do let v <- whole;standAt x.pos;holding [v] (truthy v)))
 (he:SE (W:=W) Φ n ck e x):SC (W:=W) Φ n ck e x:=by
 intro C hC A m X lo σ s Q Er k hA hV H hw K
 rw [hc] at hw
 exact isTrue_plain (he C hC A m X lo σ s _ Er _ hA hV H hw λu v h1 t1 σ1 e1 H1 w1=>gS_ok w1 λb hb w1=>op_truth e1 hb (K b h1 t1 σ1 H1 w1)) (hx _ _)
end
section
variable {W:Wd}{Φ:Phi}{n:Nat}{ck:Ck}
structure Turn (W:Wd) (A:Around) (it:Addr) (xs:List V) (G:Guard) (S:Nat->Obj->Prop):Prop where
 cls:∀ (i:Nat) (o:Obj),S i o->o.cls≠.type "frame"
 item:∀ (i:Nat) (x:V) (s:Shared) (σ:St) (L:Addr) (m:Str->Option Value) (X:Addr->Option Obj) (o:Obj) (Q:Option Value->Shared->Prop) (E:Value->Shared->Prop),xs[i]?=some x->HS W L m X σ s.heap->G σ->s.heap.get? it=some o->S i o ->
  (∀ u h' o' tk,av u=some x->S (i+1) o'->h'.get? it=some o'->o'.isFreed=false->Heap.SameBut it s.heap h'->Q (some u) { s with heap:=h',toks:=tk })->wpAny (Mo W) A (pyNext (.ref it)) Q E s
 stop:∀ (s:Shared) (σ:St) (L:Addr) (m:Str->Option Value) (X:Addr->Option Obj) (o:Obj) (Q:Option Value->Shared->Prop) (E:Value->Shared->Prop),HS W L m X σ s.heap->G σ->s.heap.get? it=some o->S xs.length o ->
  (∀ h' tk,Heap.ExtBut it s.heap h'->Q none { s with heap:=h',toks:=tk })->wpAny (Mo W) A (pyNext (.ref it)) Q E s
 self:∀ (i:Nat) (s:Shared) (o:Obj) (Q:Value->Shared->Prop) (E:Value->Shared->Prop),s.heap.get? it=some o->S i o->Q (.ref it) s->wpAny (Mo W) A (pyIter (.ref it)) Q E s
 go:∀ (i:Nat) (s:Shared) (o:Obj) (t:Expr) (v:Value) (Q:Unit->Shared->Prop) (E:Value->Shared->Prop),s.heap.get? it=some o->S i o->Q () s->wpAny (Mo W) A (letOwnedTupleGo t (.ref it) v) Q E s
noncomputable def isLI (a:Addr) (i:Nat) (o:Obj):Prop:=o.cls=.type "list_iterator"/\o.data=.fields #[.ref a,.int i 0]
noncomputable def isTI (a:Addr) (i:Nat) (o:Obj):Prop:=o.cls=.type "tuple_iterator"/\o.data=.fields #[.ref a,.int i 0]
noncomputable def isBI (b:Array UInt8) (t:Tok) (i:Nat) (o:Obj):Prop:=o.cls=.type "bytes_iterator"/\o.data=.fields #[.bytes b t,.int i 0]
noncomputable def isRI (a c:Int) (i:Nat) (o:Obj):Prop:=o={ cls:=.type "range_iterator",dict:=none,data:=.fields #[rawInt (a+i),rawInt (c - i),rawInt 1],slots:=#[] }
theorem freed_fields {o:Obj}{x:Array Value} (h:o.data=.fields x):o.isFreed=false:=Obj.isFreed_of_fields h
theorem turn_list {A:Around} (hh:A.handled=none) {it a:Addr}{xs:List V}:Turn W A it xs (λτ=>τ.L a=some xs) (isLI a) where
 cls:=λi o hs=>by rw [hs.1];exact λe=>absurd (Value.type.inj e) (by decide)
 item:=λi x s σ L m X o Q E hx H hg ho hs K=>by
  obtain ⟨us,c,i1,v1,_⟩:=H.getL hg
  obtain ⟨u,e1,e2⟩:=v1.get hx
  refine wpAny_pyNext_list_item (l:=a) (i:=i) ⟨o,ho,hs⟩ i1.isList (by simpa using e1) λh' hit hsb=>?_
  obtain ⟨o',q1,q2⟩:=hit
  exact K u h' o' s.toks e2 q2 q1 (freed_fields q2.2) hsb
 stop:=λs σ L m X o Q E H hg ho hs K=>by
  obtain ⟨us,c,i1,v1,_⟩:=H.getL hg
  have l1:=v1.len
  refine wpAny_pyNext_list_end hh (l:=a) (i:=xs.length) ⟨o,ho,hs⟩ i1.isList (by rw [<- l1];simp) λh' he=>K h' s.toks he
 self:=λi s o Q E ho hs q=>wpAny_pyIter_listiter (l:=a) (i:=i) ⟨o,ho,hs⟩ q
 go:=λi s o t v Q E ho hs q=>letGo_listiter (t:=a) (i:=i) ⟨o,ho,hs⟩ q
theorem turn_tup {A:Around} (hh:A.handled=none) {it a:Addr}{xs:List V}:Turn W A it xs (λτ=>τ.T a=some xs) (isTI a) where
 cls:=λi o hs=>by rw [hs.1];exact λe=>absurd (Value.type.inj e) (by decide)
 item:=λi x s σ L m X o Q E hx H hg ho hs K=>by
  obtain ⟨us,c,i1,v1,_⟩:=H.getT hg
  obtain ⟨u,e1,e2⟩:=v1.get hx
  refine wpAny_pyNext_tuple_item (t:=a) (i:=i) ⟨o,ho,hs⟩ ⟨_,i1,rfl,_,rfl⟩ (by simpa using e1) λh' hit hsb=>?_
  obtain ⟨o',q1,q2⟩:=hit
  exact K u h' o' s.toks e2 q2 q1 (freed_fields q2.2) hsb
 stop:=λs σ L m X o Q E H hg ho hs K=>by
  obtain ⟨us,c,i1,v1,_⟩:=H.getT hg
  have l1:=v1.len
  refine wpAny_pyNext_tuple_end hh (t:=a) (i:=xs.length) ⟨o,ho,hs⟩ ⟨_,i1,rfl,_,rfl⟩ (by rw [<- l1];simp) λh' he=>K h' s.toks he
 self:=λi s o Q E ho hs q=>wpAny_pyIter_tupleiter (t:=a) (i:=i) ⟨o,ho,hs⟩ q
 go:=λi s o t v Q E ho hs q=>letGo_tupleiter (t:=a) (i:=i) ⟨o,ho,hs⟩ q
theorem letGo_other {A:Around}{s:Shared}{E:Value->Shared->Prop}{target:Expr}{I:Addr}{v:Value}{Q':Unit->Shared->Prop}{o:Obj}{T:String}{fs:Array Value} (ho:s.heap.get? I=some o) (hc:o.cls=.type T) (hd:o.data=.fields fs)
 (hT:(["enumerate","zip","dict_itemiterator","dict_reverseitemiterator","odict_iterator","itertools.zip_longest","itertools.pairwise"].contains T)=false) (h:Q' () s) :
 wpAny (Mo W) A (letOwnedTupleGo target (.ref I) v) Q' E s:=by
 unfold letOwnedTupleGo
 cases target <;> first
  | exact wpAny_pure h
  | (cases v <;> first
   | exact wpAny_pure h
   | (refine wpAny_bind (wpAny_load ho ?_)
      rw [hc,hd]
      dsimp only
      rw [hT]
      exact wpAny_pure h))
theorem turn_bytes {A:Around} (hh:A.handled=none) {it:Addr}{b:List UInt8}{t:Tok}{G:Guard}:Turn W A it (b.map octet) G (isBI b.toArray t) where
 cls:=λi o hs=>by rw [hs.1];exact λe=>absurd (Value.type.inj e) (by decide)
 item:=λi x s σ L m X o Q E hx H hg ho hs K=>by
  rw [List.getElem?_map] at hx
  cases hb:b[i]? with
  | none=>rw [hb] at hx;cases hx
  | some c=>
    rw [hb] at hx
    refine KBw.next_item (i:=i) (c:=c) ⟨o,ho,hs⟩ (by simpa using hb) λh' hit hsb=>?_
    obtain ⟨o',q1,q2⟩:=hit
    exact K _ h' o' _ (by rw [<- Option.some.inj hx];rfl) q2 q1 (freed_fields q2.2) hsb
 stop:=λs σ L m X o Q E H hg ho hs K=>by
  rw [List.length_map] at hs
  exact KBw.next_end hh (i:=b.length) ⟨o,ho,hs⟩ (by simp) λh' he=>K h' s.toks he
 self:=λi s o Q E ho hs q=>KBw.pyIter_self (i:=i) ⟨o,ho,hs⟩ q
 go:=λi s o t v Q E ho hs q=>letGo_other ho hs.1 hs.2 (by decide) q
theorem turn_range {A:Around} (hh:A.handled=none) {it:Addr}{a b:Int}{G:Guard}:Turn W A it (rangeL a b) G (isRI a ((b - a).toNat:Int)) where
 cls:=λi o hs=>by subst hs;exact λe=>absurd (Value.type.inj e) (by decide)
 item:=λi x s σ L m X o Q E hx H hg ho hs K=>by
  unfold rangeL at hx
  rw [List.getElem?_map] at hx
  have hi:i<(b - a).toNat:=by
   by_cases q:i<(b - a).toNat
   ·exact q
   ·rw [List.getElem?_eq_none (by simpa using q)] at hx;cases hx
  rw [List.getElem?_range hi] at hx
  subst hs
  refine wpAny_pyNext_range_item ho (by lia) λh' hit hsb=>?_
  refine K _ h' _ _ (by rw [<- Option.some.inj hx];rfl) ?_ hit rfl hsb
  unfold isRI
  have e1:a+(i:Int)+1=a+((i+1:Nat):Int):=by lia
  have e2:((b - a).toNat:Int) - (i:Int) - 1=((b - a).toNat:Int) - ((i+1:Nat):Int):=by lia
  rw [e1,e2]
 stop:=λs σ L m X o Q E H hg ho hs K=>by
  subst hs
  refine wpAny_pyNext_range_end hh ho ?_ λh' he=>K h' s.toks he
  unfold rangeL;simp
 self:=λi s o Q E ho hs q=>by subst hs;exact wpAny_pyIter_rangeiter ho q
 go:=λi s o t v Q E ho hs q=>by subst hs;exact letGo_other ho rfl rfl (by decide) q
noncomputable def SSrc (W:Wd) (Φ:Phi) (n:Nat) (ck:Ck) (e:Src) (x:Expr):Prop:=∀ (C:Cx W),C.of ck->∀ (A:Around) (m:Str->Option Value) (X:Addr->Option Obj) (lo:Lo) (σ:St) (s:Shared) (Q:Value->Shared->Prop) (Er:Value->Shared->Prop) (k:List V->Guard->St->Prop),
 ACond A C.fl n->VOk C m X lo->HS W C.L m X σ s.heap->wpSrc W.N.TB Φ e lo σ k ->
 (∀ xs g σ' it o h' t' S,X it=none->HS W C.L m (upd X it o) σ' h'->Turn W A it xs g S->S 0 o->k xs g σ'->Q (.ref it) { s with heap:=h',toks:=t' }) ->
 wpAny (Mo W) A (eval x C.env) (λv s₁=>wpAny (Mo W) A (pyIter v) Q Er s₁) Er s
theorem src_obj {e:E}{x:Expr} (he:SE (W:=W) Φ n ck e x):SSrc W Φ n ck (.obj e) x:=by
 intro C hC A m X lo σ s Q Er k hA hV H hw K
 refine he C hC A m X lo σ s _ Er _ hA hV H hw λu v h1 t1 σ1 e1 H1 w1=>?_
 cases v with
 | bytes b=>exact fB (P:=λu=>wpAny (Mo W) A (pyIter u) Q Er { s with heap:=h1,toks:=t1 }) e1 λt=>KBw.pyIter_bytes (K _ _ σ1 _ _ _ _ _ H1.fresh.2 (H1.newX _ rfl) (turn_bytes hA.h (b:=b) (t:=t)) ⟨rfl,rfl⟩ w1.2)
 | ref a=>
   refine fR (P:=λu=>wpAny (Mo W) A (pyIter u) Q Er { s with heap:=h1,toks:=t1 }) e1 (gE_ok w1 (λxs e w1=>H1.getLK e λus c i1 v1 ø=>?_) λø w1=>gS_ok w1 λxs e w1=>H1.getTK e λus c i1 v1 ø=>?_)
   ·exact wpAny_pyIter_list i1.isList (K _ _ σ1 _ _ _ _ _ H1.fresh.2 (H1.newX _ rfl) (turn_list hA.h (a:=a) (xs:=xs)) ⟨rfl,rfl⟩ w1)
   ·exact wpAny_pyIter_tuple ⟨_,i1,rfl,_,rfl⟩ (K _ _ σ1 _ _ _ _ _ H1.fresh.2 (H1.newX _ rfl) (turn_tup hA.h (a:=a) (xs:=xs)) ⟨rfl,rfl⟩ w1)
 | _=>exact w1.elim
theorem rangeSize_one (a b:Int):Builtin.Range.rangeSize a b 1=((b - a).toNat:Int):=by
 unfold Builtin.Range.rangeSize
 simp
 split <;> lia
theorem src_rng1 {e:E}{g:Str}{x:Expr}{p q:Pos} (h:(ck.glob g&&bootVal W.K g (.type "range"))=true) (hx:isStar x=false) (he:SE (W:=W) Φ n ck e x):SSrc W Φ n ck (.rng1 e) (.Call (.Name g p) [x] [] q):=by
 intro C hC A m X lo σ s Q Er k hA hV H hw K
 refine Call_ (boot_of hC H (aL h) (aR h) ?_)
 have hs:SEL (W:=W) Φ n ck (.cons e .nil) [x]:=l_cons hx he l_nil
 refine callEL (k:=on1 λv σ=>kRng1 k v σ) (by rw [List.any_cons,hx];rfl) (keep_plain (by intro a e;cases e)) hs hC hA hV H hw λus vs h1 t1 σ1 e1 H1 w1=>?_
 refine on1_ok (P:=λus=>wpAny (Mo W) A (call (.type "range") ([]++us)) (λv s₁=>wpAny (Mo W) A (pyIter v) Q Er s₁) Er { s with heap:=h1,toks:=t1 }) e1 w1 λu v e2 w1=>?_
 refine eI (P:=λu=>wpAny (Mo W) A (call (.type "range") ([]++[u])) (λv s₁=>wpAny (Mo W) A (pyIter v) Q Er s₁) Er { s with heap:=h1,toks:=t1 }) e2 w1 λnn t w1=>?_
 have hb:nn<=1000000:=w1.2.1
 have h0:=w1.1
 refine call_range_1 ?_
 have H2:=H1.push { cls:=.type "range",data:=.fields #[.int 0 t1,.int nn t,.int 1 (t1+1)] } rfl
 refine wpAny_pyIter_range (Heap.get?_push_size _ rfl) (small_one (by omega) (by omega) (by omega) (by omega)) ?_
 exact K _ _ σ1 _ _ _ _ _ H2.fresh.2 (H2.newX _ rfl) (turn_range hA.h (a:=0) (b:=nn)) (by unfold isRI;rw [rangeSize_one];simp) w1.2.2
theorem src_rng2 {e f:E}{g:Str}{x y:Expr}{p q:Pos} (h:(ck.glob g&&bootVal W.K g (.type "range"))=true) (hx:isStar x=false) (hy:isStar y=false) (he:SE (W:=W) Φ n ck e x) (hf:SE (W:=W) Φ n ck f y):SSrc W Φ n ck (.rng2 e f) (.Call (.Name g p) [x,y] [] q):=by
 intro C hC A m X lo σ s Q Er k hA hV H hw K
 refine Call_ (boot_of hC H (aL h) (aR h) ?_)
 have hs:SEL (W:=W) Φ n ck (.cons e (.cons f .nil)) [x,y]:=l_cons hx he (l_cons hy hf l_nil)
 refine callEL (k:=on2 λv w σ=>kRng2 k v w σ) (by rw [List.any_cons,hx,List.any_cons,hy];rfl) (keep_plain (by intro a e;cases e)) hs hC hA hV H hw λus vs h1 t1 σ1 e1 H1 w1=>?_
 refine on2_ok (P:=λus=>wpAny (Mo W) A (call (.type "range") ([]++us)) (λv s₁=>wpAny (Mo W) A (pyIter v) Q Er s₁) Er { s with heap:=h1,toks:=t1 }) e1 w1 λu v u' v' ea eb w1=>?_
 refine eII (P:=λu u'=>wpAny (Mo W) A (call (.type "range") ([]++[u,u'])) (λv s₁=>wpAny (Mo W) A (pyIter v) Q Er s₁) Er { s with heap:=h1,toks:=t1 }) ea eb w1 λmm t nn t' w1=>?_
 obtain ⟨h0,hm,h0',hb,w1⟩:=w1
 have hm:mm<=1000000:=hm
 have hb:nn<=1000000:=hb
 refine call_range_2 ?_
 have H2:=H1.push { cls:=.type "range",data:=.fields #[.int mm t,.int nn t',.int 1 t1] } rfl
 refine wpAny_pyIter_range (Heap.get?_push_size _ rfl) (small_one (by lia) (by lia) (by lia) (by lia)) ?_
 exact K _ _ σ1 _ _ _ _ _ H2.fresh.2 (H2.newX _ rfl) (turn_range hA.h (a:=mm) (b:=nn)) (by unfold isRI;rw [rangeSize_one];simp) w1
end
section
variable {W:Wd}{Φ:Phi}{n:Nat}{ck:Ck}
noncomputable def XE (C:Cx W) (X X':Addr->Option Obj):Prop:=∀ a,a≠C.env.locals->(C.own=true->∀ x,C.env.cells.lookup x≠some a)->X' a=X a
theorem XE.refl {C:Cx W}{X:Addr->Option Obj}:XE C X X:=λø ø ø=>rfl
theorem XE.trans {C:Cx W}{X X' X'':Addr->Option Obj} (h:XE C X X') (h':XE C X' X''):XE C X X'':=λa x y=>(h' a x y).trans (h a x y)
theorem ObjNs.fn {o:Obj}{m m':Str->Option Value} (h:ObjNs o m) (h':ObjNs o m') (x:Str):m x=m' x:=by
 obtain ⟨es,ep,d,_,f⟩:=h
 obtain ⟨es',ep',d',_,f'⟩:=h'
 rw [d] at d'
 cases d'
 rw [<- f,<- f']
theorem getElem_set {lo:Lo}{i j:Nat}{v w:V} (h:(lo.set i (some v))[j]?=some (some w)):(j=i/\w=v)\/(j≠i/\lo[j]?=some (some w)):=by
 rw [List.getElem?_set] at h
 split at h
 ·rename_i e
  split at h
  ·cases h;exact .inl ⟨e.symm,rfl⟩
  ·cases h
 ·rename_i e;exact .inr ⟨λq=>e q.symm,h⟩
section
variable {A:Around}{m:Str->Option Value}{X:Addr->Option Obj}{lo:Lo}{σ:St}{s:Shared}{Er:Value->Shared->Prop}
theorem fx_upd {fl:List Env}{L:Addr}{a:Addr}{o':Obj} (h:FX fl L X) (hd:∀ e∈fl,e.frame=some a->a=L):FX fl L (upd X a o'):=by
 intro f hf
 obtain ⟨h1,Le,h2,h3⟩:=h f hf
 refine ⟨h1,Le,h2,?_⟩
 rcases h3 with h3 | ⟨p,es,ep,h3,h4⟩
 ·exact .inl h3
 ·by_cases q:Le=a
  ·subst q
   exact .inl (hd f hf h2)
  ·exact .inr ⟨p,es,ep,by rw [upd_ne _ _ q];exact h3,h4⟩
theorem store_ok {C:Cx W} (hC:C.of ck) {i:Nat}{y:Str}{u:Value}{v:V}{Q:Unit->Shared->Prop} (hi:chkVar ck i y=true) (hV:VOk C m X lo) (H:HS W C.L m X σ s.heap) (hu:av u=some v)
 (K:∀ h' t' m' X',HS W C.L m' X' σ h'->VOk C m' X' (lo.set i (some v))->XE C X X'->(C.env.locals≠C.L->C.own=false->m'=m)->Q () { s with heap:=h',toks:=t' }):wpAny (Mo W) A (storeName C.env y u) Q Er s:=by
 unfold chkVar at hi
 simp only [Bool.and_eq_true,Bool.or_eq_true,beq_iff_eq] at hi
 obtain ⟨hi,hk⟩:=hi
 rw [<- hC.1] at hi
 rw [<- C.kind hC,<- hC.2.2] at hk
 have far:∀ {j:Nat}{x:Str},j≠i->C.vt[j]?=some x->x≠y:=λ{j x} hne hx e=>by
  subst e
  exact hne (C.nd _ _ _ hx hi)
 have hp:(C.env.scope.kind == .class || (C.env.scope.kind == .module&&C.env.locals != C.env.globals))=false:=by rw [C.fn];rfl
 rcases hk with hk | hk
 ·rcases hV.dict with hd | ⟨o,mc,h1,h2,hfr⟩
  ·have hns:s.heap.Ns C.env.locals m:=by rw [hd];exact H.fr.ns
   refine wpAny_storeName_local hk hns (λh' hn hs=>?_) hp
   rw [hd] at hn hs
   refine K h' _ _ X (H.sameF hs hn) ⟨λj w hw=>?_,hV.fx,hV.cells,hV.dict⟩ XE.refl (λe ø=>absurd hd e)
   rcases getElem_set hw with ⟨rfl,rfl⟩ | ⟨hne,hw⟩
   ·exact ⟨y,u,hi,hu,.loc hk hd (by simp)⟩
   ·obtain ⟨x,u',e1,e2,r⟩:=hV.vars j w hw
    refine ⟨x,u',e1,e2,?_⟩
    cases r with
    | loc hk hl h=>exact .loc hk hl (by rw [if_neg (far hne e1)];exact h)
    | com o mc hk h1 h2 h=>exact .com o mc hk h1 h2 h
    | cel a o hk h1 h2 h=>exact .cel a o hk h1 h2 h
  ·refine wpAny_storeName_local hk (H.ns C h1 h2) (λh' hn hs=>?_) hp
   obtain ⟨o',es,ep,ho',hd',hsk,hf⟩:=hn
   have n':ObjNs o' (λx=>if x=y then some u else mc x):=⟨es,ep,hd',hsk,hf⟩
   have cne:∀ {b:Addr}{p:Obj}{w:Option Value},X b=some p->p.data=.cell w->b≠C.env.locals:=λhb hc e=>by
    subst e;rw [h1] at hb;cases hb
    obtain ⟨_,_,d,_⟩:=h2;rw [d] at hc;cases hc
   refine K h' _ m _ (H.sameX h1 hs ho') ⟨λj w hw=>?_,fx_upd hV.fx (λe he q=>absurd q (hfr e he)),λx a hx=>?_,.inr ⟨o',_,upd_same _ _ _,n',hfr⟩⟩ (λa ha ø=>upd_ne _ _ ha) (λø ø=>rfl)
   ·rcases getElem_set hw with ⟨rfl,rfl⟩ | ⟨hne,hw⟩
    ·exact ⟨y,u,hi,hu,.com o' _ hk (upd_same _ _ _) n' (by simp)⟩
    ·obtain ⟨x,u',e1,e2,r⟩:=hV.vars j w hw
     refine ⟨x,u',e1,e2,?_⟩
     cases r with
     | loc hk hl h=>exact .loc hk hl h
     | com o2 mc2 hk q1 q2 h=>
       rw [h1] at q1;cases q1
       exact .com o' _ hk (upd_same _ _ _) n' (by rw [if_neg (far hne e1),h2.fn q2];exact h)
     | cel a o2 hk q1 q2 h=>exact .cel a o2 hk q1 (by rw [upd_ne _ _ (cne q2 h)];exact q2) h
   ·obtain ⟨p,w,q1,q2⟩:=hV.cells x a hx
    exact ⟨p,w,by rw [upd_ne _ _ (cne q1 q2)];exact q1,q2⟩
 ·obtain ⟨how,hk⟩:=hk
  obtain ⟨a,ha⟩:=C.cb y hk
  obtain ⟨o,w₀,h1,h2⟩:=hV.cells y a ha
  obtain ⟨o₁,g1,sl⟩:=H.at' h1
  refine wpAny_storeName_cell C.fn hk ha ⟨o₁,g1,by rw [sl.data];exact h2⟩ λh' hc hs=>?_
  obtain ⟨o',ho',hd'⟩:=hc
  have dne:∀ {b:Addr}{p:Obj}{mc:Str->Option Value},X b=some p->ObjNs p mc->b≠a:=λhb hn e=>by
   subst e;rw [h1] at hb;cases hb
   obtain ⟨_,_,d,_⟩:=hn;rw [d] at h2;cases h2
  refine K h' s.toks m _ (H.sameX h1 hs ho') ⟨λj w hw=>?_,fx_upd hV.fx (λe he q=>?_),λx b hx=>?_,?_⟩ (λb ø hb=>upd_ne _ _ λe=>hb how y (by rw [e];exact ha)) (λø ø=>rfl)
  ·rcases getElem_set hw with ⟨rfl,rfl⟩ | ⟨hne,hw⟩
   ·exact ⟨y,u,hi,hu,.cel a o' hk ha (upd_same _ _ _) hd'⟩
   ·obtain ⟨x,u',e1,e2,r⟩:=hV.vars j w hw
    refine ⟨x,u',e1,e2,?_⟩
    cases r with
    | loc hk hl h=>exact .loc hk hl h
    | com o2 mc2 hk q1 q2 h=>exact .com o2 mc2 hk (by rw [upd_ne _ _ (dne q1 q2)];exact q1) q2 h
    | cel b o2 hk q1 q2 h=>exact .cel b o2 hk q1 (by rw [upd_ne _ _ λe=>far hne e1 (C.ci _ _ _ (by rw [q1,e]) ha)];exact q2) h
  ·obtain ⟨_,Le,q2,q3⟩:=hV.fx e he
   rw [q] at q2;cases q2
   rcases q3 with q3 | ⟨p,es,ep,q3,q4,_⟩
   ·exact q3
   ·rw [h1] at q3;cases q3;rw [q4] at h2;cases h2
  ·by_cases e:b=a
   ·subst e;exact ⟨o',_,upd_same _ _ _,hd'⟩
   ·obtain ⟨p,w,q1,q2⟩:=hV.cells x b hx
    exact ⟨p,w,by rw [upd_ne _ _ e];exact q1,q2⟩
  ·rcases hV.dict with hd | ⟨p,mc,q1,q2,q3⟩
   ·exact .inl hd
   ·exact .inr ⟨p,mc,by rw [upd_ne _ _ (dne q1 q2)];exact q1,q2,q3⟩
theorem assign_vars {C:Cx W} (hC:C.of ck) {Q:Unit->Shared->Prop}:∀ {is:List Nat}{xs:List Expr}{us:List Value}{vs:List V}{m:Str->Option Value}{X:Addr->Option Obj}{lo:Lo}{s:Shared},chkVars ck is xs=true->vs.length=is.length->VOk C m X lo->HS W C.L m X σ s.heap->Vs us vs ->
 (∀ h' t' m' X',HS W C.L m' X' σ h'->VOk C m' X' (bindMany is vs lo)->XE C X X'->(C.env.locals≠C.L->C.own=false->m'=m)->Q () { s with heap:=h',toks:=t' })->wpAny (Mo W) A (assignInOrder ((assignEach xs C.env).map (λø=>ø.2)) us) Q Er s:=by
 intro is
 induction is with
 | nil=>
   intro xs us vs m X lo s hc hl hV H hvs K
   refine un_ok (P:=λxs=>wpAny (Mo W) A (assignInOrder ((assignEach xs C.env).map (λø=>ø.2)) us) Q Er s) hc ?_
   cases vs with
   | cons=>cases hl
   | nil=>exact assignInOrder_nil (K s.heap s.toks m X H hV XE.refl λø ø=>rfl)
 | cons i is ih=>
   intro xs us vs m X lo s hc hl hV H hvs K
   cases vs with
   | nil=>cases hl
   | cons v vs=>
     refine uc_ok (P:=λxs=>wpAny (Mo W) A (assignInOrder ((assignEach xs C.env).map (λø=>ø.2)) us) Q Er s) hc λx xs hc=>?_
     refine oNm_ok (P:=λx=>wpAny (Mo W) A (assignInOrder ((assignEach (x::xs) C.env).map (λø=>ø.2)) us) Q Er s) (aL hc) λy q hy=>?_
     obtain ⟨u,us',rfl,e1,e2⟩:=hvs.uncons
     show wpAny _ _ (assignInOrder (assign (.Name y q) C.env::(assignEach xs C.env).map (λø=>ø.2)) (u::us')) _ _ _
     refine assignInOrder_cons (PySem.wpAny_assign_Name (store_ok hC hy hV H e1 λh1 t1 m1 X1 H1 V1 x1 y1=>?_))
     exact ih (aR hc) (Nat.succ.inj hl) V1 H1 e2 λh2 t2 m2 X2 H2 V2 x2 y2=>K h2 t2 m2 X2 H2 V2 (x1.trans x2) λa b=>(y2 a b).trans (y1 a b)
theorem assignEach_len {env:Env}:∀ {is:List Nat}{xs:List Expr},chkVars ck is xs=true->(assignEach xs env).length=is.length/\(assignEach xs env).findIdx? (λø=>ø.1)=none:=by
 intro is
 induction is with
 | nil=>intro xs h;exact un_ok (P:=λxs=>(assignEach xs env).length=0/\(assignEach xs env).findIdx? (λø=>ø.1)=none) h ⟨rfl,rfl⟩
 | cons i is ih=>
   intro xs h
   refine uc_ok (P:=λxs=>(assignEach xs env).length=is.length+1/\(assignEach xs env).findIdx? (λø=>ø.1)=none) h λx xs h=>?_
   refine oNm_ok (P:=λx=>(assignEach (x::xs) env).length=is.length+1/\(assignEach (x::xs) env).findIdx? (λø=>ø.1)=none) (aL h) λy q hy=>?_
   refine ⟨congrArg (·+1) (ih (aR h)).1,?_⟩
   show List.findIdx? (λø=>ø.1) ((false,assign (.Name y q) env)::assignEach xs env)=none
   rw [List.findIdx?_cons,(ih (aR h)).2];rfl
theorem bind_ok {C:Cx W} (hC:C.of ck) {t:Tgt}{x:Expr}{u:Value}{v:V}{Q:Unit->Shared->Prop}{k:Lo->Prop} (hA:A.handled=none) (hc:chkT ck t x=true) (hV:VOk C m X lo) (H:HS W C.L m X σ s.heap) (hu:av u=some v) (hw:bindT t v lo σ k)
 (K:∀ h' t' m' X' lo',HS W C.L m' X' σ h'->VOk C m' X' lo'->XE C X X'->(C.env.locals≠C.L->C.own=false->m'=m)->k lo'->Q () { s with heap:=h',toks:=t' }):wpAny (Mo W) A (assign x C.env u) Q Er s:=by
 cases t with
 | one i=>
   have hc:oNm (λy ø=>chkVar ck i y) x=true:=hc
   exact oNm_ok (P:=λx=>wpAny (Mo W) A (assign x C.env u) Q Er s) hc λy q hc=>PySem.wpAny_assign_Name (store_ok hC hc hV H hu λh1 t1 m1 X1 H1 V1 x1 y1=>K h1 t1 m1 X1 _ H1 V1 x1 y1 hw)
 | many is=>
   have hc:oTp (chkVars ck is) x=true:=hc
   refine oTp_ok (P:=λx=>wpAny (Mo W) A (assign x C.env u) Q Er s) hc λxs kk q hc=>?_
   refine eR (P:=λu=>wpAny (Mo W) A (assign (.Tuple xs kk q) C.env u) Q Er s) hu (show kMany is (λlo ø=>k lo) lo v σ from hw) λa hw=>gS_ok hw λvs e hw=>H.getTK e λus c i1 v1 ø=>?_
   have l1:us.size=vs.length:=by rw [<- Array.length_toList,v1.len]
   have z:=assignEach_len (env:=C.env) hc
   rw [arm_assign_Tuple]
   refine wpAny_bind (wpAny_standAt (wpAny_unpack_tuple hA ⟨_,i1,rfl,_,rfl⟩ (by rw [z.1,l1];exact hw.1.symm) z.2 λh1 he=>?_))
   have H1:HS W C.L m X σ h1:=H.keeps λb o e=>he b o (Nat.ne_of_lt (Heap.lt_size e)) e
   exact assign_vars hC hc hw.1 hV H1 v1 λh2 t2 m2 X2 H2 V2 x2 y2=>K h2 t2 m2 X2 _ H2 V2 x2 y2 hw.2
theorem HS.dropX {L:Addr}{it:Addr}{o:Obj}{h h':Heap} (H:HS W L m (upd X it o) σ h) (hx:X it=none) (hk:∀ b p,b≠it->h.get? b=some p->h'.get? b=some p):HS W L m X σ h':=by
 obtain ⟨l,hn,N,Ab⟩:=H.led
 obtain ⟨o₁,hm,_⟩:=Ab.ex it o (upd_same _ _ _)
 have hit:=N _ (Led.mem_pl hm)
 obtain ⟨oL,es,ep,hL,r⟩:=H.fr.ns
 have iL:L≠it:=λe=>hit.2.1 e.symm
 refine ⟨⟨⟨oL,es,ep,hk _ _ iL hL,r⟩,λb p e=>hk _ _ (λq=>?_) (H.fr.keep b p e),H.fr.above⟩,⟨l.filter λe=>decide (e.1≠it),?_,λp hp=>?_,?_⟩,H.st⟩
 ·subst q;rw [hit.2.2] at e;cases e
 ·exact hn.sublist (List.filter_sublist.map _)
 ·obtain ⟨e,he,rfl⟩:=List.mem_map.mp hp
  obtain ⟨he1,he2⟩:=List.mem_filter.mp he
  have P:=N _ (List.mem_map.mpr ⟨e,he1,rfl⟩)
  exact ⟨hk _ _ (by simpa using he2) P.1,P.2⟩
 ·have keep:∀ {a:Addr}{ro:Role}{p:Obj},(a,ro,p)∈l->ro≠.ex->(a,ro,p)∈l.filter λe=>decide (e.1≠it):=λ{a ro p} h1 h2=>
   List.mem_filter.mpr ⟨h1,by
    simp only [decide_eq_true_eq]
    intro e;subst e;exact h2 (Led.uniq hn h1 hm).1⟩
  refine ⟨Ab.instU (P:=(·≠.ex)) (λh y=>keep y h) nofun λø=>nofun,Ab.lstU (P:=(·≠.ex)) (λh y=>keep y h) nofun,Ab.tupU (P:=(·≠.ex)) (λh y=>keep y h) nofun,Ab.dctU (P:=(·≠.ex)) (λh y=>keep y h) nofun nofun,λa p q=>?_⟩
  have hne:a≠it:=λe=>by subst e;rw [hx] at q;cases q
  obtain ⟨p',y,z⟩:=Ab.ex a p (by rw [upd_ne _ _ hne];exact q)
  exact ⟨p',List.mem_filter.mpr ⟨y,by simpa using hne⟩,z⟩
end
end
section
variable {W:Wd}{Φ:Phi}{n:Nat}{ck:Ck}
noncomputable def clsOf (env:Env):List (Str×NameKind)->List (Str×Addr)->List (Str×Addr)
 | [],acc=>acc
 | (x,k)::r,acc=>clsOf env r (if k == .free then (x,(env.cells.lookup x).getD 0)::acc else acc)
theorem closure_eq {scope:Scope}{env:Env} (h:∀ p∈scope.names,p.2=.free->∃ a,env.cells.lookup p.1=some a):closureFor scope env=pure (clsOf env scope.names []):=by
 simp only [closureFor]
 have:∀ (names:List (Str×NameKind)) (acc:List (Str×Addr)),(∀ p∈names,p.2=.free->∃ a,env.cells.lookup p.1=some a) ->
  (forIn names acc λx r=>match x with
    | (name,kind)=>if (kind == NameKind.free)=true then do
     let __do_lift <- cellOf env name
     pure (ForInStep.yield ((name,__do_lift)::r))
      else pure (ForInStep.yield r):Sem (List (Str×Addr)))=pure (clsOf env names acc):=by
  intro names
  induction names with
  | nil=>intro acc _;rfl
  | cons p r ih=>
    intro acc hp
    obtain ⟨x,k⟩:=p
    rw [List.forIn_cons]
    by_cases hk:k=.free
    ·obtain ⟨a,ha⟩:=hp (x,k) (.head _) hk
     subst hk
     have e:cellOf env x=pure a:=by unfold cellOf;rw [ha]
     simp only [beq_self_eq_true,if_true,e]
     show (forIn r ((x,a)::acc) _:Sem _)=_
     rw [ih _ λp hp'=>hp p (.tail _ hp')]
     show _=pure (clsOf env r ((x,(env.cells.lookup x).getD 0)::acc));rw [ha];rfl
    ·have:(k == NameKind.free)=false:=by simpa using hk
     simp only [this,Bool.false_eq_true,if_false]
     show (forIn r acc _:Sem _)=_
     rw [ih _ λp hp'=>hp p (.tail _ hp')]
     show _=pure (clsOf env r (if k == .free then (x,(env.cells.lookup x).getD 0)::acc else acc));rw [this,if_neg Bool.false_ne_true]
 have:=this scope.names [] h
 refine (congrArg (λ(z:Sem (List (Str×Addr)))=>z >>= λcs=>pure cs) this).trans ?_
 rw [pure_bind]
theorem cls_of {env:Env}:∀ {names:List (Str×NameKind)}{acc:List (Str×Addr)}{x:Str}{a:Addr},(∀ p∈names,p.2=.free->∃ a,env.cells.lookup p.1=some a)->(∀ x a,acc.lookup x=some a->env.cells.lookup x=some a)->(clsOf env names acc).lookup x=some a->env.cells.lookup x=some a
 | [],acc,x,a,_,h,e=>h x a e
 | (y,k)::r,acc,x,a,hp,h,e=>by
   refine cls_of (names:=r) (λp hp'=>hp p (.tail _ hp')) (λz b hz=>?_) e
   by_cases hk:k=.free
   ·subst hk
    simp only [beq_self_eq_true,if_true] at hz
    obtain ⟨c,hc⟩:=hp (y,.free) (.head _) rfl
    rw [List.lookup_cons] at hz
    split at hz
    ·rename_i q;cases hz
     have:z=y:=by simpa using q
     subst this
     rw [hc];simp
    ·exact h z b hz
   ·have:(k == NameKind.free)=false:=by simpa using hk
    simp only [this,Bool.false_eq_true,if_false] at hz
    exact h z b hz
theorem cls_mem {env:Env}{x:Str}:∀ {names:List (Str×NameKind)}{acc:List (Str×Addr)},((x,NameKind.free)∈names\/∃ a,acc.lookup x=some a)->∃ a,(clsOf env names acc).lookup x=some a
 | [],acc,h=>by
   rcases h with h | h
   ·cases h
   ·exact h
 | (y,k)::r,acc,h=>by
   refine cls_mem (names:=r) ?_
   rcases h with h | ⟨a,h⟩
   ·rcases List.mem_cons.mp h with e | h
    ·cases e
     exact .inr ⟨(env.cells.lookup x).getD 0,by simp⟩
    ·exact .inl h
   ·by_cases q:x=y
    ·subst q
     split
     ·exact .inr ⟨(env.cells.lookup x).getD 0,by simp⟩
     ·exact .inr ⟨a,h⟩
    ·have q':(x == y)=false:=by simpa using q
     split
     ·exact .inr ⟨a,by rw [List.lookup_cons,q'];exact h⟩
     ·exact .inr ⟨a,h⟩
theorem lookup_mem {x:Str}{k:NameKind}:∀ {l:List (Str×NameKind)},l.lookup x=some k->(x,k)∈l
 | [],h=>by cases h
 | (y,j)::r,h=>by
   rw [List.lookup_cons] at h
   split at h
   ·rename_i q;cases h
    have:x=y:=by simpa using q
    subst this;exact .head _
   ·exact .tail _ (lookup_mem h)
theorem lookup_of_nodup {x:Str}{k:NameKind}:∀ {l:List (Str×NameKind)},nodupB (l.map (λø=>ø.1))=true->(x,k)∈l->l.lookup x=some k
 | [],_,h=>by cases h
 | (y,j)::r,hn,h=>by
   rw [List.map_cons,nodupB_cons,Bool.and_eq_true] at hn
   rw [List.lookup_cons]
   rcases List.mem_cons.mp h with e | hm
   ·cases e;simp
   ·have:(x == y)=false:=by
     simp only [beq_eq_false_iff_ne]
     intro e;subst e
     have:=hn.1
     simp only [Bool.not_eq_true',List.contains_eq_mem,decide_eq_false_iff_not] at this
     exact this (List.mem_map.mpr ⟨(x,k),hm,rfl⟩)
    rw [this];exact lookup_of_nodup hn.2 hm
theorem nodupB_inj:∀ {l:List Str},nodupB l=true->∀ (i j:Nat) (x:Str),l[i]?=some x->l[j]?=some x->i=j
 | [],_,i,j,x,h,_=>by simp at h
 | y::l,hn,i,j,x,h,h'=>by
   rw [nodupB_cons,Bool.and_eq_true] at hn
   have out:∀ k:Nat,l[k]?=some y->False:=λk e=>by
    have:=hn.1
    simp only [Bool.not_eq_true',List.contains_eq_mem,decide_eq_false_iff_not] at this
    exact this (List.mem_of_getElem? e)
   cases i with
   | zero=>cases j with
     | zero=>rfl
     | succ j=>simp at h h';subst h;exact (out j h').elim
   | succ i=>cases j with
     | zero=>simp at h h';subst h';exact (out i h).elim
     | succ j=>simp at h h';rw [nodupB_inj hn.2 i j x h h']
theorem relabel_names {C:Cx W} (hC:C.of ck) (scope:Scope):(relabel scope C.env).names=compScope ck.sc scope.names:=by
 unfold relabel compScope
 refine List.map_congr_left λp ø=>?_
 obtain ⟨x,k⟩:=p
 dsimp only
 rw [C.kind hC,C.fn]
 simp
theorem compScope_lookup {outer:List (Str×NameKind)}{x:Str}:∀ {sc:List (Str×NameKind)},(compScope outer sc).lookup x=(sc.lookup x).map λk=>if k == .free&&outer.lookup x == some .cell then .cell else k
 | []=>rfl
 | (y,k)::r=>by
   have ih:=compScope_lookup (outer:=outer) (x:=x) (sc:=r)
   show List.lookup x ((if (k == .free&&outer.lookup y == some .cell)=true then (y,.cell) else (y,k))::compScope outer r)=_
   by_cases c:(k == .free&&outer.lookup y == some .cell)=true
   ·rw [if_pos c,List.lookup_cons,List.lookup_cons,ih]
    by_cases q:x=y
    ·subst q
     rw [beq_self_eq_true]
     dsimp only
     rw [Option.map_some,if_pos c]
    ·have q':(x == y)=false:=by simpa using q
     rw [q']
   ·rw [if_neg c,List.lookup_cons,List.lookup_cons,ih]
    by_cases q:x=y
    ·subst q
     rw [beq_self_eq_true]
     dsimp only
     rw [Option.map_some,if_neg c]
    ·have q':(x == y)=false:=by simpa using q
     rw [q']
theorem nil_none {env:Env}:∀ (x:Str) (a:Addr),([]:List (Str×Addr)).lookup x=some a->env.cells.lookup x=some a:=λø ø h=>by cases h
noncomputable def Cx.comp (C:Cx W) (hC:C.of ck) (fvs:List Nat) (scope:Scope) (D:Addr) (hk:scope.kind=.function) (h1:nodupB (compCk ck fvs scope.names).vt=true) (h2:compOk ck.sc scope.names=true):Cx W where
 env:=compEnvC scope (clsOf C.env scope.names []) D C.env
 L:=C.L
 fl:=C.fl
 vt:=(compCk ck fvs scope.names).vt
 own:=false
 top:=λh=>(Bool.false_ne_true h).elim
 fn:=hk
 gl:=C.gl
 bu:=C.bu
 nd:=nodupB_inj h1
 cb:=λx hx=>by
  have hx:(relabel scope C.env).names.lookup x=some .cell:=hx
  rw [relabel_names hC,compScope_lookup] at hx
  unfold compOk at h2
  rw [Bool.and_eq_true] at h2
  cases q:scope.names.lookup x with
  | none=>rw [q] at hx;cases hx
  | some k=>
    rw [q] at hx
    simp only [Option.map_some,Option.some.injEq] at hx
    have hm:=lookup_mem q
    have:=List.all_eq_true.mp h2.2 _ hm
    simp only [Bool.and_eq_true,Bool.not_eq_true',beq_eq_false_iff_ne] at this
    split at hx
    ·rename_i hc
     simp only [Bool.and_eq_true,beq_iff_eq] at hc
     rw [hc.1] at hm
     exact cls_mem (.inl hm)
    ·exact absurd hx this.1
 ci:=λx y a h h'=>by
  have fr:∀ p∈scope.names,p.2=.free->∃ a,C.env.cells.lookup p.1=some a:=λp hp hf=>by
   unfold compOk at h2
   rw [Bool.and_eq_true] at h2
   have:=List.all_eq_true.mp h2.2 _ hp
   simp only [Bool.and_eq_true,Bool.or_eq_true,Bool.not_eq_true',beq_iff_eq,hf] at this
   rcases this.2 with h | h
   ·cases h
   ·exact C.cb p.1 (by rw [C.kind hC];exact h)
  exact C.ci x y a (cls_of fr nil_none h) (cls_of fr nil_none h')
theorem compOk_free {C:Cx W} (hC:C.of ck) {sc:List (Str×NameKind)} (h2:compOk ck.sc sc=true):∀ p∈sc,p.2=.free->∃ a,C.env.cells.lookup p.1=some a:=λp hp hf=>by
 unfold compOk at h2
 rw [Bool.and_eq_true] at h2
 have:=List.all_eq_true.mp h2.2 _ hp
 simp only [Bool.and_eq_true,Bool.or_eq_true,Bool.not_eq_true',beq_iff_eq,hf] at this
 rcases this.2 with h | h
 ·cases h
 ·exact C.cb p.1 (by rw [C.kind hC];exact h)
theorem Cx.comp_of {C:Cx W} (hC:C.of ck) {fvs:List Nat}{scope:Scope}{D:Addr} (hk:scope.kind=.function) (h1:nodupB (compCk ck fvs scope.names).vt=true) (h2:compOk ck.sc scope.names=true) :
 (C.comp hC fvs scope D hk h1 h2).of (compCk ck fvs scope.names):=⟨rfl,relabel_names hC scope,rfl⟩
theorem filterMap_all {α β:Type}{f:α->Option β}:∀ {l:List α}{i:Nat}{a:α},(∀ x∈l,(f x).isSome)->l[i]?=some a->(l.filterMap f)[i]?=f a
 | [],i,a,_,h=>by simp at h
 | x::l,i,a,ha,h=>by
   have hx:=ha x (.head _)
   cases q:f x with
   | none=>rw [q] at hx;cases hx
   | some b=>
     rw [List.filterMap_cons_some q]
     cases i with
     | zero=>simp at h;subst h;simp [q]
     | succ i=>simp at h |-;exact filterMap_all (λy hy=>ha y (.tail _ hy)) h
theorem fx_mono {fl:List Env}{L:Addr}{X X':Addr->Option Obj} (h:FX fl L X) (g:∀ a o,X a=some o->X' a=some o):FX fl L X':=λe he=>by
 obtain ⟨h1,Le,h2,h3⟩:=h e he
 refine ⟨h1,Le,h2,?_⟩
 rcases h3 with h3 | ⟨p,es,ep,h3,h4⟩
 ·exact .inl h3
 ·exact .inr ⟨p,es,ep,g _ _ h3,h4⟩
theorem comp_vok {C:Cx W} (hC:C.of ck) {fvs:List Nat}{scope:Scope}{D:Addr} (hk:scope.kind=.function) (h1:nodupB (compCk ck fvs scope.names).vt=true) (h2:compOk ck.sc scope.names=true)
 {m:Str->Option Value}{X X':Addr->Option Obj}{lo:Lo}{nl:Nat}{oC:Obj}{mC:Str->Option Value} (hV:VOk C m X lo) (hg:∀ a o,X a=some o->X' a=some o) (hD:X' D=some oC) (hN:ObjNs oC mC) (hfr:∀ e∈C.fl,e.frame≠some D)
 (hf:(fvs.all λi=>(ck.vt[i]?).any λn=>scope.names.lookup n == some .free)=true) :
 VOk (C.comp hC fvs scope D hk h1 h2) m X' (fvs.map (λi=>(lo[i]?).join)++List.replicate nl Option.none) where
 vars:=λi v h=>by
  have hi:i<fvs.length:=by
   by_cases q:i<fvs.length
   ·exact q
   ·rw [List.getElem?_append_right (by simpa using q)] at h
    rw [List.getElem?_replicate] at h
    split at h <;> cases h
  rw [List.getElem?_append_left (by simpa using hi),List.getElem?_map] at h
  have hj:fvs[i]?=some fvs[i]:=List.getElem?_eq_getElem hi
  rw [hj] at h
  have h:(lo[fvs[i]]?).join=some v:=by simpa using h
  have h':lo[fvs[i]]?=some (some v):=by
   cases q:lo[fvs[i]]? with
   | none=>rw [q] at h;cases h
   | some w=>rw [q] at h;simp at h;rw [h]
  obtain ⟨x,u,e1,e2,r⟩:=hV.vars _ v h'
  rw [hC.1] at e1
  have hfi:=List.all_eq_true.mp hf _ (List.getElem_mem hi)
  rw [e1] at hfi
  simp only [Option.any_some,beq_iff_eq] at hfi
  have some_of:∀ y∈fvs,(ck.vt[y]?).isSome:=λy hy=>by
   have:=List.all_eq_true.mp hf _ hy
   cases q:ck.vt[y]? with
   | none=>rw [q] at this;cases this
   | some z=>rfl
  refine ⟨x,u,?_,e2,?_⟩
  ·show (fvs.filterMap (λi=>ck.vt[i]?)++compNames scope.names)[i]?=some x
   have e:=filterMap_all some_of hj
   rw [List.getElem?_append_left,e,e1]
   ·rw [e1] at e
    exact (List.getElem?_eq_some_iff.mp e).1
  ·have hm:=lookup_mem hfi
   have h2':=h2
   unfold compOk at h2'
   rw [Bool.and_eq_true] at h2'
   have:=List.all_eq_true.mp h2'.2 _ hm
   simp only [Bool.and_eq_true,Bool.or_eq_true,Bool.not_eq_true',beq_iff_eq] at this
   have hcell:ck.sc.lookup x=some .cell:=by
    rcases this.2 with h | h
    ·cases h
    ·exact h
   have kc:C.env.kindOf x=some .cell:=by rw [C.kind hC];exact hcell
   have knew:(C.comp hC fvs scope D hk h1 h2).env.kindOf x=some .cell:=by
    show (relabel scope C.env).names.lookup x=some .cell
    rw [relabel_names hC,compScope_lookup,hfi]
    simp [hcell]
   cases r with
   | loc k _ _=>rw [kc] at k;cases k
   | com _ _ k _ _ _=>rw [kc] at k;cases k
   | cel a o _ q1 q2 q3=>
     obtain ⟨b,hb⟩:=cls_mem (env:=C.env) (acc:=[]) (.inl hm)
     have:=cls_of (compOk_free hC h2) nil_none hb
     rw [q1] at this;cases this
     exact .cel a o knew hb (hg _ _ q2) q3
 fx:=fx_mono hV.fx hg
 cells:=λx a h=>by
  obtain ⟨o,v,q1,q2⟩:=hV.cells x a (cls_of (compOk_free hC h2) nil_none h)
  exact ⟨o,v,hg _ _ q1,q2⟩
 dict:=.inr ⟨oC,mC,hD,hN,hfr⟩
end
section
variable {W:Wd}{Φ:Phi}{n:Nat}{ck:Ck}
theorem set_plain' {it:Expr} (h:isSet it=false) (env:Env) (x:Value):foldedSetIterable it env x=pure x:=by
 cases it <;> first | rfl | cases h
theorem upd_comm {α:Type} (f:Nat->Option α) {a b:Nat} (x y:α) (h:a≠b):upd (upd f a x) b y=upd (upd f b y) a x:=by
 funext c;unfold upd
 by_cases h1:c=b
 ·have h2:¬ c=a:=λe=>h (by rw [<- e,h1])
  rw [if_pos h1,if_neg h2,if_pos h1]
 ·rw [if_neg h1]
  by_cases h2:c=a
  ·rw [if_pos h2,if_pos h2]
  ·rw [if_neg h2,if_neg h2,if_neg h1]
theorem comp_core {C:Cx W} (hC:C.of ck) {fvs:List Nat}{nl:Nat}{t:Tgt}{src:Src}{cnd e:E}{x tg it:Expr}{ifs:List Expr}{scope:Scope}{pos pos':Pos}
 (hk:scope.kind=.function) (h1:nodupB (compCk ck fvs scope.names).vt=true) (h2:compOk ck.sc scope.names=true) (hf:(fvs.all λi=>(ck.vt[i]?).any λn=>scope.names.lookup n == some .free)=true) (hset:isSet it=false)
 (ht:chkT (compCk ck fvs scope.names) t tg=true) (hs:SSrc W Φ n ck src it) (he:SE (W:=W) Φ n (compCk ck fvs scope.names) e x)
 (hif:(ifs=[]/\cnd=.tru)\/∃ y,ifs=[y]/\SC (W:=W) Φ n (compCk ck fvs scope.names) cnd y)
 {A:Around}{m:Str->Option Value}{X:Addr->Option Obj}{lo:Lo}{σ:St}{s:Shared}{Q:Value->Shared->Prop}{Er:Value->Shared->Prop}{k:KV}{use:Option (Value->Sem Unit)}
 (hA:ACond A C.fl n) (hV:VOk C m X lo) (H:HS W C.L m X σ s.heap) (hw:wpE W.N.TB Φ (.comp fvs nl t src cnd e) lo σ k)
 (K:∀ l D oC mC h' t' σ',X D=none->ObjNs oC mC->HS W C.L m (upd X D oC) σ' h'->k (.ref l) σ'->compPost (Mo W) A Er use Q (.ref l) D (.ok .next) { s with heap:=h',toks:=t' }) :
 wpAny (Mo W) A (comprehension (.ListComp x [⟨tg,it,ifs,0⟩] scope pos) scope C.env pos' (newList []) false (eval it C.env) use) Q Er s:=by
 have h2':=h2
 unfold compOk at h2'
 rw [Bool.and_eq_true] at h2'
 have hcell:∀ y∈scope.names,y.2≠.cell:=λy hy=>by
  have:=List.all_eq_true.mp h2'.2 _ hy
  simp only [Bool.and_eq_true,Bool.not_eq_true',beq_eq_false_iff_ne] at this
  exact this.1
 refine wpAny_comprehension_free rfl (λx=>set_plain' hset _ x) (closure_eq (compOk_free hC h2)) hk (λy hy hl=>lookup_of_nodup h2'.1 (by rw [<- hl];exact hy)) ?_
 refine hs C hC A m X lo σ s _ Er _ hA hV H hw λxs g σ1 iA o₀ ha t1 S hX H1 T S0 w1=>?_
 refine wpAny_newObj_type ?_ (Nat.zero_le _)
 have H2:=H1.newL (us:=[]) Vs.nil (Nat.zero_le _) 0
 have w2:=w1 _ H1.fresh.1
 refine wpAny_newFunctionEnv hcell (by intro y hy;simp at hy) (λh3 hns hsb=>?_) hk
 have D0:=H2.fresh.2
 have H3:=H2.newX { cls:=.type "dict",data:=.dict #[] } rfl
 obtain ⟨oC₀,es,ep,hoC,hd,hsk,hfi⟩:=hns
 have H4:=H3.sameX (upd_same _ _ _) hsb hoC
 rw [upd_upd] at H4
 have N0:ObjNs oC₀ (λx=>([]:List (Str×Value)).reverse.lookup x):=⟨es,ep,hd,hsk,hfi⟩
 have D1:(ha.push (listOf ([]:List Value).toArray 0)).objs.size≠iA:=λe=>by
  rw [e] at D0;rw [upd_same] at D0;cases D0
 have D2:X (ha.push (listOf ([]:List Value).toArray 0)).objs.size=none:=by rw [upd_ne _ _ D1] at D0;exact D0
 have DL:=H4.atne (upd_same _ _ _)
 show codeAny (Mo W) A (.compStart (.ListComp x [⟨tg,it,ifs,0⟩] scope pos) 0 (.ref iA) (.ref ha.objs.size) (compEnvC scope (clsOf C.env scope.names []) (ha.push (listOf ([]:List Value).toArray 0)).objs.size C.env))
  (compPost (Mo W) A Er use Q (.ref ha.objs.size) (ha.push (listOf ([]:List Value).toArray 0)).objs.size) _
 generalize (ha.push (listOf ([]:List Value).toArray 0)).objs.size=D at D0 H4 D1 D2 DL hsb hoC |-
 generalize ha.objs.size=l at w2 H4 |-
 let C':Cx W:=C.comp hC fvs scope D hk h1 h2
 have hC':C'.of (compCk ck fvs scope.names):=Cx.comp_of hC hk h1 h2
 let lo0:Lo:=fvs.map (λi=>(lo[i]?).join)++List.replicate nl Option.none
 let cW:=λlo σ k=>wpC W.N.TB Φ cnd lo σ (wpE W.N.TB Φ cnd lo σ) k
 let eW:=λlo σ k=>wpE W.N.TB Φ e lo σ k
 let I:Nat->Shared->Prop:=λn s'=>∀ P:Prop,(∀ i o oC mC σ h tk,s'={ s with heap:=h,toks:=tk }->n=xs.length - i->i<=xs.length->S i o->ObjNs oC mC ->
  HS W C.L m (upd (upd X iA o) D oC) σ h->compW l t g cW eW lo0 (λσ=>k (.ref l) σ) (xs.drop i) σ->P)->P
 let N:Value->Shared->Prop:=notedBy (Mo W) A C'.env λe s'=>compPost (Mo W) A Er use Q (.ref l) D (.error e) s'
 have hA':ACond A C'.fl n:=hA
 have vok:∀ {o oC:Obj}{mC:Str->Option Value},ObjNs oC mC->VOk C' m (upd (upd X iA o) D oC) lo0:=λ{o oC mC} hN=>
  comp_vok hC hk h1 h2 hV (λa p e=>by
   have a1:a≠D:=λq=>by rw [q,D2] at e;cases e
   have a2:a≠iA:=λq=>by rw [q,hX] at e;cases e
   rw [upd_ne _ _ a1,upd_ne _ _ a2];exact e) (upd_same _ _ _) hN (λe he q=>by
   obtain ⟨_,Le,q2,q3⟩:=hV.fx e he
   rw [q] at q2;cases q2
   rcases q3 with q3 | ⟨p,es,ep,q3,_⟩
   ·exact DL q3
   ·rw [D2] at q3;cases q3) hf
 have emit:∀ {n:Nat}{i:Nat}{o oC:Obj}{mC:Str->Option Value}{lo':Lo}{σ:St}{s':Shared}{E:Value->Shared->Prop}{h:Heap}{tk:Nat},s'={ s with heap:=h,toks:=tk }->n=xs.length - i->i<xs.length->S (i+1) o->ObjNs oC mC ->
  HS W C.L m (upd (upd X iA o) D oC) σ s'.heap->VOk C' m (upd (upd X iA o) D oC) lo' ->
  eW lo' σ (putK l λσ=>compW l t g cW eW lo0 (λσ=>k (.ref l) σ) (xs.drop (i+1)) σ) ->
  wpAny (Mo W) A (eval x C'.env) (λy s₄=>wpAny (Mo W) A (call (.builtin "list.append") [.ref l,y]) (λø s₅=>∃ m,m<n/\I m s₅) E s₄) E s':=by
  intro n i o oC mC lo' σ s' E h tk hs' hn hi hS hN H' hV' w
  subst hs'
  refine he C' hC' A m _ lo' σ _ _ E _ hA' hV' H' w λu v h4 t4 σ4 e4 H4' w4=>?_
  obtain ⟨id,q1,q2⟩:=op_meth1 (s:={ s with heap:=h4,toks:=t4 }) (A:=A) (E:=E) (Q:=λø s₅=>∃ m,m<n/\I m s₅) (a:=.ref l) (x:=.ref l) rfl e4 H4' (show meth1 true .append (.ref l) v σ4 (λø σ3=>compW l t g cW eW lo0 (λσ=>k (.ref l) σ) (xs.drop (i+1)) σ3) from w4) λu5 v5 h5 t5 σ5 e5 H5 w5=>
   ⟨xs.length - (i+1),by omega,λP k=>k (i+1) o oC mC σ5 h5 t5 rfl rfl hi hS hN H5 w5⟩
  cases q1
  exact q2
 have take:∀ {n:Nat}{s':Shared}{E:Value->Shared->Prop}{P:Nat->Nat->Value->Shared->Prop},I n s' ->
  (∀ {i:Nat}{x0:V}{u:Value}{o oC:Obj}{mC:Str->Option Value}{σ:St}{h:Heap}{tk:Nat},n=xs.length - i->i<xs.length->av u=some x0->S (i+1) o->ObjNs oC mC->HS W C.L m (upd (upd X iA o) D oC) σ h ->
    bindT t x0 lo0 σ (λlo1=>cW lo1 σ λb σ1=>gC b (eW lo1 σ1 (putK l λσ=>compW l t g cW eW lo0 (λσ=>k (.ref l) σ) (xs.drop (i+1)) σ)) (compW l t g cW eW lo0 (λσ=>k (.ref l) σ) (xs.drop (i+1)) σ1))->P n i u { s with heap:=h,toks:=tk }) ->
  wpAny (Mo W) A (pyNext (.ref iA)) (λr s₁=>match r with
   | none=>compPost (Mo W) A Er use Q (.ref l) D (.ok .next) s₁
   | some v=>∃ i,P n i v s₁) E s':=by
  intro n s' E P hI hP
  refine hI _ λi o oC mC σ h tk hs hn hi hS hN Hh w=>?_
  subst hs
  have hit:h.get? iA=some o:=Hh.at (by rw [upd_ne _ _ (Ne.symm D1)];exact upd_same _ _ _) (T.cls _ _ hS)
  by_cases q:i<xs.length
  ·have hd:xs.drop i=xs[i]::xs.drop (i+1):=List.drop_eq_getElem_cons q
   rw [hd] at w
   have hg:=w.1
   have w:=w.2
   refine T.item i xs[i] { s with heap:=h,toks:=tk } σ C.L m _ o _ E (List.getElem?_eq_getElem q) Hh hg hit hS λu h' o' tk' e1 S' ho' hfr hsb=>?_
   have Hh':=Hh.sameX (a:=iA) (by rw [upd_ne _ _ (Ne.symm D1)];exact upd_same _ _ _) hsb ho'
   rw [upd_comm _ _ _ D1,upd_upd] at Hh'
   exact ⟨i,hP hn q e1 S' hN Hh' w⟩
  ·have:i=xs.length:=by omega
   subst this
   rw [List.drop_length] at w
   refine T.stop { s with heap:=h,toks:=tk } σ C.L m _ o _ E Hh w.1 hit hS λh' tk' hx=>?_
   rw [upd_comm _ _ _ (Ne.symm D1)] at Hh
   have Hh':=Hh.dropX (h':=h') (by rw [upd_ne _ _ (Ne.symm D1)];exact hX) λb p hb e=>hx b p hb e
   exact K l D oC mC h' tk' σ D2 hN Hh' w.2
 have bound:∀ {i:Nat}{x0:V}{u:Value}{o oC:Obj}{mC:Str->Option Value}{σ:St}{h:Heap}{tk:Nat}{kl:Lo->Prop}{Q':Unit->Shared->Prop}{E:Value->Shared->Prop},av u=some x0->S (i+1) o->ObjNs oC mC->HS W C.L m (upd (upd X iA o) D oC) σ h->bindT t x0 lo0 σ kl ->
  (∀ {oC:Obj}{mC:Str->Option Value}{lo':Lo}{h:Heap}{tk:Nat},ObjNs oC mC->HS W C.L m (upd (upd X iA o) D oC) σ h->VOk C' m (upd (upd X iA o) D oC) lo'->kl lo'->Q' () { s with heap:=h,toks:=tk }) ->
  wpAny (Mo W) A (letOwnedTupleGo tg (.ref iA) u) (λø s₀=>wpAny (Mo W) A (assign tg C'.env u) Q' E s₀) E { s with heap:=h,toks:=tk }:=by
  intro i x0 u o oC mC σ h tk kl Q' E e1 hS hN Hh w hQ
  have hit:h.get? iA=some o:=Hh.at (by rw [upd_ne _ _ (Ne.symm D1)];exact upd_same _ _ _) (T.cls _ _ hS)
  refine T.go (i+1) { s with heap:=h,toks:=tk } o tg u _ E hit hS ?_
  refine bind_ok hC' hA.h ht (vok hN) Hh e1 w λh' t' m' X' lo' H' V' xe hm w'=>?_
  obtain rfl:=hm DL rfl
  rcases V'.dict with hd | ⟨oC',mC',q1,q2,_⟩
  ·exact absurd hd DL
  ·have hX':X'=upd (upd X iA o) D oC':=by
    funext a
    by_cases q:a=D
    ·subst q;rw [upd_same];exact q1
    ·rw [upd_ne _ _ q,xe a q (λe=>by cases e),upd_ne _ _ q]
   subst hX'
   exact hQ q2 H' V' w'
 have start:I xs.length { s with heap:=h3,toks:=t1+([]:List (Str×Value)).length }:=λP k=>k 0 o₀ oC₀ _ _ h3 _ rfl rfl (Nat.zero_le _) S0 N0 H4 w2
 have hit3:h3.get? iA=some o₀:=H4.at (by rw [upd_ne _ _ (Ne.symm D1)];exact upd_same _ _ _) (T.cls _ _ S0)
 have fin:codeAny (Mo W) A (.compLoop (.ListComp x [⟨tg,it,ifs,0⟩] scope pos) 0 (.ref iA) (.ref l) C'.env) (compPost (Mo W) A Er use Q (.ref l) D) { s with heap:=h3,toks:=t1+([]:List (Str×Value)).length }:=by
  rcases hif with ⟨rfl,rfl⟩ | ⟨y,rfl,hy⟩
  ·refine kcp_loop I (λn s' hI=>?_) xs.length start
   refine wpAny_mono (take (P:=λn i v s₁=>wpAny (Mo W) A (letOwnedTupleGo tg (.ref iA) v) (λø s₀=>wpAny (Mo W) A (assign tg C'.env v) (λø s₂=>
    wpAny (Mo W) A (eval x C'.env) (λy s₄=>wpAny (Mo W) A (call (.builtin "list.append") [.ref l,y]) (λø s₅=>∃ m,m<n/\I m s₅) N s₄)
     N s₂) N s₀) N s₁) hI
    λ{i x0 u o oC mC σ h tk} hn hi e1 hS hN Hh w=>?_) (λr s₁ z=>?_) λø ø z=>z
   ·refine bound e1 hS hN Hh w λ{oC mC lo' h tk} hN Hh V' w'=>?_
    refine emit (s':={ s with heap:=h,toks:=tk }) rfl hn hi hS hN Hh V' ?_
    exact w'
   ·cases r with
    | none=>exact z
    | some v=>obtain ⟨i,z⟩:=z;exact z
  ·refine kct_loop I (λn s' hI=>?_) xs.length start
   refine wpAny_mono (take (P:=λn i v s₁=>wpAny (Mo W) A (letOwnedTupleGo tg (.ref iA) v) (λø s₀=>wpAny (Mo W) A (assign tg C'.env v) (λø s₂=>
    wpAny (Mo W) A (isTrue y C'.env (eval y C'.env)) (λok s₃=>if ok=true then
     wpAny (Mo W) A (eval x C'.env) (λy s₄=>wpAny (Mo W) A (call (.builtin "list.append") [.ref l,y]) (λø s₅=>∃ m,m<n/\I m s₅) N s₄)
     N s₃ else ∃ m,m<n/\I m s₃) N s₂) N s₀) N s₁) hI
    λ{i x0 u o oC mC σ h tk} hn hi e1 hS hN Hh w=>?_) (λr s₁ z=>?_) λø ø z=>z
   ·refine bound e1 hS hN Hh w λ{oC mC lo' h tk} hN Hh V' w'=>?_
    refine hy C' hC' A m _ lo' _ { s with heap:=h,toks:=tk } _ _ _ hA' V' Hh w' λb h4 t4 σ4 H4' w4=>?_
    cases b with
    | true=>
      rw [if_pos rfl]
      exact emit (s':={ s with heap:=h4,toks:=t4 }) rfl hn hi hS hN H4' V' w4
    | false=>
      rw [if_neg Bool.false_ne_true]
      exact ⟨xs.length - (i+1),by omega,λP k=>k (i+1) o oC mC σ4 h4 t4 rfl rfl hi hS hN H4' w4⟩
   ·cases r with
    | none=>exact z
    | some v=>obtain ⟨i,z⟩:=z;exact z
 exact codeAny_compStart_list fin (T.self 0 { s with heap:=h3,toks:=t1+([]:List (Str×Value)).length } o₀ _ _ hit3 S0 fin)
end
section
variable {W:Wd}{Φ:Phi}{n:Nat}{ck:Ck}
theorem s_comp {fvs:List Nat}{nl:Nat}{t:Tgt}{src:Src}{cnd e:E}{x tg it:Expr}{ifs:List Expr}{scope:Scope}{pos:Pos}
 (hk:scope.kind=.function) (h1:nodupB (compCk ck fvs scope.names).vt=true) (h2:compOk ck.sc scope.names=true) (hf:(fvs.all λi=>(ck.vt[i]?).any λn=>scope.names.lookup n == some .free)=true) (hset:isSet it=false)
 (ht:chkT (compCk ck fvs scope.names) t tg=true) (hs:SSrc W Φ n ck src it) (he:SE (W:=W) Φ n (compCk ck fvs scope.names) e x)
 (hif:(ifs=[]/\cnd=.tru)\/∃ y,ifs=[y]/\SC (W:=W) Φ n (compCk ck fvs scope.names) cnd y) :
 SE (W:=W) Φ n ck (.comp fvs nl t src cnd e) (.ListComp x [⟨tg,it,ifs,0⟩] scope pos):=by
 intro C hC A m X lo σ s Q Er k hA hV H hw K
 rw [eval_ListComp]
 refine comp_core hC hk h1 h2 hf hset ht hs he hif (use:=none) hA hV H hw λl D oC mC h' t' σ' hX hN H' w'=>?_
 exact ⟨mC,H'.ns C (upd_same _ _ _) hN,λh'' hsb=>K _ _ h'' t' σ' rfl (H'.dropX hX λb p hb e=>hsb.extBut b p hb e) w'⟩
theorem Led.role {l:Led} (hn:(l.map (λø=>ø.1)).Nodup) {a b:Addr}{r r':Role}{o o':Obj} (h:(a,r,o)∈l) (h':(b,r',o')∈l) (hr:r≠r'):a≠b:=λe=>by
 subst e;exact hr (Led.uniq hn h h').1
theorem HS.retypeD {L:Addr}{m:Str->Option Value}{X:Addr->Option Obj}{σ:St}{h:Heap}{a:Addr}{o:Obj}{d:List (V×V)} (H:HS W L m (upd X a o) σ h) (hc:o.cls≠.type "frame") (hx:X a=none) (hs:(a == sysModules)=false) (hd:∀ l,DRel W.prog W.w l d o) (hb:d.length<=big) :
 σ.fresh a/\HS W L m X (σ.setD a d) h:=by
 obtain ⟨l,hn,N,Ab⟩:=H.led
 obtain ⟨o₁,hm,sl⟩:=Ab.ex a o (upd_same _ _ _)
 rw [sl.eq hc] at hm
 refine ⟨⟨?_,?_,?_,?_,?_⟩,H.fr,⟨l.map λe=>if e.1=a then (e.1,Role.dct,e.2.2) else e,?_,?_,?_⟩,H.st⟩
 ·cases q:σ.I a with
  | none=>rfl
  | some x=>obtain ⟨c,fs⟩:=x;obtain ⟨dx,es,n,y,_⟩:=Ab.inst a c fs q;exact absurd (Led.uniq hn y hm).1 (by intro h;cases h)
 ·cases q:σ.L a with
  | none=>rfl
  | some x=>obtain ⟨us,n,y,_⟩:=Ab.lst a x q;exact absurd (Led.uniq hn y hm).1 (by intro h;cases h)
 ·cases q:σ.T a with
  | none=>rfl
  | some x=>obtain ⟨us,n,y,_⟩:=Ab.tup a x q;exact absurd (Led.uniq hn y hm).1 (by intro h;cases h)
 ·cases q:σ.D a with
  | none=>rfl
  | some x=>obtain ⟨p,y,_⟩:=Ab.dct a x q;exact absurd (Led.uniq hn y hm).1 (by intro h;cases h)
 ·cases q:σ.F a with
  | none=>rfl
  | some vs=>
    obtain ⟨us,⟨ob,hb,_⟩,_⟩:=H.st a vs q
    have:=(N _ (Led.mem_pl hm)).2.2
    rw [hb] at this;cases this
 ·rw [List.map_map]
  have:(List.map ((λx=>x.fst) ∘ λe:Addr×Role×Obj=>if e.1=a then (e.1,Role.dct,e.2.2) else e) l)=l.map (λø=>ø.1):=List.map_congr_left λe ø=>by
   simp only [Function.comp];split <;> rfl
  rw [this];exact hn
 ·intro p hp
  obtain ⟨e,he,rfl⟩:=List.mem_map.mp hp
  obtain ⟨e',he',rfl⟩:=List.mem_map.mp he
  have P:=N _ (List.mem_map.mpr ⟨e',he',rfl⟩)
  split <;> exact P
 ·have keep:∀ {b:Addr}{r:Role}{p:Obj},(b,r,p)∈l->b≠a->(b,r,p)∈l.map λe=>if e.1=a then (e.1,Role.dct,e.2.2) else e:=λ{b r p} h1 h2=>
   List.mem_map.mpr ⟨_,h1,by rw [if_neg h2]⟩
  have far:∀ {b:Addr}{r:Role}{p:Obj},(b,r,p)∈l->r≠.ex->b≠a:=λh1 h2=>Led.role hn h1 hm h2
  have up:∀ {b r p},r≠Role.ex->(b,r,p)∈l->(b,r,p)∈l.map λe=>if e.1=a then (e.1,Role.dct,e.2.2) else e:=λh y=>keep y (far y h)
  refine ⟨Ab.instU (σ:=σ) (P:=(·≠.ex)) up nofun λø=>nofun,Ab.lstU (σ:=σ) (P:=(·≠.ex)) up nofun,Ab.tupU (σ:=σ) (P:=(·≠.ex)) up nofun,λb d' q=>upd_some q (λe1 e2=>?_) λø q=>Ab.dctU (σ:=σ) (P:=(·≠.ex)) up nofun nofun b d' q,λb p q=>?_⟩
  ·subst e1;subst e2
   exact ⟨o,List.mem_map.mpr ⟨_,hm,by rw [if_pos rfl]⟩,hd _,hs,hb⟩
  ·have hne:b≠a:=λe=>by subst e;rw [hx] at q;cases q
   obtain ⟨p',y,z⟩:=Ab.ex b p (by rw [upd_ne _ _ hne];exact q)
   exact ⟨p',keep y hne,z⟩
theorem VOk.mono {C:Cx W}{m:Str->Option Value}{X X':Addr->Option Obj}{lo:Lo} (hV:VOk C m X lo) (g:∀ a o,X a=some o->X' a=some o):VOk C m X' lo where
 vars:=λi v h=>by
  obtain ⟨x,u,e1,e2,r⟩:=hV.vars i v h
  refine ⟨x,u,e1,e2,?_⟩
  cases r with
  | loc hk hl h=>exact .loc hk hl h
  | com o mc hk h1 h2 h=>exact .com o mc hk (g _ _ h1) h2 h
  | cel a o hk h1 h2 h=>exact .cel a o hk h1 (g _ _ h2) h
 fx:=fx_mono hV.fx g
 cells:=λx a h=>by
  obtain ⟨o,v,q1,q2⟩:=hV.cells x a h
  exact ⟨o,v,g _ _ q1,q2⟩
 dict:=hV.dict.imp id λ⟨o,mc,h1,h2,h3⟩=>⟨o,mc,g _ _ h1,h2,h3⟩
noncomputable def SEP (W:Wd) (Φ:Phi) (n:Nat) (ck:Ck) (ks:List DK) (es:EL) (kx:List (Option Expr)) (xs:List Expr):Prop:=∀ (C:Cx W),C.of ck->∀ (A:Around) (m:Str->Option Value) (X:Addr->Option Obj) (lo:Lo) (σ:St) (s:Shared) (Q:List (Value×Value)->Shared->Prop) (Er:Value->Shared->Prop) (k:List V->St->Prop) (pos:Pos),
 ACond A C.fl n->VOk C m X lo->HS W C.L m X σ s.heap->wpEL W.N.TB Φ es lo σ k->(∀ ps vs h' t' σ',Vs (ps.map (λø=>ø.1)) (ks.map DK.v)->Vs (ps.map (λø=>ø.2)) vs->HS W C.L m X σ' h'->k vs σ'->Q ps { s with heap:=h',toks:=t' })->wpAny (Mo W) A (evalPairs (pairTrees kx xs C.env pos)) Q Er s
theorem p_nil:SEP W Φ n ck [] .nil [] []:=by
 intro C hC A m X lo σ s Q Er k pos hA hV H hw K
 exact pairTrees_nil_walk (K [] [] s.heap s.toks σ Vs.nil Vs.nil H hw)
theorem p_cons {d:DK}{ks:List DK}{e:E}{r:EL}{kx:Option Expr}{kxs:List (Option Expr)}{x:Expr}{xs:List Expr} (hk:oSm (oCn d.is) kx=true) (he:SE (W:=W) Φ n ck e x) (hr:SEP W Φ n ck ks r kxs xs):SEP W Φ n ck (d::ks) (.cons e r) (kx::kxs) (x::xs):=by
 refine oSm_ok (P:=λkx=>SEP W Φ n ck (d::ks) (.cons e r) (kx::kxs) (x::xs)) hk λkx hk=>?_
 refine oCn_ok (P:=λkx=>SEP W Φ n ck (d::ks) (.cons e r) (some kx::kxs) (x::xs)) hk λc p1 p2 hk=>?_
 rw [DK.is_ok hk]
 intro C hC A m X lo σ s Q Er k pos hA hV H hw K
 refine pairTrees_cons_walk ?_
 have go:∀ (kv:Value) (tk:Tok),av kv=some d.v->wpAny (Mo W) A (eval x C.env) (λvv s₂=>wpAny (Mo W) A (evalPairs (pairTrees kxs xs C.env pos)) (λr s₃=>Q ((kv,vv)::r) s₃) Er s₂) Er { s with toks:=tk }:=λkv tk hkv=>
  he C hC A m X lo σ { s with toks:=tk } _ Er _ hA hV H hw λu v h1 t1 σ1 e1 H1 w1=>
   hr C hC A m X lo σ1 _ _ Er _ pos hA hV H1 w1 λps vs h2 t2 σ2 e2 e3 H2 w2=>K ((kv,u)::ps) (v::vs) h2 t2 σ2 (Vs.cons hkv e2) (Vs.cons e1 e3) H2 w2
 cases d with
 | int i=>exact wpAny_Constant_int (go _ _ rfl)
 | str s=>exact wpAny_mkText (go _ _ rfl)
end
section
variable {W:Wd}{Φ:Phi}{n:Nat}{ck:Ck}
theorem int_keys:∀ {ks:List DK}{ps:List (Value×Value)}{vs:List V},ks.all DK.isI=true->Vs (ps.map (λø=>ø.1)) (ks.map DK.v)->Vs (ps.map (λø=>ø.2)) vs ->
 allIntKeys ps=true/\(intKeyPairs ps).map (λp=>(V.int p.1,av p.2))=((ks.map DK.v).zip vs).map (λp=>(p.1,some p.2))/\(intKeyPairs ps).map (λp=>V.int p.1)=ks.map DK.v
 | [],[],_,_,_,_=>⟨rfl,by simp [intKeyPairs],rfl⟩
 | [],_::_,_,_,h,_=>by cases h
 | _::_,[],_,_,h,_=>by cases h
 | d::ks,(a,b)::ps,vs,hk,h,h'=>by
   rw [List.all_cons,Bool.and_eq_true] at hk
   cases vs with
   | nil=>cases h'
   | cons v vs=>
     rw [List.map_cons,List.map_cons] at h
     rw [List.map_cons] at h'
     obtain ⟨u,us,e,e1,e2⟩:=h.uncons
     cases e
     obtain ⟨u,us,e,e3,e4⟩:=h'.uncons
     cases e
     cases d with
     | str x=>cases hk.1
     | int i=>
       obtain ⟨t,rfl⟩:=av_int e1
       obtain ⟨a1,a2,a3⟩:=int_keys hk.2 e2 e4
       refine ⟨a1,?_,?_⟩
       ·show (V.int i,av b)::(intKeyPairs ps).map (λp=>(V.int p.1,av p.2))=_
        rw [a2,e3];rfl
       ·show V.int i::(intKeyPairs ps).map (λp=>V.int p.1)=_
        rw [a3];rfl
theorem str_keys:∀ {ks:List DK}{ps:List (Value×Value)}{vs:List V},(ks.all λk=>!k.isI)=true->Vs (ps.map (λø=>ø.1)) (ks.map DK.v)->Vs (ps.map (λø=>ø.2)) vs ->
 allStrKeys ps=true/\(strPairs ps).map (λp=>(V.str p.1,av p.2))=((ks.map DK.v).zip vs).map (λp=>(p.1,some p.2))/\(strPairs ps).map (λp=>V.str p.1)=ks.map DK.v
 | [],[],_,_,_,_=>⟨rfl,by simp [strPairs],rfl⟩
 | [],_::_,_,_,h,_=>by cases h
 | _::_,[],_,_,h,_=>by cases h
 | d::ks,(a,b)::ps,vs,hk,h,h'=>by
   rw [List.all_cons,Bool.and_eq_true] at hk
   cases vs with
   | nil=>cases h'
   | cons v vs=>
     rw [List.map_cons,List.map_cons] at h
     rw [List.map_cons] at h'
     obtain ⟨u,us,e,e1,e2⟩:=h.uncons
     cases e
     obtain ⟨u,us,e,e3,e4⟩:=h'.uncons
     cases e
     cases d with
     | int x=>cases hk.1
     | str i=>
       obtain ⟨t,rfl⟩:=av_str e1
       obtain ⟨a1,a2,a3⟩:=str_keys hk.2 e2 e4
       refine ⟨a1,?_,?_⟩
       ·show (V.str _,av b)::(strPairs ps).map (λp=>(V.str p.1,av p.2))=_
        rw [a2,e3];rfl
       ·show V.str _::(strPairs ps).map (λp=>V.str p.1)=_
        rw [a3];rfl
theorem dk_nodup:∀ {ks:List DK},dkApart ks=true->(ks.map DK.v).Nodup
 | [],_=>List.nodup_nil
 | d::ks,h=>by
   rw [dkApart_cons,Bool.and_eq_true] at h
   rw [List.map_cons,List.nodup_cons]
   refine ⟨λhm=>?_,dk_nodup h.2⟩
   obtain ⟨e,he,q⟩:=List.mem_map.mp hm
   have:=List.all_eq_true.mp h.1 e he
   cases d <;> cases e <;> try cases q
   ·exact absurd this (by show ¬ (!(_ == _))=true;rw [beq_self_eq_true];exact Bool.false_ne_true)
   ·have q:=V.str.inj q
    exact absurd this (by show ¬ (!(_ == _))=true;rw [q,beq_self_eq_true];exact Bool.false_ne_true)
theorem nodup_of_map {α β:Type}{f:α->β}:∀ {l:List α},(l.map f).Nodup->l.Nodup
 | [],_=>List.nodup_nil
 | a::l,h=>by
   rw [List.map_cons,List.nodup_cons] at h
   exact List.nodup_cons.mpr ⟨λhm=>h.1 (List.mem_map_of_mem hm),nodup_of_map h.2⟩
theorem pairs_len:∀ {keys:List DK}{kx:List (Option Expr)},dkOk keys kx=true->kx.all (λø=>ø.isSome)=true/\kx.length=keys.length
 | [],_,h=>un_ok (P:=λkx=>kx.all (λø=>ø.isSome)=true/\kx.length=0) h ⟨rfl,rfl⟩
 | d::ks,_,h=>uc_ok (P:=λkx=>kx.all (λø=>ø.isSome)=true/\kx.length=ks.length+1) h λk kx h=>oSm_ok (P:=λk=>(k::kx).all (λø=>ø.isSome)=true/\(k::kx).length=ks.length+1) (aL h) λø ø=>
   ⟨(pairs_len (aR h)).1,congrArg (·+1) (pairs_len (aR h)).2⟩
theorem notFrame {prog:Program}{w:World}{K:Type} [DecidableEq K] {knd:KeyKind prog w K}{o:Obj}{kvs:List (K×Value)} (h:o.IsDictOf knd kvs):o.cls≠.type "frame":=by
 obtain ⟨es,ep,a1,a2,_⟩:=h
 rw [a1.1];exact λe=>absurd (Value.type.inj e) (by decide)
theorem s_dict0 {q:Pos}:SE (W:=W) Φ n ck (.dict [] .nil) (.Dict [] [] q):=by
 intro C hC A m X lo σ s Q Er k hA hV H hw K
 obtain ⟨l,hn,N,Ab⟩:=H.led
 refine newDict_K H.fr N W.T.nolimit λd h' o F' N' lt hs h1 h2 h3 h4=>?_
 obtain ⟨fr,hx,mk⟩:=H.kNew hn Ab F' N' lt
 refine K (.ref d) (.ref d) h' s.toks (σ.setD d []) rfl (mk .dct _ _ rfl ⟨(Ab.grow _).inst,(Ab.grow _).lst,(Ab.grow _).tup,λa d' q=>?_,(Ab.grow _).ex⟩) (hw.2.2 d fr)
 unfold St.setD upd at q
 dsimp only at q
 split at q
 ·rename_i e;subst e;cases q;exact ⟨o,.head _,.inl ⟨[],h3,rfl⟩,hs,Nat.zero_le _⟩
 ·exact (Ab.grow _).dct a d' q
theorem s_dict {ks:List DK}{es:EL}{kx:List (Option Expr)}{xs:List Expr}{q:Pos} (hk:dkOk ks kx=true) (hkinds:dkKinds ks=true) (hap:dkApart ks=true) (hne:ks≠[]) (hlx:kx.length=xs.length) (hl15:kx.length<=15)
 (hp:SEP W Φ n ck ks es kx xs):SE (W:=W) Φ n ck (.dict ks es) (.Dict kx xs q):=by
 intro C hC A m X lo σ s Q Er k hA hV H hw K
 obtain ⟨l,hn,N,Ab⟩:=H.led
 obtain ⟨p1,p2⟩:=pairs_len hk
 have h0:kx≠[]:=λe=>by rw [e] at p2;exact hne (List.length_eq_zero_iff.mp p2.symm)
 have grow:∀ {d:Addr}{o:Obj}{h':Heap},Fr W.B C.L h' m->News W.B C.L h' ((d,o)::l.pl)->(∀ p∈l.pl,p.1<d)->X d=none/\HS W C.L m (upd X d o) σ h':=λ{d o h'} F' N' lt=>by
  obtain ⟨fr,hx,mk⟩:=H.kNew hn Ab F' N' lt
  refine ⟨hx,mk .ex _ _ rfl ⟨(Ab.grow _).inst,(Ab.grow _).lst,(Ab.grow _).tup,(Ab.grow _).dct,λa p q=>?_⟩⟩
  unfold upd at q
  split at q
  ·rename_i e;subst e;cases q;exact ⟨_,.head _,.inl rfl⟩
  ·exact (Ab.grow _).ex a p q
 have mono:∀ {d:Addr}{o:Obj},X d=none->∀ a p,X a=some p->upd X d o a=some p:=λhx a p e=>by
  rw [upd_ne _ _ λq=>by rw [q,hx] at e;cases e];exact e
 unfold dkKinds at hkinds
 rw [Bool.or_eq_true] at hkinds
 rcases hkinds with hint | hstr
 ·refine kdn_eval (knd:=PySem.intKind W.prog W.w) H.fr N W.T.nolimit p1 hlx h0 hl15 λd h' o F' N' lt hs hd=>?_
  obtain ⟨hx,H1⟩:=grow F' N' lt
  refine hp C hC A m _ lo σ { s with heap:=h' } _ Er _ q hA (hV.mono (mono hx)) H1 hw λps vs h2 t2 σ2 e1 e2 H2 w2=>?_
  obtain ⟨i1,i2,i3⟩:=int_keys hint e1 e2
  obtain ⟨l2,hn2,N2,Ab2⟩:=H2.led
  obtain ⟨o₁,hm2,sl⟩:=Ab2.ex d o (upd_same _ _ _)
  rw [sl.eq (notFrame hd)] at hm2
  have nd:((intKeyPairs ps).map (λø=>ø.1)).Nodup:=by
   have:=dk_nodup hap
   rw [<- i3] at this
   have e:(intKeyPairs ps).map (λp=>V.int p.1)=((intKeyPairs ps).map (λø=>ø.1)).map V.int:=by rw [List.map_map];rfl
   rw [e] at this
   exact nodup_of_map this
  refine kdn_made_int H2.fr N2 (Led.updF hn2 hm2) hd i1 nd λh3 o3 F3 N3 hd3=>?_
  have H3:=H2.changed hn2 hm2 F3 N3 rfl (Ab2.putX hn2 (upd_same _ _ _) o3)
  rw [upd_upd] at H3
  obtain ⟨fr,H4⟩:=H3.retypeD (notFrame hd3) hx hs (λø=>.inl ⟨_,hd3,i2⟩) (by
   rw [List.length_zip];have:=w2.2.1;unfold big;lia)
  exact K (.ref d) (.ref d) h3 _ _ rfl H4 (w2.2.2 d fr)
 ·refine kdn_eval (knd:=PySem.strKind W.prog W.w) H.fr N W.T.nolimit p1 hlx h0 hl15 λd h' o F' N' lt hs hd=>?_
  obtain ⟨hx,H1⟩:=grow F' N' lt
  refine hp C hC A m _ lo σ { s with heap:=h' } _ Er _ q hA (hV.mono (mono hx)) H1 hw λps vs h2 t2 σ2 e1 e2 H2 w2=>?_
  obtain ⟨i1,i2,i3⟩:=str_keys hstr e1 e2
  obtain ⟨l2,hn2,N2,Ab2⟩:=H2.led
  obtain ⟨o₁,hm2,sl⟩:=Ab2.ex d o (upd_same _ _ _)
  rw [sl.eq (notFrame hd)] at hm2
  have nd:((strPairs ps).map (λø=>ø.1)).Nodup:=by
   have:=dk_nodup hap
   rw [<- i3] at this
   have e:(strPairs ps).map (λp=>V.str p.1)=((strPairs ps).map (λø=>ø.1)).map V.str:=by rw [List.map_map];rfl
   rw [e] at this
   exact nodup_of_map this
  refine kdn_made_str H2.fr N2 (Led.updF hn2 hm2) hd i1 nd λh3 o3 F3 N3 hd3=>?_
  have H3:=H2.changed hn2 hm2 F3 N3 rfl (Ab2.putX hn2 (upd_same _ _ _) o3)
  rw [upd_upd] at H3
  obtain ⟨fr,H4⟩:=H3.retypeD (notFrame hd3) hx hs (λø=>.inr (.inl ⟨_,hd3,i2⟩)) (by
   rw [List.length_zip];have:=w2.2.1;unfold big;lia)
  exact K (.ref d) (.ref d) h3 _ _ rfl H4 (w2.2.2 d fr)
end
section
variable {W:Wd}{Φ:Phi}{n:Nat}{ck:Ck}
theorem DRel.pairs {prog:Program}{w:World}{l:Led}{d:List (V×V)}{o:Obj} (h:DRel prog w l d o) (hp:pairFit d=true):PRel prog w l d o:=by
 have empty:∀ {K:Type} [DecidableEq K] {knd:PySem.KeyKind prog w K},o.IsDictOf knd []->PRel prog w l [] o:=λ{K} ø {knd} h=>by
  obtain ⟨es,ep,a1,a2,a3,a4,a5⟩:=h
  cases hes:es.toList with
  | nil=>exact ⟨a1,es,ep,[],a2,by rw [hes];rfl,(λø h=>nomatch h),List.nodup_nil,rfl⟩
  | cons e r=>rw [hes] at a4;cases a4
 rcases h with ⟨kvs,h1,h2⟩ | ⟨kvs,h1,h2⟩ | h
 ·cases d with
  | nil=>
    have:kvs=[]:=by simpa using h2
    subst this;exact empty h1
  | cons p d=>
    cases kvs with
    | nil=>simp at h2
    | cons q kvs=>
      simp only [List.map_cons,List.cons.injEq,Prod.mk.injEq] at h2
      unfold pairFit at hp
      rw [List.all_cons,Bool.and_eq_true,<- h2.1.1] at hp
      cases hp.1
 ·cases d with
  | nil=>
    have:kvs=[]:=by simpa using h2
    subst this;exact empty h1
  | cons p d=>
    cases kvs with
    | nil=>simp at h2
    | cons q kvs=>
      simp only [List.map_cons,List.cons.injEq,Prod.mk.injEq] at h2
      unfold pairFit at hp
      rw [List.all_cons,Bool.and_eq_true,<- h2.1.1] at hp
      cases hp.1
 ·exact h
theorem pr_head {x:List Int×Addr×Value}{xs:List (List Int×Addr×Value)}{q:V×V}{d:List (V×V)} (h:(x::xs).map (λx=>(pairOf x.1,av x.2.2))=(q::d).map λp=>(p.1,some p.2)):pairOf x.1=q.1/\av x.2.2=some q.2/\xs.map (λx=>(pairOf x.1,av x.2.2))=d.map λp=>(p.1,some p.2):=
 ⟨congrArg Prod.fst (List.cons.inj h).1,congrArg Prod.snd (List.cons.inj h).1,(List.cons.inj h).2⟩
theorem pr_dec {x:List Int×Addr×Value}{i j:Int}{q:V} (hx:∃ i j,x.1=[i,j]) (e:pairOf x.1=q):decide (x.1=[i,j])=decide (q=.pair i j):=by
 obtain ⟨i',j',ex⟩:=hx
 rw [<- e,ex];exact decide_eq_decide.mpr ⟨λh=>by cases h;rfl,λh=>by cases h;rfl⟩
theorem pair_at {i j:Int}:∀ {xs:List (List Int×Addr×Value)}{d:List (V×V)},(∀ x∈xs,∃ i j,x.1=[i,j])->xs.map (λx=>(pairOf x.1,av x.2.2))=d.map (λp=>(p.1,some p.2))->((atKey xs [i,j]).map (λø=>ø.2)).map av=(dget (.pair i j) d).map some
 | [],[],_,_=>rfl
 | [],_::_,_,h=>nomatch h
 | _::_,[],_,h=>nomatch h
 | x::xs,q::d,hx,h=>by
   have e:=pr_head h
   have ih:=pair_at (i:=i) (j:=j) (λy hy=>hx y (.tail _ hy)) e.2.2
   unfold atKey dget at ih |-
   rw [List.find?_cons,List.find?_cons,<- pr_dec (hx x (.head _)) e.1]
   cases decide (x.1=[i,j]) with
   | true=>exact congrArg some e.2.1
   | false=>exact ih
theorem pair_put {i j:Int}{u:Value}{v:V} (hu:av u=some v):∀ {xs:List (List Int×Addr×Value)}{d:List (V×V)},(∀ x∈xs,∃ i j,x.1=[i,j])->xs.map (λx=>(pairOf x.1,av x.2.2))=d.map (λp=>(p.1,some p.2)) ->
 (xs.map (putAt [i,j] u)).map (λx=>(pairOf x.1,av x.2.2))=(d.map (λp=>if p.1=V.pair i j then (p.1,v) else p)).map (λp=>(p.1,some p.2))
 | [],[],_,_=>rfl
 | [],_::_,_,h=>nomatch h
 | _::_,[],_,h=>nomatch h
 | x::xs,q::d,hx,h=>by
   have e:=pr_head h
   rw [List.map_cons,List.map_cons,List.map_cons,List.map_cons,pair_put hu (λy hy=>hx y (.tail _ hy)) e.2.2]
   refine congrArg (·::_) ?_
   have dc:=decide_eq_decide.mp (pr_dec (i:=i) (j:=j) (hx x (.head _)) e.1)
   unfold putAt
   by_cases c:x.1=[i,j]
   ·rw [if_pos c,if_pos (dc.mp c)];exact Prod.ext e.1 hu
   ·rw [if_neg c,if_neg λz=>c (dc.mpr z)];exact Prod.ext e.1 e.2.1
theorem pair_set {d:List (V×V)}{i j:Int}{a:Addr}{u:Value}{v:V} (hu:av u=some v) {xs:List (List Int×Addr×Value)} (hx:∀ x∈xs,∃ i j,x.1=[i,j]) (h:xs.map (λx=>(pairOf x.1,av x.2.2))=d.map (λp=>(p.1,some p.2))) :
 (storedH xs [i,j] a u).map (λx=>(pairOf x.1,av x.2.2))=(dput (.pair i j) v d).map (λp=>(p.1,some p.2)):=by
 have e:(d.any λp=>decide (p.1=V.pair i j))=(atKey xs [i,j]).isSome:=by
  have z:=congrArg Option.isSome (pair_at (i:=i) (j:=j) hx h)
  rw [Option.isSome_map,Option.isSome_map,Option.isSome_map] at z
  rw [z];unfold dget
  rw [Option.isSome_map,List.isSome_find?]
 unfold storedH dput
 rw [e]
 split
 ·exact pair_put hu hx h
 ·rw [List.map_append,List.map_append,h];exact congrArg (_++[·]) (Prod.ext rfl hu)
theorem PRel.forms {prog:Program}{w:World}{l:Led}{xs:List (List Int×Addr×Value)} (h:∀ x∈xs,∃ i j t u n,x.1=[i,j]/\(x.2.1,Role.pk,tupOf #[.int i t,.int j u] n)∈l):∀ x∈xs,∃ i j,x.1=[i,j]:=λx hx=>
 by obtain ⟨i,j,_,_,_,e,_⟩:=h x hx;exact ⟨i,j,e⟩
theorem isKey {prog:Program}{w:World}{h:Heap}{a:Addr}{i j:Int}{t u:Tok}{n:Nat} (e:h.get? a=some (tupOf #[.int i t,.int j u] n)):(tupleKind (PySem.intKind prog w)).is h [i,j] a:=
 ⟨_,_,n,e,rfl,rfl,.cons (by simp [PySem.intKind,Value.isInt]) (.cons (by simp [PySem.intKind,Value.isInt]) .nil)⟩
section
variable {L:Addr}{m:Str->Option Value}{X:Addr->Option Obj}{σ:St}{s:Shared}{A:Around}{E:Value->Shared->Prop}
theorem pair_on2 {f:V->V->St->Prop}{g:Int->Int->Prop}{σ:St} (e:∀ x y,gI (λi=>gI (g i) y) x->f x y σ):∀ {l:List V},pairV l g->on2 f l σ
 | [x,y],h=>e x y h
 | [],h=>h.elim
 | [_],h=>h.elim
 | _::_::_::_,h=>h.elim
theorem op_pget (hA:A.units+64<cLine) {x t v:V}{a b z:Value}{k:KV}{Q:Value->Shared->Prop} (ha:av a=some x) (hb:av b=some t) (hz:av z=some v) (H:HS W L m X σ s.heap) (hw:pgetK x t v σ k) (K:BK W L m X s k Q) :
 wpAny (Mo W) A (call (.builtin "dict.get") [a,b,z]) Q E s:=by
 refine eR (P:=λa=>wpAny (Mo W) A (call (.builtin "dict.get") [a,b,z]) Q E s) ha hw λr hw=>eR (P:=λb=>wpAny (Mo W) A (call (.builtin "dict.get") [.ref r,b,z]) Q E s) hb hw λc hw=>gS_ok hw λdd e1 hw=>gS_ok hw λus e2 hw=>?_
 refine H.ledK λl hn N Ab=>Ab.dctK e1 λo hm h2 h3 h4=>H.getTK e2 λus' nn i1 v1 ø=>?_
 have i1':s.heap.get? c=some (tupOf us'.toList.toArray nn):=by rw [Array.toArray_toList];exact i1
 refine on2_ok (f:=λx y σ=>gI (λi=>gI (λj=>pairFit dd=true/\k ((dget (.pair i j) dd).getD v) σ) y) x) (σ:=σ) (P:=λus=>s.heap.get? c=some (tupOf us.toArray nn)->wpAny (Mo W) A (call (.builtin "dict.get") [.ref r,.ref c,z]) Q E s) v1 (pair_on2 (λø ø h=>h) hw) (λu v' u' v'' q1 q2 hw i1=>?_) i1'
 revert i1
 refine eII (P:=λu u'=>s.heap.get? c=some (tupOf [u,u'].toArray nn)->wpAny (Mo W) A (call (.builtin "dict.get") [.ref r,.ref c,z]) Q E s) q1 q2 hw λi t1 j t2 hw i1=>?_
 obtain ⟨p1,es,ep,xs,p2,p3,p4,p5,p6⟩:=h2.pairs hw.1
 have ho:s.heap.get? r=some o:=(N _ (Led.mem_pl hm)).1
 have hD:s.heap.DictOfH (tupleKind (PySem.intKind W.prog W.w)) r xs:=⟨o,es,ep,ho,p1,p2,p3,λy hy=>by
  obtain ⟨i',j',t',u',n',e,hmem⟩:=p4 y hy
  rw [e];exact isKey (N _ (Led.mem_pl hmem)).1,p5⟩
 exact call_meetsIn PySem.F.slot_dict_get hD.typeIs PySem.F.entry_dict_get (PySem.F.args_dict_get_3 _ _ _) (meetsH_dict_get_default (tupleKind (PySem.intKind W.prog W.w)) r c h3 z)
  ⟨by show A.units+1<cLine;lia,[i,j],xs,isKey i1,hD,K _ _ s.heap _ σ (getD_av (pair_at (PRel.forms (prog:=W.prog) (w:=W.w) p4) p6) hz) H hw.2⟩
theorem op_pset (hA:A.units+64<cLine) {r:Addr}{i j:Int}{t u:Tok}{w:Value}{v:V}{dd:List (V×V)}{Q:Unit->Shared->Prop} (hw:av w=some v) (H:HS W L m X σ s.heap) (hd:σ.D r=some dd) (hp:pairFit dd=true) (hl:dd.length<big)
 (K:∀ h' t',HS W L m X (σ.setD r (dput (.pair i j) v dd)) h'->Q () { s with heap:=h',toks:=t' }) :
 wpAny (Mo W) A (setItem (.ref r) (.ref s.heap.objs.size) w) Q E { s with heap:=s.heap.push (tupOf #[.int i t,.int j u] 0) }:=by
 have H1:∃ l:Led,(l.map (λø=>ø.1)).Nodup/\News W.B L (s.heap.push (tupOf #[.int i t,.int j u] 0)) l.pl/\Abs W.N W.prog W.w l σ X/\(s.heap.objs.size,Role.pk,tupOf #[.int i t,.int j u] 0)∈l/\HS W L m X σ (s.heap.push (tupOf #[.int i t,.int j u] 0)):=by
  obtain ⟨l,hn,N,Ab⟩:=H.led
  have hn':(((s.heap.objs.size,Role.pk,tupOf #[.int i t,.int j u] 0)::l).map (λø=>ø.1)).Nodup:=by
   rw [List.map_cons,List.nodup_cons]
   refine ⟨λhm=>?_,hn⟩
   obtain ⟨e,he,q⟩:=List.mem_map.mp hm
   have:=Heap.lt_size (N _ (List.mem_map.mpr ⟨e,he,rfl⟩)).1
   exact absurd this (by show ¬ e.1<s.heap.objs.size;rw [q];exact Nat.lt_irrefl _)
  have N':=N.push H.fr (tupOf #[.int i t,.int j u] 0) rfl
  have A':Abs W.N W.prog W.w ((s.heap.objs.size,Role.pk,tupOf #[.int i t,.int j u] 0)::l) σ X:=Ab.grow _
  exact ⟨_,hn',N',A',.head _,⟨H.fr.push _,⟨_,hn',N',A'⟩,H.st⟩⟩
 obtain ⟨l,hn,N,Ab,hk,Hp⟩:=H1
 obtain ⟨o,hm,h2,h3,h4⟩:=Ab.dct _ _ hd
 obtain ⟨p1,es,ep,xs,p2,p3,p4,p5,p6⟩:=h2.pairs hp
 have ho:(s.heap.push (tupOf #[.int i t,.int j u] 0)).get? r=some o:=(N _ (Led.mem_pl hm)).1
 have hkey:=isKey (prog:=W.prog) (w:=W.w) (N _ (Led.mem_pl hk)).1
 have hD:(s.heap.push (tupOf #[.int i t,.int j u] 0)).DictOfH (tupleKind (PySem.intKind W.prog W.w)) r xs:=⟨o,es,ep,ho,p1,p2,p3,λy hy=>by
  obtain ⟨i',j',t',u',n',e,hmem⟩:=p4 y hy
  rw [e];exact isKey (N _ (Led.mem_pl hmem)).1,p5⟩
 have xl:xs.length=dd.length:=by have:=congrArg List.length p6;simpa using this
 refine wpAny_setItem_heap (s:={ s with heap:=s.heap.push (tupOf #[.int i t,.int j u] 0) }) (knd:=tupleKind (PySem.intKind W.prog W.w)) (k:=[i,j]) (xs:=xs) ?_ hkey hD (λh' hd' hs'=>?_) (by rw [xl,sizeLine_eq];unfold big at hl;lia)
 ·show A.units+1<cLine
  lia
 ·obtain ⟨o',es',ep',ho',q1,q2,q3,q4,q5⟩:=hd'
  obtain ⟨pre,post,e1,e2,g1,g2⟩:=Led.split hn hm o'
  have F':Fr W.B L h' m:=by
   have P:=N _ (Led.mem_pl hm)
   exact Hp.fr.change hs' P.2.1 P.2.2
  rw [e1] at N
  have N':=N.setIn g1 g2 hs' ho'
  rw [<- e2] at N'
  have dl:(dput (.pair i j) v dd).length<=big:=by
   unfold dput
   split
   ·rw [List.length_map];exact h4
   ·rw [List.length_append];simp;lia
  refine K h' _ (Hp.changed hn hm F' N' rfl (Ab.putD hn hm (.inr (.inr ⟨q1,es',ep',storedH xs [i,j] s.heap.objs.size w,q2,q3,λy hy=>?_,q5,pair_set hw (PRel.forms (prog:=W.prog) (w:=W.w) p4) p6⟩)) dl h3))
  unfold storedH at hy
  split at hy
  ·obtain ⟨y',hy',rfl⟩:=List.mem_map.mp hy
   obtain ⟨i',j',t',u',n',e,hmem⟩:=p4 y' hy'
   refine ⟨i',j',t',u',n',?_,?_⟩
   ·unfold putAt;split <;> exact e
   ·unfold putAt;split <;> exact hmem
  ·rcases List.mem_append.mp hy with hy | hy
   ·exact p4 y hy
   ·obtain rfl:=List.mem_singleton.mp hy
    exact ⟨i,j,t,u,0,rfl,hk⟩
end
theorem s_pget {d a b z:E}{o x y w:Expr}{kk:Nat}{p q tp:Pos} (ho:isCallName o=false) (hl:p.endLine=q.line) (hx:isStar x=false) (hy:isStar y=false) (hw':isStar w=false) (hd:SE (W:=W) Φ n ck d o) (ha:SE (W:=W) Φ n ck a x) (hb:SE (W:=W) Φ n ck b y) (hz:SE (W:=W) Φ n ck z w) :
 SE (W:=W) Φ n ck (.pget d a b z) (.Call (.Attribute o ("get":Str) p) [.Tuple [x,y] kk tp,w] [] q):=by
 intro C hC A m X lo σ s Q Er k hA hV H hw K
 have hns:[Expr.Tuple [x,y] kk tp,w].any isStar=false:=by rw [List.any_cons,List.any_cons,hw'];rfl
 refine mcall ho hl (show 2<29 by decide) hns (hd C hC A m X lo σ s _ Er _ hA hV H hw λu v h1 t1 σ1 e1 H1 w1=>?_)
 obtain ⟨hk,w1⟩:=w1
 refine op_getMethod2 (n:=.get) (id:="dict.get") e1 H1 hk rfl ?_
 have hs:=l_cons (W:=W) (Φ:=Φ) (n:=n) (ck:=ck) (e:=.tup (.cons a (.cons b .nil))) (x:=.Tuple [x,y] kk tp) rfl (s_tup (l_cons hx ha (l_cons hy hb l_nil))) (l_cons hw' hz l_nil)
 refine callEL (k:=on2 λt r σ=>pgetK v t r σ k) hns (keep_plain (by intro a e;cases e)) hs hC hA hV H1 w1 λus vs h2 t2 σ2 e2 H2 w2=>?_
 exact on2_ok (P:=λus=>wpAny (Mo W) A (call (.builtin "dict.get") ([u]++us)) Q Er { s with heap:=h2,toks:=t2 }) e2 w2 λu' v' u'' v'' e3 e4 w2=>op_pget (s:={ s with heap:=h2,toks:=t2 }) (by have:=hA.room;omega) e1 e3 e4 H2 w2 λu v h' t' σ' e' H' w'=>K u v h' t' σ' e' H' w'
end
section
variable {W:Wd}{Φ:Phi}{n:Nat}
inductive AllE (W:Wd) (Φ:Phi) (n:Nat) (ck:Ck):EL->List Expr->Prop
 | nil:AllE W Φ n ck .nil []
 | cons {e:E}{r:EL}{x:Expr}{xs:List Expr} (hx:isStar x=false) (he:SE (W:=W) Φ n ck e x) (hr:AllE W Φ n ck r xs):AllE W Φ n ck (.cons e r) (x::xs)
theorem AllE.sel {ck:Ck}{es:EL}{xs:List Expr} (h:AllE W Φ n ck es xs):SEL (W:=W) Φ n ck es xs/\xs.any isStar=false:=by
 induction h with
 | nil=>exact ⟨l_nil,rfl⟩
 | cons hx he hr ih=>exact ⟨l_cons hx he ih.1,by rw [List.any_cons,hx,ih.2];rfl⟩
theorem AllE.sep {ck:Ck}{es:EL}{xs:List Expr} (h:AllE W Φ n ck es xs):∀ {ks:List DK}{kx:List (Option Expr)},dkOk ks kx=true->kx.length=xs.length->SEP W Φ n ck ks es kx xs:=by
 induction h with
 | nil=>
   intro ks kx hk hl
   obtain rfl:=List.length_eq_zero_iff.mp hl
   cases ks with
   | cons d _=>exact (Bool.false_ne_true hk).elim
   | nil=>exact p_nil
 | cons hx he hr ih=>
   intro ks kx hk hl
   cases kx with
   | nil=>cases hl
   | cons k kx=>
     cases ks with
     | nil=>exact (Bool.false_ne_true hk).elim
     | cons d ks=>exact p_cons (aL hk) he (ih (aR hk) (Nat.succ.inj hl))
structure Below (W:Wd) (Φ:Phi) (n:Nat):Prop where
 ok:∀ f,f<n->CallOK W Φ f
 kw:∀ f w,f<n->W.N.TB.kw f w=true->CallKW W Φ f w
noncomputable def Snd (W:Wd) (Φ:Phi) (n:Nat) (ck:Ck) (e:E) (x:Expr):Prop:=SE (W:=W) Φ n ck e x/\SC (W:=W) Φ n ck e x
theorem pl {ck:Ck}{e:E}{x:Expr} (H:SE (W:=W) Φ n ck e x) (hc:∀ lo σ whole k,wpC W.N.TB Φ e lo σ whole k=whole (kTest k)) (hx:∀ env whole,isTrue x env whole=(do let v <- whole;standAt x.pos;holding [v] (truthy v))):Snd W Φ n ck e x:=⟨H,c_plain hc hx H⟩
theorem tail_and {ck:Ck}{e:E}{z:Expr}{q:Pos}:∀ {r:List Expr},Snd W Φ n ck e (tailB .And z q r)->Snd W Φ n ck e (.BoolOp .And (z::r) q)
 | [],h=>⟨s_one h.1,c_oneAnd h.2⟩
 | _::_,h=>h
theorem tail_or {ck:Ck}{e:E}{z:Expr}{q:Pos}:∀ {r:List Expr},Snd W Φ n ck e (tailB .Or z q r)->Snd W Φ n ck e (.BoolOp .Or (z::r) q)
 | [],h=>⟨s_one h.1,c_oneOr h.2⟩
 | _::_,h=>h
theorem part_ok {ck:Ck}{l:E} (ih:∀ x,chkE W.K W.N n ck l x=true->SE (W:=W) Φ n ck l x):∀ {o},oPt l.isNil (chkE W.K W.N n ck l) o=true->PartOk W Φ n ck l o
 | none,h=>E.isNil_ok h
 | some x,h=>ih x h
theorem ifs_ok {ck:Ck}{e:E} (ih:∀ x,chkE W.K W.N n ck e x=true->SC (W:=W) Φ n ck e x):∀ {l},oIfs e.isTru (chkE W.K W.N n ck e) l=true->(l=[]/\e=.tru)\/∃ y,l=[y]/\SC (W:=W) Φ n ck e y
 | [],h=>.inl ⟨rfl,E.isTru_ok h⟩
 | [x],h=>.inr ⟨x,rfl,ih x h⟩
 | _::_::_,h=>(Bool.false_ne_true h).elim
theorem ne_of_un {ck:Ck}{as:EL} (h:as.isNil=false):∀ {xs},chkEL W.K W.N n ck as xs=true->xs≠[]
 | [],q=>by
   cases as with
   | nil=>cases h
   | cons=>exact (Bool.false_ne_true q).elim
 | _::_,_=>List.cons_ne_nil _ _
structure CmpA (c:Ck) (fvs:List Nat) (as:Int) (sc:Scope) (it:Expr):Prop where
 as:as=0
 k:sc.kind=.function
 nd:nodupB (compCk c fvs sc.names).vt=true
 fv:(fvs.all λi=>(c.vt[i]?).any λn=>sc.names.lookup n == some .free)=true
 ok:compOk c.sc sc.names=true
 st:isSet it=false
theorem cmpA_ok {c:Ck}{fvs:List Nat}{nl:Nat}{as:Int}{sc:Scope}{it:Expr} (h:cmpA c fvs nl as sc it=true):CmpA c fvs as sc it:=
 ⟨eq_of_beq (aL (aL (aL (aL (aL (aL h)))))),eq_of_beq (aR (aL (aL (aL (aL (aL h)))))),aR (aL (aL (aL (aL h)))),aR (aL (aL h)),aR (aL h),nL (aR h)⟩
mutual
theorem chkE_ok (T:NOk W) (B:Below W Φ n):∀ (e:E) (ck:Ck) (x:Expr),chkE W.K W.N n ck e x=true->Snd W Φ n ck e x
 | .var i=>λck x h=>oNm_ok h λy q h=>pl (s_var h) (λø ø ø ø=>rfl) λø ø=>rfl
 | .gint s i=>λck x h=>oNm_ok h λy q h=>pl (s_gint h) (λø ø ø ø=>rfl) λø ø=>rfl
 | .int i=>λck x h=>oCn_ok h λc ø ø h=>cInt_ok h ▸ pl s_int (λø ø ø ø=>rfl) λø ø=>rfl
 | .nil=>λck x h=>oCn_ok h λc ø ø h=>cNone_ok h ▸ pl s_nil (λø ø ø ø=>rfl) λø ø=>rfl
 | .tru=>λck x h=>oCn_ok h λc ø ø h=>cBool_ok h ▸ pl s_tru (λø ø ø ø=>rfl) λø ø=>rfl
 | .fls=>λck x h=>oCn_ok h λc ø ø h=>cBool_ok h ▸ pl s_fls (λø ø ø ø=>rfl) λø ø=>rfl
 | .str s=>λck x h=>oCn_ok h λc ø ø h=>cStr_ok h ▸ pl s_str (λø ø ø ø=>rfl) λø ø=>rfl
 | .bin o a b=>λck x h=>oBn_ok h λl op r q h=>opOk_eq (aL (aL h)) ▸ pl (s_bin (chkE_ok T B a ck l (aR (aL h))).1 (chkE_ok T B b ck r (aR h)).1) (λø ø ø ø=>rfl) λø ø=>rfl
 | .neg a=>λck x h=>oUn_ok h λo y q h=>(eq_of_beq (aL h)).symm ▸ pl (s_neg (chkE_ok T B a ck y (aR h)).1) (λø ø ø ø=>rfl) λø ø=>rfl
 | .notv a=>λck x h=>oUn_ok h λo y q h=>(eq_of_beq (aL h)).symm ▸ ⟨s_notv (chkE_ok T B a ck y (aR h)).1,c_not (chkE_ok T B a ck y (aR h)).2⟩
 | .cmp o a b=>λck x h=>oCm_ok h λl os rs q h=>u1_ok (P:=λos=>Snd W Φ n ck (.cmp o a b) (.Compare l os rs q)) h λp h=>u1_ok (P:=λrs=>Snd W Φ n ck (.cmp o a b) (.Compare l [p] rs q)) h λr h=>by
  obtain rfl:=copOk_eq (aL (aL (aL h)))
  exact ⟨s_cmp (nL (aR (aL (aL h)))) (chkE_ok T B a ck l (aR (aL h))).1 (chkE_ok T B b ck r (aR h)).1,c_cmp (nL (aR (aL (aL h)))) (chkE_ok T B a ck l (aR (aL h))).1 (chkE_ok T B b ck r (aR h)).1⟩
 | .andv a b=>λck x h=>oBl_ok h λo vs q h=>by
  obtain rfl:=eq_of_beq (aL h)
  refine uc_ok (P:=λvs=>Snd W Φ n ck (.andv a b) (.BoolOp .And vs q)) (aR h) λy r h=>uc_ok (P:=λr=>Snd W Φ n ck (.andv a b) (.BoolOp .And (y::r) q)) h λz r h=>?_
  have hb:=tail_and (chkE_ok T B b ck _ (aR h))
  exact ⟨s_and (chkE_ok T B a ck y (aL h)).1 hb.1,c_and (chkE_ok T B a ck y (aL h)).2 hb.2⟩
 | .orv a b=>λck x h=>oBl_ok h λo vs q h=>by
  obtain rfl:=eq_of_beq (aL h)
  refine uc_ok (P:=λvs=>Snd W Φ n ck (.orv a b) (.BoolOp .Or vs q)) (aR h) λy r h=>uc_ok (P:=λr=>Snd W Φ n ck (.orv a b) (.BoolOp .Or (y::r) q)) h λz r h=>?_
  have hb:=tail_or (chkE_ok T B b ck _ (aR h))
  exact ⟨s_or (chkE_ok T B a ck y (aL h)).1 hb.1,c_or (chkE_ok T B a ck y (aL h)).2 hb.2⟩
 | .ite t a b=>λck x h=>oIf_ok h λu v z q h=>by
  have ht:=chkE_ok T B t ck u (aL (aL h))
  have ha:=chkE_ok T B a ck v (aR (aL h))
  have hb:=chkE_ok T B b ck z (aR h)
  exact ⟨s_ite ht.2 ha.1 hb.1,c_ite ht.2 ha.2 hb.2⟩
 | .attr a f=>λck x h=>oAt_ok h λv m q h=>(eq_of_beq (aL (aL h))).symm ▸ pl (s_attr T (nL (aR (aL h))) (chkE_ok T B a ck v (aR h)).1) (λø ø ø ø=>rfl) λø ø=>rfl
 | .idx a i=>λck x h=>oSb_ok h λv sl q h=>pl (s_idx (nL (aL (aL h))) (chkE_ok T B a ck v (aR (aL h))).1 (chkE_ok T B i ck sl (aR h)).1) (λø ø ø ø=>rfl) λø ø=>rfl
 | .slc a l u=>λck x h=>oSb_ok h λv sl q h=>oSl_ok (P:=λsl=>Snd W Φ n ck (.slc a l u) (.Subscript v sl q)) h λlo up st p h=>oNo_ok (P:=λst=>Snd W Φ n ck (.slc a l u) (.Subscript v (.Slice lo up st p) q)) (aL (aL (aL h))) <|
  pl (s_slc (chkE_ok T B a ck v (aR (aL (aL h)))).1 (part_ok (λx h=>(chkE_ok T B l ck x h).1) (aR (aL h))) (part_ok (λx h=>(chkE_ok T B u ck x h).1) (aR h))) (λø ø ø ø=>rfl) λø ø=>rfl
 | .rev a=>λck x h=>oSb_ok h λv sl q h=>oSl_ok (P:=λsl=>Snd W Φ n ck (.rev a) (.Subscript v sl q)) h λlo up st p h=>
  oNo_ok (P:=λlo=>Snd W Φ n ck (.rev a) (.Subscript v (.Slice lo up st p) q)) (aL (aL (aL h))) <| oNo_ok (P:=λup=>Snd W Φ n ck (.rev a) (.Subscript v (.Slice none up st p) q)) (aR (aL (aL h))) <|
  oSm_ok (P:=λst=>Snd W Φ n ck (.rev a) (.Subscript v (.Slice none none st p) q)) (aR (aL h)) λst hs=>oUn_ok (P:=λst=>Snd W Φ n ck (.rev a) (.Subscript v (.Slice none none (some st) p) q)) hs λo y q' hs=>
  (eq_of_beq (aL hs)).symm ▸ oCn_ok (P:=λy=>Snd W Φ n ck (.rev a) (.Subscript v (.Slice none none (some (.UnaryOp .USub y q')) p) q)) (aR hs) λc ø ø hs=>cInt_ok hs ▸
  pl (s_rev (chkE_ok T B a ck v (aR h)).1) (λø ø ø ø=>rfl) λø ø=>rfl
 | .call f as=>λck x h=>oCl_ok h λfx xs ks q h=>oNm_ok (P:=λfx=>Snd W Φ n ck (.call f as) (.Call fx xs ks q)) h λg p h=>un_ok (P:=λks=>Snd W Φ n ck (.call f as) (.Call (.Name g p) xs ks q)) (aR (aL h)) <| by
  obtain ⟨l1,l2⟩:=(chkEL_ok T B as ck xs (aR h)).sel
  have h0:=of_decide_eq_true (aL (aL (aL (aL h))))
  exact pl (s_call (andI (aR (aL (aL (aL h)))) (aR (aL (aL h)))) l2 l1 h0 (B.ok f h0)) (λø ø ø ø=>rfl) λø ø=>rfl
 | .new k as=>λck x h=>oCl_ok h λfx xs ks q h=>oNm_ok (P:=λfx=>Snd W Φ n ck (.new k as) (.Call fx xs ks q)) h λg p h=>un_ok (P:=λks=>Snd W Φ n ck (.new k as) (.Call (.Name g p) xs ks q)) (aR (aL h)) <| by
  obtain ⟨l1,l2⟩:=(chkEL_ok T B as ck xs (aR h)).sel
  have h0:=of_decide_eq_true (aL (aL (aL (aL h))))
  exact pl (s_new (andI (aR (aL (aL (aL h)))) (aR (aL (aL h)))) l2 l1 h0 (B.ok _ h0)) (λø ø ø ø=>rfl) λø ø=>rfl
 | .newk k as w v=>λck x h=>oCl_ok h λfx xs ks q h=>oNm_ok (P:=λfx=>Snd W Φ n ck (.newk k as w v) (.Call fx xs ks q)) h λg p h=>u1_ok (P:=λks=>Snd W Φ n ck (.newk k as w v) (.Call (.Name g p) xs ks q)) (aR h) λkw hk=>by
  obtain ⟨kn,kv,kp⟩:=kw
  refine oSm_ok (P:=λkn=>Snd W Φ n ck (.newk k as w v) (.Call (.Name g p) xs [⟨kn,kv,kp⟩] q)) (aL hk) λkn hn=>?_
  have h:=aL h
  have h0:=of_decide_eq_true (aL (aL (aL (aL h))))
  obtain ⟨l1,l2⟩:=(chkEL_ok T B as ck xs (aR h)).sel
  exact pl (s_newk (andI (aR (aL (aL (aL h)))) (aR (aL (aL h)))) l2 (ne_of_un (nL (aR (aL h))) (aR h)) l1 (chkE_ok T B v ck kv (aR hk)).1 h0 (B.kw _ kn h0 hn)) (λø ø ø ø=>rfl) λø ø=>rfl
 | .meth a m as=>λck x h=>oCl_ok h λfx xs ks q h=>oAt_ok (P:=λfx=>Snd W Φ n ck (.meth a m as) (.Call fx xs ks q)) h λo m' p h=>un_ok (P:=λks=>Snd W Φ n ck (.meth a m as) (.Call (.Attribute o m' p) xs ks q)) (aR (aL h)) <| by
  obtain ⟨l1,l2⟩:=(chkEL_ok T B as ck xs (aR h)).sel
  have h:=aL (aL h)
  have h':=aL (aL h)
  obtain rfl:=eq_of_beq (aR (aL h'))
  exact pl (s_meth T (nL (aR h')) (eq_of_beq (aR (aL (aL h')))) (of_decide_eq_true (aR (aL h))) l2 (chkE_ok T B a ck o (aR h)).1 l1 (λc f hf=>Nat.lt_of_lt_of_le (T.mr c m f hf) (of_decide_eq_true (aL (aL (aL h'))))) B.ok) (λø ø ø ø=>rfl) λø ø=>rfl
 | .bi b a=>λck x h=>oCl_ok h λfx xs ks q h=>oNm_ok (P:=λfx=>Snd W Φ n ck (.bi b a) (.Call fx xs ks q)) h λg p h=>un_ok (P:=λks=>Snd W Φ n ck (.bi b a) (.Call (.Name g p) xs ks q)) (aR (aL h)) <|
  u1_ok (P:=λxs=>Snd W Φ n ck (.bi b a) (.Call (.Name g p) xs [] q)) (aR h) λy hy=>pl (s_bi (aR (aL (aL h))) (nL (aL hy)) (chkE_ok T B a ck y (aR hy)).1) (λø ø ø ø=>rfl) λø ø=>rfl
 | .max2 a b=>λck x h=>oCl_ok h λfx xs ks q h=>oNm_ok (P:=λfx=>Snd W Φ n ck (.max2 a b) (.Call fx xs ks q)) h λg p h=>un_ok (P:=λks=>Snd W Φ n ck (.max2 a b) (.Call (.Name g p) xs ks q)) (aR (aL h)) <|
  u2_ok (P:=λxs=>Snd W Φ n ck (.max2 a b) (.Call (.Name g p) xs [] q)) (aR h) λy z hy=>pl (s_max (aR (aL (aL h))) (nL (aL (aL (aL hy)))) (nL (aR (aL (aL hy)))) (chkE_ok T B a ck y (aR (aL hy))).1 (chkE_ok T B b ck z (aR hy)).1) (λø ø ø ø=>rfl) λø ø=>rfl
 | .m1 m a b=>λck x h=>oCl_ok h λfx xs ks q h=>oAt_ok (P:=λfx=>Snd W Φ n ck (.m1 m a b) (.Call fx xs ks q)) h λo m' p h=>un_ok (P:=λks=>Snd W Φ n ck (.m1 m a b) (.Call (.Attribute o m' p) xs ks q)) (aR (aL h)) <|
  u1_ok (P:=λxs=>Snd W Φ n ck (.m1 m a b) (.Call (.Attribute o m' p) xs [] q)) (aR h) λy hy=>by
  have h:=aL (aL h)
  obtain rfl:=eq_of_beq (aR (aL (aL h)))
  exact pl (s_m1 (nL (aR (aL h))) (eq_of_beq (aL (aL (aL h)))) (nL (aL hy)) (chkE_ok T B a ck o (aR h)).1 (chkE_ok T B b ck y (aR hy)).1) (λø ø ø ø=>rfl) λø ø=>rfl
 | .m2 m a b d=>λck x h=>oCl_ok h λfx xs ks q h=>oAt_ok (P:=λfx=>Snd W Φ n ck (.m2 m a b d) (.Call fx xs ks q)) h λo m' p h=>un_ok (P:=λks=>Snd W Φ n ck (.m2 m a b d) (.Call (.Attribute o m' p) xs ks q)) (aR (aL h)) <|
  u2_ok (P:=λxs=>Snd W Φ n ck (.m2 m a b d) (.Call (.Attribute o m' p) xs [] q)) (aR h) λy z hy=>by
  have h:=aL (aL h)
  obtain rfl:=eq_of_beq (aR (aL (aL h)))
  exact pl (s_m2 (nL (aR (aL h))) (eq_of_beq (aL (aL (aL h)))) (nL (aL (aL (aL hy)))) (nL (aR (aL (aL hy)))) (chkE_ok T B a ck o (aR h)).1 (chkE_ok T B b ck y (aR (aL hy))).1 (chkE_ok T B d ck z (aR hy)).1) (λø ø ø ø=>rfl) λø ø=>rfl
 | .list es=>λck x h=>oLs_ok h λxs q h=>pl (s_list (chkEL_ok T B es ck xs h).sel.1) (λø ø ø ø=>rfl) λø ø=>rfl
 | .tup es=>λck x h=>oTp_ok h λxs ø q h=>pl (s_tup (chkEL_ok T B es ck xs h).sel.1) (λø ø ø ø=>rfl) λø ø=>rfl
 | .dict ks vs=>λck x h=>oDc_ok h λkx xs q h=>by
  have al:=chkEL_ok T B vs ck xs (aR h)
  have h:=aL h
  have h2:=aR (aL (aL h))
  have h0:=eq_of_beq (aL (aL (aL (aL h))))
  by_cases hk:ks=[]
  ·subst hk
   obtain rfl:kx=[]:=List.length_eq_zero_iff.mp (pairs_len h2).2
   obtain rfl:xs=[]:=List.length_eq_zero_iff.mp h0.symm
   obtain rfl:vs=.nil:=by cases al;rfl
   exact pl s_dict0 (λø ø ø ø=>rfl) λø ø=>rfl
  ·exact pl (s_dict h2 (aR (aL h)) (aR h) hk h0 (of_decide_eq_true (aR (aL (aL (aL h))))) (al.sep h2 h0)) (λø ø ø ø=>rfl) λø ø=>rfl
 | .pget d a b z=>λck x h=>oCl_ok h λfx xs ks q h=>oAt_ok (P:=λfx=>Snd W Φ n ck (.pget d a b z) (.Call fx xs ks q)) h λo m' p h=>un_ok (P:=λks=>Snd W Φ n ck (.pget d a b z) (.Call (.Attribute o m' p) xs ks q)) (aR (aL h)) <|
  u2_ok (P:=λxs=>Snd W Φ n ck (.pget d a b z) (.Call (.Attribute o m' p) xs [] q)) (aR h) λt w hw=>oTp_ok (P:=λt=>Snd W Φ n ck (.pget d a b z) (.Call (.Attribute o m' p) [t,w] [] q)) (aR hw) λts kk tp ht=>
  u2_ok (P:=λts=>Snd W Φ n ck (.pget d a b z) (.Call (.Attribute o m' p) [.Tuple ts kk tp,w] [] q)) ht λy u hy=>by
  have h:=aL (aL h)
  obtain rfl:=eq_of_beq (aR (aL (aL h)))
  exact pl (s_pget (nL (aR (aL h))) (eq_of_beq (aL (aL (aL h)))) (nL (aL (aL (aL hy)))) (nL (aR (aL (aL hy)))) (nL (aL (aL hw))) (chkE_ok T B d ck o (aR h)).1 (chkE_ok T B a ck y (aR (aL hy))).1 (chkE_ok T B b ck u (aR hy)).1 (chkE_ok T B z ck w (aR (aL hw))).1) (λø ø ø ø=>rfl) λø ø=>rfl
 | .comp fvs nl t s cnd e=>λck x h=>oLc_ok h λy gs sc q h=>u1_ok (P:=λgs=>Snd W Φ n ck (.comp fvs nl t s cnd e) (.ListComp y gs sc q)) h λg h=>by
  obtain ⟨tg,it,ifs,as⟩:=g
  have A:=cmpA_ok (aL (aL (aL (aL h))))
  obtain rfl:=A.as
  exact pl (s_comp A.k A.nd A.ok A.fv A.st (aR (aL (aL (aL h)))) (chkSrc_ok T B s ck it (aR (aL (aL h)))) (chkE_ok T B e _ y (aR (aL h))).1 (ifs_ok (λx h=>(chkE_ok T B cnd _ x h).2) (aR h))) (λø ø ø ø=>rfl) λø ø=>rfl
theorem chkEL_ok (T:NOk W) (B:Below W Φ n):∀ (es:EL) (ck:Ck) (xs:List Expr),chkEL W.K W.N n ck es xs=true->AllE W Φ n ck es xs
 | .nil=>λck xs h=>un_ok h .nil
 | .cons e r=>λck xs h=>uc_ok h λx xs h=>.cons (nL (aL (aL h))) (chkE_ok T B e ck x (aR (aL h))).1 (chkEL_ok T B r ck xs (aR h))
theorem chkSrc_ok (T:NOk W) (B:Below W Φ n):∀ (s:Src) (ck:Ck) (x:Expr),chkSrc W.K W.N n ck s x=true->SSrc W Φ n ck s x
 | .obj e=>λck x h=>src_obj (chkE_ok T B e ck x h).1
 | .rng1 a=>λck x h=>oCl_ok (show oCl (λfx xs ks ø=>oNm (λg ø=>g == ("range":Str)&&glB W.K ck (.type "range") g&&un ks&&u1 (λy=>!isStar y&&chkE W.K W.N n ck a y) xs) fx) x=true from h) λfx xs ks q h=>oNm_ok (P:=λfx=>SSrc W Φ n ck (.rng1 a) (.Call fx xs ks q)) h λg p h=>un_ok (P:=λks=>SSrc W Φ n ck (.rng1 a) (.Call (.Name g p) xs ks q)) (aR (aL h)) <|
  u1_ok (P:=λxs=>SSrc W Φ n ck (.rng1 a) (.Call (.Name g p) xs [] q)) (aR h) λy hy=>src_rng1 (aR (aL (aL h))) (nL (aL hy)) (chkE_ok T B a ck y (aR hy)).1
 | .rng2 a b=>λck x h=>oCl_ok (show oCl (λfx xs ks ø=>oNm (λg ø=>g == ("range":Str)&&glB W.K ck (.type "range") g&&un ks&&u2 (λy z=>!isStar y&&!isStar z&&chkE W.K W.N n ck a y&&chkE W.K W.N n ck b z) xs) fx) x=true from h) λfx xs ks q h=>oNm_ok (P:=λfx=>SSrc W Φ n ck (.rng2 a b) (.Call fx xs ks q)) h λg p h=>un_ok (P:=λks=>SSrc W Φ n ck (.rng2 a b) (.Call (.Name g p) xs ks q)) (aR (aL h)) <|
  u2_ok (P:=λxs=>SSrc W Φ n ck (.rng2 a b) (.Call (.Name g p) xs [] q)) (aR h) λy z hy=>src_rng2 (aR (aL (aL h))) (nL (aL (aL (aL hy)))) (nL (aR (aL (aL hy)))) (chkE_ok T B a ck y (aR (aL hy))).1 (chkE_ok T B b ck z (aR hy)).1
end
end
section
variable {W:Wd}{Φ:Phi}{n:Nat}{ck:Ck}
noncomputable def Flies (W:Wd) (L:Addr) (m:Str->Option Value) (X:Addr->Option Obj) (σ:St) (e:Addr) (h:Heap):Prop:=
 ∃ ob a0,X e=none/\HS W L m (upd X e ob) σ h/\ob.cls=.ref W.N.xc/\ob.data=.fields #[a0,.none,.none,.none,.bool false,.none]
inductive FlOk:Flow->Fl->Prop
 | nx:FlOk .next .nx
 | rt {u:Value}{v:V} (h:av u=some v):FlOk (.ret u) (.rt v)
noncomputable def BQ (C:Cx W) (X:Addr->Option Obj) (s:Shared) (k:KL) (Q:Flow->Shared->Prop):Prop:=∀ f fl h' t' m' X' lo' σ',FlOk f fl->HS W C.L m' X' σ' h'->VOk C m' X' lo'->XE C X X'->k fl lo' σ'->Q f { s with heap:=h',toks:=t' }
noncomputable def BX (C:Cx W) (X:Addr->Option Obj) (s:Shared) (k:KL) (Er:Value->Shared->Prop):Prop:=∀ e h' t' m' X' lo' σ',Flies W C.L m' X' σ' e h'->XE C X X'->FX C.fl C.L X'->k .ex lo' σ'->Er (.ref e) { s with heap:=h',toks:=t' }
noncomputable def SS (W:Wd) (Φ:Phi) (n:Nat) (ck:Ck) (st:S) (x:Stmt):Prop:=∀ (C:Cx W),C.of ck->∀ (A:Around) (m:Str->Option Value) (X:Addr->Option Obj) (lo:Lo) (σ:St) (s:Shared) (Q:Flow->Shared->Prop) (Er:Value->Shared->Prop) (k:KL),
 ACond A C.fl n->VOk C m X lo->HS W C.L m X σ s.heap->wpS W.N.TB Φ st lo σ k->BQ C X s k Q->BX C X s k Er->wpAny (Mo W) A (exec x C.env) Q Er s
noncomputable def SSL (W:Wd) (Φ:Phi) (n:Nat) (ck:Ck) (st:SL) (x:List Stmt):Prop:=∀ (C:Cx W),C.of ck->∀ (A:Around) (m:Str->Option Value) (X:Addr->Option Obj) (lo:Lo) (σ:St) (s:Shared) (Q:Flow->Shared->Prop) (Er:Value->Shared->Prop) (k:KL),
 ACond A C.fl n->VOk C m X lo->HS W C.L m X σ s.heap->wpSL W.N.TB Φ st lo σ k->BQ C X s k Q->BX C X s k Er->wpAny (Mo W) A (execs x C.env) Q Er s
theorem inter_off (C:Cx W):interactive C.env=false:=by unfold interactive;rw [C.fn];rfl
theorem swaps_off {x:Expr} (h:isComp x=false) (t:Option Expr) (l:Nat) (env:Env):swapsWith x t l env=pure false:=by
 cases x <;> first | rfl | cases h
theorem BQ.move {C:Cx W}{X X':Addr->Option Obj}{s:Shared}{k:KL}{Q:Flow->Shared->Prop} (h:BQ C X s k Q) (x:XE C X X') (h1:Heap) (t1:Tok):BQ C X' { s with heap:=h1,toks:=t1 } k Q:=
 λf fl h' t' m' X'' lo' σ' a b c d e=>h f fl h' t' m' X'' lo' σ' a b c (x.trans d) e
theorem BX.move {C:Cx W}{X X':Addr->Option Obj}{s:Shared}{k:KL}{Q:Value->Shared->Prop} (h:BX C X s k Q) (x:XE C X X') (h1:Heap) (t1:Tok):BX C X' { s with heap:=h1,toks:=t1 } k Q:=
 λe h' t' m' X'' lo' σ' a b c d=>h e h' t' m' X'' lo' σ' a (x.trans b) c d
theorem t_expr {e:E}{x:Expr}{p:Pos} (hc:isComp x=false) (he:SE (W:=W) Φ n ck e x):SS W Φ n ck (.expr e) (.Expr x p):=by
 intro C hC A m X lo σ s Q Er k hA hV H hw K KX
 exact wpAny_Expr_any (he C hC A m X lo σ s _ Er _ hA hV H hw λu v h1 t1 σ1 e1 H1 w1=>K _ _ h1 t1 m X lo σ1 .nx H1 hV XE.refl w1) (inter_off C) (swaps_off hc _ _ _)
theorem t_asg {i:Nat}{e:E}{y:Str}{x:Expr}{p q:Pos} (hc:isComp x=false) (hi:chkVar ck i y=true) (he:SE (W:=W) Φ n ck e x):SS W Φ n ck (.asg i e) (.Assign [.Name y q] x p):=by
 intro C hC A m X lo σ s Q Er k hA hV H hw K KX
 refine wpAny_Assign_Name (he C hC A m X lo σ s _ Er _ hA hV H hw λu v h1 t1 σ1 e1 H1 w1=>?_) (swaps_off hc _ _ _)
 exact store_ok hC hi hV H1 e1 λh2 t2 m2 X2 H2 V2 x2 ø=>K _ _ h2 t2 m2 X2 _ σ1 .nx H2 V2 x2 w1
theorem t_asgT {is:List Nat}{e:E}{xs:List Expr}{x:Expr}{kk:Nat}{p q:Pos} (hc:isComp x=false) (ht:isTuple x=false) (hi:chkVars ck is xs=true) (he:SE (W:=W) Φ n ck e x):SS W Φ n ck (.asgT is e) (.Assign [.Tuple xs kk q] x p):=by
 intro C hC A m X lo σ s Q Er k hA hV H hw K KX
 refine Assign_Tuple (he C hC A m X lo σ s _ Er _ hA hV H hw λu v h1 t1 σ1 e1 H1 w1=>?_) (show swapsWith x (some (.Tuple xs kk q)) p.line C.env=pure false from swaps_off hc _ _ _) (by cases x <;> first | rfl | cases ht)
 exact bind_ok hC hA.h (t:=.many is) (show chkT ck (.many is) (.Tuple xs kk q)=true from (oTp_eq (f:=chkVars ck is)).trans hi) hV H1 e1 w1 λh2 t2 m2 X2 lo2 H2 V2 x2 ø w2=>K _ _ h2 t2 m2 X2 _ σ1 .nx H2 V2 x2 w2
theorem t_setA (T:NOk W) {a e:E}{f:Nat}{o x:Expr}{p q:Pos} (hc:isComp x=false) (ha:SE (W:=W) Φ n ck a o) (he:SE (W:=W) Φ n ck e x):SS W Φ n ck (.setA a f e) (.Assign [.Attribute o (W.N.fn f) q] x p):=by
 intro C hC A m X lo σ s Q Er k hA hV H hw K KX
 refine plainObj_wpAny_Assign_Attribute (he C hC A m X lo σ s _ Er _ hA hV H hw λu v h1 t1 σ1 e1 H1 w1=>?_) (swaps_off hc _ _ _)
 refine ha C hC A m X lo σ1 _ _ Er _ hA hV H1 w1 λu2 v2 h2 t2 σ2 e2 H2 w2=>?_
 refine eR (P:=λu=>wpAny (Mo W) A (setAttr u (W.N.fn f) _) _ Er { s with heap:=h2,toks:=t2 }) e2 w2 λr w2=>gS_ok w2 λp hI w2=>?_
 exact op_setAttr T (s:={ s with heap:=h2,toks:=t2 }) H2 hI w2.1 w2.2.1 e1 λh3 t3 H3=>K _ _ h3 t3 m X lo _ .nx H3 hV XE.refl w2.2.2
theorem t_setI {a i e:E}{o sl x:Expr}{p q:Pos} (hc:isComp x=false) (ha:SE (W:=W) Φ n ck a o) (hi:SE (W:=W) Φ n ck i sl) (he:SE (W:=W) Φ n ck e x):SS W Φ n ck (.setI a i e) (.Assign [.Subscript o sl q] x p):=by
 intro C hC A m X lo σ s Q Er k hA hV H hw K KX
 refine wpAny_Assign_Subscript (he C hC A m X lo σ s _ Er _ hA hV H hw λu v h1 t1 σ1 e1 H1 w1=>?_) (swaps_off hc _ _ _)
 refine ha C hC A m X lo σ1 _ _ Er _ hA hV H1 w1 λu2 v2 h2 t2 σ2 e2 H2 w2=>?_
 refine hi C hC A m X lo σ2 _ _ Er _ hA hV H2 w2 λu3 v3 h3 t3 σ3 e3 H3 w3=>?_
 exact op_setItem (s:={ s with heap:=h3,toks:=t3 }) e2 e3 e1 H3 w3 λh4 t4 σ4 H4 w4=>K _ _ h4 t4 m X lo σ4 .nx H4 hV XE.refl w4
theorem inc_op {o:Bop} (hi:incOp o=true) {A:Around}{E:Value->Shared->Prop}{s:Shared}{a:Int}{y:V}{t:Tok}{u:Value} (hu:av u=some y) {k:KV}{σ:St}{Q:Value->Shared->Prop} (hw:binop o (.int a) y σ k) (K:∀ r t',k (.int r) σ->Q (.int r s.toks) { s with toks:=t' }) :
 wpAny (Mo W) A (inplaceOp o.op (.int a t) u) Q E s:=by
 cases o with
 | add=>exact eI (P:=λu=>wpAny (Mo W) A (inplaceOp .Add (.int a t) u) Q E s) hu hw λi t hw=>PySem.wpAny_iadd_int (K _ _ hw)
 | sub=>exact eI (P:=λu=>wpAny (Mo W) A (inplaceOp .Sub (.int a t) u) Q E s) hu hw λi t hw=>PyProof.Rows.isub_int (K _ _ hw)
 | _=>cases hi
theorem t_augV {i:Nat}{o:Bop}{e:E}{y:Str}{x:Expr}{p q:Pos} (hi:incOp o=true) (hv:chkVar ck i y=true) (he:SE (W:=W) Φ n ck e x):SS W Φ n ck (.augV i o e) (.AugAssign (.Name y q) o.op x p):=by
 intro C hC A m X lo σ s Q Er k hA hV H hw K KX
 refine gS_ok hw λo' hlo hw=>gS_ok hw λv ho hw=>?_
 obtain ⟨y',u,e1,e2,r⟩:=hV.vars i v (hlo.trans (congrArg some ho))
 have:y'=y:=Option.some.inj (e1.symm.trans ((congrArg (·[i]?) hC.1).trans (eq_of_beq (aL hv))))
 subst this
 refine wpAny_AugAssign_Name (loadRd H r (he C hC A m X lo σ s _ Er _ hA hV H hw λu2 v2 h2 t2 σ2 e2' H2 w2=>?_))
 refine eI (P:=λu=>wpAny (Mo W) A (inplaceOp o.op u u2) _ Er { s with heap:=h2,toks:=t2 }) e2 w2 λa t w2=>?_
 refine inc_op (s:={ s with heap:=h2,toks:=t2 }) hi e2' w2 λr t' w3=>?_
 exact store_ok (s:={ s with heap:=h2,toks:=t' }) hC hv hV H2 (v:=.int r) rfl λh3 t3 m3 X3 H3 V3 x3 ø=>K _ _ h3 t3 m3 X3 _ σ2 .nx H3 V3 x3 w3
theorem t_augA (T:NOk W) {a e:E}{f:Nat}{o:Bop}{b x:Expr}{p q:Pos} (hi:incOp o=true) (ha:SE (W:=W) Φ n ck a b) (he:SE (W:=W) Φ n ck e x):SS W Φ n ck (.augA a f o e) (.AugAssign (.Attribute b (W.N.fn f) q) o.op x p):=by
 intro C hC A m X lo σ s Q Er k hA hV H hw K KX
 refine wpAny_AugAssign_AttributeAny (ha C hC A m X lo σ s _ Er _ hA hV H hw λu v h1 t1 σ1 e1 H1 w1=>?_)
 refine eR (P:=λu=>wpAny (Mo W) A (getAttr u (W.N.fn f) true) (λv s'=>wpAny (Mo W) A (eval x C.env) (λw s'=>wpAny (Mo W) A (inplaceOp o.op v w) (λr s'=>wpAny (Mo W) A (setAttr u (W.N.fn f) r) (λø=>Q .next) Er s') Er s') Er s') Er { s with heap:=h1,toks:=t1 }) e1 w1 λr w1=>gS_ok w1 λp hI w1=>gS_ok w1 λy hf w1=>?_
 refine op_getAttr T (s:={ s with heap:=h1,toks:=t1 }) H1 hI hf λu t' e'=>?_
 refine eI (P:=λu=>wpAny (Mo W) A (eval x C.env) (λw s'=>wpAny (Mo W) A (inplaceOp o.op u w) (λq s'=>wpAny (Mo W) A (setAttr (.ref r) (W.N.fn f) q) (λø=>Q .next) Er s') Er s') Er { s with heap:=h1,toks:=t' }) e' w1 λi t w1=>?_
 refine he C hC A m X lo σ1 _ _ Er _ hA hV H1 w1 λu2 v2 h2 t2 σ2 e2 H2 w2=>?_
 refine inc_op (s:={ s with heap:=h2,toks:=t2 }) hi e2 w2 λq t' w3=>gS_ok w3 λp hI' w3=>?_
 exact op_setAttr T (s:={ s with heap:=h2,toks:=t' }) H2 hI' w3.1 w3.2.1 (v:=.int q) rfl λh3 t3 H3=>K _ _ h3 t3 m X lo _ .nx H3 hV XE.refl w3.2.2
theorem t_augI {a i e:E}{o:Bop}{b sl x:Expr}{p q:Pos} (hs:isSlice sl=false) (hi:incOp o=true) (ha:SE (W:=W) Φ n ck a b) (hsl:SE (W:=W) Φ n ck i sl) (he:SE (W:=W) Φ n ck e x):SS W Φ n ck (.augI a i o e) (.AugAssign (.Subscript b sl q) o.op x p):=by
 intro C hC A m X lo σ s Q Er k hA hV H hw K KX
 refine wpAny_AugAssign_SubscriptAny (ha C hC A m X lo σ s _ Er _ hA hV H hw λu v h1 t1 σ1 e1 H1 w1=>?_) ?_
 ·refine hsl C hC A m X lo σ1 _ _ Er _ hA hV H1 w1 λu2 v2 h2 t2 σ2 e2 H2 w2=>?_
  refine (op_getItem (A:=A) (E:=Er) (s:={ s with heap:=h2,toks:=t2 }) (Q:=λold s₃=>wpAny (Mo W) A (eval x C.env) (λv s₄=>wpAny (Mo W) A (inplaceOp o.op old v) (λnew s₅=>wpAny (Mo W) A (setItem u u2 new) (λø=>Q .next) Er s₅) Er s₄) Er s₃) e1 e2 H2 w2 λr v3 t' e' w3=>?_).1
  refine eI (P:=λr=>wpAny (Mo W) A (eval x C.env) (λv s₄=>wpAny (Mo W) A (inplaceOp o.op r v) (λnew s₅=>wpAny (Mo W) A (setItem u u2 new) (λø=>Q .next) Er s₅) Er s₄) Er { s with heap:=h2,toks:=t' }) e' w3 λa t w3=>?_
  refine he C hC A m X lo σ2 _ _ Er _ hA hV H2 w3 λu4 v4 h4 t4 σ4 e4 H4 w4=>?_
  refine inc_op (s:={ s with heap:=h4,toks:=t4 }) hi e4 w4 λr t' w5=>?_
  exact op_setItem (s:={ s with heap:=h4,toks:=t' }) e1 e2 (v:=.int r) rfl H4 w5 λh6 t6 σ6 H6 w6=>K _ _ h6 t6 m X lo σ6 .nx H6 hV XE.refl w6
 ·intro ov iv new
  cases sl <;> first | rfl | cases hs
theorem t_ite {t:E}{a b:SL}{x:Expr}{ys zs:List Stmt}{p:Pos} (ht:SC (W:=W) Φ n ck t x) (ha:SSL W Φ n ck a ys) (hb:SSL W Φ n ck b zs):SS W Φ n ck (.ite t a b) (.If x ys zs p):=by
 intro C hC A m X lo σ s Q Er k hA hV H hw K KX
 refine wpAny_If (ht C hC A m X lo σ s _ Er _ hA hV H hw λr h1 t1 σ1 H1 w1=>?_)
 cases r with
 | true=>exact ha C hC A m X lo σ1 _ _ Er _ hA hV H1 w1 (K.move XE.refl h1 t1) (KX.move XE.refl h1 t1)
 | false=>exact hb C hC A m X lo σ1 _ _ Er _ hA hV H1 w1 (K.move XE.refl h1 t1) (KX.move XE.refl h1 t1)
theorem t_ret {e:E}{x:Expr}{p:Pos} (he:SE (W:=W) Φ n ck e x):SS W Φ n ck (.ret e) (.Return (some x) p):=by
 intro C hC A m X lo σ s Q Er k hA hV H hw K KX
 exact wpAny_Return_some (he C hC A m X lo σ s _ Er _ hA hV H hw λu v h1 t1 σ1 e1 H1 w1=>K _ _ h1 t1 m X lo σ1 (.rt e1) H1 hV XE.refl w1)
theorem t_retn {p:Pos}:SS W Φ n ck .retn (.Return none p):=by
 intro C hC A m X lo σ s Q Er k hA hV H hw K KX
 show wpAny (Mo W) A (do standAt p;return Flow.ret .none) Q Er s
 exact wpAny_bind (wpAny_standAt (wpAny_pure (K _ _ s.heap s.toks m X lo σ (.rt rfl) H hV XE.refl hw)))
theorem t_pset {d a b e:E}{o x y z:Expr}{kk:Nat}{p q tp:Pos} (hc:isComp z=false) (hx:isStar x=false) (hy:isStar y=false) (hd:SE (W:=W) Φ n ck d o) (ha:SE (W:=W) Φ n ck a x) (hb:SE (W:=W) Φ n ck b y) (he:SE (W:=W) Φ n ck e z) :
 SS W Φ n ck (.pset d a b e) (.Assign [.Subscript o (.Tuple [x,y] kk tp) q] z p):=by
 intro C hC A m X lo σ s Q Er k hA hV H hw K KX
 refine wpAny_Assign_Subscript (he C hC A m X lo σ s _ Er _ hA hV H hw λu v h1 t1 σ1 e1 H1 w1=>?_) (swaps_off hc _ _ _)
 refine hd C hC A m X lo σ1 _ _ Er _ hA hV H1 w1 λu2 v2 h2 t2 σ2 e2 H2 w2=>?_
 refine Tuple_ ?_
 rw [star_cons hx,star_cons hy]
 show wpAny (Mo W) A (spliced ((false,eval x C.env)::(false,eval y C.env)::[])) _ _ _
 refine spliced_cons (ha C hC A m X lo σ2 _ _ Er _ hA hV H2 w2 λu3 v3 h3 t3 σ3 e3 H3 w3=>?_)
 refine spliced_cons (hb C hC A m X lo σ3 _ _ Er _ hA hV H3 w3 λu4 v4 h4 t4 σ4 e4 H4 w4=>spliced_nil ?_)
 refine wpAny_newObj_type ?_ (show (2:Nat)<=sizeLine by rw [sizeLine_eq];decide)
 refine eR (P:=λu2=>wpAny (Mo W) A (setItem u2 (.ref h4.objs.size) u) _ Er { s with heap:=h4.push (tupOf #[u3,u4] 0),toks:=t4 }) e2 w4 λr w4=>?_
 refine eII (P:=λu3 u4=>wpAny (Mo W) A (setItem (.ref r) (.ref h4.objs.size) u) _ Er { s with heap:=h4.push (tupOf #[u3,u4] 0),toks:=t4 }) e3 e4 w4 λi ti j tj w4=>gS_ok w4 λdd hdd w4=>?_
 exact op_pset (s:={ s with heap:=h4,toks:=t4 }) (by have:=hA.room;omega) e1 H4 hdd w4.1 w4.2.1 λh5 t5 H5=>K _ _ h5 t5 m X lo _ .nx H5 hV XE.refl w4.2.2
theorem t_fail {x:Stmt}:SS W Φ n ck .fail x:=by
 intro C hC A m X lo σ s Q Er k hA hV H hw K KX
 exact hw.elim
theorem l_done:SSL W Φ n ck .nil []:=by
 intro C hC A m X lo σ s Q Er k hA hV H hw K KX
 exact wpAny_execs_nil (K _ _ s.heap s.toks m X lo σ .nx H hV XE.refl hw)
theorem l_seq {st:S}{r:SL}{x:Stmt}{xs:List Stmt} (hs:SS W Φ n ck st x) (hr:SSL W Φ n ck r xs):SSL W Φ n ck (.cons st r) (x::xs):=by
 intro C hC A m X lo σ s Q Er k hA hV H hw K KX
 refine wpAny_execs_cons (hs C hC A m X lo σ s _ Er _ hA hV H hw (λf fl h1 t1 m1 X1 lo1 σ1 ef H1 V1 x1 w1=>?_) λe h1 t1 m1 X1 lo1 σ1 f1 x1 fx1 w1=>KX e h1 t1 m1 X1 lo1 σ1 f1 x1 fx1 w1)
 cases ef with
 | nx=>exact hr C hC A m1 X1 lo1 σ1 _ _ Er _ hA V1 H1 w1 (K.move x1 h1 t1) (KX.move x1 h1 t1)
 | rt h=>exact K _ _ h1 t1 m1 X1 lo1 σ1 (.rt h) H1 V1 x1 w1
theorem t_while {t:E}{b:SL}{x:Expr}{ys:List Stmt}{p:Pos} (ht:SC (W:=W) Φ n ck t x) (hb:SSL W Φ n ck b ys):SS W Φ n ck (.while t b) (.While x ys [] p):=by
 intro C hC A m X lo σ s Q Er k hA hV H hw K KX
 obtain ⟨J,n₀,hJ,step⟩:=hw
 refine wpAny_While ?_
 let I:Nat->Shared->Prop:=λn s'=>∀ P:Prop,(∀ m' X' lo' σ' h t,s'={ s with heap:=h,toks:=t }->HS W C.L m' X' σ' h->VOk C m' X' lo'->XE C X X'->J n lo' σ'->P)->P
 refine codeAny_whileLoop I (λn' s' hI=>hI _ λm' X' lo' σ' h tk hs H' V' x' hj=>?_) n₀ λP k=>k m X lo σ s.heap s.toks rfl H hV XE.refl hJ
 subst hs
 refine ht C hC A m' X' lo' σ' { s with heap:=h,toks:=tk } _ _ _ hA V' H' (step n' lo' σ' hj) λr h1 t1 σ1 H1 w1=>?_
 cases r with
 | true=>
   rw [if_pos rfl]
   refine hb C hC A m' X' lo' σ1 _ _ _ _ hA V' H1 w1 (λf fl h2 t2 m2 X2 lo2 σ2 ef H2 V2 x2 w2=>?_) λe h2 t2 m2 X2 lo2 σ2 f2 x2 fx2 w2=>w2.elim
   cases ef with
   | nx=>obtain ⟨m₁,hlt,hj2⟩:=w2;exact ⟨m₁,hlt,λP k=>k m2 X2 lo2 σ2 h2 t2 rfl H2 V2 (x'.trans x2) hj2⟩
   | rt hu=>exact K _ _ h2 t2 m2 X2 lo2 σ2 (.rt hu) H2 V2 (x'.trans x2) w2
 | false=>
   rw [if_neg Bool.false_ne_true]
   exact wpAny_execs_nil (K _ _ h1 t1 m' X' lo' σ1 .nx H1 V' x' w1)
noncomputable def cut (X:Addr->Option Obj) (D:Addr):Addr->Option Obj:=λa=>if a=D then Option.none else X a
theorem cut_self (X:Addr->Option Obj) (D:Addr):cut X D D=none:=if_pos rfl
theorem cut_ne (X:Addr->Option Obj) {D a:Addr} (h:a≠D):cut X D a=X a:=if_neg h
theorem upd_cut {X:Addr->Option Obj}{D:Addr}{o:Obj} (h:X D=some o):X=upd (cut X D) D o:=by
 funext a;by_cases q:a=D
 ·subst q;rw [upd_same];exact h
 ·rw [upd_ne _ _ q,cut_ne _ q]
theorem VOk.iloc {C:Cx W}{m:Str->Option Value}{X:Addr->Option Obj}{lo:Lo}{D:Addr} (hV:VOk C m X lo) (hX:X D=none) (hL:D≠C.L):D≠C.env.locals:=λe=>by
 rcases hV.dict with hd | ⟨o,mc,h1,_,_⟩
 ·exact hL (e.trans hd)
 ·rw [<- e,hX] at h1;cases h1
theorem VOk.icel {C:Cx W}{m:Str->Option Value}{X:Addr->Option Obj}{lo:Lo}{D:Addr} (hV:VOk C m X lo) (hX:X D=none) (x:Str):C.env.cells.lookup x≠some D:=λe=>by
 obtain ⟨o,v,h1,_⟩:=hV.cells x D e
 rw [hX] at h1;cases h1
theorem VOk.cut {C:Cx W}{m m':Str->Option Value}{X X':Addr->Option Obj}{lo lo':Lo}{D:Addr} (hV:VOk C m X lo) (V:VOk C m' X' lo') (hX:X D=none) (hL:D≠C.L):VOk C m' (cut X' D) lo':=by
 have iloc:=hV.iloc hX hL
 have icel:=hV.icel hX
 have shr:∀ a p,a≠D->X' a=some p->Mine.cut X' D a=some p:=λa p qa e=>by rw [cut_ne _ qa];exact e
 exact {
  vars:=λi v hv=>by
   obtain ⟨x,u,e1,e2,r⟩:=V.vars i v hv
   refine ⟨x,u,e1,e2,?_⟩
   cases r with
   | loc hk hl h=>exact .loc hk hl h
   | com o mc hk h1 h2 h=>exact .com o mc hk (shr _ _ (Ne.symm iloc) h1) h2 h
   | cel a o hk h1 h2 h=>exact .cel a o hk h1 (shr _ _ (λe=>icel x (by rw [h1,e])) h2) h
  fx:=λe he=>by
   obtain ⟨h1,Le,h2,h3⟩:=V.fx e he
   refine ⟨h1,Le,h2,?_⟩
   obtain ⟨_,Le',h2',h3'⟩:=hV.fx e he
   rw [h2] at h2';cases h2'
   rcases h3 with h3 | ⟨p,es,ep,h3,h4⟩
   ·exact .inl h3
   ·refine .inr ⟨p,es,ep,shr _ _ (λe=>?_) h3,h4⟩
    rcases h3' with h3' | ⟨p',es',ep',h3',_⟩
    ·exact hL (by rw [<- e];exact h3')
    ·rw [e,hX] at h3';cases h3'
  cells:=λx a h=>by
   obtain ⟨o,v,q1,q2⟩:=V.cells x a h
   exact ⟨o,v,shr _ _ (λe=>icel x (by rw [h,e])) q1,q2⟩
  dict:=V.dict.imp id λ⟨o,mc,h1,h2,h3⟩=>⟨o,mc,shr _ _ (Ne.symm iloc) h1,h2,h3⟩ }
theorem t_loop {t:Tgt}{src:Src}{b:SL}{tg it:Expr}{ys:List Stmt}{p:Pos} (ht:chkT ck t tg=true) (hset:isSet it=false) (hs:SSrc W Φ n ck src it) (hb:SSL W Φ n ck b ys):SS W Φ n ck (.loop t src b) (.For tg it ys [] p):=by
 intro C hC A m X lo σ s Q Er k hA hV H hw K KX
 refine wpAny_For (hs C hC A m X lo σ s _ Er _ hA hV H hw λxs g σ1 iA o₀ ha t1 S hX H1 T S0 w1=>?_) (λx=>set_plain' hset _ x)
 have iL:iA≠C.L:=H1.atne (upd_same _ _ _)
 let I:Nat->Shared->Prop:=λn s'=>∀ P:Prop,(∀ i o m' X' lo' σ' h tk,s'={ s with heap:=h,toks:=tk }->n=xs.length - i->i<=xs.length->S i o->X' iA=none ->
  HS W C.L m' (upd X' iA o) σ' h->VOk C m' X' lo'->XE C X X'->loopW t g (λlo σ k=>wpSL W.N.TB Φ b lo σ k) k (xs.drop i) lo' σ'->P)->P
 refine codeAny_forLoop_any I (λn' s' hI=>hI _ λi o m' X' lo' σ' h tk hs hn hi hS hX' H' V' x' w=>?_) xs.length λP k=>k 0 o₀ m X lo σ1 ha t1 rfl rfl (Nat.zero_le _) S0 hX H1 hV XE.refl w1
 subst hs
 have hit:h.get? iA=some o:=H'.at (upd_same _ _ _) (T.cls _ _ hS)
 by_cases q:i<xs.length
 ·rw [List.drop_eq_getElem_cons q] at w
  refine T.item i xs[i] { s with heap:=h,toks:=tk } σ' C.L m' _ o _ _ (List.getElem?_eq_getElem q) H' w.1 hit hS λu h1 o1 tk1 e1 S1 ho1 hfr hsb=>?_
  have H1':=H'.sameX (upd_same _ _ _) hsb ho1
  rw [upd_upd] at H1'
  refine T.go (i+1) { s with heap:=h1,toks:=tk1 } o1 tg u _ _ ho1 S1 ?_
  refine bind_ok (s:={ s with heap:=h1,toks:=tk1 }) hC hA.h ht (V'.mono λa p e=>by rw [upd_ne _ _ λq=>by rw [q,hX'] at e;cases e];exact e) H1' e1 w.2 λh2 t2 m2 X2 lo2 H2 V2 x2 ø w2=>?_
  refine hb C hC A m2 X2 lo2 σ' { s with heap:=h2,toks:=t2 } _ _ _ hA V2 H2 w2 (λf fl h3 t3 m3 X3 lo3 σ3 ef H3 V3 x3 w3=>?_) λe h2 t2 m2 X2 lo2 σ2 f2 x2 fx2 w2=>w2.elim
  have x3':=x2.trans x3
  have hX3:X3 iA=some o1:=by rw [x3' iA (hV.iloc hX iL) (λø=>hV.icel hX),upd_same]
  have xe3:XE C X (cut X3 iA):=λa h1 h2=>by
   by_cases qa:a=iA
   ·rw [qa,cut_self,hX]
   ·rw [cut_ne _ qa,x3' a h1 h2,upd_ne _ _ qa,x' a h1 h2]
  have V3':=hV.cut V3 hX iL
  rw [upd_cut hX3] at H3
  cases ef with
  | nx=>exact ⟨xs.length - (i+1),by omega,λP k=>k (i+1) o1 m3 _ lo3 σ3 h3 t3 rfl rfl q S1 (cut_self _ _) H3 V3' xe3 w3⟩
  | rt hu=>exact K _ _ h3 t3 m3 _ lo3 σ3 (.rt hu) (H3.dropX (cut_self _ _) λb p ø e=>e) V3' xe3 w3
 ·have:i=xs.length:=by omega
  subst this
  rw [List.drop_length] at w
  refine T.stop { s with heap:=h,toks:=tk } σ' C.L m' _ o _ _ H' w.1 hit hS λh1 tk1 hx=>?_
  exact wpAny_execs_nil (K _ _ h1 tk1 m' X' lo' σ' .nx (H'.dropX hX' λb p hb e=>hx b p hb e) V' x' w.2)
end
section
variable {W:Wd}{Φ:Phi}{n:Nat}{ck:Ck}
theorem t_asgC {i:Nat}{fvs:List Nat}{nl:Nat}{t:Tgt}{src:Src}{cnd e:E}{y:Str}{x tg it:Expr}{ifs:List Expr}{scope:Scope}{pos p q:Pos} (hi:chkVar ck i y=true)
 (hs1:ck.sc.lookup y=some .local) (hs2:q.line=pos.line) (hs3:(scope.names.any λ(n,k)=>n == y&&(k == .local || k == .cell))=false)
 (hk:scope.kind=.function) (h1:nodupB (compCk ck fvs scope.names).vt=true) (h2:compOk ck.sc scope.names=true) (hf:(fvs.all λi=>(ck.vt[i]?).any λn=>scope.names.lookup n == some .free)=true) (hset:isSet it=false)
 (ht:chkT (compCk ck fvs scope.names) t tg=true) (hs:SSrc W Φ n ck src it) (he:SE (W:=W) Φ n (compCk ck fvs scope.names) e x)
 (hif:(ifs=[]/\cnd=.tru)\/∃ y,ifs=[y]/\SC (W:=W) Φ n (compCk ck fvs scope.names) cnd y) :
 SS W Φ n ck (.asg i (.comp fvs nl t src cnd e)) (.Assign [.Name y q] (.ListComp x [⟨tg,it,ifs,0⟩] scope pos) p):=by
 intro C hC A m X lo σ s Q Er k hA hV H hw K KX
 have hsw:swapsWith (.ListComp x [⟨tg,it,ifs,0⟩] scope pos) (some (.Name y q)) p.line C.env=pure true:=by
  unfold swapsWith
  dsimp only
  have b:C.env.blockKind=.function:=by unfold Env.blockKind;rw [C.fn];rfl
  have kk:C.env.kindOf y=some .local:=by rw [C.kind hC];exact hs1
  rw [b,kk,hs3]
  show (pure (_&&q.line == pos.line&&_):Sem Bool)=_
  rw [hs2];simp
 rw [exec_Assign_Name_used _ _ _ _ hsw]
 refine wpAny_bind (wpAny_standAt (wpAny_bind ?_))
 show wpAny _ A (do let _ <- comprehension (.ListComp x [⟨tg,it,ifs,0⟩] scope pos) scope C.env _ (newList []) false (eval it C.env) (some (assign (.Name y q) C.env))) _ _ s
 refine wpAny_bind (wpAny_mono (comp_core (Q:=λø s'=>Q .next s') hC hk h1 h2 hf hset ht hs he hif (use:=some (assign (.Name y q) C.env)) hA hV H (show wpE W.N.TB Φ (.comp fvs nl t src cnd e) lo σ (λv σ=>k .nx (lo.set i (some v)) σ) from hw) λl D oC mC h' t' σ' hX hN H' w'=>?_) (λø s' hq=>wpAny_pure (wpAny_pure hq)) λø ø e=>e)
 show wpAny _ A (assign (.Name y q) C.env (.ref l)) _ _ _
 have DL:=H'.atne (upd_same _ _ _)
 have mono:∀ a p,X a=some p->upd X D oC a=some p:=λa p e=>by rw [upd_ne _ _ λq=>by rw [q,hX] at e;cases e];exact e
 refine PySem.wpAny_assign_Name (store_ok (s:={ s with heap:=h',toks:=t' }) hC hi (hV.mono mono) H' (v:=.ref l) rfl λh3 t3 m3 X3 H3 V3 x3 ø=>?_)
 have hX3:X3 D=some oC:=by rw [x3 D (hV.iloc hX DL) (λø=>hV.icel hX),upd_same]
 have V4:=hV.cut V3 hX DL
 have H4:=H3
 rw [upd_cut hX3] at H4
 refine ⟨mC,H3.ns C hX3 hN,λh5 hsb=>K _ _ h5 t3 m3 (cut X3 D) _ σ' .nx (H4.dropX (cut_self _ _) λb p hb e=>hsb.extBut b p hb e) V4 (λa a1 a2=>?_) w'⟩
 by_cases qa:a=D
 ·subst qa;rw [cut_self,hX]
 ·rw [cut_ne _ qa,x3 a a1 a2,upd_ne _ _ qa]
structure Errs (W:Wd) (Φ:Phi) (n:Nat):Prop where
 raise:∀ (ck:Ck) (x:Stmt),chkS W.K W.N n ck .raise x=true->SS W Φ n ck .raise x
 tryw:∀ (ck:Ck) (i f:Nat) (as:EL) (b:SL) (j fd:Nat) (y g:Str) (q1 q2 q3 q4 q5:Pos) (xs:List Expr) (ys:List Stmt) (h:ExceptHandler),AllE W Φ n ck as xs->SSL W Φ n ck b ys ->
  (decide (f<n)&&glF W.K ck (W.N.fa f) g&&keepIn W.K (.ref (W.N.fa f)))=true->chkVar ck i y=true->handlerOk W.N ck j fd h=true ->
  SS W Φ n ck (.tryw i f as b j fd) (.Try (.Assign [.Name y q1] (.Call (.Name g q2) xs [] q3) q4::ys) [h] [] [] q5)
end
section
variable {W:Wd}{Φ:Phi}{n:Nat}
theorem asgC_ok {c:Ck}{y:Str}{q:Pos}{x:Expr}{P:Expr->Prop} (h:asgC c y q x=true) (k:∀ y' g sc p',(c.sc.lookup y == some .local&&q.line == p'.line&&!(sc.names.any λ(n,k)=>n == y&&(k == .local || k == .cell)))=true->P (.ListComp y' g sc p')):P x:=
 oLc_ok (show oLc (λø ø sc p=>c.sc.lookup y == some .local&&q.line == p.line&&!(sc.names.any λ(n,k)=>n == y&&(k == .local || k == .cell))) x=true from h) k
theorem orC {a b:Bool} (h:(!a || b)=true):a=false\/b=true:=by cases a <;> first | exact .inl rfl | exact .inr h
mutual
theorem chkS_ok (T:NOk W) (B:Below W Φ n) (Z:Errs W Φ n):∀ (st:S) (ck:Ck) (x:Stmt),chkS W.K W.N n ck st x=true->SS W Φ n ck st x
 | .expr e=>λck x h=>tXp_ok h λy p h=>t_expr (nL (aL h)) (chkE_ok T B e ck y (aR h)).1
 | .asg i e=>λck x h=>tAs_ok h λts v p h=>u1_ok (P:=λts=>SS W Φ n ck (.asg i e) (.Assign ts v p)) h λt h=>oNm_ok (P:=λt=>SS W Φ n ck (.asg i e) (.Assign [t] v p)) h λy q h=>by
  rcases orC (aR h) with hc | hc
  ·exact t_asg hc (aL (aL h)) (chkE_ok T B e ck v (aR (aL h))).1
  ·have h:=aL h
   revert h
   refine asgC_ok (P:=λv=>(chkVar ck i y&&chkE W.K W.N n ck e v)=true->SS W Φ n ck (.asg i e) (.Assign [.Name y q] v p)) (aR hc) λy' gs sc p' hr h=>?_
   have he:=aR h
   revert he
   refine E.isC_ok (P:=λe=>chkE W.K W.N n ck e (.ListComp y' gs sc p')=true->SS W Φ n ck (.asg i e) (.Assign [.Name y q] (.ListComp y' gs sc p') p)) (aL hc) λfvs nl t s cnd e he=>?_
   revert he
   refine λhe=>u1_ok (α:=Comprehension) (P:=λgs=>SS W Φ n ck (.asg i (.comp fvs nl t s cnd e)) (.Assign [.Name y q] (.ListComp y' gs sc p') p)) (oLc_eq.symm.trans he) λg he=>?_
   obtain ⟨tg,it,ifs,as⟩:=g
   have A:=cmpA_ok (aL (aL (aL (aL he))))
   obtain rfl:=A.as
   exact t_asgC (aL h) (eq_of_beq (aL (aL hr))) (eq_of_beq (aR (aL hr))) (nL (aR hr)) A.k A.nd A.ok A.fv A.st (aR (aL (aL (aL he)))) (chkSrc_ok T B s ck it (aR (aL (aL he)))) (chkE_ok T B e _ y' (aR (aL he))).1 (ifs_ok (λx h=>(chkE_ok T B cnd _ x h).2) (aR he))
 | .asgT is e=>λck x h=>tAs_ok h λts v p h=>u1_ok (P:=λts=>SS W Φ n ck (.asgT is e) (.Assign ts v p)) h λt h=>oTp_ok (P:=λt=>SS W Φ n ck (.asgT is e) (.Assign [t] v p)) h λxs kk q h=>t_asgT (nL (aL (aL (aL h)))) (nL (aR (aL (aL h)))) (aR (aL h)) (chkE_ok T B e ck v (aR h)).1
 | .setA a f e=>λck x h=>tAs_ok h λts v p h=>u1_ok (P:=λts=>SS W Φ n ck (.setA a f e) (.Assign ts v p)) h λt h=>oAt_ok (P:=λt=>SS W Φ n ck (.setA a f e) (.Assign [t] v p)) h λo m q h=>(eq_of_beq (aR (aL (aL h)))).symm ▸ t_setA T (nL (aL (aL (aL h)))) (chkE_ok T B a ck o (aR (aL h))).1 (chkE_ok T B e ck v (aR h)).1
 | .setI a i e=>λck x h=>tAs_ok h λts v p h=>u1_ok (P:=λts=>SS W Φ n ck (.setI a i e) (.Assign ts v p)) h λt h=>oSb_ok (P:=λt=>SS W Φ n ck (.setI a i e) (.Assign [t] v p)) h λo s q h=>t_setI (nL (aL (aL (aL (aL h))))) (chkE_ok T B a ck o (aR (aL (aL h)))).1 (chkE_ok T B i ck s (aR (aL h))).1 (chkE_ok T B e ck v (aR h)).1
 | .augV i o e=>λck x h=>tAu_ok h λt op v p h=>oNm_ok (P:=λt=>SS W Φ n ck (.augV i o e) (.AugAssign t op v p)) h λy q h=>opOk_eq (aR (aL h)) ▸ t_augV (aL (aL (aL (aL h)))) (aR (aL (aL (aL h)))) (chkE_ok T B e ck v (aR h)).1
 | .augA a f o e=>λck x h=>tAu_ok h λt op v p h=>oAt_ok (P:=λt=>SS W Φ n ck (.augA a f o e) (.AugAssign t op v p)) h λb m q h=>(eq_of_beq (aR (aL (aL (aL h))))).symm ▸ opOk_eq (aR (aL (aL h))) ▸ t_augA T (aL (aL (aL (aL h)))) (chkE_ok T B a ck b (aR (aL h))).1 (chkE_ok T B e ck v (aR h)).1
 | .augI a i o e=>λck x h=>tAu_ok h λt op v p h=>oSb_ok (P:=λt=>SS W Φ n ck (.augI a i o e) (.AugAssign t op v p)) h λb s q h=>opOk_eq (aR (aL (aL (aL h)))) ▸ t_augI (nL (aR (aL (aL (aL (aL h)))))) (aL (aL (aL (aL (aL h))))) (chkE_ok T B a ck b (aR (aL (aL h)))).1 (chkE_ok T B i ck s (aR (aL h))).1 (chkE_ok T B e ck v (aR h)).1
 | .ite t a b=>λck x h=>tFi_ok h λy ys zs p h=>t_ite (chkE_ok T B t ck y (aL (aL h))).2 (chkSL_ok T B Z a ck ys (aR (aL h))) (chkSL_ok T B Z b ck zs (aR h))
 | .loop t s b=>λck x h=>tFr_ok h λtg it ys zs p h=>un_ok (P:=λzs=>SS W Φ n ck (.loop t s b) (.For tg it ys zs p)) (aR h) (t_loop (aL (aL (aL (aL h)))) (nL (aR (aL (aL (aL h))))) (chkSrc_ok T B s ck it (aR (aL (aL h)))) (chkSL_ok T B Z b ck ys (aR (aL h))))
 | .while t b=>λck x h=>tWh_ok h λy ys zs p h=>un_ok (P:=λzs=>SS W Φ n ck (.while t b) (.While y ys zs p)) (aR h) (t_while (chkE_ok T B t ck y (aL (aL h))).2 (chkSL_ok T B Z b ck ys (aR (aL h))))
 | .ret e=>λck x h=>tRt_ok h λv p h=>oSm_ok (P:=λv=>SS W Φ n ck (.ret e) (.Return v p)) h λy h=>t_ret (chkE_ok T B e ck y h).1
 | .retn=>λck x h=>tRt_ok h λv p h=>oNo_ok (P:=λv=>SS W Φ n ck .retn (.Return v p)) h t_retn
 | .pset d a b e=>λck x h=>tAs_ok h λts v p h=>u1_ok (P:=λts=>SS W Φ n ck (.pset d a b e) (.Assign ts v p)) h λt h=>oSb_ok (P:=λt=>SS W Φ n ck (.pset d a b e) (.Assign [t] v p)) h λo s q h=>oTp_ok (P:=λs=>SS W Φ n ck (.pset d a b e) (.Assign [.Subscript o s q] v p)) h λl ø ø h=>u2_ok (P:=λl=>SS W Φ n ck (.pset d a b e) (.Assign [.Subscript o (.Tuple l _ _) q] v p)) h λy z h=>
  t_pset (nL (aL (aL (aL (aL (aL (aL h))))))) (nL (aR (aL (aL (aL (aL (aL h))))))) (nL (aR (aL (aL (aL (aL h)))))) (chkE_ok T B d ck o (aR (aL (aL (aL h))))).1 (chkE_ok T B a ck y (aR (aL (aL h)))).1 (chkE_ok T B b ck z (aR (aL h))).1 (chkE_ok T B e ck v (aR h)).1
 | .fail=>λck x h=>t_fail
 | .raise=>λck x h=>Z.raise ck x h
 | .tryw i f as b j fd=>λck x h=>tTy_ok h λbd hs os fs q5 h=>un_ok (P:=λos=>SS W Φ n ck (.tryw i f as b j fd) (.Try bd hs os fs q5)) (aL (aL (aL h))) <| un_ok (P:=λfs=>SS W Φ n ck (.tryw i f as b j fd) (.Try bd hs [] fs q5)) (aR (aL (aL h))) <|
  u1_ok (P:=λhs=>SS W Φ n ck (.tryw i f as b j fd) (.Try bd hs [] [] q5)) (aR (aL h)) λhd hh=>uc_ok (P:=λbd=>SS W Φ n ck (.tryw i f as b j fd) (.Try bd [hd] [] [] q5)) (aR h) λz ys h=>
  tAs_ok (P:=λz=>SS W Φ n ck (.tryw i f as b j fd) (.Try (z::ys) [hd] [] [] q5)) (aL h) λts v q4 hz=>u1_ok (P:=λts=>SS W Φ n ck (.tryw i f as b j fd) (.Try (.Assign ts v q4::ys) [hd] [] [] q5)) hz λt hz=>
  oNm_ok (P:=λt=>SS W Φ n ck (.tryw i f as b j fd) (.Try (.Assign [t] v q4::ys) [hd] [] [] q5)) hz λy q1 hz=>oCl_ok (P:=λv=>SS W Φ n ck (.tryw i f as b j fd) (.Try (.Assign [.Name y q1] v q4::ys) [hd] [] [] q5)) (aR hz) λfx xs ks q3 hv=>
  oNm_ok (P:=λfx=>SS W Φ n ck (.tryw i f as b j fd) (.Try (.Assign [.Name y q1] (.Call fx xs ks q3) q4::ys) [hd] [] [] q5)) hv λg q2 hv=>un_ok (P:=λks=>SS W Φ n ck (.tryw i f as b j fd) (.Try (.Assign [.Name y q1] (.Call (.Name g q2) xs ks q3) q4::ys) [hd] [] [] q5)) (aR (aL hv)) <|
  Z.tryw ck i f as b j fd y g q1 q2 q3 q4 q5 xs ys hd (chkEL_ok T B as ck xs (aR hv)) (chkSL_ok T B Z b ck ys (aR h)) (aL (aL hv)) (aL hz) hh
theorem chkSL_ok (T:NOk W) (B:Below W Φ n) (Z:Errs W Φ n):∀ (st:SL) (ck:Ck) (x:List Stmt),chkSL W.K W.N n ck st x=true->SSL W Φ n ck st x
 | .nil=>λck x h=>un_ok h l_done
 | .cons s r=>λck x h=>uc_ok h λy ys h=>l_seq (chkS_ok T B Z s ck y (aL h)) (chkSL_ok T B Z r ck ys (aR h))
end
end
section
variable {W:Wd}{Φ:Phi}
noncomputable def goodCells (cs:List (Str×Addr)):List (Str×Addr):=cs.filter λp=>cs.lookup p.1 == some p.2
theorem good_mem {cs:List (Str×Addr)}{n:Str}{c:Addr} (h:cs.lookup n=some c):(n,c)∈goodCells cs:=
 List.mem_filter.mpr ⟨mem_of_lookup h,by simp [h]⟩
noncomputable def objAt (h:Heap) (a:Addr):Obj:=(h.get? a).getD { cls:=.none,data:=.plain }
theorem objAt_eq {h:Heap}{a:Addr}{o:Obj} (e:h.get? a=some o):objAt h a=o:=by unfold objAt;rw [e];rfl
theorem enter {L:Addr}{m:Str->Option Value}{X:Addr->Option Obj}{σ:St}{h h₁:Heap} (H:HS W L m X σ h) {m':Str->Option Value}{cs:List (Str×Addr)}{cm:Str->Option Value} (hns:h₁.Ns h.objs.size m') (hk:∀ b o,h.get? b=some o->h₁.get? b=some o)
 (hc:∀ n c,cs.lookup n=some c->h₁.IsCell c (cm n)) (hap:cs.Pairwise λx y=>x.2≠y.2) (hab:∀ n c,(n,c)∈cs->h.objs.size<c) :
 ∃ X',HS W h.objs.size m' X' σ h₁/\(∃ oL,X' L=some oL/\ObjNs oL m/\oL.cls=.type "frame")/\(∀ a o,X a=some o->X' a=some o)/\(∀ n c,cs.lookup n=some c->∃ o,X' c=some o/\o.data=.cell (cm n)):=by
 obtain ⟨l,hn,N,Ab⟩:=H.led
 obtain ⟨oL,es,ep,hL,hLd,hLk,hLf⟩:=H.fr.ns
 have Llt:L<h.objs.size:=Heap.lt_size hL
 have above:=H.fr.above
 let rec_:Obj:={ cls:=.type "frame",data:=.dict es ep }
 let gc:=goodCells cs
 let X':Addr->Option Obj:=λa=>if a=L then some rec_ else if (gc.any λp=>p.2 == a)=true then some (objAt h₁ a) else X a
 have gcell:∀ p∈gc,∃ o,h₁.get? p.2=some o/\o.data=.cell (cm p.1)/\h.objs.size<p.2:=λp hp=>by
  obtain ⟨h1,h2⟩:=List.mem_filter.mp hp
  obtain ⟨o,q1,q2⟩:=hc p.1 p.2 (by simpa using h2)
  exact ⟨o,q1,q2,hab p.1 p.2 h1⟩
 have gany:∀ a,(gc.any λp=>p.2 == a)=true->∃ p∈gc,p.2=a:=λa q=>by
  obtain ⟨p,h1,h2⟩:=List.any_eq_true.mp q
  exact ⟨p,h1,by simpa using h2⟩
 have lold:∀ p∈l,p.1<h.objs.size:=λp hp=>Heap.lt_size (N _ (List.mem_map.mpr ⟨p,hp,rfl⟩)).1
 have xold:∀ a o,X a=some o->a<h.objs.size/\a≠L:=λa o e=>by
  obtain ⟨o',y,_⟩:=Ab.ex a o e
  exact ⟨lold _ y,(N _ (Led.mem_pl y)).2.1⟩
 let l':Led:=(gc.map λp=>(p.2,Role.ex,objAt h₁ p.2))++(L,Role.ex,oL)::l
 have baseNone:∀ a,W.B.objs.size<=a->W.B.get? a=none:=λa ha=>Heap.get?_none_of_le ha
 refine ⟨X',⟨⟨hns,λb o e=>hk b o (H.fr.keep b o e),Nat.le_of_lt (Nat.lt_of_le_of_lt above Llt)⟩,⟨l',?_,?_,?_⟩,H.st⟩,⟨rec_,if_pos rfl,⟨es,ep,rfl,hLk,hLf⟩,rfl⟩,λa o e=>?_,λn c e=>?_⟩
 ·show ((gc.map λp=>(p.2,Role.ex,objAt h₁ p.2))++(L,Role.ex,oL)::l).map (λø=>ø.1) |>.Nodup
  rw [List.map_append,List.map_map,List.map_cons,List.nodup_append]
  refine ⟨?_,?_,?_⟩
  ·have:(gc.map ((λx:Addr×Role×Obj=>x.1) ∘ λp=>(p.2,Role.ex,objAt h₁ p.2)))=gc.map (λø=>ø.2):=rfl
   rw [this]
   exact (List.Pairwise.sublist List.filter_sublist hap).map _ λa b q=>q
  ·rw [List.nodup_cons]
   refine ⟨λhm=>?_,hn⟩
   obtain ⟨e,he,q⟩:=List.mem_map.mp hm
   exact (N _ (List.mem_map.mpr ⟨e,he,rfl⟩)).2.1 q
  ·intro a ha b hb e
   subst e
   obtain ⟨p,hp,q⟩:=List.mem_map.mp ha
   have big':=(gcell p hp).choose_spec.2.2
   have q:p.2=a:=q
   rw [q] at big'
   rcases List.mem_cons.mp hb with hb | hb
   ·rw [hb] at big';exact Nat.lt_asymm big' Llt
   ·obtain ⟨e,he,q'⟩:=List.mem_map.mp hb
    have:=lold e he
    rw [q'] at this;exact Nat.lt_asymm big' this
 ·intro p hp
  obtain ⟨e,he,rfl⟩:=List.mem_map.mp hp
  rcases List.mem_append.mp he with he | he
  ·obtain ⟨p',hp',rfl⟩:=List.mem_map.mp he
   obtain ⟨o,q1,q2,q3⟩:=gcell p' hp'
   refine ⟨?_,Ne.symm (Nat.ne_of_lt q3),baseNone _ (Nat.le_of_lt (Nat.lt_trans (Nat.lt_of_le_of_lt above Llt) q3))⟩
   show h₁.get? p'.2=some (objAt h₁ p'.2)
   rw [objAt_eq q1];exact q1
  ·rcases List.mem_cons.mp he with rfl | he
   ·exact ⟨hk _ _ hL,Nat.ne_of_lt Llt,baseNone _ above⟩
   ·have P:=N _ (List.mem_map.mpr ⟨e,he,rfl⟩)
    exact ⟨hk _ _ P.1,Nat.ne_of_lt (lold e he),P.2.2⟩
 ·have up:∀ {e:Addr×Role×Obj},e∈l->e∈l':=λh=>List.mem_append_right _ (.tail _ h)
  refine ⟨Ab.instU (P:=λø=>True) (λø=>up) trivial λø=>trivial,Ab.lstU (P:=λø=>True) (λø=>up) trivial,Ab.tupU (P:=λø=>True) (λø=>up) trivial,Ab.dctU (P:=λø=>True) (λø=>up) trivial trivial,λa p q=>?_⟩
  ·by_cases h1:a=L
   ·subst h1
    have q:(if a=a then some rec_ else _)=some p:=q
    rw [if_pos rfl] at q
    cases q
    exact ⟨oL,List.mem_append_right _ (.head _),.inr ⟨rfl,hLd⟩⟩
   ·have q:(if a=L then some rec_ else if (gc.any λp=>p.2 == a)=true then some (objAt h₁ a) else X a)=some p:=q
    rw [if_neg h1] at q
    split at q
    ·rename_i h2
     obtain ⟨p',hp',rfl⟩:=gany a h2
     cases q
     exact ⟨_,List.mem_append_left _ (List.mem_map.mpr ⟨p',hp',rfl⟩),.inl rfl⟩
    ·obtain ⟨o',y,z⟩:=Ab.ex a p q;exact ⟨o',up y,z⟩
 ·show (if a=L then some rec_ else if (gc.any λp=>p.2 == a)=true then some (objAt h₁ a) else X a)=some o
  obtain ⟨h1,h2⟩:=xold a o e
  rw [if_neg h2,if_neg,e]
  intro q
  obtain ⟨p,hp,rfl⟩:=gany a q
  have:=(gcell p hp).choose_spec.2.2
  exact Nat.lt_asymm this h1
 ·have hm:=good_mem e
  obtain ⟨o,q1,q2,q3⟩:=gcell _ hm
  refine ⟨o,?_,q2⟩
  show (if c=L then some rec_ else if (gc.any λp=>p.2 == c)=true then some (objAt h₁ c) else X c)=some o
  have q3:h.objs.size<c:=q3
  rw [if_neg (λe=>by rw [e] at q3;exact Nat.lt_asymm q3 Llt),if_pos (List.any_eq_true.mpr ⟨_,hm,by simp⟩),objAt_eq q1]
theorem enterK {L:Addr}{m:Str->Option Value}{X:Addr->Option Obj}{σ:St}{h h₁:Heap} (H:HS W L m X σ h) {m':Str->Option Value}{cs:List (Str×Addr)}{cm:Str->Option Value} (hns:h₁.Ns h.objs.size m') (hk:∀ b o,h.get? b=some o->h₁.get? b=some o)
 (hc:∀ n c,cs.lookup n=some c->h₁.IsCell c (cm n)) (hap:cs.Pairwise λx y=>x.2≠y.2) (hab:∀ n c,(n,c)∈cs->h.objs.size<c) {P:Prop}
 (k:∀ X' oL,HS W h.objs.size m' X' σ h₁->X' L=some oL->ObjNs oL m->oL.cls=.type "frame"->(∀ a o,X a=some o->X' a=some o)->(∀ n c,cs.lookup n=some c->∃ o,X' c=some o/\o.data=.cell (cm n))->P):P:=
 by obtain ⟨X',a,⟨oL,b,c,d⟩,e,f⟩:=enter H hns hk hc hap hab;exact k X' oL a b c d e f
theorem HS.back {L L':Addr}{m m':Str->Option Value}{X X':Addr->Option Obj}{σ:St}{h:Heap} (H:HS W L' m' X' σ h) {oL:Obj} (hL:X' L=some oL) (hN:ObjNs oL m) (hX:∀ a o,X a=some o->X' a=some o) (hX0:X L=none) (above:W.B.objs.size<=L):HS W L m X σ h:=by
 obtain ⟨l,hn,N,Ab⟩:=H.led
 obtain ⟨o₁,hm,sl⟩:=Ab.ex L oL hL
 obtain ⟨es,ep,hd,hk,hf⟩:=hN
 have P:=N _ (Led.mem_pl hm)
 refine ⟨⟨⟨o₁,es,ep,P.1,by rw [sl.data];exact hd,hk,hf⟩,H.fr.keep,above⟩,⟨l.filter λe=>decide (e.1≠L),hn.sublist (List.filter_sublist.map _),λp hp=>?_,?_⟩,H.st⟩
 ·obtain ⟨e,he,rfl⟩:=List.mem_map.mp hp
  obtain ⟨he1,he2⟩:=List.mem_filter.mp he
  have P:=N _ (List.mem_map.mpr ⟨e,he1,rfl⟩)
  exact ⟨P.1,by simpa using he2,P.2.2⟩
 ·have keep:∀ {a:Addr}{ro:Role}{p:Obj},(a,ro,p)∈l->ro≠.ex->(a,ro,p)∈l.filter λe=>decide (e.1≠L):=λ{a ro p} h1 h2=>
   List.mem_filter.mpr ⟨h1,by
    simp only [decide_eq_true_eq]
    intro e;subst e;exact h2 (Led.uniq hn h1 hm).1⟩
  refine ⟨Ab.instU (P:=(·≠.ex)) (λh y=>keep y h) nofun λø=>nofun,Ab.lstU (P:=(·≠.ex)) (λh y=>keep y h) nofun,Ab.tupU (P:=(·≠.ex)) (λh y=>keep y h) nofun,Ab.dctU (P:=(·≠.ex)) (λh y=>keep y h) nofun nofun,λa p q=>?_⟩
  ·have hne:a≠L:=λe=>by subst e;rw [hX0] at q;cases q
   obtain ⟨p',y,z⟩:=Ab.ex a p (hX a p q)
   exact ⟨p',List.mem_filter.mpr ⟨y,by simpa using hne⟩,z⟩
end
section
variable {W:Wd}{Φ:Phi}
structure FnData where
 name:Str
 qual:Str
 params:Arguments
 body:List Stmt
 scope:Scope
 dV:Value
 kV:Value
 doc:Value
 pm:Value
 cdv:Value
 ct:Value
 oc:Value
 an:Option Addr
 od:Option Addr
 osl:Array (Option Value)
abbrev FnData.fd (d:FnData):FuncData:=fnOf d.name d.qual d.params d.body d.scope d.dV d.kV d.doc d.pm d.an d.cdv d.ct
structure FnOk (W:Wd) (d:FnData) (g ar:Nat) (vt:List Str) (bd:SL):Prop where
 obj:W.K.lookup (W.N.fa g)=some ⟨d.oc,d.od,.func d.fd,d.osl⟩
 code:codeIn W.K d.cdv d.qual=true
 co:d.scope.isCoroutine=false
 gen:d.scope.isGenerator=false
 kind:d.scope.kind=.function
 nd:nodupB vt=true
 par:((vt.take ar).all λx=>d.scope.names.lookup x == some .local || d.scope.names.lookup x == some .cell)=true
 len:ar<=vt.length
 chk:chkSL W.K W.N g ⟨vt,d.scope.names,true⟩ bd d.body=true
theorem cells_some {x:Str}:∀ {names:List (Str×NameKind)}{n:Nat}{acc:List (Str×Addr)},((x,NameKind.cell)∈names\/(acc.lookup x).isSome)->((cellsFrom n names acc).lookup x).isSome
 | [],_,_,h=>by
   rcases h with h | h
   ·cases h
   ·exact h
 | (y,k)::r,n,acc,h=>by
   unfold cellsFrom
   split
   ·refine cells_some (names:=r) ?_
    rcases h with h | h
    ·rcases List.mem_cons.mp h with e | h
     ·cases e;exact .inr (by simp)
     ·exact .inl h
    ·refine .inr ?_
     rw [List.lookup_cons]
     split
     ·rfl
     ·exact h
   ·rename_i hk
    refine cells_some (names:=r) ?_
    rcases h with h | h
    ·rcases List.mem_cons.mp h with e | h
     ·cases e;exact absurd rfl hk
     ·exact .inl h
    ·exact .inr h
theorem bindL_out {kindOf:Str->Option NameKind}{x:Str}:∀ {binds:List (Str×Value)}{m:Str->Option Value},(∀ p∈binds,p.1≠x)->bindL kindOf binds m x=m x
 | [],_,_=>rfl
 | (n,v)::r,m,h=>by
   unfold bindL
   rw [bindL_out λp hp=>h p (.tail _ hp)]
   split
   ·exact if_neg λe=>h (n,v) (.head _) e.symm
   ·rfl
theorem bindC_out {kindOf:Str->Option NameKind}{x:Str}:∀ {binds:List (Str×Value)}{m:Str->Option Value},(∀ p∈binds,p.1≠x)->bindC kindOf binds m x=m x
 | [],_,_=>rfl
 | (n,v)::r,m,h=>by
   unfold bindC
   rw [bindC_out λp hp=>h p (.tail _ hp)]
   split
   ·rfl
   ·exact if_neg λe=>h (n,v) (.head _) e.symm
theorem bindL_get {kindOf:Str->Option NameKind}{x:Str}{u:Value} (hk:kindOf x=some .local):∀ {binds:List (Str×Value)}{m:Str->Option Value},(binds.map (λø=>ø.1)).Nodup->(x,u)∈binds->bindL kindOf binds m x=some u
 | (n,v)::r,m,hn,h=>by
   rw [List.map_cons,List.nodup_cons] at hn
   unfold bindL
   rcases List.mem_cons.mp h with e | h
   ·cases e
    rw [bindL_out λp hp e=>hn.1 (List.mem_map.mpr ⟨p,hp,e⟩),if_pos hk]
    exact if_pos rfl
   ·exact bindL_get hk hn.2 h
theorem bindC_get {kindOf:Str->Option NameKind}{x:Str}{u:Value} (hk:kindOf x=some .cell):∀ {binds:List (Str×Value)}{m:Str->Option Value},(binds.map (λø=>ø.1)).Nodup->(x,u)∈binds->bindC kindOf binds m x=some u
 | (n,v)::r,m,hn,h=>by
   rw [List.map_cons,List.nodup_cons] at hn
   unfold bindC
   rcases List.mem_cons.mp h with e | h
   ·cases e
    rw [bindC_out λp hp e=>hn.1 (List.mem_map.mpr ⟨p,hp,e⟩),if_neg (by rw [hk];intro e;cases e)]
    exact if_pos rfl
   ·exact bindC_get hk hn.2 h
theorem nodup_of_B:∀ {l:List Str},nodupB l=true->l.Nodup
 | [],_=>List.nodup_nil
 | x::r,h=>by
   rw [nodupB_cons,Bool.and_eq_true] at h
   refine List.nodup_cons.mpr ⟨λhm=>?_,nodup_of_B h.2⟩
   have:=h.1
   simp only [Bool.not_eq_true',List.contains_eq_mem,decide_eq_false_iff_not] at this
   exact this hm
noncomputable def FnOk.cx {d:FnData}{g ar:Nat}{vt:List Str}{bd:SL} (F:FnOk W d g ar vt bd) (L:Addr) (fl:List Env) (hap:(callEnvC d.fd L (W.N.fa g)).cells.Pairwise λx y=>x.2≠y.2):Cx W where
 env:=callEnvC d.fd L (W.N.fa g)
 L:=L
 fl:=callEnvC d.fd L (W.N.fa g)::fl
 vt:=vt
 own:=true
 top:=λø=>⟨⟨fl,rfl⟩,rfl⟩
 fn:=F.kind
 gl:=rfl
 bu:=rfl
 nd:=nodupB_inj F.nd
 cb:=λx hx=>Option.isSome_iff_exists.mp (cells_some (.inl (lookup_mem hx)))
 ci:=λx y a h h'=>name_of_addr hap (mem_of_lookup h) (mem_of_lookup h')
theorem codeAny_call_cells' {prog:Program}{w:World}{A:Around}{s:Shared}{R:Result->Shared->Prop}{a:Addr}{o:Obj}{fd:FuncData}{body:List Stmt}{args:Args}{binds:List (Str×Value)}
 (hroom:A.depth<recursionLimit) (ho:s.heap.get? a=some o) (hdata:o.data=.func fd) (hlim:s.heap.NoLimit) (hcd:s.heap.CodeRec fd.code fd.qualname)
 (hbody:fd.body=.stmts body) (hbind:BindsTo s fd args binds) (hclo:fd.closure=[])
 (hkind:∀ x∈binds,fd.scope.names.lookup x.1=some .local\/(fd.scope.names.lookup x.1=some .cell/\((cellsFrom (s.heap.objs.size+1) fd.scope.names []).lookup x.1).isSome=true))
 (h:∀ s₁,InCallC s (callEnvC fd s.heap.objs.size a).locals (bindL (callEnvC fd s.heap.objs.size a).kindOf binds λø=>none) (callEnvC fd s.heap.objs.size a).cells
   (bindC (callEnvC fd s.heap.objs.size a).kindOf binds λø=>none) s₁ ->
   wpAny (model prog w) (A.deeper (callEnvC fd s.heap.objs.size a)) (execs body (callEnvC fd s.heap.objs.size a)) (λf s'=>R (.ok (.ret (match f with | .ret v=>v | _=>.none))) s')
    (λe s'=>wpAny (model prog w) (A.deeper (callEnvC fd s.heap.objs.size a)) (leaving (callEnvC fd s.heap.objs.size a) e) (λø s''=>R (.error e) s'') (λe' s''=>R (.error e') s'') s') s₁)
 (hco:fd.scope.isCoroutine=false) (hgen:fd.scope.isGenerator=false) (hk:fd.scope.kind=.function) :
 codeAny (model prog w) A (.call (.ref a) args) R s:=by
 refine codeAny_call_function hroom ho hdata hco hgen hbody hcd (hbind _ _ _ _ ?_)
 rw [hclo]
 refine wpAny_newFunctionEnv_cells hk hkind λenv he s' x=>?_
 subst he
 exact ⟨hlim.keeps x.toInCall.keep,codeAny_func (h s' x)⟩
noncomputable def lo0 (n:Nat) (vs:List V):Lo:=vs.map some++List.replicate (n - vs.length) Option.none
theorem call_core {d:FnData}{g ar:Nat}{vt:List Str}{bd:SL} (F:FnOk W d g ar vt bd) (T:NOk W) (B:Below W Φ g) (Z:Errs W Φ g)
 {A:Around}{fl:List Env}{L:Addr}{m:Str->Option Value}{X:Addr->Option Obj}{σ:St}{s:Shared}{R:Result->Shared->Prop}{kb:KL}{us:List Value}{vs:List V}{args:Args}
 (hA:ACall A fl g) (hfx:FX fl L X) (H:HS W L m X σ s.heap) (hvs:Vs us vs) (hlen:vs.length=ar) (hbind:BindsTo s d.fd args ((vt.take ar).zip us))
 (hw:wpSL W.N.TB Φ bd (lo0 vt.length vs) σ kb)
 (K:∀ u fl' lo' h' t' σ',HS W L m X σ' h'->((fl'=.nx/\u=.none)\/∃ v,fl'=.rt v/\av u=some v)->kb fl' lo' σ'->R (.ok (.ret u)) { s with heap:=h',toks:=t' })
 (KX:∀ (C:Cx W) (X₀:Addr->Option Obj) (oL:Obj) e h' t' m' X' lo' σ',C.env=callEnvC d.fd s.heap.objs.size (W.N.fa g)->C.fl=C.env::fl->C.env.frame=some C.L->(∀ a o,X a=some o->X₀ a=some o/\a≠C.env.locals/\∀ x,C.env.cells.lookup x≠some a)->X₀ L=some oL->ObjNs oL m->L≠C.env.locals->(∀ x,C.env.cells.lookup x≠some L) ->
   XE C X₀ X'->Flies W C.L m' X' σ' e h'->FX C.fl C.L X'->kb .ex lo' σ' ->
   wpAny (Mo W) (A.deeper C.env) (leaving C.env (.ref e)) (λø s''=>R (.error (.ref e)) s'') (λe' s''=>R (.error e') s'') { s with heap:=h',toks:=t' }) :
 codeAny (Mo W) A (.call (.ref (W.N.fa g)) args) R s:=by
 have hul:us.length=ar:=hvs.len.trans hlen
 have ndv:=nodup_of_B F.nd
 have htl:(vt.take ar).length=us.length:=by rw [List.length_take,hul];exact Nat.min_eq_left F.len
 have bnames:(((vt.take ar).zip us).map (λø=>ø.1)).Nodup:=by
  have:((vt.take ar).zip us).map (λø=>ø.1)=vt.take ar:=by
   rw [List.map_fst_zip]
   exact Nat.le_of_eq htl
  rw [this];exact ndv.sublist (List.take_sublist _ _)
 refine codeAny_call_cells' (fd:=d.fd) (body:=d.body) (binds:=(vt.take ar).zip us) (by show A.depth<recursionLimit;have:=hA.d;show A.depth<1000;omega) (H.inK _ _ F.obj) rfl (W.T.nolimit.keeps H.fr.keep) (codeRec_of H.inK F.code) rfl hbind rfl ?_ ?_ F.co F.gen F.kind
 ·intro x hx
  have hm:=(List.of_mem_zip hx).1
  exact ((Bool.or_eq_true _ _).mp (List.all_eq_true.mp F.par _ hm)).imp eq_of_beq λh=>⟨eq_of_beq h,cells_some (.inl (lookup_mem (eq_of_beq h)))⟩
 ·intro s₁ IC
  obtain ⟨h₁,tk,rfl,hk₁⟩:=IC.done
  refine enterK H IC.toInCall.ns hk₁ IC.cell IC.apart IC.above λX₀ oL H₁ hoL hoN hoC hX₀ hcell=>?_
  have xold:∀ a o,X a=some o->a≠s.heap.objs.size/\∀ x,(callEnvC d.fd s.heap.objs.size (W.N.fa g)).cells.lookup x≠some a:=λa o e=>by
   have hlt:a<s.heap.objs.size:=by
    obtain ⟨o',q,_⟩:=H.at' e
    exact Heap.lt_size q
   exact ⟨Nat.ne_of_lt hlt,λx q=>Nat.lt_asymm hlt (IC.above x a (mem_of_lookup q))⟩
  have Llt:L<s.heap.objs.size:=by
   obtain ⟨o,_,_,q,_⟩:=H.fr.ns
   exact Heap.lt_size q
  have Lc:∀ x,(callEnvC d.fd s.heap.objs.size (W.N.fa g)).cells.lookup x≠some L:=λx q=>Nat.lt_asymm Llt (IC.above x L (mem_of_lookup q))
  have X0:X L=none:=by
   cases q:X L with
   | none=>rfl
   | some o=>exact absurd rfl (H.atne q)
  let C:Cx W:=F.cx s.heap.objs.size fl IC.apart
  have hC:C.of ⟨vt,d.scope.names,true⟩:=⟨rfl,rfl,rfl⟩
  have fx₀:FX C.fl C.L X₀:=by
   intro e he
   rcases List.mem_cons.mp he with rfl | he
   ·exact ⟨(by rw [show (callEnvC d.fd s.heap.objs.size (W.N.fa g)).scope.kind=.function from F.kind];exact λh=>by cases h),s.heap.objs.size,rfl,.inl rfl⟩
   ·obtain ⟨q1,Le,q2,q3⟩:=hfx e he
    refine ⟨q1,Le,q2,.inr ?_⟩
    rcases q3 with rfl | ⟨o,es,ep,q3,q4⟩
    ·obtain ⟨es,ep,q,_⟩:=hoN
     exact ⟨oL,es,ep,hoL,q,hoC⟩
    ·exact ⟨o,es,ep,hX₀ _ _ q3,q4⟩
  have V₁:VOk C _ X₀ (lo0 vt.length vs):={
   vars:=λi v hv=>by
    unfold lo0 at hv
    have hi:i<vs.length:=by
     by_cases q:i<vs.length
     ·exact q
     ·rw [List.getElem?_append_right (by simpa using q),List.getElem?_replicate] at hv
      split at hv <;> cases hv
    rw [List.getElem?_append_left (by simpa using hi),List.getElem?_map] at hv
    have hv:vs[i]?=some v:=by
     cases q:vs[i]? with
     | none=>rw [q] at hv;cases hv
     | some w=>rw [q] at hv;simp at hv;rw [hv]
    obtain ⟨u,e1,e2⟩:=hvs.get hv
    have hi':i<vt.length:=Nat.lt_of_lt_of_le (by rw [hlen] at hi;exact hi) F.len
    have ht:(vt.take ar)[i]?=some vt[i]:=by rw [List.getElem?_take,if_pos (by rw [<- hlen];exact hi)];exact List.getElem?_eq_getElem hi'
    have hz:((vt.take ar).zip us)[i]?=some (vt[i],u):=List.getElem?_zip_eq_some.mpr ⟨ht,e1⟩
    have hm:(vt[i],u)∈(vt.take ar).zip us:=List.mem_of_getElem? hz
    refine ⟨vt[i],u,List.getElem?_eq_getElem hi',e2,?_⟩
    rcases (Bool.or_eq_true _ _).mp (List.all_eq_true.mp F.par _ (List.of_mem_zip hm).1) with h | h <;> have h:=eq_of_beq h
    ·exact .loc h rfl (bindL_get (kindOf:=(callEnvC d.fd s.heap.objs.size (W.N.fa g)).kindOf) (m:=λø=>none) h bnames hm)
    ·obtain ⟨a,ha⟩:=C.cb vt[i] h
     obtain ⟨o,q1,q2⟩:=hcell _ _ ha
     refine .cel a o h ha q1 ?_
     rw [q2]
     exact congrArg Data.cell (bindC_get (kindOf:=(callEnvC d.fd s.heap.objs.size (W.N.fa g)).kindOf) (m:=λø=>none) h bnames hm)
   fx:=fx₀
   cells:=λx a hx=>by
    obtain ⟨o,q1,q2⟩:=hcell x a hx
    exact ⟨o,_,q1,q2⟩
   dict:=.inl rfl }
  have hA':ACond (A.deeper (callEnvC d.fd s.heap.objs.size (W.N.fa g))) C.fl g:=⟨hA.h,by show A.depth+1+3 * g<=900;have:=hA.d;omega,by show A.units+3+8 * g<=9000;have:=hA.u;omega,by
   show A.frames.map _=_
   rw [hA.f];rfl⟩
  have XX:∀ {X':Addr->Option Obj},XE C X₀ X'->X' L=some oL/\∀ a o,X a=some o->X' a=some o:=λ{X'} xe=>⟨by rw [xe L (Nat.ne_of_lt Llt) (λø=>Lc)];exact hoL,λa o e=>by
   rw [xe a (xold a o e).1 (λø=>(xold a o e).2)];exact hX₀ a o e⟩
  refine chkSL_ok T B Z bd _ _ F.chk C hC _ _ X₀ _ σ { s with heap:=h₁,toks:=tk } _ _ kb hA' V₁ H₁ hw (λf fl' h' t' m' X' lo' σ' ef H' V' xe w'=>?_) λe h' t' m' X' lo' σ' fe xe fx' w'=>?_
  ·obtain ⟨q1,q2⟩:=XX xe
   have Hb:=H'.back q1 hoN q2 X0 H.fr.above
   cases ef with
   | nx=>exact K .none .nx lo' h' t' σ' Hb (.inl ⟨rfl,rfl⟩) w'
   | rt hu=>exact K _ _ lo' h' t' σ' Hb (.inr ⟨_,rfl,hu⟩) w'
  ·exact KX C X₀ oL e h' t' m' X' lo' σ' rfl rfl rfl (λa o q=>⟨hX₀ a o q,(xold a o q).1,(xold a o q).2⟩) hoL hoN (Nat.ne_of_lt Llt) Lc xe fe fx' w'
noncomputable def retK (k:KV):KL:=λfl ø σ=>match fl with
 | .nx=>∃ τ,τ.sub σ/\k .none τ
 | .rt v=>∃ τ,τ.sub σ/\k v τ
 | .ex=>False
noncomputable def Bears (TB:Tabs) (Φ:Phi) (g ar n:Nat) (bd:SL):Prop:=∀ vs σ k,Φ g vs σ k->vs.length=ar/\wpSL TB Φ bd (lo0 n vs) σ (retK k)
end
section
variable {W:Wd}{Φ:Phi}
noncomputable def frs (fl:List Env):List Addr:=fl.filterMap (λø=>ø.frame)
theorem funs {fl:List Env}{L:Addr}{m:Str->Option Value}{X:Addr->Option Obj}{σ:St}{h base:Heap} (hf:FX fl L X) (H:HS W L m X σ h) (hb:∀ a∈frs fl,base.get? a=none):h.FunFrames base fl:=by
 induction fl with
 | nil=>trivial
 | cons e fl ih=>
   obtain ⟨h1,Le,h2,h3⟩:=hf e (.head _)
   refine ⟨h1,⟨Le,?_⟩,ih (λe he=>hf e (.tail _ he)) λa ha=>hb a ?_⟩
   ·have hn:base.get? Le=none:=hb Le (List.mem_filterMap.mpr ⟨e,.head _,h2⟩)
    rcases h3 with rfl | ⟨o,es,ep,h3,h4,_⟩
    ·obtain ⟨o,es,ep,g,d,_⟩:=H.fr.ns
     exact ⟨o,h2,hn,g,λvs q=>by rw [d] at q;cases q⟩
    ·obtain ⟨o',g,sl⟩:=H.at' h3
     exact ⟨o',h2,hn,g,λvs q=>by rw [sl.data,h4] at q;cases q⟩
   ·obtain ⟨e',he',q⟩:=List.mem_filterMap.mp ha
    exact List.mem_filterMap.mpr ⟨e',.tail _ he',q⟩
theorem HS.flown {fl:List Env}{L e:Addr}{m:Str->Option Value}{X:Addr->Option Obj}{σ:St}{h h':Heap}{ob:Obj} (H:HS W L m (upd X e ob) σ h) (hx:X e=none) (hf:FX fl L X)
 (hst:∀ b o,h.get? b=some o->b≠e->b ∉ frs fl->h'.get? b=some o) (hup:h.UpToSlots h'):HS W L m X σ h':=by
 obtain ⟨l,hn,N,Ab⟩:=H.led
 obtain ⟨oe,hme,_⟩:=Ab.ex e ob (upd_same _ _ _)
 have Pe:=N _ (Led.mem_pl hme)
 have frx:∀ a∈frs fl,a≠L->∃ o es ep,X a=some o/\o.data=.dict es ep/\o.cls=.type "frame":=λa ha hL=>by
  obtain ⟨env,he,q⟩:=List.mem_filterMap.mp ha
  obtain ⟨_,Le,h2,h3⟩:=hf env he
  rw [q] at h2;cases h2
  rcases h3 with h3 | h3
  ·exact absurd h3 hL
  ·exact h3
 have exAt:∀ a o,X a=some o->∃ o',(a,Role.ex,o')∈l/\Sl o o'/\a≠e:=λa o q=>by
  have hne:a≠e:=λr=>by rw [r,hx] at q;cases q
  obtain ⟨o',y,z⟩:=Ab.ex a o (by rw [upd_ne _ _ hne];exact q)
  exact ⟨o',y,z,hne⟩
 have notFr:∀ {a:Addr}{r:Role}{o:Obj},(a,r,o)∈l->r≠.ex->a ∉ frs fl:=λ{a r o} hm hr ha=>by
  obtain ⟨o',es,ep,q,_⟩:=frx a ha (N _ (Led.mem_pl hm)).2.1
  obtain ⟨o'',y,_⟩:=exAt a o' q
  exact hr (Led.uniq hn hm y).1
 let nw:Addr×Role×Obj->Addr×Role×Obj:=λx=>if x.1∈frs fl then (x.1,x.2.1,objAt h' x.1) else x
 have nw1:∀ x,(nw x).1=x.1:=λx=>by show (if x.1∈frs fl then _ else _:Addr×Role×Obj).1=_;split <;> rfl
 have keep:∀ {a:Addr}{r:Role}{o:Obj},(a,r,o)∈l->r≠.ex->(a,r,o)∈(l.filter λx=>decide (x.1≠e)).map nw:=λ{a r o} hm hr=>
  List.mem_map.mpr ⟨(a,r,o),List.mem_filter.mpr ⟨hm,by
   simp only [decide_eq_true_eq]
   intro q;subst q;exact hr (Led.uniq hn hm hme).1⟩,if_neg (notFr hm hr)⟩
 refine ⟨⟨hup.ns H.fr.ns,λb o q=>hst b o (H.fr.keep b o q) (λr=>?_) (λr=>?_),H.fr.above⟩,⟨(l.filter λx=>decide (x.1≠e)).map nw,?_,?_,?_⟩,H.st⟩
 ·rw [r,Pe.2.2] at q;cases q
 ·by_cases hL:b=L
  ·rw [hL,Heap.get?_none_of_le H.fr.above] at q;cases q
  ·obtain ⟨o',es,ep,q',_⟩:=frx b r hL
   obtain ⟨o'',y,_⟩:=exAt b o' q'
   rw [(N _ (Led.mem_pl y)).2.2] at q;cases q
 ·rw [List.map_map]
  have:((λx:Addr×Role×Obj=>x.1) ∘ nw)=λx=>x.1:=funext nw1
  rw [this]
  exact hn.sublist (List.filter_sublist.map _)
 ·intro p hp
  obtain ⟨y,hy,rfl⟩:=List.mem_map.mp hp
  obtain ⟨x,hx',rfl⟩:=List.mem_map.mp hy
  obtain ⟨hx1,hx2⟩:=List.mem_filter.mp hx'
  have P:=N _ (List.mem_map.mpr ⟨x,hx1,rfl⟩)
  have hne:x.1≠e:=by simpa using hx2
  by_cases ha:x.1∈frs fl
  ·have e1:nw x=(x.1,x.2.1,objAt h' x.1):=if_pos ha
   rw [e1]
   obtain ⟨o',es,ep,q',d,_⟩:=frx x.1 ha P.2.1
   obtain ⟨o'',y',sl,_⟩:=exAt x.1 o' q'
   have g:=(N _ (Led.mem_pl y')).1
   obtain ⟨s',g'⟩:=hup x.1 o'' g λvs z=>by rw [sl.data,d] at z;cases z
   refine ⟨?_,P.2⟩
   show h'.get? x.1=some (objAt h' x.1)
   rw [objAt_eq g'];exact g'
  ·have e1:nw x=x:=if_neg ha
   rw [e1]
   exact ⟨hst _ _ P.1 hne ha,P.2⟩
 ·refine ⟨Ab.instU (P:=(·≠.ex)) (λh y=>keep y h) nofun λø=>nofun,Ab.lstU (P:=(·≠.ex)) (λh y=>keep y h) nofun,Ab.tupU (P:=(·≠.ex)) (λh y=>keep y h) nofun,Ab.dctU (P:=(·≠.ex)) (λh y=>keep y h) nofun nofun,λa p q=>?_⟩
  ·obtain ⟨o',y,sl,hne⟩:=exAt a p q
   have hf':(a,Role.ex,o')∈l.filter λx=>decide (x.1≠e):=List.mem_filter.mpr ⟨y,by simpa using hne⟩
   by_cases ha:a∈frs fl
   ·have P:=N _ (Led.mem_pl y)
    obtain ⟨o₂,es,ep,q',d,hc⟩:=frx a ha P.2.1
    rw [q] at q';cases q'
    obtain ⟨s',g'⟩:=hup a o' P.1 λvs z=>by rw [sl.data,d] at z;cases z
    refine ⟨objAt h' a,List.mem_map.mpr ⟨_,hf',if_pos ha⟩,.inr ⟨hc,?_⟩⟩
    rw [objAt_eq g']
    exact sl.data
   ·exact ⟨o',List.mem_map.mpr ⟨_,hf',if_neg ha⟩,sl⟩
end
section
section
variable {prog:Program}{w:World}{A:Around}{E:Value->Shared->Prop}{R:Result->Shared->Prop}{h:Heap}{g:Array GenState}{d:Drawn}{t:Nat}{os:OsState}
variable {nm q:Str}{C N:Addr}{bs bm:List Value}{hdct:Bool}{sn:List Str}{sub:List Value}{ab:Bool}{col:Option Bool}{dd:Option Addr}{k0 k1 k2 k3 k5:Option Value}
structure XTail (bm:List Value):Prop where
 exc:bm.contains (.type "Exception")=true
 base:bm.contains (.type "BaseException")=true
 attr:bm.contains (.type "AttributeError")=false
 name:bm.contains (.type "NameError")=false
theorem exc_new (T:XTail bm) {rest:List Value} (hC:h.get? C=some (excClassObj nm q C N bs bm hdct sn sub ab col dd k0 k1 k2 k3 k5 "Exception.__new__"))
 (hq:R (.ok (.ret (.ref (h.objs.size+1)))) ⟨(h.push { cls:=.type "tuple",data:=.seq rest.toArray }).push
   { cls:=.ref C,data:=.fields #[.ref h.objs.size,.none,.none,.none,.bool false,.none] },g,d,t,os⟩) (hrest:rest.length<=sizeLine) :
 codeAny (model prog w) A (.builtin "Exception.__new__" ⟨.ref C::rest,[]⟩) R ⟨h,g,d,t,os⟩:=by
 have Fn:=PySem.F.excBase_Exception
 have hends:=Fn.ends
 have hcB:(Value.ref C::bm).contains (.type "Exception")=true:=by rw [List.contains_cons,T.exc,Bool.or_true]
 have hcA:(Value.ref C::bm).contains (.type "AttributeError")=false:=by rw [List.contains_cons,T.attr];rfl
 have hcN:(Value.ref C::bm).contains (.type "NameError")=false:=by rw [List.contains_cons,T.name];rfl
 refine codeAny_builtinAt Fn.entry ?_
 unfold Builtin.«BaseException.__new__»
 refine PySem.wpAt_bind ?_
 show PySem.wpAt _ _ _ (stack >>= _) _ _ _
 refine PySem.wpAt_bind (PySem.wpAt_stack λp below=>wpAt_of_wpAny ?_)
 wp_walk
 refine wpAt_of_wpAny ?_
 rw [Fn.owner]
 repeat (first | with_reducible refine wpAny_madeHere_exc Fn.canon hC ?_ | with_reducible refine wpAny_loadPart_at hC ?_ | (with_reducible refine wpAny_isSubtype_exc hC ?_;first | rw [hcB] | rw [hcA] | rw [hcN]) | wp_step)
 show R _ _
 rw [Heap.size_push]
 exact hq
theorem exc_type_call (T:XTail bm) {rest:List Value}{fI:Addr}{oI:Obj}{Q:Fin->Shared->Prop}
 (hC:h.get? C=some (excClassObj nm q C N bs bm hdct sn sub ab col dd k0 k1 k2 k3 k5 "Exception.__new__")) (hi:Looks (model prog w) h (typeLookup (.ref C) "__init__") (some (.ref fI)))
 (hfI:h.get? fI=some oI) (hfc:oI.cls=.type "function")
 (hq:∀ h' e,Heap.MadeExcOf h h' e (.ref C) rest ->
   wpAny (model prog w) A (call (.ref fI) (.ref e::rest)) (λr s'=>r=.none/\Q (.done (.ret (.ref e))) s') E ⟨h',g,d,t,os⟩) (hrest:rest.length<=sizeLine) :
 wpAny (model prog w) A (Builtin.«type.__call__» ⟨.ref C::rest,[]⟩) Q E ⟨h,g,d,t,os⟩:=by
 have Fn:=PySem.F.excBase_Exception
 repeat (first | with_reducible refine wpAny_loadPart_at hC ?_ | with_reducible refine wpAny_madeBy_exc hC ?_ | wp_step)
 refine codeAny_call_builtin_code (Code.quiet_builtin _ Fn.quiet) (wpAny_check_new_subU Fn T.exc OwnTail.base hC ?_)
 refine exc_new T hC ?_ hrest
 show wpAny _ _ _ _ _ _
 have hk:∀ b o,h.get? b=some o->((h.push { cls:=.type "tuple",data:=.seq rest.toArray }).push { cls:=.ref C,data:=.fields #[.ref h.objs.size,.none,.none,.none,.bool false,.none] }).get? b=some o:=
  λb o e=>Heap.get?_push_of_some _ (Heap.get?_push_of_some _ e)
 have hC₁:=hk _ _ hC
 have hfI₁:=hk _ _ hfI
 have hi₁:=hi.keeps hk
 have hget:((h.push { cls:=.type "tuple",data:=.seq rest.toArray }).push
  { cls:=.ref C,data:=.fields #[.ref h.objs.size,.none,.none,.none,.bool false,.none] }).get? (h.objs.size+1)=some
  { cls:=.ref C,data:=.fields #[.ref h.objs.size,.none,.none,.none,.bool false,.none] }:=by heap_get
 have hcC:(Value.ref C::bm).contains (.ref C)=true:=by simp
 unfold isInstance
 repeat (first | with_reducible refine wpAny_loadPart_at hget ?_ | (with_reducible refine wpAny_isSubtype_exc hC₁ ?_;rw [hcC]) | wp_step)
 show wpAny _ _ (typeLookup (.ref C) _) _ _ _
 refine hi₁.here ?_
 refine wpAny_holding (wpAny_bind ?_)
 unfold bindSpecial
 refine wpAny_bind (wpAny_typeOf (T:="function") ⟨_,hfI₁,hfc⟩ ?_)
 rw [if_pos (by decide)]
 refine wpAny_pure (wpAny_bind (wpAny_mono (hq _ (h.objs.size+1) ⟨hk,Heap.get?_none_of_le (Nat.le_succ _),h.objs.size,hget,Heap.get?_none_of_le (Nat.le_refl _),?_⟩) (λr s' hr=>?_) λø ø x=>x))
 ·exact Heap.get?_push_of_some _ (Heap.get?_push_at rfl rfl)
 ·obtain ⟨rfl,hQ⟩:=hr
  wp_walk
  exact hQ
theorem exc_call (T:XTail bm) {rest:List Value}{fI:Addr}{oI:Obj}{Q:Value->Shared->Prop}
 (hC:h.get? C=some (excClassObj nm q C N bs bm hdct sn sub ab col dd k0 k1 k2 k3 k5 "Exception.__new__")) (hi:Looks (model prog w) h (typeLookup (.ref C) "__init__") (some (.ref fI)))
 (hfI:h.get? fI=some oI) (hfc:oI.cls=.type "function")
 (hq:∀ h' e,Heap.MadeExcOf h h' e (.ref C) rest ->
   wpAny (model prog w) (A.under (.builtin "type.__call__" ⟨.ref C::rest,[]⟩)) (call (.ref fI) (.ref e::rest)) (λr s'=>r=.none/\Q (.ref e) s') E ⟨h',g,d,t,os⟩) (hrest:rest.length<=sizeLine) :
 wpAny (model prog w) A (call (.ref C) rest) Q E ⟨h,g,d,t,os⟩:=by
 have f1:=tc_lookup
 have f2:=tc_bind (.ref C)
 have hT:(⟨h,g,d,t,os⟩:Shared).TypeIs (.ref C) "type":=⟨_,hC,rfl⟩
 refine wpAny_call (codeAny_of_tree ?_)
 show wpAny _ _ (callAny (.ref C) _) _ _ _
 repeat (any_goals (first | assumption | with_reducible refine wpAny_loadPart_at hC ?_ | wp_step))
 refine ⟨rfl,?_⟩
 refine codeAny_call_builtin_at (Code.quiet_builtin _ (by decide +kernel)) entry_typeCall (wpAny_check_type_call_sub hC (exc_type_call T hC hi hfI hfc (λh' e hm=>?_) hrest))
 exact hq h' e hm
theorem exc_raise {env:Env}{s:Shared}{x:Sem Value}{Q:Flow->Shared->Prop} (T:XTail bm) (hh:A.handled=none)
 (h:wpAny (model prog w) A x (λv s₁=>∃ e dx a0 sl,v=.ref e/\s₁.heap.get? C=some (excClassObj nm q C N bs bm hdct sn sub ab col dd k0 k1 k2 k3 k5 "Exception.__new__") /\
   s₁.heap.get? e=some ⟨.ref C,dx,.fields #[a0,.none,.none,.none,.bool false,.none],sl⟩/\E (.ref e) s₁) E s) :
 wpAny (model prog w) A (raiseStmt env (some x) none) Q E s:=by
 have hcB:(Value.ref C::bm).contains (.type "BaseException")=true:=by rw [List.contains_cons,T.base,Bool.or_true]
 unfold raiseStmt
 refine wpAny_bind (wpAny_mono h (λv s₁ h₁=>?_) λø ø x=>x)
 obtain ⟨e,dx,a0,sl,rfl,hC,he,hE⟩:=h₁
 obtain ⟨hp,g,d,tk,os⟩:=s₁
 repeat (first | with_reducible refine wpAny_loadPart_at he ?_ | with_reducible refine wpAny_loadPart_at hC ?_ | (with_reducible refine wpAny_isSubtype_exc hC ?_;rw [hcB]) | wp_step)
 exact wpAny_raiseNew_none hh hE
end
end
section
open PySem PySem.W PySem.Calls PyProof.Rows Builtin Builtin.ObjectAttr
inductive ExM:List Value->Prop
 | base:ExM [.type "Exception",.type "BaseException",.type "object"]
 | cons (c:Addr) (r:List Value) (h:ExM r):ExM (.ref c::r)
theorem ExM.refuse (self:Value) {l:List Value} (h:ExM l):refuseLoop self "__setattr__" l=pure ():=by
 induction h with
 | base=>exact PySem.F.store_Exception.passes self
 | cons c r _ ih=>rw [refuseLoop_ref];exact ih
theorem ExM.has {l:List Value} (h:ExM l):l.contains (.type "object")=true:=by
 induction h with
 | base=>decide
 | cons c r _ ih=>rw [List.contains_cons,ih,Bool.or_true]
theorem ExM.ne {l:List Value} (h:ExM l):l.isEmpty=false:=by cases h <;> rfl
section
variable {prog:Program}{w:World}{A:Around}{E:Value->Shared->Prop}{R:Result->Shared->Prop}{s:Shared}{K:Frag}{C e:Addr}
theorem exc_osa {name:Str}{tk:Tok}{v:Value}{cd:ClassData}{ox:Obj}{fs:Array Value}{sl:Array (Option Value)} (X:K.In s.heap) (hx:s.heap.get? e=some ox) (hox:ox=⟨.ref C,none,.fields fs,sl⟩)
 (hc:clsIn K C=some cd) (ho:ExM cd.mro) (hd:cd.hasDict=true) (ha:findIn K (.ref C) name=some none)
 (h:∀ h' t' dx,(∀ b o,b≠e->s.heap.get? b=some o->h'.get? b=some o)->h'.get? e=some ⟨.ref C,some dx,.fields fs,sl⟩->R (.ok (.ret .none)) { s with heap:=h',toks:=t' }) :
 codeAny (model prog w) A (.call (.builtin "object.__setattr__") ⟨[.ref e,.str name tk,v],[]⟩) R s:=by
 have SF:=PySem.F.store_object
 have I:InstAt s.heap e ox C none:=⟨hx,by rw [hox],by rw [hox];rfl,by rw [hox];trivial⟩
 have ne:=ho.ne
 have sub:Looks (model prog w) s.heap (isInstance (.ref e) (.type "object")) true:=I.type.andThen (looks_mroIn X (by unfold mroIn;rw [hc,Option.bind_some,if_neg (by rw [ne];decide),ho.has]))
 refine codeAny_call_builtin SF.slot.plain SF.entry (@check_slot (model prog w) _ _ s "object.__setattr__" "object" "__setattr__" (.ref e) [.str name tk,v] [] _ SF.kind SF.split sub (SF.args (.ref e) (.str name tk) v) ?_)
 have hm:Looks (model prog w) s.heap (mroOf (.ref C)) cd.mro:=(looks_clsIn X hc).andThen .now
 rw [osa_eq,refuse_eq]
 refine wpAny_bind (wpAny_bind (I.type.here (wpAny_bind (hm.here ?_))))
 rw [ho.refuse]
 refine wpAny_pure (wpAny_bind (I.type.here (wpAny_bind ((looks_findIn X ha).here (wpAny_bind ((Looks.now (a:=(none:Option Value))).here ?_))))))
 show wpAny _ _ (storeInOwnDict (.ref e) (.ref C) (.str name tk) name v _) _ _ _
 subst hox
 obtain ⟨hp,g,d,t,os⟩:=s
 dsimp only at hx X
 unfold storeInOwnDict
 refine wpAny_bind (wpAny_pure (wpAny_bind (wpAny_bind (wpAny_loadPart hx (wpAny_bind ((looks_clsIn X hc).here ?_))))))
 rw [hd]
 have hx₁:(hp.push { cls:=.type "dict",data:=.dict #[] }).get? e=some ⟨.ref C,none,.fields fs,sl⟩:=Heap.get?_push_of_some _ hx
 have hxs:e≠hp.objs.size:=Nat.ne_of_lt (Heap.lt_size hx)
 refine wpAny_bind (wpAny_alloc' ?_)
 refine wpAny_bind (wpAny_update' hx₁ ?_)
 refine wpAny_pure ?_
 have hgd:((hp.push { cls:=.type "dict",data:=.dict #[] }).update e λo=>{ cls:=o.cls,dict:=some hp.objs.size,data:=o.data,slots:=o.slots }).get? hp.objs.size
  =some { cls:=.type "dict",data:=.dict #[] }:=
  (Heap.get?_update_ne _ _ _ _ hxs.symm).trans (Heap.get?_push_at rfl rfl)
 have hnd:((hp.push { cls:=.type "dict",data:=.dict #[] }).update e λo=>{ cls:=o.cls,dict:=some hp.objs.size,data:=o.data,slots:=o.slots }).Ns hp.objs.size (λø=>none):=
  ⟨_,#[],_,hgd,rfl,λe he=>absurd he (by simp),λø=>rfl⟩
 show wpAny _ _ (storeInDict hp.objs.size (.str name tk) name v) _ _ _
 unfold storeInDict newKeyGuard
 refine wpAny_bind (wpAny_pure (wpAny_bind (wpAny_nsSet1 (Heap.Ns1.of_empty hnd) λh' hn' hs=>?_)))
 obtain ⟨oD,esD,epD,hoD,hdD,hcD⟩:=hn'.count (Within.cons name v Within.nil)
 refine wpAny_bind (wpAny_lookBehind hoD (by rw [hdD];exact pastItsLine_dict (Nat.le_trans hcD (by rw [List.length_cons,List.length_nil,sizeLine_eq];lia))) ?_)
 refine wpAny_pure (h h' _ hp.objs.size (λb o hb hbo=>?_) ?_)
 ·exact (hs.2 b (Nat.ne_of_lt (Heap.lt_size hbo))).trans ((Heap.get?_update_ne _ _ _ _ hb).trans (Heap.get?_push_of_some _ hbo))
 ·exact (hs.2 e hxs).trans (Heap.get?_update_self _ hx₁ rfl)
theorem exc_setattr {name:Str}{v:Value}{cd:ClassData}{fs:Array Value}{sl:Array (Option Value)}{Q:Unit->Shared->Prop} (X:K.In s.heap) (hx:s.heap.get? e=some ⟨.ref C,none,.fields fs,sl⟩)
 (hc:clsIn K C=some cd) (ho:ExM cd.mro) (hd:cd.hasDict=true) (ha:findIn K (.ref C) name=some none) (hs:findIn K (.ref C) "__setattr__"=some (some (.builtin "object.__setattr__")))
 (h:∀ h' t' dx,(∀ b o,b≠e->s.heap.get? b=some o->h'.get? b=some o)->h'.get? e=some ⟨.ref C,some dx,.fields fs,sl⟩->Q () { s with heap:=h',toks:=t' }) :
 wpAny (model prog w) A (setAttr (.ref e) name v) Q E s:=
 have I:InstAt s.heap e ⟨.ref C,none,.fields fs,sl⟩ C none:=⟨hx,rfl,rfl,trivial⟩
 set_plain X I hs (exc_osa (s:={ s with toks:=s.toks+1 }) X hx rfl hc ho hd ha λh' t' dx a b=>h h' t' dx a b)
end
variable {W:Wd}
theorem HS.movedX {L:Addr}{m:Str->Option Value}{X:Addr->Option Obj}{σ:St}{h h':Heap} (H:HS W L m X σ h) {a:Addr}{o o':Obj} (e:X a=some o) (hs:∀ b p,b≠a->h.get? b=some p->h'.get? b=some p) (he:h'.get? a=some o') :
 HS W L m (Mine.upd X a o') σ h':=by
 obtain ⟨l,hn,N,A⟩:=H.led
 obtain ⟨o₁,hm,_⟩:=A.ex a o e
 have D:=N _ (Led.mem_pl hm)
 have F':Fr W.B L h' m:=by
  obtain ⟨oL,es,ep,hL,r⟩:=H.fr.ns
  refine ⟨⟨oL,es,ep,hs L _ (Ne.symm D.2.1) hL,r⟩,λb x q=>hs b _ (λz=>?_) (H.fr.keep b x q),H.fr.above⟩
  have:=D.2.2;rw [z] at q;rw [this] at q;cases q
 refine H.changed hn hm F' (λp hp=>?_) rfl (A.putX hn e o')
 obtain ⟨y,hy,rfl⟩:=List.mem_map.mp hp
 unfold Led.put at hy
 obtain ⟨x,hx,rfl⟩:=List.mem_map.mp hy
 split
 ·rename_i q
  dsimp only
  rw [q]
  exact ⟨he,D.2⟩
 ·rename_i q
  have P:=N _ (List.mem_map.mpr ⟨x,hx,rfl⟩)
  exact ⟨hs _ _ q P.1,P.2⟩
end
section
variable {W:Wd}{Φ:Phi}{n:Nat}{ck:Ck}
structure XCls (W:Wd) (fi:Addr) (d:FnData):Prop where
 obj:∀ P:Prop,(∀ nm q N bs bm sn sub ab col dd k0 k1 k2 k3 k5,W.K.lookup W.N.xc=some (excClassObj nm q W.N.xc N bs bm true sn sub ab col dd k0 k1 k2 k3 k5 "Exception.__new__")->XTail bm->ExM bm->P)->P
 nam:nsIn W.K mainGlobals W.N.xn=some (some (.ref W.N.xc))
 keep:keepIn W.K (.ref W.N.xc)=true
 ini:findIn W.K (.ref W.N.xc) "__init__"=some (some (.ref fi))
 sa:findIn W.K (.ref W.N.xc) "__setattr__"=some (some (.builtin "object.__setattr__"))
 msg:findIn W.K (.ref W.N.xc) "message"=some none
 fn:W.K.lookup fi=some ⟨d.oc,d.od,.func d.fd,d.osl⟩
 oc:d.oc=.type "function"
 code:codeIn W.K d.cdv d.qual=true
 co:d.scope.isCoroutine=false
 gen:d.scope.isGenerator=false
 kind:d.scope.kind=.function
 names:d.scope.names=[(("self":Str),NameKind.local),(("message":Str),NameKind.local)]
 body:∀ P:Prop,(∀ q1 q2 q3 q4,d.body=[Stmt.Assign [Expr.Attribute (Expr.Name ("self":Str) q1) ("message":Str) q2] (Expr.Name ("message":Str) q3) q4]->P)->P
 binds:∀ (us:List Value) (s:Shared),us.length=2->W.K.In s.heap->BindsTo s d.fd ⟨us,[]⟩ (([("self":Str),"message"]:List Str).zip us)
abbrev xObj (C:Addr) (dx:Option Addr) (a0:Value) (sl:Array (Option Value)):Obj:=⟨.ref C,dx,.fields #[a0,.none,.none,.none,.bool false,.none],sl⟩
theorem init_call {fi:Addr}{d:FnData} (Z:XCls W fi d) {A:Around}{L:Addr}{m:Str->Option Value}{X:Addr->Option Obj}{σ:St}{s:Shared}{R:Result->Shared->Prop}{e:Addr}{a0 u:Value}{sl:Array (Option Value)}
 (hA:A.depth<recursionLimit) (H:HS W L m X σ s.heap) (he:X e=some (xObj W.N.xc none a0 sl))
 (K:∀ h' t' dx,HS W L m (upd X e (xObj W.N.xc (some dx) a0 sl)) σ h'->R (.ok (.ret .none)) { s with heap:=h',toks:=t' }) :
 codeAny (Mo W) A (.call (.ref fi) ⟨[.ref e,u],[]⟩) R s:=by
 have k1:d.scope.names.lookup ("self":Str)=some .local:=by rw [Z.names];decide +kernel
 have k2:d.scope.names.lookup ("message":Str)=some .local:=by rw [Z.names];decide +kernel
 refine codeAny_call_cells' (fd:=d.fd) (body:=d.body) (binds:=([("self":Str),"message"]:List Str).zip [.ref e,u]) hA (H.inK _ _ Z.fn) rfl (W.T.nolimit.keeps H.fr.keep) (codeRec_of H.inK Z.code) rfl (Z.binds _ s rfl H.inK) rfl ?_ ?_ Z.co Z.gen Z.kind
 ·intro x hx
  have hm:=(List.of_mem_zip hx).1
  left
  rcases List.mem_cons.mp hm with h | h
  ·rw [h];exact k1
  ·rw [List.mem_singleton.mp h];exact k2
 ·intro s₁ IC
  obtain ⟨h₁,tk,rfl,hk₁⟩:=IC.done
  refine enterK H IC.toInCall.ns hk₁ IC.cell IC.apart IC.above λX₀ oL H₁ hoL hoN hoC hX₀ hcell=>?_
  have X0:X L=none:=by
   cases q:X L with
   | none=>rfl
   | some o=>exact absurd rfl (H.atne q)
  have nd:((([("self":Str),"message"]:List Str).zip [.ref e,u]).map (λø=>ø.1)).Nodup:=by
   show ([("self":Str),"message"]).Nodup
   exact nodup_of_B (by decide +kernel)
  have b1:=bindL_get (kindOf:=(callEnvC d.fd s.heap.objs.size fi).kindOf) (m:=λø=>none) k1 nd (u:=.ref e) (.head _)
  have b2:=bindL_get (kindOf:=(callEnvC d.fd s.heap.objs.size fi).kindOf) (m:=λø=>none) k2 nd (u:=u) (.tail _ (.head _))
  refine Z.body _ λq1 q2 q3 q4 hb=>?_
  rw [hb]
  refine wpAny_execs_cons (plainObj_wpAny_Assign_Attribute (wpAny_Name (wpAny_loadName_local Z.kind k2 IC.toInCall.ns b2 (wpAny_Name (wpAny_loadName_local Z.kind k1 IC.toInCall.ns b1 ?_) (by decide +kernel))) (by decide +kernel)) (swaps_off rfl _ _ _))
  refine Z.obj _ λnm q N bs bm sn sub ab col dd k0 k1 k2 k3 k5 hC T hmro=>?_
  have hcd:clsIn W.K W.N.xc=some { name:=nm,bases:=bs,mro:=.ref W.N.xc::bm,ns:=N,qualname:=q,hasDict:=true,slotNames:=sn,subclasses:=sub,abstract:=ab,collection:=col,hasDel:=false }:=by
   unfold clsIn;rw [hC]
  refine exc_setattr (s:={ s with heap:=h₁,toks:=tk }) H₁.inK (H₁.at (hX₀ _ _ he) (by intro h;cases h)) hcd (ExM.cons _ _ hmro) rfl Z.msg Z.sa λh' t' dx hk' he'=>?_
  refine wpAny_execs_nil ?_
  have H₂:=H₁.movedX (hX₀ _ _ he) hk' he'
  have eL:e≠L:=λq=>by rw [q,X0] at he;cases he
  have old:∀ a o,upd X e (xObj W.N.xc (some dx) a0 sl) a=some o->upd X₀ e (xObj W.N.xc (some dx) a0 sl) a=some o:=λa o q=>by
   by_cases z:a=e
   ·subst z;rw [upd_same] at q |-;exact q
   ·rw [upd_ne _ _ z] at q |-;exact hX₀ _ _ q
  exact K h' t' dx (H₂.back (by rw [upd_ne _ _ (Ne.symm eL)];exact hoL) hoN old (by rw [upd_ne _ _ (Ne.symm eL)];exact X0) H.fr.above)
theorem HS.gotX {L:Addr}{m:Str->Option Value}{X:Addr->Option Obj}{σ:St}{h h':Heap} (H:HS W L m X σ h) (hk:∀ b o,h.get? b=some o->h'.get? b=some o) {e:Addr}{o:Obj} (hn:h.get? e=none) (he:h'.get? e=some o) :
 X e=none/\HS W L m (upd X e o) σ h':=by
 refine ⟨(H.none_at hn).2,?_⟩
 have H':=H.keeps hk
 obtain ⟨l,n,N,A⟩:=H.led
 obtain ⟨oL,es,ep,hL,r⟩:=H.fr.ns
 refine ⟨H'.fr,⟨(e,.ex,o)::l,?_,λp hp=>?_,?_⟩,H.st⟩
 ·rw [List.map_cons,List.nodup_cons]
  refine ⟨λhm=>?_,n⟩
  obtain ⟨x,hx,q⟩:=List.mem_map.mp hm
  have:=(N _ (List.mem_map.mpr ⟨x,hx,rfl⟩)).1
  have q:x.1=e:=q
  rw [q,hn] at this;cases this
 ·rcases List.mem_cons.mp hp with rfl | hp
  ·refine ⟨he,λq=>?_,?_⟩
   ·have q:e=L:=q
    rw [<- q,hn] at hL;cases hL
   ·cases z:W.B.get? e with
    | none=>rfl
    | some o'=>have:=H.fr.keep _ _ z;rw [hn] at this;cases this
  ·exact ⟨hk _ _ (N p hp).1,(N p hp).2⟩
 ·exact ⟨(A.grow _).inst,(A.grow _).lst,(A.grow _).tup,(A.grow _).dct,λa ws q=>upd_some q (λe1 e2=>by subst e1;subst e2;exact ⟨_,.head _,.inl rfl⟩) λø q=>(A.grow _).ex a ws q⟩
theorem raise_ok {fi:Addr}{d:FnData} (Z:XCls W fi d) {ck:Ck}{x:Stmt} (h:chkS W.K W.N n ck .raise x=true):SS W Φ n ck .raise x:=by
 refine tRa_ok h λe f p h=>oNo_ok (P:=λf=>SS W Φ n ck .raise (.Raise e f p)) (aL h) <| oSm_ok (P:=λe=>SS W Φ n ck .raise (.Raise e none p)) (aR h) λe h=>?_
 refine oCl_ok (P:=λe=>SS W Φ n ck .raise (.Raise (some e) none p)) h λfx xs ks q3 h=>oNm_ok (P:=λfx=>SS W Φ n ck .raise (.Raise (some (.Call fx xs ks q3)) none p)) h λy q0 h=>?_
 refine un_ok (P:=λks=>SS W Φ n ck .raise (.Raise (some (.Call (.Name y q0) xs ks q3)) none p)) (aR (aL h)) <| u1_ok (P:=λxs=>SS W Φ n ck .raise (.Raise (some (.Call (.Name y q0) xs [] q3)) none p)) (aR h) λa ha=>?_
 refine oCn_ok (P:=λa=>SS W Φ n ck .raise (.Raise (some (.Call (.Name y q0) [a] [] q3)) none p)) ha λc kk q2 hc=>?_
 obtain ⟨tx,rfl⟩:=isText_ok hc
 have h:=aL (aL h)
 intro C hC A m X lo σ s Q Er k hA hV H hw K KX
 have hw:k .ex lo σ:=hw
 rw [arm_exec_Raise]
 refine wpAny_bind (wpAny_standAt ?_)
 refine Z.obj _ λnm q N bs bm sn sub ab col dd k0 k1 k2 k3 k5 hC' T hmro=>?_
 refine exc_raise (C:=W.N.xc) (nm:=nm) (q:=q) (N:=N) (bs:=bs) (bm:=bm) (hdct:=true) (sn:=sn) (sub:=sub) (ab:=ab) (col:=col) (dd:=dd) (k0:=k0) (k1:=k1) (k2:=k2) (k3:=k3) (k5:=k5) T hA.h ?_
 refine wpAny_bind ?_
 refine Call_ (glob_of hC H (aL h) (eq_of_beq (aR h)) ?_)
 refine callWith_of (P:=W.K.In) rfl (keep_K Z.keep) (evalArgs_any rfl ?_)
 refine spliced_cons ?_
 refine wpAny_mkText ?_
 refine spliced_nil ⟨H.inK,?_⟩
 have hfI:=H.inK _ _ Z.fn
 obtain ⟨hp,g,dr,tk,os⟩:=s
 refine exc_call T (H.inK _ _ hC') (looks_findIn H.inK Z.ini) hfI Z.oc (λh' e M=>?_) (by rw [sizeLine_eq];exact (by decide:1<=16777216))
 obtain ⟨t,he,ht,htt⟩:=M.there
 obtain ⟨Xe,H1⟩:=H.gotX M.keeps M.new he
 refine wpAny_call ?_
 refine codeAny_mono (init_call (s:=⟨h',g,dr,_,os⟩) (R:=λr s'=>r=.ok (.ret .none)/\∃ h2 t2 dx,s'=⟨h2,g,dr,t2,os⟩/\HS W C.L m (upd (upd X e _) e (xObj W.N.xc (some dx) (.ref t) #[])) σ h2) Z ?_ H1 (upd_same _ _ _) λh2 t2 dx H2=>⟨rfl,h2,t2,dx,rfl,H2⟩) λr s' hr=>?_
 ·have:=hA.d
  have e1:(A.under (.builtin "type.__call__" ⟨[.ref W.N.xc,.str tx tk],[]⟩)).depth=A.depth+1:=depth_under_kw _ _ _ _
  show (A.under (.builtin "type.__call__" ⟨[.ref W.N.xc,.str tx tk],[]⟩)).depth<1000
  rw [e1];lia
 ·obtain ⟨rfl,h2,t2,dx,rfl,H2⟩:=hr
  refine ⟨rfl,?_⟩
  rw [upd_upd] at H2
  refine wpAny_bind (wpAny_standAt (wpAny_pure ⟨e,some dx,.ref t,#[],rfl,H2.inK _ _ hC',H2.at (upd_same _ _ _) (by intro h;cases h),?_⟩))
  exact KX e h2 t2 m X lo σ ⟨_,.ref t,Xe,H2,rfl,rfl⟩ XE.refl hV.fx hw
end
section
variable {W:Wd}{Φ:Phi}{n:Nat}{ck:Ck}
noncomputable def CallErr (W:Wd) (g:Nat):Prop:=∀ (A:Around) (fl:List Env) (L:Addr) (m:Str->Option Value) (X:Addr->Option Obj) (σ:St) (s:Shared) (R:Result->Shared->Prop) (us:List Value) (vs:List V),
 ACall A fl g->FX fl L X->HS W L m X σ s.heap->Vs us vs->W.N.TB.rs g vs σ ->
 (∀ base e a0 h' t',Heap.FlyingW base fl e (.ref W.N.xc) a0 h'->(∀ h'',base.StaysIn h''->h'.UpToSlots h''->HS W L m X σ h'')->R (.error (.ref e)) { s with heap:=h',toks:=t' }) ->
 codeAny (Mo W) A (.call (.ref (W.N.fa g)) ⟨us,[]⟩) R s
noncomputable def BearsX (TB:Tabs) (Φ:Phi) (g ar n:Nat) (bd:SL):Prop:=∀ vs σ,TB.rs g vs σ->vs.length=ar/\wpSL TB Φ bd (lo0 n vs) σ (λfl ø σ'=>match fl with | .ex=>σ.sub σ' | _=>False)
theorem call_err {d:FnData}{g ar:Nat}{vt:List Str}{bd:SL} (F:FnOk W d g ar vt bd) (T:NOk W) (B:Below W Φ g) (Z:Errs W Φ g) (hb:BearsX W.N.TB Φ g ar vt.length bd)
 (binds:∀ (us:List Value) (s:Shared),us.length=ar->W.K.In s.heap->BindsTo s d.fd ⟨us,[]⟩ ((vt.take ar).zip us)):CallErr W g:=by
 intro A fl L m X σ s R us vs hA hfx H hvs hφ K
 obtain ⟨h1,h2⟩:=hb vs σ hφ
 refine call_core F T B Z hA hfx H hvs h1 (binds us s (hvs.len.trans h1) H.inK) h2 (λu fl' lo' h' t' σ' H' hu w=>?_) λC X₀ oL e h' t' m' X' lo' σ' c1 c2 c3 c4 hoL hoN c5 c6 xe fe fx' w=>?_
 ·rcases hu with ⟨rfl,rfl⟩ | ⟨v,rfl,hu⟩ <;> exact w.elim
 ·have hs:σ.sub σ':=w
  obtain ⟨ob,a0,Xe,He,hcl,hdt⟩:=fe
  have X0:X L=none:=by
   cases q:X L with
   | none=>rfl
   | some o=>exact absurd rfl (H.atne q)
  have sub':∀ a o,X' a=some o->upd X' e ob a=some o:=λa o q=>by
   rw [upd_ne _ _ λr=>by rw [r,Xe] at q;cases q];exact q
  have H':=He.subX sub'
  have heo:=He.at (upd_same _ _ _) (by rw [hcl];intro h;cases h)
  have hbF:∀ a∈frs C.fl,(hideAll h' (e::frs C.fl)).get? a=none:=λa ha=>hideAll_none _ (.tail _ ha)
  have hF:=funs fx' H' hbF
  have hst:Heap.StaysIn (hideAll h' (e::frs C.fl)) h':=λb o q=>of_hideAll _ q
  refine wpAny_leaving_firstW (s:={ s with heap:=h',toks:=t' }) (base:=hideAll h' (e::frs C.fl)) (outer:=fl) (L:=C.L) (a0:=a0) (by show pushEnvs [C.env] A.frames=_;rw [hA.f];rfl) (by rw [<- c2];exact hF) c3 heo hst (hideAll_none _ (.head _)) hdt rfl rfl λh'' hL=>?_
  rw [hcl] at hL
  obtain ⟨k1,⟨_,_,k2⟩,k3,k4⟩:=hL
  refine K (hideAll h' (e::frs C.fl)) e a0 h'' t' ⟨k1,hideAll_none _ (.head _),k2,k3⟩ λh3 q1 q2=>?_
  have F3:=He.flown Xe fx' (h':=h3) (λb o z1 z2 z3=>q1 _ _ (hideAll_get _ z1 λhm=>(List.mem_cons.mp hm).elim z2 z3)) (Heap.UpToSlots.trans k4 q2)
  have oldX:∀ a o,X a=some o->X' a=some o:=λa o q=>by
   obtain ⟨y1,y2,y3⟩:=c4 a o q
   rw [xe a y2 λø=>y3];exact y1
  exact (F3.back (by rw [xe L c5 λø=>c6];exact hoL) hoN oldX X0 H.fr.above).sub hs
end
section
variable {W:Wd}{Φ:Phi}{n:Nat}{ck:Ck}
theorem swhile_of {C:Cx W} (hC:C.of ck) (ho:ck.own=true):(∃ o,C.fl=C.env::o)/\C.env.frame=some C.L:=C.top (hC.2.2.trans ho)
theorem suite_ok (T:NOk W) {C:Cx W} (hC:C.of ck) {A:Around}{m:Str->Option Value}{X:Addr->Option Obj}{lo:Lo}{σ:St}{s:Shared}{Q:Flow->Shared->Prop}{Er:Value->Shared->Prop}{k:KL}{j fd:Nat}{x:Str}{kk1 kk2:Nat}{p1 p2 p3 p4 p5 p6 p7 p8:Pos}
 (hx:ck.vt[j]?=some x) (hd:(x == ("__debug__":Str))=false) (hV:VOk C m X lo) (H:HS W C.L m X σ s.heap)
 (hw:kHand W.N.TB fd lo k σ lo[j]?)
 (K:BQ C X s k Q) :
 wpAny (Mo W) A (execs [.AugAssign (.Attribute (.Name x p1) (W.N.fn fd) p2) .Add (.Constant (.int 1) kk1 p3) p4,.Return (some (.Tuple [.List [] p5,.List [] p6] kk2 p7)) p8] C.env) Q Er s:=by
 refine gS_ok hw λo hlo hw=>gS_ok hw λv ho hw=>?_
 obtain ⟨y,u,e1,e2,rd⟩:=hV.vars j v (hlo.trans (congrArg some ho))
 have:y=x:=Option.some.inj (e1.symm.trans ((congrArg (·[j]?) hC.1).trans hx))
 subst this
 revert rd
 refine eR (P:=λu=>Rd C m X y u->wpAny (Mo W) A (execs _ C.env) Q Er s) e2 hw λr hw rd=>gS_ok hw λp hI hw=>gS_ok hw λq hf hw=>?_
 revert hf
 refine gI_ok (P:=λq=>p.2.lookup fd=some q->wpAny (Mo W) A (execs _ C.env) Q Er s) hw λu hw hf=>?_
 refine wpAny_execs_cons (wpAny_AugAssign_AttributeAny (wpAny_Name (loadRd H rd ?_) hd))
 refine op_getAttr T H hI hf λu1 t1 e1'=>?_
 obtain ⟨tu,rfl⟩:=av_int e1'
 refine wpAny_Constant_int ?_
 refine inc_op (o:=.add) (s:={ s with toks:=_ }) rfl (σ:=σ) (k:=λv τ=>v=.int (u+1)/\τ=σ) (y:=.int 1) rfl ⟨rfl,rfl⟩ λr2 t2 w2=>?_
 obtain ⟨w2,_⟩:=w2
 cases w2
 refine op_setAttr T (s:={ s with toks:=t2 }) H hI hw.1 hw.2.1 (v:=.int (u+1)) rfl λh3 t3 H3=>?_
 refine wpAny_execs_cons (wpAny_Return_some (Tuple_ ?_))
 refine spliced_cons (List_ (spliced_nil ?_))
 refine wpAny_newObj_type ?_ (by show (0:Nat)<=sizeLine;exact Nat.zero_le _)
 have H4:=H3.newL Vs.nil (Nat.zero_le _) 0
 refine spliced_cons (List_ (spliced_nil ?_))
 refine wpAny_newObj_type ?_ (by show (0:Nat)<=sizeLine;exact Nat.zero_le _)
 have H5:=H4.newL Vs.nil (Nat.zero_le _) 0
 refine spliced_nil ?_
 refine wpAny_newObj_type ?_ (by show (2:Nat)<=sizeLine;rw [sizeLine_eq];decide)
 have H6:=H5.newT (us:=[.ref h3.objs.size,.ref (h3.push (listOf #[] 0)).objs.size]) (vs:=[.ref h3.objs.size,.ref (h3.push (listOf #[] 0)).objs.size]) (Vs.cons rfl (Vs.cons rfl Vs.nil)) (by show 2<=big;unfold big;lia) 0
 exact K _ _ _ _ m X lo _ (.rt rfl) H6 hV XE.refl (hw.2.2 _ H3.fresh.1 _ H4.fresh.1 _ H5.fresh.1)
theorem handler_ok {N:Nm}{c:Ck}{j fd:Nat}{P:ExceptHandler->Prop}{h:ExceptHandler} (hh:handlerOk N c j fd h=true) (k:∀ y p x p1 p2 p3 p4 p5 p6 p7 p8 kk1 kk2 pos,(c.own&&c.glob y&&y == N.xn)=true->(c.vt[j]? == some x&&!(x == ("__debug__":Str)))=true ->
 P (.ExceptHandler (some (.Name y p)) none [.AugAssign (.Attribute (.Name x p1) (N.fn fd) p2) .Add (.Constant (.int 1) kk1 p3) p4,.Return (some (.Tuple [.List [] p5,.List [] p6] kk2 p7)) p8] pos)):P h:=by
 obtain ⟨ty,nm,bd,pos⟩:=h
 refine oNo_ok (P:=λnm=>P (.ExceptHandler ty nm bd pos)) (aL (aL hh)) <| oSm_ok (P:=λty=>P (.ExceptHandler ty none bd pos)) (aR (aL hh)) λty ht=>oNm_ok (P:=λty=>P (.ExceptHandler (some ty) none bd pos)) ht λy p ho=>?_
 refine u2_ok (P:=λbd=>P (.ExceptHandler (some (.Name y p)) none bd pos)) (aR hh) λs t hb=>?_
 refine tAu_ok (P:=λs=>P (.ExceptHandler (some (.Name y p)) none [s,t] pos)) (aL hb) λtg op v p4 hs=>?_
 refine oAt_ok (P:=λtg=>P (.ExceptHandler (some (.Name y p)) none [.AugAssign tg op v p4,t] pos)) (aR (aL hs)) λb a p2 ha=>?_
 refine oNm_ok (P:=λb=>P (.ExceptHandler (some (.Name y p)) none [.AugAssign (.Attribute b a p2) op v p4,t] pos)) (aR ha) λx p1 hx=>?_
 refine oCn_ok (P:=λv=>P (.ExceptHandler (some (.Name y p)) none [.AugAssign (.Attribute (.Name x p1) a p2) op v p4,t] pos)) (aR hs) λc kk1 p3 hc=>?_
 rw [cInt_ok hc,eq_of_beq (aL ha),eq_of_beq (aL (aL hs))]
 refine tRt_ok (P:=λt=>P (.ExceptHandler (some (.Name y p)) none [.AugAssign (.Attribute (.Name x p1) (N.fn fd) p2) .Add (.Constant (.int 1) kk1 p3) p4,t] pos)) (aR hb) λv p8 hv=>?_
 refine oSm_ok (P:=λv=>P (.ExceptHandler (some (.Name y p)) none [.AugAssign (.Attribute (.Name x p1) (N.fn fd) p2) .Add (.Constant (.int 1) kk1 p3) p4,.Return v p8] pos)) hv λv hv=>?_
 refine oTp_ok (P:=λv=>P (.ExceptHandler (some (.Name y p)) none [.AugAssign (.Attribute (.Name x p1) (N.fn fd) p2) .Add (.Constant (.int 1) kk1 p3) p4,.Return (some v) p8] pos)) hv λl kk2 p7 hl=>?_
 refine u2_ok (P:=λl=>P (.ExceptHandler (some (.Name y p)) none [.AugAssign (.Attribute (.Name x p1) (N.fn fd) p2) .Add (.Constant (.int 1) kk1 p3) p4,.Return (some (.Tuple l kk2 p7)) p8] pos)) hl λa b hl=>?_
 refine oLs_ok (P:=λa=>P (.ExceptHandler (some (.Name y p)) none [.AugAssign (.Attribute (.Name x p1) (N.fn fd) p2) .Add (.Constant (.int 1) kk1 p3) p4,.Return (some (.Tuple [a,b] kk2 p7)) p8] pos)) (aL hl) λl1 p5 h1=>?_
 refine oLs_ok (P:=λb=>P (.ExceptHandler (some (.Name y p)) none [.AugAssign (.Attribute (.Name x p1) (N.fn fd) p2) .Add (.Constant (.int 1) kk1 p3) p4,.Return (some (.Tuple [.List l1 p5,b] kk2 p7)) p8] pos)) (aR hl) λl2 p6 h2=>?_
 refine un_ok (P:=λl1=>P (.ExceptHandler (some (.Name y p)) none [.AugAssign (.Attribute (.Name x p1) (N.fn fd) p2) .Add (.Constant (.int 1) kk1 p3) p4,.Return (some (.Tuple [.List l1 p5,.List l2 p6] kk2 p7)) p8] pos)) h1 <| un_ok (P:=λl2=>P (.ExceptHandler (some (.Name y p)) none [.AugAssign (.Attribute (.Name x p1) (N.fn fd) p2) .Add (.Constant (.int 1) kk1 p3) p4,.Return (some (.Tuple [.List [] p5,.List l2 p6] kk2 p7)) p8] pos)) h2 ?_
 exact k y p x p1 p2 p3 p4 p5 p6 p7 p8 kk1 kk2 pos ho hx
theorem try_ok {fi:Addr}{d:FnData} (Z:XCls W fi d) (T:NOk W) (B:Below W Φ n) (BX:∀ f,f<n->CallErr W f)
 (ck:Ck) (i f:Nat) (as:EL) (b:SL) (j fd:Nat) (y g:Str) (q1 q2 q3 q4 q5:Pos) (xs:List Expr) (ys:List Stmt) (h:ExceptHandler) (hxs:AllE W Φ n ck as xs) (hys:SSL W Φ n ck b ys)
 (hc:(decide (f<n)&&glF W.K ck (W.N.fa f) g&&keepIn W.K (.ref (W.N.fa f)))=true) (c5:chkVar ck i y=true) (c6:handlerOk W.N ck j fd h=true) :
 SS W Φ n ck (.tryw i f as b j fd) (.Try (.Assign [.Name y q1] (.Call (.Name g q2) xs [] q3) q4::ys) [h] [] [] q5):=by
 have c1:=of_decide_eq_true (aL (aL hc))
 have c2:=aL (aR (aL hc))
 have c3:=eq_of_beq (aR (aR (aL hc)))
 have c4:=aR hc
 refine handler_ok (P:=λh=>SS W Φ n ck (.tryw i f as b j fd) (.Try (.Assign [.Name y q1] (.Call (.Name g q2) xs [] q3) q4::ys) [h] [] [] q5)) c6 λyx ø xx ø ø ø ø ø ø ø ø ø ø ø ho hx=>?_
 intro C hC A m X lo σ s Q Er k hA hV H hw K KX
 obtain ⟨hs,hns⟩:=hxs.sel
 refine wpAny_Try_except (wpAny_execs_cons (wpAny_Assign_Name (Call_ (glob_of hC H c2 c3 ?_)) (swaps_off rfl _ _ _)))
 refine callEL hns (keep_K c4) hs hC hA hV H hw λus vs h1 t1 σ1 e1 H1 w1=>?_
 rcases w1 with w1 | ⟨hr,w1⟩
 ·refine wpAny_call (B.ok f c1 A C.fl C.L m X σ1 _ _ _ us vs (hA.call c1) hV.fx H1 e1 w1 λu v h2 t2 σ2 e2 H2 w2=>?_)
  refine store_ok (s:={ s with heap:=h2,toks:=t2 }) hC c5 hV H2 e2 λh3 t3 m3 X3 H3 V3 x3 ø=>?_
  refine hys C hC A m3 X3 _ σ2 { s with heap:=h3,toks:=t3 } _ _ _ hA V3 H3 w2 (λfw fl' h4 t4 m4 X4 lo4 σ4 ef H4 V4 x4 w4=>?_) λe h4 t4 m4 X4 lo4 σ4 fe x4 fx4 w4=>w4.elim
  cases ef with
  | nx=>exact wpAny_execs_nil (K _ _ h4 t4 m4 X4 lo4 σ4 .nx H4 V4 (x3.trans x4) w4)
  | rt hu=>exact K _ _ h4 t4 m4 X4 lo4 σ4 (.rt hu) H4 V4 (x3.trans x4) w4
 ·refine wpAny_call (BX f c1 A C.fl C.L m X σ1 _ _ us vs (hA.call c1) hV.fx H1 e1 hr λbase e a0 h2 t2 fl2 prov=>?_)
  obtain ⟨⟨fo,hfo⟩,hfr⟩:=swhile_of hC (aL (aL ho))
  rw [hfo] at fl2
  refine wpAny_looks_onW (s:={ s with heap:=h2,toks:=t2 }) (outer:=fo) (by rw [hA.f,hfo]) hfr fl2 λh3 held3 sm3=>?_
  refine wpAny_landsW held3 λh4 fl4 sm4=>?_
  have H4:=prov h4 fl4.1 (sm3.trans sm4)
  have hg:nsIn W.K mainGlobals yx=some (some (.ref W.N.xc)):=by rw [eq_of_beq (aR ho)];exact Z.nam
  refine wpAny_handleBy_cons (codeAny_handlers_test (glob_of hC H4 (aR (aL ho)) hg ?_)) (by intro q;cases q)
  refine Z.obj _ λnm q N bs bm sn sub ab col dd k0 k1 k2 k3 k5 hC' T' hmro=>?_
  obtain ⟨ob,hob,hobc⟩:=fl4.there
  refine wpAny_excMatches_sub_self (H4.inK _ _ hC') hob hobc T'.base ?_
  refine codeAny_handlers_suite ?_
  refine lands_againW (s:=⟨h4,s.gens,s.drawn,t2,s.os⟩) fl4 λh5 fl5 sm5=>?_
  have H5:=prov h5 fl5.1 ((sm3.trans sm4).trans sm5)
  exact suite_ok (s:=⟨h5,s.gens,s.drawn,t2,s.os⟩) T hC (eq_of_beq (aL hx)) (nL (aR hx)) hV H5 w1 λf fl h t m X' lo' σ' a b c d e=>K f fl h t m X' lo' σ' a b c d e
end
section
noncomputable def faL:List Nat:=[84,91,98,105,112,119,126,140,154,161,168,173,180,194,215,223,230,237,244,251,266,273,278,320,334,341,355,393,400,421,428,435,449,457,464,471,360,367,372,285,292,299,499,520,527,549,598,570,563,556,577,605,612,619,626,633,640,647,654,661,668,675,682,687,692]
noncomputable def caL:List Nat:=[143,204,309,375,403,481,502,530,587]
noncomputable def fnL:List String:=["op","sender_link","sender","target_link","target","source","kind","payload","link","address","prefix","mtu","arp","least","wrong_frames","table","order","since","tries","queue","size","age_limit","retry_after","most_tries","queue_limit","entries","made","time","number","end","octets","numbers","at","fates","delay","spread","most_bad","bad","sent","lost","spoilt","doubled","transits","frame","told","question","is_of_another","is_pending","is_fresh","find","new_entry","learn","ask","tick","input","resolve","tick","send","input","on_time","next","put","carry","send","arrivals"]
noncomputable def fldL:List (Nat×Nat):=[(0,0),(0,1),(0,2),(0,3),(0,4),(1,4),(1,5),(1,6),(1,7),(2,8),(2,9),(2,10),(2,11),(2,12),(2,13),(2,14),(3,8),(3,9),(3,15),(4,9),(4,16),(4,8),(4,17),(4,18),(4,19),(5,20),(5,21),(5,22),(5,23),(5,24),(5,25),(5,26),(6,27),(6,28),(6,29),(6,30),(7,31),(7,32),(8,33),(8,34),(8,35),(8,36),(8,37),(8,38),(8,39),(8,40),(8,41),(8,42)]
noncomputable def mtL:List (Nat×Nat×Nat):=[(2,43,21),(2,44,22),(3,45,25),(3,46,26),(4,47,28),(5,48,30),(5,49,31),(5,50,32),(5,51,33),(5,52,34),(5,53,35),(3,54,36),(3,55,37),(3,56,38),(2,57,39),(2,58,40),(2,59,41),(7,60,44),(8,61,47),(8,62,48),(8,63,49),(8,64,50)]
noncomputable def iniL:List Nat:=[7,13,20,24,27,29,42,43,45]
noncomputable def bd0:SL:=(.cons (.ret (.bi .bytes (.list (.cons (.bin .and (.bin .shr (.var 0) (.int 8)) (.int 255)) (.cons (.bin .and (.var 0) (.int 255)) .nil))))) .nil)
noncomputable def bd1:SL:=(.cons (.ret (.bin .add (.call 0 (.cons (.bin .shr (.var 0) (.int 16)) .nil)) (.call 0 (.cons (.var 0) .nil)))) .nil)
noncomputable def bd2:SL:=(.cons (.ret (.bin .add (.call 0 (.cons (.bin .shr (.var 0) (.int 32)) .nil)) (.call 1 (.cons (.var 0) .nil)))) .nil)
noncomputable def bd3:SL:=(.cons (.ite (.orv (.cmp .lt (.var 1) (.int 0)) (.cmp .gt (.bin .add (.var 1) (.var 2)) (.bi .len (.var 0)))) (.cons .fail .nil) .nil) .nil)
noncomputable def bd4:SL:=(.cons (.expr (.call 3 (.cons (.var 0) (.cons (.var 1) (.cons (.int 2) .nil))))) (.cons (.ret (.bin .or (.bin .shl (.idx (.var 0) (.var 1)) (.int 8)) (.idx (.var 0) (.bin .add (.var 1) (.int 1))))) .nil))
noncomputable def bd5:SL:=(.cons (.expr (.call 3 (.cons (.var 0) (.cons (.var 1) (.cons (.int 4) .nil))))) (.cons (.ret (.bin .or (.bin .shl (.call 4 (.cons (.var 0) (.cons (.var 1) .nil))) (.int 16)) (.call 4 (.cons (.var 0) (.cons (.bin .add (.var 1) (.int 2)) .nil))))) .nil))
noncomputable def bd6:SL:=(.cons (.expr (.call 3 (.cons (.var 0) (.cons (.var 1) (.cons (.int 6) .nil))))) (.cons (.ret (.bin .or (.bin .shl (.call 4 (.cons (.var 0) (.cons (.var 1) .nil))) (.int 32)) (.call 5 (.cons (.var 0) (.cons (.bin .add (.var 1) (.int 2)) .nil))))) .nil))
noncomputable def bd7:SL:=(.cons (.setA (.var 0) 0 (.var 1)) (.cons (.setA (.var 0) 1 (.var 2)) (.cons (.setA (.var 0) 2 (.var 3)) (.cons (.setA (.var 0) 3 (.var 4)) (.cons (.setA (.var 0) 4 (.var 5)) .nil)))))
noncomputable def bd8:SL:=(.cons (.asg 1 (.bin .add (.bin .add (.bin .add (.call 0 (.cons (.gint "LINK_KIND" 1) .nil)) (.call 0 (.cons (.gint "NET_KIND" 2048) .nil))) (.bi .bytes (.list (.cons (.gint "LINK_SIZE" 6) (.cons (.gint "NET_SIZE" 4) .nil))))) (.call 0 (.cons (.attr (.var 0) 0) .nil)))) (.cons (.ret (.bin .add (.bin .add (.bin .add (.bin .add (.var 1) (.call 2 (.cons (.attr (.var 0) 1) .nil))) (.call 1 (.cons (.attr (.var 0) 2) .nil))) (.call 2 (.cons (.attr (.var 0) 3) .nil))) (.call 1 (.cons (.attr (.var 0) 4) .nil)))) .nil))
noncomputable def bd9:SL:=(.cons (.ite (.cmp .lt (.bi .len (.var 0)) (.gint "PACKET_SIZE" 28)) (.cons .fail .nil) .nil) (.cons (.ite (.orv (.cmp .ne (.call 4 (.cons (.var 0) (.cons (.int 0) .nil))) (.gint "LINK_KIND" 1)) (.cmp .ne (.call 4 (.cons (.var 0) (.cons (.int 2) .nil))) (.gint "NET_KIND" 2048))) (.cons .fail .nil) .nil) (.cons (.ite (.orv (.cmp .ne (.idx (.var 0) (.int 4)) (.gint "LINK_SIZE" 6)) (.cmp .ne (.idx (.var 0) (.int 5)) (.gint "NET_SIZE" 4))) (.cons .fail .nil) .nil) (.cons (.asg 1 (.call 4 (.cons (.var 0) (.cons (.int 6) .nil)))) (.cons (.ite (.andv (.cmp .ne (.var 1) (.gint "ASKS" 1)) (.cmp .ne (.var 1) (.gint "ANSWERS" 2))) (.cons .fail .nil) .nil) (.cons (.ret (.new 0 (.cons (.var 1) (.cons (.call 6 (.cons (.var 0) (.cons (.int 8) .nil))) (.cons (.call 5 (.cons (.var 0) (.cons (.int 14) .nil))) (.cons (.call 6 (.cons (.var 0) (.cons (.int 18) .nil))) (.cons (.call 5 (.cons (.var 0) (.cons (.int 24) .nil))) .nil))))))) .nil))))))
noncomputable def bd10:SL:=(.cons (.ite (.bin .and (.var 0) (.int 1)) (.cons (.ret (.bin .xor (.bin .shr (.var 0) (.int 1)) (.gint "POLYNOMIAL" 3988292384))) .nil) .nil) (.cons (.ret (.bin .shr (.var 0) (.int 1))) .nil))
noncomputable def bd11:SL:=(.cons (.asg 0 (.list (.cons (.gint "POLYNOMIAL" 3988292384) .nil))) (.cons (.loop (.one 1) (.rng1 (.int 3)) (.cons (.expr (.m1 .append (.var 0) (.call 10 (.cons (.idx (.var 0) (.neg (.int 1))) .nil)))) .nil)) (.cons (.asg 2 (.list (.cons (.int 0) .nil))) (.cons (.loop (.one 3) (.obj (.rev (.var 0))) (.cons (.asg 2 (.bin .add (.var 2) (.comp [3] 1 (.one 1) (.obj (.var 2)) .tru (.bin .xor (.var 1) (.var 0))))) .nil)) (.cons (.ret (.var 2)) .nil)))))
noncomputable def bd12:SL:=(.cons (.asg 1 (.call 11 .nil)) (.cons (.asg 2 (.gint "ALL_ONES" 4294967295)) (.cons (.loop (.one 3) (.obj (.var 0)) (.cons (.asg 2 (.bin .xor (.var 2) (.var 3))) (.cons (.asg 2 (.bin .xor (.bin .shr (.var 2) (.int 4)) (.idx (.var 1) (.bin .and (.var 2) (.int 15))))) (.cons (.asg 2 (.bin .xor (.bin .shr (.var 2) (.int 4)) (.idx (.var 1) (.bin .and (.var 2) (.int 15))))) .nil)))) (.cons (.ret (.bin .xor (.var 2) (.gint "ALL_ONES" 4294967295))) .nil))))
noncomputable def bd13:SL:=(.cons (.setA (.var 0) 4 (.var 1)) (.cons (.setA (.var 0) 5 (.var 2)) (.cons (.setA (.var 0) 6 (.var 3)) (.cons (.setA (.var 0) 7 (.var 4)) .nil))))
noncomputable def bd14:SL:=(.cons (.asg 1 (.call 12 (.cons (.var 0) .nil))) (.cons (.ret (.bi .bytes (.list (.cons (.bin .and (.var 1) (.int 255)) (.cons (.bin .and (.bin .shr (.var 1) (.int 8)) (.int 255)) (.cons (.bin .and (.bin .shr (.var 1) (.int 16)) (.int 255)) (.cons (.bin .shr (.var 1) (.int 24)) .nil))))))) .nil))
noncomputable def bd15:SL:=(.cons (.asg 2 (.attr (.var 0) 7)) (.cons (.ite (.cmp .lt (.bi .len (.var 2)) (.var 1)) (.cons (.asg 2 (.bin .add (.var 2) (.bi .bytes (.bin .sub (.var 1) (.bi .len (.var 2)))))) .nil) .nil) (.cons (.asg 3 (.bin .add (.bin .add (.bin .add (.call 2 (.cons (.attr (.var 0) 4) .nil)) (.call 2 (.cons (.attr (.var 0) 5) .nil))) (.call 0 (.cons (.attr (.var 0) 6) .nil))) (.var 2))) (.cons (.ret (.bin .add (.var 3) (.call 14 (.cons (.var 3) .nil)))) .nil))))
noncomputable def bd16:SL:=(.cons (.ite (.cmp .lt (.bi .len (.var 0)) (.bin .add (.gint "HEAD_SIZE" 14) (.gint "SUM_SIZE" 4))) (.cons .fail .nil) .nil) (.cons (.asg 1 (.slc (.var 0) .nil (.neg (.gint "SUM_SIZE" 4)))) (.cons (.ite (.cmp .ne (.call 14 (.cons (.var 1) .nil)) (.slc (.var 0) (.neg (.gint "SUM_SIZE" 4)) .nil)) (.cons .raise .nil) .nil) (.cons (.ret (.new 1 (.cons (.call 6 (.cons (.var 1) (.cons (.int 0) .nil))) (.cons (.call 6 (.cons (.var 1) (.cons (.int 6) .nil))) (.cons (.call 4 (.cons (.var 1) (.cons (.int 12) .nil))) (.cons (.slc (.var 1) (.gint "HEAD_SIZE" 14) .nil) .nil)))))) .nil))))
noncomputable def bd17:SL:=(.cons (.ite (.orv (.cmp .lt (.var 0) (.int 0)) (.cmp .gt (.var 0) (.gint "BITS" 32))) (.cons .fail .nil) .nil) (.cons (.ret (.bin .sub (.gint "ALL" 4294967295) (.bin .sub (.bin .pow (.int 2) (.bin .sub (.gint "BITS" 32) (.var 0))) (.int 1)))) .nil))
noncomputable def bd18:SL:=(.cons (.ret (.bin .and (.var 0) (.call 17 (.cons (.var 1) .nil)))) .nil)
noncomputable def bd19:SL:=(.cons (.ite (.cmp .eq (.var 0) (.gint "ALL" 4294967295)) (.cons (.ret .tru) .nil) .nil) (.cons (.ite (.cmp .ge (.var 2) (.bin .sub (.gint "BITS" 32) (.int 1))) (.cons (.ret .fls) .nil) .nil) (.cons (.ret (.cmp .eq (.var 0) (.bin .add (.call 18 (.cons (.var 1) (.cons (.var 2) .nil))) (.bin .sub (.gint "ALL" 4294967295) (.call 17 (.cons (.var 2) .nil)))))) .nil)))
noncomputable def bd20:SL:=(.cons (.setA (.var 0) 8 (.var 1)) (.cons (.setA (.var 0) 9 (.var 2)) (.cons (.setA (.var 0) 10 (.var 3)) (.cons (.setA (.var 0) 11 (.var 4)) (.cons (.setA (.var 0) 12 (.var 5)) (.cons (.setA (.var 0) 13 (.var 6)) (.cons (.setA (.var 0) 14 (.int 0)) .nil)))))))
noncomputable def bd21:SL:=(.cons (.ret (.call 15 (.cons (.new 1 (.cons (.var 1) (.cons (.attr (.var 0) 8) (.cons (.var 2) (.cons (.var 3) .nil))))) (.cons (.attr (.var 0) 13) .nil)))) .nil)
noncomputable def bd22:SL:=(.cons (.asg 3 (.comp [0] 2 (.many [1,2]) (.obj (.var 1)) .tru (.meth (.var 0) 43 (.cons (.var 1) (.cons (.gint "KIND_ARP" 2054) (.cons (.call 8 (.cons (.var 2) .nil)) .nil)))))) (.cons (.loop (.many [4,5]) (.obj (.var 2)) (.cons (.expr (.m1 .append (.var 3) (.meth (.var 0) 43 (.cons (.var 4) (.cons (.gint "KIND_IP" 2048) (.cons (.var 5) .nil)))))) .nil)) (.cons (.ret (.var 3)) .nil)))
noncomputable def bd23:SL:=(.cons (.ret (.andv (.cmp .ne (.var 0) (.int 0)) (.andv (.cmp .ne (.var 0) (.gint "BROADCAST" 281474976710655)) (.cmp .eq (.bin .mod (.bin .fdiv (.var 0) (.gint "GROUP_BIT" 1099511627776)) (.int 2)) (.int 0))))) .nil)
noncomputable def bd24:SL:=(.cons (.setA (.var 0) 8 (.var 1)) (.cons (.setA (.var 0) 9 (.var 2)) (.cons (.setA (.var 0) 15 (.var 3)) .nil)))
noncomputable def bd25:SL:=(.cons (.ret (.new 0 (.cons (.gint "ASKS" 1) (.cons (.attr (.var 0) 8) (.cons (.attr (.var 0) 9) (.cons (.int 0) (.cons (.var 1) .nil))))))) .nil)
noncomputable def bd26:SL:=(.cons (.ite (.orv (.notv (.call 23 (.cons (.attr (.var 1) 1) .nil))) (.cmp .eq (.attr (.var 1) 1) (.attr (.var 0) 8))) (.cons (.ret .fls) .nil) .nil) (.cons (.ret (.cmp .ne (.attr (.var 1) 2) (.attr (.var 0) 9))) .nil))
noncomputable def bd27:SL:=(.cons (.setA (.var 0) 9 (.var 1)) (.cons (.setA (.var 0) 16 (.var 2)) (.cons (.setA (.var 0) 8 .nil) (.cons (.setA (.var 0) 17 (.int 0)) (.cons (.setA (.var 0) 18 (.int 0)) (.cons (.setA (.var 0) 19 (.list .nil)) .nil))))))
noncomputable def bd28:SL:=(.cons (.ret (.cmp .is (.attr (.var 0) 8) .nil)) .nil)
noncomputable def bd29:SL:=(.cons (.setA (.var 0) 20 (.var 1)) (.cons (.setA (.var 0) 21 (.var 2)) (.cons (.setA (.var 0) 22 (.var 3)) (.cons (.setA (.var 0) 23 (.var 4)) (.cons (.setA (.var 0) 24 (.var 5)) (.cons (.setA (.var 0) 25 (.dict [] .nil)) (.cons (.setA (.var 0) 26 (.int 0)) .nil)))))))
noncomputable def bd30:SL:=(.cons (.ret (.andv (.notv (.meth (.var 1) 47 .nil)) (.cmp .lt (.bin .sub (.var 2) (.attr (.var 1) 17)) (.attr (.var 0) 21)))) .nil)
noncomputable def bd31:SL:=(.cons (.asg 3 (.m1 .get (.attr (.var 0) 25) (.var 1))) (.cons (.ite (.orv (.cmp .is (.var 3) .nil) (.notv (.meth (.var 0) 48 (.cons (.var 3) (.cons (.var 2) .nil))))) (.cons (.ret .nil) .nil) .nil) (.cons (.ret (.attr (.var 3) 8)) .nil)))
noncomputable def bd32:SL:=(.cons (.ite (.cmp .ge (.bi .len (.attr (.var 0) 25)) (.attr (.var 0) 20)) (.cons .fail .nil) .nil) (.cons (.asg 3 (.new 4 (.cons (.var 1) (.cons (.attr (.var 0) 26) .nil)))) (.cons (.setA (.var 3) 17 (.var 2)) (.cons (.setA (.var 0) 26 (.bin .add (.attr (.var 0) 26) (.int 1))) (.cons (.setI (.attr (.var 0) 25) (.var 1) (.var 3)) (.cons (.ret (.var 3)) .nil))))))
noncomputable def bd33:SL:=(.cons (.asg 5 (.m1 .get (.attr (.var 0) 25) (.var 1))) (.cons (.ite (.cmp .is (.var 5) .nil) (.cons (.ite (.var 4) (.cons (.ret (.list .nil)) .nil) .nil) (.cons (.asg 5 (.meth (.var 0) 50 (.cons (.var 1) (.cons (.var 3) .nil)))) .nil)) .nil) (.cons (.asg 6 (.attr (.var 5) 19)) (.cons (.setA (.var 5) 8 (.var 2)) (.cons (.setA (.var 5) 17 (.var 3)) (.cons (.setA (.var 5) 18 (.int 0)) (.cons (.setA (.var 5) 19 (.list .nil)) (.cons (.ret (.var 6)) .nil))))))))
noncomputable def bd34:SL:=(.cons (.asg 4 (.m1 .get (.attr (.var 0) 25) (.var 1))) (.cons (.ite (.andv (.cmp .isnot (.var 4) .nil) (.meth (.var 0) 48 (.cons (.var 4) (.cons (.var 3) .nil)))) (.cons .fail .nil) .nil) (.cons (.asg 5 (.orv (.cmp .is (.var 4) .nil) (.notv (.meth (.var 4) 47 .nil)))) (.cons (.ite (.cmp .is (.var 4) .nil) (.cons (.asg 4 (.meth (.var 0) 50 (.cons (.var 1) (.cons (.var 3) .nil)))) .nil) .nil) (.cons (.ite (.var 5) (.cons (.setA (.var 4) 8 .nil) (.cons (.setA (.var 4) 17 (.var 3)) (.cons (.setA (.var 4) 18 (.int 1)) .nil))) .nil) (.cons (.expr (.m1 .append (.attr (.var 4) 19) (.var 2))) (.cons (.ite (.cmp .gt (.bi .len (.attr (.var 4) 19)) (.attr (.var 0) 24)) (.cons (.setA (.var 4) 19 (.slc (.attr (.var 4) 19) (.int 1) .nil)) .nil) .nil) (.cons (.ret (.var 5)) .nil))))))))
noncomputable def bd35:SL:=(.cons (.asg 2 (.list .nil)) (.cons (.asg 3 (.list .nil)) (.cons (.loop (.one 4) (.obj (.bi .list (.attr (.var 0) 25))) (.cons (.asg 5 (.idx (.attr (.var 0) 25) (.var 4))) (.cons (.ite (.notv (.meth (.var 5) 47 .nil)) (.cons (.ite (.notv (.meth (.var 0) 48 (.cons (.var 5) (.cons (.var 1) .nil)))) (.cons (.expr (.m1 .pop (.attr (.var 0) 25) (.var 4))) .nil) .nil) .nil) (.cons (.ite (.cmp .ge (.bin .sub (.var 1) (.attr (.var 5) 17)) (.attr (.var 0) 22)) (.cons (.ite (.cmp .lt (.attr (.var 5) 18) (.attr (.var 0) 23)) (.cons (.setA (.var 5) 18 (.bin .add (.attr (.var 5) 18) (.int 1))) (.cons (.setA (.var 5) 17 (.var 1)) (.cons (.expr (.m1 .append (.var 2) (.var 4))) .nil))) (.cons (.asg 3 (.bin .add (.var 3) (.attr (.var 5) 19))) (.cons (.expr (.m1 .pop (.attr (.var 0) 25) (.var 4))) .nil))) .nil) .nil) .nil)) .nil))) (.cons (.ret (.tup (.cons (.var 2) (.cons (.var 3) .nil)))) .nil))))
noncomputable def bd36:SL:=(.cons (.ite (.notv (.meth (.var 0) 46 (.cons (.var 1) .nil))) (.cons (.ret (.tup (.cons (.list .nil) (.cons (.list .nil) .nil)))) .nil) .nil) (.cons (.asg 3 (.cmp .eq (.attr (.var 1) 4) (.attr (.var 0) 9))) (.cons (.asg 4 (.list .nil)) (.cons (.ite (.cmp .ne (.attr (.var 1) 2) (.int 0)) (.cons (.asg 4 (.meth (.attr (.var 0) 15) 51 (.cons (.attr (.var 1) 2) (.cons (.attr (.var 1) 1) (.cons (.var 2) (.cons (.notv (.var 3)) .nil)))))) .nil) .nil) (.cons (.asg 5 (.list .nil)) (.cons (.ite (.andv (.var 3) (.cmp .eq (.attr (.var 1) 0) (.gint "ASKS" 1))) (.cons (.asg 6 (.new 0 (.cons (.gint "ANSWERS" 2) (.cons (.attr (.var 0) 8) (.cons (.attr (.var 0) 9) (.cons (.attr (.var 1) 1) (.cons (.attr (.var 1) 2) .nil))))))) (.cons (.expr (.m1 .append (.var 5) (.tup (.cons (.attr (.var 1) 1) (.cons (.var 6) .nil))))) .nil)) .nil) (.cons (.ret (.tup (.cons (.var 5) (.cons (.comp [1] 1 (.one 1) (.obj (.var 4)) .tru (.tup (.cons (.attr (.var 0) 1) (.cons (.var 1) .nil)))) .nil)))) .nil)))))))
noncomputable def bd37:SL:=(.cons (.asg 4 (.meth (.attr (.var 0) 15) 49 (.cons (.var 1) (.cons (.var 3) .nil)))) (.cons (.ite (.cmp .isnot (.var 4) .nil) (.cons (.ret (.tup (.cons (.list .nil) (.cons (.list (.cons (.tup (.cons (.var 4) (.cons (.var 2) .nil))) .nil)) .nil)))) .nil) .nil) (.cons (.ite (.meth (.attr (.var 0) 15) 52 (.cons (.var 1) (.cons (.var 2) (.cons (.var 3) .nil)))) (.cons (.ret (.tup (.cons (.list (.cons (.tup (.cons (.gint "BROADCAST" 281474976710655) (.cons (.meth (.var 0) 45 (.cons (.var 1) .nil)) .nil))) .nil)) (.cons (.list .nil) .nil)))) .nil) .nil) (.cons (.ret (.tup (.cons (.list .nil) (.cons (.list .nil) .nil)))) .nil))))
noncomputable def bd38:SL:=(.cons (.asgT [2,3] (.meth (.attr (.var 0) 15) 53 (.cons (.var 1) .nil))) (.cons (.ret (.tup (.cons (.comp [0] 1 (.one 1) (.obj (.var 2)) .tru (.tup (.cons (.gint "BROADCAST" 281474976710655) (.cons (.meth (.var 0) 45 (.cons (.var 1) .nil)) .nil)))) (.cons (.var 3) .nil)))) .nil))
noncomputable def bd39:SL:=(.cons (.ite (.call 19 (.cons (.var 1) (.cons (.attr (.var 0) 9) (.cons (.attr (.var 0) 10) .nil)))) (.cons (.ret (.list (.cons (.meth (.var 0) 43 (.cons (.gint "BROADCAST" 281474976710655) (.cons (.gint "KIND_IP" 2048) (.cons (.var 2) .nil)))) .nil))) .nil) .nil) (.cons (.asgT [4,5] (.meth (.attr (.var 0) 12) 55 (.cons (.var 1) (.cons (.var 2) (.cons (.var 3) .nil))))) (.cons (.ret (.meth (.var 0) 44 (.cons (.var 4) (.cons (.var 5) .nil)))) .nil)))
noncomputable def bd40:SL:=(.cons (.tryw 3 16 (.cons (.var 1) .nil) (.cons (.ite (.andv (.cmp .ne (.attr (.var 3) 4) (.attr (.var 0) 8)) (.cmp .ne (.attr (.var 3) 4) (.gint "BROADCAST" 281474976710655))) (.cons (.ret (.tup (.cons (.list .nil) (.cons (.list .nil) .nil)))) .nil) .nil) (.cons (.ite (.cmp .eq (.attr (.var 3) 6) (.gint "KIND_IP" 2048)) (.cons (.ret (.tup (.cons (.list (.cons (.attr (.var 3) 7) .nil)) (.cons (.list .nil) .nil)))) .nil) .nil) (.cons (.ite (.cmp .ne (.attr (.var 3) 6) (.gint "KIND_ARP" 2054)) (.cons (.ret (.tup (.cons (.list .nil) (.cons (.list .nil) .nil)))) .nil) .nil) (.cons (.asgT [4,5] (.meth (.attr (.var 0) 12) 54 (.cons (.call 9 (.cons (.attr (.var 3) 7) .nil)) (.cons (.var 2) .nil)))) .nil)))) 0 14) (.cons (.ret (.tup (.cons (.list .nil) (.cons (.meth (.var 0) 44 (.cons (.var 4) (.cons (.var 5) .nil))) .nil)))) .nil))
noncomputable def bd41:SL:=(.cons (.asgT [2,3] (.meth (.attr (.var 0) 12) 56 (.cons (.var 1) .nil))) (.cons (.ret (.tup (.cons (.meth (.var 0) 44 (.cons (.var 2) (.cons (.list .nil) .nil))) (.cons (.var 3) .nil)))) .nil))
noncomputable def bd42:SL:=(.cons (.setA (.var 0) 27 (.var 1)) (.cons (.setA (.var 0) 28 (.var 2)) (.cons (.setA (.var 0) 29 (.var 3)) (.cons (.setA (.var 0) 30 (.var 4)) .nil))))
noncomputable def bd43:SL:=(.cons (.setA (.var 0) 31 (.bi .list (.var 1))) (.cons (.setA (.var 0) 32 (.int 0)) .nil))
noncomputable def bd44:SL:=(.cons (.ite (.cmp .eq (.attr (.var 0) 31) (.list .nil)) (.cons (.ret (.int 0)) .nil) .nil) (.cons (.asg 1 (.idx (.attr (.var 0) 31) (.attr (.var 0) 32))) (.cons (.setA (.var 0) 32 (.bin .mod (.bin .add (.attr (.var 0) 32) (.int 1)) (.bi .len (.attr (.var 0) 31)))) (.cons (.ret (.var 1)) .nil))))
noncomputable def bd45:SL:=(.cons (.setA (.var 0) 33 (.new 7 (.cons (.var 1) .nil))) (.cons (.setA (.var 0) 34 (.var 2)) (.cons (.setA (.var 0) 35 (.var 3)) (.cons (.setA (.var 0) 36 (.var 4)) (.cons (.setA (.var 0) 37 (.list (.cons (.int 0) (.cons (.int 0) .nil)))) (.cons (.setA (.var 0) 38 (.int 0)) (.cons (.setA (.var 0) 39 (.int 0)) (.cons (.setA (.var 0) 40 (.int 0)) (.cons (.setA (.var 0) 41 (.int 0)) (.cons (.setA (.var 0) 42 (.list .nil)) .nil))))))))))
noncomputable def bd46:SL:=(.cons (.asg 2 (.bin .fdiv (.var 1) (.int 8))) (.cons (.ret (.bin .add (.bin .add (.slc (.var 0) .nil (.var 2)) (.bi .bytes (.list (.cons (.bin .xor (.idx (.var 0) (.var 2)) (.bin .shl (.int 1) (.bin .mod (.var 1) (.int 8)))) .nil)))) (.slc (.var 0) (.bin .add (.var 2) (.int 1)) .nil))) .nil))
noncomputable def bd47:SL:=(.cons (.augA (.var 0) 38 .add (.int 1)) (.cons (.asg 4 (.bi .len (.attr (.var 0) 42))) (.cons (.while (.andv (.cmp .gt (.var 4) (.int 0)) (.cmp .gt (.attr (.idx (.attr (.var 0) 42) (.bin .sub (.var 4) (.int 1))) 27) (.var 1))) (.cons (.augV 4 .sub (.int 1)) .nil)) (.cons (.expr (.m2 .insert (.attr (.var 0) 42) (.var 4) (.new 6 (.cons (.var 1) (.cons (.attr (.var 0) 38) (.cons (.var 2) (.cons (.var 3) .nil))))))) .nil))))
noncomputable def bd48:SL:=(.cons (.ite (.cmp .eq (.var 1) (.gint "LOST" 4)) (.cons (.augA (.var 0) 39 .add (.int 1)) (.cons .retn .nil)) .nil) (.cons (.ite (.cmp .eq (.var 1) (.gint "LATE" 6)) (.cons (.augV 5 .add (.bin .add (.int 1) (.bin .mod (.var 2) (.attr (.var 0) 35)))) .nil) .nil) (.cons (.ite (.andv (.cmp .eq (.var 1) (.gint "SPOILT" 7)) (.cmp .gt (.bi .len (.var 4)) (.int 0))) (.cons (.augA (.var 0) 40 .add (.int 1)) (.cons (.asg 4 (.call 46 (.cons (.var 4) (.cons (.bin .mod (.var 2) (.bin .mul (.int 8) (.bi .len (.var 4)))) .nil)))) .nil)) .nil) (.cons (.expr (.meth (.var 0) 61 (.cons (.var 5) (.cons (.var 3) (.cons (.var 4) .nil))))) (.cons (.ite (.cmp .eq (.var 1) (.gint "DOUBLED" 5)) (.cons (.augA (.var 0) 41 .add (.int 1)) (.cons (.expr (.meth (.var 0) 61 (.cons (.bin .add (.bin .add (.var 5) (.int 1)) (.bin .mod (.var 2) (.attr (.var 0) 35))) (.cons (.var 3) (.cons (.var 4) .nil))))) .nil)) .nil) .nil)))))
noncomputable def bd49:SL:=(.cons (.ite (.cmp .notin (.var 1) (.tup (.cons (.int 0) (.cons (.int 1) .nil)))) (.cons .fail .nil) .nil) (.cons (.asg 4 (.meth (.attr (.var 0) 33) 60 .nil)) (.cons (.asg 5 (.bin .mod (.var 4) (.int 8))) (.cons (.asg 6 (.bin .fdiv (.var 4) (.int 8))) (.cons (.ite (.cmp .isin (.var 5) (.tup (.cons (.gint "LOST" 4) (.cons (.gint "SPOILT" 7) .nil)))) (.cons (.augI (.attr (.var 0) 37) (.var 1) .add (.int 1)) (.cons (.ite (.cmp .gt (.idx (.attr (.var 0) 37) (.var 1)) (.attr (.var 0) 36)) (.cons (.asg 5 (.int 0)) .nil) .nil) .nil)) .nil) (.cons (.ite (.cmp .notin (.var 5) (.tup (.cons (.gint "LOST" 4) (.cons (.gint "SPOILT" 7) .nil)))) (.cons (.setI (.attr (.var 0) 37) (.var 1) (.int 0)) .nil) .nil) (.cons (.expr (.meth (.var 0) 62 (.cons (.var 5) (.cons (.var 6) (.cons (.bin .sub (.int 1) (.var 1)) (.cons (.var 2) (.cons (.bin .add (.var 3) (.attr (.var 0) 34)) .nil))))))) .nil)))))))
noncomputable def bd50:SL:=(.cons (.asg 2 (.list .nil)) (.cons (.while (.andv (.cmp .gt (.bi .len (.attr (.var 0) 42)) (.int 0)) (.cmp .le (.attr (.idx (.attr (.var 0) 42) (.int 0)) 27) (.var 1))) (.cons (.asg 3 (.m1 .pop (.attr (.var 0) 42) (.int 0))) (.cons (.expr (.m1 .append (.var 2) (.tup (.cons (.attr (.var 3) 29) (.cons (.attr (.var 3) 30) .nil))))) .nil))) (.cons (.ret (.var 2)) .nil)))
noncomputable def bd51:SL:=(.cons (.asg 2 (.int 0)) (.cons (.ite (.cmp .lt (.var 1) (.bi .len (.var 0))) (.cons (.asg 2 (.idx (.var 0) (.var 1))) .nil) .nil) (.cons (.asg 3 (.max2 (.bi .int (.var 2)) (.bi .int (.bin .sub (.neg (.int 1)) (.var 2))))) (.cons (.asg 4 (.bin .mod (.bi .int (.bin .mul (.bin .add (.bin .add (.bin .add (.bin .mod (.bi .int (.var 3)) (.int 2147483629)) (.bin .mul (.bin .mul (.int 7919) (.var 1)) (.var 1))) (.bin .mul (.int 31) (.var 1))) (.int 17)) (.int 48271))) (.int 2147483647))) (.cons (.ret (.list (.cons (.bin .mul (.var 3) (.bi .int (.cmp .ge (.var 3) (.bin .pow (.int 10) (.int 18))))) (.cons (.var 4) .nil)))) .nil)))))
noncomputable def bd52:SL:=(.cons (.ite (.cmp .gt (.idx (.var 0) (.int 0)) (.int 0)) (.cons (.asg 2 (.bin .mod (.bi .int (.idx (.var 0) (.int 0))) (.var 1))) (.cons (.setI (.var 0) (.int 0) (.bin .fdiv (.idx (.var 0) (.int 0)) (.var 1))) (.cons (.ret (.var 2)) .nil))) .nil) (.cons (.setI (.var 0) (.int 1) (.bin .mod (.bi .int (.bin .add (.bin .mul (.idx (.var 0) (.int 1)) (.int 39373)) (.int 7))) (.int 2147483647))) (.cons (.ret (.bin .mod (.bi .int (.bin .fdiv (.bin .mod (.bi .int (.bin .mul (.idx (.var 0) (.int 1)) (.idx (.var 0) (.int 1)))) (.int 2147483629)) (.int 32))) (.var 1))) .nil)))
noncomputable def bd53:SL:=(.cons (.ret (.idx (.var 1) (.call 52 (.cons (.var 0) (.cons (.bi .len (.var 1)) .nil))))) .nil)
noncomputable def bd54:SL:=(.cons (.asg 1 (.int 0)) (.cons (.loop (.one 2) (.obj (.var 0)) (.cons (.asg 1 (.bin .add (.bin .mul (.var 1) (.int 256)) (.var 2))) .nil)) (.cons (.ret (.var 1)) .nil)))
noncomputable def bd55:SL:=(.cons (.asg 1 (.call 53 (.cons (.var 0) (.cons (.list (.cons (.int 0) (.cons (.int 0) (.cons (.int 3) .nil)))) .nil)))) (.cons (.asg 2 (.list .nil)) (.cons (.loop (.many [3,4]) (.obj (.list (.cons (.tup (.cons (.int 50) (.cons (.int 257) .nil))) (.cons (.tup (.cons (.int 60) (.cons (.int 258) .nil))) .nil)))) (.cons (.expr (.m1 .append (.var 2) (.new 2 (.cons (.var 3) (.cons (.var 4) (.cons (.int 24) (.cons (.int 1500) (.cons (.new 3 (.cons (.var 3) (.cons (.var 4) (.cons (.new 5 (.cons (.int 3) (.cons (.int 90) (.cons (.int 2) (.cons (.int 5) (.cons (.int 3) .nil)))))) .nil)))) (.cons (.var 1) .nil))))))))) .nil)) (.cons (.ret (.var 2)) .nil))))
noncomputable def bd56:SL:=(.cons (.asg 1 (.list .nil)) (.cons (.loop (.one 2) (.rng1 (.bin .add (.int 1) (.call 52 (.cons (.var 0) (.cons (.int 2) .nil))))) (.cons (.asg 3 (.call 52 (.cons (.var 0) (.cons (.int 2) .nil)))) (.cons (.asg 4 (.call 53 (.cons (.var 0) (.cons (.list (.cons (.bin .sub (.int 258) (.var 3)) (.cons (.bin .sub (.int 258) (.var 3)) (.cons (.bin .sub (.int 258) (.var 3)) (.cons (.bin .sub (.int 258) (.var 3)) (.cons (.int 511) (.cons (.int 300) .nil))))))) .nil)))) (.cons (.expr (.m1 .append (.var 1) (.tup (.cons (.var 3) (.cons (.var 4) (.cons (.bi .bytes (.bin .mul (.list (.cons (.bin .add (.int 100) (.var 2)) .nil)) (.bin .add (.int 1) (.call 52 (.cons (.var 0) (.cons (.int 3) .nil)))))) .nil)))))) .nil)))) (.cons (.ret (.var 1)) .nil)))
noncomputable def bd57:SL:=(.cons (.ret (.tup (.cons (.call 54 (.cons (.slc (.var 0) .nil (.int 6)) .nil)) (.cons (.call 54 (.cons (.slc (.var 0) (.int 6) (.int 12)) .nil)) (.cons (.call 54 (.cons (.slc (.var 0) (.int 12) (.int 14)) .nil)) (.cons (.slc (.var 0) (.int 14) (.neg (.int 4))) .nil)))))) .nil)
noncomputable def bd58:SL:=(.cons (.ret (.andv (.cmp .eq (.slc (.var 0) .nil (.bi .len (.var 1))) (.var 1)) (.cmp .eq (.slc (.var 0) (.bi .len (.var 1)) .nil) (.bi .bytes (.bin .sub (.bi .len (.var 0)) (.bi .len (.var 1))))))) .nil)
noncomputable def bd59:SL:=(.cons (.loop (.one 4) (.obj (.var 2)) (.cons (.ite (.cmp .ne (.idx (.call 57 (.cons (.var 4) .nil)) (.int 1)) (.attr (.idx (.idx (.var 0) (.str "faces")) (.var 1)) 8)) (.cons (.ret .fls) .nil) .nil) (.cons (.expr (.m1 .append (.idx (.idx (.var 0) (.str "sent")) (.var 1)) (.var 4))) (.cons (.expr (.meth (.idx (.var 0) (.str "line")) 63 (.cons (.var 1) (.cons (.var 4) (.cons (.var 3) .nil))))) .nil)))) (.cons (.ret .tru) .nil))
noncomputable def bd60:SL:=(.cons (.asg 4 (.idx (.idx (.var 0) (.str "faces")) (.var 1))) (.cons (.asg 5 (.attr (.var 4) 14)) (.cons (.asgT [7,8] (.meth (.var 4) 58 (.cons (.var 2) (.cons (.var 3) .nil)))) (.cons (.ite (.cmp .notin (.var 2) (.idx (.idx (.var 0) (.str "sent")) (.bin .sub (.int 1) (.var 1)))) (.cons (.ret (.andv (.cmp .eq (.var 7) (.list .nil)) (.andv (.cmp .eq (.var 8) (.list .nil)) (.cmp .eq (.attr (.var 4) 14) (.bin .add (.var 5) (.int 1)))))) .nil) .nil) (.cons (.asgT [9,10,11,12] (.call 57 (.cons (.var 2) .nil))) (.cons (.asg 6 (.andv (.cmp .eq (.var 11) (.int 2048)) (.cmp .isin (.var 9) (.list (.cons (.attr (.var 4) 8) (.cons (.bin .sub (.bin .pow (.int 2) (.int 48)) (.int 1)) .nil)))))) (.cons (.ite (.orv (.cmp .ne (.var 7) (.ite (.var 6) (.list (.cons (.var 12) .nil)) (.list .nil))) (.cmp .ne (.attr (.var 4) 14) (.var 5))) (.cons (.ret .fls) .nil) .nil) (.cons (.ite (.andv (.cmp .eq (.var 11) (.int 2048)) (.cmp .ne (.var 8) (.list .nil))) (.cons (.ret .fls) .nil) .nil) (.cons (.ite (.andv (.cmp .eq (.var 11) (.int 2054)) (.cmp .is (.idx (.idx (.var 0) (.str "heard")) (.var 1)) .nil)) (.cons (.setI (.idx (.var 0) (.str "heard")) (.var 1) (.var 3)) .nil) .nil) (.cons (.ret (.call 59 (.cons (.var 0) (.cons (.var 1) (.cons (.var 8) (.cons (.var 3) .nil)))))) .nil))))))))))
noncomputable def bd61:SL:=(.cons (.loop (.many [2,3]) (.obj (.meth (.idx (.var 0) (.str "line")) 64 (.cons (.var 1) .nil))) (.cons (.ite (.notv (.call 60 (.cons (.var 0) (.cons (.var 2) (.cons (.var 3) (.cons (.var 1) .nil)))))) (.cons (.ret .fls) .nil) .nil) .nil)) (.cons (.loop (.one 2) (.rng1 (.int 2)) (.cons (.asgT [4,5] (.meth (.idx (.idx (.var 0) (.str "faces")) (.var 2)) 59 (.cons (.var 1) .nil))) (.cons (.setI (.idx (.var 0) (.str "lost")) (.var 2) (.bin .add (.idx (.idx (.var 0) (.str "lost")) (.var 2)) (.var 5))) (.cons (.ite (.notv (.call 59 (.cons (.var 0) (.cons (.var 2) (.cons (.var 4) (.cons (.var 1) .nil)))))) (.cons (.ret .fls) .nil) .nil) .nil)))) (.cons (.ret .tru) .nil)))
noncomputable def bd62:SL:=(.cons (.asg 3 (.list .nil)) (.cons (.loop (.one 4) (.rng1 (.bi .len (.var 0))) (.cons (.asgT [5,6,7,8] (.call 57 (.cons (.idx (.var 0) (.var 4)) .nil))) (.cons (.ite (.andv (.cmp .eq (.var 7) (.int 2048)) (.call 58 (.cons (.var 8) (.cons (.var 1) .nil)))) (.cons (.ite (.cmp .ne (.var 5) (.var 2)) (.cons (.ret .nil) .nil) .nil) (.cons (.expr (.m1 .append (.var 3) (.var 4))) .nil)) .nil) .nil))) (.cons (.ret (.var 3)) .nil)))
noncomputable def bd63:SL:=(.cons (.asg 2 (.dict [] .nil)) (.cons (.loop (.many [3,4,5]) (.obj (.var 1)) (.cons (.asg 6 (.m1 .get (.dict [.int 511,.int 257,.int 258] (.cons (.bin .sub (.bin .pow (.int 2) (.int 48)) (.int 1)) (.cons (.int 50) (.cons (.int 60) .nil)))) (.var 4))) (.cons (.asg 7 (.call 62 (.cons (.idx (.idx (.var 0) (.str "sent")) (.var 3)) (.cons (.var 5) (.cons (.var 6) .nil))))) (.cons (.asg 8 (.bi .len (.comp [5] 1 (.one 1) (.obj (.idx (.idx (.var 0) (.str "lost")) (.var 3))) (.cmp .eq (.var 1) (.var 0)) (.var 1)))) (.cons (.asg 9 (.idx (.idx (.var 0) (.str "heard")) (.var 3))) (.cons (.ite (.orv (.cmp .eq (.var 4) (.int 300)) (.andv (.cmp .ne (.var 4) (.int 511)) (.orv (.cmp .is (.var 9) .nil) (.cmp .gt (.var 9) (.int 10))))) (.cons (.ite (.orv (.cmp .ne (.var 7) (.list .nil)) (.cmp .ne (.var 8) (.int 1))) (.cons (.ret .fls) .nil) .nil) .nil) (.cons (.ite (.orv (.cmp .is (.var 7) .nil) (.orv (.cmp .ne (.bi .len (.var 7)) (.int 1)) (.cmp .ne (.var 8) (.int 0)))) (.cons (.ret .fls) .nil) (.cons (.ite (.cmp .ge (.pget (.var 2) (.var 3) (.var 4) (.neg (.int 1))) (.idx (.var 7) (.int 0))) (.cons (.ret .fls) .nil) .nil) (.cons (.pset (.var 2) (.var 3) (.var 4) (.idx (.var 7) (.int 0))) .nil))) .nil)) .nil)))))) (.cons (.ret .tru) .nil)))
noncomputable def bd64:SL:=(.cons (.asg 1 (.call 51 (.cons (.var 0) (.cons (.int 0) .nil)))) (.cons (.asg 2 (.comp [1] 1 (.one 1) (.rng1 (.bin .add (.int 1) (.call 52 (.cons (.var 1) (.cons (.int 4) .nil))))) .tru (.call 52 (.cons (.var 0) (.cons (.int 64) .nil))))) (.cons (.asg 3 (.newk 8 (.cons (.var 2) (.cons (.int 1) (.cons (.int 2) .nil))) "most_bad" (.int 1))) (.cons (.asg 4 (.dict [.str "faces",.str "line",.str "sent",.str "lost"] (.cons (.call 55 (.cons (.var 1) .nil)) (.cons (.var 3) (.cons (.list (.cons (.list .nil) (.cons (.list .nil) .nil))) (.cons (.list (.cons (.list .nil) (.cons (.list .nil) .nil))) .nil)))))) (.cons (.setI (.var 4) (.str "heard") (.list (.cons .nil (.cons .nil .nil)))) (.cons (.asg 5 (.call 56 (.cons (.var 1) .nil))) (.cons (.loop (.many [7,8,9]) (.obj (.var 5)) (.cons (.ite (.notv (.call 59 (.cons (.var 4) (.cons (.var 7) (.cons (.meth (.idx (.idx (.var 4) (.str "faces")) (.var 7)) 57 (.cons (.var 8) (.cons (.var 9) (.cons (.int 0) .nil)))) (.cons (.int 0) .nil)))))) (.cons (.ret .fls) .nil) .nil) .nil)) (.cons (.loop (.one 6) (.rng2 (.int 1) (.int 12)) (.cons (.ite (.notv (.call 61 (.cons (.var 4) (.cons (.var 6) .nil)))) (.cons (.ret .fls) .nil) .nil) .nil)) (.cons (.ret (.call 63 (.cons (.var 4) (.cons (.var 5) .nil)))) .nil)))))))))
noncomputable def tabsP (rs:Nat->List V->St->Prop):Tabs where
 mt:=λc m=>(mtL.find? λt=>t.1 == c&&t.2.1 == m).map (λø=>ø.2.2)
 ini:=λc=>iniL.getD c 0
 fld:=λc f=>fldL.any λp=>p.1 == c&&p.2 == f
 mr:=λm=>mtL.foldl (λa t=>if t.2.1 == m then max a (t.2.2+1) else a) 0
 kw:=λg w=>g == 45&&w == (Str.ofString "most_bad")
 rs:=rs
noncomputable def nmP (rs:Nat->List V->St->Prop):Nm where
 fa:=λg=>faL.getD g 0
 ca:=λc=>caL.getD c 0
 fn:=λf=>Str.ofString (fnL.getD f "")
 xc:=51
 xn:=Str.ofString "FormError"
 TB:=tabsP rs
noncomputable def bodies:List (Nat×List String×SL):=[(1,["n"],bd0),(1,["n"],bd1),(1,["n"],bd2),(3,["octets","at","size"],bd3),(2,["octets","at"],bd4),(2,["octets","at"],bd5),(2,["octets","at"],bd6),(6,["self","op","sender_link","sender","target_link","target"],bd7),(1,["packet","head"],bd8),(1,["octets","op"],bd9),(1,["word"],bd10),(0,["single","turn","found","base"],bd11),(1,["octets","table","word","octet"],bd12),(5,["self","target","source","kind","payload"],bd13),(1,["octets","word"],bd14),(2,["frame","least","payload","octets"],bd15),(1,["octets","body"],bd16),(1,["prefix"],bd17),(2,["address","prefix"],bd18),(3,["address","net","prefix"],bd19),(7,["self","link","address","prefix","mtu","arp","least"],bd20),(4,["self","target","kind","payload"],bd21),(3,["self","requests","payloads","found","target","octets"],bd22),(1,["link"],bd23),(4,["self","link","address","table"],bd24),(2,["self","address"],bd25),(2,["self","packet"],bd26),(3,["self","address","order"],bd27),(1,["self"],bd28),(6,["self","size","age_limit","retry_after","most_tries","queue_limit"],bd29),(3,["self","entry","now"],bd30),(3,["self","address","now","entry"],bd31),(3,["self","address","now","entry"],bd32),(5,["self","address","link","now","only_known","entry","waiting"],bd33),(4,["self","address","payload","now","entry","is_new"],bd34),(2,["self","now","again","given_up","address","entry"],bd35),(3,["self","packet","now","is_for_me","waiting","replies","answer"],bd36),(4,["self","address","payload","now","link"],bd37),(2,["self","now","again","given_up"],bd38),(4,["self","address","octets","now","requests","payloads"],bd39),(3,["self","octets","now","frame","requests","payloads"],bd40),(2,["self","now","requests","given_up"],bd41),(5,["self","time","number","end","octets"],bd42),(2,["self","numbers"],bd43),(1,["self","number"],bd44),(5,["self","fates","delay","spread","most_bad"],bd45),(2,["octets","bit","place"],bd46),(4,["self","time","end","octets","place"],bd47),(6,["self","fate","rest","end","octets","time"],bd48),(4,["self","end","octets","now","number","fate","rest"],bd49),(2,["self","now","found","transit"],bd50),(2,["script","k","cell","big","mixed"],bd51),(2,["source","top","drawn"],bd52),(2,["source","things"],bd53),(1,["octets","found","octet"],bd54),(1,["source","least","found","link","address"],bd55),(1,["source","found","turn","end","address"],bd56),(1,["octets"],bd57),(2,["payload","packet"],bd58),(4,["scene","end","frames","now","octets"],bd59),(4,["scene","end","octets","now","face","wrong","is_told","packets","frames","target","sender","kind","payload"],bd60),(2,["scene","now","end","octets","frames","lost"],bd61),(3,["frames","packet","target","found","at","told","sender","kind","payload"],bd62),(2,["scene","rows","behind","end","address","packet","target","places","gone","heard"],bd63),(1,["script","source","fates","line","scene","rows","now","end","address","packet"],bd64)]
end
section
noncomputable def fnD (K:Frag) (a:Addr):FnData:=match K.lookup a with
 | some ⟨oc,od,.func fd,osl⟩=>⟨fd.name,fd.qualname,fd.params,(match fd.body with | .stmts b=>b | _=>[]),fd.scope,fd.defaults,fd.kwdefaults,fd.doc,fd.pyModule,fd.code,fd.closureTuple,oc,fd.annotations,od,osl⟩
 | _=>⟨default,default,⟨[],[],none,[],[],none,[]⟩,[],default,.none,.none,.none,.none,.none,.none,.none,none,none,#[]⟩
noncomputable def plainFn:FuncData->Bool
 | ⟨_,_,_,.stmts _,_,g,[],_,_,_,_,_,_,_,b⟩=>g == mainGlobals&&b == builtinsNs
 | _=>false
noncomputable def isFnObj (K:Frag) (a:Addr):Bool:=match K.lookup a with
 | some ⟨_,_,.func fd,_⟩=>plainFn fd
 | _=>false
noncomputable def fnChk (K:Frag) (N:Nm) (g ar:Nat) (vt:List Str) (bd:SL):Bool:=
 isFnObj K (N.fa g)&&codeIn K (fnD K (N.fa g)).cdv (fnD K (N.fa g)).qual&&!(fnD K (N.fa g)).scope.isCoroutine&&!(fnD K (N.fa g)).scope.isGenerator&&(match (fnD K (N.fa g)).scope.kind with | .function=>true | _=>false)&&nodupB vt &&
 ((vt.take ar).all λx=>(fnD K (N.fa g)).scope.names.lookup x == some .local || (fnD K (N.fa g)).scope.names.lookup x == some .cell)&&decide (ar<=vt.length)&&chkSL K N g ⟨vt,(fnD K (N.fa g)).scope.names,true⟩ bd (fnD K (N.fa g)).body
theorem plainFn_eq {fd:FuncData} (h:plainFn fd=true):fd=fnOf fd.name fd.qualname fd.params (match fd.body with | .stmts b=>b | _=>[]) fd.scope fd.defaults fd.kwdefaults fd.doc fd.pyModule fd.annotations fd.code fd.closureTuple:=by
 obtain ⟨a,b,c,bd,e,g,cl,h1,i,j,k,l,m,n,o⟩:=fd
 cases bd with
 | expr _=>cases h
 | stmts bd=>
   cases cl with
   | cons=>cases h
   | nil=>
     have h:(g == mainGlobals&&o == builtinsNs)=true:=h
     rw [Bool.and_eq_true,beq_iff_eq,beq_iff_eq] at h
     obtain ⟨rfl,rfl⟩:=h
     rfl
set_option tactic.hygienic true in
theorem fnChk_ok {W:Wd}{g ar:Nat}{vt:List Str}{bd:SL} (h:fnChk W.K W.N g ar vt bd=true):FnOk W (fnD W.K (W.N.fa g)) g ar vt bd:=by
 unfold fnChk at h
 simp only [Bool.and_eq_true,Bool.not_eq_true',decide_eq_true_eq] at h
 obtain ⟨⟨⟨⟨⟨⟨⟨⟨h1,h2⟩,h3⟩,h4⟩,h5⟩,h6⟩,h7⟩,h8⟩,h9⟩:=h
 refine ⟨?_,h2,h3,h4,?_,h6,h7,h8,h9⟩
 ·unfold isFnObj at h1
  cases ho:W.K.lookup (W.N.fa g) with
  | none=>rw [ho] at h1;cases h1
  | some o=>
    rw [ho] at h1
    obtain ⟨oc,od,dt,osl⟩:=o
    cases dt <;> try cases h1
    rename_i fd
    have e:=plainFn_eq h1
    have d:fnD W.K (W.N.fa g)=⟨fd.name,fd.qualname,fd.params,(match fd.body with | .stmts b=>b | _=>[]),fd.scope,fd.defaults,fd.kwdefaults,fd.doc,fd.pyModule,fd.code,fd.closureTuple,oc,fd.annotations,od,osl⟩:=by
     unfold fnD;rw [ho]
    rw [d]
    dsimp only [FnData.fd]
    rw [<- e]
 ·revert h5
  cases (fnD W.K (W.N.fa g)).scope.kind <;> intro h5 <;> first | rfl | cases h5
end
section
section
variable {TB:Tabs}{Φ:Phi}{lo:Lo}{σ:St}
theorem kAttr_of {f r c:Nat}{fs:List (Nat×V)}{v:V}{k:KV} (h:σ.I r=some (c,fs)) (h2:fs.lookup f=some v) (q:k v σ):kAttr f k (.ref r) σ:=gS_of h (gS_of h2 q)
theorem e_var {i:Nat}{v:V}{k:KV} (h:lo[i]?=some (some v)) (q:k v σ):wpE TB Φ (.var i) lo σ k:=gS_of h (gS_of rfl q)
noncomputable def kAnd (TB:Tabs) (Φ:Phi) (b:E) (lo:Lo) (k:KV) (x:V) (σ:St):Prop:=gS (λr=>gC r (wpE TB Φ b lo σ k) (k x σ)) (truth x)
theorem kAnd_t {b:E}{x:V}{k:KV} (h:truth x=some true) (q:wpE TB Φ b lo σ k):kAnd TB Φ b lo k x σ:=gS_of h q
theorem kAnd_f {b:E}{x:V}{k:KV} (h:truth x=some false) (q:k x σ):kAnd TB Φ b lo k x σ:=gS_of h q
noncomputable def kOr (TB:Tabs) (Φ:Phi) (b:E) (lo:Lo) (k:KV) (x:V) (σ:St):Prop:=gS (λr=>gC r (k x σ) (wpE TB Φ b lo σ k)) (truth x)
theorem kOr_t {b:E}{x:V}{k:KV} (h:truth x=some true) (q:k x σ):kOr TB Φ b lo k x σ:=gS_of h q
theorem kOr_f {b:E}{x:V}{k:KV} (h:truth x=some false) (q:wpE TB Φ b lo σ k):kOr TB Φ b lo k x σ:=gS_of h q
noncomputable def kIte (TB:Tabs) (Φ:Phi) (a b:E) (lo:Lo) (k:KV) (r:Bool) (σ:St):Prop:=gC r (wpE TB Φ a lo σ k) (wpE TB Φ b lo σ k)
theorem kIte_t {a b:E}{r:Bool}{k:KV} (h:r=true) (q:wpE TB Φ a lo σ k):kIte TB Φ a b lo k r σ:=by rw [h];exact q
theorem kIte_f {a b:E}{r:Bool}{k:KV} (h:r=false) (q:wpE TB Φ b lo σ k):kIte TB Φ a b lo k r σ:=by rw [h];exact q
noncomputable def kMeth (TB:Tabs) (Φ:Phi) (m:Nat) (as:EL) (lo:Lo) (k:KV):KV:=kMethG TB.mt m λf r σ=>wpEL TB Φ as lo σ λvs σ=>Φ f (.ref r::vs) σ k
theorem kMeth_of {r m c f:Nat}{fs:List (Nat×V)}{as:EL}{k:KV} (h:σ.I r=some (c,fs)) (h1:TB.mt c m=some f) (h2:fs.lookup m=none) (q:wpEL TB Φ as lo σ λvs σ=>Φ f (.ref r::vs) σ k):kMeth TB Φ m as lo k (.ref r) σ:=gS_of h (gS_of h1 ⟨h2,q⟩)
noncomputable def kM1 (TB:Tabs) (Φ:Phi) (m:M1) (x:E) (lo:Lo) (k:KV) (u:V) (σ:St):Prop:=gS (λb=>m.ok b=true/\wpE TB Φ x lo σ λv σ=>meth1 b m u v σ k) (kd u σ)
theorem kd_L {a:Nat}{xs:List V} (h:σ.L a=some xs):kd (.ref a) σ=some true:=by unfold kd;simp only [h];rfl
theorem kd_D {a:Nat}{d:List (V×V)} (h:σ.D a=some d) (h0:σ.L a=none):kd (.ref a) σ=some false:=by unfold kd;simp [h,h0]
theorem kM1_L {m:M1}{x:E}{a:Nat}{xs:List V}{k:KV} (h:σ.L a=some xs) (ho:m.ok true=true) (q:wpE TB Φ x lo σ λv σ=>meth1 true m (.ref a) v σ k):kM1 TB Φ m x lo k (.ref a) σ:=gS_of (kd_L h) ⟨ho,q⟩
theorem kM1_D {m:M1}{x:E}{a:Nat}{d:List (V×V)}{k:KV} (h:σ.D a=some d) (h0:σ.L a=none) (ho:m.ok false=true) (q:wpE TB Φ x lo σ λv σ=>meth1 false m (.ref a) v σ k):kM1 TB Φ m x lo k (.ref a) σ:=gS_of (kd_D h h0) ⟨ho,q⟩
noncomputable def kM2 (TB:Tabs) (Φ:Phi) (m:M2) (x y:E) (lo:Lo) (k:KV) (u:V) (σ:St):Prop:=gS (λb=>m.ok b=true/\wpE TB Φ x lo σ λv σ=>wpE TB Φ y lo σ λw σ=>meth2 b m u v w σ k) (kd u σ)
theorem kM2_L {m:M2}{x y:E}{a:Nat}{xs:List V}{k:KV} (h:σ.L a=some xs) (ho:m.ok true=true) (q:wpE TB Φ x lo σ λv σ=>wpE TB Φ y lo σ λw σ=>meth2 true m (.ref a) v w σ k):kM2 TB Φ m x y lo k (.ref a) σ:=gS_of (kd_L h) ⟨ho,q⟩
theorem kM2_D {m:M2}{x y:E}{a:Nat}{d:List (V×V)}{k:KV} (h:σ.D a=some d) (h0:σ.L a=none) (ho:m.ok false=true) (q:wpE TB Φ x lo σ λv σ=>wpE TB Φ y lo σ λw σ=>meth2 false m (.ref a) v w σ k):kM2 TB Φ m x y lo k (.ref a) σ:=gS_of (kd_D h h0) ⟨ho,q⟩
theorem big_small {n:Nat} (h:n<=1000):n<=big:=by unfold big;omega
theorem kList_of {vs:List V}{k:KV} (h:vs.length<=1000) (q:∀ c,σ.fresh c->k (.ref c) (σ.setL c vs)):kList k vs σ:=⟨big_small h,q⟩
theorem kTup_of {vs:List V}{k:KV} (h:vs.length<=1000) (q:∀ c,σ.fresh c->k (.ref c) (σ.setT c vs)):kTup k vs σ:=⟨big_small h,q⟩
theorem kTest_of {v:V}{b:Bool}{k:Bool->St->Prop} (h:truth v=some b) (q:k b σ):kTest k v σ:=gS_of h q
noncomputable def kCAnd (TB:Tabs) (Φ:Phi) (b:E) (lo:Lo) (k:Bool->St->Prop) (r:Bool) (σ:St):Prop:=gC r (wpC TB Φ b lo σ (wpE TB Φ b lo σ) k) (k false σ)
theorem kCAnd_t {b:E}{r:Bool}{k:Bool->St->Prop} (h:r=true) (q:wpC TB Φ b lo σ (wpE TB Φ b lo σ) k):kCAnd TB Φ b lo k r σ:=by rw [h];exact q
theorem kCAnd_f {b:E}{r:Bool}{k:Bool->St->Prop} (h:r=false) (q:k false σ):kCAnd TB Φ b lo k r σ:=by rw [h];exact q
noncomputable def kCOr (TB:Tabs) (Φ:Phi) (b:E) (lo:Lo) (k:Bool->St->Prop) (r:Bool) (σ:St):Prop:=gC r (k true σ) (wpC TB Φ b lo σ (wpE TB Φ b lo σ) k)
theorem kCOr_t {b:E}{r:Bool}{k:Bool->St->Prop} (h:r=true) (q:k true σ):kCOr TB Φ b lo k r σ:=by rw [h];exact q
theorem kCOr_f {b:E}{r:Bool}{k:Bool->St->Prop} (h:r=false) (q:wpC TB Φ b lo σ (wpE TB Φ b lo σ) k):kCOr TB Φ b lo k r σ:=by rw [h];exact q
noncomputable def seqK (TB:Tabs) (Φ:Phi) (r:SL) (k:KL):KL:=sqK (λlo σ=>wpSL TB Φ r lo σ k) k
theorem kMany_of {is:List Nat}{k:Lo->St->Prop}{a:Nat}{vs:List V} (h:σ.T a=some vs) (hl:vs.length=is.length) (q:k (bindMany is vs lo) σ):kMany is k lo (.ref a) σ:=gS_of h ⟨hl,q⟩
theorem kSetA_of {f r c:Nat}{fs:List (Nat×V)}{v:V}{k:St->Prop} (h:σ.I r=some (c,fs)) (h1:TB.fld c f=true) (h2:fs.length<=50) (q:k (σ.setI r (c,fput f v fs))):kSetA TB f v k (.ref r) σ:=gS_of h ⟨h1,h2,q⟩
theorem kSetA_r {f r c:Nat}{fs:List (Nat×V)}{v:V}{k:St->Prop} (h:σ.I r=some (c,fs)) (h1:TB.fld c f=true) (h2:Nat.ble fs.length 50=true) (q:k (σ.setI r (c,fput f v fs))):kSetA TB f v k (.ref r) σ:=kSetA_of h h1 (Nat.le_of_ble_eq_true h2) q
theorem kAugA_of {f r c:Nat}{fs:List (Nat×V)}{u:Int}{o:Bop}{e:E}{k:St->Prop} (h:σ.I r=some (c,fs)) (h2:fs.lookup f=some (.int u)) (q:wpE TB Φ e lo σ λy σ=>binop o (.int u) y σ λv σ=>kSetA TB f v k (.ref r) σ):kAugA TB Φ f o e lo k (.ref r) σ:=gS_of h (gS_of h2 q)
noncomputable def kIf (TB:Tabs) (Φ:Phi) (t e:SL) (lo:Lo) (k:KL) (r:Bool) (σ:St):Prop:=gC r (wpSL TB Φ t lo σ k) (wpSL TB Φ e lo σ k)
theorem kIf_t {t e:SL}{r:Bool}{k:KL} (h:r=true) (q:wpSL TB Φ t lo σ k):kIf TB Φ t e lo k r σ:=by rw [h];exact q
theorem kIf_f {t e:SL}{r:Bool}{k:KL} (h:r=false) (q:wpSL TB Φ e lo σ k):kIf TB Φ t e lo k r σ:=by rw [h];exact q
theorem kObj_L {a:Nat}{xs:List V}{k:List V->Guard->St->Prop} (h:σ.L a=some xs) (q:k xs (λτ=>τ.L a=some xs) σ):kObj k (.ref a) σ:=gE_some h q
theorem kObj_b {b:List UInt8}{k:List V->Guard->St->Prop} (h:b.length<=big) (q:k (b.map octet) (λø=>True) σ):kObj k (.bytes b) σ:=⟨h,q⟩
theorem kRng1_of {n:Int}{k:List V->Guard->St->Prop} (h:0<=n) (h2:n<=big) (q:k (rangeL 0 n) (λø=>True) σ):kRng1 k (.int n) σ:=⟨h,h2,q⟩
theorem b_add {a b:Int}{k:KV} (q:k (.int (a+b)) σ):binop .add (.int a) (.int b) σ k:=q
theorem b_cat {a b:List UInt8}{k:KV} (h:a.length+b.length<=big) (q:k (.bytes (a++b)) σ):binop .add (.bytes a) (.bytes b) σ k:=⟨h,q⟩
theorem b_app {a b:Nat}{xs ys:List V}{k:KV} (h1:σ.L a=some xs) (h2:σ.L b=some ys) (h:xs.length+ys.length<=big) (q:∀ c,σ.fresh c->k (.ref c) (σ.setL c (xs++ys))):binop .add (.ref a) (.ref b) σ k:=gS_of h1 (gS_of h2 ⟨h,q⟩)
theorem b_sub {a b:Int}{k:KV} (q:k (.int (a - b)) σ):binop .sub (.int a) (.int b) σ k:=q
theorem b_mul {a b:Int}{k:KV} (h:small64 a\/small64 b) (q:k (.int (a * b)) σ):binop .mul (.int a) (.int b) σ k:=⟨h,q⟩
theorem b_rep {a:Nat}{n:Int}{xs:List V}{k:KV} (h:σ.L a=some xs) (h1:0<=n) (h2:n<=16) (h3:xs.length<=16) (q:∀ c,σ.fresh c->k (.ref c) (σ.setL c (List.replicate n.toNat xs).flatten)):binop .mul (.ref a) (.int n) σ k:=gS_of h ⟨h1,h2,h3,q⟩
theorem b_fdiv {a b:Int}{k:KV} (h:b≠0) (h2:small64 b) (q:k (.int (a.fdiv b)) σ):binop .fdiv (.int a) (.int b) σ k:=⟨h,h2,q⟩
theorem b_mod {a b:Int}{k:KV} (h:b≠0) (q:k (.int (a.fmod b)) σ):binop .mod (.int a) (.int b) σ k:=⟨h,q⟩
theorem b_pow {a n:Int}{k:KV} (h:0<=n) (h2:n<=1000) (h3:small64 a) (q:k (.int (a ^ n.toNat)) σ):binop .pow (.int a) (.int n) σ k:=⟨h,h2,h3,q⟩
theorem b_shl {a n:Int}{k:KV} (h:0<=n) (h2:n<=1000) (h3:small64 a) (q:k (.int (a * 2 ^ n.toNat)) σ):binop .shl (.int a) (.int n) σ k:=⟨h,h2,h3,q⟩
theorem b_shr {a n:Int}{k:KV} (h:0<=n) (q:k (.int (a.fdiv (2 ^ n.toNat))) σ):binop .shr (.int a) (.int n) σ k:=⟨h,q⟩
theorem len_b {b:List UInt8}{k:KV} (h:b.length<=big) (q:k (.int b.length) σ):bi1 .len (.bytes b) σ k:=⟨h,q⟩
theorem len_L {a:Nat}{xs:List V}{k:KV} (h:σ.L a=some xs) (q:k (.int xs.length) σ):bi1 .len (.ref a) σ k:=gE_some h q
theorem len_D {a:Nat}{d:List (V×V)}{k:KV} (h:σ.D a=some d) (h0:σ.L a=none) (hp:plainK d=true) (q:k (.int d.length) σ):bi1 .len (.ref a) σ k:=gE_none h0 (gE_some h ⟨hp,q⟩)
theorem len_F {a:Nat}{xs:List V}{k:KV} (h:σ.F a=some xs) (h0:σ.L a=none) (h1:σ.D a=none) (q:k (.int xs.length) σ):bi1 .len (.ref a) σ k:=gE_none h0 (gE_none h1 (gS_of h q))
theorem bytes_n {n:Int}{k:KV} (h:0<=n) (h2:n<=big) (q:k (.bytes (List.replicate n.toNat 0)) σ):bi1 .bytes (.int n) σ k:=⟨h,h2,q⟩
theorem bytes_L {a:Nat}{xs:List V}{ns:List Int}{k:KV} (h:σ.L a=some xs) (h1:intsOf xs=some ns) (h2:∀ n∈ns,0<=n/\n<256) (q:k (.bytes (ns.map λn=>n.toNat.toUInt8)) σ):bi1 .bytes (.ref a) σ k:=gS_of h (gS_of h1 ⟨h2,q⟩)
theorem list_L {a:Nat}{xs:List V}{k:KV} (h:σ.L a=some xs) (q:∀ c,σ.fresh c->k (.ref c) (σ.setL c xs)):bi1 .list (.ref a) σ k:=gE_some h q
theorem list_D {a:Nat}{d:List (V×V)}{k:KV} (h:σ.D a=some d) (h0:σ.L a=none) (hp:plainK d=true) (q:∀ c,σ.fresh c->k (.ref c) (σ.setL c (d.map (λø=>ø.1)))):bi1 .list (.ref a) σ k:=gE_none h0 (gS_of h ⟨hp,q⟩)
theorem x_append {a:Nat}{xs:List V}{y:V}{k:KV} (h:σ.L a=some xs) (hl:xs.length<big) (q:k .none (σ.setL a (xs++[y]))):meth1 true .append (.ref a) y σ k:=gS_of h ⟨hl,q⟩
theorem x_pop0 {a:Nat}{z:V}{r:List V}{k:KV} (h:σ.L a=some (z::r)) (q:k z (σ.setL a r)):meth1 true .pop (.ref a) (.int 0) σ k:=gS_of h ⟨rfl,q⟩
theorem x_dpop {a:Nat}{d:List (V×V)}{y v:V}{k:KV} (h:σ.D a=some d) (h1:dget y d=some v) (q:k v (σ.setD a (ddel y d))):meth1 false .pop (.ref a) y σ k:=gS_of h (gS_of h1 q)
theorem x_get {a:Nat}{d:List (V×V)}{y:V}{k:KV} (h:σ.D a=some d) (h1:keyFit y d=true) (q:k ((dget y d).getD .none) σ):meth1 false .get (.ref a) y σ k:=gS_of h ⟨h1,q⟩
theorem i_bytes {b:List UInt8}{n:Int}{u:UInt8}{k:V->Prop} (h:b.length<=big) (h0:0<=n) (hu:b[n.toNat]?=some u) (q:k (octet u)):getidx (.bytes b) (.int n) σ k:=⟨h,h0,gS_of hu q⟩
theorem i_L {a:Nat}{xs:List V}{n:Int}{j:Nat}{u:V}{k:V->Prop} (h:σ.L a=some xs) (hj:seqIndex? n xs.length=some j) (hu:xs[j]?=some u) (q:k u):getidx (.ref a) (.int n) σ k:=gE_some h (gS_of hj (gS_of hu q))
theorem i_T {a:Nat}{xs:List V}{n:Int}{j:Nat}{u:V}{k:V->Prop} (h:σ.T a=some xs) (h0:σ.L a=none) (hj:seqIndex? n xs.length=some j) (hu:xs[j]?=some u) (q:k u):getidx (.ref a) (.int n) σ k:=gE_none h0 (gE_some h (gS_of hj (gS_of hu q)))
theorem i_D {a:Nat}{d:List (V×V)}{y u:V}{k:V->Prop} (h:σ.D a=some d) (h0:σ.L a=none) (h1:σ.T a=none) (hu:dget y d=some u) (q:k u):getidx (.ref a) y σ k:=gE_none h0 (gE_none h1 (gE_some h (gS_of hu q)))
theorem i_F {a:Nat}{xs:List V}{n:Int}{j:Nat}{u:V}{k:V->Prop} (h:σ.F a=some xs) (h0:σ.L a=none) (h1:σ.T a=none) (h2:σ.D a=none) (hj:seqIndex? n xs.length=some j) (hu:xs[j]?=some u) (q:k u):getidx (.ref a) (.int n) σ k:=gE_none h0 (gE_none h1 (gE_none h2 (gS_of h (gS_of hj (gS_of hu q)))))
theorem l_bytes {b:List UInt8}{lo hi:V}{i j:Option Int}{k:KV} (h:b.length<=big) (h1:part lo=some i) (h2:part hi=some j) (q:k (.bytes (cutO b i j)) σ):getslice (.bytes b) lo hi σ k:=gS_of h1 (gS_of h2 ⟨h,q⟩)
theorem v_rev {a:Nat}{xs:List V}{k:KV} (h:σ.L a=some xs) (q:∀ c,σ.fresh c->k (.ref c) (σ.setL c xs.reverse)):getrev (.ref a) σ k:=gS_of h q
theorem p_L {a:Nat}{xs:List V}{n:Int}{j:Nat}{v:V}{k:St->Prop} (h:σ.L a=some xs) (hj:seqIndex? n xs.length=some j) (q:k (σ.setL a (xs.set j v))):setidx (.ref a) (.int n) v σ k:=gE_some h (gS_of hj q)
theorem p_D {a:Nat}{d:List (V×V)}{i v:V}{k:St->Prop} (h:σ.D a=some d) (h0:σ.L a=none) (h1:keyFit i d=true) (h2:d.length<big) (q:k (σ.setD a (dput i v d))):setidx (.ref a) i v σ k:=gE_none h0 (gS_of h ⟨h1,h2,q⟩)
theorem q_ne {a b:Int}{k:Bool->Prop} (q:k (a != b)):cmpop .ne (.int a) (.int b) σ k:=q
theorem q_is {x:V}{k:Bool->Prop} (q:k (x == .none)):cmpop .is x .none σ k:=q
theorem q_isn {x:V}{k:Bool->Prop} (q:k (!(x == .none))):cmpop .isnot x .none σ k:=q
theorem q_inT {x:V}{a:Nat}{ys:List V}{k:Bool->Prop} (h:σ.T a=some ys) (h0:σ.L a=none) (h1:among x ys=true) (q:k (ys.any (· == x))):cmpop .isin x (.ref a) σ k:=gE_none h0 (gS_of h ⟨h1,q⟩)
theorem q_ninT {x:V}{a:Nat}{ys:List V}{k:Bool->Prop} (h:σ.T a=some ys) (h0:σ.L a=none) (h1:among x ys=true) (q:k (!ys.any (· == x))):cmpop .notin x (.ref a) σ k:=gE_none h0 (gS_of h ⟨h1,q⟩)
theorem q_inL {x:V}{a:Nat}{ys:List V}{k:Bool->Prop} (h:σ.L a=some ys) (h1:among x ys=true) (q:k (ys.any (· == x))):cmpop .isin x (.ref a) σ k:=gE_some h ⟨h1,q⟩
theorem q_ninL {x:V}{a:Nat}{ys:List V}{k:Bool->Prop} (h:σ.L a=some ys) (h1:among x ys=true) (q:k (!ys.any (· == x))):cmpop .notin x (.ref a) σ k:=gE_some h ⟨h1,q⟩
theorem m_insert {a:Nat}{xs:List V}{i:Int}{z:V}{k:KV} (h:σ.L a=some xs) (h0:0<=i) (h1:i<=xs.length) (hl:xs.length<big) (q:k .none (σ.setL a (xs.take i.toNat++z::xs.drop i.toNat))):meth2 true .insert (.ref a) (.int i) z σ k:=gS_of h ⟨h0,h1,hl,q⟩
theorem I_eq {a:Nat}{y}:(σ.setI a y).I a=some y:=upd_same _ _ _
theorem I_ne {a b:Nat}{y x} (h:b≠a) (q:σ.I b=x):(σ.setI a y).I b=x:=(upd_ne _ _ h).trans q
theorem L_eq {a:Nat}{y}:(σ.setL a y).L a=some y:=upd_same _ _ _
theorem L_ne {a b:Nat}{y x} (h:b≠a) (q:σ.L b=x):(σ.setL a y).L b=x:=(upd_ne _ _ h).trans q
theorem T_eq {a:Nat}{y}:(σ.setT a y).T a=some y:=upd_same _ _ _
theorem T_ne {a b:Nat}{y x} (h:b≠a) (q:σ.T b=x):(σ.setT a y).T b=x:=(upd_ne _ _ h).trans q
theorem D_eq {a:Nat}{y}:(σ.setD a y).D a=some y:=upd_same _ _ _
theorem D_ne {a b:Nat}{y x} (h:b≠a) (q:σ.D b=x):(σ.setD a y).D b=x:=(upd_ne _ _ h).trans q
theorem I_of_L {a b:Nat}{y x} (q:σ.I b=x):(σ.setL a y).I b=x:=q
theorem I_of_T {a b:Nat}{y x} (q:σ.I b=x):(σ.setT a y).I b=x:=q
theorem I_of_D {a b:Nat}{y x} (q:σ.I b=x):(σ.setD a y).I b=x:=q
theorem L_of_I {a b:Nat}{y x} (q:σ.L b=x):(σ.setI a y).L b=x:=q
theorem L_of_T {a b:Nat}{y x} (q:σ.L b=x):(σ.setT a y).L b=x:=q
theorem L_of_D {a b:Nat}{y x} (q:σ.L b=x):(σ.setD a y).L b=x:=q
theorem T_of_I {a b:Nat}{y x} (q:σ.T b=x):(σ.setI a y).T b=x:=q
theorem T_of_L {a b:Nat}{y x} (q:σ.T b=x):(σ.setL a y).T b=x:=q
theorem T_of_D {a b:Nat}{y x} (q:σ.T b=x):(σ.setD a y).T b=x:=q
theorem D_of_I {a b:Nat}{y x} (q:σ.D b=x):(σ.setI a y).D b=x:=q
theorem D_of_L {a b:Nat}{y x} (q:σ.D b=x):(σ.setL a y).D b=x:=q
theorem D_of_T {a b:Nat}{y x} (q:σ.D b=x):(σ.setT a y).D b=x:=q
theorem F_of_I {a b:Nat}{y x} (q:σ.F b=x):(σ.setI a y).F b=x:=q
theorem F_of_L {a b:Nat}{y x} (q:σ.F b=x):(σ.setL a y).F b=x:=q
theorem F_of_T {a b:Nat}{y x} (q:σ.F b=x):(σ.setT a y).F b=x:=q
theorem F_of_D {a b:Nat}{y x} (q:σ.F b=x):(σ.setD a y).F b=x:=q
theorem fr_I {c a:Nat}{x} (f:σ.fresh c) (h:σ.I a=some x):a≠c:=λe=>by rw [e,f.1] at h;cases h
theorem fr_L {c a:Nat}{x} (f:σ.fresh c) (h:σ.L a=some x):a≠c:=λe=>by rw [e,f.2.1] at h;cases h
theorem fr_T {c a:Nat}{x} (f:σ.fresh c) (h:σ.T a=some x):a≠c:=λe=>by rw [e,f.2.2.1] at h;cases h
theorem fr_D {c a:Nat}{x} (f:σ.fresh c) (h:σ.D a=some x):a≠c:=λe=>by rw [e,f.2.2.2.1] at h;cases h
theorem ne_cls {a b c d:Nat}{x y:List (Nat×V)} (h:σ.I a=some (c,x)) (h':σ.I b=some (d,y)) (n:c≠d):a≠b:=λe=>by rw [e,h'] at h;cases h;exact n rfl
end
section
variable {TB:Tabs}{Φ:Phi}{lo:Lo}{σ:St}
theorem kVar_of {x:Option (Option V)}{v:V}{k:KV} (h:x=some (some v)) (q:k v σ):kVar x k σ:=gS_of h (gS_of rfl q)
theorem q_var {i:Nat}{k:KV}:wpE TB Φ (.var i) lo σ k=kVar lo[i]? k σ:=rfl
theorem q_gint {x:String}{n:Int}{k:KV}:wpE TB Φ (.gint x n) lo σ k=k (.int n) σ:=rfl
theorem q_int {n:Int}{k:KV}:wpE TB Φ (.int n) lo σ k=k (.int n) σ:=rfl
theorem q_nil {k:KV}:wpE TB Φ .nil lo σ k=k .none σ:=rfl
theorem q_tru {k:KV}:wpE TB Φ .tru lo σ k=k (.bool true) σ:=rfl
theorem q_fls {k:KV}:wpE TB Φ .fls lo σ k=k (.bool false) σ:=rfl
theorem q_str {s:String}{k:KV}:wpE TB Φ (.str s) lo σ k=k (.str (Str.ofString s)) σ:=rfl
theorem q_bin {o:Bop}{a b:E}{k:KV}:wpE TB Φ (.bin o a b) lo σ k=wpE TB Φ a lo σ λx σ=>wpE TB Φ b lo σ λy σ=>binop o x y σ k:=rfl
theorem q_neg {a:E}{k:KV}:wpE TB Φ (.neg a) lo σ k=wpE TB Φ a lo σ (kNeg k):=rfl
theorem q_kneg {i:Int}{k:KV}:kNeg k (.int i) σ=k (.int (-i)) σ:=rfl
theorem q_not {a:E}{k:KV}:wpE TB Φ (.notv a) lo σ k=wpE TB Φ a lo σ (kNot k):=rfl
theorem q_knot {b:Bool}{k:KV}:kNot k (.bool b) σ=k (.bool (!b)) σ:=rfl
theorem q_cmp {o:Cop}{a b:E}{k:KV}:wpE TB Φ (.cmp o a b) lo σ k=wpE TB Φ a lo σ λx σ=>wpE TB Φ b lo σ λy σ=>cmpop o x y σ λr=>k (.bool r) σ:=rfl
theorem q_and {a b:E}{k:KV}:wpE TB Φ (.andv a b) lo σ k=wpE TB Φ a lo σ (kAnd TB Φ b lo k):=rfl
theorem q_or {a b:E}{k:KV}:wpE TB Φ (.orv a b) lo σ k=wpE TB Φ a lo σ (kOr TB Φ b lo k):=rfl
theorem q_eite {c a b:E}{k:KV}:wpE TB Φ (.ite c a b) lo σ k=wpC TB Φ c lo σ (wpE TB Φ c lo σ) (kIte TB Φ a b lo k):=rfl
theorem q_attr {a:E}{f:Nat}{k:KV}:wpE TB Φ (.attr a f) lo σ k=wpE TB Φ a lo σ (kAttr f k):=rfl
theorem q_idx {a i:E}{k:KV}:wpE TB Φ (.idx a i) lo σ k=wpE TB Φ a lo σ λx σ=>wpE TB Φ i lo σ λy σ=>getidx x y σ λv=>k v σ:=rfl
theorem q_slc {a l h:E}{k:KV}:wpE TB Φ (.slc a l h) lo σ k=wpE TB Φ a lo σ λx σ=>wpE TB Φ l lo σ λy σ=>wpE TB Φ h lo σ λz σ=>getslice x y z σ k:=rfl
theorem q_rev {a:E}{k:KV}:wpE TB Φ (.rev a) lo σ k=wpE TB Φ a lo σ λx σ=>getrev x σ k:=rfl
theorem q_call {f:Nat}{as:EL}{k:KV}:wpE TB Φ (.call f as) lo σ k=wpEL TB Φ as lo σ λvs σ=>Φ f vs σ k:=rfl
theorem q_new {c:Nat}{as:EL}{k:KV}:wpE TB Φ (.new c as) lo σ k=wpEL TB Φ as lo σ (kNew TB Φ c k):=rfl
theorem q_newk {c:Nat}{as:EL}{s:String}{v:E}{k:KV}:wpE TB Φ (.newk c as s v) lo σ k=wpEL TB Φ as lo σ λvs σ=>wpE TB Φ v lo σ λy σ=>kNew TB Φ c k (vs++[y]) σ:=rfl
theorem q_meth {a:E}{m:Nat}{as:EL}{k:KV}:wpE TB Φ (.meth a m as) lo σ k=wpE TB Φ a lo σ (kMeth TB Φ m as lo k):=rfl
theorem q_bi {b:B1}{a:E}{k:KV}:wpE TB Φ (.bi b a) lo σ k=wpE TB Φ a lo σ λx σ=>bi1 b x σ k:=rfl
theorem q_max {a b:E}{k:KV}:wpE TB Φ (.max2 a b) lo σ k=wpE TB Φ a lo σ λx σ=>wpE TB Φ b lo σ λy σ=>max2 x y λv=>k v σ:=rfl
theorem q_m1 {m:M1}{a x:E}{k:KV}:wpE TB Φ (.m1 m a x) lo σ k=wpE TB Φ a lo σ (kM1 TB Φ m x lo k):=rfl
theorem q_m2 {m:M2}{a x y:E}{k:KV}:wpE TB Φ (.m2 m a x y) lo σ k=wpE TB Φ a lo σ (kM2 TB Φ m x y lo k):=rfl
theorem q_list {es:EL}{k:KV}:wpE TB Φ (.list es) lo σ k=wpEL TB Φ es lo σ (kList k):=rfl
theorem q_tup {es:EL}{k:KV}:wpE TB Φ (.tup es) lo σ k=wpEL TB Φ es lo σ (kTup k):=rfl
theorem q_dict {ks:List DK}{es:EL}{k:KV}:wpE TB Φ (.dict ks es) lo σ k=wpEL TB Φ es lo σ (kDict ks k):=rfl
theorem q_enil {k:List V->St->Prop}:wpEL TB Φ .nil lo σ k=k [] σ:=rfl
theorem q_econs {e:E}{r:EL}{k:List V->St->Prop}:wpEL TB Φ (.cons e r) lo σ k=wpE TB Φ e lo σ λv σ=>wpEL TB Φ r lo σ λvs σ=>k (v::vs) σ:=rfl
theorem q_cnot {a:E}{w:KV->Prop}{k:Bool->St->Prop}:wpC TB Φ (.notv a) lo σ w k=wpC TB Φ a lo σ (wpE TB Φ a lo σ) λb σ=>k (!b) σ:=rfl
theorem q_cand {a b:E}{w:KV->Prop}{k:Bool->St->Prop}:wpC TB Φ (.andv a b) lo σ w k=wpC TB Φ a lo σ (wpE TB Φ a lo σ) (kCAnd TB Φ b lo k):=rfl
theorem q_cor {a b:E}{w:KV->Prop}{k:Bool->St->Prop}:wpC TB Φ (.orv a b) lo σ w k=wpC TB Φ a lo σ (wpE TB Φ a lo σ) (kCOr TB Φ b lo k):=rfl
theorem q_ccmp {o:Cop}{a b:E}{w:KV->Prop}{k:Bool->St->Prop}:wpC TB Φ (.cmp o a b) lo σ w k=wpE TB Φ a lo σ λx σ=>wpE TB Φ b lo σ λy σ=>cmpop o x y σ λr=>k r σ:=rfl
theorem q_cvar {i:Nat}{w:KV->Prop}{k:Bool->St->Prop}:wpC TB Φ (.var i) lo σ w k=w (kTest k):=rfl
theorem q_ctru {w:KV->Prop}{k:Bool->St->Prop}:wpC TB Φ .tru lo σ w k=w (kTest k):=rfl
theorem q_cbin {o:Bop}{a b:E}{w:KV->Prop}{k:Bool->St->Prop}:wpC TB Φ (.bin o a b) lo σ w k=w (kTest k):=rfl
theorem q_ccall {f:Nat}{as:EL}{w:KV->Prop}{k:Bool->St->Prop}:wpC TB Φ (.call f as) lo σ w k=w (kTest k):=rfl
theorem q_cmeth {a:E}{m:Nat}{as:EL}{w:KV->Prop}{k:Bool->St->Prop}:wpC TB Φ (.meth a m as) lo σ w k=w (kTest k):=rfl
theorem q_ktestb {b:Bool}{k:Bool->St->Prop}:kTest k (.bool b) σ=k b σ:=rfl
theorem q_ktesti {i:Int}{k:Bool->St->Prop}:kTest k (.int i) σ=k (i != 0) σ:=rfl
theorem q_lcons {s:S}{r:SL}{k:KL}:wpSL TB Φ (.cons s r) lo σ k=wpS TB Φ s lo σ (seqK TB Φ r k):=rfl
theorem q_lnil {k:KL}:wpSL TB Φ .nil lo σ k=k .nx lo σ:=rfl
theorem q_seqnx {r:SL}{k:KL}:seqK TB Φ r k .nx lo σ=wpSL TB Φ r lo σ k:=rfl
theorem q_seqrt {r:SL}{v:V}{k:KL}:seqK TB Φ r k (.rt v) lo σ=k (.rt v) lo σ:=rfl
theorem q_seqex {r:SL}{k:KL}:seqK TB Φ r k .ex lo σ=k .ex lo σ:=rfl
noncomputable def nxK (k:KL) (lo:Lo):KV:=λø σ=>k .nx lo σ
noncomputable def asK (i:Nat) (k:KL) (lo:Lo):KV:=λv σ=>k .nx (lo.set i (some v)) σ
noncomputable def nxS (k:KL) (lo:Lo):St->Prop:=λσ=>k .nx lo σ
noncomputable def nxL (k:KL):Lo->St->Prop:=λlo σ=>k .nx lo σ
theorem q_nxK {k:KL}{v:V}:nxK k lo v σ=k .nx lo σ:=rfl
theorem q_asK {i:Nat}{k:KL}{v:V}:asK i k lo v σ=k .nx (lo.set i (some v)) σ:=rfl
theorem q_nxS {k:KL}:nxS k lo σ=k .nx lo σ:=rfl
theorem q_nxL {k:KL}:nxL k lo σ=k .nx lo σ:=rfl
theorem q_expr {e:E}{k:KL}:wpS TB Φ (.expr e) lo σ k=wpE TB Φ e lo σ (nxK k lo):=rfl
theorem q_asg {i:Nat}{e:E}{k:KL}:wpS TB Φ (.asg i e) lo σ k=wpE TB Φ e lo σ (asK i k lo):=rfl
theorem q_asgT {is:List Nat}{e:E}{k:KL}:wpS TB Φ (.asgT is e) lo σ k=wpE TB Φ e lo σ (kMany is (nxL k) lo):=rfl
theorem q_setA {a e:E}{f:Nat}{k:KL}:wpS TB Φ (.setA a f e) lo σ k=wpE TB Φ e lo σ λv σ=>wpE TB Φ a lo σ λx σ=>kSetA TB f v (nxS k lo) x σ:=rfl
theorem q_setI {a i e:E}{k:KL}:wpS TB Φ (.setI a i e) lo σ k=wpE TB Φ e lo σ λv σ=>wpE TB Φ a lo σ λx σ=>wpE TB Φ i lo σ λy σ=>setidx x y v σ (nxS k lo):=rfl
theorem q_augV {i:Nat}{o:Bop}{e:E}{k:KL}:wpS TB Φ (.augV i o e) lo σ k=wpE TB Φ (.var i) lo σ λx σ=>wpE TB Φ e lo σ λy σ=>kAugV o (asK i k lo) x y σ:=rfl
theorem q_kaugV {o:Bop}{a:Int}{y:V}{k:V->St->Prop}:kAugV o k (.int a) y σ=binop o (.int a) y σ k:=rfl
theorem q_augA {a:E}{f:Nat}{o:Bop}{e:E}{k:KL}:wpS TB Φ (.augA a f o e) lo σ k=wpE TB Φ a lo σ (kAugA TB Φ f o e lo (nxS k lo)):=rfl
theorem q_augI {a i:E}{o:Bop}{e:E}{k:KL}:wpS TB Φ (.augI a i o e) lo σ k=wpE TB Φ a lo σ λx σ=>wpE TB Φ i lo σ λy σ=>getidx x y σ (kAugI TB Φ o e lo x y (nxS k lo) σ):=rfl
theorem q_kaugI {o:Bop}{e:E}{x y:V}{k:St->Prop}{u:Int}:kAugI TB Φ o e lo x y k σ (.int u)=wpE TB Φ e lo σ λz σ=>binop o (.int u) z σ λv σ=>setidx x y v σ k:=rfl
theorem q_site {c:E}{t e:SL}{k:KL}:wpS TB Φ (.ite c t e) lo σ k=wpC TB Φ c lo σ (wpE TB Φ c lo σ) (kIf TB Φ t e lo k):=rfl
abbrev Ph:=List V->St->KV->Prop
noncomputable def fW (rs:Nat->List V->St->Prop) (Φ:Phi) (ar nv:Nat) (bd:SL):Ph:=λvs σ k=>vs.length=ar/\wpSL (tabsP rs) Φ bd (lo0 nv vs) σ (retK k)
theorem fW_of {rs:Nat->List V->St->Prop}{Φ:Phi}{ar nv:Nat}{bd:SL}{vs:List V}{σ:St}{k:KV} (h:vs.length=ar) (q:wpSL (tabsP rs) Φ bd (lo0 nv vs) σ (retK k)):fW rs Φ ar nv bd vs σ k:=⟨h,q⟩
noncomputable def bodyK (TB:Tabs) (Φ:Phi) (b:SL):Lo->St->KL->Prop:=λlo σ k=>wpSL TB Φ b lo σ k
noncomputable def condK (TB:Tabs) (Φ:Phi) (c:E):Lo->St->(Bool->St->Prop)->Prop:=λlo σ k=>wpC TB Φ c lo σ (wpE TB Φ c lo σ) k
noncomputable def elemK (TB:Tabs) (Φ:Phi) (e:E):Lo->St->KV->Prop:=λlo σ k=>wpE TB Φ e lo σ k
theorem q_body {b:SL}{k:KL}:bodyK TB Φ b lo σ k=wpSL TB Φ b lo σ k:=rfl
theorem q_condK {c:E}{k:Bool->St->Prop}:condK TB Φ c lo σ k=wpC TB Φ c lo σ (wpE TB Φ c lo σ) k:=rfl
theorem q_elemK {e:E}{k:KV}:elemK TB Φ e lo σ k=wpE TB Φ e lo σ k:=rfl
theorem q_loop {t:Tgt}{s:Src}{b:SL}{k:KL}:wpS TB Φ (.loop t s b) lo σ k=wpSrc TB Φ s lo σ λxs g σ=>loopW t g (bodyK TB Φ b) k xs lo σ:=rfl
theorem q_ret {e:E}{k:KL}:wpS TB Φ (.ret e) lo σ k=wpE TB Φ e lo σ λv σ=>k (.rt v) lo σ:=rfl
theorem q_retn {k:KL}:wpS TB Φ .retn lo σ k=k (.rt .none) lo σ:=rfl
theorem q_raise {k:KL}:wpS TB Φ .raise lo σ k=k .ex lo σ:=rfl
theorem q_obj {e:E}{k:List V->Guard->St->Prop}:wpSrc TB Φ (.obj e) lo σ k=wpE TB Φ e lo σ (kObj k):=rfl
theorem q_rng1 {e:E}{k:List V->Guard->St->Prop}:wpSrc TB Φ (.rng1 e) lo σ k=wpE TB Φ e lo σ (kRng1 k):=rfl
theorem q_badd {a b:Int}{k:KV}:binop .add (.int a) (.int b) σ k=k (.int (a+b)) σ:=rfl
theorem q_bsub {a b:Int}{k:KV}:binop .sub (.int a) (.int b) σ k=k (.int (a - b)) σ:=rfl
theorem q_band {a b:Int}{k:KV}:binop .and (.int a) (.int b) σ k=k (.int (Builtin.bitAnd a b)) σ:=rfl
theorem q_bor {a b:Int}{k:KV}:binop .or (.int a) (.int b) σ k=k (.int (Builtin.bitOr a b)) σ:=rfl
theorem q_bxor {a b:Int}{k:KV}:binop .xor (.int a) (.int b) σ k=k (.int (Builtin.bitXor a b)) σ:=rfl
theorem q_inti {i:Int}{k:KV}:bi1 .int (.int i) σ k=k (.int i) σ:=rfl
theorem q_intb {b:Bool}{k:KV}:bi1 .int (.bool b) σ k=k (.int (if b then 1 else 0)) σ:=rfl
theorem q_eqi {a b:Int}{k:Bool->Prop}:cmpop .eq (.int a) (.int b) σ k=k (a == b):=rfl
theorem q_nei {a b:Int}{k:Bool->Prop}:cmpop .ne (.int a) (.int b) σ k=k (a != b):=rfl
theorem q_lti {a b:Int}{k:Bool->Prop}:cmpop .lt (.int a) (.int b) σ k=k (decide (a<b)):=rfl
theorem q_lei {a b:Int}{k:Bool->Prop}:cmpop .le (.int a) (.int b) σ k=k (decide (a<=b)):=rfl
theorem q_gti {a b:Int}{k:Bool->Prop}:cmpop .gt (.int a) (.int b) σ k=k (decide (a > b)):=rfl
theorem q_gei {a b:Int}{k:Bool->Prop}:cmpop .ge (.int a) (.int b) σ k=k (decide (a ≥ b)):=rfl
theorem q_eqb {a b:List UInt8}{k:Bool->Prop}:cmpop .eq (.bytes a) (.bytes b) σ k=k (a == b):=rfl
theorem q_neb {a b:List UInt8}{k:Bool->Prop}:cmpop .ne (.bytes a) (.bytes b) σ k=k (a != b):=rfl
theorem q_maxi {a b:Int}{k:V->Prop}:max2 (.int a) (.int b) k=k (.int (if b > a then b else a)):=rfl
end
section
variable {TB:Tabs}{Φ:Phi}{lo:Lo}{σ:St}
noncomputable def loopK (t:Tgt) (g:Guard) (body:Lo->St->KL->Prop) (k:KL) (xs:List V):KL:=wlK (λlo σ=>loopW t g body k xs lo σ) k
theorem q_lknx {t:Tgt}{g:Guard}{body:Lo->St->KL->Prop}{k:KL}{xs:List V}:loopK t g body k xs .nx lo σ=loopW t g body k xs lo σ:=rfl
theorem q_lkrt {t:Tgt}{g:Guard}{body:Lo->St->KL->Prop}{k:KL}{xs:List V}{v:V}:loopK t g body k xs (.rt v) lo σ=k (.rt v) lo σ:=rfl
theorem lw_nil {t:Tgt}{g:Guard}{body:Lo->St->KL->Prop}{k:KL} (hg:g σ) (q:k .nx lo σ):loopW t g body k [] lo σ:=⟨hg,q⟩
theorem lw_one {i:Nat}{g:Guard}{body:Lo->St->KL->Prop}{k:KL}{x:V}{xs:List V} (hg:g σ) (q:body (lo.set i (some x)) σ (loopK (.one i) g body k xs)):loopW (.one i) g body k (x::xs) lo σ:=⟨hg,q⟩
theorem lw_many {is:List Nat}{g:Guard}{body:Lo->St->KL->Prop}{k:KL}{a:Nat}{vs xs:List V} (hg:g σ) (h:σ.T a=some vs) (hl:vs.length=is.length) (q:body (bindMany is vs lo) σ (loopK (.many is) g body k xs)):loopW (.many is) g body k (.ref a::xs) lo σ:=⟨hg,gS_of h ⟨hl,q⟩⟩
noncomputable def compA (l:Nat) (t:Tgt) (g:Guard) (c:Lo->St->(Bool->St->Prop)->Prop) (e:Lo->St->KV->Prop) (lo:Lo) (k:St->Prop) (xs:List V):KV:=putK l λσ=>compW l t g c e lo k xs σ
noncomputable def compK (l:Nat) (t:Tgt) (g:Guard) (c:Lo->St->(Bool->St->Prop)->Prop) (e:Lo->St->KV->Prop) (lo:Lo) (k:St->Prop) (xs:List V) (lo1:Lo):Bool->St->Prop:=λb σ1=>gC b (e lo1 σ1 (compA l t g c e lo k xs)) (compW l t g c e lo k xs σ1)
theorem q_ckt {l:Nat}{t:Tgt}{g:Guard}{c:Lo->St->(Bool->St->Prop)->Prop}{e:Lo->St->KV->Prop}{k:St->Prop}{xs:List V}{lo1:Lo}:compK l t g c e lo k xs lo1 true σ=e lo1 σ (compA l t g c e lo k xs):=rfl
theorem q_ckf {l:Nat}{t:Tgt}{g:Guard}{c:Lo->St->(Bool->St->Prop)->Prop}{e:Lo->St->KV->Prop}{k:St->Prop}{xs:List V}{lo1:Lo}:compK l t g c e lo k xs lo1 false σ=compW l t g c e lo k xs σ:=rfl
theorem compA_of {l:Nat}{t:Tgt}{g:Guard}{c:Lo->St->(Bool->St->Prop)->Prop}{e:Lo->St->KV->Prop}{k:St->Prop}{xs acc:List V}{v:V} (h:σ.L l=some acc) (hl:acc.length<big) (q:compW l t g c e lo k xs (σ.setL l (acc++[v]))):compA l t g c e lo k xs v σ:=gS_of h ⟨hl,q⟩
theorem cw_nil {l:Nat}{t:Tgt}{g:Guard}{c:Lo->St->(Bool->St->Prop)->Prop}{e:Lo->St->KV->Prop}{k:St->Prop} (hg:g σ) (q:k σ):compW l t g c e lo k [] σ:=⟨hg,q⟩
theorem cw_one {l i:Nat}{g:Guard}{c:Lo->St->(Bool->St->Prop)->Prop}{e:Lo->St->KV->Prop}{k:St->Prop}{x:V}{xs:List V} (hg:g σ) (q:c (lo.set i (some x)) σ (compK l (.one i) g c e lo k xs (lo.set i (some x)))):compW l (.one i) g c e lo k (x::xs) σ:=⟨hg,q⟩
theorem cw_many {l:Nat}{is:List Nat}{g:Guard}{c:Lo->St->(Bool->St->Prop)->Prop}{e:Lo->St->KV->Prop}{k:St->Prop}{a:Nat}{vs xs:List V} (hg:g σ) (h:σ.T a=some vs) (hl:vs.length=is.length) (q:c (bindMany is vs lo) σ (compK l (.many is) g c e lo k xs (bindMany is vs lo))):compW l (.many is) g c e lo k (.ref a::xs) σ:=⟨hg,gS_of h ⟨hl,q⟩⟩
theorem q_comp {fvs:List Nat}{nl:Nat}{t:Tgt}{s:Src}{c e:E}{k:KV}:wpE TB Φ (.comp fvs nl t s c e) lo σ k=wpSrc TB Φ s lo σ λxs g σ=>∀ l,σ.fresh l ->
 compW l t g (condK TB Φ c) (elemK TB Φ e) (fvs.map (λi=>(lo[i]?).join)++List.replicate nl Option.none) (λσ=>k (.ref l) σ) xs (σ.setL l []):=rfl
end
section
variable {σ τ:St}
theorem fresh_of_sub {c:Nat} (h:σ.sub τ) (f:τ.fresh c):σ.fresh c:=by
 refine ⟨?_,?_,?_,?_,?_⟩
 ·cases q:σ.I c with
  | none=>rfl
  | some x=>have:=h.I _ _ q;rw [f.1] at this;cases this
 ·cases q:σ.L c with
  | none=>rfl
  | some x=>have:=h.L _ _ q;rw [f.2.1] at this;cases this
 ·cases q:σ.T c with
  | none=>rfl
  | some x=>have:=h.T _ _ q;rw [f.2.2.1] at this;cases this
 ·cases q:σ.D c with
  | none=>rfl
  | some x=>have:=h.D _ _ q;rw [f.2.2.2.1] at this;cases this
 ·cases q:σ.F c with
  | none=>rfl
  | some x=>have:=h.F _ _ q;rw [f.2.2.2.2] at this;cases this
theorem sub_L {c:Nat}{x} (h:σ.sub τ) (f:σ.fresh c):σ.sub (τ.setL c x):=⟨h.I,λø ø q=>L_ne (fr_L f q) (h.L _ _ q),h.T,h.D,h.F⟩
theorem sub_I {c:Nat}{x} (h:σ.sub τ) (f:σ.fresh c):σ.sub (τ.setI c x):=⟨λø ø q=>I_ne (fr_I f q) (h.I _ _ q),h.L,h.T,h.D,h.F⟩
theorem fresh_of_sub2 {c:Nat} (f:τ.fresh c) (h:σ.sub τ):σ.fresh c:=fresh_of_sub h f
theorem sub_L2 {c:Nat}{x} (f:σ.fresh c) (h:σ.sub τ):σ.sub (τ.setL c x):=sub_L h f
theorem sub_I2 {c:Nat}{x} (f:σ.fresh c) (h:σ.sub τ):σ.sub (τ.setI c x):=sub_I h f
theorem sub_T {c:Nat}{x} (h:σ.sub τ) (f:σ.fresh c):σ.sub (τ.setT c x):=⟨h.I,h.L,λø ø q=>T_ne (fr_T f q) (h.T _ _ q),h.D,h.F⟩
theorem sub_D {c:Nat}{x} (h:σ.sub τ) (f:σ.fresh c):σ.sub (τ.setD c x):=⟨h.I,h.L,h.T,λø ø q=>D_ne (fr_D f q) (h.D _ _ q),h.F⟩
theorem sub_LL {c:Nat}{x} (h:σ.sub τ):(σ.setL c x).sub (τ.setL c x):=⟨h.I,λa y q=>by
 by_cases e:a=c
 ·subst e;rw [L_eq] at q |-;exact q
 ·rw [L_ne e rfl] at q;exact L_ne e (h.L _ _ q),h.T,h.D,h.F⟩
theorem sub_II {c:Nat}{x} (h:σ.sub τ):(σ.setI c x).sub (τ.setI c x):=⟨λa y q=>by
 by_cases e:a=c
 ·subst e;rw [I_eq] at q |-;exact q
 ·rw [I_ne e rfl] at q;exact I_ne e (h.I _ _ q),h.L,h.T,h.D,h.F⟩
theorem sub_TT {c:Nat}{x} (h:σ.sub τ):(σ.setT c x).sub (τ.setT c x):=⟨h.I,h.L,λa y q=>by
 by_cases e:a=c
 ·subst e;rw [T_eq] at q |-;exact q
 ·rw [T_ne e rfl] at q;exact T_ne e (h.T _ _ q),h.D,h.F⟩
theorem sub_DD {c:Nat}{x} (h:σ.sub τ):(σ.setD c x).sub (τ.setD c x):=⟨h.I,h.L,h.T,λa y q=>by
 by_cases e:a=c
 ·subst e;rw [D_eq] at q |-;exact q
 ·rw [D_ne e rfl] at q;exact D_ne e (h.D _ _ q),h.F⟩
theorem comp_map {l i:Nat}{g:Guard}{c:Lo->St->(Bool->St->Prop)->Prop}{e:Lo->St->KV->Prop}{lo:Lo}{k:St->Prop} (f:V->V) (hg:∀ acc,g (σ.setL l acc)):∀ (xs acc:List V),
 (∀ x∈xs,∀ acc K,K true (σ.setL l acc)->c (lo.set i (some x)) (σ.setL l acc) K)->(∀ x∈xs,∀ acc K,K (f x) (σ.setL l acc)->e (lo.set i (some x)) (σ.setL l acc) K) ->
 acc.length+xs.length<=big->k (σ.setL l (acc++xs.map f))->compW l (.one i) g c e lo k xs (σ.setL l acc)
 | []=>λacc ø ø ø q=>cw_nil (hg acc) (by simpa using q)
 | x::xs=>λacc hc he hb q=>by
   have hb:acc.length+(xs.length+1)<=big:=hb
   refine cw_one (hg acc) (hc x (.head _) acc _ ?_)
   rw [q_ckt]
   refine he x (.head _) acc _ (compA_of L_eq (by omega) ?_)
   rw [St.setL_setL]
   refine comp_map f hg xs (acc++[f x]) (λy hy=>hc y (.tail _ hy)) (λy hy=>he y (.tail _ hy)) ?_ ?_
   ·rw [List.length_append]
    have:[f x].length=1:=rfl
    omega
   ·simpa using q
end
theorem mtl {α:Type}{a b:α}{l:List α} (h:a∈l):a∈b::l:=.tail _ h
theorem nal {P:Nat->Prop}:∀ a,a∈([]:List Nat)->P a:=λø h=>absurd h List.not_mem_nil
theorem cal {P:Nat->Prop}{x:Nat}{l:List Nat} (h:P x) (q:∀ a,a∈l->P a):∀ a,a∈x::l->P a:=List.forall_mem_cons.mpr ⟨h,q⟩
theorem nls {α:Type}{l:List α}:[] ⊆ l:=λø h=>absurd h List.not_mem_nil
theorem bg_le {n:Nat} (h:n<=1000000):n<=big:=h
theorem bg_lt {n:Nat} (h:n<1000000):n<big:=h
def kN (k s:String) (a:Array Lean.Syntax:=#[]):Lean.TSyntax `tactic:=⟨.node .none k.toName (#[Lean.Syntax.atom .none s]++a)⟩
def kW (c:Char):Lean.MacroM (Lean.TSyntax `tactic):=
 let o:=#[Lean.Syntax.node .none `Lean.Parser.Tactic.optConfig #[.node .none `null #[]]]
 match "hnabufyzsod".toList.idxOf c with
 | 0=>pure (kN "PySem.W.tacticLcg_sub" "lcg_sub")
 | 1=>pure (kN "PySem.W.tacticKeq_rows" "keq_rows")
 | 2=>pure (kN "PySem.W.tacticLcg_off" "lcg_off")
 | 3=>pure (kN "PySem.W.tacticLcg_src" "lcg_src")
 | 4=>pure (kN "PySem.W.tacticTlg_ne" "tlg_ne")
 | 5=>pure (kN "PySem.W.tacticKd_p1" "kd_p1")
 | 6=>pure (kN "PyProof.Rows.tacticKt_ors" "kt_ors")
 | 7=>pure (kN "PyProof.Rows.tacticAcc_open" "acc_open")
 | 8=>pure (kN "Lean.Parser.Tactic.assumption" "assumption")
 | 9=>pure (kN "Lean.Parser.Tactic.omega" "omega" o)
 | 10=>pure (kN "Lean.Parser.Tactic.decide" "decide" o)
 | _=>`(tactic| with_unfolding_all rfl)
def kA (n:Lean.Ident) (cs:List Char):Lean.MacroM (Lean.TSyntax `tactic):=do
 let r <- cs.foldlM (λ(r:Array Lean.Term×Lean.TSyntax `tactic×Bool) c=>do
  if c == '.' then pure (r.1,r.2.1,true) else
  let id:=Lean.mkIdent (<- Lean.Macro.addMacroScope (.mkSimple ("k"++toString r.1.size)))
  pure (r.1.push (<- `(?$id)),<- `(tactic| ($(r.2.1);case $id:ident=>$(<- kW c):tactic)),r.2.2)) (#[],<- `(tactic| skip),false)
 let as <- if r.2.2 then pure r.1 else do pure (r.1.push (<- `(?_)))
 `(tactic| (with_reducible refine' $(Lean.Syntax.mkApp n as);$(r.2.1)))
def kS (s:String):Lean.MacroM (Lean.TSyntax `tactic):=
 ((s.splitOn " ").foldr (λt (p:Option String×Lean.MacroM (Lean.TSyntax `tactic))=>match p.1 with
   | none=>(some t,p.2)
   | some k=>(none,do `(tactic| first | $(<- kA (Lean.mkIdent t.toName) k.toList):tactic | $(<- p.2):tactic))) (none,`(tactic| fail))).2
end
section
local macro_rules | `(tactic| kt_ors)=>kS "fr_I sh. fr_L sh. fr_T sh. fr_D sh."
local macro_rules | `(tactic| keq_rows)=>do `(tactic| first | assumption | $(<- kS "Ne.symm s. fr_I sh. fr_L sh. fr_T sh. fr_D sh. Ne.symm y. ne_cls ssd."):tactic)
local macro_rules | `(tactic| lcg_sub)=>do `(tactic| first | assumption | $(<- kS "I_eq . L_eq . T_eq . D_eq . I_of_L h. I_of_D h. L_of_I h. I_ne nh. L_ne nh."):tactic)
local macro_rules | `(tactic| kd_p1)=>do `(tactic| first | assumption | $(<- kS "fresh_of_sub2 su."):tactic)
local macro_rules | `(tactic| tlg_ne)=>do `(tactic| first | assumption | exact St.sub.refl _ | $(<- kS "sub_L2 fu. sub_I2 fu."):tactic)
local macro_rules | `(tactic| lcg_off)=>do `(tactic| first
 | assumption | $(<- kS "Nat.le_of_ble_eq_true r."):tactic | (simp;done) | omega | (unfold small64;omega) | $(<- kS "bg_le o. bg_lt o."):tactic | (unfold big;simp;omega) | with_unfolding_all decide)
local macro_rules | `(tactic| lcg_src)=>do `(tactic| first
 | with_unfolding_all rfl | assumption | $(<- kS "decide_eq_true o. decide_eq_false o. beq_iff_eq.mpr o. beq_eq_false_iff_ne.mpr o. bne_iff_ne.mpr o. bne_eq_false_iff_eq.mpr o."):tactic)
local macro_rules | `(tactic| kp_flats)=>do
 let ls:=("q_var q_gint q_int q_nil q_tru q_fls q_str q_bin q_neg q_kneg q_not q_knot q_cmp q_and q_or q_eite q_attr q_idx q_slc q_rev q_call q_new q_newk q_meth q_bi q_max q_m1 q_m2 q_list q_tup q_dict q_enil q_econs q_cnot q_cand q_cor q_ccmp q_cvar q_ctru q_cbin q_ccall q_cmeth q_ktestb q_ktesti q_lcons q_lnil q_seqnx q_seqrt q_seqex q_expr q_asg q_asgT q_setA q_setI q_augV q_kaugV q_augA q_augI q_kaugI q_site q_loop q_ret q_retn q_raise q_obj q_rng1 q_badd q_bsub q_band q_bor q_bxor q_inti q_intb q_eqi q_nei q_lti q_lei q_gti q_gei q_eqb q_neb q_maxi q_lknx q_lkrt q_ckt q_ckf q_comp q_body q_condK q_elemK q_nxK q_asK q_nxS q_nxL".splitOn " ").toArray.map λn=>Lean.mkIdent n.toName
 `(tactic| dsimp only [$[$ls:term],*])
local macro_rules | `(tactic| kbo_bools)=>do `(tactic| first | with_reducible $(<- kS "kVar_of r"):tactic | kp_flats | with_reducible $(<- kS "kAttr_of hr kMeth_of hrr kIf_t b kIf_f b kSetA_r hrr b_cat a len_b a len_L h kList_of a kTup_of a kMany_of hr kObj_L h kRng1_of aa i_L hrr v_rev h q_is  q_isn  kM1_L hr kM2_L hr kM1_D hhr x_append ha kAugA_of hr b_mul a b_fdiv aa b_mod a b_shr a b_pow aaa kCAnd_t b kCAnd_f b kCOr_t b kCOr_f b kAnd_t b kOr_t b kOr_f b"):tactic)
local macro_rules | `(tactic| acc_open)=>do `(tactic| first | $(<- kS "List.not_mem_nil . Nat.le_of_ble_eq_true r. nls . nal . cal zz. Or.inl z. List.mem_cons_self . mtl z."):tactic | simp)
section
variable {rs:Nat->List V->St->Prop}{Φ:Phi}
noncomputable def p16 (n:Int):List UInt8:=[(Builtin.bitAnd (n.fdiv (2 ^ Int.toNat 8)) 255).toNat.toUInt8,(Builtin.bitAnd n 255).toNat.toUInt8]
noncomputable def p32 (n:Int):List UInt8:=p16 (n.fdiv (2 ^ Int.toNat 16))++p16 n
noncomputable def p48 (n:Int):List UInt8:=p16 (n.fdiv (2 ^ Int.toNat 32))++p32 n
noncomputable def C0 (Φ:Ph):Prop:=∀ n σ k,k (.bytes (p16 n)) σ->Φ [.int n] σ k
noncomputable def C1 (Φ:Ph):Prop:=∀ n σ k,k (.bytes (p32 n)) σ->Φ [.int n] σ k
noncomputable def C2 (Φ:Ph):Prop:=∀ n σ k,k (.bytes (p48 n)) σ->Φ [.int n] σ k
theorem St.sub_setL {σ:St}{c:Nat}{xs:List V} (f:σ.fresh c):σ.sub (σ.setL c xs):=⟨λø ø h=>h,λø ø h=>L_ne (fr_L f h) h,λø ø h=>h,λø ø h=>h,λø ø h=>h⟩
theorem St.sub_setI {σ:St}{c:Nat}{x} (f:σ.fresh c):σ.sub (σ.setI c x):=⟨λø ø h=>I_ne (fr_I f h) h,λø ø h=>h,λø ø h=>h,λø ø h=>h,λø ø h=>h⟩
theorem St.sub_setT {σ:St}{c:Nat}{x} (f:σ.fresh c):σ.sub (σ.setT c x):=⟨λø ø h=>h,λø ø h=>h,λø ø h=>T_ne (fr_T f h) h,λø ø h=>h,λø ø h=>h⟩
theorem St.sub_setD {σ:St}{c:Nat}{x} (f:σ.fresh c):σ.sub (σ.setD c x):=⟨λø ø h=>h,λø ø h=>h,λø ø h=>h,λø ø h=>D_ne (fr_D f h) h,λø ø h=>h⟩
theorem retK_of {k:KV}{v:V}{lo:Lo}{σ:St} (τ:St) (h:τ.sub σ) (q:k v τ):retK k (.rt v) lo σ:=⟨τ,h,q⟩
theorem retK_same {k:KV}{v:V}{lo:Lo}{σ:St} (q:k v σ):retK k (.rt v) lo σ:=⟨σ,.refl σ,q⟩
theorem retK_nx {k:KV}{lo:Lo}{σ:St} (q:k .none σ):retK k .nx lo σ:=⟨σ,.refl σ,q⟩
theorem b0:C0 (fW rs Φ 1 1 bd0):=by
 intro n σ k h
 refine fW_of rfl ?_
 unfold bd0
 repeat kbo_bools
 intro c hc
 refine bytes_L L_eq (by with_unfolding_all rfl) ?_ ?_
 ·intro m hm
  have r1:=bitAnd_range (n.fdiv (2 ^ Int.toNat 8)) (y:=255) (by decide)
  have r2:=bitAnd_range n (y:=255) (by decide)
  rcases List.mem_cons.mp hm with rfl | hm
  ·omega
  ·rw [List.mem_singleton.mp hm];omega
 ·repeat kbo_bools
  exact retK_of σ (St.sub_setL hc) h
theorem b1 (h0:C0 (Φ 0)):C1 (fW rs Φ 1 1 bd1):=by
 intro n σ k h
 refine fW_of rfl ?_
 unfold bd1
 repeat kbo_bools
 refine h0 _ _ _ ?_
 repeat kbo_bools
 refine h0 _ _ _ ?_
 repeat kbo_bools
 exact retK_same h
theorem b2 (h0:C0 (Φ 0)) (h1:C1 (Φ 1)):C2 (fW rs Φ 1 1 bd2):=by
 intro n σ k h
 refine fW_of rfl ?_
 unfold bd2
 repeat kbo_bools
 refine h0 _ _ _ ?_
 repeat kbo_bools
 refine h1 _ _ _ ?_
 repeat kbo_bools
 exact retK_same h
noncomputable def C3 (Φ:Ph):Prop:=∀ (b:List UInt8) (i n:Int) σ k,b.length<=big->0<=i->i+n<=b.length->k .none σ->Φ [.bytes b,.int i,.int n] σ k
theorem b3:C3 (fW rs Φ 3 3 bd3):=by
 intro b i n σ k hb h1 h2 h
 refine fW_of rfl ?_
 unfold bd3
 repeat kbo_bools
 exact retK_nx h
noncomputable def g16 (b:List UInt8) (i:Nat):Int:=Builtin.bitOr (((b.getD i 0).toNat:Int) * 2 ^ Int.toNat 8) ((b.getD (i+1) 0).toNat:Int)
noncomputable def g32 (b:List UInt8) (i:Nat):Int:=Builtin.bitOr (g16 b i * 2 ^ Int.toNat 16) (g16 b (i+2))
noncomputable def g48 (b:List UInt8) (i:Nat):Int:=Builtin.bitOr (g16 b i * 2 ^ Int.toNat 32) (g32 b (i+2))
noncomputable def C4 (Φ:Ph):Prop:=∀ (b:List UInt8) (i:Nat) σ k,b.length<=big->i+2<=b.length->k (.int (g16 b i)) σ->Φ [.bytes b,.int i] σ k
noncomputable def C5 (Φ:Ph):Prop:=∀ (b:List UInt8) (i:Nat) σ k,b.length<=big->i+4<=b.length->k (.int (g32 b i)) σ->Φ [.bytes b,.int i] σ k
noncomputable def C6 (Φ:Ph):Prop:=∀ (b:List UInt8) (i:Nat) σ k,b.length<=big->i+6<=b.length->k (.int (g48 b i)) σ->Φ [.bytes b,.int i] σ k
theorem i_nat {b:List UInt8}{n:Int}{m:Nat}{σ:St}{k:V->Prop} (hn:n=m) (h:b.length<=big) (hm:m<b.length) (q:k (.int ((b.getD m 0).toNat:Int))):getidx (.bytes b) (.int n) σ k:=by
 subst hn
 refine i_bytes h (Int.natCast_nonneg _) (u:=b.getD m 0) ?_ q
 rw [Int.toNat_natCast,List.getD_eq_getElem?_getD,List.getElem?_eq_getElem hm];rfl
theorem small8 (u:UInt8):small64 (u.toNat:Int):=by
 have:=u.toNat_lt
 unfold small64;omega
theorem b4 (h3:C3 (Φ 3)):C4 (fW rs Φ 2 2 bd4):=by
 intro b i σ k hb h1 h
 refine fW_of rfl ?_
 unfold bd4
 repeat kbo_bools
 refine h3 _ _ _ _ _ hb (Int.natCast_nonneg _) (by omega) ?_
 repeat kbo_bools
 refine i_nat rfl hb (by omega) ?_
 repeat kbo_bools
 refine b_shl (by decide) (by decide) (small8 _) ?_
 repeat kbo_bools
 refine i_nat (m:=i+1) (by omega) hb (by omega) ?_
 repeat kbo_bools
 exact retK_same h
theorem g16_lo (b:List UInt8) (i:Nat):0<=g16 b i/\g16 b i<65536:=by
 unfold g16
 have h1:=(b.getD i 0).toNat_lt
 have h2:=(b.getD (i+1) 0).toNat_lt
 have e:(2:Int) ^ Int.toNat 8=256:=by decide
 rw [e,bitOr_and]
 have r:=bitAnd_range (((b.getD i 0).toNat:Int) * 256) (y:=((b.getD (i+1) 0).toNat:Int)) (Int.natCast_nonneg _)
 omega
theorem g32_lo (b:List UInt8) (i:Nat):0<=g32 b i:=by
 unfold g32
 have h1:=g16_lo b i
 have h2:=g16_lo b (i+2)
 have e:(2:Int) ^ Int.toNat 16=65536:=by decide
 rw [e,bitOr_and]
 have r:=bitAnd_range (g16 b i * 65536) (y:=g16 b (i+2)) h2.1
 omega
theorem small16 (b:List UInt8) (i:Nat):small64 (g16 b i):=by
 have:=g16_lo b i
 unfold small64;omega
theorem b5 (h3:C3 (Φ 3)) (h4:C4 (Φ 4)):C5 (fW rs Φ 2 2 bd5):=by
 intro b i σ k hb h1 h
 refine fW_of rfl ?_
 unfold bd5
 repeat kbo_bools
 refine h3 _ _ _ _ _ hb (Int.natCast_nonneg _) (by omega) ?_
 repeat kbo_bools
 refine h4 _ _ _ _ hb (by omega) ?_
 repeat kbo_bools
 refine b_shl (by decide) (by decide) (small16 _ _) ?_
 repeat kbo_bools
 rw [show ((i:Int)+2)=((i+2:Nat):Int) by omega]
 refine h4 _ _ _ _ hb (by omega) ?_
 repeat kbo_bools
 exact retK_same h
theorem b6 (h3:C3 (Φ 3)) (h4:C4 (Φ 4)) (h5:C5 (Φ 5)):C6 (fW rs Φ 2 2 bd6):=by
 intro b i σ k hb h1 h
 refine fW_of rfl ?_
 unfold bd6
 repeat kbo_bools
 refine h3 _ _ _ _ _ hb (Int.natCast_nonneg _) (by omega) ?_
 repeat kbo_bools
 refine h4 _ _ _ _ hb (by omega) ?_
 repeat kbo_bools
 refine b_shl (by decide) (by decide) (small16 _ _) ?_
 repeat kbo_bools
 rw [show ((i:Int)+2)=((i+2:Nat):Int) by omega]
 refine h5 _ _ _ _ hb (by omega) ?_
 repeat kbo_bools
 exact retK_same h
noncomputable def pktF (op sl s tl t:Int):List (Nat×V):=[(0,.int op),(1,.int sl),(2,.int s),(3,.int tl),(4,.int t)]
noncomputable def frmF (t s kd:Int) (p:List UInt8):List (Nat×V):=[(4,.int t),(5,.int s),(6,.int kd),(7,.bytes p)]
noncomputable def C7 (Φ:Ph):Prop:=∀ (r:Nat) (op sl s tl t:Int) σ k,σ.I r=some (0,[])->k .none (σ.setI r (0,pktF op sl s tl t))->Φ [.ref r,.int op,.int sl,.int s,.int tl,.int t] σ k
theorem b7:C7 (fW rs Φ 6 6 bd7):=by
 intro r op sl s tl t σ k hI h
 refine fW_of rfl ?_
 unfold bd7
 repeat kbo_bools
 refine retK_nx ?_
 simp only [St.setI_setI]
 exact h
noncomputable def C13 (Φ:Ph):Prop:=∀ (r:Nat) (t s kd:Int) (p:List UInt8) σ k,σ.I r=some (1,[])->k .none (σ.setI r (1,frmF t s kd p))->Φ [.ref r,.int t,.int s,.int kd,.bytes p] σ k
theorem b13:C13 (fW rs Φ 5 5 bd13):=by
 intro r t s kd p σ k hI h
 refine fW_of rfl ?_
 unfold bd13
 repeat kbo_bools
 refine retK_nx ?_
 simp only [St.setI_setI]
 exact h
noncomputable def parp (op sl s tl t:Int):List UInt8:=(((((p16 1++p16 2048)++[6,4])++p16 op)++p48 sl)++p32 s++p48 tl)++p32 t
theorem p16_len (n:Int):(p16 n).length=2:=rfl
theorem p32_len (n:Int):(p32 n).length=4:=rfl
theorem p48_len (n:Int):(p48 n).length=6:=rfl
noncomputable def C8 (Φ:Ph):Prop:=∀ (r:Nat) (op sl s tl t:Int) σ k,σ.I r=some (0,pktF op sl s tl t)->k (.bytes (parp op sl s tl t)) σ->Φ [.ref r] σ k
theorem b8 (h0:C0 (Φ 0)) (h1:C1 (Φ 1)) (h2:C2 (Φ 2)):C8 (fW rs Φ 1 2 bd8):=by
 intro r op sl s tl t σ k hI h
 refine fW_of rfl ?_
 unfold bd8
 repeat kbo_bools
 refine h0 _ _ _ ?_
 repeat kbo_bools
 refine h0 _ _ _ ?_
 repeat kbo_bools
 intro c hc
 refine bytes_L L_eq (by with_unfolding_all rfl) (by decide) ?_
 repeat kbo_bools
 refine h0 _ _ _ ?_
 repeat kbo_bools
 refine h2 _ _ _ ?_
 repeat kbo_bools
 refine h1 _ _ _ ?_
 repeat kbo_bools
 refine h2 _ _ _ ?_
 repeat kbo_bools
 refine h1 _ _ _ ?_
 repeat kbo_bools
 exact retK_of σ (St.sub_setL hc) h
end
section
variable {rs:Nat->List V->St->Prop}{Φ:Phi}
structure ArpOk (b:List UInt8) (op sl s tl t:Int):Prop where
 len:b.length=28
 k1:g16 b 0=1
 k2:g16 b 2=2048
 s1:((b.getD 4 0).toNat:Int)=6
 s2:((b.getD 5 0).toNat:Int)=4
 opE:g16 b 6=op
 ops:op=1\/op=2
 slE:g48 b 8=sl
 sE:g32 b 14=s
 tlE:g48 b 18=tl
 tE:g32 b 24=t
noncomputable def C9 (Φ:Ph):Prop:=∀ (b:List UInt8) (op sl s tl t:Int) σ k,ArpOk b op sl s tl t->(∀ r,σ.fresh r->k (.ref r) (σ.setI r (0,pktF op sl s tl t)))->Φ [.bytes b] σ k
theorem b9 (h4:C4 (Φ 4)) (h5:C5 (Φ 5)) (h6:C6 (Φ 6)) (h7:C7 (Φ 7)):C9 (fW rs Φ 1 2 bd9):=by
 intro b op sl s tl t σ k hb h
 refine fW_of rfl ?_
 obtain ⟨hl,hk1,hk2,hs1,hs2,hop,hops,hsl,hs,htl,ht⟩:=hb
 have hb:b.length<=big:=by rw [hl];unfold big;lia
 unfold bd9
 repeat kbo_bools
 refine h4 b 0 _ _ hb (by lia) ?_
 repeat kbo_bools
 refine h4 b 2 _ _ hb (by lia) ?_
 repeat kbo_bools
 refine i_nat (m:=4) rfl hb (by lia) ?_
 repeat kbo_bools
 refine i_nat (m:=5) rfl hb (by lia) ?_
 repeat kbo_bools
 refine h4 b 6 _ _ hb (by lia) ?_
 rw [hop]
 repeat kbo_bools
 have fin:wpSL (tabsP rs) Φ (SL.cons (S.ret (E.new 0 (EL.cons (E.var 1) (EL.cons (E.call 6 (EL.cons (E.var 0) (EL.cons (E.int 8) EL.nil))) (EL.cons (E.call 5 (EL.cons (E.var 0) (EL.cons (E.int 14) EL.nil))) (EL.cons (E.call 6 (EL.cons (E.var 0) (EL.cons (E.int 18) EL.nil))) (EL.cons (E.call 5 (EL.cons (E.var 0) (EL.cons (E.int 24) EL.nil))) EL.nil))))))) SL.nil) ((lo0 2 [V.bytes b]).set 1 (some (V.int op))) σ (retK k):=by
  repeat kbo_bools
  refine h6 b 8 _ _ hb (by lia) ?_
  repeat kbo_bools
  refine h5 b 14 _ _ hb (by lia) ?_
  repeat kbo_bools
  refine h6 b 18 _ _ hb (by lia) ?_
  repeat kbo_bools
  refine h5 b 24 _ _ hb (by lia) ?_
  repeat kbo_bools
  intro r hr
  refine h7 _ _ _ _ _ _ _ _ I_eq ⟨rfl,?_⟩
  repeat kbo_bools
  rw [St.setI_setI,hsl,hs,htl,ht]
  exact retK_same (h r hr)
 rcases hops with rfl | rfl
 ·repeat kbo_bools
  exact fin
 ·repeat kbo_bools
  exact fin
theorem xor_and_add (a:Nat):∀ b:Nat,(a ^^^ b)+2 * (a &&& b)=a+b:=by
 induction a using Nat.strongRecOn with
 | ind a ih=>
   intro b
   by_cases ha:a=0
   ·subst ha;simp
   ·have h:=ih (a / 2) (by lia) (b / 2)
    have h1:(a ^^^ b) / 2=a / 2 ^^^ b / 2:=Nat.xor_div_two
    have h2:(a &&& b) / 2=a / 2 &&& b / 2:=Nat.and_div_two
    have h3:(a ^^^ b) % 2=(a % 2) ^^^ (b % 2):=Nat.xor_mod_two_pow (n:=1)
    have h4:(a &&& b) % 2=(a % 2) &&& (b % 2):=Nat.and_mod_two_pow (n:=1)
    rcases Nat.mod_two_eq_zero_or_one a with e | e <;> rcases Nat.mod_two_eq_zero_or_one b with f | f <;> rw [e,f] at h3 h4
    ·have q3:(a ^^^ b) % 2=0:=h3
     have q4:(a &&& b) % 2=0:=h4
     lia
    ·have q3:(a ^^^ b) % 2=1:=h3
     have q4:(a &&& b) % 2=0:=h4
     lia
    ·have q3:(a ^^^ b) % 2=1:=h3
     have q4:(a &&& b) % 2=0:=h4
     lia
    ·have q3:(a ^^^ b) % 2=0:=h3
     have q4:(a &&& b) % 2=1:=h4
     lia
theorem bXor (a b:Nat):Builtin.bitXor (a:Int) (b:Int)=((a ^^^ b:Nat):Int):=by
 rw [bitXor_and,bitAnd_pp (Int.natCast_nonneg _) (Int.natCast_nonneg _),Int.toNat_natCast,Int.toNat_natCast]
 have h:=xor_and_add a b
 lia
theorem bAnd (a b:Nat):Builtin.bitAnd (a:Int) (b:Int)=((a &&& b:Nat):Int):=by
 rw [bitAnd_pp (Int.natCast_nonneg _) (Int.natCast_nonneg _)];simp
theorem shrN (a k:Nat):Int.fdiv (a:Int) (2 ^ k)=((a >>> k:Nat):Int):=by
 rw [Nat.shiftRight_eq_div_pow,Int.fdiv_eq_ediv_of_nonneg _ (by exact_mod_cast Nat.zero_le _)]
 norm_cast
noncomputable def shf (w:Int):Int:=if Builtin.bitAnd w 1 != 0 then Builtin.bitXor (w.fdiv (2 ^ Int.toNat 1)) 3988292384 else w.fdiv (2 ^ Int.toNat 1)
noncomputable def C10 (Φ:Ph):Prop:=∀ (w:Int) σ k,k (.int (shf w)) σ->Φ [.int w] σ k
theorem b10:C10 (fW rs Φ 1 1 bd10):=by
 intro w σ k h
 refine fW_of rfl ?_
 unfold bd10
 repeat kbo_bools
 unfold shf at h
 by_cases q:(Builtin.bitAnd w 1 != 0)=true
 ·rw [if_pos q] at h
  repeat kbo_bools
  exact retK_same h
 ·rw [if_neg q] at h
  rw [Bool.not_eq_true] at q
  repeat kbo_bools
  exact retK_same h
noncomputable def tblN:List Nat:=[0,498536548,997073096,651767980,1994146192,1802195444,1303535960,1342533948,3988292384,4027552580,3604390888,3412177804,2607071920,2262029012,2685067896,3183342108]
noncomputable def tbl:List V:=tblN.map λ(n:Nat)=>V.int (n:Int)
noncomputable def C11 (Φ:Ph):Prop:=∀ σ k,(∀ c,σ.fresh c->k (.ref c) (σ.setL c tbl))->Φ [] σ k
noncomputable def xorV (b:Int):V->V
 | .int n=>.int (Builtin.bitXor n b)
 | v=>v
theorem turn11 {lo:Lo}{σ:St}{cf:Nat}{ns:List Int}{b:Int}{K:KL} (h2:lo[2]?=some (some (.ref cf))) (h3:lo[3]?=some (some (.int b))) (hL:σ.L cf=some (ns.map .int)) (hn:ns.length<=100)
 (q:∀ l c,σ.fresh l->(σ.setL l (ns.map λn=>V.int (Builtin.bitXor n b))).fresh c->K .nx (lo.set 2 (some (.ref c))) ((σ.setL l (ns.map λn=>V.int (Builtin.bitXor n b))).setL c ((ns++ns.map λn=>Builtin.bitXor n b).map .int))) :
 wpSL (tabsP rs) Φ (SL.cons (S.asg 2 (E.bin Bop.add (E.var 2) (E.comp [3] 1 (Tgt.one 1) (Src.obj (E.var 2)) E.tru (E.bin Bop.xor (E.var 1) (E.var 0))))) SL.nil) lo σ K:=by
 kp_flats
 refine kVar_of h2 ?_
 refine kVar_of h2 ?_
 refine kObj_L hL ?_
 intro l fl
 have hm:ns.map (λn=>V.int (Builtin.bitXor n b))=(ns.map V.int).map (xorV b):=by rw [List.map_map];rfl
 refine comp_map (xorV b) (λacc=>L_ne (fr_L fl hL) hL) _ [] (λx hx acc K q=>q) (λx hx acc K q=>?_) ?_ ?_
 ·obtain ⟨n,_,rfl⟩:=List.mem_map.mp hx
  kp_flats
  refine kVar_of rfl (kVar_of (v:=.int b) ?_ ?_)
  ·rw [List.getElem?_set_ne (by decide)]
   show some (lo[3]?.join)=_
   rw [h3];rfl
  ·exact q
 ·rw [List.length_map];unfold big;simp;lia
 ·rw [List.nil_append,<- hm]
  refine b_app (L_ne (fr_L fl hL) hL) L_eq ?_ ?_
  ·simp;unfold big;lia
  ·intro c fc
   have:=q l c fl fc
   rw [List.map_append,List.map_map] at this
   exact this
theorem sub_L_fact {σ τ:St}{c:Nat}{xs:List V} (h:σ.sub τ) (q:τ.L c=some xs):(σ.setL c xs).sub τ:=⟨h.I,λa y e=>by
 by_cases z:a=c
 ·subst z;rw [L_eq] at e;rw [q];exact e
 ·rw [L_ne z rfl] at e;exact h.L _ _ e,h.T,h.D,h.F⟩
noncomputable def xorAll:List Int->List Int->List Int
 | ns,[]=>ns
 | ns,b::bs=>xorAll (ns++ns.map λn=>Builtin.bitXor n b) bs
theorem loop11 {c3:Nat}{all:List V}{σ0:St}{K:KL} (hK:∀ lo σ c,lo[2]?=some (some (.ref c))->σ.L c=some ((xorAll [0] [498536548,997073096,1994146192,3988292384]).map .int)->σ0.sub σ->σ0.fresh c->K .nx lo σ) :
 ∀ (bs ns:List Int) (cf:Nat) (lo:Lo) (σ:St),lo.length=4->lo[2]?=some (some (.ref cf))->σ.L cf=some (ns.map .int)->σ.L c3=some all->σ0.sub σ->σ0.fresh cf->ns.length * 2 ^ bs.length<=100->xorAll ns bs=xorAll [0] [498536548,997073096,1994146192,3988292384] ->
 loopW (.one 3) (λτ=>τ.L c3=some all) (bodyK (tabsP rs) Φ (SL.cons (S.asg 2 (E.bin Bop.add (E.var 2) (E.comp [3] 1 (Tgt.one 1) (Src.obj (E.var 2)) E.tru (E.bin Bop.xor (E.var 1) (E.var 0))))) SL.nil)) K (bs.map .int) lo σ
 | []=>λns cf lo σ h1 h2 h3 h4 h5 h6 h7 h8=>lw_nil h4 (hK lo σ cf h2 (by rw [<- h8];exact h3) h5 h6)
 | b::bs=>λns cf lo σ h1 h2 h3 h4 h5 h6 h7 h8=>by
   have hp:1<=2 ^ bs.length:=Nat.one_le_two_pow
   have e1:2 ^ (b::bs).length=2 * 2 ^ bs.length:=by rw [List.length_cons,Nat.pow_succ];lia
   rw [e1] at h7
   have hn:ns.length<=100:=by
    have:ns.length * 1<=ns.length * (2 * 2 ^ bs.length):=Nat.mul_le_mul_left _ (by lia)
    lia
   refine lw_one h4 ?_
   rw [q_body]
   refine turn11 (cf:=cf) (ns:=ns) (b:=b) ?_ ?_ h3 hn λl c fl fc=>?_
   ·rw [List.getElem?_set_ne (by decide)];exact h2
   ·exact List.getElem?_set_self (by rw [h1];decide)
   ·rw [q_lknx]
    refine loop11 hK bs _ c _ _ (by simp [h1]) (List.getElem?_set_self (by simp [h1])) L_eq ?_ ?_ ?_ ?_ h8
    ·exact L_ne (fr_L fc (L_ne (fr_L fl h4) h4)) (L_ne (fr_L fl h4) h4)
    ·tlg_ne
    ·kd_p1
    ·rw [List.length_append,List.length_map]
     have:(ns.length+ns.length) * 2 ^ bs.length=ns.length * (2 * 2 ^ bs.length):=by rw [<- Nat.mul_assoc,Nat.mul_two]
     lia
theorem b11 (h10:C10 (Φ 10)):C11 (fW rs Φ 0 4 bd11):=by
 intro σ k h
 refine fW_of rfl ?_
 unfold bd11
 repeat kbo_bools
 intro c1 f1
 repeat kbo_bools
 rw [show rangeL 0 3=[.int 0,.int 1,.int 2] from rfl]
 refine lw_one True.intro ?_
 repeat kbo_bools
 refine h10 _ _ _ ?_
 repeat kbo_bools
 refine lw_one True.intro ?_
 repeat kbo_bools
 refine h10 _ _ _ ?_
 repeat kbo_bools
 refine lw_one True.intro ?_
 repeat kbo_bools
 refine h10 _ _ _ ?_
 repeat kbo_bools
 refine lw_nil True.intro ?_
 repeat kbo_bools
 intro c2 f2
 repeat kbo_bools
 intro c3 f3
 generalize hS:(((((σ.setL c1 [V.int 3988292384]).setL c1 ([V.int 3988292384]++[V.int (shf 3988292384)])).setL c1 ([V.int 3988292384]++[V.int (shf 3988292384)]++[V.int (shf (shf 3988292384))])).setL c1 ([V.int 3988292384]++[V.int (shf 3988292384)]++[V.int (shf (shf 3988292384))]++[V.int (shf (shf (shf 3988292384)))])).setL c2 [V.int 0])=S at f3 |-
 have s0:σ.sub S:=by rw [<- hS];tlg_ne
 have hL:S.L c2=some ([(0:Int)].map .int):=by rw [<- hS];exact L_eq
 have fc2:σ.fresh c2:=by kd_p1
 clear hS f2
 repeat kbo_bools
 rw [show (([V.int 3988292384]++[V.int (shf 3988292384)]++[V.int (shf (shf 3988292384))]++[V.int (shf (shf (shf 3988292384)))]).reverse:List V)=[.int 498536548,.int 997073096,.int 1994146192,.int 3988292384] from by decide +kernel]
 have g3:=L_eq (σ:=S) (a:=c3) (y:=[.int 498536548,.int 997073096,.int 1994146192,.int 3988292384])
 generalize hS3:S.setL c3 [.int 498536548,.int 997073096,.int 1994146192,.int 3988292384]=S3 at g3 |-
 have s3:σ.sub S3:=by rw [<- hS3];tlg_ne
 replace hL:S3.L c2=some ([(0:Int)].map .int):=by rw [<- hS3];exact L_ne (fr_L f3 hL) hL
 refine loop11 (σ0:=σ) (λlo σ' c h1 h2 h3 h4=>?_) [498536548,997073096,1994146192,3988292384] [0] c2 _ _ rfl rfl hL g3 s3 fc2 (by decide) rfl
 repeat kbo_bools
 refine kVar_of h1 ?_
 repeat kbo_bools
 rw [show (xorAll [0] [498536548,997073096,1994146192,3988292384]).map V.int=tbl from by decide +kernel] at h2
 exact retK_of (σ.setL c tbl) (sub_L_fact h3 h2) (h c h4)
end
section
variable {rs:Nat->List V->St->Prop}{Φ:Phi}
theorem xor_rc {a b c:Nat} (h:a ^^^ c=b ^^^ c):a=b:=by
 have:=congrArg (· ^^^ c) h
 simpa only [Nat.xor_assoc,Nat.xor_self,Nat.xor_zero] using this
theorem xor_lc {a b c:Nat} (h:c ^^^ a=c ^^^ b):a=b:=xor_rc (c:=c) (by rw [Nat.xor_comm a,Nat.xor_comm b];exact h)
noncomputable def half (w:Nat):Nat:=(w >>> 4) ^^^ tblN.getD (w &&& 15) 0
noncomputable def stepN (w o:Nat):Nat:=half (half (w ^^^ o))
noncomputable def crcN (b:List UInt8):Nat:=b.foldl (λw u=>stepN w u.toNat) 4294967295 ^^^ 4294967295
theorem tbl_lt (i:Nat):tblN.getD i 0<2 ^ 32:=by
 by_cases h:i<16
 ·have:∀ j,j<16->tblN.getD j 0<2 ^ 32:=by decide +kernel
  exact this i h
 ·rw [List.getD_eq_getElem?_getD,List.getElem?_eq_none (by have:tblN.length=16:=rfl;lia)];decide
theorem half_lt {w:Nat} (h:w<2 ^ 32):half w<2 ^ 32:=Nat.xor_lt_two_pow (Nat.lt_of_le_of_lt (Nat.shiftRight_le _ _) h) (tbl_lt _)
theorem step_lt {w o:Nat} (h:w<2 ^ 32) (ho:o<256):stepN w o<2 ^ 32:=half_lt (half_lt (Nat.xor_lt_two_pow h (Nat.lt_of_lt_of_le ho (by decide))))
theorem fold_lt:∀ (b:List UInt8) {w:Nat},w<2 ^ 32->b.foldl (λw u=>stepN w u.toNat) w<2 ^ 32
 | [],_,h=>h
 | u::b,_,h=>fold_lt b (step_lt h u.toNat_lt)
theorem crc_lt (b:List UInt8):crcN b<2 ^ 32:=Nat.xor_lt_two_pow (fold_lt b (by decide)) (by decide)
theorem tbl_at {c w:Nat}{σ:St}{k:V->Prop} (h:σ.L c=some tbl) (q:k (.int ((tblN.getD (w &&& 15) 0:Nat):Int))):getidx (.ref c) (.int ((w &&& 15:Nat):Int)) σ k:=by
 have hlt:w &&& 15<16:=Nat.lt_of_le_of_lt Nat.and_le_right (by decide)
 refine i_L (j:=w &&& 15) h ?_ ?_ q
 ·unfold seqIndex?
  have h1:¬ (((w &&& 15:Nat):Int)<0):=by lia
  have h2:tbl.length=16:=rfl
  rw [if_neg h1,h2]
  simp only [Int.toNat_natCast]
  rw [if_pos]
  simp;lia
 ·unfold tbl
  rw [List.getElem?_map,List.getD_eq_getElem?_getD,List.getElem?_eq_getElem (by show w &&& 15<tblN.length;exact hlt)]
  rfl
noncomputable def bd12b:SL:=(.cons (.asg 2 (.bin .xor (.var 2) (.var 3))) (.cons (.asg 2 (.bin .xor (.bin .shr (.var 2) (.int 4)) (.idx (.var 1) (.bin .and (.var 2) (.int 15))))) (.cons (.asg 2 (.bin .xor (.bin .shr (.var 2) (.int 4)) (.idx (.var 1) (.bin .and (.var 2) (.int 15))))) .nil)))
theorem turn12 {c w:Nat}{u:UInt8}{lo:Lo}{σ:St}{K:KL} (hl:lo.length=4) (h1:lo[1]?=some (some (.ref c))) (h2:lo[2]?=some (some (.int w))) (h3:lo[3]?=some (some (octet u))) (hL:σ.L c=some tbl)
 (q:∀ lo',lo'.length=4->lo'[1]?=some (some (.ref c))->lo'[2]?=some (some (.int (stepN w u.toNat)))->K .nx lo' σ):wpSL (tabsP rs) Φ bd12b lo σ K:=by
 unfold bd12b
 have a2:∀ (l:Lo) (v:V),l.length=4->(l.set 2 (some v))[2]?=some (some v):=λl v h=>List.getElem?_set_self (by rw [h];decide)
 have a1:∀ (l:Lo) (v:V),l[1]?=some (some (.ref c))->(l.set 2 (some v))[1]?=some (some (.ref c)):=λl v h=>by rw [List.getElem?_set_ne (by decide)];exact h
 have hs:∀ (l:Lo) (v:V),l.length=4->(l.set 2 (some v)).length=4:=λl v h=>by rw [List.length_set];exact h
 kp_flats
 refine kVar_of h2 (kVar_of h3 ?_)
 unfold octet
 kp_flats
 rw [bXor]
 refine kVar_of (a2 _ _ hl) (b_shr (by decide) ?_)
 refine kVar_of (a1 _ _ h1) (kVar_of (a2 _ _ hl) ?_)
 kp_flats
 rw [show (15:Int)=((15:Nat):Int) from rfl,bAnd]
 refine tbl_at hL ?_
 kp_flats
 rw [show (2:Int) ^ Int.toNat 4=2 ^ 4 from rfl,shrN,bXor]
 refine kVar_of (a2 _ _ (hs _ _ hl)) (b_shr (by decide) ?_)
 refine kVar_of (a1 _ _ (a1 _ _ h1)) (kVar_of (a2 _ _ (hs _ _ hl)) ?_)
 kp_flats
 rw [bAnd]
 refine tbl_at hL ?_
 kp_flats
 rw [show (2:Int) ^ Int.toNat 4=2 ^ 4 from rfl,shrN,bXor]
 exact q _ (hs _ _ (hs _ _ (hs _ _ hl))) (a1 _ _ (a1 _ _ (a1 _ _ h1))) (a2 _ _ (hs _ _ (hs _ _ hl)))
theorem loop12 {c:Nat}{σ:St}{K:KL} (hL:σ.L c=some tbl):∀ (b:List UInt8) (w:Nat) (lo:Lo),lo.length=4->lo[1]?=some (some (.ref c))->lo[2]?=some (some (.int w)) ->
 (∀ lo',lo'[2]?=some (some (.int (b.foldl (λw u=>stepN w u.toNat) w:Nat)))->K .nx lo' σ)->loopW (.one 3) (λø=>True) (bodyK (tabsP rs) Φ bd12b) K (b.map octet) lo σ
 | []=>λw lo ø ø h2 q=>lw_nil True.intro (q lo h2)
 | u::b=>λw lo hl h1 h2 q=>by
   refine lw_one True.intro ?_
   rw [q_body]
   refine turn12 (c:=c) (w:=w) (u:=u) (by rw [List.length_set];exact hl) ?_ ?_ (List.getElem?_set_self (by rw [hl];decide)) hL λlo' e1 e2 e3=>?_
   ·rw [List.getElem?_set_ne (by decide)];exact h1
   ·rw [List.getElem?_set_ne (by decide)];exact h2
   ·rw [q_lknx]
    exact loop12 hL b _ lo' e1 e2 e3 q
noncomputable def C12 (Φ:Ph):Prop:=∀ (b:List UInt8) σ k,b.length<=big->k (.int (crcN b:Nat)) σ->Φ [.bytes b] σ k
theorem b12 (h11:C11 (Φ 11)):C12 (fW rs Φ 1 4 bd12):=by
 intro b σ k hb h
 refine fW_of rfl ?_
 unfold bd12
 repeat kbo_bools
 refine h11 _ _ λc hc=>?_
 repeat kbo_bools
 refine kObj_b hb ?_
 refine loop12 L_eq b 4294967295 _ rfl rfl rfl λlo' e=>?_
 repeat kbo_bools
 refine kVar_of e ?_
 repeat kbo_bools
 rw [show (4294967295:Int)=((4294967295:Nat):Int) from rfl,bXor]
 exact retK_of σ (by tlg_ne) h
noncomputable def sumO (b:List UInt8):List UInt8:=[(crcN b &&& 255).toUInt8,(crcN b >>> 8 &&& 255).toUInt8,(crcN b >>> 16 &&& 255).toUInt8,(crcN b >>> 24).toUInt8]
noncomputable def C14 (Φ:Ph):Prop:=∀ (b:List UInt8) σ k,b.length<=big->k (.bytes (sumO b)) σ->Φ [.bytes b] σ k
theorem b14 (h12:C12 (Φ 12)):C14 (fW rs Φ 1 2 bd14):=by
 intro b σ k hb h
 refine fW_of rfl ?_
 unfold bd14
 repeat kbo_bools
 refine h12 _ _ _ hb ?_
 repeat kbo_bools
 intro c hc
 refine bytes_L L_eq (by with_unfolding_all rfl) ?_ ?_
 ·intro m hm
  rw [show (255:Int)=((255:Nat):Int) from rfl,show (2:Int) ^ Int.toNat 8=2 ^ 8 from rfl,show (2:Int) ^ Int.toNat 16=2 ^ 16 from rfl,show (2:Int) ^ Int.toNat 24=2 ^ 24 from rfl,shrN,shrN,shrN,bAnd,bAnd,bAnd] at hm
  have lt:∀ x:Nat,x &&& 255<256:=λx=>Nat.lt_of_le_of_lt Nat.and_le_right (by decide)
  have c24:crcN b >>> 24<256:=by rw [Nat.shiftRight_eq_div_pow];have:=crc_lt b;lia
  have l1:=lt (crcN b)
  have l2:=lt (crcN b >>> 8)
  have l3:=lt (crcN b >>> 16)
  simp only [List.mem_cons,List.not_mem_nil,or_false] at hm
  rcases hm with rfl | rfl | rfl | rfl <;> lia
 ·repeat kbo_bools
  refine retK_of σ (by tlg_ne) ?_
  rw [show (255:Int)=((255:Nat):Int) from rfl,show (2:Int) ^ Int.toNat 8=2 ^ 8 from rfl,show (2:Int) ^ Int.toNat 16=2 ^ 16 from rfl,show (2:Int) ^ Int.toNat 24=2 ^ 24 from rfl,shrN,shrN,shrN,bAnd,bAnd,bAnd]
  exact h
theorem half_inj {w v:Nat} (hw:w<2 ^ 32) (hv:v<2 ^ 32) (h:half w=half v):w=v:=by
 have top:∀ {x:Nat},x<2 ^ 32->half x >>> 28=tblN.getD (x &&& 15) 0 >>> 28:=λ{x} hx=>by
  unfold half
  rw [Nat.shiftRight_xor_distrib,<- Nat.shiftRight_add]
  have:x >>> (4+28)=0:=by rw [Nat.shiftRight_eq_div_pow];lia
  rw [this,Nat.zero_xor]
 have d:∀ i,i<16->∀ j,j<16->tblN.getD i 0 >>> 28=tblN.getD j 0 >>> 28->i=j:=by decide +kernel
 have i1:w &&& 15<16:=Nat.lt_of_le_of_lt Nat.and_le_right (by decide)
 have i2:v &&& 15<16:=Nat.lt_of_le_of_lt Nat.and_le_right (by decide)
 have e:=d _ i1 _ i2 (by rw [<- top hw,<- top hv,h])
 have h':(w >>> 4) ^^^ tblN.getD (w &&& 15) 0=(v >>> 4) ^^^ tblN.getD (w &&& 15) 0:=by
  have:=h;unfold half at this;rw [e];rw [e] at this;exact this
 have e4:w >>> 4=v >>> 4:=xor_rc h'
 have m1:w &&& 15=w % 16:=Nat.and_two_pow_sub_one_eq_mod w 4
 have m2:v &&& 15=v % 16:=Nat.and_two_pow_sub_one_eq_mod v 4
 rw [m1,m2] at e
 rw [Nat.shiftRight_eq_div_pow,Nat.shiftRight_eq_div_pow] at e4
 lia
theorem step_inj {w v o p:Nat} (hw:w<2 ^ 32) (hv:v<2 ^ 32) (ho:o<256) (hp:p<256) (h:stepN w o=stepN v p):w ^^^ o=v ^^^ p:=by
 have l1:w ^^^ o<2 ^ 32:=Nat.xor_lt_two_pow hw (Nat.lt_of_lt_of_le ho (by decide))
 have l2:v ^^^ p<2 ^ 32:=Nat.xor_lt_two_pow hv (Nat.lt_of_lt_of_le hp (by decide))
 exact half_inj l1 l2 (half_inj (half_lt l1) (half_lt l2) h)
theorem fold_inj:∀ (b:List UInt8) {w v:Nat},w<2 ^ 32->v<2 ^ 32->b.foldl (λw u=>stepN w u.toNat) w=b.foldl (λw u=>stepN w u.toNat) v->w=v
 | [],_,_,_,_,h=>h
 | u::b,_,_,hw,hv,h=>xor_rc (step_inj hw hv u.toNat_lt u.toNat_lt (fold_inj b (step_lt hw u.toNat_lt) (step_lt hv u.toNat_lt) h))
theorem crc_turned {x y:UInt8}{r:List UInt8} (h:crcN (x::r)=crcN (y::r)):x=y:=by
 have h:=xor_rc h
 have h:=fold_inj r (step_lt (by decide) x.toNat_lt) (step_lt (by decide) y.toNat_lt) h
 have h:=step_inj (by decide) (by decide) x.toNat_lt y.toNat_lt h
 exact UInt8.toNat_inj.mp (xor_lc h)
theorem sum_inj {a b:List UInt8} (h:sumO a=sumO b):crcN a=crcN b:=by
 unfold sumO at h
 simp only [List.cons.injEq,and_true] at h
 obtain ⟨h1,h2,h3,h4⟩:=h
 have e:∀ {x y:Nat},x<256->y<256->x.toUInt8=y.toUInt8->x=y:=λ{x y} hx hy q=>by
  have:=congrArg UInt8.toNat q
  simp [Nat.toUInt8] at this
  omega
 have lt:∀ x:Nat,x &&& 255<256:=λx=>Nat.lt_of_le_of_lt Nat.and_le_right (by decide)
 have c24:∀ x,crcN x >>> 24<256:=λx=>by rw [Nat.shiftRight_eq_div_pow];have:=crc_lt x;omega
 have g1:=e (lt _) (lt _) h1
 have g2:=e (lt _) (lt _) h2
 have g3:=e (lt _) (lt _) h3
 have g4:=e (c24 _) (c24 _) h4
 have m:∀ x:Nat,x &&& 255=x % 256:=λx=>Nat.and_two_pow_sub_one_eq_mod x 8
 have s:∀ x y:Nat,x % 256=y % 256->x / 256=y / 256->x=y:=λx y h1 h2=>by rw [<- Nat.div_add_mod x 256,<- Nat.div_add_mod y 256,h1,h2]
 rw [m,m] at g1 g2 g3
 simp only [Nat.shiftRight_eq_div_pow] at g2 g3 g4
 refine s _ _ g1 (s _ _ g2 (s _ _ ?_ ?_))
 ·rw [Nat.div_div_eq_div_mul,Nat.div_div_eq_div_mul];exact g3
 ·rw [Nat.div_div_eq_div_mul,Nat.div_div_eq_div_mul,Nat.div_div_eq_div_mul,Nat.div_div_eq_div_mul];exact g4
end
section
variable {rs:Nat->List V->St->Prop}{Φ:Phi}
noncomputable def pad (p:List UInt8) (least:Int):List UInt8:=if (p.length:Int)<least then p++List.replicate (least - p.length).toNat 0 else p
noncomputable def hdB (t s kd:Int) (p:List UInt8):List UInt8:=((p48 t++p48 s)++p16 kd)++p
noncomputable def frameB (t s kd:Int) (p:List UInt8) (least:Int):List UInt8:=hdB t s kd (pad p least)++sumO (hdB t s kd (pad p least))
theorem sumO_len (b:List UInt8):(sumO b).length=4:=rfl
theorem pad_len {p:List UInt8}{least:Int} (h:p.length<=500) (hl:least<=400):(pad p least).length<=500:=by
 unfold pad
 split
 ·rw [List.length_append,List.length_replicate];lia
 ·exact h
theorem hdB_len (t s kd:Int) (p:List UInt8):(hdB t s kd p).length=14+p.length:=by
 unfold hdB
 simp only [List.length_append,p48_len,p16_len]
noncomputable def C15 (Φ:Ph):Prop:=∀ (f:Nat) (t s kd:Int) (p:List UInt8) (least:Int) σ k,σ.I f=some (1,frmF t s kd p)->p.length<=500->least<=400->k (.bytes (frameB t s kd p least)) σ->Φ [.ref f,.int least] σ k
theorem b15 (h0:C0 (Φ 0)) (h2:C2 (Φ 2)) (h14:C14 (Φ 14)):C15 (fW rs Φ 2 4 bd15):=by
 intro f t s kd p least σ k hI hp hl h
 refine fW_of rfl ?_
 have hpl:=pad_len hp hl
 unfold frameB at h
 have fin:∀ (lo:Lo) (x:List UInt8),pad p least=x->lo.length=4->lo[2]?=some (some (.bytes x))->lo[0]?=some (some (.ref f)) ->
  wpSL (tabsP rs) Φ (SL.cons (S.asg 3 (.bin .add (.bin .add (.bin .add (.call 2 (.cons (.attr (.var 0) 4) .nil)) (.call 2 (.cons (.attr (.var 0) 5) .nil))) (.call 0 (.cons (.attr (.var 0) 6) .nil))) (.var 2))) (SL.cons (.ret (.bin .add (.var 3) (.call 14 (.cons (.var 3) .nil)))) .nil)) lo σ (retK k):=by
  intro lo x e hlo e2 e0
  rw [e] at h hpl
  kp_flats
  refine kVar_of e0 ?_
  repeat kbo_bools
  refine h2 _ _ _ ?_
  refine kVar_of e0 ?_
  repeat kbo_bools
  refine h2 _ _ _ ?_
  repeat kbo_bools
  refine kVar_of e0 ?_
  repeat kbo_bools
  refine h0 _ _ _ ?_
  repeat kbo_bools
  refine kVar_of e2 ?_
  refine b_cat (by simp only [List.length_append,p48_len,p16_len];unfold big;lia) ?_
  have e3:∀ v:V,(lo.set 3 (some v))[3]?=some (some v):=λv=>List.getElem?_set_self (by rw [hlo];decide)
  kp_flats
  refine kVar_of (e3 _) (kVar_of (e3 _) ?_)
  have hb:=hdB_len t s kd x
  refine h14 _ _ _ (by show (hdB t s kd x).length<=big;unfold big;lia) ?_
  refine b_cat (by rw [sumO_len];show (hdB t s kd x).length+4<=big;unfold big;lia) ?_
  exact retK_same h
 unfold bd15
 kbo_bools
 kbo_bools
 kbo_bools
 repeat kbo_bools
 revert fin
 generalize hK:seqK (tabsP rs) Φ (SL.cons (S.asg 3 (.bin .add (.bin .add (.bin .add (.call 2 (.cons (.attr (.var 0) 4) .nil)) (.call 2 (.cons (.attr (.var 0) 5) .nil))) (.call 0 (.cons (.attr (.var 0) 6) .nil))) (.var 2))) (SL.cons (.ret (.bin .add (.var 3) (.call 14 (.cons (.var 3) .nil)))) .nil)) (retK k)=K'
 intro fin
 have fin':∀ (lo:Lo) (x:List UInt8),pad p least=x->lo.length=4->lo[2]?=some (some (.bytes x))->lo[0]?=some (some (.ref f))->K' .nx lo σ:=λlo x a b c d=>by rw [<- hK];exact fin lo x a b c d
 by_cases q:(p.length:Int)<least
 ·have e:pad p least=p++List.replicate (least - p.length).toNat 0:=if_pos q
  repeat kbo_bools
  refine bytes_n (by lia) (by unfold big;lia) ?_
  refine b_cat (by rw [List.length_replicate];unfold big;lia) ?_
  exact fin' _ _ e rfl rfl rfl
 ·have e:pad p least=p:=if_neg q
  repeat kbo_bools
  exact fin' _ _ e rfl rfl rfl
noncomputable def C16 (Φ:Ph):Prop:=∀ (hd:List UInt8) σ k,14<=hd.length->hd.length<=600->(∀ r,σ.fresh r->k (.ref r) (σ.setI r (1,frmF (g48 hd 0) (g48 hd 6) (g16 hd 12) (hd.drop 14))))->Φ [.bytes (hd++sumO hd)] σ k
theorem b16 (h4:C4 (Φ 4)) (h6:C6 (Φ 6)) (h13:C13 (Φ 13)) (h14:C14 (Φ 14)):C16 (fW rs Φ 1 2 bd16):=by
 intro hd σ k h1 h2 h
 refine fW_of rfl ?_
 have hl:(hd++sumO hd).length<=big:=by rw [List.length_append,sumO_len];unfold big;lia
 have hl2:((hd++sumO hd).length:Int)=hd.length+4:=by rw [List.length_append,sumO_len];lia
 have hb:hd.length<=big:=by unfold big;lia
 unfold bd16
 repeat kbo_bools
 refine l_bytes hl rfl rfl ?_
 rw [cut_body (sumO_len _)]
 repeat kbo_bools
 refine h14 _ _ _ hb ?_
 repeat kbo_bools
 refine l_bytes hl rfl rfl ?_
 rw [cut_sum (sumO_len _)]
 repeat kbo_bools
 refine kIf_f (by acc_open) ?_
 repeat kbo_bools
 refine h6 hd 0 _ _ hb (by lia) ?_
 repeat kbo_bools
 refine h6 hd 6 _ _ hb (by lia) ?_
 repeat kbo_bools
 refine h4 hd 12 _ _ hb (by lia) ?_
 repeat kbo_bools
 refine l_bytes hb rfl rfl ?_
 rw [show (14:Int)=((14:Nat):Int) from rfl,cut_from h1]
 repeat kbo_bools
 intro r hr
 refine h13 _ _ _ _ _ _ _ I_eq ⟨rfl,?_⟩
 repeat kbo_bools
 rw [St.setI_setI]
 exact retK_same (h r hr)
noncomputable def rsP (g:Nat) (vs:List V) (_:St):Prop:=g=16/\∃ hd s:List UInt8,vs=[.bytes (hd++s)]/\s.length=4/\14<=hd.length/\hd.length<=600/\sumO hd≠s
theorem x16 (h14:C14 (Φ 14)):∀ (hd s:List UInt8) σ,s.length=4->14<=hd.length->hd.length<=600->sumO hd≠s->wpSL (tabsP rs) Φ bd16 (lo0 2 [.bytes (hd++s)]) σ (λfl ø σ'=>match fl with | .ex=>σ.sub σ' | _=>False):=by
 intro hd s σ hs h1 h2 hn
 have hl:(hd++s).length<=big:=by rw [List.length_append,hs];unfold big;lia
 have hl2:((hd++s).length:Int)=hd.length+4:=by rw [List.length_append,hs];lia
 have hb:hd.length<=big:=by unfold big;lia
 unfold bd16
 repeat kbo_bools
 refine l_bytes hl rfl rfl ?_
 rw [cut_body hs]
 repeat kbo_bools
 refine h14 _ _ _ hb ?_
 repeat kbo_bools
 refine l_bytes hl rfl rfl ?_
 rw [cut_sum hs]
 repeat kbo_bools
 exact St.sub.refl σ
end
section
variable {rs:Nat->List V->St->Prop}{Φ:Phi}
noncomputable def lk (b:Bool):Int:=if b then 60 else 50
noncomputable def ad (b:Bool):Int:=if b then 258 else 257
noncomputable def ix (b:Bool):Int:=if b then 1 else 0
noncomputable def BC:Int:=281474976710655
noncomputable def C17 (Φ:Ph):Prop:=∀ σ k,k (.int 4294967040) σ->Φ [.int 24] σ k
theorem b17:C17 (fW rs Φ 1 1 bd17):=by
 intro σ k h
 refine fW_of rfl ?_
 unfold bd17
 repeat kbo_bools
 exact retK_same h
noncomputable def C18 (Φ:Ph):Prop:=∀ b σ k,k (.int 256) σ->Φ [.int (ad b),.int 24] σ k
theorem b18 (h17:C17 (Φ 17)):C18 (fW rs Φ 2 2 bd18):=by
 intro b σ k h
 refine fW_of rfl ?_
 unfold bd18
 repeat kbo_bools
 refine h17 _ _ ?_
 kp_flats
 rw [show Builtin.bitAnd (ad b) 4294967040=256 by cases b <;> decide +kernel]
 exact retK_same h
noncomputable def C19 (Φ:Ph):Prop:=∀ (x:Int) b σ k,x≠4294967295->k (.bool (x == 511)) σ->Φ [.int x,.int (ad b),.int 24] σ k
theorem b19 (h17:C17 (Φ 17)) (h18:C18 (Φ 18)):C19 (fW rs Φ 3 3 bd19):=by
 intro x b σ k hx h
 refine fW_of rfl ?_
 unfold bd19
 repeat kbo_bools
 refine h18 _ _ _ ?_
 repeat kbo_bools
 refine h17 _ _ ?_
 repeat kbo_bools
 exact retK_same h
noncomputable def fcF (b:Bool) (least:Int) (arp:Nat) (w:Int):List (Nat×V):=[(8,.int (lk b)),(9,.int (ad b)),(10,.int 24),(11,.int 1500),(12,.ref arp),(13,.int least),(14,.int w)]
noncomputable def apF (b:Bool) (tab:Nat):List (Nat×V):=[(8,.int (lk b)),(9,.int (ad b)),(15,.ref tab)]
noncomputable def tbF (en:Nat) (made:Int):List (Nat×V):=[(20,.int 3),(21,.int 90),(22,.int 2),(23,.int 5),(24,.int 3),(25,.ref en),(26,.int made)]
noncomputable def etF (key ord:Int) (link:V) (since tries:Int) (q:Nat):List (Nat×V):=[(9,.int key),(16,.int ord),(8,link),(17,.int since),(18,.int tries),(19,.ref q)]
noncomputable def C20 (Φ:Ph):Prop:=∀ (r:Nat) b (arp:Nat) (least:Int) σ k,σ.I r=some (2,[])->k .none (σ.setI r (2,fcF b least arp 0))->Φ [.ref r,.int (lk b),.int (ad b),.int 24,.int 1500,.ref arp,.int least] σ k
theorem b20:C20 (fW rs Φ 7 7 bd20):=by
 intro r b arp least σ k hI h
 refine fW_of rfl ?_
 unfold bd20
 repeat kbo_bools
 refine retK_nx ?_
 simp only [St.setI_setI]
 exact h
noncomputable def C24 (Φ:Ph):Prop:=∀ (r:Nat) b (tab:Nat) σ k,σ.I r=some (3,[])->k .none (σ.setI r (3,apF b tab))->Φ [.ref r,.int (lk b),.int (ad b),.ref tab] σ k
theorem b24:C24 (fW rs Φ 4 4 bd24):=by
 intro r b tab σ k hI h
 refine fW_of rfl ?_
 unfold bd24
 repeat kbo_bools
 refine retK_nx ?_
 simp only [St.setI_setI]
 exact h
noncomputable def C29 (Φ:Ph):Prop:=∀ (r:Nat) σ k,σ.I r=some (5,[])->(∀ en,σ.fresh en->k .none ((σ.setD en []).setI r (5,tbF en 0)))->Φ [.ref r,.int 3,.int 90,.int 2,.int 5,.int 3] σ k
theorem kDict_of {ks:List DK}{vs:List V}{k:KV}{σ:St} (h:vs.length=ks.length) (h2:vs.length<=15) (q:∀ c,σ.fresh c->k (.ref c) (σ.setD c ((ks.map DK.v).zip vs))):kDict ks k vs σ:=⟨h,h2,q⟩
theorem St.setI_setD (σ:St) (a b:Nat) (x y):(σ.setI a x).setD b y=(σ.setD b y).setI a x:=rfl
theorem St.setI_setL (σ:St) (a b:Nat) (x y):(σ.setI a x).setL b y=(σ.setL b y).setI a x:=rfl
theorem St.setI_setT (σ:St) (a b:Nat) (x y):(σ.setI a x).setT b y=(σ.setT b y).setI a x:=rfl
theorem b29:C29 (fW rs Φ 6 6 bd29):=by
 intro r σ k hI h
 refine fW_of rfl ?_
 unfold bd29
 repeat kbo_bools
 refine kDict_of rfl (by decide) λen hen=>?_
 repeat kbo_bools
 refine retK_nx ?_
 simp only [St.setI_setI,St.setI_setD]
 simp only [St.setI_setI] at hen
 refine h en ⟨?_,hen.2⟩
 have:=hen.1
 cases q:σ.I en with
 | none=>rfl
 | some x=>
   by_cases e:en=r
   ·subst e;rw [I_eq] at this;cases this
   ·rw [I_ne e q] at this;cases this
noncomputable def C21 (Φ:Ph):Prop:=∀ (i:Nat) b (least:Int) (arp:Nat) (w t kd:Int) (p:List UInt8) σ k,σ.I i=some (2,fcF b least arp w)->p.length<=500->least<=400->k (.bytes (frameB t (lk b) kd p least)) σ->Φ [.ref i,.int t,.int kd,.bytes p] σ k
theorem b21 (h13:C13 (Φ 13)) (h15:C15 (Φ 15)):C21 (fW rs Φ 4 4 bd21):=by
 intro i b least arp w t kd p σ k hI hp hl h
 refine fW_of rfl ?_
 unfold bd21
 repeat kbo_bools
 intro f hf
 refine h13 _ _ _ _ _ _ _ I_eq ⟨rfl,?_⟩
 repeat kbo_bools
 refine h15 _ _ _ _ _ _ _ _ I_eq hp hl ?_
 repeat kbo_bools
 rw [St.setI_setI]
 exact retK_of σ (by tlg_ne) h
structure Rq where
 tg:Int
 op:Int
 sl:Int
 s:Int
 tl:Int
 t:Int
inductive ReqR (σ:St):List V->List Rq->Prop
 | nil:ReqR σ [] []
 | cons {a p:Nat}{xs:List V}{r:Rq}{rs:List Rq} (h1:σ.T a=some [.int r.tg,.ref p]) (h2:σ.I p=some (0,pktF r.op r.sl r.s r.tl r.t)) (h:ReqR σ xs rs):ReqR σ (.ref a::xs) (r::rs)
inductive PayR (σ:St):List V->List (Int×List UInt8)->Prop
 | nil:PayR σ [] []
 | cons {a:Nat}{xs:List V}{r:Int×List UInt8}{rs:List (Int×List UInt8)} (h1:σ.T a=some [.int r.1,.bytes r.2]) (h:PayR σ xs rs):PayR σ (.ref a::xs) (r::rs)
theorem ReqR.mono {σ τ:St} (hT:∀ a x,σ.T a=some x->τ.T a=some x) (hI:∀ a x,σ.I a=some (0,x)->τ.I a=some (0,x)) {xs:List V}{rs:List Rq} (h:ReqR σ xs rs):ReqR τ xs rs:=by
 induction h with
 | nil=>exact .nil
 | cons h1 h2 _ ih=>exact .cons (hT _ _ h1) (hI _ _ h2) ih
theorem ReqR.len {σ:St}{xs:List V}{rs:List Rq} (h:ReqR σ xs rs):xs.length=rs.length:=by
 induction h with
 | nil=>rfl
 | cons _ _ _ ih=>simp [ih]
theorem PayR.len {σ:St}{xs:List V}{rs:List (Int×List UInt8)} (h:PayR σ xs rs):xs.length=rs.length:=by
 induction h with
 | nil=>rfl
 | cons _ _ ih=>simp [ih]
theorem PayR.mono {σ τ:St} (hT:∀ a x,σ.T a=some x->τ.T a=some x) {xs:List V}{rs:List (Int×List UInt8)} (h:PayR σ xs rs):PayR τ xs rs:=by
 induction h with
 | nil=>exact .nil
 | cons h1 _ ih=>exact .cons (hT _ _ h1) ih
noncomputable def rqB (b:Bool) (least:Int) (r:Rq):List UInt8:=frameB r.tg (lk b) 2054 (parp r.op r.sl r.s r.tl r.t) least
noncomputable def pyB (b:Bool) (least:Int) (r:Int×List UInt8):List UInt8:=frameB r.1 (lk b) 2048 r.2 least
theorem parp_len (op sl s tl t:Int):(parp op sl s tl t).length=28:=rfl
noncomputable def bd22e:E:=.meth (.var 0) 43 (.cons (.var 1) (.cons (.gint "KIND_ARP" 2054) (.cons (.call 8 (.cons (.var 2) .nil)) .nil)))
theorem comp22 (h8:C8 (Φ 8)) (h21:C21 (Φ 21)) {i:Nat}{b:Bool}{least:Int}{arp:Nat}{w:Int}{l:Nat}{g:Guard}{σ:St}{k:St->Prop} (hl:least<=400) (hI:σ.I i=some (2,fcF b least arp w)) (hg:∀ acc,g (σ.setL l acc)) {xs:List V}{rs':List Rq} (h:ReqR σ xs rs') :
 ∀ (acc:List V),acc.length+xs.length<=big->k (σ.setL l (acc++rs'.map λr=>.bytes (rqB b least r))) ->
   compW l (.many [1,2]) g (condK (tabsP rs) Φ .tru) (elemK (tabsP rs) Φ bd22e) [some (.ref i),none,none] k xs (σ.setL l acc):=by
 induction h with
 | nil=>intro acc _ q;exact cw_nil (hg acc) (by simpa using q)
 | @cons a p xs r rs' h1 h2 h3 ih=>
   intro acc hb q
   have hb:acc.length+(xs.length+1)<=big:=hb
   refine cw_many (hg acc) (T_of_L h1) rfl ?_
   unfold bd22e
   repeat kbo_bools
   refine h8 _ _ _ _ _ _ _ _ (I_of_L h2) ?_
   refine h21 _ _ _ _ _ _ _ _ _ _ (I_of_L hI) (by rw [parp_len];decide) hl ?_
   refine compA_of L_eq (by lia) ?_
   rw [St.setL_setL]
   refine ih _ (by rw [List.length_append];show acc.length+1+xs.length<=big;lia) ?_
   rw [List.append_assoc]
   exact q
noncomputable def bd22b:SL:=(.cons (.expr (.m1 .append (.var 3) (.meth (.var 0) 43 (.cons (.var 4) (.cons (.gint "KIND_IP" 2048) (.cons (.var 5) .nil)))))) .nil)
theorem loop22 (h21:C21 (Φ 21)) {i:Nat}{b:Bool}{least:Int}{arp:Nat}{w:Int}{l pl:Nat}{all:List V}{σ:St}{K:KL} (hl:least<=400) (hI:σ.I i=some (2,fcF b least arp w)) (hp:σ.L pl=some all) (hne:pl≠l) {xs:List V}{ps:List (Int×List UInt8)} (h:PayR σ xs ps) :
 ∀ (acc:List V) (lo:Lo),lo.length=6->lo[0]?=some (some (.ref i))->lo[3]?=some (some (.ref l))->acc.length+xs.length<=big->(∀ p∈ps,p.2.length<=500) ->
   (∀ lo',lo'[3]?=some (some (.ref l))->K .nx lo' (σ.setL l (acc++ps.map λr=>.bytes (pyB b least r)))) ->
   loopW (.many [4,5]) (λτ=>τ.L pl=some all) (bodyK (tabsP rs) Φ bd22b) K xs lo (σ.setL l acc):=by
 induction h with
 | nil=>intro acc lo _ _ h3 _ _ q;exact lw_nil (L_ne hne hp) (by simpa using q lo h3)
 | @cons a xs r ps h1 h2 ih=>
   intro acc lo hlo h0 h3 hb hs q
   have hb:acc.length+(xs.length+1)<=big:=hb
   refine lw_many (L_ne hne hp) (T_of_L h1) rfl ?_
   have e0:(bindMany [4,5] [.int r.1,.bytes r.2] lo)[0]?=some (some (.ref i)):=by
    show ((lo.set 4 _).set 5 _)[0]?=_
    rw [List.getElem?_set_ne (by decide),List.getElem?_set_ne (by decide)];exact h0
   have e3:(bindMany [4,5] [.int r.1,.bytes r.2] lo)[3]?=some (some (.ref l)):=by
    show ((lo.set 4 _).set 5 _)[3]?=_
    rw [List.getElem?_set_ne (by decide),List.getElem?_set_ne (by decide)];exact h3
   have e4:(bindMany [4,5] [.int r.1,.bytes r.2] lo)[4]?=some (some (.int r.1)):=by
    show ((lo.set 4 _).set 5 _)[4]?=_
    rw [List.getElem?_set_ne (by decide)];exact List.getElem?_set_self (by rw [hlo];decide)
   have e5:(bindMany [4,5] [.int r.1,.bytes r.2] lo)[5]?=some (some (.bytes r.2)):=by
    show ((lo.set 4 _).set 5 _)[5]?=_
    exact List.getElem?_set_self (by rw [List.length_set,hlo];decide)
   have el:(bindMany [4,5] [.int r.1,.bytes r.2] lo).length=6:=by
    show ((lo.set 4 _).set 5 _).length=6
    rw [List.length_set,List.length_set];exact hlo
   generalize bindMany [4,5] [.int r.1,.bytes r.2] lo=lo' at e0 e3 e4 e5 el |-
   unfold bd22b
   kp_flats
   refine kVar_of e3 ?_
   repeat kbo_bools
   refine kVar_of e0 ?_
   repeat kbo_bools
   refine kVar_of e4 ?_
   refine kVar_of e5 ?_
   refine h21 _ _ _ _ _ _ _ _ _ _ (I_of_L hI) (hs _ (.head _)) hl ?_
   refine x_append L_eq (by lia) ?_
   rw [St.setL_setL]
   refine ih _ lo' el e0 e3 (by rw [List.length_append];show acc.length+1+xs.length<=big;lia) (λp hp=>hs p (.tail _ hp)) λlo'' h=>?_
   rw [List.append_assoc]
   exact q lo'' h
noncomputable def C22 (Φ:Ph):Prop:=∀ (i:Nat) b (least:Int) (arp:Nat) (w:Int) (rq pl:Nat) (xs ys:List V) (rs':List Rq) (ps:List (Int×List UInt8)) σ k,σ.I i=some (2,fcF b least arp w)->least<=400->σ.L rq=some xs->σ.L pl=some ys->ReqR σ xs rs'->PayR σ ys ps ->
 xs.length+ys.length<=1000->(∀ p∈ps,p.2.length<=500)->(∀ c,σ.fresh c->k (.ref c) (σ.setL c ((rs'.map (rqB b least)++ps.map (pyB b least)).map .bytes)))->Φ [.ref i,.ref rq,.ref pl] σ k
theorem b22 (h8:C8 (Φ 8)) (h21:C21 (Φ 21)):C22 (fW rs Φ 3 6 bd22):=by
 intro i b least arp w rq pl xs ys rs' ps σ k hI hl h1 h2 hr hp hs hps h
 refine fW_of rfl ?_
 have len:=hr.len
 unfold bd22
 repeat kbo_bools
 intro l hf
 refine comp22 h8 h21 hl hI (λacc=>L_ne (fr_L hf h1) h1) hr [] (by unfold big;simp;lia) ?_
 rw [List.nil_append]
 repeat kbo_bools
 refine loop22 h21 hl hI h2 (fr_L hf h2) hp _ _ rfl rfl rfl (by rw [List.length_map];unfold big;lia) hps λlo' e=>?_
 repeat kbo_bools
 refine kVar_of e ?_
 refine retK_same ?_
 have:=h l hf
 rw [List.map_append,List.map_map,List.map_map] at this
 exact this
end
section
variable {rs:Nat->List V->St->Prop}{Φ:Phi}
structure Ext (SI SL SD:List Nat) (σ τ:St):Prop where
 I:∀ a x,a ∉ SI->σ.I a=some x->τ.I a=some x
 L:∀ a x,a ∉ SL->σ.L a=some x->τ.L a=some x
 T:∀ a x,σ.T a=some x->τ.T a=some x
 D:∀ a x,a ∉ SD->σ.D a=some x->τ.D a=some x
 al:∀ a,τ.fresh a->σ.fresh a
 nL:∀ a,¬ σ.fresh a->σ.L a=none->τ.L a=none
 nT:∀ a,¬ σ.fresh a->σ.T a=none->τ.T a=none
section
variable {SI SL SD SI' SL' SD':List Nat}{σ τ υ:St}
theorem upd_none {α:Type}{f:Nat->Option α}{a b:Nat}{x:α} (h:upd f a x b=none):f b=none:=by
 by_cases e:b=a
 ·subst e;rw [upd_same] at h;cases h
 ·rw [upd_ne _ _ e] at h;exact h
theorem fr_setI {a b:Nat}{v} (f:(τ.setI a v).fresh b):τ.fresh b:=⟨upd_none f.1,f.2⟩
theorem fr_setL {a b:Nat}{v} (f:(τ.setL a v).fresh b):τ.fresh b:=⟨f.1,upd_none f.2.1,f.2.2⟩
theorem fr_setT {a b:Nat}{v} (f:(τ.setT a v).fresh b):τ.fresh b:=⟨f.1,f.2.1,upd_none f.2.2.1,f.2.2.2⟩
theorem fr_setD {a b:Nat}{v} (f:(τ.setD a v).fresh b):τ.fresh b:=⟨f.1,f.2.1,f.2.2.1,upd_none f.2.2.2.1,f.2.2.2.2⟩
theorem Ext.refl:Ext SI SL SD σ σ:=⟨λø ø ø h=>h,λø ø ø h=>h,λø ø h=>h,λø ø ø h=>h,λø h=>h,λø ø h=>h,λø ø h=>h⟩
theorem Ext.trans (x:Ext SI SL SD σ τ) (y:Ext SI SL SD τ υ):Ext SI SL SD σ υ:=
 ⟨λa v n h=>y.I a v n (x.I a v n h),λa v n h=>y.L a v n (x.L a v n h),λa v h=>y.T a v (x.T a v h),λa v n h=>y.D a v n (x.D a v n h),λa h=>x.al a (y.al a h),
  λa n h=>y.nL a (λf=>n (x.al a f)) (x.nL a n h),λa n h=>y.nT a (λf=>n (x.al a f)) (x.nT a n h)⟩
theorem Ext.wide (x:Ext SI SL SD σ τ) (h1:∀ a∈SI,a∈SI'\/σ.fresh a) (h2:∀ a∈SL,a∈SL'\/σ.fresh a) (h3:∀ a∈SD,a∈SD'\/σ.fresh a):Ext SI' SL' SD' σ τ:=
 ⟨λa v n h=>x.I a v (λm=>(h1 a m).elim n λf=>by rw [f.1] at h;cases h) h,λa v n h=>x.L a v (λm=>(h2 a m).elim n λf=>by rw [f.2.1] at h;cases h) h,x.T,
  λa v n h=>x.D a v (λm=>(h3 a m).elim n λf=>by rw [f.2.2.2.1] at h;cases h) h,x.al,x.nL,x.nT⟩
theorem Ext.setI (x:Ext SI SL SD σ τ) {a:Nat}{v} (h:a∈SI\/σ.fresh a):Ext SI SL SD σ (τ.setI a v) where
 I b w n q:=I_ne (λe=>by subst e;rcases h with h | h;exact n h;rw [h.1] at q;cases q) (x.I b w n q)
 L:=x.L
 T:=x.T
 D:=x.D
 al b f:=x.al b (fr_setI f)
 nL:=x.nL
 nT:=x.nT
theorem Ext.setD (x:Ext SI SL SD σ τ) {a:Nat}{v} (h:a∈SD\/σ.fresh a):Ext SI SL SD σ (τ.setD a v) where
 I:=x.I
 L:=x.L
 T:=x.T
 D b w n q:=D_ne (λe=>by subst e;rcases h with h | h;exact n h;rw [h.2.2.2.1] at q;cases q) (x.D b w n q)
 al b f:=x.al b (fr_setD f)
 nL:=x.nL
 nT:=x.nT
theorem Ext.setL (x:Ext SI SL SD σ τ) {a:Nat}{v} (h:(a∈SL/\∃ w,τ.L a=some w)\/σ.fresh a):Ext SI SL SD σ (τ.setL a v) where
 I:=x.I
 L b w n q:=L_ne (λe=>by subst e;rcases h with h | h;exact n h.1;rw [h.2.1] at q;cases q) (x.L b w n q)
 T:=x.T
 D:=x.D
 al b f:=x.al b (fr_setL f)
 nL b n q:=by
  by_cases e:b=a
  ·subst e
   rcases h with ⟨_,w,h⟩ | h
   ·rw [x.nL b n q] at h;cases h
   ·exact absurd h n
  ·exact L_ne e (x.nL b n q)
 nT:=x.nT
theorem Ext.setT (x:Ext SI SL SD σ τ) {a:Nat}{v} (h:σ.fresh a):Ext SI SL SD σ (τ.setT a v) where
 I:=x.I
 L:=x.L
 T b w q:=T_ne (fr_T h q) (x.T b w q)
 D:=x.D
 al b f:=x.al b (fr_setT f)
 nL:=x.nL
 nT b n q:=by
  by_cases e:b=a
  ·subst e;exact absurd h n
  ·exact T_ne e (x.nT b n q)
theorem alive_I {a:Nat}{x} (h:σ.I a=some x):¬ σ.fresh a:=λf=>by rw [f.1] at h;cases h
theorem alive_L {a:Nat}{x} (h:σ.L a=some x):¬ σ.fresh a:=λf=>by rw [f.2.1] at h;cases h
theorem alive_T {a:Nat}{x} (h:σ.T a=some x):¬ σ.fresh a:=λf=>by rw [f.2.2.1] at h;cases h
theorem alive_D {a:Nat}{x} (h:σ.D a=some x):¬ σ.fresh a:=λf=>by rw [f.2.2.2.1] at h;cases h
end
structure Ent where
 key:Int
 a:Nat
 ord:Int
 link:V
 since:Int
 tries:Int
 q:Nat
 que:List (List UInt8)
noncomputable def entD (es:List Ent):List (V×V):=es.map λt=>(.int t.key,.ref t.a)
structure EntR (σ:St) (t:Ent):Prop where
 i:σ.I t.a=some (4,etF t.key t.ord t.link t.since t.tries t.q)
 l:σ.L t.q=some (t.que.map .bytes)
structure TabR (σ:St) (tab en:Nat) (made:Int) (es:List Ent):Prop where
 tab:σ.I tab=some (5,tbF en made)
 d:σ.D en=some (entD es)
 nL:σ.L en=none
 nT:σ.T en=none
 ent:∀ t∈es,EntR σ t
 ka:(es.map (λø=>ø.a)).Nodup
 kk:(es.map (λø=>ø.key)).Nodup
 kq:(es.map (λø=>ø.q)).Nodup
theorem dget_ent {pre post:List Ent}{t:Ent} (h:t.key ∉ pre.map (λø=>ø.key)):dget (.int t.key) (entD (pre++t::post))=some (.ref t.a):=by
 unfold dget entD
 rw [List.map_append,List.find?_append]
 have:(pre.map λt=>(V.int t.key,V.ref t.a)).find? (λp=>p.1=.int t.key)=none:=by
  rw [List.find?_eq_none]
  intro p hp
  obtain ⟨u,hu,rfl⟩:=List.mem_map.mp hp
  simp only [decide_eq_true_eq,V.int.injEq]
  exact λe=>h (List.mem_map.mpr ⟨u,hu,e⟩)
 rw [this]
 simp
theorem dget_none {es:List Ent}{k:Int} (h:k ∉ es.map (λø=>ø.key)):dget (.int k) (entD es)=none:=by
 unfold dget entD
 have:(es.map λt=>(V.int t.key,V.ref t.a)).find? (λp=>p.1=.int k)=none:=by
  rw [List.find?_eq_none]
  intro p hp
  obtain ⟨u,hu,rfl⟩:=List.mem_map.mp hp
  simp only [decide_eq_true_eq,V.int.injEq]
  exact λe=>h (List.mem_map.mpr ⟨u,hu,e⟩)
 rw [this];rfl
theorem keyFit_ent (es:List Ent) (k:Int):keyFit (.int k) (entD es)=true:=by
 unfold keyFit entD
 rw [Bool.or_eq_true];left
 rw [Bool.and_eq_true]
 refine ⟨rfl,?_⟩
 rw [List.all_map,List.all_eq_true]
 intro t _;rfl
theorem plainK_ent (es:List Ent):plainK (entD es)=true:=by
 unfold plainK entD
 rw [List.all_map,List.all_eq_true]
 intro t _;rfl
theorem dput_new {es:List Ent}{k:Int}{v:V} (h:k ∉ es.map (λø=>ø.key)):dput (.int k) v (entD es)=entD es++[(.int k,v)]:=by
 unfold dput
 rw [if_neg]
 intro q
 obtain ⟨p,hp,e⟩:=List.any_eq_true.mp q
 obtain ⟨u,hu,rfl⟩:=List.mem_map.mp hp
 simp only [decide_eq_true_eq,V.int.injEq] at e
 exact h (List.mem_map.mpr ⟨u,hu,e⟩)
theorem ddel_ent {pre post:List Ent}{t:Ent} (h:((pre++t::post).map (λø=>ø.key)).Nodup):ddel (.int t.key) (entD (pre++t::post))=entD (pre++post):=by
 rw [List.map_append,List.map_cons,List.nodup_append,List.nodup_cons] at h
 obtain ⟨_,⟨h2,_⟩,h3⟩:=h
 have f:∀ l:List Ent,t.key ∉ l.map (λø=>ø.key)->(entD l).filter (λp=>decide (p.1≠.int t.key))=entD l:=λl hl=>by
  rw [List.filter_eq_self]
  intro p hp
  obtain ⟨u,hu,rfl⟩:=List.mem_map.mp hp
  simp only [ne_eq,V.int.injEq,decide_not,Bool.not_eq_true',decide_eq_false_iff_not]
  exact λe=>hl (List.mem_map.mpr ⟨u,hu,e⟩)
 have e1:entD (pre++t::post)=entD pre++(.int t.key,.ref t.a)::entD post:=by unfold entD;simp
 have e2:entD (pre++post)=entD pre++entD post:=by unfold entD;simp
 unfold ddel
 rw [e1,e2,List.filter_append,f pre (λhm=>(h3 _ hm _ (.head _)) rfl),List.filter_cons_of_neg (by acc_open),f post h2]
theorem entD_keys (es:List Ent):(entD es).map (λø=>ø.1)=es.map λt=>V.int t.key:=by unfold entD;rw [List.map_map];rfl
theorem entD_len (es:List Ent):(entD es).length=es.length:=by unfold entD;simp
noncomputable def C28 (Φ:Ph):Prop:=∀ (e:Nat) (key ord:Int) (link:V) (since tries:Int) (q:Nat) σ k,σ.I e=some (4,etF key ord link since tries q)->k (.bool (link == .none)) σ->Φ [.ref e] σ k
theorem b28:C28 (fW rs Φ 1 1 bd28):=by
 intro e key ord link since tries q σ k hI h
 refine fW_of rfl ?_
 unfold bd28
 repeat kbo_bools
 exact retK_same h
noncomputable def C30 (Φ:Ph):Prop:=∀ (tab en:Nat) (made:Int) (e:Nat) (key ord:Int) (link:V) (since tries:Int) (q:Nat) (now:Int) σ k,σ.I tab=some (5,tbF en made)->σ.I e=some (4,etF key ord link since tries q) ->
 k (.bool (!(link == .none)&&decide (now - since<90))) σ->Φ [.ref tab,.ref e,.int now] σ k
theorem b30 (h28:C28 (Φ 28)):C30 (fW rs Φ 3 3 bd30):=by
 intro tab en made e key ord link since tries q now σ k hT hI h
 refine fW_of rfl ?_
 unfold bd30
 repeat kbo_bools
 refine h28 _ _ _ _ _ _ _ _ _ hI ?_
 kp_flats
 cases hb:(link == V.none)
 ·rw [hb] at h
  refine kAnd_t rfl ?_
  repeat kbo_bools
  exact retK_same (by simpa using h)
 ·rw [hb] at h
  refine kAnd_f rfl ?_
  exact retK_same (by simpa using h)
noncomputable def C31 (Φ:Ph):Prop:=∀ (tab en:Nat) (made:Int) (es:List Ent) (key now:Int) σ k,TabR σ tab en made es->(∀ t∈es,t.key=key->t.link=.none)->k .none σ->Φ [.ref tab,.int key,.int now] σ k
theorem ent_split {es:List Ent}{key:Int} (h:key∈es.map (λø=>ø.key)) (hk:(es.map (λø=>ø.key)).Nodup):∃ pre t post,es=pre++t::post/\t.key=key/\key ∉ pre.map (λø=>ø.key):=by
 obtain ⟨t,ht,rfl⟩:=List.mem_map.mp h
 obtain ⟨pre,post,rfl⟩:=List.append_of_mem ht
 refine ⟨pre,t,post,rfl,rfl,λhm=>?_⟩
 rw [List.map_append,List.map_cons,List.nodup_append] at hk
 exact hk.2.2 _ hm _ (.head _) rfl
theorem b31 (h30:C30 (Φ 30)):C31 (fW rs Φ 3 4 bd31):=by
 intro tab en made es key now σ k R hl h
 refine fW_of rfl ?_
 have hT:=R.tab
 unfold bd31
 repeat kbo_bools
 refine kM1_D R.d R.nL rfl ?_
 repeat kbo_bools
 refine x_get R.d (keyFit_ent es key) ?_
 by_cases hk:key∈es.map (λø=>ø.key)
 ·obtain ⟨pre,t,post,rfl,rfl,hp⟩:=ent_split hk R.kk
  rw [dget_ent hp]
  have hm:t∈pre++t::post:=List.mem_append_right _ (.head _)
  have ht:=(R.ent t hm).i
  have hlk:=hl t hm rfl
  dsimp only [Option.getD]
  repeat kbo_bools
  refine h30 _ _ _ _ _ _ _ _ _ _ _ _ _ hT ht ?_
  rw [hlk]
  repeat kbo_bools
  exact retK_same h
 ·rw [dget_none hk]
  dsimp only [Option.getD]
  repeat kbo_bools
  exact retK_same h
end
section
variable {rs:Nat->List V->St->Prop}{Φ:Phi}
noncomputable def C27 (Φ:Ph):Prop:=∀ (e:Nat) (key ord:Int) σ k,σ.I e=some (4,[])->(∀ q,σ.fresh q->k .none ((σ.setL q []).setI e (4,etF key ord .none 0 0 q)))->Φ [.ref e,.int key,.int ord] σ k
theorem b27:C27 (fW rs Φ 3 3 bd27):=by
 intro e key ord σ k hI h
 refine fW_of rfl ?_
 unfold bd27
 repeat kbo_bools
 intro q hq
 repeat kbo_bools
 refine retK_nx ?_
 simp only [St.setI_setI,St.setI_setL]
 refine h q ?_
 simp only [St.setI_setI] at hq
 exact fr_setI hq
theorem TabR.ext {SI SL SD:List Nat}{σ τ:St}{tab en:Nat}{made:Int}{es:List Ent} (R:TabR σ tab en made es) (x:Ext SI SL SD σ τ) (h1:tab ∉ SI) (h2:en ∉ SD) (h3:∀ t∈es,t.a ∉ SI/\t.q ∉ SL):TabR τ tab en made es:=
 ⟨x.I _ _ h1 R.tab,x.D _ _ h2 R.d,x.nL _ (alive_D R.d) R.nL,x.nT _ (alive_D R.d) R.nT,λt ht=>⟨x.I _ _ (h3 t ht).1 (R.ent t ht).i,x.L _ _ (h3 t ht).2 (R.ent t ht).l⟩,R.ka,R.kk,R.kq⟩
theorem TabR.ne_ent {σ:St}{tab en:Nat}{made:Int}{es:List Ent} (R:TabR σ tab en made es) {t:Ent} (ht:t∈es):tab≠t.a:=ne_cls R.tab (R.ent t ht).i (by decide)
theorem TabR.mod {SL:List Nat}{σ τ:St}{tab en:Nat}{made:Int}{pre post:List Ent}{t t':Ent} (R:TabR σ tab en made (pre++t::post)) (ha:t'.a=t.a) (hk:t'.key=t.key) (x:Ext [t.a] SL [] σ τ) (hE:EntR τ t')
 (hq:∀ u∈pre++post,u.q≠t'.q/\u.q ∉ SL):TabR τ tab en made (pre++t'::post):=by
 have hm:t∈pre++t::post:=List.mem_append_right _ (.head _)
 have sub:∀ u∈pre++post,u∈pre++t::post:=λu hu=>by
  rcases List.mem_append.mp hu with h | h
  ·exact List.mem_append_left _ h
  ·exact List.mem_append_right _ (.tail _ h)
 have ane:∀ u∈pre++post,u.a≠t.a:=λu hu e=>by
  have:=R.ka
  rw [List.map_append,List.map_cons,List.nodup_append,List.nodup_cons] at this
  rcases List.mem_append.mp hu with h | h
  ·exact this.2.2 _ (List.mem_map.mpr ⟨u,h,rfl⟩) _ (.head _) e
  ·exact this.2.1.1 (by rw [<- e];exact List.mem_map.mpr ⟨u,h,rfl⟩)
 have eD:entD (pre++t'::post)=entD (pre++t::post):=by unfold entD;simp [ha,hk]
 refine ⟨x.I _ _ (by simpa using R.ne_ent hm) R.tab,by rw [eD];exact x.D _ _ (by acc_open) R.d,x.nL _ (alive_D R.d) R.nL,x.nT _ (alive_D R.d) R.nT,λu hu=>?_,?_,?_,?_⟩
 ·have old:∀ u∈pre++post,EntR τ u:=λu hu=>⟨x.I _ _ (by simpa using ane u hu) (R.ent u (sub u hu)).i,x.L _ _ (hq u hu).2 (R.ent u (sub u hu)).l⟩
  rcases List.mem_append.mp hu with h | h
  ·exact old u (List.mem_append_left _ h)
  ·rcases List.mem_cons.mp h with rfl | h
   ·exact hE
   ·exact old u (List.mem_append_right _ h)
 ·have:=R.ka
  simpa [ha] using this
 ·have:=R.kk
  simpa [hk] using this
 ·have:=R.kq
  rw [List.map_append,List.map_cons,List.nodup_append,List.nodup_cons] at this |-
  obtain ⟨n1,⟨n2,n3⟩,n4⟩:=this
  refine ⟨n1,⟨λhm=>?_,n3⟩,λa h1 b h2 e=>?_⟩
  ·obtain ⟨u,hu,q⟩:=List.mem_map.mp hm
   exact (hq u (List.mem_append_right _ hu)).1 q
  ·rcases List.mem_cons.mp h2 with rfl | h2
   ·obtain ⟨u,hu,q⟩:=List.mem_map.mp h1
    exact (hq u (List.mem_append_left _ hu)).1 (q.trans e)
   ·exact n4 a h1 b (.tail _ h2) e
theorem TabR.push {σ τ:St}{tab en:Nat}{made:Int}{es:List Ent}{t:Ent} (R:TabR σ tab en made es) (x:Ext [tab] [] [en] σ τ) (h1:τ.I tab=some (5,tbF en (made+1))) (h2:τ.D en=some (entD (es++[t]))) (hE:EntR τ t)
 (ha:σ.fresh t.a) (hq:σ.fresh t.q) (hk:t.key ∉ es.map (λø=>ø.key)):TabR τ tab en (made+1) (es++[t]):=by
 have nd:∀ {α:Type} (f:Ent->α),(es.map f).Nodup->(∀ u∈es,f u≠f t)->((es++[t]).map f).Nodup:=λf h1 h2=>by
  rw [List.map_append,List.nodup_append]
  refine ⟨h1,by simp,λa ha b hb=>?_⟩
  obtain ⟨u,hu,rfl⟩:=List.mem_map.mp ha
  rw [List.map_singleton,List.mem_singleton] at hb
  rw [hb];exact h2 u hu
 refine ⟨h1,h2,x.nL _ (alive_D R.d) R.nL,x.nT _ (alive_D R.d) R.nT,λu hu=>?_,nd _ R.ka λu hu e=>?_,nd _ R.kk λu hu e=>?_,nd _ R.kq λu hu e=>?_⟩
 ·rcases List.mem_append.mp hu with h | h
  ·exact ⟨x.I _ _ (by simpa using Ne.symm (R.ne_ent h)) (R.ent u h).i,x.L _ _ (by acc_open) (R.ent u h).l⟩
  ·rw [List.mem_singleton.mp h];exact hE
 ·exact fr_I ha (R.ent u hu).i e
 ·exact hk (List.mem_map.mpr ⟨u,hu,e⟩)
 ·exact fr_L hq (R.ent u hu).l e
noncomputable def C32 (Φ:Ph):Prop:=∀ (tab en:Nat) (made:Int) (es:List Ent) (key now:Int) σ k,TabR σ tab en made es->key ∉ es.map (λø=>ø.key)->es.length<3 ->
 (∀ e q σ',σ.fresh e->σ.fresh q->Ext [tab] [] [en] σ σ'->TabR σ' tab en (made+1) (es++[⟨key,e,made,.none,now,0,q,[]⟩])->k (.ref e) σ')->Φ [.ref tab,.int key,.int now] σ k
theorem b32 (h27:C27 (Φ 27)):C32 (fW rs Φ 3 4 bd32):=by
 intro tab en made es key now σ k R hk hl h
 refine fW_of rfl ?_
 have hT:=R.tab
 have hD:=R.d
 have hl':(entD es).length<3:=by rw [entD_len];exact hl
 unfold bd32
 repeat kbo_bools
 refine len_D hD R.nL (plainK_ent _) ?_
 repeat kbo_bools
 intro e he
 refine h27 _ _ _ _ _ I_eq λq hq=>⟨rfl,?_⟩
 have hqe:=fr_setI hq
 have eq:e≠q:=λz=>by
  have:=hq.1
  rw [z,I_eq] at this;cases this
 have te:tab≠e:=fr_I he hT
 repeat kbo_bools
 refine p_D hD (L_ne (fr_D hqe hD) R.nL) (keyFit_ent es key) (by unfold big;omega) ?_
 repeat kbo_bools
 refine retK_same ?_
 rw [dput_new hk]
 have ed:entD (es++[⟨key,e,made,.none,now,0,q,[]⟩])=entD es++[(.int key,.ref e)]:=by unfold entD;simp
 have fin:∀ τ,Ext [tab] [] [en] σ τ->τ.I tab=some (5,tbF en (made+1))->τ.D en=some (entD es++[(.int key,.ref e)])->τ.I e=some (4,etF key made .none now 0 q)->τ.L q=some []->k (.ref e) τ:=λτ x a1 a2 a3 a4=>
  h e q τ he hqe x (R.push x a1 (by rw [ed];exact a2) ⟨a3,a4⟩ he hqe hk)
 refine fin _ ?_ ?_ ?_ ?_ ?_
 ·refine Ext.setD (Ext.setI (Ext.setI (Ext.setI (Ext.setL (Ext.setI Ext.refl (.inr he)) (.inr hqe)) (.inr he)) (.inr he)) (.inl (.head _))) (.inl (.head _))
 ·exact I_eq
 ·exact D_eq
 ·exact I_ne (Ne.symm te) I_eq
 ·exact L_eq
noncomputable def C33 (Φ:Ph):Prop:=(∀ (tab en:Nat) (made:Int) (pre post:List Ent) (t:Ent) (l now:Int) (o:Bool) σ k,TabR σ tab en made (pre++t::post) ->
 (∀ q σ',σ.fresh q->Ext [t.a] [] [] σ σ'->TabR σ' tab en made (pre++{ t with link:=.int l,since:=now,tries:=0,q:=q,que:=[] }::post)->k (.ref t.q) σ')->Φ [.ref tab,.int t.key,.int l,.int now,.bool o] σ k) /\
 (∀ (tab en:Nat) (made:Int) (es:List Ent) (key l now:Int) σ k,TabR σ tab en made es->key ∉ es.map (λø=>ø.key)->(∀ c,σ.fresh c->k (.ref c) (σ.setL c []))->Φ [.ref tab,.int key,.int l,.int now,.bool true] σ k) /\
 (∀ (tab en:Nat) (made:Int) (es:List Ent) (key l now:Int) σ k,TabR σ tab en made es->key ∉ es.map (λø=>ø.key)->es.length<3 ->
   (∀ e q c σ',σ.fresh e->σ.fresh q->σ.fresh c->Ext [tab] [] [en] σ σ'->TabR σ' tab en (made+1) (es++[⟨key,e,made,.int l,now,0,q,[]⟩])->σ'.L c=some []->k (.ref c) σ')->Φ [.ref tab,.int key,.int l,.int now,.bool false] σ k)
theorem b33a:∀ (tab en:Nat) (made:Int) (pre post:List Ent) (t:Ent) (l now:Int) (o:Bool) σ (k:KV),TabR σ tab en made (pre++t::post) ->
 (∀ q σ',σ.fresh q->Ext [t.a] [] [] σ σ'->TabR σ' tab en made (pre++{ t with link:=.int l,since:=now,tries:=0,q:=q,que:=[] }::post)->k (.ref t.q) σ') ->
 fW rs Φ 5 7 bd33 [.ref tab,.int t.key,.int l,.int now,.bool o] σ k:=by
 intro tab en made pre post t l now o σ k R h
 refine fW_of rfl ?_
 have hT:=R.tab
 have hm:t∈pre++t::post:=List.mem_append_right _ (.head _)
 have hE:=(R.ent t hm).i
 have hkp:t.key ∉ pre.map (λø=>ø.key):=λq=>by
  have:=R.kk
  rw [List.map_append,List.map_cons,List.nodup_append] at this
  exact this.2.2 _ q _ (.head _) rfl
 unfold bd33
 repeat kbo_bools
 refine kM1_D R.d R.nL rfl ?_
 repeat kbo_bools
 refine x_get R.d (keyFit_ent _ _) ?_
 rw [dget_ent hkp]
 dsimp only [Option.getD]
 repeat kbo_bools
 intro q hq
 repeat kbo_bools
 refine retK_same ?_
 simp only [St.setI_setI] at hq
 simp only [St.setI_setI,St.setI_setL]
 have hqs:=fr_setI hq
 refine h q _ hqs (Ext.setI (Ext.setL Ext.refl (.inr hqs)) (.inl (.head _))) (R.mod (SL:=[]) rfl rfl (Ext.setI (Ext.setL Ext.refl (.inr hqs)) (.inl (.head _))) ⟨I_eq,L_eq⟩ λu hu=>⟨λe=>?_,by simp⟩)
 have hu':u∈pre++t::post:=by
  rcases List.mem_append.mp hu with h | h
  ·exact List.mem_append_left _ h
  ·exact List.mem_append_right _ (.tail _ h)
 exact fr_L hqs (R.ent u hu').l e
theorem b33b:∀ (tab en:Nat) (made:Int) (es:List Ent) (key l now:Int) σ (k:KV),TabR σ tab en made es->key ∉ es.map (λø=>ø.key)->(∀ c,σ.fresh c->k (.ref c) (σ.setL c [])) ->
 fW rs Φ 5 7 bd33 [.ref tab,.int key,.int l,.int now,.bool true] σ k:=by
 intro tab en made es key l now σ k R hk h
 refine fW_of rfl ?_
 have hT:=R.tab
 unfold bd33
 repeat kbo_bools
 refine kM1_D R.d R.nL rfl ?_
 repeat kbo_bools
 refine x_get R.d (keyFit_ent _ _) ?_
 rw [dget_none hk]
 dsimp only [Option.getD]
 repeat kbo_bools
 intro c hc
 exact retK_same (h c hc)
theorem b33c (h32:C32 (Φ 32)):∀ (tab en:Nat) (made:Int) (es:List Ent) (key l now:Int) σ (k:KV),TabR σ tab en made es->key ∉ es.map (λø=>ø.key)->es.length<3 ->
 (∀ e q c σ',σ.fresh e->σ.fresh q->σ.fresh c->Ext [tab] [] [en] σ σ'->TabR σ' tab en (made+1) (es++[⟨key,e,made,.int l,now,0,q,[]⟩])->σ'.L c=some []->k (.ref c) σ') ->
 fW rs Φ 5 7 bd33 [.ref tab,.int key,.int l,.int now,.bool false] σ k:=by
 intro tab en made es key l now σ k R hk hl h
 refine fW_of rfl ?_
 have hT:=R.tab
 unfold bd33
 repeat kbo_bools
 refine kM1_D R.d R.nL rfl ?_
 repeat kbo_bools
 refine x_get R.d (keyFit_ent _ _) ?_
 rw [dget_none hk]
 dsimp only [Option.getD]
 repeat kbo_bools
 refine h32 _ _ _ _ _ _ _ _ R hk hl λe c σ1 he hc x R1=>?_
 have hE:=(R1.ent ⟨key,e,made,.none,now,0,c,[]⟩ (List.mem_append_right _ (.head _))).i
 have hL:=(R1.ent ⟨key,e,made,.none,now,0,c,[]⟩ (List.mem_append_right _ (.head _))).l
 dsimp only at hE hL
 repeat kbo_bools
 intro q hq
 repeat kbo_bools
 refine retK_same ?_
 simp only [St.setI_setI] at hq
 simp only [St.setI_setI,St.setI_setL]
 have hq1:=fr_setI hq
 have hqs:=x.al _ hq1
 refine h e q c _ he hqs hc (Ext.setI (Ext.setL x (.inr hqs)) (.inr he)) (R1.mod (t':=⟨key,e,made,.int l,now,0,q,[]⟩) (SL:=[]) rfl rfl (Ext.setI (Ext.setL Ext.refl (.inr hq1)) (.inl (.head _))) ⟨I_eq,L_eq⟩ λu hu=>⟨λz=>?_,by simp⟩) (L_ne (fr_L hq1 hL) hL)
 have hu':u∈es++[⟨key,e,made,.none,now,0,c,[]⟩]:=by
  rcases List.mem_append.mp hu with h | h
  ·exact List.mem_append_left _ h
  ·cases h
 exact fr_L hq1 (R1.ent u hu').l z
noncomputable def C34 (Φ:Ph):Prop:=(∀ (tab en:Nat) (made:Int) (es:List Ent) (key now:Int) (p:List UInt8) σ k,TabR σ tab en made es->key ∉ es.map (λø=>ø.key)->es.length<3 ->
 (∀ e q σ',σ.fresh e->σ.fresh q->Ext [tab] [] [en] σ σ'->TabR σ' tab en (made+1) (es++[⟨key,e,made,.none,now,1,q,[p]⟩])->k (.bool true) σ')->Φ [.ref tab,.int key,.bytes p,.int now] σ k) /\
 (∀ (tab en:Nat) (made:Int) (pre post:List Ent) (t:Ent) (now:Int) (p:List UInt8) σ k,TabR σ tab en made (pre++t::post)->t.link=.none->t.que.length<3 ->
   (∀ σ',Ext [] [t.q] [] σ σ'->TabR σ' tab en made (pre++{ t with que:=t.que++[p] }::post)->k (.bool false) σ')->Φ [.ref tab,.int t.key,.bytes p,.int now] σ k)
theorem b34a (h32:C32 (Φ 32)):∀ (tab en:Nat) (made:Int) (es:List Ent) (key now:Int) (p:List UInt8) σ (k:KV),TabR σ tab en made es->key ∉ es.map (λø=>ø.key)->es.length<3 ->
 (∀ e q σ',σ.fresh e->σ.fresh q->Ext [tab] [] [en] σ σ'->TabR σ' tab en (made+1) (es++[⟨key,e,made,.none,now,1,q,[p]⟩])->k (.bool true) σ')->fW rs Φ 4 6 bd34 [.ref tab,.int key,.bytes p,.int now] σ k:=by
 intro tab en made es key now p σ k R hk hl h
 refine fW_of rfl ?_
 have hT:=R.tab
 unfold bd34
 repeat kbo_bools
 refine kM1_D R.d R.nL rfl ?_
 repeat kbo_bools
 refine x_get R.d (keyFit_ent _ _) ?_
 rw [dget_none hk]
 dsimp only [Option.getD]
 repeat kbo_bools
 refine h32 _ _ _ _ _ _ _ _ R hk hl λe q σ1 he hq x R1=>?_
 have hm:(⟨key,e,made,.none,now,0,q,[]⟩:Ent)∈es++[⟨key,e,made,.none,now,0,q,[]⟩]:=List.mem_append_right _ (.head _)
 have hE:=(R1.ent _ hm).i
 have hL:=(R1.ent _ hm).l
 have hT1:=R1.tab
 have te:=R1.ne_ent hm
 dsimp only at hE hL te
 rw [List.map_nil] at hL
 repeat kbo_bools
 refine retK_same ?_
 simp only [St.setI_setI,St.setI_setL,List.nil_append]
 refine h e q _ he hq (Ext.setI (Ext.setL x (.inr hq)) (.inr he)) (R1.mod (t':=⟨key,e,made,.none,now,1,q,[p]⟩) (SL:=[q]) rfl rfl (Ext.setI (Ext.setL Ext.refl (.inl ⟨.head _,_,hL⟩)) (.inl (.head _))) ⟨I_eq,L_eq⟩ λu hu=>?_)
 have hu':u∈es:=by
  rcases List.mem_append.mp hu with h | h
  ·exact h
  ·cases h
 have:u.q≠q:=fr_L hq (R.ent u hu').l
 exact ⟨this,by simpa using this⟩
theorem b34b (h28:C28 (Φ 28)) (h30:C30 (Φ 30)):∀ (tab en:Nat) (made:Int) (pre post:List Ent) (t:Ent) (now:Int) (p:List UInt8) σ (k:KV),TabR σ tab en made (pre++t::post)->t.link=.none->t.que.length<3 ->
 (∀ σ',Ext [] [t.q] [] σ σ'->TabR σ' tab en made (pre++{ t with que:=t.que++[p] }::post)->k (.bool false) σ')->fW rs Φ 4 6 bd34 [.ref tab,.int t.key,.bytes p,.int now] σ k:=by
 intro tab en made pre post t now p σ k R ht hq h
 refine fW_of rfl ?_
 have hT:=R.tab
 have hm:t∈pre++t::post:=List.mem_append_right _ (.head _)
 have hE:=(R.ent t hm).i
 have hL:=(R.ent t hm).l
 rw [ht] at hE
 have hkp:t.key ∉ pre.map (λø=>ø.key):=λq=>by
  have:=R.kk
  rw [List.map_append,List.map_cons,List.nodup_append] at this
  exact this.2.2 _ q _ (.head _) rfl
 unfold bd34
 repeat kbo_bools
 refine kM1_D R.d R.nL rfl ?_
 repeat kbo_bools
 refine x_get R.d (keyFit_ent _ _) ?_
 rw [dget_ent hkp]
 dsimp only [Option.getD]
 repeat kbo_bools
 refine h30 _ _ _ _ _ _ _ _ _ _ _ _ _ hT hE ?_
 repeat kbo_bools
 refine h28 _ _ _ _ _ _ _ _ _ hE ?_
 repeat kbo_bools
 have hlen:(((t.que.map V.bytes++[V.bytes p]).length:Nat):Int)<=3:=by simp;omega
 repeat kbo_bools
 refine retK_same ?_
 have hq':∀ u∈pre++post,u.q≠t.q:=λu hu e=>by
  have:=R.kq
  rw [List.map_append,List.map_cons,List.nodup_append,List.nodup_cons] at this
  rcases List.mem_append.mp hu with h | h
  ·exact this.2.2 _ (List.mem_map.mpr ⟨u,h,rfl⟩) _ (.head _) e
  ·exact this.2.1.1 (by rw [<- e];exact List.mem_map.mpr ⟨u,h,rfl⟩)
 refine h _ (Ext.setL Ext.refl (.inl ⟨.head _,_,hL⟩)) (R.mod (t':={ t with que:=t.que++[p] }) (SL:=[t.q]) rfl rfl (Ext.setL Ext.refl (.inl ⟨.head _,_,hL⟩)) ⟨(R.ent t hm).i,by rw [L_eq];simp⟩ λu hu=>⟨hq' u hu,by simpa using hq' u hu⟩)
noncomputable def due (now:Int) (t:Ent):Bool:=(t.link == .none)&&decide (now - t.since ≥ 2)
noncomputable def tkE (now:Int) (t:Ent):Option Ent:=if due now t then (if t.tries<5 then some { t with tries:=t.tries+1,since:=now } else none) else some t
noncomputable def tkA (now:Int) (t:Ent):Option Int:=if due now t&&decide (t.tries<5) then some t.key else none
noncomputable def tkG (now:Int) (t:Ent):List (List UInt8):=if due now t&&!decide (t.tries<5) then t.que else []
theorem tkE_fields {now:Int}{t u:Ent} (h:tkE now t=some u):u.a=t.a/\u.key=t.key/\u.q=t.q/\u.que=t.que/\u.ord=t.ord/\u.link=t.link:=by
 unfold tkE at h
 split at h
 ·split at h
  ·cases h;exact ⟨rfl,rfl,rfl,rfl,rfl,rfl⟩
  ·cases h
 ·cases h;exact ⟨rfl,rfl,rfl,rfl,rfl,rfl⟩
noncomputable def bd35b:SL:=(.cons (.asg 5 (.idx (.attr (.var 0) 25) (.var 4))) (.cons (.ite (.notv (.meth (.var 5) 47 .nil)) (.cons (.ite (.notv (.meth (.var 0) 48 (.cons (.var 5) (.cons (.var 1) .nil)))) (.cons (.expr (.m1 .pop (.attr (.var 0) 25) (.var 4))) .nil) .nil) .nil) (.cons (.ite (.cmp .ge (.bin .sub (.var 1) (.attr (.var 5) 17)) (.attr (.var 0) 22)) (.cons (.ite (.cmp .lt (.attr (.var 5) 18) (.attr (.var 0) 23)) (.cons (.setA (.var 5) 18 (.bin .add (.attr (.var 5) 18) (.int 1))) (.cons (.setA (.var 5) 17 (.var 1)) (.cons (.expr (.m1 .append (.var 2) (.var 4))) .nil))) (.cons (.asg 3 (.bin .add (.var 3) (.attr (.var 5) 19))) (.cons (.expr (.m1 .pop (.attr (.var 0) 25) (.var 4))) .nil))) .nil) .nil) .nil)) .nil))
structure Lo35 (lo:Lo) (tab ag gv:Nat) (now:Int):Prop where
 len:lo.length=6
 v0:lo[0]?=some (some (.ref tab))
 v1:lo[1]?=some (some (.int now))
 v2:lo[2]?=some (some (.ref ag))
 v3:lo[3]?=some (some (.ref gv))
theorem Lo35.set {lo:Lo}{tab ag gv:Nat}{now:Int} (h:Lo35 lo tab ag gv now) (i:Nat) (v:V) (hi:4<=i):Lo35 (lo.set i (some v)) tab ag gv now:=
 ⟨by rw [List.length_set];exact h.len,by rw [List.getElem?_set_ne (by lia)];exact h.v0,by rw [List.getElem?_set_ne (by lia)];exact h.v1,by rw [List.getElem?_set_ne (by lia)];exact h.v2,by rw [List.getElem?_set_ne (by lia)];exact h.v3⟩
theorem Lo35.set3 {lo:Lo}{tab ag gv:Nat}{now:Int} (h:Lo35 lo tab ag gv now) (c:Nat):Lo35 (lo.set 3 (some (.ref c))) tab ag c now:=
 ⟨by rw [List.length_set];exact h.len,by rw [List.getElem?_set_ne (by decide)];exact h.v0,by rw [List.getElem?_set_ne (by decide)];exact h.v1,by rw [List.getElem?_set_ne (by decide)];exact h.v2,List.getElem?_set_self (by rw [h.len];decide)⟩
theorem TabR.drop {SL:List Nat}{σ τ:St}{tab en:Nat}{made:Int}{pre post:List Ent}{t:Ent} (R:TabR σ tab en made (pre++t::post)) (x:Ext [] SL [en] σ τ) (hd:τ.D en=some (entD (pre++post))) (hq:∀ u∈pre++post,u.q ∉ SL):TabR τ tab en made (pre++post):=by
 have sub:∀ u∈pre++post,u∈pre++t::post:=λu hu=>by
  rcases List.mem_append.mp hu with h | h
  ·exact List.mem_append_left _ h
  ·exact List.mem_append_right _ (.tail _ h)
 have nd:∀ {α:Type} (f:Ent->α),((pre++t::post).map f).Nodup->((pre++post).map f).Nodup:=λf h=>by
  refine h.sublist ?_
  exact (List.Sublist.append (List.Sublist.refl _) (List.sublist_cons_self _ _)).map f
 exact ⟨x.I _ _ (by acc_open) R.tab,hd,x.nL _ (alive_D R.d) R.nL,x.nT _ (alive_D R.d) R.nT,λu hu=>⟨x.I _ _ (by acc_open) (R.ent u (sub u hu)).i,x.L _ _ (hq u hu) (R.ent u (sub u hu)).l⟩,nd _ R.ka,nd _ R.kk,nd _ R.kq⟩
theorem Lo35.get {lo:Lo}{tab ag gv:Nat}{now:Int} (h:Lo35 lo tab ag gv now) (i:Nat) (v:V) (hi:i<6):(lo.set i (some v))[i]?=some (some v):=List.getElem?_set_self (by rw [h.len];exact hi)
theorem turn35 (h28:C28 (Φ 28)) (h30:C30 (Φ 30)) {tab en:Nat}{made:Int}{pre post:List Ent}{t:Ent}{now:Int}{ag gv:Nat}{as:List Int}{gs:List (List UInt8)}{lo:Lo}{σ:St}{K:KL} (R:TabR σ tab en made (pre++t::post)) (hA:σ.L ag=some (as.map .int)) (hG:σ.L gv=some (gs.map .bytes)) (hne:ag≠gv)
 (hq:∀ u∈pre++t::post,u.q≠ag/\u.q≠gv) (hl:Lo35 lo tab ag gv now) (h4:lo[4]?=some (some (.int t.key))) (hfr:t.link≠.none->now - t.since<90) (hal:as.length<=100) (hgl:gs.length+t.que.length<=100)
 (q:∀ gv' lo' σ',Lo35 lo' tab ag gv' now->Ext [t.a] [ag] [en] σ σ'->TabR σ' tab en made (pre++(tkE now t).toList++post)->σ'.L ag=some ((as++(tkA now t).toList).map .int)->σ'.L gv'=some ((gs++tkG now t).map .bytes)->(gv'=gv\/σ.fresh gv')->K .nx lo' σ') :
 wpSL (tabsP rs) Φ bd35b lo σ K:=by
 have hT:=R.tab
 have hm:t∈pre++t::post:=List.mem_append_right _ (.head _)
 have hE:=(R.ent t hm).i
 have hL:=(R.ent t hm).l
 have hkp:t.key ∉ pre.map (λø=>ø.key):=λq=>by
  have:=R.kk
  rw [List.map_append,List.map_cons,List.nodup_append] at this
  exact this.2.2 _ q _ (.head _) rfl
 have e5:=hl.get 5 (.ref t.a) (by decide)
 have e4:(lo.set 5 (some (.ref t.a)))[4]?=some (some (.int t.key)):=by rw [List.getElem?_set_ne (by decide)];exact h4
 have hl':=hl.set 5 (.ref t.a) (by decide)
 unfold bd35b
 kp_flats
 refine kVar_of hl.v0 ?_
 repeat kbo_bools
 refine kVar_of h4 ?_
 refine i_D R.d R.nL R.nT (dget_ent hkp) ?_
 generalize lo.set 5 (some (.ref t.a))=lo5 at e5 e4 hl' |-
 refine kVar_of e5 ?_
 repeat kbo_bools
 refine h28 _ _ _ _ _ _ _ _ _ hE ?_
 kp_flats
 by_cases hn:t.link=.none
 ·have hlb:(t.link == V.none)=true:=by rw [hn];rfl
  rw [hlb]
  repeat kbo_bools
  refine kVar_of hl'.v1 ?_
  refine kVar_of e5 ?_
  repeat kbo_bools
  refine kVar_of hl'.v0 ?_
  repeat kbo_bools
  by_cases hd:now - t.since ≥ 2
  ·have hdue:due now t=true:=by unfold due;rw [hlb,decide_eq_true hd];rfl
   repeat kbo_bools
   refine kVar_of e5 ?_
   repeat kbo_bools
   refine kVar_of hl'.v0 ?_
   repeat kbo_bools
   by_cases ht:t.tries<5
   ·have c1:tkE now t=some { t with tries:=t.tries+1,since:=now }:=by unfold tkE;rw [if_pos hdue,if_pos ht]
    have c2:tkA now t=some t.key:=by unfold tkA;rw [hdue,decide_eq_true ht];rfl
    have c3:tkG now t=[]:=by unfold tkG;rw [hdue,decide_eq_true ht];rfl
    rw [c1,c2,c3] at q
    repeat kbo_bools
    refine kVar_of e5 ?_
    repeat kbo_bools
    refine kVar_of e5 ?_
    repeat kbo_bools
    refine kVar_of hl'.v1 ?_
    refine kVar_of e5 ?_
    repeat kbo_bools
    refine kVar_of hl'.v2 ?_
    repeat kbo_bools
    refine kVar_of e4 ?_
    refine x_append hA (by rw [List.length_map];unfold big;lia) ?_
    simp only [St.setI_setI,St.setI_setL]
    have xx:Ext [t.a] [ag] [en] σ ((σ.setL ag (as.map V.int++[V.int t.key])).setI t.a (4,fput 17 (V.int now) (fput 18 (V.int (t.tries+1)) (etF t.key t.ord t.link t.since t.tries t.q)))):=Ext.setI (Ext.setL Ext.refl (.inl ⟨.head _,_,hA⟩)) (.inl (.head _))
    refine q gv lo5 _ hl' xx ?_ ?_ ?_ (.inl rfl)
    ·have:=R.mod (t':={ t with tries:=t.tries+1,since:=now }) (SL:=[ag]) rfl rfl (Ext.setI (Ext.setL Ext.refl (.inl ⟨.head _,_,hA⟩)) (.inl (.head _)):Ext [t.a] [ag] [] σ ((σ.setL ag (as.map V.int++[V.int t.key])).setI t.a (4,fput 17 (V.int now) (fput 18 (V.int (t.tries+1)) (etF t.key t.ord t.link t.since t.tries t.q))))) ⟨I_eq,L_ne (hq t hm).1 hL⟩ λu hu=>?_
     ·simpa using this
     ·have hu':u∈pre++t::post:=by
       rcases List.mem_append.mp hu with h | h
       ·exact List.mem_append_left _ h
       ·exact List.mem_append_right _ (.tail _ h)
      refine ⟨λe=>?_,by simpa using (hq u hu').1⟩
      have:=R.kq
      rw [List.map_append,List.map_cons,List.nodup_append,List.nodup_cons] at this
      rcases List.mem_append.mp hu with h | h
      ·exact this.2.2 _ (List.mem_map.mpr ⟨u,h,rfl⟩) _ (.head _) e
      ·exact this.2.1.1 (by rw [<- show u.q=t.q from e];exact List.mem_map.mpr ⟨u,h,rfl⟩)
    ·rw [show (σ.setL ag (as.map V.int++[V.int t.key])).setI t.a _=(σ.setL ag (as.map V.int++[V.int t.key])).setI t.a _ from rfl]
     refine L_of_I ?_
     rw [L_eq];simp
    ·refine L_of_I (L_ne (Ne.symm hne) ?_)
     rw [hG];simp
   ·have c1:tkE now t=none:=by unfold tkE;rw [if_pos hdue,if_neg ht]
    have c2:tkA now t=none:=by unfold tkA;rw [hdue,decide_eq_false ht];rfl
    have c3:tkG now t=t.que:=by unfold tkG;rw [hdue,decide_eq_false ht];rfl
    rw [c1,c2,c3] at q
    repeat kbo_bools
    refine kVar_of hl'.v3 ?_
    refine kVar_of e5 ?_
    repeat kbo_bools
    refine b_app hG hL (by rw [List.length_map,List.length_map];unfold big;lia) λc hc=>?_
    kp_flats
    have hl3:=hl'.set3 c
    have e43:(lo5.set 3 (some (.ref c)))[4]?=some (some (.int t.key)):=by rw [List.getElem?_set_ne (by decide)];exact e4
    generalize lo5.set 3 (some (.ref c))=lo3 at hl3 e43 |-
    refine kVar_of hl3.v0 ?_
    have hD3:(σ.setL c (gs.map V.bytes++t.que.map V.bytes)).D en=some (entD (pre++t::post)):=R.d
    have hN3:(σ.setL c (gs.map V.bytes++t.que.map V.bytes)).L en=none:=L_ne (fr_D hc R.d) R.nL
    repeat kbo_bools
    refine kVar_of e43 ?_
    refine x_dpop hD3 (dget_ent hkp) ?_
    rw [ddel_ent R.kk]
    have xx:Ext [] [] [en] σ ((σ.setL c (gs.map V.bytes++t.que.map V.bytes)).setD en (entD (pre++post))):=Ext.setD (Ext.setL Ext.refl (.inr hc)) (.inl (.head _))
    refine q c lo3 _ hl3 (xx.wide (by acc_open) (by acc_open) λa ha=>.inl ha) ?_ ?_ ?_ (.inr hc)
    ·have:=R.drop xx D_eq (by acc_open)
     simpa using this
    ·refine L_of_D (L_ne (fr_L hc hA) ?_)
     rw [hA];simp
    ·refine L_of_D ?_
     rw [L_eq];simp
  ·have hdue:due now t=false:=by unfold due;rw [hlb,decide_eq_false hd];rfl
   have c1:tkE now t=some t:=by unfold tkE;rw [hdue];rfl
   have c2:tkA now t=none:=by unfold tkA;rw [hdue];rfl
   have c3:tkG now t=[]:=by unfold tkG;rw [hdue];rfl
   rw [c1,c2,c3] at q
   repeat kbo_bools
   exact q gv lo5 σ hl' Ext.refl (by simpa using R) (by simpa using hA) (by simpa using hG) (.inl rfl)
 ·have hlb:(t.link == V.none)=false:=beq_eq_false_iff_ne.mpr hn
  have hdue:due now t=false:=by unfold due;rw [hlb];rfl
  have c1:tkE now t=some t:=by unfold tkE;rw [hdue];rfl
  have c2:tkA now t=none:=by unfold tkA;rw [hdue];rfl
  have c3:tkG now t=[]:=by unfold tkG;rw [hdue];rfl
  rw [c1,c2,c3] at q
  rw [hlb]
  repeat kbo_bools
  refine kVar_of hl'.v0 ?_
  repeat kbo_bools
  refine kVar_of e5 ?_
  refine kVar_of hl'.v1 ?_
  refine h30 _ _ _ _ _ _ _ _ _ _ _ _ _ hT hE ?_
  rw [hlb,decide_eq_true (hfr hn)]
  repeat kbo_bools
  exact q gv lo5 σ hl' Ext.refl (by simpa using R) (by simpa using hA) (by simpa using hG) (.inl rfl)
end
section
variable {rs:Nat->List V->St->Prop}{Φ:Phi}
theorem tkG_len (now:Int) (t:Ent):(tkG now t).length<=t.que.length:=by
 unfold tkG;split <;> simp
theorem tkA_len (now:Int) (t:Ent):(tkA now t).toList.length<=1:=by
 unfold tkA;split <;> simp
theorem loop35 (h28:C28 (Φ 28)) (h30:C30 (Φ 30)) {tab en:Nat}{made:Int}{now:Int}{ag kl:Nat}{all:List V}{SI:List Nat}{K:KL}:∀ (todo don:List Ent) (as:List Int) (gs:List (List UInt8)) (gv:Nat) (lo:Lo) (σ:St),TabR σ tab en made (don++todo)->σ.L ag=some (as.map .int)->σ.L gv=some (gs.map .bytes)->ag≠gv ->
 (∀ u∈don++todo,u.q≠ag/\u.q≠gv)->σ.L kl=some all->kl≠ag->Lo35 lo tab ag gv now->(∀ t∈todo,t.link≠.none->now - t.since<90)->as.length+todo.length<=100->gs.length+(todo.flatMap (λø=>ø.que)).length<=100->(∀ t∈todo,t.a∈SI) ->
 (∀ gv' lo' σ',Lo35 lo' tab ag gv' now->Ext SI [ag] [en] σ σ'->TabR σ' tab en made (don++todo.filterMap (tkE now))->σ'.L ag=some ((as++todo.filterMap (tkA now)).map .int)->σ'.L gv'=some ((gs++todo.flatMap (tkG now)).map .bytes)->(gv'=gv\/σ.fresh gv')->K .nx lo' σ') ->
 loopW (.one 4) (λτ=>τ.L kl=some all) (bodyK (tabsP rs) Φ bd35b) K (todo.map λt=>.int t.key) lo σ
 | []=>λdon as gs gv lo σ R hA hG ø ø hK ø hl ø ø ø ø q=>lw_nil hK (q gv lo σ hl Ext.refl (by simpa using R) (by simpa using hA) (by simpa using hG) (.inl rfl))
 | t::todo=>λdon as gs gv lo σ R hA hG hne hq hK hka hl hfr hal hgl hS q=>by
   refine lw_one hK ?_
   rw [q_body]
   have gl:(t.que.length+(todo.flatMap (λø=>ø.que)).length)=((t::todo).flatMap (λø=>ø.que)).length:=by simp
   refine turn35 h28 h30 R hA hG hne hq (hl.set 4 _ (by decide)) (hl.get 4 _ (by decide)) (hfr t (.head _)) (by simp at hal;lia) (by lia) λgv' lo' σ' l' x R' hA' hG' hg'=>?_
   rw [q_lknx]
   have inq:∀ u∈don++(tkE now t).toList++todo,∃ v∈don++t::todo,u.q=v.q:=λu hu=>by
    rcases List.mem_append.mp hu with h | h
    ·rcases List.mem_append.mp h with h | h
     ·exact ⟨u,List.mem_append_left _ h,rfl⟩
     ·exact ⟨t,List.mem_append_right _ (.head _),(tkE_fields (Option.mem_toList.mp h)).2.2.1⟩
    ·exact ⟨u,List.mem_append_right _ (.tail _ h),rfl⟩
   have hq':∀ u∈don++(tkE now t).toList++todo,u.q≠ag/\u.q≠gv':=λu hu=>by
    obtain ⟨v,hv,e⟩:=inq u hu
    rw [e]
    refine ⟨(hq v hv).1,?_⟩
    rcases hg' with rfl | f
    ·exact (hq v hv).2
    ·exact fr_L f (R.ent v hv).l
   have ng:ag≠gv':=by
    rcases hg' with rfl | f
    ·exact hne
    ·exact fr_L f hA
   have e1:(t::todo).filterMap (tkE now)=(tkE now t).toList++todo.filterMap (tkE now):=by cases q:tkE now t <;> simp [q]
   have e2:(t::todo).filterMap (tkA now)=(tkA now t).toList++todo.filterMap (tkA now):=by cases q:tkA now t <;> simp [q]
   have e3:(t::todo).flatMap (tkG now)=tkG now t++todo.flatMap (tkG now):=rfl
   have l1:=tkA_len now t
   have l2:=tkG_len now t
   refine loop35 h28 h30 todo (don++(tkE now t).toList) _ _ gv' lo' σ' R' hA' hG' ng hq' (x.L _ _ (by simpa using hka) hK) hka l' (λu hu=>hfr u (.tail _ hu)) (by rw [List.length_append];simp at hal;lia) (by rw [List.length_append];lia) (λu hu=>hS u (.tail _ hu)) λgv2 lo2 σ2 a b c d e f=>?_
   refine q gv2 lo2 σ2 a ?_ ?_ ?_ ?_ ?_
   ·exact (x.wide (λy hy=>.inl (by rw [List.mem_singleton.mp hy];exact hS t (.head _))) (λy hy=>.inl hy) (λy hy=>.inl hy)).trans b
   ·rw [e1,<- List.append_assoc];exact c
   ·rw [e2,<- List.append_assoc];exact d
   ·rw [e3,<- List.append_assoc];exact e
   ·rcases f with rfl | f
    ·exact hg'
    ·exact .inr (x.al _ f)
noncomputable def C35 (Φ:Ph):Prop:=∀ (tab en:Nat) (made:Int) (es:List Ent) (now:Int) σ k,TabR σ tab en made es->(∀ t∈es,t.link≠.none->now - t.since<90)->es.length<=50->(es.flatMap (λø=>ø.que)).length<=50 ->
 (∀ ag gv t σ',σ.fresh ag->σ.fresh gv->σ.fresh t->Ext (es.map (λø=>ø.a)) [] [en] σ σ'->TabR σ' tab en made (es.filterMap (tkE now))->σ'.L ag=some ((es.filterMap (tkA now)).map .int)->σ'.L gv=some ((es.flatMap (tkG now)).map .bytes)->σ'.T t=some [.ref ag,.ref gv]->k (.ref t) σ')->Φ [.ref tab,.int now] σ k
theorem b35 (h28:C28 (Φ 28)) (h30:C30 (Φ 30)):C35 (fW rs Φ 2 6 bd35):=by
 intro tab en made es now σ k R hfr hl hg h
 refine fW_of rfl ?_
 have hT:=R.tab
 unfold bd35
 repeat kbo_bools
 intro ag ha
 repeat kbo_bools
 intro gv hv
 have hvs:=fr_setL hv
 have nag:ag≠gv:=fr_L hv L_eq
 repeat kbo_bools
 have R0:TabR ((σ.setL ag []).setL gv []) tab en made es:=R.ext (Ext.setL (Ext.setL Ext.refl (.inr ha)) (.inr hvs):Ext [] [] [] σ _) (by acc_open) (by acc_open) λø ø=>⟨by simp,by simp⟩
 refine list_D R0.d R0.nL (plainK_ent _) λkl hk=>?_
 have hks:=fr_setL (fr_setL hk)
 rw [entD_keys]
 repeat kbo_bools
 have x0:Ext [] [] [] σ (((σ.setL ag []).setL gv []).setL kl (es.map λt=>V.int t.key)):=Ext.setL (Ext.setL (Ext.setL Ext.refl (.inr ha)) (.inr hvs)) (.inr hks)
 have R1:=R.ext x0 (by acc_open) (by acc_open) λø ø=>⟨by simp,by simp⟩
 have kag:ag≠kl:=fr_L hk (L_ne nag L_eq)
 have kgv:gv≠kl:=fr_L hk L_eq
 refine loop35 h28 h30 (SI:=es.map (λø=>ø.a)) es [] [] [] gv _ _ R1 (L_ne kag (L_ne nag L_eq)) (L_ne kgv L_eq) nag (λu hu=>⟨fr_L ha (R.ent u hu).l,fr_L hvs (R.ent u hu).l⟩) L_eq (Ne.symm kag) ⟨rfl,rfl,rfl,rfl,rfl⟩ hfr (by simp;lia) (by simp only [List.length_nil];lia) (λt ht=>List.mem_map.mpr ⟨t,ht,rfl⟩) λgv' lo' σ' l' x R' hA hG hg'=>?_
 repeat kbo_bools
 refine kVar_of l'.v2 (kVar_of l'.v3 ?_)
 repeat kbo_bools
 intro t ht
 have xx:Ext (es.map (λø=>ø.a)) [] [en] σ σ':=((x0.wide (by acc_open) (by acc_open) (by acc_open):Ext (es.map (λø=>ø.a)) [ag] [en] σ _).trans x).wide (λø h=>.inl h) (λy hy=>.inr (by rw [List.mem_singleton.mp hy];exact ha)) (λø h=>.inl h)
 have hts:=xx.al _ ht
 have hgs:σ.fresh gv':=by
  rcases hg' with rfl | f
  ·exact hvs
  ·exact x0.al _ f
 refine retK_same (h ag gv' t _ ha hgs hts (Ext.setT xx hts) ?_ hA hG T_eq)
 exact TabR.ext (SI:=[]) (SL:=[]) (SD:=[]) R' (Ext.setT Ext.refl ht) (by acc_open) (by acc_open) λø ø=>⟨by simp,by simp⟩
end
section
variable {rs:Nat->List V->St->Prop}{Φ:Phi}
noncomputable def C23 (Φ:Ph):Prop:=∀ b σ k,k (.bool true) σ->Φ [.int (lk b)] σ k
theorem b23:C23 (fW rs Φ 1 1 bd23):=by
 intro b σ k h
 refine fW_of rfl ?_
 unfold bd23
 cases b
 ·show wpSL _ _ _ (lo0 1 [.int 50]) _ _
  repeat kbo_bools
  exact retK_same h
 ·show wpSL _ _ _ (lo0 1 [.int 60]) _ _
  repeat kbo_bools
  exact retK_same h
noncomputable def C25 (Φ:Ph):Prop:=∀ (arp:Nat) b (tab:Nat) (key:Int) σ k,σ.I arp=some (3,apF b tab)->(∀ r,σ.fresh r->k (.ref r) (σ.setI r (0,pktF 1 (lk b) (ad b) 0 key)))->Φ [.ref arp,.int key] σ k
theorem b25 (h7:C7 (Φ 7)):C25 (fW rs Φ 2 2 bd25):=by
 intro arp b tab key σ k hI h
 refine fW_of rfl ?_
 unfold bd25
 repeat kbo_bools
 intro r hr
 refine h7 _ _ _ _ _ _ _ _ I_eq ⟨rfl,?_⟩
 repeat kbo_bools
 rw [St.setI_setI]
 exact retK_same (h r hr)
theorem lk_ne (b:Bool):(lk (!b) == lk b)=false:=by cases b <;> decide +kernel
theorem ad_ne (b:Bool):(ad (!b) != ad b)=true:=by cases b <;> decide +kernel
theorem ad_nz (b:Bool):(ad b != 0)=true:=by cases b <;> decide +kernel
noncomputable def C26 (Φ:Ph):Prop:=∀ (arp:Nat) b (tab pk:Nat) (op tl tg:Int) σ k,σ.I arp=some (3,apF b tab)->σ.I pk=some (0,pktF op (lk (!b)) (ad (!b)) tl tg)->k (.bool true) σ->Φ [.ref arp,.ref pk] σ k
theorem b26 (h23:C23 (Φ 23)):C26 (fW rs Φ 2 2 bd26):=by
 intro arp b tab pk op tl tg σ k hI hp h
 refine fW_of rfl ?_
 have hn:=lk_ne b
 have ha:=ad_ne b
 unfold bd26
 repeat kbo_bools
 refine h23 _ _ _ ?_
 repeat kbo_bools
 rw [ha]
 exact retK_same h
noncomputable def ansL (b:Bool) (op tg:Int):List Rq:=if tg == ad b&&op == 1 then [⟨lk (!b),2,lk b,ad b,lk (!b),ad (!b)⟩] else []
theorem PayR.snoc {σ:St}{a:Nat}{r:Int×List UInt8}{xs:List V}{ps:List (Int×List UInt8)} (h:PayR σ xs ps) (h1:σ.T a=some [.int r.1,.bytes r.2]):PayR σ (xs++[.ref a]) (ps++[r]):=by
 induction h with
 | nil=>exact .cons h1 .nil
 | cons h2 _ ih=>exact .cons h2 ih
theorem ReqR.snoc {σ:St}{a p:Nat}{r:Rq}{xs:List V}{ps:List Rq} (h:ReqR σ xs ps) (h1:σ.T a=some [.int r.tg,.ref p]) (h2:σ.I p=some (0,pktF r.op r.sl r.s r.tl r.t)):ReqR σ (xs++[.ref a]) (ps++[r]):=by
 induction h with
 | nil=>exact .cons h1 h2 .nil
 | cons g1 g2 _ ih=>exact .cons g1 g2 ih
theorem comp36 {pk:Nat}{op tl tg:Int}{b:Bool}{wq l:Nat}{all:List V}{k:St->Prop}:∀ (w:List (List UInt8)) (acc:List V) (ps:List (Int×List UInt8)) (σ:St),σ.L l=some acc->PayR σ acc ps->σ.L wq=some all->wq≠l->σ.I pk=some (0,pktF op (lk (!b)) (ad (!b)) tl tg) ->
 acc.length+w.length<=1000->(∀ σ' ys,Ext [] [l] [] σ σ'->σ'.L l=some ys->PayR σ' ys (ps++w.map λp=>(lk (!b),p))->k σ') ->
 compW l (.one 1) (λτ=>τ.L wq=some all) (condK (tabsP rs) Φ .tru) (elemK (tabsP rs) Φ (.tup (.cons (.attr (.var 0) 1) (.cons (.var 1) .nil)))) [some (.ref pk),none] k (w.map .bytes) σ
 | []=>λacc ps σ hL hP hw ø ø ø q=>cw_nil hw (q σ acc Ext.refl hL (by simpa using hP))
 | p::w=>λacc ps σ hL hP hw hne hpk hb q=>by
   have hb:acc.length+(w.length+1)<=1000:=hb
   refine cw_one hw ?_
   repeat kbo_bools
   intro c hc
   refine compA_of (L_of_T hL) (by unfold big;lia) ?_
   have x:Ext [] [l] [] σ ((σ.setT c [.int (lk (!b)),.bytes p]).setL l (acc++[.ref c])):=Ext.setL (Ext.setT Ext.refl hc) (.inl ⟨.head _,_,hL⟩)
   have hP':PayR ((σ.setT c [.int (lk (!b)),.bytes p]).setL l (acc++[.ref c])) (acc++[.ref c]) (ps++[(lk (!b),p)]):=(hP.mono λa y h=>x.T a y h).snoc (T_of_L T_eq)
   refine comp36 w (acc++[.ref c]) (ps++[(lk (!b),p)]) _ L_eq hP' (L_ne hne hw) hne hpk (by rw [List.length_append];show acc.length+1+w.length<=1000;lia) λσ' ys y h1 h2=>?_
   refine q σ' ys (x.trans y) h1 ?_
   rw [List.append_assoc] at h2
   exact h2
noncomputable def tail36:SL:=(.cons (.asg 5 (.list .nil)) (.cons (.ite (.andv (.var 3) (.cmp .eq (.attr (.var 1) 0) (.gint "ASKS" 1))) (.cons (.asg 6 (.new 0 (.cons (.gint "ANSWERS" 2) (.cons (.attr (.var 0) 8) (.cons (.attr (.var 0) 9) (.cons (.attr (.var 1) 1) (.cons (.attr (.var 1) 2) .nil))))))) (.cons (.expr (.m1 .append (.var 5) (.tup (.cons (.attr (.var 1) 1) (.cons (.var 6) .nil))))) .nil)) .nil) (.cons (.ret (.tup (.cons (.var 5) (.cons (.comp [1] 1 (.one 1) (.obj (.var 4)) .tru (.tup (.cons (.attr (.var 0) 1) (.cons (.var 1) .nil)))) .nil)))) .nil)))
theorem ret36 {pk:Nat}{op tl tg:Int}{b:Bool}{wq rp:Nat}{xs:List V}{rq:List Rq}{w:List (List UInt8)}{lo:Lo}{σ:St}{k:KV} (h1:lo[1]?=some (some (.ref pk))) (h4:lo[4]?=some (some (.ref wq))) (h5:lo[5]?=some (some (.ref rp))) (hpk:σ.I pk=some (0,pktF op (lk (!b)) (ad (!b)) tl tg)) (hw:σ.L wq=some (w.map .bytes)) (hr:σ.L rp=some xs) (hR:ReqR σ xs rq) (hl:w.length<=500)
 (q:∀ t σ' pl ys,Ext [] [] [] σ σ'->σ'.T t=some [.ref rp,.ref pl]->σ'.L rp=some xs->σ'.L pl=some ys->ReqR σ' xs rq->PayR σ' ys (w.map λp=>(lk (!b),p))->k (.ref t) σ') :
 wpSL (tabsP rs) Φ (.cons (.ret (.tup (.cons (.var 5) (.cons (.comp [1] 1 (.one 1) (.obj (.var 4)) .tru (.tup (.cons (.attr (.var 0) 1) (.cons (.var 1) .nil)))) .nil)))) .nil) lo σ (retK k):=by
 kp_flats
 refine kVar_of h5 ?_
 refine kVar_of h4 ?_
 refine kObj_L hw ?_
 intro l hf
 have hv:(List.map (λi=>lo[i]?.join) [1]++List.replicate 1 none)=[some (.ref pk),none]:=by simp [h1]
 rw [hv]
 have x0:Ext [] [] [] σ (σ.setL l []):=Ext.setL Ext.refl (.inr hf)
 refine comp36 w [] [] (σ.setL l []) L_eq .nil (L_ne (fr_L hf hw) hw) (fr_L hf hw) hpk (by simp;lia) λσ' ys x g1 g2=>?_
 have xx:Ext [] [] [] σ σ':=((x0.wide (by acc_open) (by acc_open) (by acc_open):Ext [] [l] [] σ _).trans x).wide (by acc_open) (λy hy=>.inr (by rw [List.mem_singleton.mp hy];exact hf)) (by acc_open)
 refine kTup_of (by acc_open) λt ht=>?_
 have hts:=xx.al _ ht
 have xt:Ext [] [] [] σ (σ'.setT t [.ref rp,.ref l]):=Ext.setT xx hts
 have yt:Ext [] [] [] σ' (σ'.setT t [.ref rp,.ref l]):=Ext.setT Ext.refl ht
 refine retK_same (q t _ l ys xt T_eq (xt.L _ _ (by acc_open) hr) g1 (hR.mono (λa y h=>xt.T a y h) λa y h=>xt.I a _ (by acc_open) h) ?_)
 exact g2.mono λa y h=>yt.T a y h
theorem tail36_ok (h7:C7 (Φ 7)) {arp tab pk:Nat}{op tl tg:Int}{b fm:Bool}{wq:Nat}{w:List (List UInt8)}{lo:Lo}{σ:St}{k:KV} (hlo:lo.length=7) (h0:lo[0]?=some (some (.ref arp))) (h1:lo[1]?=some (some (.ref pk))) (h3:lo[3]?=some (some (.bool (tg == ad b)))) (h4:lo[4]?=some (some (.ref wq)))
 (ha:σ.I arp=some (3,apF b tab)) (hpk:σ.I pk=some (0,pktF op (lk (!b)) (ad (!b)) tl tg)) (hw:σ.L wq=some (w.map .bytes)) (hl:w.length<=500)
 (q:∀ t σ' rp pl xs ys,Ext [] [] [] σ σ'->σ'.T t=some [.ref rp,.ref pl]->σ'.L rp=some xs->σ'.L pl=some ys->ReqR σ' xs (ansL b op tg)->PayR σ' ys (w.map λp=>(lk (!b),p))->k (.ref t) σ') :
 wpSL (tabsP rs) Φ tail36 lo σ (retK k):=by
 unfold tail36
 repeat kbo_bools
 intro c hc
 have e5:(lo.set 5 (some (.ref c)))[5]?=some (some (.ref c)):=List.getElem?_set_self (by rw [hlo];decide)
 have e0:(lo.set 5 (some (.ref c)))[0]?=some (some (.ref arp)):=by rw [List.getElem?_set_ne (by decide)];exact h0
 have e1:(lo.set 5 (some (.ref c)))[1]?=some (some (.ref pk)):=by rw [List.getElem?_set_ne (by decide)];exact h1
 have e3:(lo.set 5 (some (.ref c)))[3]?=some (some (.bool (tg == ad b))):=by rw [List.getElem?_set_ne (by decide)];exact h3
 have e4:(lo.set 5 (some (.ref c)))[4]?=some (some (.ref wq)):=by rw [List.getElem?_set_ne (by decide)];exact h4
 have el:(lo.set 5 (some (.ref c))).length=7:=by rw [List.length_set];exact hlo
 generalize lo.set 5 (some (.ref c))=lo5 at e0 e1 e3 e4 e5 el |-
 have x0:Ext [] [] [] σ (σ.setL c []):=Ext.setL Ext.refl (.inr hc)
 refine kVar_of e3 ?_
 kp_flats
 cases hf:(tg == ad b)
 ·have ea:ansL b op tg=[]:=by unfold ansL;rw [hf];rfl
  rw [ea] at q
  refine kCAnd_f rfl (kIf_f rfl ?_)
  rw [q_lnil,q_seqnx]
  exact ret36 e1 e4 e5 hpk (L_ne (fr_L hc hw) hw) L_eq .nil hl λt σ' pl ys x a1 a2 a3 a4 a5=>q t σ' c pl [] ys (x0.trans x) a1 a2 a3 a4 a5
 ·refine kCAnd_t rfl ?_
  kp_flats
  refine kVar_of e1 ?_
  repeat kbo_bools
  cases ho:(op == 1)
  ·have ea:ansL b op tg=[]:=by unfold ansL;rw [hf,ho];rfl
   rw [ea] at q
   refine kIf_f rfl ?_
   rw [q_lnil,q_seqnx]
   exact ret36 e1 e4 e5 hpk (L_ne (fr_L hc hw) hw) L_eq .nil hl λt σ' pl ys x a1 a2 a3 a4 a5=>q t σ' c pl [] ys (x0.trans x) a1 a2 a3 a4 a5
  ·have ea:ansL b op tg=[⟨lk (!b),2,lk b,ad b,lk (!b),ad (!b)⟩]:=by unfold ansL;rw [hf,ho];rfl
   rw [ea] at q
   refine kIf_t rfl ?_
   kp_flats
   refine kVar_of e0 ?_
   repeat kbo_bools
   refine kVar_of e0 ?_
   repeat kbo_bools
   refine kVar_of e1 ?_
   repeat kbo_bools
   refine kVar_of e1 ?_
   repeat kbo_bools
   intro r hr
   refine h7 _ _ _ _ _ _ _ _ I_eq ⟨rfl,?_⟩
   rw [St.setI_setI]
   have hrs:σ.fresh r:=fr_setL hr
   have f6:(lo5.set 6 (some (.ref r)))[6]?=some (some (.ref r)):=List.getElem?_set_self (by rw [el];decide)
   have f1:(lo5.set 6 (some (.ref r)))[1]?=some (some (.ref pk)):=by rw [List.getElem?_set_ne (by decide)];exact e1
   have f4:(lo5.set 6 (some (.ref r)))[4]?=some (some (.ref wq)):=by rw [List.getElem?_set_ne (by decide)];exact e4
   have f5:(lo5.set 6 (some (.ref r)))[5]?=some (some (.ref c)):=by rw [List.getElem?_set_ne (by decide)];exact e5
   kp_flats
   generalize lo5.set 6 (some (.ref r))=lo6 at f1 f4 f5 f6 |-
   refine kVar_of f5 ?_
   repeat kbo_bools
   refine kVar_of f1 ?_
   have hpk':((σ.setL c []).setI r (0,pktF 2 (lk b) (ad b) (lk (!b)) (ad (!b)))).I pk=some (0,pktF op (lk (!b)) (ad (!b)) tl tg):=I_ne (fr_I hrs hpk) hpk
   repeat kbo_bools
   refine kVar_of f6 ?_
   repeat kbo_bools
   intro t2 ht2
   have ht2s:σ.fresh t2:=fr_setL (fr_setI ht2)
   refine x_append (xs:=[]) (L_of_T (L_of_I L_eq)) (by unfold big;decide) ?_
   have x1:Ext [] [] [] σ ((((σ.setL c []).setI r (0,pktF 2 (lk b) (ad b) (lk (!b)) (ad (!b)))).setT t2 [.int (lk (!b)),.ref r]).setL c ([]++[.ref t2])):=Ext.setL (Ext.setT (Ext.setI x0 (.inr hrs)) ht2s) (.inr hc)
   refine ret36 (xs:=[.ref t2]) (rq:=[⟨lk (!b),2,lk b,ad b,lk (!b),ad (!b)⟩]) f1 f4 f5 hpk' (x1.L _ _ (by acc_open) hw) L_eq (.cons (T_of_L T_eq) (I_of_L (I_of_T I_eq)) .nil) hl λt σ' pl ys x a1 a2 a3 a4 a5=>q t σ' c pl _ ys (x1.trans x) a1 a2 a3 a4 a5
end
section
variable {rs:Nat->List V->St->Prop}{Φ:Phi}
inductive Learn (now:Int) (b fm:Bool) (σ:St):List Ent->List Ent->List (List UInt8)->Prop
 | known (pre post:List Ent) (t:Ent) (q:Nat) (hk:t.key=ad (!b)) (hq:σ.fresh q):Learn now b fm σ (pre++t::post) (pre++{ t with link:=.int (lk (!b)),since:=now,tries:=0,q:=q,que:=[] }::post) t.que
 | other (es:List Ent) (hk:ad (!b) ∉ es.map (λø=>ø.key)) (hf:fm=false):Learn now b fm σ es es []
 | new (es:List Ent) (e q:Nat) (ord:Int) (hk:ad (!b) ∉ es.map (λø=>ø.key)) (hf:fm=true) (he:σ.fresh e) (hq:σ.fresh q):Learn now b fm σ es (es++[⟨ad (!b),e,ord,.int (lk (!b)),now,0,q,[]⟩]) []
noncomputable def C36 (Φ:Ph):Prop:=∀ (b:Bool) (arp tab en:Nat) (made:Int) (es:List Ent) (pk:Nat) (op tl tg now:Int) σ k,σ.I arp=some (3,apF b tab)->TabR σ tab en made es->σ.I pk=some (0,pktF op (lk (!b)) (ad (!b)) tl tg)->es.length<3->(∀ t∈es,t.que.length<=50) ->
 (∀ t σ' rp pl xs ys es' made' w,Learn now b (tg == ad b) σ es es' w->Ext (tab::es.map (λø=>ø.a)) [] [en] σ σ'->TabR σ' tab en made' es'->σ'.T t=some [.ref rp,.ref pl]->σ'.L rp=some xs->σ'.L pl=some ys->ReqR σ' xs (ansL b op tg)->PayR σ' ys (w.map λp=>(lk (!b),p))->k (.ref t) σ')->Φ [.ref arp,.ref pk,.int now] σ k
theorem TabR.keep {σ τ:St}{tab en:Nat}{made:Int}{es:List Ent} (R:TabR σ tab en made es) (x:Ext [] [] [] σ τ):TabR τ tab en made es:=R.ext x (by acc_open) (by acc_open) λø ø=>⟨by simp,by simp⟩
theorem b36 (h7:C7 (Φ 7)) (h26:C26 (Φ 26)) (h33:C33 (Φ 33)):C36 (fW rs Φ 3 7 bd36):=by
 intro b arp tab en made es pk op tl tg now σ k ha R hpk hes hque h
 refine fW_of rfl ?_
 have hT:=R.tab
 unfold bd36
 repeat kbo_bools
 refine h26 _ _ _ _ _ _ _ _ _ ha hpk ?_
 repeat kbo_bools
 intro c hc
 repeat kbo_bools
 rw [ad_nz]
 repeat kbo_bools
 have x0:Ext [] [] [] σ (σ.setL c []):=Ext.setL Ext.refl (.inr hc)
 have R0:=R.keep x0
 have fin:∀ (wq:Nat) (σ1:St) (es':List Ent) (made':Int) (w:List (List UInt8)),Learn now b (tg == ad b) σ es es' w->Ext (tab::es.map (λø=>ø.a)) [] [en] σ σ1->TabR σ1 tab en made' es'->σ1.I arp=some (3,apF b tab)->σ1.I pk=some (0,pktF op (lk (!b)) (ad (!b)) tl tg)->σ1.L wq=some (w.map .bytes)->w.length<=500 ->
  wpSL (tabsP rs) Φ tail36 ((((lo0 7 [.ref arp,.ref pk,.int now]).set 3 (some (.bool (tg == ad b)))).set 4 (some (.ref c))).set 4 (some (.ref wq))) σ1 (retK k):=λwq σ1 es' made' w L x R1 a1 a2 a3 a4=>
  tail36_ok (fm:=false) h7 rfl rfl rfl rfl rfl a1 a2 a3 a4 λt σ' rp pl xs ys y b1 b2 b3 b4 b5=>h t σ' rp pl xs ys es' made' w L (x.trans (y.wide (by acc_open) (by acc_open) (by acc_open))) (R1.keep y) b1 b2 b3 b4 b5
 have nI:∀ (a c':Nat) (f),σ.I a=some (c',f)->c'≠5->c'≠4->a ∉ tab::es.map (λø=>ø.a):=λa c' f hx h5 h4 hm=>by
  rcases List.mem_cons.mp hm with e | hm
  ·rw [e,hT] at hx;cases hx;exact h5 rfl
  ·obtain ⟨u,hu,e⟩:=List.mem_map.mp hm
   have:=(R.ent u hu).i
   rw [show u.a=a from e,hx] at this;cases this;exact h4 rfl
 by_cases hk:ad (!b)∈es.map (λø=>ø.key)
 ·obtain ⟨pre,t,post,rfl,ht,hp⟩:=ent_split hk R.kk
  have go:=h33.1 tab en made pre post t (lk (!b)) now (!(tg == ad b)) (σ.setL c []) (λv σ=>seqK (tabsP rs) Φ SL.nil (seqK (tabsP rs) Φ tail36 (retK k)) .nx ((((lo0 7 [.ref arp,.ref pk,.int now]).set 3 (some (.bool (tg == ad b)))).set 4 (some (.ref c))).set 4 (some v)) σ) R0 λq σ' hq x R'=>?_
  ·rw [ht] at go
   exact go
  ·have hqs:=x0.al _ hq
   have hm:t∈pre++t::post:=List.mem_append_right _ (.head _)
   have xx:Ext (tab::(pre++t::post).map (λø=>ø.a)) [] [en] σ σ':=(x0.wide (by acc_open) (by acc_open) (by acc_open):Ext (tab::(pre++t::post).map (λø=>ø.a)) [] [en] σ _).trans (x.wide (λy hy=>.inl (by rw [List.mem_singleton.mp hy];exact .tail _ (List.mem_map.mpr ⟨t,hm,rfl⟩))) (by acc_open) (by acc_open))
   exact fin t.q σ' _ made t.que (.known pre post t q ht hqs) xx R' (xx.I _ _ (nI _ _ _ ha (by decide) (by decide)) ha) (xx.I _ _ (nI _ _ _ hpk (by decide) (by decide)) hpk) (x.L _ _ (by acc_open) (x0.L _ _ (by acc_open) (R.ent t hm).l)) (Nat.le_trans (hque t hm) (by decide))
 ·cases hf:(tg == ad b)
  ·refine h33.2.1 _ _ _ _ _ _ _ _ _ R0 hk λq hq=>?_
   have hqs:=x0.al _ hq
   have x1:Ext [] [] [] σ ((σ.setL c []).setL q []):=Ext.setL x0 (.inr hqs)
   have:=fin q _ es made [] (.other es hk hf) (x1.wide (by acc_open) (by acc_open) (by acc_open)) (R.keep x1) (x1.I _ _ (by acc_open) ha) (x1.I _ _ (by acc_open) hpk) L_eq (by acc_open)
   rw [hf] at this
   exact this
  ·refine h33.2.2 _ _ _ _ _ _ _ _ _ R0 hk hes λe q wq σ' he hq hwq x R' hw=>?_
   have xx:Ext (tab::es.map (λø=>ø.a)) [] [en] σ σ':=(x0.wide (by acc_open) (by acc_open) (by acc_open):Ext (tab::es.map (λø=>ø.a)) [] [en] σ _).trans (x.wide (λy hy=>.inl (by rw [List.mem_singleton.mp hy];exact .head _)) (by acc_open) (λø h=>.inl h))
   have:=fin wq σ' _ (made+1) [] (.new es e q made hk hf (x0.al _ he) (x0.al _ hq)) xx R' (xx.I _ _ (nI _ _ _ ha (by decide) (by decide)) ha) (xx.I _ _ (nI _ _ _ hpk (by decide) (by decide)) hpk) hw (by acc_open)
   rw [hf] at this
   exact this
end
section
variable {rs:Nat->List V->St->Prop}{Φ:Phi}
noncomputable def qR (b:Bool) (key:Int):Rq:=⟨BC,1,lk b,ad b,0,key⟩
inductive Ask (now:Int) (b:Bool) (key:Int) (p:List UInt8) (σ:St):List Ent->List Ent->List Rq->Prop
 | new (es:List Ent) (e q:Nat) (ord:Int) (hk:key ∉ es.map (λø=>ø.key)) (he:σ.fresh e) (hq:σ.fresh q):Ask now b key p σ es (es++[⟨key,e,ord,.none,now,1,q,[p]⟩]) [qR b key]
 | more (pre post:List Ent) (t:Ent) (hk:t.key=key) (hl:t.link=.none):Ask now b key p σ (pre++t::post) (pre++{ t with que:=t.que++[p] }::post) []
noncomputable def C37 (Φ:Ph):Prop:=∀ (b:Bool) (arp tab en:Nat) (made:Int) (es:List Ent) (key now:Int) (p:List UInt8) σ k,σ.I arp=some (3,apF b tab)->TabR σ tab en made es->es.length<3->(∀ t∈es,t.key=key->t.link=.none/\t.que.length<3) ->
 (∀ t σ' rp pl xs es' made' rq,Ask now b key p σ es es' rq->Ext [tab] (es.map (λø=>ø.q)) [en] σ σ'->TabR σ' tab en made' es'->σ'.T t=some [.ref rp,.ref pl]->σ'.L rp=some xs->σ'.L pl=some []->ReqR σ' xs rq->k (.ref t) σ')->Φ [.ref arp,.int key,.bytes p,.int now] σ k
theorem b37 (h25:C25 (Φ 25)) (h31:C31 (Φ 31)) (h34:C34 (Φ 34)):C37 (fW rs Φ 4 5 bd37):=by
 intro b arp tab en made es key now p σ k ha R hes hq h
 refine fW_of rfl ?_
 have hT:=R.tab
 have nt:arp≠tab:=ne_cls ha hT (by decide)
 unfold bd37
 repeat kbo_bools
 refine h31 _ _ _ _ _ _ _ _ R (λt ht e=>(hq t ht e).1) ?_
 repeat kbo_bools
 by_cases hk:key∈es.map (λø=>ø.key)
 ·obtain ⟨pre,t,post,rfl,ht,hp⟩:=ent_split hk R.kk
  have hm:t∈pre++t::post:=List.mem_append_right _ (.head _)
  obtain ⟨q1,q2⟩:=hq t hm ht
  subst ht
  refine h34.2 _ _ _ _ _ _ _ _ _ _ R q1 q2 λσ1 x R1=>?_
  repeat kbo_bools
  intro c hc
  repeat kbo_bools
  intro c2 hc2
  repeat kbo_bools
  intro t' ht'
  have y1:Ext [] [] [] σ1 ((σ1.setL c []).setL c2 []):=Ext.setL (Ext.setL Ext.refl (.inr hc)) (.inr (fr_setL hc2))
  have y:Ext [] [] [] σ1 (((σ1.setL c []).setL c2 []).setT t' [.ref c,.ref c2]):=Ext.setT y1 (y1.al _ ht')
  have hcc:c≠c2:=fr_L hc2 L_eq
  refine retK_same (h t' _ c c2 [] _ made [] (.more pre post t rfl q1) ?_ (R1.keep y) T_eq (L_of_T (L_ne hcc L_eq)) (L_of_T L_eq) .nil)
  exact (x.wide (by acc_open) (λa ha=>.inl (by rw [List.mem_singleton.mp ha];exact List.mem_map.mpr ⟨t,hm,rfl⟩)) (by acc_open):Ext [tab] ((pre++t::post).map (λø=>ø.q)) [en] σ σ1).trans (y.wide (by acc_open) (by acc_open) (by acc_open))
 ·refine h34.1 _ _ _ _ _ _ _ _ _ R hk hes λe q σ1 he hq' x R1=>?_
  have ha1:σ1.I arp=some (3,apF b tab):=x.I _ _ (by simpa using nt) ha
  repeat kbo_bools
  refine h25 _ _ _ _ _ _ ha1 λr hr=>?_
  repeat kbo_bools
  intro t1 ht1
  repeat kbo_bools
  intro c hc
  repeat kbo_bools
  intro c2 hc2
  repeat kbo_bools
  intro t' ht'
  have f1:=fr_setI ht1
  have f2:=fr_setI (fr_setT hc)
  have f3:=fr_setI (fr_setT (fr_setL hc2))
  have f4:=fr_setI (fr_setT (fr_setL (fr_setL ht')))
  have y:Ext [] [] [] σ1 ((((((σ1.setI r (0,pktF 1 (lk b) (ad b) 0 key)).setT t1 [.int 281474976710655,.ref r]).setL c [.ref t1]).setL c2 []).setT t' [.ref c,.ref c2])):=Ext.setT (Ext.setL (Ext.setL (Ext.setT (Ext.setI Ext.refl (.inr hr)) f1) (.inr f2)) (.inr f3)) f4
  have hcc:c≠c2:=fr_L hc2 L_eq
  have htt:t1≠t':=fr_T ht' (T_of_L (T_of_L T_eq))
  refine retK_same (h t' _ c c2 [.ref t1] _ (made+1) [qR b key] (.new es e q made hk he hq') ?_ (R1.keep y) T_eq (L_of_T (L_ne hcc L_eq)) (L_of_T L_eq) (.cons (T_ne htt (T_of_L (T_of_L T_eq))) (I_of_T (I_of_L (I_of_L (I_of_T I_eq)))) .nil))
  exact (x.wide (by acc_open) (by acc_open) (by acc_open):Ext [tab] (es.map (λø=>ø.q)) [en] σ σ1).trans (y.wide (by acc_open) (by acc_open) (by acc_open))
theorem comp38 (h25:C25 (Φ 25)) {arp tab:Nat}{b:Bool}{wq l:Nat}{all:List V}{k:St->Prop}:∀ (w:List Int) (acc:List V) (ps:List Rq) (σ:St),σ.L l=some acc->ReqR σ acc ps->σ.L wq=some all->wq≠l->σ.I arp=some (3,apF b tab) ->
 acc.length+w.length<=1000->(∀ σ' ys,Ext [] [l] [] σ σ'->σ'.L l=some ys->ReqR σ' ys (ps++w.map (qR b))->k σ') ->
 compW l (.one 1) (λτ=>τ.L wq=some all) (condK (tabsP rs) Φ .tru) (elemK (tabsP rs) Φ (.tup (.cons (.gint "BROADCAST" 281474976710655) (.cons (.meth (.var 0) 45 (.cons (.var 1) .nil)) .nil)))) [some (.ref arp),none] k (w.map .int) σ
 | []=>λacc ps σ hL hP hw ø ø ø q=>cw_nil hw (q σ acc Ext.refl hL (by simpa using hP))
 | p::w=>λacc ps σ hL hP hw hne ha hb q=>by
   have hb:acc.length+(w.length+1)<=1000:=hb
   refine cw_one hw ?_
   repeat kbo_bools
   refine h25 _ _ _ _ _ _ ha λr hr=>?_
   repeat kbo_bools
   intro c hc
   refine compA_of (L_of_T hL) (by unfold big;lia) ?_
   have x:Ext [] [l] [] σ (((σ.setI r (0,pktF 1 (lk b) (ad b) 0 p)).setT c [.int 281474976710655,.ref r]).setL l (acc++[.ref c])):=Ext.setL (Ext.setT (Ext.setI Ext.refl (.inr hr)) (fr_setI hc)) (.inl ⟨.head _,_,hL⟩)
   have hP':=(hP.mono (λa y h=>x.T a y h) λa y h=>x.I a _ (by acc_open) h).snoc (a:=c) (p:=r) (r:=qR b p) (T_of_L T_eq) (I_of_L (I_of_T I_eq))
   refine comp38 h25 w (acc++[.ref c]) (ps++[qR b p]) _ L_eq hP' (L_ne hne hw) hne (x.I _ _ (by acc_open) ha) (by rw [List.length_append];show acc.length+1+w.length<=1000;lia) λσ' ys y h1 h2=>?_
   refine q σ' ys (x.trans y) h1 ?_
   rw [List.append_assoc] at h2
   exact h2
noncomputable def C38 (Φ:Ph):Prop:=∀ (b:Bool) (arp tab en:Nat) (made:Int) (es:List Ent) (now:Int) σ k,σ.I arp=some (3,apF b tab)->TabR σ tab en made es->(∀ t∈es,t.link≠.none->now - t.since<90)->es.length<=50->(es.flatMap (λø=>ø.que)).length<=50 ->
 (∀ t σ' rp gv xs,Ext (es.map (λø=>ø.a)) [] [en] σ σ'->TabR σ' tab en made (es.filterMap (tkE now))->σ'.T t=some [.ref rp,.ref gv]->σ'.L rp=some xs->ReqR σ' xs ((es.filterMap (tkA now)).map (qR b))->σ'.L gv=some ((es.flatMap (tkG now)).map .bytes)->σ.fresh gv->k (.ref t) σ')->Φ [.ref arp,.int now] σ k
theorem tkA_all (now:Int) (es:List Ent):(es.filterMap (tkA now)).length<=es.length:=List.length_filterMap_le _ _
theorem b38 (h25:C25 (Φ 25)) (h35:C35 (Φ 35)):C38 (fW rs Φ 2 4 bd38):=by
 intro b arp tab en made es now σ k ha R hfr hl hg h
 refine fW_of rfl ?_
 have hT:=R.tab
 unfold bd38
 repeat kbo_bools
 refine h35 _ _ _ _ _ _ _ R hfr hl hg λag gv t1 σ1 fa fg ft x R1 hA hG hT1=>?_
 have na:arp ∉ es.map (λø=>ø.a):=λhm=>by
  obtain ⟨u,hu,e⟩:=List.mem_map.mp hm
  have:=(R.ent u hu).i
  rw [show u.a=arp from e,ha] at this;cases this
 have ha1:=x.I _ _ na ha
 repeat kbo_bools
 intro l hf
 have hf1:=x.al _ hf
 refine comp38 h25 (es.filterMap (tkA now)) [] [] _ L_eq .nil (L_ne (fr_L hf hA) hA) (fr_L hf hA) ha1 (by have:=tkA_all now es;simp only [List.length_nil];lia) λσ' ys y g1 g2=>?_
 have y0:Ext [] [l] [] σ1 (σ1.setL l []):=Ext.setL Ext.refl (.inr hf)
 have y1:Ext [] [] [] σ1 σ':=(y0.trans y).wide (by acc_open) (λa ha=>.inr (by rw [List.mem_singleton.mp ha];exact hf)) (by acc_open)
 repeat kbo_bools
 intro t ht
 have y2:Ext [] [] [] σ1 (σ'.setT t [.ref l,.ref gv]):=Ext.setT y1 (y1.al _ ht)
 have y3:Ext [] [] [] σ' (σ'.setT t [.ref l,.ref gv]):=Ext.setT Ext.refl ht
 refine retK_same (h t _ l gv ys (x.trans (y2.wide (by acc_open) (by acc_open) (by acc_open))) (R1.keep y2) T_eq g1 (g2.mono (λa z h=>y3.T a z h) λa z h=>y3.I a _ (by acc_open) h) (y2.L _ _ (by acc_open) hG) fg)
end
section
variable {rs:Nat->List V->St->Prop}{Φ:Phi}
structure FcR (σ:St) (b:Bool) (least:Int) (i arp tab en:Nat) (w made:Int) (es:List Ent):Prop where
 i:σ.I i=some (2,fcF b least arp w)
 arp:σ.I arp=some (3,apF b tab)
 T:TabR σ tab en made es
theorem FcR.out {σ:St}{b:Bool}{least:Int}{i arp tab en:Nat}{w made:Int}{es:List Ent} (R:FcR σ b least i arp tab en w made es) {a c':Nat}{f} (hx:σ.I a=some (c',f)) (h5:c'≠5) (h4:c'≠4):a ∉ tab::es.map (λø=>ø.a):=λhm=>by
 rcases List.mem_cons.mp hm with e | hm
 ·rw [e,R.T.tab] at hx;cases hx;exact h5 rfl
 ·obtain ⟨u,hu,e⟩:=List.mem_map.mp hm
  have:=(R.T.ent u hu).i
  rw [show u.a=a from e,hx] at this;cases this;exact h4 rfl
noncomputable def C39 (Φ:Ph):Prop:=∀ (b:Bool) (least:Int) (i arp tab en:Nat) (w made:Int) (es:List Ent) (key now:Int) (p:List UInt8) σ k,FcR σ b least i arp tab en w made es->least<=400->p.length<=500->key≠4294967295 ->
 ((key=511/\∀ c,σ.fresh c->k (.ref c) (σ.setL c [.bytes (frameB BC (lk b) 2048 p least)])) \/
  (key≠511/\es.length<3/\(∀ t∈es,t.key=key->t.link=.none/\t.que.length<3)/\∀ c σ' es' made' rq,σ.fresh c->Ask now b key p σ es es' rq->Ext [tab] (es.map (λø=>ø.q)) [en] σ σ'->FcR σ' b least i arp tab en w made' es'->σ'.L c=some ((rq.map (rqB b least)).map .bytes)->k (.ref c) σ'))->Φ [.ref i,.int key,.bytes p,.int now] σ k
theorem Ask.rq_len {now:Int}{b:Bool}{key:Int}{p:List UInt8}{σ:St}{es es':List Ent}{rq:List Rq} (h:Ask now b key p σ es es' rq):rq.length<=1:=by cases h <;> simp
theorem b39 (h19:C19 (Φ 19)) (h21:C21 (Φ 21)) (h22:C22 (Φ 22)) (h37:C37 (Φ 37)):C39 (fW rs Φ 4 6 bd39):=by
 intro b least i arp tab en w made es key now p σ k R hl hp hk h
 refine fW_of rfl ?_
 have hI:=R.i
 have hA:=R.arp
 unfold bd39
 repeat kbo_bools
 refine h19 _ _ _ _ hk ?_
 kp_flats
 rcases h with ⟨rfl,h⟩ | ⟨hn,hes,hq,h⟩
 ·repeat kbo_bools
  refine h21 _ _ _ _ _ _ _ _ _ _ hI hp hl ?_
  repeat kbo_bools
  intro c hc
  exact retK_same (h c hc)
 ·repeat kbo_bools
  refine h37 _ _ _ _ _ _ _ _ _ _ _ hA R.T hes hq λt σ1 rp pl xs es' made' rq ask x R1 hT hrp hpl hR=>?_
  have nt:i ∉ [tab]:=λhm=>R.out hI (by decide) (by decide) (by rw [List.mem_singleton.mp hm];exact .head _)
  have hI1:=x.I _ _ nt hI
  repeat kbo_bools
  refine h22 _ _ _ _ _ _ _ _ _ _ _ _ _ hI1 hl hrp hpl hR .nil (by have:=hR.len;have:=ask.rq_len;simp only [List.length_nil];lia) (by acc_open) λc hc=>?_
  have na:arp ∉ [tab]:=λhm=>R.out hA (by decide) (by decide) (by rw [List.mem_singleton.mp hm];exact .head _)
  have y:Ext [] [] [] σ1 (σ1.setL c ((rq.map (rqB b least)++([]:List (Int×List UInt8)).map (pyB b least)).map .bytes)):=Ext.setL Ext.refl (.inr hc)
  refine retK_same (h c _ es' made' rq (x.al _ hc) ask (x.trans (y.wide (by acc_open) (by acc_open) (by acc_open))) ⟨y.I _ _ (by acc_open) hI1,y.I _ _ (by acc_open) (x.I _ _ na hA),R1.keep y⟩ ?_)
  rw [L_eq];simp
noncomputable def C41 (Φ:Ph):Prop:=∀ (b:Bool) (least:Int) (i arp tab en:Nat) (w made:Int) (es:List Ent) (now:Int) σ k,FcR σ b least i arp tab en w made es->least<=400->(∀ t∈es,t.link≠.none->now - t.since<90)->es.length<=50->(es.flatMap (λø=>ø.que)).length<=50 ->
 (∀ t σ' fr gv,σ.fresh fr->σ.fresh gv->Ext (es.map (λø=>ø.a)) [] [en] σ σ'->FcR σ' b least i arp tab en w made (es.filterMap (tkE now))->σ'.T t=some [.ref fr,.ref gv]->σ'.L fr=some ((((es.filterMap (tkA now)).map (qR b)).map (rqB b least)).map .bytes)->σ'.L gv=some ((es.flatMap (tkG now)).map .bytes)->k (.ref t) σ')->Φ [.ref i,.int now] σ k
theorem b41 (h22:C22 (Φ 22)) (h38:C38 (Φ 38)):C41 (fW rs Φ 2 4 bd41):=by
 intro b least i arp tab en w made es now σ k R hl hfr hes hq h
 refine fW_of rfl ?_
 have hI:=R.i
 have hA:=R.arp
 unfold bd41
 repeat kbo_bools
 refine h38 _ _ _ _ _ _ _ _ _ hA R.T hfr hes hq λt1 σ1 rp gv xs x R1 hT hrp hR hG fg=>?_
 have ni:i ∉ es.map (λø=>ø.a):=λhm=>R.out hI (by decide) (by decide) (.tail _ hm)
 have na:arp ∉ es.map (λø=>ø.a):=λhm=>R.out hA (by decide) (by decide) (.tail _ hm)
 have hI1:=x.I _ _ ni hI
 repeat kbo_bools
 intro pl hpl
 have hn:rp≠pl:=fr_L hpl hrp
 have hI2:(σ1.setL pl []).I i=some (2,fcF b least arp w):=hI1
 have lr:=hR.len
 have la:=tkA_all now es
 have hR2:ReqR (σ1.setL pl []) xs ((es.filterMap (tkA now)).map (qR b)):=hR.mono (σ:=σ1) (τ:=σ1.setL pl []) (λø ø h=>h) λø ø h=>h
 refine h22 _ _ _ _ _ _ _ _ _ _ _ _ _ hI2 hl (L_ne hn hrp) L_eq hR2 .nil (by rw [List.length_map] at lr;simp only [List.length_nil];lia) (by acc_open) λc hc=>?_
 repeat kbo_bools
 intro t ht
 have hc1:=fr_setL hc
 have y1:Ext [] [] [] σ1 ((σ1.setL pl []).setL c ((((es.filterMap (tkA now)).map (qR b)).map (rqB b least)++([]:List (Int×List UInt8)).map (pyB b least)).map .bytes)):=Ext.setL (Ext.setL Ext.refl (.inr hpl)) (.inr hc1)
 have ht1:=y1.al _ ht
 have y:Ext [] [] [] σ1 (((σ1.setL pl []).setL c ((((es.filterMap (tkA now)).map (qR b)).map (rqB b least)++([]:List (Int×List UInt8)).map (pyB b least)).map .bytes)).setT t [.ref c,.ref gv]):=Ext.setT y1 ht1
 refine retK_same (h t _ c gv (x.al _ hc1) fg (x.trans (y.wide (by acc_open) (by acc_open) (by acc_open))) ⟨y.I _ _ (by acc_open) hI1,y.I _ _ (by acc_open) (x.I _ _ na hA),R1.keep y⟩ T_eq ?_ (y.L _ _ (by acc_open) hG))
 rw [L_of_T L_eq];simp
noncomputable def tryK (k:KL):KL:=exF k
theorem q_tknx {k:KL}{lo:Lo}{σ:St}:tryK k .nx lo σ=k .nx lo σ:=rfl
theorem q_tkrt {k:KL}{lo:Lo}{σ:St}{v:V}:tryK k (.rt v) lo σ=k (.rt v) lo σ:=rfl
theorem try_good {TB:Tabs}{i f:Nat}{as:EL}{b:SL}{j fd:Nat}{k:KL}{lo:Lo}{σ:St}{vs:List V} (hv:∀ k',k' vs σ->wpEL TB Φ as lo σ k') (q:Φ f vs σ (λv σ=>wpSL TB Φ b (lo.set i (some v)) σ (tryK k))):wpS TB Φ (.tryw i f as b j fd) lo σ k:=by
 exact hv (λvs σ=>Φ f vs σ (λv σ=>wpSL TB Φ b (lo.set i (some v)) σ (exF k))\/(TB.rs f vs σ/\kHand TB fd lo k σ lo[j]?)) (.inl q)
theorem try_bad {TB:Tabs}{i f:Nat}{as:EL}{b:SL}{j fd:Nat}{k:KL}{lo:Lo}{σ:St}{vs:List V}{r c:Nat}{fs:List (Nat×V)}{u:Int} (hv:∀ k',k' vs σ->wpEL TB Φ as lo σ k') (hr:TB.rs f vs σ) (h1:lo[j]?=some (some (.ref r))) (h2:σ.I r=some (c,fs)) (h3:fs.lookup fd=some (.int u)) (h4:TB.fld c fd=true) (h5:fs.length<=50)
 (q:∀ l1 l2 t,(σ.setI r (c,fput fd (.int (u+1)) fs)).fresh l1->((σ.setI r (c,fput fd (.int (u+1)) fs)).setL l1 []).fresh l2->(((σ.setI r (c,fput fd (.int (u+1)) fs)).setL l1 []).setL l2 []).fresh t->k (.rt (.ref t)) lo ((((σ.setI r (c,fput fd (.int (u+1)) fs)).setL l1 []).setL l2 []).setT t [.ref l1,.ref l2])):wpS TB Φ (.tryw i f as b j fd) lo σ k:=by
 exact hv (λvs σ=>Φ f vs σ (λv σ=>wpSL TB Φ b (lo.set i (some v)) σ (exF k))\/(TB.rs f vs σ/\kHand TB fd lo k σ lo[j]?)) (.inr ⟨hr,gS_of h1 (gS_of rfl (gS_of h2 (gS_of h3 ⟨h4,h5,λl1 f1 l2 f2 t f3=>q l1 l2 t f1 f2 f3⟩)))⟩)
structure FrmOk (hd:List UInt8) (t s kd:Int) (p:List UInt8):Prop where
 lo:14<=hd.length
 hi:hd.length<=600
 t:g48 hd 0=t
 s:g48 hd 6=s
 kd:g16 hd 12=kd
 p:hd.drop 14=p
noncomputable def C40 (Φ:Ph):Prop:=∀ (b:Bool) (least:Int) (i arp tab en:Nat) (w made:Int) (es:List Ent) (now:Int) (o:List UInt8) σ k,FcR σ b least i arp tab en w made es ->
 ((∃ hd s:List UInt8,o=hd++s/\s.length=4/\14<=hd.length/\hd.length<=600/\sumO hd≠s/\∀ t σ' l1 l2,Ext [i] [] [] σ σ'->FcR σ' b least i arp tab en (w+1) made es->σ'.T t=some [.ref l1,.ref l2]->σ'.L l1=some []->σ'.L l2=some []->k (.ref t) σ') \/
  (∃ hd s p tg,o=hd++sumO hd/\FrmOk hd tg s 2048 p/\(tg=lk b\/tg=BC)/\∀ t σ' l1 l2,σ.fresh l2->Ext [] [] [] σ σ'->σ'.T t=some [.ref l1,.ref l2]->σ'.L l1=some [.bytes p]->σ'.L l2=some []->k (.ref t) σ') \/
  (∃ hd s p tg op tl tg',o=hd++sumO hd/\FrmOk hd tg s 2054 p/\(tg=lk b\/tg=BC)/\ArpOk p op (lk (!b)) (ad (!b)) tl tg'/\least<=400/\es.length<3/\(∀ t∈es,t.que.length<=50/\∀ p∈t.que,p.length<=500) /\
    ∀ t σ' l1 fr es' made' wt,σ.fresh fr->Learn now b (tg' == ad b) σ es es' wt->Ext (tab::es.map (λø=>ø.a)) [] [en] σ σ'->FcR σ' b least i arp tab en w made' es'->σ'.T t=some [.ref l1,.ref fr]->σ'.L l1=some [] ->
      σ'.L fr=some (((ansL b op tg').map (rqB b least)++(wt.map λp=>(lk (!b),p)).map (pyB b least)).map .bytes)->k (.ref t) σ'))->Φ [.ref i,.bytes o,.int now] σ k
theorem Learn.mono {now:Int}{b fm:Bool}{σ τ:St}{es es':List Ent}{w:List (List UInt8)} (h:Learn now b fm τ es es' w) (al:∀ a,τ.fresh a->σ.fresh a):Learn now b fm σ es es' w:=by
 cases h with
 | known pre post t q hk hq=>exact .known pre post t q hk (al _ hq)
 | other _ hk hf=>exact .other _ hk hf
 | new _ e q ord hk hf he hq=>exact .new _ e q ord hk hf (al _ he) (al _ hq)
theorem skip40 {b:Bool}{least:Int}{i r arp:Nat}{w tg s kd:Int}{p:List UInt8}{t rest:SL}{lo:Lo}{σ:St}{k:KL} (h3:lo[3]?=some (some (.ref r))) (h0:lo[0]?=some (some (.ref i))) (hr:σ.I r=some (1,frmF tg s kd p)) (hi:σ.I i=some (2,fcF b least arp w)) (htg:tg=lk b\/tg=BC)
 (q:wpSL (tabsP rs) Φ rest lo σ k):wpSL (tabsP rs) Φ (.cons (S.ite ((E.cmp Cop.ne ((E.var 3).attr 4) ((E.var 0).attr 8)).andv (E.cmp Cop.ne ((E.var 3).attr 4) (E.gint "BROADCAST" 281474976710655))) t SL.nil) rest) lo σ k:=by
 kp_flats
 refine kVar_of h3 ?_
 repeat kbo_bools
 refine kVar_of h0 ?_
 repeat kbo_bools
 rcases htg with rfl | rfl
 ·refine kCAnd_f (by acc_open) (kIf_f rfl ?_)
  rw [q_lnil,q_seqnx];exact q
 ·refine kCAnd_t (by cases b <;> decide +kernel) ?_
  kp_flats
  refine kVar_of h3 ?_
  repeat kbo_bools
theorem b40 (h9:C9 (Φ 9)) (h16:C16 (Φ 16)) (h22:C22 (Φ 22)) (h36:C36 (Φ 36)):C40 (fW rsP Φ 3 6 bd40):=by
 intro b least i arp tab en w made es now o σ k R h
 refine fW_of rfl ?_
 have hI:=R.i
 have hA:=R.arp
 unfold bd40
 rw [q_lcons]
 rcases h with ⟨hd,s,rfl,hs,h1,h2,hn,h⟩ | ⟨hd,s,p,tg,rfl,F,htg,h⟩ | ⟨hd,s,p,tg,op,tl,tg',rfl,F,htg,ha,hl,hes,hque,h⟩
 ·refine try_bad (vs:=[.bytes (hd++s)]) (λk' q=>?_) ⟨rfl,hd,s,rfl,hs,h1,h2,hn⟩ rfl hI rfl rfl (Nat.le_of_ble_eq_true rfl) λl1 l2 t f1 f2 f3=>?_
  ·repeat kbo_bools
  ·rw [q_seqrt]
   have x0:Ext [i] [] [] σ (σ.setI i (2,fcF b least arp (w+1))):=Ext.setI Ext.refl (.inl (.head _))
   have x1:Ext [i] [] [] σ ((((σ.setI i (2,fcF b least arp (w+1))).setL l1 []).setL l2 []).setT t [.ref l1,.ref l2]):=Ext.setT (Ext.setL (Ext.setL x0 (.inr (fr_setI f1))) (.inr (fr_setI (fr_setL f2)))) (fr_setI (fr_setL (fr_setL f3)))
   have n12:l1≠l2:=fr_L f2 L_eq
   have nia:i≠arp:=ne_cls hI hA (by decide)
   have nit:i≠tab:=ne_cls hI R.T.tab (by decide)
   refine retK_same (h t _ l1 l2 x1 ⟨I_of_T (I_of_L (I_of_L I_eq)),x1.I _ _ (by simpa using Ne.symm nia) hA,R.T.ext x1 (by simpa using Ne.symm nit) (by acc_open) λu hu=>⟨by simpa using λe=>R.out hI (by decide) (by decide) (.tail _ (List.mem_map.mpr ⟨u,hu,e⟩)),by simp⟩⟩ T_eq (L_of_T (L_ne n12 L_eq)) (L_of_T L_eq))
 ·refine try_good (vs:=[.bytes (hd++sumO hd)]) (λk' q=>?_) ?_
  ·repeat kbo_bools
  ·refine h16 hd _ _ F.lo F.hi λr hr=>?_
   rw [F.t,F.s,F.kd,F.p]
   have x0:Ext [] [] [] σ (σ.setI r (1,frmF tg s 2048 p)):=Ext.setI Ext.refl (.inr hr)
   have hI1:=x0.I _ _ (by acc_open) hI
   refine skip40 rfl rfl I_eq hI1 htg ?_
   repeat kbo_bools
   intro l1 f1
   repeat kbo_bools
   intro l2 f2
   repeat kbo_bools
   intro t f3
   have n12:l1≠l2:=fr_L f2 L_eq
   rw [q_tkrt,q_seqrt]
   exact retK_same (h t _ l1 l2 (fr_setI (fr_setL f2)) (Ext.setT (Ext.setL (Ext.setL x0 (.inr (fr_setI f1))) (.inr (fr_setI (fr_setL f2)))) (fr_setI (fr_setL (fr_setL f3)))) T_eq (L_of_T (L_ne n12 L_eq)) (L_of_T L_eq))
 ·refine try_good (vs:=[.bytes (hd++sumO hd)]) (λk' q=>?_) ?_
  ·repeat kbo_bools
  ·refine h16 hd _ _ F.lo F.hi λr hr=>?_
   rw [F.t,F.s,F.kd,F.p]
   have x0:Ext [] [] [] σ (σ.setI r (1,frmF tg s 2054 p)):=Ext.setI Ext.refl (.inr hr)
   have hI1:=x0.I _ _ (by acc_open) hI
   have hA1:=x0.I _ _ (by acc_open) hA
   have hR1:(σ.setI r (1,frmF tg s 2054 p)).I r=some (1,frmF tg s 2054 p):=I_eq
   refine skip40 rfl rfl hR1 hI1 htg ?_
   generalize hS:σ.setI r (1,frmF tg s 2054 p)=σ1 at x0 hI1 hA1 hR1 |-
   clear hS
   repeat kbo_bools
   refine h9 _ _ _ _ _ _ _ _ ha λpk hpk=>?_
   have x1:Ext [] [] [] σ (σ1.setI pk (0,pktF op (lk (!b)) (ad (!b)) tl tg')):=Ext.setI x0 (.inr (x0.al _ hpk))
   repeat kbo_bools
   refine h36 _ _ _ _ _ _ _ _ _ _ _ _ _ (x1.I _ _ (by acc_open) hA) (R.T.keep x1) I_eq hes (λt ht=>(hque t ht).1) λt2 σ2 rp pl xs ys es' made' wt L x2 T2 hT hrp hpl hq hy=>?_
   have xx:Ext (tab::es.map (λø=>ø.a)) [] [en] σ σ2:=(x1.wide (by acc_open) (by acc_open) (by acc_open):Ext (tab::es.map (λø=>ø.a)) [] [en] σ _).trans x2
   have hI2:=xx.I _ _ (R.out hI (by decide) (by decide)) hI
   have hA2:=xx.I _ _ (R.out hA (by decide) (by decide)) hA
   repeat kbo_bools
   rw [q_tknx,q_seqnx]
   repeat kbo_bools
   intro l1 f1
   repeat kbo_bools
   have y1:Ext [] [] [] σ2 (σ2.setL l1 []):=Ext.setL Ext.refl (.inr f1)
   have hw:wt.length<=50/\∀ p∈wt,p.length<=500:=by
    cases L with
    | known pre post t q hk hq=>exact hque t (List.mem_append_right _ (.head _))
    | other=>exact ⟨by simp,by simp⟩
    | new=>exact ⟨by simp,by simp⟩
   have la:(ansL b op tg').length<=1:=by unfold ansL;split <;> simp
   have lx:=hq.len
   have ly:=hy.len
   rw [List.length_map] at ly
   refine h22 _ _ _ _ _ _ _ _ _ _ _ _ _ (y1.I _ _ (by acc_open) hI2) hl (y1.L _ _ (by acc_open) hrp) (y1.L _ _ (by acc_open) hpl) (hq.mono (λa y h=>y1.T a y h) λa y h=>y1.I a _ (by acc_open) h) (hy.mono λa y h=>y1.T a y h) (by lia) (λp hp=>?_) λc hc=>?_
   ·obtain ⟨u,hu,rfl⟩:=List.mem_map.mp hp
    exact hw.2 u hu
   ·repeat kbo_bools
    intro t ht
    have y2:Ext [] [] [] σ2 ((σ2.setL l1 []).setL c (((ansL b op tg').map (rqB b least)++(wt.map λp=>(lk (!b),p)).map (pyB b least)).map .bytes)):=Ext.setL y1 (.inr (y1.al _ hc))
    have y3:=Ext.setT (a:=t) (v:=[.ref l1,.ref c]) y2 (y2.al _ ht)
    have n1:l1≠c:=fr_L hc L_eq
    refine retK_same (h t _ l1 c es' made' wt (xx.al _ (y1.al _ hc)) (L.mono x1.al) (xx.trans (y3.wide (by acc_open) (by acc_open) (by acc_open))) ⟨y3.I _ _ (by acc_open) hI2,y3.I _ _ (by acc_open) hA2,T2.keep y3⟩ T_eq (L_of_T (L_ne n1 L_eq)) (L_of_T L_eq))
end
section
variable {rs:Nat->List V->St->Prop}{Φ:Phi}
section
variable {TB:Tabs}
noncomputable def whB (J:Nat->Lo->St->Prop) (n:Nat) (k:KL):KL:=wlK (λlo σ=>∃ m,m<n/\J m lo σ) k
noncomputable def whK (TB:Tabs) (Φ:Phi) (b:SL) (J:Nat->Lo->St->Prop) (n:Nat) (k:KL) (lo:Lo):Bool->St->Prop:=λr σ=>gC r (wpSL TB Φ b lo σ (whB J n k)) (k .nx lo σ)
theorem st_while {c:E}{b:SL}{k:KL}{lo:Lo}{σ:St} (J:Nat->Lo->St->Prop) (n:Nat) (h:J n lo σ) (st:∀ n lo σ,J n lo σ->wpC TB Φ c lo σ (wpE TB Φ c lo σ) (whK TB Φ b J n k lo)):wpS TB Φ (.while c b) lo σ k:=by
 exact ⟨J,n,h,st⟩
theorem whK_t {b:SL}{J:Nat->Lo->St->Prop}{n:Nat}{k:KL}{lo:Lo}{r:Bool}{σ:St} (h:r=true) (q:wpSL TB Φ b lo σ (whB J n k)):whK TB Φ b J n k lo r σ:=by rw [h];exact q
theorem whK_f {b:SL}{J:Nat->Lo->St->Prop}{n:Nat}{k:KL}{lo:Lo}{r:Bool}{σ:St} (h:r=false) (q:k .nx lo σ):whK TB Φ b J n k lo r σ:=by rw [h];exact q
theorem q_whnx {J:Nat->Lo->St->Prop}{n:Nat}{k:KL}{lo:Lo}{σ:St}:whB J n k .nx lo σ=∃ m,m<n/\J m lo σ:=rfl
end
theorem q_len_ne {a b:Nat}{xs ys:List V}{k:Bool->Prop}{σ:St} (h:σ.L a=some xs) (h':σ.L b=some ys) (hl:xs.length≠ys.length) (q:k false):cmpop .eq (.ref a) (.ref b) σ k:=by
 exact gS_of h (gS_of h' (by rw [if_neg hl];exact q))
noncomputable def lnF (ft bd tr:Nat) (s l p d:Int):List (Nat×V):=[(33,.ref ft),(34,.int 1),(35,.int 2),(36,.int 1),(37,.ref bd),(38,.int s),(39,.int l),(40,.int p),(41,.int d),(42,.ref tr)]
noncomputable def ftF (nu:Nat) (at_:Int):List (Nat×V):=[(31,.ref nu),(32,.int at_)]
noncomputable def trF (time num en:Int) (o:List UInt8):List (Nat×V):=[(27,.int time),(28,.int num),(29,.int en),(30,.bytes o)]
structure Tr where
 a:Nat
 time:Int
 num:Int
 en:Bool
 oct:List UInt8
structure LineR (σ:St) (ln ft nu bd tr:Nat) (fates:List Int) (trs:List Tr):Prop where
 lnE:∃ s l p d,σ.I ln=some (8,lnF ft bd tr s l p d)
 ftE:∃ at_:Int,σ.I ft=some (7,ftF nu at_)/\0<=at_/\at_<fates.length
 nuE:σ.L nu=some (fates.map .int)
 bdE:∃ x y:Int,σ.L bd=some [.int x,.int y]
 trE:σ.L tr=some (trs.map λt=>.ref t.a)
 tE:∀ t∈trs,σ.I t.a=some (6,trF t.time t.num (ix t.en) t.oct)
 frE:∀ f∈fates,0<=f/\f<64
 flE:fates.length<=100
 n1:nu≠bd
 n2:nu≠tr
 n3:bd≠tr
theorem LineR.ext {SI SL SD:List Nat}{σ τ:St}{ln ft nu bd tr:Nat}{fates:List Int}{trs:List Tr} (R:LineR σ ln ft nu bd tr fates trs) (x:Ext SI SL SD σ τ) (h1:ln ∉ SI) (h2:ft ∉ SI) (h3:∀ t∈trs,t.a ∉ SI) (h4:nu ∉ SL) (h5:bd ∉ SL) (h6:tr ∉ SL):LineR τ ln ft nu bd tr fates trs:=
 ⟨by obtain ⟨s,l,p,d,h⟩:=R.lnE;exact ⟨s,l,p,d,x.I _ _ h1 h⟩,by obtain ⟨a,h,q⟩:=R.ftE;exact ⟨a,x.I _ _ h2 h,q⟩,x.L _ _ h4 R.nuE,by obtain ⟨u,v,h⟩:=R.bdE;exact ⟨u,v,x.L _ _ h5 h⟩,x.L _ _ h6 R.trE,λt ht=>x.I _ _ (h3 t ht) (R.tE t ht),R.frE,R.flE,R.n1,R.n2,R.n3⟩
theorem seqIndex_nat {i:Int}{n:Nat} (h0:0<=i) (h1:i<n):seqIndex? i n=some i.toNat:=by
 unfold seqIndex?
 have:¬ i<0:=by lia
 simp [this,h0,h1]
noncomputable def C42 (Φ:Ph):Prop:=∀ (r:Nat) (time num en:Int) (o:List UInt8) σ k,σ.I r=some (6,[])->k .none (σ.setI r (6,trF time num en o))->Φ [.ref r,.int time,.int num,.int en,.bytes o] σ k
theorem b42:C42 (fW rs Φ 5 5 bd42):=by
 intro r time num en o σ k hI h
 refine fW_of rfl ?_
 unfold bd42
 repeat kbo_bools
 refine retK_nx ?_
 simp only [St.setI_setI]
 exact h
noncomputable def C43 (Φ:Ph):Prop:=∀ (r nl:Nat) (xs:List V) σ k,σ.I r=some (7,[])->σ.L nl=some xs->(∀ nu,σ.fresh nu->k .none ((σ.setL nu xs).setI r (7,ftF nu 0)))->Φ [.ref r,.ref nl] σ k
theorem b43:C43 (fW rs Φ 2 2 bd43):=by
 intro r nl xs σ k hI hL h
 refine fW_of rfl ?_
 unfold bd43
 repeat kbo_bools
 refine list_L hL λnu hnu=>?_
 repeat kbo_bools
 refine retK_nx ?_
 simp only [St.setI_setI]
 exact h nu hnu
noncomputable def C44 (Φ:Ph):Prop:=∀ (ft nu:Nat) (at_:Int) (fates:List Int) σ k,σ.I ft=some (7,ftF nu at_)->σ.L nu=some (fates.map .int)->0<=at_->at_<fates.length->fates.length<=100->(∀ (n at':Int),n∈fates->0<=at'->at'<fates.length->k (.int n) (σ.setI ft (7,ftF nu at')))->Φ [.ref ft] σ k
theorem b44:C44 (fW rs Φ 1 2 bd44):=by
 intro ft nu at_ fates σ k hI hL h0 h1 h2 h
 refine fW_of rfl ?_
 unfold bd44
 repeat kbo_bools
 intro c hc
 have hn:nu≠c:=fr_L hc hL
 refine q_len_ne (L_ne hn hL) L_eq (by rw [List.length_map,List.length_nil];lia) ?_
 repeat kbo_bools
 have hat:at_.toNat<fates.length:=by lia
 refine i_L (j:=at_.toNat) (u:=.int fates[at_.toNat]) (L_ne hn hL) ?_ ?_ ?_
 ·rw [List.length_map];exact seqIndex_nat h0 h1
 ·rw [List.getElem?_map,List.getElem?_eq_getElem hat];rfl
 ·repeat kbo_bools
  refine b_mod (by rw [List.length_map];lia) ?_
  repeat kbo_bools
  refine retK_of (σ.setI ft (7,ftF nu ((at_+1).fmod fates.length))) ?_ ?_
  ·have hcs:σ.sub (σ.setL c []):=St.sub_setL hc
   rw [List.length_map]
   exact sub_II hcs
  ·refine h _ _ (List.getElem_mem _) ?_ ?_
   ·rw [Int.fmod_eq_emod_of_nonneg _ (by lia)];exact Int.emod_nonneg _ (by lia)
   ·rw [Int.fmod_eq_emod_of_nonneg _ (by lia)];exact Int.emod_lt_of_pos _ (by lia)
noncomputable def flipU (u:UInt8) (k:Int):UInt8:=(Builtin.bitXor (u.toNat:Int) (1 * 2 ^ (k.fmod 8).toNat)).toNat.toUInt8
noncomputable def C46 (Φ:Ph):Prop:=∀ (u:UInt8) (r:List UInt8) (k:Int) σ K,r.length<=1000->0<=k->k<8->K (.bytes (flipU u k::r)) σ->Φ [.bytes (u::r),.int k] σ K
theorem flip_lt (u:UInt8) {n:Nat} (h:n<8):0<=Builtin.bitXor (u.toNat:Int) (1 * 2 ^ n)/\Builtin.bitXor (u.toNat:Int) (1 * 2 ^ n)<256:=by
 have e:(1 * 2 ^ n:Int)=((2 ^ n:Nat):Int):=by simp
 rw [e,bXor]
 have:u.toNat ^^^ 2 ^ n<2 ^ 8:=Nat.xor_lt_two_pow u.toNat_lt (Nat.pow_lt_pow_right (by decide) h)
 lia
theorem b46:C46 (fW rs Φ 2 3 bd46):=by
 intro u r k σ K hr h0 h1 h
 refine fW_of rfl ?_
 have hl:(u::r).length<=big:=by rw [List.length_cons];unfold big;lia
 unfold bd46
 repeat kbo_bools
 have hp:k.fdiv 8=0:=by rw [Int.fdiv_eq_ediv_of_nonneg _ (by decide)];lia
 rw [hp]
 repeat kbo_bools
 refine l_bytes hl rfl rfl ?_
 repeat kbo_bools
 refine i_nat (m:=0) rfl hl (by acc_open) ?_
 repeat kbo_bools
 have hm:0<=k.fmod 8/\k.fmod 8<8:=by rw [Int.fmod_eq_emod_of_nonneg _ (by decide)];lia
 refine b_shl hm.1 (by lia) (by unfold small64;decide) ?_
 repeat kbo_bools
 intro c hc
 refine bytes_L L_eq (by with_unfolding_all rfl) ?_ ?_
 ·intro m hm'
  rw [List.mem_singleton.mp hm']
  exact flip_lt u (by lia)
 ·refine b_cat ?_ ?_
  ·simp [cutO];unfold big;lia
  ·repeat kbo_bools
   refine l_bytes hl rfl rfl ?_
   have c0:cutO (u::r) Option.none (some 0)=[]:=by unfold cutO clipAt;simp;lia
   have c1:cutO (u::r) (some (0+1)) Option.none=r:=by
    rw [show ((0:Int)+1)=((1:Nat):Int) from rfl,cut_from (by acc_open)];rfl
   rw [c0,c1]
   refine b_cat (by simp;unfold big;lia) ?_
   repeat kbo_bools
   refine retK_of σ (St.sub_setL hc) h
end
section
variable {rs:Nat->List V->St->Prop}{Φ:Phi}
noncomputable def C47 (Φ:Ph):Prop:=∀ (ln ft nu bd tr:Nat) (fates:List Int) (trs:List Tr) (time:Int) (e:Bool) (o:List UInt8) σ k,LineR σ ln ft nu bd tr fates trs->trs.length<100000 ->
 (∀ σ' (i:Nat) (T:Tr),i<=trs.length->T.en=e->T.oct=o->Ext [ln] [tr] [] σ σ'->LineR σ' ln ft nu bd tr fates (trs.take i++T::trs.drop i)->k .none σ')->Φ [.ref ln,.int time,.int (ix e),.bytes o] σ k
structure Lo47 (lo:Lo) (ln:Nat) (time:Int) (e:Bool) (o:List UInt8) (n:Nat):Prop where
 len:lo.length=5
 v0:lo[0]?=some (some (.ref ln))
 v1:lo[1]?=some (some (.int time))
 v2:lo[2]?=some (some (.int (ix e)))
 v3:lo[3]?=some (some (.bytes o))
 v4:lo[4]?=some (some (.int n))
theorem b47 (h42:C42 (Φ 42)):C47 (fW rs Φ 4 5 bd47):=by
 intro ln ft nu bd tr fates trs time e o σ k R hl h
 refine fW_of rfl ?_
 obtain ⟨sn,lo_,sp,dbl,hI⟩:=R.lnE
 have hL:=R.trE
 unfold bd47
 repeat kbo_bools
 have hI1:(σ.setI ln (8,fput 38 (.int (sn+1)) (lnF ft bd tr sn lo_ sp dbl))).I ln=some (8,lnF ft bd tr (sn+1) lo_ sp dbl):=I_eq
 have x0:Ext [ln] [tr] [] σ (σ.setI ln (8,fput 38 (.int (sn+1)) (lnF ft bd tr sn lo_ sp dbl))):=Ext.setI Ext.refl (.inl (.head _))
 have hL1:(σ.setI ln (8,fput 38 (.int (sn+1)) (lnF ft bd tr sn lo_ sp dbl))).L tr=some (trs.map λt=>.ref t.a):=hL
 have hne:∀ t∈trs,t.a≠ln:=λt ht=>ne_cls (R.tE t ht) hI (by decide)
 have hT1:∀ t∈trs,(σ.setI ln (8,fput 38 (.int (sn+1)) (lnF ft bd tr sn lo_ sp dbl))).I t.a=some (6,trF t.time t.num (ix t.en) t.oct):=λt ht=>I_ne (hne t ht) (R.tE t ht)
 obtain ⟨at_,hF,hat⟩:=R.ftE
 have nlf:ft≠ln:=ne_cls hF hI (by decide)
 have hF1:(σ.setI ln (8,fput 38 (.int (sn+1)) (lnF ft bd tr sn lo_ sp dbl))).I ft=some (7,ftF nu at_):=I_ne nlf hF
 have hN1:(σ.setI ln (8,fput 38 (.int (sn+1)) (lnF ft bd tr sn lo_ sp dbl))).L nu=some (fates.map .int):=R.nuE
 have hB1:∃ x y:Int,(σ.setI ln (8,fput 38 (.int (sn+1)) (lnF ft bd tr sn lo_ sp dbl))).L bd=some [.int x,.int y]:=R.bdE
 generalize σ.setI ln (8,fput 38 (.int (sn+1)) (lnF ft bd tr sn lo_ sp dbl))=σ1 at hI1 x0 hL1 hT1 hF1 hN1 hB1 |-
 refine st_while (λn lo τ=>τ=σ1/\Lo47 lo ln time e o n/\n<=trs.length) trs.length ⟨rfl,⟨rfl,rfl,rfl,rfl,rfl,?_⟩,Nat.le_refl _⟩ ?_
 ·show some (some (V.int ((List.map (λt=>V.ref t.a) trs).length:Nat)))=_
  rw [List.length_map]
 ·rintro n lo τ ⟨rfl,l,hn⟩
  have fin:wpSL (tabsP rs) Φ (SL.cons (S.expr (E.m2 M2.insert ((E.var 0).attr 42) (E.var 4) (E.new 6 (EL.cons (E.var 1) (EL.cons ((E.var 0).attr 38) (EL.cons (E.var 2) (EL.cons (E.var 3) EL.nil))))))) SL.nil) lo τ (retK k):=by
   kp_flats
   refine kVar_of l.v0 ?_
   repeat kbo_bools
   refine kVar_of l.v4 ?_
   refine kVar_of l.v1 ?_
   refine kVar_of l.v0 ?_
   repeat kbo_bools
   refine kVar_of l.v2 (kVar_of l.v3 ?_)
   intro a ha
   refine h42 _ _ _ _ _ _ _ I_eq ⟨rfl,?_⟩
   rw [St.setI_setI]
   refine m_insert (L_of_I hL1) (by lia) (by rw [List.length_map];lia) (by rw [List.length_map];unfold big;lia) ?_
   kp_flats
   refine retK_nx ?_
   have x1:Ext [ln] [tr] [] σ ((τ.setI a (6,trF time (sn+1) (ix e) o)).setL tr ((trs.map λt=>V.ref t.a).take (n:Int).toNat++V.ref a::(trs.map λt=>V.ref t.a).drop (n:Int).toNat)):=Ext.setL (Ext.setI x0 (.inr (x0.al _ ha))) (.inl ⟨.head _,_,L_of_I hL1⟩)
   refine h _ n ⟨a,time,sn+1,e,o⟩ hn rfl rfl x1 ⟨⟨sn+1,lo_,sp,dbl,I_of_L (I_ne (fr_I ha hI1) hI1)⟩,⟨at_,I_of_L (I_ne (fr_I ha hF1) hF1),hat⟩,L_ne R.n2 hN1,?_,?_,?_,R.frE,R.flE,R.n1,R.n2,R.n3⟩
   ·obtain ⟨x,y,hb⟩:=hB1
    exact ⟨x,y,L_ne R.n3 hb⟩
   ·rw [L_eq];simp [List.map_take,List.map_drop]
   ·intro t ht
    rcases List.mem_append.mp ht with ht | ht
    ·have:=hT1 t (List.mem_of_mem_take ht)
     exact I_of_L (I_ne (fr_I ha this) this)
    ·rcases List.mem_cons.mp ht with rfl | ht
     ·exact I_of_L I_eq
     ·have:=hT1 t (List.mem_of_mem_drop ht)
      exact I_of_L (I_ne (fr_I ha this) this)
  kp_flats
  refine kVar_of l.v4 ?_
  kp_flats
  by_cases h0:n=0
  ·refine kCAnd_f (decide_eq_false (by lia)) (whK_f rfl ?_)
   exact fin
  ·refine kCAnd_t (decide_eq_true (by lia)) ?_
   kp_flats
   refine kVar_of l.v0 ?_
   repeat kbo_bools
   refine kVar_of l.v4 ?_
   kp_flats
   have hlt:n - 1<trs.length:=by lia
   refine i_L (j:=n - 1) (u:=.ref trs[n - 1].a) hL1 ?_ ?_ ?_
   ·rw [List.length_map,seqIndex_nat (by lia) (by lia)];congr 1;lia
   ·rw [List.getElem?_map,List.getElem?_eq_getElem hlt];rfl
   ·refine kAttr_of (hT1 _ (List.getElem_mem _)) (by with_unfolding_all rfl) ?_
    refine kVar_of l.v1 ?_
    kp_flats
    cases hb:decide (trs[n - 1].time > time)
    ·refine whK_f rfl ?_
     exact fin
    ·refine whK_t rfl ?_
     kp_flats
     refine kVar_of l.v4 ?_
     kp_flats
     refine ⟨n - 1,by lia,rfl,⟨by rw [List.length_set];exact l.len,by rw [List.getElem?_set_ne (by decide)];exact l.v0,by rw [List.getElem?_set_ne (by decide)];exact l.v1,by rw [List.getElem?_set_ne (by decide)];exact l.v2,by rw [List.getElem?_set_ne (by decide)];exact l.v3,?_⟩,by lia⟩
     rw [List.getElem?_set_self (by rw [l.len];decide)]
     congr 3;lia
noncomputable def Sp (o o':List UInt8):Prop:=∃ (u:UInt8) (r:List UInt8) (k:Int),o=u::r/\o'=flipU u k::r/\0<=k/\k<8
structure Good (e:Bool) (o:List UInt8) (trs trs':List Tr):Prop where
 len:trs'.length<=trs.length+2
 all:∀ t∈trs',t∈trs\/(t.en=e/\(t.oct=o\/Sp o t.oct))
noncomputable def C48 (Φ:Ph):Prop:=∀ (ln ft nu bd tr:Nat) (fates:List Int) (trs:List Tr) (fate rest:Int) (e:Bool) (u:UInt8) (r:List UInt8) (time:Int) σ k,LineR σ ln ft nu bd tr fates trs->trs.length<90000->r.length<=1000->0<=fate->0<=rest->rest<8 ->
 (∀ σ' trs',Good e (u::r) trs trs'->Ext [ln] [tr] [] σ σ'->LineR σ' ln ft nu bd tr fates trs'->k .none σ')->Φ [.ref ln,.int fate,.int rest,.int (ix e),.bytes (u::r),.int time] σ k
noncomputable def tail48:SL:=(.cons (.expr (.meth (.var 0) 61 (.cons (.var 5) (.cons (.var 3) (.cons (.var 4) .nil))))) (.cons (.ite (.cmp .eq (.var 1) (.gint "DOUBLED" 5)) (.cons (.augA (.var 0) 41 .add (.int 1)) (.cons (.expr (.meth (.var 0) 61 (.cons (.bin .add (.bin .add (.var 5) (.int 1)) (.bin .mod (.var 2) (.attr (.var 0) 35))) (.cons (.var 3) (.cons (.var 4) .nil))))) .nil)) .nil) .nil))
theorem mem_ins {trs:List Tr}{i:Nat}{T t:Tr} (h:t∈trs.take i++T::trs.drop i):t∈trs\/t=T:=by
 rcases List.mem_append.mp h with h | h
 ·exact .inl (List.mem_of_mem_take h)
 ·rcases List.mem_cons.mp h with h | h
  ·exact .inr h
  ·exact .inl (List.mem_of_mem_drop h)
theorem len_ins {trs:List Tr}{i:Nat}{T:Tr} (h:i<=trs.length):(trs.take i++T::trs.drop i).length=trs.length+1:=by
 simp;lia
theorem tail48_ok (h47:C47 (Φ 47)) {ln ft nu bd tr:Nat}{fates:List Int}{trs:List Tr}{fate rest:Int}{e:Bool}{o:List UInt8}{time:Int}{lo:Lo}{σ:St}{k:KV} (R:LineR σ ln ft nu bd tr fates trs) (hl:trs.length<90000) (v0:lo[0]?=some (some (.ref ln))) (v1:lo[1]?=some (some (.int fate))) (v2:lo[2]?=some (some (.int rest))) (v3:lo[3]?=some (some (.int (ix e)))) (v4:lo[4]?=some (some (.bytes o))) (v5:lo[5]?=some (some (.int time)))
 (h:∀ σ' trs',trs'.length<=trs.length+2->(∀ t∈trs',t∈trs\/(t.en=e/\t.oct=o))->Ext [ln] [tr] [] σ σ'->LineR σ' ln ft nu bd tr fates trs'->k .none σ'):wpSL (tabsP rs) Φ tail48 lo σ (retK k):=by
 obtain ⟨sn,lo_,sp,dbl,hI⟩:=R.lnE
 unfold tail48
 kp_flats
 refine kVar_of v0 ?_
 refine kMeth_of hI rfl rfl ?_
 kp_flats
 refine kVar_of v5 (kVar_of v3 (kVar_of v4 ?_))
 refine h47 _ _ _ _ _ _ _ _ _ _ _ _ R (by lia) λσ1 i T hi he ho x R1=>?_
 have hm:∀ t∈trs.take i++T::trs.drop i,t∈trs\/(t.en=e/\t.oct=o):=λt ht=>(mem_ins ht).imp id λq=>by rw [q];exact ⟨he,ho⟩
 have hlen:=len_ins (T:=T) hi
 kp_flats
 refine kVar_of v1 ?_
 kp_flats
 cases hb:(fate == 5)
 ·refine kIf_f rfl ?_
  kp_flats
  exact retK_nx (h σ1 _ (by lia) hm x R1)
 ·refine kIf_t rfl ?_
  obtain ⟨sn1,lo1,sp1,dbl1,hI1⟩:=R1.lnE
  kp_flats
  refine kVar_of v0 ?_
  repeat kbo_bools
  have x1:Ext [ln] [] [] σ1 (σ1.setI ln (8,fput 41 (.int (dbl1+1)) (lnF ft bd tr sn1 lo1 sp1 dbl1))):=Ext.setI Ext.refl (.inl (.head _))
  have hI2:(σ1.setI ln (8,fput 41 (.int (dbl1+1)) (lnF ft bd tr sn1 lo1 sp1 dbl1))).I ln=some (8,lnF ft bd tr sn1 lo1 sp1 (dbl1+1)):=I_eq
  have R2:LineR (σ1.setI ln (8,fput 41 (.int (dbl1+1)) (lnF ft bd tr sn1 lo1 sp1 dbl1))) ln ft nu bd tr fates (trs.take i++T::trs.drop i):=by
   obtain ⟨at_,hF,hat⟩:=R1.ftE
   exact ⟨⟨sn1,lo1,sp1,dbl1+1,hI2⟩,⟨at_,I_ne (ne_cls hF hI1 (by decide)) hF,hat⟩,R1.nuE,R1.bdE,R1.trE,λt ht=>I_ne (ne_cls (R1.tE t ht) hI1 (by decide)) (R1.tE t ht),R1.frE,R1.flE,R1.n1,R1.n2,R1.n3⟩
  generalize σ1.setI ln (8,fput 41 (.int (dbl1+1)) (lnF ft bd tr sn1 lo1 sp1 dbl1))=σ2 at x1 hI2 R2 |-
  refine kVar_of v0 ?_
  refine kMeth_of hI2 rfl rfl ?_
  kp_flats
  refine kVar_of v5 ?_
  kp_flats
  refine kVar_of v2 ?_
  refine kVar_of v0 ?_
  repeat kbo_bools
  refine kVar_of v3 (kVar_of v4 ?_)
  refine h47 _ _ _ _ _ _ _ _ _ _ _ _ R2 (by lia) λσ3 j T' hj he' ho' y R3=>?_
  kp_flats
  refine retK_nx (h σ3 _ (by rw [len_ins hj];lia) (λt ht=>?_) ((x.trans (x1.wide (λø h=>.inl h) (by acc_open) (by acc_open))).trans y) R3)
  rcases mem_ins ht with h | rfl
  ·exact hm t h
  ·exact .inr ⟨he',ho'⟩
end
section
variable {rs:Nat->List V->St->Prop}{Φ:Phi}
theorem LineR.cnt {σ τ:St}{ln ft nu bd tr:Nat}{fates:List Int}{trs:List Tr} (R:LineR σ ln ft nu bd tr fates trs) {s l p d:Int} (hI:∃ s l p d,σ.I ln=some (8,lnF ft bd tr s l p d)) (hτ:τ=σ.setI ln (8,lnF ft bd tr s l p d)):LineR τ ln ft nu bd tr fates trs/\Ext [ln] [] [] σ τ:=by
 obtain ⟨_,_,_,_,hI⟩:=hI
 subst hτ
 obtain ⟨at_,hF,hat⟩:=R.ftE
 exact ⟨⟨⟨s,l,p,d,I_eq⟩,⟨at_,I_ne (ne_cls hF hI (by decide)) hF,hat⟩,R.nuE,R.bdE,R.trE,λt ht=>I_ne (ne_cls (R.tE t ht) hI (by decide)) (R.tE t ht),R.frE,R.flE,R.n1,R.n2,R.n3⟩,Ext.setI Ext.refl (.inl (.head _))⟩
theorem b48 (h46:C46 (Φ 46)) (h47:C47 (Φ 47)):C48 (fW rs Φ 6 6 bd48):=by
 intro ln ft nu bd tr fates trs fate rest e u r time σ k R hl hr hf0 h0 h1 h
 refine fW_of rfl ?_
 obtain ⟨sn,lo_,sp,dbl,hI⟩:=R.lnE
 have e1:bd48=(.cons (.ite (.cmp .eq (.var 1) (.gint "LOST" 4)) (.cons (.augA (.var 0) 39 .add (.int 1)) (.cons .retn .nil)) .nil) (.cons (.ite (.cmp .eq (.var 1) (.gint "LATE" 6)) (.cons (.augV 5 .add (.bin .add (.int 1) (.bin .mod (.var 2) (.attr (.var 0) 35)))) .nil) .nil) (.cons (.ite (.andv (.cmp .eq (.var 1) (.gint "SPOILT" 7)) (.cmp .gt (.bi .len (.var 4)) (.int 0))) (.cons (.augA (.var 0) 40 .add (.int 1)) (.cons (.asg 4 (.call 46 (.cons (.var 4) (.cons (.bin .mod (.var 2) (.bin .mul (.int 8) (.bi .len (.var 4)))) .nil)))) .nil)) .nil) tail48))):=rfl
 rw [e1]
 have hT:∀ (lo:Lo) (o:List UInt8) (tm:Int) (τ:St),LineR τ ln ft nu bd tr fates trs->Ext [ln] [] [] σ τ->(o=u::r\/Sp (u::r) o)->lo[0]?=some (some (.ref ln))->lo[1]?=some (some (.int fate))->lo[2]?=some (some (.int rest))->lo[3]?=some (some (.int (ix e)))->lo[4]?=some (some (.bytes o))->lo[5]?=some (some (.int tm))->wpSL (tabsP rs) Φ tail48 lo τ (retK k):=λlo o tm τ Rτ x ho v0 v1 v2 v3 v4 v5=>
  tail48_ok h47 Rτ hl v0 v1 v2 v3 v4 v5 λσ' trs' g1 g2 y R'=>h σ' trs' ⟨g1,λt ht=>(g2 t ht).imp id λq=>⟨q.1,by rw [q.2];exact ho⟩⟩ ((x.wide (λø h=>.inl h) (by acc_open) (by acc_open)).trans y) R'
 kp_flats
 repeat kbo_bools
 cases hb:(fate == 4)
 ·refine kIf_f rfl ?_
  repeat kbo_bools
  have hS:∀ (tm:Int) (lo:Lo),lo.length=6->lo[0]?=some (some (.ref ln))->lo[1]?=some (some (.int fate))->lo[2]?=some (some (.int rest))->lo[3]?=some (some (.int (ix e)))->lo[4]?=some (some (.bytes (u::r)))->lo[5]?=some (some (.int tm)) ->
   wpSL (tabsP rs) Φ (.cons (.ite (.andv (.cmp .eq (.var 1) (.gint "SPOILT" 7)) (.cmp .gt (.bi .len (.var 4)) (.int 0))) (.cons (.augA (.var 0) 40 .add (.int 1)) (.cons (.asg 4 (.call 46 (.cons (.var 4) (.cons (.bin .mod (.var 2) (.bin .mul (.int 8) (.bi .len (.var 4)))) .nil)))) .nil)) .nil) tail48) lo σ (retK k):=by
   intro tm lo hlo v0 v1 v2 v3 v4 v5
   kp_flats
   refine kVar_of v1 ?_
   kp_flats
   cases hc:(fate == 7)
   ·refine kCAnd_f rfl (kIf_f rfl ?_)
    rw [q_lnil,q_seqnx]
    exact hT lo _ tm σ R Ext.refl (.inl rfl) v0 v1 v2 v3 v4 v5
   ·refine kCAnd_t rfl ?_
    kp_flats
    refine kVar_of v4 ?_
    refine len_b (by rw [List.length_cons];unfold big;lia) ?_
    kp_flats
    refine kIf_t (decide_eq_true (by rw [List.length_cons];lia)) ?_
    kp_flats
    refine kVar_of v0 ?_
    repeat kbo_bools
    obtain ⟨R1,x1⟩:=R.cnt (τ:=σ.setI ln (8,fput 40 (.int (sp+1)) (lnF ft bd tr sn lo_ sp dbl))) (s:=sn) (l:=lo_) (p:=sp+1) (d:=dbl) ⟨_,_,_,_,hI⟩ rfl
    generalize σ.setI ln (8,fput 40 (.int (sp+1)) (lnF ft bd tr sn lo_ sp dbl))=σ1 at R1 x1 |-
    refine kVar_of v4 ?_
    refine kVar_of v2 ?_
    refine kVar_of v4 ?_
    refine len_b (by rw [List.length_cons];unfold big;lia) ?_
    refine b_mul (.inl (by unfold small64;decide)) ?_
    refine b_mod (by rw [List.length_cons];lia) ?_
    have em:rest.fmod (8 * ((u::r).length:Nat))=rest:=by
     rw [Int.fmod_eq_emod_of_nonneg _ (by lia),Int.emod_eq_of_lt h0 (by rw [List.length_cons];lia)]
    rw [em]
    refine h46 _ _ _ _ _ hr h0 h1 ?_
    refine hT _ (flipU u rest::r) tm σ1 R1 x1 (.inr ⟨u,r,rest,rfl,rfl,h0,h1⟩) ?_ ?_ ?_ ?_ ?_ ?_
    ·rw [List.getElem?_set_ne (by decide)];exact v0
    ·rw [List.getElem?_set_ne (by decide)];exact v1
    ·rw [List.getElem?_set_ne (by decide)];exact v2
    ·rw [List.getElem?_set_ne (by decide)];exact v3
    ·exact List.getElem?_set_self (by rw [hlo];decide)
    ·rw [List.getElem?_set_ne (by decide)];exact v5
  cases hc:(fate == 6)
  ·refine kIf_f rfl ?_
   rw [q_lnil,q_seqnx]
   exact hS time _ rfl rfl rfl rfl rfl rfl rfl
  ·refine kIf_t rfl ?_
   kp_flats
   repeat kbo_bools
   exact hS _ ((lo0 6 [.ref ln,.int fate,.int rest,.int (ix e),.bytes (u::r),.int time]).set 5 (some (.int (time+(1+rest.fmod 2))))) rfl rfl rfl rfl rfl rfl rfl
 ·refine kIf_t rfl ?_
  repeat kbo_bools
  obtain ⟨R1,x1⟩:=R.cnt (τ:=σ.setI ln (8,fput 39 (.int (lo_+1)) (lnF ft bd tr sn lo_ sp dbl))) (s:=sn) (l:=lo_+1) (p:=sp) (d:=dbl) ⟨_,_,_,_,hI⟩ rfl
  refine retK_same (h _ trs ⟨by lia,λt ht=>.inl ht⟩ (x1.wide (λø h=>.inl h) (by acc_open) (by acc_open)) R1)
end
section
variable {rs:Nat->List V->St->Prop}{Φ:Phi}
noncomputable def C49 (Φ:Ph):Prop:=∀ (ln ft nu bd tr:Nat) (fates:List Int) (trs:List Tr) (b:Bool) (u:UInt8) (r:List UInt8) (now:Int) σ k,LineR σ ln ft nu bd tr fates trs->trs.length<90000->r.length<=1000 ->
 (∀ σ' trs',Good (!b) (u::r) trs trs'->Ext [ln,ft] [bd,tr] [] σ σ'->LineR σ' ln ft nu bd tr fates trs'->k .none σ')->Φ [.ref ln,.int (ix b),.bytes (u::r),.int now] σ k
noncomputable def tail49c:SL:=(.cons (.expr (.meth (.var 0) 62 (.cons (.var 5) (.cons (.var 6) (.cons (.bin .sub (.int 1) (.var 1)) (.cons (.var 2) (.cons (.bin .add (.var 3) (.attr (.var 0) 34)) .nil))))))) .nil)
noncomputable def tail49b:SL:=(.cons (.ite (.cmp .notin (.var 5) (.tup (.cons (.gint "LOST" 4) (.cons (.gint "SPOILT" 7) .nil)))) (.cons (.setI (.attr (.var 0) 37) (.var 1) (.int 0)) .nil) .nil) tail49c)
structure Lo49 (lo:Lo) (ln:Nat) (b:Bool) (o:List UInt8) (now f rest:Int):Prop where
 len:lo.length=7
 v0:lo[0]?=some (some (.ref ln))
 v1:lo[1]?=some (some (.int (ix b)))
 v2:lo[2]?=some (some (.bytes o))
 v3:lo[3]?=some (some (.int now))
 v5:lo[5]?=some (some (.int f))
 v6:lo[6]?=some (some (.int rest))
theorem ix_not (b:Bool):1 - ix b=ix (!b):=by cases b <;> rfl
theorem ix_at (b:Bool) (x y:V):∃ j,seqIndex? (ix b) 2=some j/\j<2/\[x,y][j]?=some (if b then y else x):=by
 cases b
 ·exact ⟨0,rfl,by decide,rfl⟩
 ·exact ⟨1,rfl,by decide,rfl⟩
theorem tail49c_ok (h48:C48 (Φ 48)) {ln ft nu bd tr:Nat}{fates:List Int}{trs:List Tr}{b:Bool}{u:UInt8}{r:List UInt8}{now f rest:Int}{lo:Lo}{σ:St}{k:KV} (R:LineR σ ln ft nu bd tr fates trs) (hl:trs.length<90000) (hr:r.length<=1000) (l:Lo49 lo ln b (u::r) now f rest) (hf:0<=f) (h0:0<=rest) (h1:rest<8)
 (h:∀ σ' trs',Good (!b) (u::r) trs trs'->Ext [ln] [tr] [] σ σ'->LineR σ' ln ft nu bd tr fates trs'->k .none σ'):wpSL (tabsP rs) Φ tail49c lo σ (retK k):=by
 obtain ⟨sn,lo_,sp,dbl,hI⟩:=R.lnE
 unfold tail49c
 kp_flats
 refine kVar_of l.v0 ?_
 refine kMeth_of hI rfl rfl ?_
 kp_flats
 refine kVar_of l.v5 (kVar_of l.v6 (kVar_of l.v1 ?_))
 kp_flats
 rw [ix_not]
 refine kVar_of l.v2 (kVar_of l.v3 (kVar_of l.v0 ?_))
 repeat kbo_bools
 refine h48 _ _ _ _ _ _ _ _ _ _ _ _ _ _ _ R hl hr hf h0 h1 λσ' trs' g x R'=>?_
 kp_flats
 exact retK_nx (h σ' trs' g x R')
theorem setI_bd {ln ft nu bd tr:Nat}{fates:List Int}{trs:List Tr}{σ:St} (R:LineR σ ln ft nu bd tr fates trs) (x y:Int):LineR (σ.setL bd [.int x,.int y]) ln ft nu bd tr fates trs/\Ext [] [bd] [] σ (σ.setL bd [.int x,.int y]):=by
 obtain ⟨u,v,hb⟩:=R.bdE
 exact ⟨⟨R.lnE,R.ftE,L_ne R.n1 R.nuE,⟨x,y,L_eq⟩,L_ne (Ne.symm R.n3) R.trE,R.tE,R.frE,R.flE,R.n1,R.n2,R.n3⟩,Ext.setL Ext.refl (.inl ⟨.head _,_,hb⟩)⟩
theorem tail49b_ok (h48:C48 (Φ 48)) {ln ft nu bd tr:Nat}{fates:List Int}{trs:List Tr}{b:Bool}{u:UInt8}{r:List UInt8}{now f rest:Int}{lo:Lo}{σ:St}{k:KV} (R:LineR σ ln ft nu bd tr fates trs) (hl:trs.length<90000) (hr:r.length<=1000) (l:Lo49 lo ln b (u::r) now f rest) (hf:0<=f) (h0:0<=rest) (h1:rest<8)
 (h:∀ σ' trs',Good (!b) (u::r) trs trs'->Ext [ln] [bd,tr] [] σ σ'->LineR σ' ln ft nu bd tr fates trs'->k .none σ'):wpSL (tabsP rs) Φ tail49b lo σ (retK k):=by
 obtain ⟨sn,lo_,sp,dbl,hI⟩:=R.lnE
 obtain ⟨x,y,hb⟩:=R.bdE
 unfold tail49b
 kp_flats
 refine kVar_of l.v5 ?_
 repeat kbo_bools
 intro t ht
 have hbt:=fr_L ht hb
 have ht':(σ.setT t [V.int 4,V.int 7]).L t=none:=ht.2.1
 refine q_ninT T_eq ht' (by unfold among;simp [isI]) ?_
 have x0:Ext [] [] [] σ (σ.setT t [V.int 4,V.int 7]):=Ext.setT Ext.refl ht
 have R0:=R.ext x0 (by acc_open) (by acc_open) (by acc_open) (by acc_open) (by acc_open) (by acc_open)
 have hI0:(σ.setT t [V.int 4,V.int 7]).I ln=some (8,lnF ft bd tr sn lo_ sp dbl):=hI
 have hb0:(σ.setT t [V.int 4,V.int 7]).L bd=some [.int x,.int y]:=hb
 generalize σ.setT t [V.int 4,V.int 7]=σ0 at x0 R0 hI0 hb0 |-
 cases hc:(!([V.int 4,V.int 7]:List V).any (· == .int f))
 ·refine kIf_f rfl ?_
  rw [q_lnil,q_seqnx]
  exact tail49c_ok h48 R0 hl hr l hf h0 h1 λσ' trs' g y' R'=>h σ' trs' g ((x0.wide (by acc_open) (by acc_open) (by acc_open)).trans (y'.wide (λø h=>.inl h) (λø h=>.inl (.tail _ h)) (λø h=>.inl h))) R'
 ·refine kIf_t rfl ?_
  kp_flats
  refine kVar_of l.v0 ?_
  repeat kbo_bools
  refine kVar_of l.v1 ?_
  obtain ⟨j,j1,j2,j3⟩:=ix_at b (V.int x) (V.int y)
  refine p_L hb0 j1 ?_
  have hset:∃ x' y':Int,([V.int x,V.int y].set j (.int 0))=[.int x',.int y']:=by
   match j,j2 with
   | 0,_=>exact ⟨0,y,rfl⟩
   | 1,_=>exact ⟨x,0,rfl⟩
  obtain ⟨x',y',hs⟩:=hset
  rw [hs]
  obtain ⟨R1,x1⟩:=setI_bd R0 x' y'
  exact tail49c_ok h48 R1 hl hr l hf h0 h1 λσ' trs' g y2 R'=>h σ' trs' g (((x0.wide (by acc_open) (by acc_open) (by acc_open)).trans (x1.wide (by acc_open) (λø h=>.inl (by rw [List.mem_singleton.mp h];exact .head _)) (by acc_open))).trans (y2.wide (λø h=>.inl h) (λø h=>.inl (.tail _ h)) (λø h=>.inl h))) R'
theorem b49 (h44:C44 (Φ 44)) (h48:C48 (Φ 48)):C49 (fW rs Φ 4 7 bd49):=by
 intro ln ft nu bd tr fates trs b u r now σ k R hl hr h
 refine fW_of rfl ?_
 obtain ⟨sn,lo_,sp,dbl,hI⟩:=R.lnE
 obtain ⟨at_,hF,ha0,ha1⟩:=R.ftE
 obtain ⟨x,y,hb⟩:=R.bdE
 have e1:bd49=(.cons (.ite (.cmp .notin (.var 1) (.tup (.cons (.int 0) (.cons (.int 1) .nil)))) (.cons .fail .nil) .nil) (.cons (.asg 4 (.meth (.attr (.var 0) 33) 60 .nil)) (.cons (.asg 5 (.bin .mod (.var 4) (.int 8))) (.cons (.asg 6 (.bin .fdiv (.var 4) (.int 8))) (.cons (.ite (.cmp .isin (.var 5) (.tup (.cons (.gint "LOST" 4) (.cons (.gint "SPOILT" 7) .nil)))) (.cons (.augI (.attr (.var 0) 37) (.var 1) .add (.int 1)) (.cons (.ite (.cmp .gt (.idx (.attr (.var 0) 37) (.var 1)) (.attr (.var 0) 36)) (.cons (.asg 5 (.int 0)) .nil) .nil) .nil)) .nil) tail49b))))):=rfl
 rw [e1]
 repeat kbo_bools
 intro t ht
 have ht':(σ.setT t [V.int 0,V.int 1]).L t=none:=ht.2.1
 refine q_ninT T_eq ht' (by unfold among;simp [isI]) ?_
 refine kIf_f (by cases b <;> decide +kernel) ?_
 have x0:Ext [] [] [] σ (σ.setT t [V.int 0,V.int 1]):=Ext.setT Ext.refl ht
 have R0:=R.ext x0 (by acc_open) (by acc_open) (by acc_open) (by acc_open) (by acc_open) (by acc_open)
 have hI0:(σ.setT t [V.int 0,V.int 1]).I ln=some (8,lnF ft bd tr sn lo_ sp dbl):=hI
 have hF0:(σ.setT t [V.int 0,V.int 1]).I ft=some (7,ftF nu at_):=hF
 have hb0:(σ.setT t [V.int 0,V.int 1]).L bd=some [.int x,.int y]:=hb
 generalize σ.setT t [V.int 0,V.int 1]=σ0 at x0 R0 hI0 hF0 hb0 |-
 repeat kbo_bools
 refine h44 _ _ _ _ _ _ hF0 R0.nuE ha0 ha1 R.flE λn at' hn hat0 hat1=>?_
 have nlf:ln≠ft:=ne_cls hI0 hF0 (by decide)
 have x1:Ext [ft] [] [] σ0 (σ0.setI ft (7,ftF nu at')):=Ext.setI Ext.refl (.inl (.head _))
 have R1:LineR (σ0.setI ft (7,ftF nu at')) ln ft nu bd tr fates trs:=⟨⟨_,_,_,_,I_ne nlf hI0⟩,⟨at',I_eq,hat0,hat1⟩,R0.nuE,R0.bdE,R0.trE,λt ht=>I_ne (ne_cls (R0.tE t ht) hF0 (by decide)) (R0.tE t ht),R0.frE,R0.flE,R0.n1,R0.n2,R0.n3⟩
 have hI1:(σ0.setI ft (7,ftF nu at')).I ln=some (8,lnF ft bd tr sn lo_ sp dbl):=I_ne nlf hI0
 have hb1:(σ0.setI ft (7,ftF nu at')).L bd=some [.int x,.int y]:=hb0
 generalize σ0.setI ft (7,ftF nu at')=σ1 at x1 R1 hI1 hb1 |-
 obtain ⟨hn0,hn1⟩:=R.frE n hn
 have f8:n.fmod 8=n % 8:=Int.fmod_eq_emod_of_nonneg _ (by decide)
 have d8:n.fdiv 8=n / 8:=Int.fdiv_eq_ediv_of_nonneg _ (by decide)
 repeat kbo_bools
 intro t2 ht2
 have hb2:=fr_L ht2 hb1
 have ht2':(σ1.setT t2 [V.int 4,V.int 7]).L t2=none:=ht2.2.1
 refine q_inT T_eq ht2' (by unfold among;simp [isI]) ?_
 have x2:Ext [] [] [] σ1 (σ1.setT t2 [V.int 4,V.int 7]):=Ext.setT Ext.refl ht2
 have R2:=R1.ext x2 (by acc_open) (by acc_open) (by acc_open) (by acc_open) (by acc_open) (by acc_open)
 have hI2:(σ1.setT t2 [V.int 4,V.int 7]).I ln=some (8,lnF ft bd tr sn lo_ sp dbl):=hI1
 have hb2:(σ1.setT t2 [V.int 4,V.int 7]).L bd=some [.int x,.int y]:=hb1
 generalize σ1.setT t2 [V.int 4,V.int 7]=σ2 at x2 R2 hI2 hb2 |-
 have xx:Ext [ln,ft] [bd,tr] [] σ σ2:=((x0.wide (by acc_open) (by acc_open) (by acc_open):Ext [ln,ft] [bd,tr] [] σ σ0).trans (x1.wide (λø h=>.inl (.tail _ h)) (by acc_open) (by acc_open))).trans (x2.wide (by acc_open) (by acc_open) (by acc_open))
 cases hc:(([V.int 4,V.int 7]:List V).any (· == .int (n.fmod 8)))
 ·refine kIf_f rfl ?_
  rw [q_lnil,q_seqnx]
  exact tail49b_ok h48 R2 hl hr ⟨rfl,rfl,rfl,rfl,rfl,rfl,rfl⟩ (by rw [f8];lia) (by rw [d8];lia) (by rw [d8];lia) λσ' trs' g y' R'=>h σ' trs' g (xx.trans (y'.wide (λø h=>.inl (by rw [List.mem_singleton.mp h];exact .head _)) (λø h=>.inl h) (λø h=>.inl h))) R'
 ·refine kIf_t rfl ?_
  repeat kbo_bools
  obtain ⟨j,j1,j2,j3⟩:=ix_at b (V.int x) (V.int y)
  have j3':[V.int x,V.int y][j]?=some (.int (if b then y else x)):=by rw [j3];cases b <;> rfl
  refine i_L hb2 j1 j3' ?_
  repeat kbo_bools
  refine p_L hb2 j1 ?_
  have hset:∃ x' y':Int,([V.int x,V.int y].set j (.int ((if b then y else x)+1)))=[.int x',.int y']:=by
   match j,j2 with
   | 0,_=>exact ⟨_,y,rfl⟩
   | 1,_=>exact ⟨x,_,rfl⟩
  obtain ⟨x',y',hs⟩:=hset
  rw [hs]
  obtain ⟨R3,x3⟩:=setI_bd R2 x' y'
  have hI3:(σ2.setL bd [.int x',.int y']).I ln=some (8,lnF ft bd tr sn lo_ sp dbl):=hI2
  have hb3:(σ2.setL bd [.int x',.int y']).L bd=some [.int x',.int y']:=L_eq
  generalize σ2.setL bd [.int x',.int y']=σ3 at R3 x3 hI3 hb3 |-
  have x4:=xx.trans (x3.wide (by acc_open) (λø h=>.inl (by rw [List.mem_singleton.mp h];exact .head _)) (by acc_open))
  repeat kbo_bools
  obtain ⟨j',k1,k2,k3⟩:=ix_at b (V.int x') (V.int y')
  have k3':[V.int x',V.int y'][j']?=some (.int (if b then y' else x')):=by rw [k3];cases b <;> rfl
  refine i_L hb3 k1 k3' ?_
  repeat kbo_bools
  cases hd:decide ((if b=true then y' else x') > 1)
  ·refine kIf_f rfl ?_
   rw [q_lnil,q_seqnx,q_lnil,q_seqnx]
   exact tail49b_ok h48 R3 hl hr ⟨rfl,rfl,rfl,rfl,rfl,rfl,rfl⟩ (by rw [f8];lia) (by rw [d8];lia) (by rw [d8];lia) λσ' trs' g y' R'=>h σ' trs' g (x4.trans (y'.wide (λø h=>.inl (by rw [List.mem_singleton.mp h];exact .head _)) (λø h=>.inl h) (λø h=>.inl h))) R'
  ·refine kIf_t rfl ?_
   kp_flats
   exact tail49b_ok (lo:=((((lo0 7 [.ref ln,.int (ix b),.bytes (u::r),.int now]).set 4 (some (.int n))).set 5 (some (.int (n.fmod 8)))).set 6 (some (.int (n.fdiv 8)))).set 5 (some (.int 0))) (f:=0) h48 R3 hl hr ⟨rfl,rfl,rfl,rfl,rfl,rfl,rfl⟩ (by decide) (by rw [d8];lia) (by rw [d8];lia) λσ' trs' g y' R'=>h σ' trs' g (x4.trans (y'.wide (λø h=>.inl (by rw [List.mem_singleton.mp h];exact .head _)) (λø h=>.inl h) (λø h=>.inl h))) R'
end
section
variable {rs:Nat->List V->St->Prop}{Φ:Phi}
noncomputable def C45 (Φ:Ph):Prop:=∀ (r nl:Nat) (fates:List Int) σ k,σ.I r=some (8,[])->σ.L nl=some (fates.map .int)->(∀ f∈fates,0<=f/\f<64)->fates.length<=100->0<fates.length ->
 (∀ σ' ft nu bd tr,σ.fresh ft->σ.fresh nu->σ.fresh bd->σ.fresh tr->Ext [r] [] [] σ σ'->LineR σ' r ft nu bd tr fates []->k .none σ')->Φ [.ref r,.ref nl,.int 1,.int 2,.int 1] σ k
theorem b45 (h43:C43 (Φ 43)):C45 (fW rs Φ 5 5 bd45):=by
 intro r nl fates σ k hI hL hf hl h0 h
 refine fW_of rfl ?_
 unfold bd45
 kp_flats
 refine kVar_of rfl ?_
 intro ft hft
 refine h43 _ _ _ _ _ I_eq (L_of_I hL) λnu hnu=>⟨rfl,?_⟩
 have hrf:r≠ft:=fr_I hft hI
 have hnu0:=fr_setI hnu
 have x0:Ext [r] [] [] σ (((σ.setI ft (7,[])).setL nu (fates.map .int)).setI ft (7,ftF nu 0)):=Ext.setI (Ext.setL (Ext.setI Ext.refl (.inr hft)) (.inr hnu0)) (.inr hft)
 have hI1:(((σ.setI ft (7,[])).setL nu (fates.map .int)).setI ft (7,ftF nu 0)).I r=some (8,[]):=I_ne hrf (I_of_L (I_ne hrf hI))
 have hF1:(((σ.setI ft (7,[])).setL nu (fates.map .int)).setI ft (7,ftF nu 0)).I ft=some (7,ftF nu 0):=I_eq
 have hN1:(((σ.setI ft (7,[])).setL nu (fates.map .int)).setI ft (7,ftF nu 0)).L nu=some (fates.map .int):=L_of_I L_eq
 generalize ((σ.setI ft (7,[])).setL nu (fates.map .int)).setI ft (7,ftF nu 0)=σ1 at x0 hI1 hF1 hN1 |-
 repeat kbo_bools
 intro bd hbd
 repeat kbo_bools
 intro tr htr
 repeat kbo_bools
 simp only [St.setI_setI,St.setI_setL] at hbd htr |-
 have fb:σ1.fresh bd:=fr_setI hbd
 have ft':(σ1.setL bd [.int 0,.int 0]).fresh tr:=fr_setI htr
 have ft1:σ1.fresh tr:=fr_setL ft'
 refine retK_nx (h _ ft nu bd tr hft hnu0 (x0.al _ fb) (x0.al _ ft1) (Ext.setI (Ext.setL (Ext.setL x0 (.inr (x0.al _ fb))) (.inr (x0.al _ ft1))) (.inl (.head _))) ?_)
 have nb:nu≠bd:=fr_L fb hN1
 have nt:nu≠tr:=fr_L ft1 hN1
 have bt:bd≠tr:=fr_L ft' L_eq
 exact ⟨⟨0,0,0,0,I_eq⟩,⟨0,I_ne (Ne.symm hrf) (I_of_L (I_of_L hF1)),by lia,by lia⟩,L_of_I (L_ne nt (L_ne nb hN1)),⟨0,0,L_of_I (L_ne bt L_eq)⟩,L_of_I L_eq,λt ht=>(by cases ht),hf,hl,nb,nt,bt⟩
noncomputable def SrcR (σ:St) (c:Nat):Prop:=∃ a m:Int,σ.L c=some [.int a,.int m]/\0<=a
noncomputable def C52 (Φ:Ph):Prop:=∀ (c:Nat) (top:Int) σ k,SrcR σ c->0<top->top<=100->(∀ (a m r:Int),0<=a->0<=r->r<top->k (.int r) (σ.setL c [.int a,.int m]))->Φ [.ref c,.int top] σ k
theorem b52:C52 (fW rs Φ 2 3 bd52):=by
 rintro c top σ k ⟨a,m,hL,ha⟩ h0 h1 h
 refine fW_of rfl ?_
 unfold bd52
 repeat kbo_bools
 have fm (x:Int):0<=x.fmod top/\x.fmod top<top:=by
  rw [Int.fmod_eq_emod_of_nonneg _ (by lia)]
  exact ⟨Int.emod_nonneg _ (by lia),Int.emod_lt_of_pos _ (by lia)⟩
 cases hb:decide (a > 0)
 ·refine kIf_f rfl ?_
  repeat kbo_bools
  refine p_L hL (j:=1) (by with_unfolding_all rfl) ?_
  repeat kbo_bools
  refine b_mul (.inl ?_) ?_
  ·unfold small64
   rw [Int.fmod_eq_emod_of_nonneg _ (by lia)]
   lia
  repeat kbo_bools
  exact retK_same (h _ _ _ ha (fm _).1 (fm _).2)
 ·refine kIf_t rfl ?_
  repeat kbo_bools
  refine p_L hL (j:=0) (by with_unfolding_all rfl) ?_
  repeat kbo_bools
  refine retK_same (h _ _ _ ?_ (fm _).1 (fm _).2)
  rw [Int.fdiv_eq_ediv_of_nonneg _ (by lia)]
  exact Int.ediv_nonneg ha (by lia)
noncomputable def C53 (Φ:Ph):Prop:=∀ (c t:Nat) (xs:List Int) σ k,SrcR σ c->σ.L t=some (xs.map .int)->c≠t->0<xs.length->xs.length<=100->(∀ (a m r:Int),0<=a->r∈xs->k (.int r) (σ.setL c [.int a,.int m]))->Φ [.ref c,.ref t] σ k
theorem b53 (h52:C52 (Φ 52)):C53 (fW rs Φ 2 2 bd53):=by
 intro c t xs σ k hS hL hn h0 h1 h
 refine fW_of rfl ?_
 unfold bd53
 repeat kbo_bools
 refine h52 _ _ _ _ hS (by rw [List.length_map];lia) (by rw [List.length_map];lia) λa m r ha hr0 hr1=>?_
 rw [List.length_map] at hr1
 have hr:r.toNat<xs.length:=by lia
 refine i_L (j:=r.toNat) (u:=.int xs[r.toNat]) (L_ne (Ne.symm hn) hL) ?_ ?_ ?_
 ·rw [List.length_map];exact seqIndex_nat hr0 hr1
 ·rw [List.getElem?_map,List.getElem?_eq_getElem hr];rfl
 ·repeat kbo_bools
  exact retK_same (h a m _ ha (List.getElem_mem _))
noncomputable def numO (b:List UInt8):Int:=b.foldl (λw u=>w * 256+(u.toNat:Int)) 0
noncomputable def bd54b:SL:=(.cons (.asg 1 (.bin .add (.bin .mul (.var 1) (.int 256)) (.var 2))) .nil)
theorem loop54 {σ:St}{K:KL}:∀ (b:List UInt8) (w:Int) (lo:Lo),lo.length=3->lo[1]?=some (some (.int w)) ->
 (∀ lo',lo'[1]?=some (some (.int (b.foldl (λw u=>w * 256+(u.toNat:Int)) w)))->K .nx lo' σ)->loopW (.one 2) (λø=>True) (bodyK (tabsP rs) Φ bd54b) K (b.map octet) lo σ
 | []=>λw lo ø h2 q=>lw_nil True.intro (q lo h2)
 | u::b=>λw lo hl h2 q=>by
   refine lw_one True.intro ?_
   unfold bd54b
   kp_flats
   have g1:(lo.set 2 (some (octet u)))[1]?=some (some (.int w)):=by rw [List.getElem?_set_ne (by decide)];exact h2
   have g2:(lo.set 2 (some (octet u)))[2]?=some (some (octet u)):=List.getElem?_set_self (by rw [hl];decide)
   refine kVar_of g1 ?_
   repeat kbo_bools
   refine kVar_of g2 ?_
   refine b_add ?_
   exact loop54 b (w * 256+(u.toNat:Int)) _ (by simp [hl]) (List.getElem?_set_self (by simp [hl])) q
noncomputable def C54 (Φ:Ph):Prop:=∀ (b:List UInt8) σ k,b.length<=big->k (.int (numO b)) σ->Φ [.bytes b] σ k
theorem b54:C54 (fW rs Φ 1 3 bd54):=by
 intro b σ k hb h
 refine fW_of rfl ?_
 unfold bd54
 repeat kbo_bools
 refine kObj_b hb ?_
 refine loop54 b 0 _ rfl rfl λlo' h1=>?_
 kp_flats
 refine kVar_of h1 ?_
 exact retK_same h
end
section
variable {rs:Nat->List V->St->Prop}{Φ:Phi}
inductive ArrR (σ:St):List V->List Tr->Prop
 | nil:ArrR σ [] []
 | cons {a:Nat}{xs:List V}{t:Tr}{ts:List Tr} (h1:σ.T a=some [.int (ix t.en),.bytes t.oct]) (h:ArrR σ xs ts):ArrR σ (.ref a::xs) (t::ts)
theorem ArrR.mono {σ τ:St} (hT:∀ a x,σ.T a=some x->τ.T a=some x) {xs:List V}{ts:List Tr} (h:ArrR σ xs ts):ArrR τ xs ts:=by
 induction h with
 | nil=>exact .nil
 | cons h1 _ ih=>exact .cons (hT _ _ h1) ih
theorem ArrR.snoc {σ:St}{a:Nat}{t:Tr}{xs:List V}{ts:List Tr} (h:ArrR σ xs ts) (h1:σ.T a=some [.int (ix t.en),.bytes t.oct]):ArrR σ (xs++[.ref a]) (ts++[t]):=by
 induction h with
 | nil=>exact .cons h1 .nil
 | cons h2 _ ih=>exact .cons h2 ih
theorem ArrR.len {σ:St}{xs:List V}{ts:List Tr} (h:ArrR σ xs ts):xs.length=ts.length:=by
 induction h with
 | nil=>rfl
 | cons _ _ ih=>simp [ih]
noncomputable def C50 (Φ:Ph):Prop:=∀ (ln ft nu bd tr:Nat) (fates:List Int) (trs:List Tr) (now:Int) σ k,LineR σ ln ft nu bd tr fates trs->trs.length<90000 ->
 (∀ c σ' gone rest vs,trs=gone++rest->σ.fresh c->σ'.L c=some vs->ArrR σ' vs gone->Ext [] [tr] [] σ σ'->LineR σ' ln ft nu bd tr fates rest->k (.ref c) σ')->Φ [.ref ln,.int now] σ k
structure Lo50 (lo:Lo) (ln c:Nat) (now:Int):Prop where
 len:lo.length=4
 v0:lo[0]?=some (some (.ref ln))
 v1:lo[1]?=some (some (.int now))
 v2:lo[2]?=some (some (.ref c))
theorem Lo50.set {lo:Lo}{ln c:Nat}{now:Int} (h:Lo50 lo ln c now) (v:V):Lo50 (lo.set 3 (some v)) ln c now:=
 ⟨by rw [List.length_set];exact h.len,by rw [List.getElem?_set_ne (by decide)];exact h.v0,by rw [List.getElem?_set_ne (by decide)];exact h.v1,by rw [List.getElem?_set_ne (by decide)];exact h.v2⟩
theorem b50:C50 (fW rs Φ 2 4 bd50):=by
 intro ln ft nu bd tr fates trs now σ k R hl h
 refine fW_of rfl ?_
 unfold bd50
 kp_flats
 refine kList_of (by acc_open) λc hc=>?_
 have x0:Ext [] [tr] [] σ (σ.setL c []):=Ext.setL Ext.refl (.inr hc)
 have ntc:tr≠c:=fr_L hc R.trE
 have R0:LineR (σ.setL c []) ln ft nu bd tr fates trs:=R.ext (Ext.setL Ext.refl (.inr hc):Ext [] [] [] σ (σ.setL c [])) (by acc_open) (by acc_open) (by acc_open) (by acc_open) (by acc_open) (by acc_open)
 refine st_while (λn lo τ=>∃ gone rest vs,trs=gone++rest/\n=rest.length/\τ.L c=some vs/\ArrR τ vs gone/\Ext [] [tr] [] σ τ/\LineR τ ln ft nu bd tr fates rest/\Lo50 lo ln c now) trs.length ⟨[],trs,[],rfl,rfl,L_eq,.nil,x0,R0,rfl,rfl,rfl,rfl⟩ ?_
 rintro n lo τ ⟨gone,rest,vs,e,rfl,hL,hA,x,R1,l⟩
 obtain ⟨sn,lo_,sp,dbl,hI⟩:=R1.lnE
 have hT:=R1.trE
 have fin:seqK (tabsP rs) Φ (SL.cons (S.ret (E.var 2)) SL.nil) (retK k) .nx lo τ:=by
  kp_flats
  refine kVar_of l.v2 ?_
  exact retK_same (h c τ gone rest vs e hc hL hA x R1)
 kp_flats
 refine kVar_of l.v0 ?_
 repeat kbo_bools
 cases rest with
 | nil=>
   refine kCAnd_f (by acc_open) (whK_f rfl ?_)
   exact fin
 | cons t rest=>
   refine kCAnd_t (decide_eq_true (by rw [List.length_map,List.length_cons];omega)) ?_
   kp_flats
   refine kVar_of l.v0 ?_
   repeat kbo_bools
   have hTt:=R1.tE t (.head _)
   refine i_L (j:=0) (u:=.ref t.a) hT (by rw [List.length_map];exact seqIndex_nat (by decide) (by rw [List.length_cons];omega)) rfl ?_
   refine kAttr_of hTt (by with_unfolding_all rfl) ?_
   refine kVar_of l.v1 ?_
   kp_flats
   cases hb:decide (t.time<=now)
   ·exact whK_f rfl fin
   ·refine whK_t rfl ?_
    kp_flats
    refine kVar_of l.v0 ?_
    repeat kbo_bools
    refine x_pop0 (z:=.ref t.a) (r:=rest.map λt=>.ref t.a) (by rw [hT];rfl) ?_
    have x1:Ext [] [tr] [] τ (τ.setL tr (rest.map λt=>.ref t.a)):=Ext.setL Ext.refl (.inl ⟨.head _,_,hT⟩)
    have R2:LineR (τ.setL tr (rest.map λt=>.ref t.a)) ln ft nu bd tr fates rest:=⟨⟨_,_,_,_,hI⟩,R1.ftE,L_ne R1.n2 R1.nuE,by obtain ⟨u,v,hb⟩:=R1.bdE;exact ⟨u,v,L_ne R1.n3 hb⟩,L_eq,λt ht=>R1.tE t (.tail _ ht),R1.frE,R1.flE,R1.n1,R1.n2,R1.n3⟩
    have hL2:(τ.setL tr (rest.map λt=>.ref t.a)).L c=some vs:=L_ne (Ne.symm ntc) hL
    have hT2:(τ.setL tr (rest.map λt=>.ref t.a)).I t.a=some (6,trF t.time t.num (ix t.en) t.oct):=hTt
    have hA2:ArrR (τ.setL tr (rest.map λt=>.ref t.a)) vs gone:=hA.mono (σ:=τ) (τ:=τ.setL tr (rest.map λt=>.ref t.a)) λø ø h=>h
    generalize τ.setL tr (rest.map λt=>.ref t.a)=τ1 at x1 R2 hL2 hT2 hA2 |-
    have l1:=l.set (.ref t.a)
    have g3:(lo.set 3 (some (.ref t.a)))[3]?=some (some (.ref t.a)):=List.getElem?_set_self (by rw [l.len];decide)
    kp_flats
    refine kVar_of l1.v2 ?_
    refine kM1_L hL2 rfl ?_
    kp_flats
    refine kVar_of g3 ?_
    refine kAttr_of hT2 (by with_unfolding_all rfl) ?_
    refine kVar_of g3 ?_
    refine kAttr_of hT2 (by with_unfolding_all rfl) ?_
    refine kTup_of (by acc_open) λa ha=>?_
    have hlen:vs.length<=90000:=by rw [hA.len];have:=congrArg List.length e;simp at this;omega
    refine x_append hL2 (by unfold big;omega) ?_
    have x2:Ext [] [] [] τ1 (τ1.setT a [.int (ix t.en),.bytes t.oct]):=Ext.setT Ext.refl ha
    have R3:=R2.ext x2 (by acc_open) (by acc_open) (by acc_open) (by acc_open) (by acc_open) (by acc_open)
    refine ⟨rest.length,by simp,gone++[t],rest,vs++[.ref a],by rw [e];simp,rfl,L_eq,?_,?_,?_,l1⟩
    ·exact (hA2.mono (σ:=τ1) (τ:=(τ1.setT a [.int (ix t.en),.bytes t.oct]).setL c (vs++[.ref a])) λø ø h=>T_of_L (T_ne (fr_T ha h) h)).snoc (T_of_L T_eq)
    ·exact Ext.setL (Ext.setT (x.trans x1) (x.al _ (x1.al _ ha))) (.inr hc)
    ·exact ⟨R3.lnE,R3.ftE,L_ne (λe=>by have:=R.nuE;rw [e,hc.2.1] at this;cases this) R3.nuE,by obtain ⟨u,v,hb⟩:=R3.bdE;exact ⟨u,v,L_ne (λe=>by obtain ⟨u,v,hb⟩:=R.bdE;rw [e,hc.2.1] at hb;cases hb) hb⟩,L_ne ntc R3.trE,R3.tE,R3.frE,R3.flE,R3.n1,R3.n2,R3.n3⟩
noncomputable def C51 (Φ:Ph):Prop:=∀ (s:Nat) (xs:List Int) σ k,σ.F s=some (xs.map .int)->σ.L s=none->σ.D s=none->σ.T s=none->(∀ c a m,σ.fresh c->0<=a->k (.ref c) (σ.setL c [.int a,.int m]))->Φ [.ref s,.int 0] σ k
noncomputable def tail51:SL:=(.cons (.asg 3 (.max2 (.bi .int (.var 2)) (.bi .int (.bin .sub (.neg (.int 1)) (.var 2))))) (.cons (.asg 4 (.bin .mod (.bi .int (.bin .mul (.bin .add (.bin .add (.bin .add (.bin .mod (.bi .int (.var 3)) (.int 2147483629)) (.bin .mul (.bin .mul (.int 7919) (.var 1)) (.var 1))) (.bin .mul (.int 31) (.var 1))) (.int 17)) (.int 48271))) (.int 2147483647))) (.cons (.ret (.list (.cons (.bin .mul (.var 3) (.bi .int (.cmp .ge (.var 3) (.bin .pow (.int 10) (.int 18))))) (.cons (.var 4) .nil)))) .nil)))
theorem tail51_ok {lo:Lo}{σ:St}{x:Int}{k:KV} (hlo:lo.length=5) (v1:lo[1]?=some (some (.int 0))) (v2:lo[2]?=some (some (.int x))) (h:∀ c a m,σ.fresh c->0<=a->k (.ref c) (σ.setL c [.int a,.int m])):wpSL (tabsP rs) Φ tail51 lo σ (retK k):=by
 unfold tail51
 kp_flats
 refine kVar_of v2 ?_
 kp_flats
 refine kVar_of v2 ?_
 kp_flats
 generalize hy:(if -1 - x > x then -1 - x else x)=y
 have hy0:0<=y:=by rw [<- hy];split <;> lia
 have g3:(lo.set 3 (some (.int y)))[3]?=some (some (.int y)):=List.getElem?_set_self (by rw [hlo];decide)
 have g1:(lo.set 3 (some (.int y)))[1]?=some (some (.int 0)):=by rw [List.getElem?_set_ne (by decide)];exact v1
 refine kVar_of g3 ?_
 repeat kbo_bools
 refine kVar_of g1 ?_
 repeat kbo_bools
 refine kVar_of g1 ?_
 repeat kbo_bools
 refine kVar_of g1 ?_
 repeat kbo_bools
 generalize ((y.fmod 2147483629+7919 * 0 * 0+31 * 0+17) * 48271).fmod 2147483647=mm
 have k3:((lo.set 3 (some (.int y))).set 4 (some (.int mm)))[3]?=some (some (.int y)):=by rw [List.getElem?_set_ne (by decide)];exact g3
 have k4:((lo.set 3 (some (.int y))).set 4 (some (.int mm)))[4]?=some (some (.int mm)):=List.getElem?_set_self (by simp [hlo])
 refine kVar_of k3 (kVar_of k3 ?_)
 refine b_pow (by decide) (by decide) (by unfold small64;decide) ?_
 kp_flats
 refine b_mul (.inr (by unfold small64;split <;> decide)) ?_
 refine kVar_of k4 ?_
 refine kList_of (by acc_open) λc hc=>?_
 refine retK_same (h c _ _ hc (Int.mul_nonneg hy0 (by split <;> decide)))
theorem b51:C51 (fW rs Φ 2 5 bd51):=by
 intro s xs σ k hF hL hD hT h
 refine fW_of rfl ?_
 have e1:bd51=(.cons (.asg 2 (.int 0)) (.cons (.ite (.cmp .lt (.var 1) (.bi .len (.var 0))) (.cons (.asg 2 (.idx (.var 0) (.var 1))) .nil) .nil) tail51)):=rfl
 rw [e1]
 repeat kbo_bools
 refine len_F hF hL hD ?_
 kp_flats
 cases xs with
 | nil=>
   refine kIf_f (by acc_open) ?_
   rw [q_lnil,q_seqnx]
   exact tail51_ok (x:=0) rfl rfl rfl h
 | cons x xs=>
   refine kIf_t (decide_eq_true (by rw [List.length_map,List.length_cons];lia)) ?_
   repeat kbo_bools
   refine i_F (j:=0) (u:=.int x) hF hL hT hD (by rw [List.length_map];exact seqIndex_nat (by decide) (by rw [List.length_cons];lia)) rfl ?_
   exact tail51_ok (lo:=((lo0 5 [.ref s,.int 0]).set 2 (some (.int 0))).set 2 (some (.int x))) (x:=x) rfl rfl rfl h
end
section
variable {rs:Nat->List V->St->Prop}{Φ:Phi}
theorem SrcR.ext {σ τ:St}{c:Nat}{SI SL SD:List Nat} (h:SrcR σ c) (x:Ext SI SL SD σ τ) (n:c ∉ SL):SrcR τ c:=by obtain ⟨a,m,h,h0⟩:=h;exact ⟨a,m,x.L _ _ n h,h0⟩
theorem SrcR.put {σ:St}{c:Nat}{a m:Int} (h:SrcR σ c) (h0:0<=a):SrcR (σ.setL c [.int a,.int m]) c/\Ext [] [c] [] σ (σ.setL c [.int a,.int m]):=
 ⟨⟨a,m,L_eq,h0⟩,by obtain ⟨_,_,h,_⟩:=h;exact Ext.setL Ext.refl (.inl ⟨.head _,_,h⟩)⟩
theorem FcR.ext {SI SL SD:List Nat}{σ τ:St}{b:Bool}{least:Int}{i arp tab en:Nat}{w made:Int}{es:List Ent} (R:FcR σ b least i arp tab en w made es) (x:Ext SI SL SD σ τ) (h1:i ∉ SI) (h2:arp ∉ SI) (h3:tab ∉ SI) (h4:en ∉ SD) (h5:∀ t∈es,t.a ∉ SI/\t.q ∉ SL):FcR τ b least i arp tab en w made es:=
 ⟨x.I _ _ h1 R.i,x.I _ _ h2 R.arp,R.T.ext x h3 h4 h5⟩
noncomputable def bd55b:SL:=(.cons (.expr (.m1 .append (.var 2) (.new 2 (.cons (.var 3) (.cons (.var 4) (.cons (.int 24) (.cons (.int 1500) (.cons (.new 3 (.cons (.var 3) (.cons (.var 4) (.cons (.new 5 (.cons (.int 3) (.cons (.int 90) (.cons (.int 2) (.cons (.int 5) (.cons (.int 3) .nil)))))) .nil)))) (.cons (.var 1) .nil))))))))) .nil)
theorem turn55 (h20:C20 (Φ 20)) (h24:C24 (Φ 24)) (h29:C29 (Φ 29)) {c:Nat}{b:Bool}{least:Int}{acc:List V}{lo:Lo}{σ:St}{K:KL} (v1:lo[1]?=some (some (.int least))) (v2:lo[2]?=some (some (.ref c))) (v3:lo[3]?=some (some (.int (lk b)))) (v4:lo[4]?=some (some (.int (ad b)))) (hL:σ.L c=some acc) (hl:acc.length<=10)
 (h:∀ σ' i arp tab en,σ.fresh i->σ.fresh tab->σ.fresh en->Ext [] [c] [] σ σ'->σ'.L c=some (acc++[.ref i])->FcR σ' b least i arp tab en 0 0 []->K .nx lo σ'):wpSL (tabsP rs) Φ bd55b lo σ K:=by
 unfold bd55b
 kp_flats
 refine kVar_of v2 ?_
 refine kM1_L hL rfl ?_
 kp_flats
 refine kVar_of v3 (kVar_of v4 (kVar_of v3 (kVar_of v4 ?_)))
 intro tab htab
 refine h29 _ _ _ I_eq λen hen=>⟨rfl,?_⟩
 rw [St.setI_setD,St.setI_setI]
 have hen0:=fr_setI hen
 have x1:Ext [] [c] [] σ ((σ.setD en []).setI tab (5,tbF en 0)):=Ext.setI (Ext.setD Ext.refl (.inr hen0)) (.inr htab)
 have d1:((σ.setD en []).setI tab (5,tbF en 0)).D en=some []:=D_of_I D_eq
 have t1:((σ.setD en []).setI tab (5,tbF en 0)).I tab=some (5,tbF en 0):=I_eq
 have c1:((σ.setD en []).setI tab (5,tbF en 0)).L c=some acc:=hL
 have dL:((σ.setD en []).setI tab (5,tbF en 0)).L en=none:=hen0.2.1
 have dT:((σ.setD en []).setI tab (5,tbF en 0)).T en=none:=hen0.2.2.1
 generalize (σ.setD en []).setI tab (5,tbF en 0)=σ1 at x1 d1 t1 dL dT c1 |-
 intro arp harp
 refine h24 _ _ _ _ _ I_eq ⟨rfl,?_⟩
 rw [St.setI_setI]
 have x2:Ext [] [c] [] σ (σ1.setI arp (3,apF b tab)):=Ext.setI x1 (.inr (x1.al _ harp))
 have a2:(σ1.setI arp (3,apF b tab)).I arp=some (3,apF b tab):=I_eq
 have t2:(σ1.setI arp (3,apF b tab)).I tab=some (5,tbF en 0):=I_ne (fr_I harp t1) t1
 have d2:(σ1.setI arp (3,apF b tab)).D en=some []:=d1
 have c2:(σ1.setI arp (3,apF b tab)).L c=some acc:=c1
 have eL:(σ1.setI arp (3,apF b tab)).L en=none:=dL
 have eT:(σ1.setI arp (3,apF b tab)).T en=none:=dT
 generalize σ1.setI arp (3,apF b tab)=σ2 at x2 a2 t2 d2 eL eT c2 |-
 refine kVar_of v1 ?_
 intro i hi
 refine h20 _ _ _ _ _ _ I_eq ⟨rfl,?_⟩
 rw [St.setI_setI]
 have hce:c≠en:=fr_L hen0 hL
 have hL2:(σ2.setI i (2,fcF b least arp 0)).L c=some acc:=c2
 refine x_append hL2 (by unfold big;lia) ?_
 refine h _ i arp tab en (x2.al _ hi) htab hen0 (Ext.setL (Ext.setI x2 (.inr (x2.al _ hi))) (.inl ⟨.head _,_,hL2⟩)) L_eq ⟨I_eq,I_of_L (I_ne (fr_I hi a2) a2),⟨I_of_L (I_ne (fr_I hi t2) t2),d2,L_ne (Ne.symm hce) eL,eT,λt ht=>(by cases ht),.nil,.nil,.nil⟩⟩
noncomputable def C55 (Φ:Ph):Prop:=∀ (c:Nat) σ k,SrcR σ c ->
 (∀ fa σ' least i0 arp0 tab0 en0 i1 arp1 tab1 en1,(least=0\/least=3)->σ.fresh fa->Ext [] [c] [] σ σ'->SrcR σ' c->σ'.L fa=some [.ref i0,.ref i1]->FcR σ' false least i0 arp0 tab0 en0 0 0 []->FcR σ' true least i1 arp1 tab1 en1 0 0 []->i0≠i1->tab0≠tab1->en0≠en1->k (.ref fa) σ')->Φ [.ref c] σ k
theorem b55 (h20:C20 (Φ 20)) (h24:C24 (Φ 24)) (h29:C29 (Φ 29)) (h53:C53 (Φ 53)):C55 (fW rs Φ 1 5 bd55):=by
 intro c σ k hS h
 refine fW_of rfl ?_
 unfold bd55
 kp_flats
 refine kVar_of rfl ?_
 refine kList_of (by acc_open) λt ht=>?_
 have hS1:SrcR (σ.setL t [.int 0,.int 0,.int 3]) c:=hS.ext (Ext.setL Ext.refl (.inr ht):Ext [] [] [] σ _) (by acc_open)
 have hct:c≠t:=by obtain ⟨a,m,hL,_⟩:=hS;exact fr_L ht hL
 refine h53 c t [0,0,3] _ _ hS1 L_eq hct (by decide) (by decide) λa m r ha hr=>?_
 have hl:r=0\/r=3:=by simp at hr;omega
 obtain ⟨hS2,x2⟩:=hS1.put (m:=m) ha
 have x0:Ext [] [c] [] σ ((σ.setL t [.int 0,.int 0,.int 3]).setL c [.int a,.int m]):=(Ext.setL Ext.refl (.inr ht):Ext [] [c] [] σ _).trans x2
 kp_flats
 generalize (σ.setL t [.int 0,.int 0,.int 3]).setL c [.int a,.int m]=σ1 at hS2 x0 |-
 refine kList_of (by acc_open) λfa hfa=>?_
 have hfa0:=x0.al _ hfa
 have hca:c≠fa:=by obtain ⟨a,m,hL,_⟩:=hS2;exact fr_L hfa hL
 have x1:Ext [] [c] [] σ (σ1.setL fa []):=Ext.setL x0 (.inr hfa0)
 have hS3:SrcR (σ1.setL fa []) c:=hS2.ext (Ext.setL Ext.refl (.inr hfa):Ext [] [] [] σ1 _) (by acc_open)
 have hF3:(σ1.setL fa []).L fa=some []:=L_eq
 kp_flats
 generalize σ1.setL fa []=σ2 at x1 hS3 hF3 |-
 refine kTup_of (by acc_open) λt0 ht0=>?_
 refine kTup_of (by acc_open) λt1 ht1=>?_
 refine kList_of (by acc_open) λtl htl=>?_
 have ht1':σ2.fresh t1:=fr_setT ht1
 have htl':σ2.fresh tl:=fr_setT (fr_setT htl)
 have n01:t0≠t1:=fr_T ht1 T_eq
 have y1:Ext [] [] [] σ2 (((σ2.setT t0 [.int 50,.int 257]).setT t1 [.int 60,.int 258]).setL tl [.ref t0,.ref t1]):=Ext.setL (Ext.setT (Ext.setT Ext.refl ht0) ht1') (.inr htl')
 have g0:(((σ2.setT t0 [.int 50,.int 257]).setT t1 [.int 60,.int 258]).setL tl [.ref t0,.ref t1]).T t0=some [.int (lk false),.int (ad false)]:=T_of_L (T_ne n01 T_eq)
 have g1:(((σ2.setT t0 [.int 50,.int 257]).setT t1 [.int 60,.int 258]).setL tl [.ref t0,.ref t1]).T t1=some [.int (lk true),.int (ad true)]:=T_of_L T_eq
 have gl:(((σ2.setT t0 [.int 50,.int 257]).setT t1 [.int 60,.int 258]).setL tl [.ref t0,.ref t1]).L tl=some [.ref t0,.ref t1]:=L_eq
 have hS4:=hS3.ext y1 (by acc_open)
 have hF4:=y1.L _ _ (by acc_open) hF3
 have x4:=x1.trans (y1.wide (by acc_open) (by acc_open) (by acc_open))
 have nfl:tl≠fa:=Ne.symm (fr_L htl' hF3)
 generalize ((σ2.setT t0 [.int 50,.int 257]).setT t1 [.int 60,.int 258]).setL tl [.ref t0,.ref t1]=σ4 at g0 g1 gl hS4 hF4 x4 |-
 refine kObj_L gl ?_
 refine lw_many gl g0 rfl ?_
 rw [q_body]
 refine turn55 (b:=false) (acc:=[]) h20 h24 h29 rfl rfl rfl rfl hF4 (by acc_open) λσ5 i0 arp0 tab0 en0 fi0 ft0 fe0 x5 hF5 R0=>?_
 rw [q_lknx]
 have gl5:=x5.L _ _ (by simpa using nfl) gl
 refine lw_many gl5 (x5.T _ _ g1) rfl ?_
 rw [q_body]
 refine turn55 (b:=true) (acc:=[.ref i0]) h20 h24 h29 rfl rfl rfl rfl hF5 (by acc_open) λσ6 i1 arp1 tab1 en1 fi1 ft1 fe1 x6 hF6 R1=>?_
 rw [q_lknx]
 refine lw_nil (x6.L _ _ (by simpa using nfl) gl5) ?_
 kp_flats
 refine kVar_of rfl ?_
 have xx:Ext [] [c,fa] [] σ σ6:=((x4.wide (by acc_open) (λø h=>.inl (by rw [List.mem_singleton.mp h];exact .head _)) (by acc_open)).trans (x5.wide (by acc_open) (λø h=>.inl (.tail _ h)) (by acc_open))).trans (x6.wide (by acc_open) (λø h=>.inl (.tail _ h)) (by acc_open))
 have hS6:=(hS4.ext x5 (by simpa using hca)).ext x6 (by simpa using hca)
 refine retK_same (h fa σ6 r i0 arp0 tab0 en0 i1 arp1 tab1 en1 hl hfa0 (xx.wide (by acc_open) (λa ha=>?_) (by acc_open)) hS6 hF6 (R0.ext x6 (by acc_open) (by acc_open) (by acc_open) (by acc_open) λt ht=>(by cases ht)) R1 (fr_I fi1 R0.i) (fr_I ft1 R0.T.tab) (fr_D fe1 R0.T.d))
 rcases List.mem_cons.mp ha with rfl | ha
 ·exact .inl (.head _)
 ·rw [List.mem_singleton.mp ha];exact .inr hfa0
structure Row where
 b:Bool
 key:Int
 p:List UInt8
inductive RowsR (σ:St):List V->List Row->Prop
 | nil:RowsR σ [] []
 | cons {a:Nat}{xs:List V}{t:Row}{ts:List Row} (h1:σ.T a=some [.int (ix t.b),.int t.key,.bytes t.p]) (h:RowsR σ xs ts):RowsR σ (.ref a::xs) (t::ts)
theorem RowsR.mono {σ τ:St} (hT:∀ a x,σ.T a=some x->τ.T a=some x) {xs:List V}{ts:List Row} (h:RowsR σ xs ts):RowsR τ xs ts:=by
 induction h with
 | nil=>exact .nil
 | cons h1 _ ih=>exact .cons (hT _ _ h1) ih
theorem RowsR.snoc {σ:St}{a:Nat}{t:Row}{xs:List V}{ts:List Row} (h:RowsR σ xs ts) (h1:σ.T a=some [.int (ix t.b),.int t.key,.bytes t.p]):RowsR σ (xs++[.ref a]) (ts++[t]):=by
 induction h with
 | nil=>exact .cons h1 .nil
 | cons h2 _ ih=>exact .cons h2 ih
theorem RowsR.len {σ:St}{xs:List V}{ts:List Row} (h:RowsR σ xs ts):xs.length=ts.length:=by
 induction h with
 | nil=>rfl
 | cons _ _ ih=>simp [ih]
structure RowOk (u:UInt8) (r:Row):Prop where
 key:r.key=ad (!r.b)\/r.key=511\/r.key=300
 p:∃ m,1<=m/\m<=3/\r.p=List.replicate m u
noncomputable def RowsOk (rows:List Row):Prop:=(∃ r,RowOk 100 r/\rows=[r])\/∃ r s,RowOk 100 r/\RowOk 101 s/\rows=[r,s]
noncomputable def bd56b:SL:=(.cons (.asg 3 (.call 52 (.cons (.var 0) (.cons (.int 2) .nil)))) (.cons (.asg 4 (.call 53 (.cons (.var 0) (.cons (.list (.cons (.bin .sub (.int 258) (.var 3)) (.cons (.bin .sub (.int 258) (.var 3)) (.cons (.bin .sub (.int 258) (.var 3)) (.cons (.bin .sub (.int 258) (.var 3)) (.cons (.int 511) (.cons (.int 300) .nil))))))) .nil)))) (.cons (.expr (.m1 .append (.var 1) (.tup (.cons (.var 3) (.cons (.var 4) (.cons (.bi .bytes (.bin .mul (.list (.cons (.bin .add (.int 100) (.var 2)) .nil)) (.bin .add (.int 1) (.call 52 (.cons (.var 0) (.cons (.int 3) .nil)))))) .nil)))))) .nil)))
theorem ix_of {r:Int} (h0:0<=r) (h1:r<2):∃ b,r=ix b:=by
 by_cases h:r=0
 ·exact ⟨false,h⟩
 ·exact ⟨true,by show r=1;lia⟩
theorem ad_of (b:Bool):258 - ix b=ad (!b):=by cases b <;> rfl
theorem intsOf_rep (n:Nat) (x:Int):intsOf (List.replicate n [V.int x]).flatten=some (List.replicate n x):=by
 induction n with
 | zero=>rfl
 | succ n ih=>rw [List.replicate_succ,List.flatten_cons,List.replicate_succ];show (match intsOf (List.replicate n [V.int x]).flatten with | some l=>some (x::l) | _=>none)=_;rw [ih]
theorem turn56 (h52:C52 (Φ 52)) (h53:C53 (Φ 53)) {c f:Nat}{n:Int}{acc:List V}{lo:Lo}{σ:St}{K:KL} (hlo:lo.length=5) (v0:lo[0]?=some (some (.ref c))) (v1:lo[1]?=some (some (.ref f))) (v2:lo[2]?=some (some (.int n))) (hS:SrcR σ c) (hL:σ.L f=some acc) (hn:c≠f) (hl:acc.length<=10) (h0:0<=n) (h1:n<=1)
 (h:∀ σ' a b key m lo',lo'[0]?=some (some (.ref c))->lo'[1]?=some (some (.ref f))->lo'.length=5->(key=ad (!b)\/key=511\/key=300)->1<=m->m<=3->Ext [] [c,f] [] σ σ'->SrcR σ' c->σ'.L f=some (acc++[.ref a])->σ'.T a=some [.int (ix b),.int key,.bytes (List.replicate m (100+n).toNat.toUInt8)]->K .nx lo' σ'):wpSL (tabsP rs) Φ bd56b lo σ K:=by
 unfold bd56b
 kp_flats
 refine kVar_of v0 ?_
 refine h52 _ _ _ _ hS (by decide) (by decide) λa1 m1 r1 ha1 hr0 hr1=>?_
 obtain ⟨b,rfl⟩:=ix_of hr0 hr1
 obtain ⟨hS1,x1⟩:=hS.put (m:=m1) ha1
 have hL1:(σ.setL c [.int a1,.int m1]).L f=some acc:=L_ne (Ne.symm hn) hL
 generalize σ.setL c [.int a1,.int m1]=σ1 at hS1 x1 hL1 |-
 have g3:(lo.set 3 (some (.int (ix b))))[3]?=some (some (.int (ix b))):=List.getElem?_set_self (by rw [hlo];decide)
 have g0:(lo.set 3 (some (.int (ix b))))[0]?=some (some (.ref c)):=by rw [List.getElem?_set_ne (by decide)];exact v0
 have g1:(lo.set 3 (some (.int (ix b))))[1]?=some (some (.ref f)):=by rw [List.getElem?_set_ne (by decide)];exact v1
 have g2:(lo.set 3 (some (.int (ix b))))[2]?=some (some (.int n)):=by rw [List.getElem?_set_ne (by decide)];exact v2
 have gl:(lo.set 3 (some (.int (ix b)))).length=5:=by simp [hlo]
 kp_flats
 generalize lo.set 3 (some (.int (ix b)))=lo1 at g0 g1 g2 g3 gl |-
 refine kVar_of g0 (kVar_of g3 ?_)
 kp_flats
 refine kVar_of g3 ?_
 kp_flats
 refine kVar_of g3 ?_
 kp_flats
 refine kVar_of g3 ?_
 kp_flats
 rw [ad_of]
 refine kList_of (by acc_open) λt ht=>?_
 have hct:c≠t:=by obtain ⟨a,m,hL,_⟩:=hS1;exact fr_L ht hL
 have y1:Ext [] [] [] σ1 (σ1.setL t [.int (ad (!b)),.int (ad (!b)),.int (ad (!b)),.int (ad (!b)),.int 511,.int 300]):=Ext.setL Ext.refl (.inr ht)
 refine h53 c t [ad (!b),ad (!b),ad (!b),ad (!b),511,300] _ _ (hS1.ext y1 (by acc_open)) L_eq hct (by acc_open) (by acc_open) λa2 m2 key ha2 hk=>?_
 have hkey:key=ad (!b)\/key=511\/key=300:=by simp at hk;lia
 obtain ⟨hS2,x2⟩:=(hS1.ext y1 (by acc_open)).put (m:=m2) ha2
 have hL2:=x2.L _ _ (by simpa using Ne.symm hn) (y1.L _ _ (by acc_open) hL1)
 have x2':Ext [] [c] [] σ1 ((σ1.setL t [.int (ad (!b)),.int (ad (!b)),.int (ad (!b)),.int (ad (!b)),.int 511,.int 300]).setL c [.int a2,.int m2]):=(y1.wide (by acc_open) (by acc_open) (by acc_open)).trans x2
 generalize (σ1.setL t [.int (ad (!b)),.int (ad (!b)),.int (ad (!b)),.int (ad (!b)),.int 511,.int 300]).setL c [.int a2,.int m2]=σ2 at hS2 x2' hL2 |-
 have k4:(lo1.set 4 (some (.int key)))[4]?=some (some (.int key)):=List.getElem?_set_self (by rw [gl];decide)
 have k0:(lo1.set 4 (some (.int key)))[0]?=some (some (.ref c)):=by rw [List.getElem?_set_ne (by decide)];exact g0
 have k1:(lo1.set 4 (some (.int key)))[1]?=some (some (.ref f)):=by rw [List.getElem?_set_ne (by decide)];exact g1
 have k2:(lo1.set 4 (some (.int key)))[2]?=some (some (.int n)):=by rw [List.getElem?_set_ne (by decide)];exact g2
 have k3:(lo1.set 4 (some (.int key)))[3]?=some (some (.int (ix b))):=by rw [List.getElem?_set_ne (by decide)];exact g3
 have kl:(lo1.set 4 (some (.int key))).length=5:=by simp [gl]
 kp_flats
 generalize lo1.set 4 (some (.int key))=lo2 at k0 k1 k2 k3 k4 kl |-
 refine kVar_of k1 ?_
 refine kM1_L hL2 rfl ?_
 kp_flats
 refine kVar_of k3 (kVar_of k4 (kVar_of k2 ?_))
 kp_flats
 refine kList_of (by acc_open) λu hu=>?_
 have y3:Ext [] [] [] σ2 (σ2.setL u [.int (100+n)]):=Ext.setL Ext.refl (.inr hu)
 have u3:(σ2.setL u [.int (100+n)]).L u=some [.int (100+n)]:=L_eq
 have hS3:=hS2.ext y3 (by acc_open)
 have hL3:=y3.L _ _ (by acc_open) hL2
 have hcu:c≠u:=by obtain ⟨a,m,hL,_⟩:=hS2;exact fr_L hu hL
 generalize σ2.setL u [.int (100+n)]=σ3 at y3 u3 hS3 hL3 |-
 refine kVar_of k0 ?_
 refine h52 _ _ _ _ hS3 (by decide) (by decide) λa3 m3 r3 ha3 hr30 hr31=>?_
 obtain ⟨hS4,x4⟩:=hS3.put (m:=m3) ha3
 have u4:=x4.L _ _ (by simpa using Ne.symm hcu) u3
 have hL4:=x4.L _ _ (by simpa using Ne.symm hn) hL3
 generalize σ3.setL c [.int a3,.int m3]=σ4 at hS4 x4 u4 hL4 |-
 kp_flats
 refine b_rep u4 (by lia) (by lia) (by acc_open) λw hw=>?_
 refine bytes_L L_eq (intsOf_rep _ _) ?_ ?_
 ·intro x hx
  rw [List.eq_of_mem_replicate hx];lia
 rw [List.map_replicate]
 have y5:Ext [] [] [] σ4 (σ4.setL w (List.replicate (1+r3).toNat [V.int (100+n)]).flatten):=Ext.setL Ext.refl (.inr hw)
 have hS5:=hS4.ext y5 (by acc_open)
 have hL5:=y5.L _ _ (by acc_open) hL4
 generalize σ4.setL w (List.replicate (1+r3).toNat [V.int (100+n)]).flatten=σ5 at y5 hS5 hL5 |-
 refine kTup_of (by acc_open) λa ha=>?_
 refine x_append (L_of_T hL5) (by unfold big;lia) ?_
 have z:Ext [] [c,f] [] σ σ5:=((((x1.wide (by acc_open) (λø h=>.inl (by rw [List.mem_singleton.mp h];exact .head _)) (by acc_open)).trans (x2'.wide (by acc_open) (λø h=>.inl (by rw [List.mem_singleton.mp h];exact .head _)) (by acc_open))).trans (y3.wide (by acc_open) (by acc_open) (by acc_open))).trans (x4.wide (by acc_open) (λø h=>.inl (by rw [List.mem_singleton.mp h];exact .head _)) (by acc_open))).trans (y5.wide (by acc_open) (by acc_open) (by acc_open))
 refine h _ a b key (1+r3).toNat lo2 k0 k1 kl hkey (by lia) (by lia) (Ext.setL (Ext.setT z (z.al _ ha)) (.inl ⟨.tail _ (.head _),_,L_of_T hL5⟩)) ?_ L_eq (T_of_L T_eq)
 obtain ⟨a',m',h5,h6⟩:=hS5
 exact ⟨a',m',L_ne hn (L_of_T h5),h6⟩
noncomputable def C56 (Φ:Ph):Prop:=∀ (c:Nat) σ k,SrcR σ c ->
 (∀ f σ' xs rows,σ.fresh f->Ext [] [c] [] σ σ'->SrcR σ' c->RowsOk rows->σ'.L f=some xs->RowsR σ' xs rows->k (.ref f) σ')->Φ [.ref c] σ k
theorem b56 (h52:C52 (Φ 52)) (h53:C53 (Φ 53)):C56 (fW rs Φ 1 5 bd56):=by
 intro c σ k hS h
 refine fW_of rfl ?_
 unfold bd56
 kp_flats
 refine kList_of (by acc_open) λf hf=>?_
 have hcf:c≠f:=by obtain ⟨a,m,hL,_⟩:=hS;exact fr_L hf hL
 have x0:Ext [] [] [] σ (σ.setL f []):=Ext.setL Ext.refl (.inr hf)
 have hS0:=hS.ext x0 (by acc_open)
 have hL0:(σ.setL f []).L f=some []:=L_eq
 kp_flats
 generalize σ.setL f []=σ0 at x0 hS0 hL0 |-
 refine kVar_of rfl ?_
 refine h52 _ _ _ _ hS0 (by decide) (by decide) λa1 m1 r1 ha1 hr0 hr1=>?_
 obtain ⟨hS1,x1⟩:=hS0.put (m:=m1) ha1
 have hL1:(σ0.setL c [.int a1,.int m1]).L f=some []:=L_ne (Ne.symm hcf) hL0
 generalize σ0.setL c [.int a1,.int m1]=σ1 at hS1 x1 hL1 |-
 have wd {α β:St} (x:Ext [] [c] [] α β):Ext [] [c,f] [] α β:=x.wide (by acc_open) (λø h=>.inl (by rw [List.mem_singleton.mp h];exact .head _)) (by acc_open)
 have fin {β:St} (x:Ext [] [c,f] [] σ β):Ext [] [c] [] σ β:=x.wide (by acc_open) (λa ha=>by
  rcases List.mem_cons.mp ha with rfl | ha
  ·exact .inl (.head _)
  ·rw [List.mem_singleton.mp ha];exact .inr hf) (by acc_open)
 kp_flats
 refine kRng1_of (by lia) (by unfold big;lia) ?_
 obtain ⟨b1,rfl⟩:=ix_of hr0 hr1
 have first:∀ (K:KL),(∀ σ' a b key m lo',lo'[0]?=some (some (.ref c))->lo'[1]?=some (some (.ref f))->lo'.length=5->(key=ad (!b)\/key=511\/key=300)->1<=m->m<=3->Ext [] [c,f] [] σ1 σ'->SrcR σ' c->σ'.L f=some ([]++[.ref a])->σ'.T a=some [.int (ix b),.int key,.bytes (List.replicate m 100)]->K .nx lo' σ') ->
  wpSL (tabsP rs) Φ bd56b (((lo0 5 [.ref c]).set 1 (some (.ref f))).set 2 (some (.int 0))) σ1 K:=λK hK=>turn56 h52 h53 (n:=0) rfl rfl rfl rfl hS1 hL1 hcf (by acc_open) (by decide) (by decide) hK
 cases b1
 ·refine lw_one True.intro ?_
  rw [q_body]
  refine first _ λσ2 a b key m lo2 w0 w1 wl hk hm0 hm1 x2 hS2 hL2 hT2=>?_
  rw [q_lknx]
  refine lw_nil True.intro ?_
  kp_flats
  refine kVar_of w1 ?_
  exact retK_same (h f σ2 _ [⟨b,key,List.replicate m 100⟩] hf (fin (((x0.wide (by acc_open) (by acc_open) (by acc_open)).trans (wd x1)).trans x2)) hS2 (.inl ⟨_,⟨hk,m,hm0,hm1,rfl⟩,rfl⟩) hL2 (.cons hT2 .nil))
 ·refine lw_one True.intro ?_
  rw [q_body]
  refine first _ λσ2 a b key m lo2 w0 w1 wl hk hm0 hm1 x2 hS2 hL2 hT2=>?_
  rw [q_lknx]
  refine lw_one True.intro ?_
  rw [q_body]
  refine turn56 h52 h53 (n:=1) (by rw [List.length_set];exact wl) (by rw [List.getElem?_set_ne (by decide)];exact w0) (by rw [List.getElem?_set_ne (by decide)];exact w1) (List.getElem?_set_self (by rw [wl];decide)) hS2 hL2 hcf (by acc_open) (by decide) (by decide) λσ3 a' b' key' m' lo3 w0' w1' wl' hk' hm0' hm1' x3 hS3 hL3 hT3=>?_
  rw [q_lknx]
  refine lw_nil True.intro ?_
  kp_flats
  refine kVar_of w1' ?_
  exact retK_same (h f σ3 _ [⟨b,key,List.replicate m 100⟩,⟨b',key',List.replicate m' 101⟩] hf (fin ((((x0.wide (by acc_open) (by acc_open) (by acc_open)).trans (wd x1)).trans x2).trans x3)) hS3 (.inr ⟨_,_,⟨hk,m,hm0,hm1,rfl⟩,⟨hk',m',hm0',hm1',rfl⟩,rfl⟩) hL3 (.cons (x3.T _ _ hT2) (.cons hT3 .nil)))
end
section
variable {rs:Nat->List V->St->Prop}{Φ:Phi}
structure FrB (b:Bool) (hd:List UInt8) (tg kd:Int) (p:List UInt8):Prop where
 F:FrmOk hd tg (lk b) kd p
 tgE:tg=lk (!b)\/tg=BC
 n6:numO (hd.take 6)=tg
 n12:numO ((hd.take 12).drop 6)=lk b
 n14:numO ((hd.take 14).drop 12)=kd
 fst:∃ u r,hd=u::r/\(u=0\/u=255)
theorem hdB_t6 (t s kd:Int) (p:List UInt8):(hdB t s kd p).take 6=p48 t:=rfl
theorem hdB_t12 (t s kd:Int) (p:List UInt8):((hdB t s kd p).take 12).drop 6=p48 s:=rfl
theorem hdB_t14 (t s kd:Int) (p:List UInt8):((hdB t s kd p).take 14).drop 12=p16 kd:=rfl
theorem hdB_d14 (t s kd:Int) (p:List UInt8):(hdB t s kd p).drop 14=p:=rfl
theorem hdB_g0 (t s kd:Int) (p:List UInt8):g48 (hdB t s kd p) 0=g48 (p48 t) 0:=rfl
theorem hdB_g6 (t s kd:Int) (p:List UInt8):g48 (hdB t s kd p) 6=g48 (p48 s) 0:=rfl
theorem hdB_g12 (t s kd:Int) (p:List UInt8):g16 (hdB t s kd p) 12=g16 (p16 kd) 0:=rfl
theorem n48 {t:Int} (h:t=50\/t=60\/t=281474976710655):numO (p48 t)=t/\g48 (p48 t) 0=t/\((p48 t).head?=some 0\/(p48 t).head?=some 255):=by
 rcases h with rfl | rfl | rfl <;> decide +kernel
theorem n16 {t:Int} (h:t=2048\/t=2054):numO (p16 t)=t/\g16 (p16 t) 0=t:=by
 rcases h with rfl | rfl <;> decide +kernel
theorem lk3 (b:Bool):lk b=50\/lk b=60\/lk b=281474976710655:=by cases b <;> simp [lk]
theorem tg3 {b:Bool}{tg:Int} (h:tg=lk (!b)\/tg=BC):tg=50\/tg=60\/tg=281474976710655:=by
 rcases h with rfl | rfl
 ·exact lk3 _
 ·exact .inr (.inr rfl)
theorem FrB.mk' {b:Bool}{tg kd:Int}{p:List UInt8} (htg:tg=lk (!b)\/tg=BC) (hk:kd=2048\/kd=2054) (hp:p.length<=500):FrB b (hdB tg (lk b) kd p) tg kd p where
 F:=⟨by rw [hdB_len];lia,by rw [hdB_len];lia,by rw [hdB_g0];exact (n48 (tg3 htg)).2.1,by rw [hdB_g6];exact (n48 (lk3 b)).2.1,by rw [hdB_g12];exact (n16 hk).2,rfl⟩
 tgE:=htg
 n6:=by rw [hdB_t6];exact (n48 (tg3 htg)).1
 n12:=by rw [hdB_t12];exact (n48 (lk3 b)).1
 n14:=by rw [hdB_t14];exact (n16 hk).1
 fst:=by
  refine ⟨_,_,rfl,?_⟩
  have:=(n48 (tg3 htg)).2.2
  rcases this with h | h
  ·exact .inl (Option.some.inj h)
  ·exact .inr (Option.some.inj h)
noncomputable def C57 (Φ:Ph):Prop:=∀ (b:Bool) (hd:List UInt8) (tg kd:Int) (p:List UInt8) σ k,FrB b hd tg kd p->(∀ t,σ.fresh t->k (.ref t) (σ.setT t [.int tg,.int (lk b),.int kd,.bytes p]))->Φ [.bytes (hd++sumO hd)] σ k
theorem b57 (h54:C54 (Φ 54)):C57 (fW rs Φ 1 1 bd57):=by
 intro b hd tg kd p σ k R h
 refine fW_of rfl ?_
 have l0:=R.F.lo
 have l1:=R.F.hi
 have hlen:(hd++sumO hd).length=hd.length+4:=by rw [List.length_append,sumO_len]
 have hb:(hd++sumO hd).length<=big:=by rw [hlen];unfold big;lia
 unfold bd57
 kp_flats
 refine kVar_of rfl ?_
 refine l_bytes hb rfl rfl ?_
 rw [show (some (6:Int))=some ((6:Nat):Int) from rfl,cut_to (by rw [hlen];lia),List.take_append_of_le_length (by lia)]
 refine h54 _ _ _ (by rw [List.length_take];unfold big;lia) ?_
 rw [R.n6]
 refine kVar_of rfl ?_
 refine l_bytes hb rfl rfl ?_
 rw [show (some (6:Int))=some ((6:Nat):Int) from rfl,show (some (12:Int))=some ((12:Nat):Int) from rfl,cut_mid (by rw [hlen];lia) (by lia),List.take_append_of_le_length (by lia)]
 refine h54 _ _ _ (by rw [List.length_drop,List.length_take];unfold big;lia) ?_
 rw [R.n12]
 refine kVar_of rfl ?_
 refine l_bytes hb rfl rfl ?_
 rw [show (some (12:Int))=some ((12:Nat):Int) from rfl,show (some (14:Int))=some ((14:Nat):Int) from rfl,cut_mid (by rw [hlen];lia) (by lia),List.take_append_of_le_length (by lia)]
 refine h54 _ _ _ (by rw [List.length_drop,List.length_take];unfold big;lia) ?_
 rw [R.n14]
 refine kVar_of rfl ?_
 refine l_bytes hb rfl rfl ?_
 rw [cut_body14 (sumO_len hd) l0,R.F.p]
 refine kTup_of (by acc_open) λt ht=>?_
 exact retK_same (h t ht)
noncomputable def isOf (a q:List UInt8):Bool:=(a.take q.length == q)&&(a.drop q.length == List.replicate (a.length - q.length) 0)
noncomputable def C58 (Φ:Ph):Prop:=∀ (a q:List UInt8) σ k,a.length<=1000->q.length<=1000->k (.bool (isOf a q)) σ->Φ [.bytes a,.bytes q] σ k
theorem b58:C58 (fW rs Φ 2 2 bd58):=by
 intro a q σ k ha hq h
 refine fW_of rfl ?_
 have ha':a.length<=big:=by unfold big;lia
 have hq':q.length<=big:=by unfold big;lia
 unfold bd58
 kp_flats
 refine kVar_of rfl (kVar_of rfl ?_)
 refine len_b hq' ?_
 refine l_bytes ha' rfl rfl ?_
 rw [cut_to']
 refine kVar_of rfl ?_
 kp_flats
 unfold isOf at h
 cases hb:(a.take q.length == q)
 ·rw [hb] at h
  refine kAnd_f rfl ?_
  exact retK_same h
 ·rw [hb] at h
  have hl:q.length<=a.length:=by
   have:=congrArg List.length (eq_of_beq hb)
   rw [List.length_take] at this;lia
  refine kAnd_t rfl ?_
  kp_flats
  refine kVar_of rfl (kVar_of rfl ?_)
  refine len_b hq' ?_
  refine l_bytes ha' rfl rfl ?_
  rw [cut_from hl]
  refine kVar_of rfl ?_
  refine len_b ha' ?_
  refine kVar_of rfl ?_
  refine len_b hq' ?_
  refine b_sub ?_
  refine bytes_n (n:=(a.length:Int) - (q.length:Int)) (by lia) (by unfold big;lia) ?_
  kp_flats
  refine retK_same ?_
  rw [show ((a.length:Int) - (q.length:Int)).toNat=a.length - q.length by lia]
  simpa using h
end
section
variable {rs:Nat->List V->St->Prop}{Φ:Phi}
inductive Tg where | fa | se | lo | he | bd | tr | nu | s (b:Bool) | l (b:Bool) | q (b:Bool) | no
noncomputable def Tg.ctorIdx (x:Tg):Nat:=by
 cases x;exact 0;exact 1;exact 2;exact 3;exact 4;exact 5;exact 6;exact 7;exact 8;exact 9;exact 10
theorem Tg.s_ne (b:Bool):Tg.s (!b)≠Tg.s b:=by cases b <;> nofun
theorem Tg.l_ne (b:Bool):Tg.l (!b)≠Tg.l b:=by cases b <;> nofun
theorem Tg.q_ne (b:Bool):Tg.q (!b)≠Tg.q b:=by cases b <;> nofun
theorem tne {α:Type}{o:Nat->α}{a x:Nat}{t u:α} (h1:o a=t) (h2:o x=u) (n:t≠u):a≠x:=λe=>n (by rw [<- h1,<- h2,e])
noncomputable def upB {α:Type} (f:Bool->α) (b:Bool) (x:α):Bool->α:=λc=>if c=b then x else f c
theorem upB_eq {α:Type}{f:Bool->α}{b:Bool}{x:α}:upB f b x b=x:=if_pos rfl
theorem upB_ne {α:Type}{f:Bool->α}{b:Bool}{x:α}:upB f b x (!b)=f (!b):=if_neg (by cases b <;> decide)
theorem allB {P:Bool->Prop} (b:Bool) (h1:P b) (h2:P (!b)):∀ c,P c:=by
 intro c;cases b <;> cases c <;> assumption
structure Ad where
 sc:Nat
 fa:Nat
 se:Nat
 lo:Nat
 he:Nat
 ln:Nat
 ft:Nat
 nu:Nat
 bd:Nat
 tr:Nat
 s:Bool->Nat
 i:Bool->Nat
 arp:Bool->Nat
 tab:Bool->Nat
 en:Bool->Nat
structure Sy where
 oL:Nat->Tg
 oI:Nat->Bool
 l:Bool->Nat
 w:Bool->Int
 made:Bool->Int
 es:Bool->List Ent
 sent:Bool->List (List UInt8)
 lost:Bool->List (List UInt8)
 heard:Bool->Option Int
 trs:List Tr
noncomputable def hv:Option Int->V
 | none=>.none
 | some n=>.int n
noncomputable def scD (A:Ad):List (V×V):=[(.str (Str.ofString "faces"),.ref A.fa),(.str (Str.ofString "line"),.ref A.ln),(.str (Str.ofString "sent"),.ref A.se),(.str (Str.ofString "lost"),.ref A.lo),(.str (Str.ofString "heard"),.ref A.he)]
theorem sc_fa (A:Ad):dget (.str (Str.ofString "faces")) (scD A)=some (.ref A.fa):=by with_unfolding_all rfl
theorem sc_ln (A:Ad):dget (.str (Str.ofString "line")) (scD A)=some (.ref A.ln):=by with_unfolding_all rfl
theorem sc_se (A:Ad):dget (.str (Str.ofString "sent")) (scD A)=some (.ref A.se):=by with_unfolding_all rfl
theorem sc_lo (A:Ad):dget (.str (Str.ofString "lost")) (scD A)=some (.ref A.lo):=by with_unfolding_all rfl
theorem sc_he (A:Ad):dget (.str (Str.ofString "heard")) (scD A)=some (.ref A.he):=by with_unfolding_all rfl
structure SysR (σ:St) (A:Ad) (least:Int) (fates:List Int) (Y:Sy):Prop where
 sc:σ.D A.sc=some (scD A)
 scL:σ.L A.sc=none
 scT:σ.T A.sc=none
 fa:σ.L A.fa=some [.ref (A.i false),.ref (A.i true)]
 se:σ.L A.se=some [.ref (A.s false),.ref (A.s true)]
 lo:σ.L A.lo=some [.ref (Y.l false),.ref (Y.l true)]
 he:σ.L A.he=some [hv (Y.heard false),hv (Y.heard true)]
 s:∀ b,σ.L (A.s b)=some ((Y.sent b).map .bytes)
 l:∀ b,σ.L (Y.l b)=some ((Y.lost b).map .bytes)
 F:∀ b,FcR σ b least (A.i b) (A.arp b) (A.tab b) (A.en b) (Y.w b) (Y.made b) (Y.es b)
 L:LineR σ A.ln A.ft A.nu A.bd A.tr fates Y.trs
 tfa:Y.oL A.fa=.fa
 tse:Y.oL A.se=.se
 tlo:Y.oL A.lo=.lo
 the:Y.oL A.he=.he
 tbd:Y.oL A.bd=.bd
 ttr:Y.oL A.tr=.tr
 tnu:Y.oL A.nu=.nu
 ts:∀ b,Y.oL (A.s b)=.s b
 tl:∀ b,Y.oL (Y.l b)=.l b
 tq:∀ b,∀ t∈Y.es b,Y.oL t.q=.q b
 ti:∀ b,Y.oI (A.i b)=b
 tt:∀ b,Y.oI (A.tab b)=b
 ta:∀ b,∀ t∈Y.es b,Y.oI t.a=b
 ne:∀ b,A.en b≠A.en (!b)
 nsc:∀ b,A.sc≠A.en b
theorem n1 {a x:Nat} (h:a≠x):a ∉ [x]:=by simpa using h
theorem n2 {a x y:Nat} (h:a≠x) (h':a≠y):a ∉ [x,y]:=by simp [h,h']
theorem alive_nL {σ τ:St}{SI SL SD:List Nat} (x:Ext SI SL SD σ τ) {a:Nat}{d} (h:σ.D a=some d) (hL:σ.L a=none):τ.L a=none:=x.nL a (alive_D h) hL
theorem alive_nT {σ τ:St}{SI SL SD:List Nat} (x:Ext SI SL SD σ τ) {a:Nat}{d} (h:σ.D a=some d) (hT:σ.T a=none):τ.T a=none:=x.nT a (alive_D h) hT
theorem SysR.keep {σ τ:St}{A:Ad}{least:Int}{fates:List Int}{Y:Sy} (R:SysR σ A least fates Y) (x:Ext [] [] [] σ τ):SysR τ A least fates Y:=
 { R with
   sc:=x.D _ _ (by acc_open) R.sc,scL:=alive_nL x R.sc R.scL,scT:=alive_nT x R.sc R.scT
   fa:=x.L _ _ (by acc_open) R.fa,se:=x.L _ _ (by acc_open) R.se,lo:=x.L _ _ (by acc_open) R.lo,he:=x.L _ _ (by acc_open) R.he
   s:=λb=>x.L _ _ (by acc_open) (R.s b),l:=λb=>x.L _ _ (by acc_open) (R.l b)
   F:=λb=>(R.F b).ext x (by acc_open) (by acc_open) (by acc_open) (by acc_open) λø ø=>⟨by simp,by simp⟩
   L:=R.L.ext x (by acc_open) (by acc_open) (by acc_open) (by acc_open) (by acc_open) (by acc_open) }
theorem SysR.note {σ:St}{A:Ad}{least:Int}{fates:List Int}{Y:Sy} (R:SysR σ A least fates Y) (b:Bool) (o:List UInt8) :
 SysR (σ.setL (A.s b) ((Y.sent b).map .bytes++[.bytes o])) A least fates { Y with sent:=upB Y.sent b (Y.sent b++[o]) }/\Ext [] [A.s b] [] σ (σ.setL (A.s b) ((Y.sent b).map .bytes++[.bytes o])):=by
 have x:Ext [] [A.s b] [] σ (σ.setL (A.s b) ((Y.sent b).map .bytes++[.bytes o])):=Ext.setL Ext.refl (.inl ⟨.head _,_,R.s b⟩)
 have hb:∀ {a:Nat}{t:Tg},Y.oL a=t->t≠.s b->a ∉ [A.s b]:=λh n=>n1 (tne h (R.ts b) n)
 exact ⟨{ R with
  sc:=x.D _ _ (by acc_open) R.sc,scL:=alive_nL x R.sc R.scL,scT:=alive_nT x R.sc R.scT
  fa:=x.L _ _ (hb R.tfa nofun) R.fa,se:=x.L _ _ (hb R.tse nofun) R.se,lo:=x.L _ _ (hb R.tlo nofun) R.lo,he:=x.L _ _ (hb R.the nofun) R.he
  s:=allB b (by simp only [upB_eq];rw [L_eq];simp) (by simp only [upB_ne];exact x.L _ _ (hb (R.ts _) (Tg.s_ne b)) (R.s _))
  l:=λc=>x.L _ _ (hb (R.tl c) nofun) (R.l c)
  F:=λc=>(R.F c).ext x (by acc_open) (by acc_open) (by acc_open) (by acc_open) λt ht=>⟨by simp,hb (R.tq c t ht) nofun⟩
  L:=R.L.ext x (by acc_open) (by acc_open) (by acc_open) (hb R.tnu nofun) (hb R.tbd nofun) (hb R.ttr nofun) },x⟩
theorem SysR.line {σ τ:St}{A:Ad}{least:Int}{fates:List Int}{Y:Sy}{trs:List Tr} (R:SysR σ A least fates Y) (x:Ext [A.ln,A.ft] [A.bd,A.tr] [] σ τ) (h:LineR τ A.ln A.ft A.nu A.bd A.tr fates trs):SysR τ A least fates { Y with trs:=trs }:=by
 have hb:∀ {a:Nat}{t:Tg},Y.oL a=t->t≠.bd->t≠.tr->a ∉ [A.bd,A.tr]:=λh n m=>n2 (tne h R.tbd n) (tne h R.ttr m)
 obtain ⟨_,_,_,_,hl⟩:=R.L.lnE
 obtain ⟨_,hf,_⟩:=R.L.ftE
 have hi:∀ {a c:Nat}{f},σ.I a=some (c,f)->c≠8->c≠7->a ∉ [A.ln,A.ft]:=λh n m=>n2 (ne_cls h hl n) (ne_cls h hf m)
 exact { R with
  sc:=x.D _ _ (by acc_open) R.sc,scL:=alive_nL x R.sc R.scL,scT:=alive_nT x R.sc R.scT
  fa:=x.L _ _ (hb R.tfa nofun nofun) R.fa,se:=x.L _ _ (hb R.tse nofun nofun) R.se,lo:=x.L _ _ (hb R.tlo nofun nofun) R.lo,he:=x.L _ _ (hb R.the nofun nofun) R.he
  s:=λc=>x.L _ _ (hb (R.ts c) nofun nofun) (R.s c)
  l:=λc=>x.L _ _ (hb (R.tl c) nofun nofun) (R.l c)
  F:=λc=>(R.F c).ext x (hi (R.F c).i (by decide) (by decide)) (hi (R.F c).arp (by decide) (by decide)) (hi (R.F c).T.tab (by decide) (by decide)) (by acc_open) λt ht=>⟨hi ((R.F c).T.ent t ht).i (by decide) (by decide),hb (R.tq c t ht) nofun nofun⟩
  L:=h }
theorem SysR.face {σ τ:St}{A:Ad}{least:Int}{fates:List Int}{Y:Sy}{b:Bool}{w made:Int}{es:List Ent}{SI SL:List Nat} (R:SysR σ A least fates Y) (x:Ext SI SL [A.en b] σ τ)
 (hI:∀ a∈SI,a=A.i b\/a=A.tab b\/∃ t∈Y.es b,a=t.a) (hL:∀ a∈SL,∃ t∈Y.es b,a=t.q) (hq:∀ t∈es,(∃ u∈Y.es b,t.q=u.q)\/σ.fresh t.q) (ha:∀ t∈es,(∃ u∈Y.es b,t.a=u.a)\/σ.fresh t.a)
 (h:FcR τ b least (A.i b) (A.arp b) (A.tab b) (A.en b) w made es) :
 ∃ oL oI,(∀ a,¬ σ.fresh a->oL a=Y.oL a)/\SysR τ A least fates { Y with oL:=oL,oI:=oI,w:=upB Y.w b w,made:=upB Y.made b made,es:=upB Y.es b es }:=by
 classical
 have hb:∀ {a:Nat}{t:Tg},Y.oL a=t->t≠.q b->a ∉ SL:=λh n hm=>by
  obtain ⟨t,ht,rfl⟩:=hL _ hm
  exact n (by rw [<- h,R.tq b t ht])
 have cI:∀ a∈SI,∃ c f,σ.I a=some (c,f)/\(c=2\/c=5\/c=4)/\Y.oI a=b:=λa ha=>by
  rcases hI a ha with rfl | rfl | ⟨t,ht,rfl⟩
  ·exact ⟨_,_,(R.F b).i,.inl rfl,R.ti b⟩
  ·exact ⟨_,_,(R.F b).T.tab,.inr (.inl rfl),R.tt b⟩
  ·exact ⟨_,_,((R.F b).T.ent t ht).i,.inr (.inr rfl),R.ta b t ht⟩
 have hc:∀ {a c:Nat}{f},σ.I a=some (c,f)->c≠2->c≠5->c≠4->a ∉ SI:=λh n m k hm=>by
  obtain ⟨c,f,h',q,_⟩:=cI _ hm
  rw [h] at h';cases h'
  lia
 have ho:∀ {a:Nat},Y.oI a=!b->a ∉ SI:=λh hm=>by
  obtain ⟨_,_,_,_,q⟩:=cI _ hm
  rw [h] at q;cases b <;> cases q
 obtain ⟨_,_,_,_,hl⟩:=R.L.lnE
 obtain ⟨_,hf,_⟩:=R.L.ftE
 obtain ⟨_,_,hbd⟩:=R.L.bdE
 obtain ⟨oL,oL1,oL2⟩:∃ oL:Nat->Tg,(∀ a,¬ σ.fresh a->oL a=Y.oL a)/\(∀ a,σ.fresh a->oL a=.q b):=⟨λx=>if σ.fresh x then .q b else Y.oL x,λa h=>if_neg h,λa h=>if_pos h⟩
 obtain ⟨oI,oI1,oI2⟩:∃ oI:Nat->Bool,(∀ a,¬ σ.fresh a->oI a=Y.oI a)/\(∀ a,σ.fresh a->oI a=b):=⟨λx=>if σ.fresh x then b else Y.oI x,λa h=>if_neg h,λa h=>if_pos h⟩
 have oL':∀ {a:Nat}{t:Tg}{v},σ.L a=some v->Y.oL a=t->oL a=t:=λh q=>by rw [oL1 _ (alive_L h)];exact q
 have oI':∀ {a:Nat}{t:Bool}{v},σ.I a=some v->Y.oI a=t->oI a=t:=λh q=>by rw [oI1 _ (alive_I h)];exact q
 refine ⟨oL,oI,oL1,⟨x.D _ _ (n1 (R.nsc b)) R.sc,alive_nL x R.sc R.scL,alive_nT x R.sc R.scT,
  x.L _ _ (hb R.tfa nofun) R.fa,x.L _ _ (hb R.tse nofun) R.se,x.L _ _ (hb R.tlo nofun) R.lo,x.L _ _ (hb R.the nofun) R.he,
  λc=>x.L _ _ (hb (R.ts c) nofun) (R.s c),λc=>x.L _ _ (hb (R.tl c) nofun) (R.l c),
  allB b (by simp only [upB_eq];exact h) (by
   simp only [upB_ne]
   exact (R.F _).ext x (ho (R.ti _)) (hc (R.F _).arp (by decide) (by decide) (by decide)) (ho (R.tt _)) (n1 (Ne.symm (R.ne b))) λt ht=>⟨ho (R.ta _ t ht),hb (R.tq _ t ht) (Tg.q_ne b)⟩),
  R.L.ext x (hc hl (by decide) (by decide) (by decide)) (hc hf (by decide) (by decide) (by decide)) (λt ht=>hc (R.L.tE t ht) (by decide) (by decide) (by decide)) (hb R.tnu nofun) (hb R.tbd nofun) (hb R.ttr nofun),
  oL' R.fa R.tfa,oL' R.se R.tse,oL' R.lo R.tlo,oL' R.he R.the,oL' hbd R.tbd,oL' R.L.trE R.ttr,oL' R.L.nuE R.tnu,
  λc=>oL' (R.s c) (R.ts c),λc=>oL' (R.l c) (R.tl c),allB b ?_ ?_,λc=>oI' (R.F c).i (R.ti c),λc=>oI' (R.F c).T.tab (R.tt c),allB b ?_ ?_,R.ne,R.nsc⟩⟩
 ·simp only [upB_eq]
  intro t ht
  rcases hq t ht with ⟨u,hu,e⟩ | f
  ·rw [e];exact oL' ((R.F b).T.ent u hu).l (R.tq b u hu)
  ·exact oL2 _ f
 ·simp only [upB_ne]
  intro t ht
  exact oL' ((R.F _).T.ent t ht).l (R.tq _ t ht)
 ·simp only [upB_eq]
  intro t ht
  rcases ha t ht with ⟨u,hu,e⟩ | f
  ·rw [e];exact oI' ((R.F b).T.ent u hu).i (R.ta b u hu)
  ·exact oI2 _ f
 ·simp only [upB_ne]
  intro t ht
  exact oI' ((R.F _).T.ent t ht).i (R.ta _ t ht)
end
section
variable {rs:Nat->List V->St->Prop}{Φ:Phi}
theorem i_ix {σ:St}{a:Nat}{f:Bool->V}{b:Bool}{k:V->Prop} (h:σ.L a=some [f false,f true]) (q:k (f b)):getidx (.ref a) (.int (ix b)) σ k:=by
 obtain ⟨j,j1,j2,j3⟩:=ix_at b (f false) (f true)
 refine i_L h j1 j3 ?_
 cases b
 ·exact q
 ·exact q
section
variable {σ:St}{A:Ad}{least:Int}{fates:List Int}{Y:Sy}{b:Bool}{k:V->Prop}
theorem SysR.x_fa (R:SysR σ A least fates Y) (q:k (.ref A.fa)):getidx (.ref A.sc) (.str (Str.ofString "faces")) σ k:=i_D R.sc R.scL R.scT (sc_fa A) q
theorem SysR.x_ln (R:SysR σ A least fates Y) (q:k (.ref A.ln)):getidx (.ref A.sc) (.str (Str.ofString "line")) σ k:=i_D R.sc R.scL R.scT (sc_ln A) q
theorem SysR.x_se (R:SysR σ A least fates Y) (q:k (.ref A.se)):getidx (.ref A.sc) (.str (Str.ofString "sent")) σ k:=i_D R.sc R.scL R.scT (sc_se A) q
theorem SysR.x_lo (R:SysR σ A least fates Y) (q:k (.ref A.lo)):getidx (.ref A.sc) (.str (Str.ofString "lost")) σ k:=i_D R.sc R.scL R.scT (sc_lo A) q
theorem SysR.x_he (R:SysR σ A least fates Y) (q:k (.ref A.he)):getidx (.ref A.sc) (.str (Str.ofString "heard")) σ k:=i_D R.sc R.scL R.scT (sc_he A) q
theorem SysR.x_i (R:SysR σ A least fates Y) (q:k (.ref (A.i b))):getidx (.ref A.fa) (.int (ix b)) σ k:=i_ix (f:=λb=>.ref (A.i b)) R.fa q
theorem SysR.x_s (R:SysR σ A least fates Y) (q:k (.ref (A.s b))):getidx (.ref A.se) (.int (ix b)) σ k:=i_ix (f:=λb=>.ref (A.s b)) R.se q
theorem SysR.x_l (R:SysR σ A least fates Y) (q:k (.ref (Y.l b))):getidx (.ref A.lo) (.int (ix b)) σ k:=i_ix (f:=λb=>.ref (Y.l b)) R.lo q
theorem SysR.x_h (R:SysR σ A least fates Y) (q:k (hv (Y.heard b))):getidx (.ref A.he) (.int (ix b)) σ k:=i_ix (f:=λb=>hv (Y.heard b)) R.he q
end
noncomputable def bd59b:SL:=(.cons (.ite (.cmp .ne (.idx (.call 57 (.cons (.var 4) .nil)) (.int 1)) (.attr (.idx (.idx (.var 0) (.str "faces")) (.var 1)) 8)) (.cons (.ret .fls) .nil) .nil) (.cons (.expr (.m1 .append (.idx (.idx (.var 0) (.str "sent")) (.var 1)) (.var 4))) (.cons (.expr (.meth (.idx (.var 0) (.str "line")) 63 (.cons (.var 1) (.cons (.var 4) (.cons (.var 3) .nil))))) .nil)))
noncomputable def OkF (b:Bool) (o:List UInt8):Prop:=∃ hd tg kd p,o=hd++sumO hd/\FrB b hd tg kd p
noncomputable def MoreT (b:Bool) (fr:List (List UInt8)) (trs trs':List Tr):Prop:=trs'.length<=trs.length+2 * fr.length/\∀ t∈trs',t∈trs\/(t.en=!b/\∃ o∈fr,t.oct=o\/Sp o t.oct)
structure Lo59 (lo:Lo) (sc:Nat) (b:Bool) (now:Int):Prop where
 len:lo.length=5
 v0:lo[0]?=some (some (.ref sc))
 v1:lo[1]?=some (some (.int (ix b)))
 v3:lo[3]?=some (some (.int now))
theorem Lo59.set {lo:Lo}{sc:Nat}{b:Bool}{now:Int} (h:Lo59 lo sc b now) (v:V):Lo59 (lo.set 4 (some v)) sc b now:=
 ⟨by rw [List.length_set];exact h.len,by rw [List.getElem?_set_ne (by decide)];exact h.v0,by rw [List.getElem?_set_ne (by decide)];exact h.v1,by rw [List.getElem?_set_ne (by decide)];exact h.v3⟩
theorem turn59 (h49:C49 (Φ 49)) (h57:C57 (Φ 57)) {A:Ad}{least:Int}{fates:List Int}{Y:Sy}{b:Bool}{now:Int}{o:List UInt8}{lo:Lo}{σ:St}{K:KL} (R:SysR σ A least fates Y) (l:Lo59 lo A.sc b now) (v4:lo[4]?=some (some (.bytes o))) (ho:OkF b o) (hl:Y.trs.length<90000) (hs:(Y.sent b).length<90000)
 (h:∀ σ' trs',MoreT b [o] Y.trs trs'->Ext [A.ln,A.ft] [A.s b,A.bd,A.tr] [] σ σ'->SysR σ' A least fates { Y with sent:=upB Y.sent b (Y.sent b++[o]),trs:=trs' }->K .nx lo σ'):wpSL (tabsP rs) Φ bd59b lo σ K:=by
 obtain ⟨hd,tg,kd,p,rfl,F⟩:=ho
 have hi:=F.F.hi
 unfold bd59b
 kp_flats
 refine kVar_of v4 ?_
 refine h57 _ _ _ _ _ _ _ F λt ht=>?_
 have x0:Ext [] [] [] σ (σ.setT t [.int tg,.int (lk b),.int kd,.bytes p]):=Ext.setT Ext.refl ht
 have tL:(σ.setT t [.int tg,.int (lk b),.int kd,.bytes p]).L t=none:=ht.2.1
 refine i_T T_eq tL (j:=1) rfl rfl ?_
 have R0:=R.keep x0
 generalize σ.setT t [.int tg,.int (lk b),.int kd,.bytes p]=σ0 at x0 R0 |-
 refine kVar_of l.v0 ?_
 refine R0.x_fa ?_
 refine kVar_of l.v1 ?_
 refine R0.x_i ?_
 refine kAttr_of (R0.F b).i (by with_unfolding_all rfl) ?_
 kp_flats
 refine kIf_f (by acc_open) ?_
 kp_flats
 refine kVar_of l.v0 ?_
 refine R0.x_se ?_
 refine kVar_of l.v1 ?_
 refine R0.x_s ?_
 refine kM1_L (R0.s b) rfl ?_
 kp_flats
 refine kVar_of v4 ?_
 refine x_append (R0.s b) (by rw [List.length_map];unfold big;lia) ?_
 obtain ⟨R1,x1⟩:=R0.note b (hd++sumO hd)
 kp_flats
 generalize σ0.setL (A.s b) ((Y.sent b).map .bytes++[.bytes (hd++sumO hd)])=σ1 at R1 x1 |-
 refine kVar_of l.v0 ?_
 refine R1.x_ln ?_
 obtain ⟨_,_,_,_,hln⟩:=R1.L.lnE
 refine kMeth_of hln rfl rfl ?_
 kp_flats
 refine kVar_of l.v1 (kVar_of v4 (kVar_of l.v3 ?_))
 obtain ⟨u,r,rfl,hu⟩:=F.fst
 rw [List.cons_append]
 refine h49 _ _ _ _ _ _ _ _ _ _ _ _ _ R1.L hl (by simp only [List.length_cons] at hi;rw [List.length_append,sumO_len];lia) λσ2 trs' g x2 R2=>?_
 refine h σ2 trs' ⟨g.len,λt ht=>(g.all t ht).imp id λ⟨e,q⟩=>⟨e,_,.head _,q⟩⟩ (((x0.wide (by acc_open) (by acc_open) (by acc_open)).trans (x1.wide (by acc_open) (λø h=>.inl (by rw [List.mem_singleton.mp h];exact .head _)) (by acc_open))).trans (x2.wide (λø h=>.inl h) (λø h=>.inl (.tail _ h)) (by acc_open))) (R1.line x2 R2)
theorem upB_upB {α:Type}{f:Bool->α}{b:Bool}{x y:α}:upB (upB f b x) b y=upB f b y:=by
 funext c;unfold upB;split <;> rfl
theorem upB_self {α:Type}{f:Bool->α}{b:Bool}:upB f b (f b)=f:=by
 funext c;unfold upB;split
 ·next h=>rw [h]
 ·rfl
theorem MoreT.refl {b:Bool}{trs:List Tr}:MoreT b [] trs trs:=⟨by simp,λø h=>.inl h⟩
theorem MoreT.trans {b:Bool}{f g:List (List UInt8)}{t u v:List Tr} (h:MoreT b f t u) (h':MoreT b g u v):MoreT b (f++g) t v:=by
 refine ⟨?_,λx hx=>?_⟩
 ·have:=h.1;have:=h'.1;rw [List.length_append];lia
 ·rcases h'.2 x hx with hx | ⟨e,o,ho,q⟩
  ·rcases h.2 x hx with hx | ⟨e,o,ho,q⟩
   ·exact .inl hx
   ·exact .inr ⟨e,o,List.mem_append_left _ ho,q⟩
  ·exact .inr ⟨e,o,List.mem_append_right _ ho,q⟩
theorem loop59 (h49:C49 (Φ 49)) (h57:C57 (Φ 57)) {A:Ad}{least:Int}{fates:List Int}{b:Bool}{now:Int}{c:Nat}{all:List V}{K:KL} (hc:c ∉ [A.s b,A.bd,A.tr]):∀ (fr:List (List UInt8)) (Y:Sy) (lo:Lo) (σ:St),SysR σ A least fates Y->σ.L c=some all->Lo59 lo A.sc b now->(∀ o∈fr,OkF b o)->Y.trs.length+2 * fr.length<90000->(Y.sent b).length+fr.length<90000 ->
 (∀ lo' σ' trs',Lo59 lo' A.sc b now->MoreT b fr Y.trs trs'->Ext [A.ln,A.ft] [A.s b,A.bd,A.tr] [] σ σ'->SysR σ' A least fates { Y with sent:=upB Y.sent b (Y.sent b++fr),trs:=trs' }->K .nx lo' σ')->loopW (.one 4) (λτ=>τ.L c=some all) (bodyK (tabsP rs) Φ bd59b) K (fr.map .bytes) lo σ
 | []=>λY lo σ R hL l ø ø ø q=>lw_nil hL (q lo σ Y.trs l MoreT.refl Ext.refl (by rw [List.append_nil,upB_self];exact R))
 | o::fr=>λY lo σ R hL l ho h1 h2 q=>by
   refine lw_one hL ?_
   rw [q_body]
   rw [List.length_cons] at h1 h2
   refine turn59 h49 h57 R (l.set _) (List.getElem?_set_self (by rw [l.len];decide)) (ho o (.head _)) (by lia) (by lia) λσ1 trs1 m x R1=>?_
   rw [q_lknx]
   have m1:=m.1
   refine loop59 h49 h57 hc fr _ _ σ1 R1 (x.L _ _ hc hL) (l.set _) (λo h=>ho o (.tail _ h)) ?_ ?_ λlo' σ' trs' l' m' x' R'=>?_
   ·simp only [List.length_singleton] at m1;show trs1.length+_<_;lia
   ·simp only [upB_eq]
    rw [List.length_append,List.length_singleton];lia
   ·refine q lo' σ' trs' l' (m.trans m') (x.trans x') ?_
    simp only [upB_eq,upB_upB,List.append_assoc,List.singleton_append] at R'
    exact R'
noncomputable def C59 (Φ:Ph):Prop:=∀ (A:Ad) (least:Int) (fates:List Int) (Y:Sy) (b:Bool) (c:Nat) (fr:List (List UInt8)) (now:Int) σ k,SysR σ A least fates Y->σ.L c=some (fr.map .bytes)->c ∉ [A.s b,A.bd,A.tr]->(∀ o∈fr,OkF b o)->Y.trs.length+2 * fr.length<90000->(Y.sent b).length+fr.length<90000 ->
 (∀ σ' trs',MoreT b fr Y.trs trs'->Ext [A.ln,A.ft] [A.s b,A.bd,A.tr] [] σ σ'->SysR σ' A least fates { Y with sent:=upB Y.sent b (Y.sent b++fr),trs:=trs' }->k (.bool true) σ')->Φ [.ref A.sc,.int (ix b),.ref c,.int now] σ k
theorem b59 (h49:C49 (Φ 49)) (h57:C57 (Φ 57)):C59 (fW rs Φ 4 5 bd59):=by
 intro A least fates Y b c fr now σ k R hL hc ho h1 h2 h
 refine fW_of rfl ?_
 unfold bd59
 kp_flats
 refine kVar_of rfl ?_
 refine kObj_L hL ?_
 refine loop59 h49 h57 hc fr Y _ σ R hL ⟨rfl,rfl,rfl,rfl⟩ ho h1 h2 λlo' σ' trs' l' m x R'=>?_
 kp_flats
 exact retK_same (h σ' trs' m x R')
end
section
variable {rs:Nat->List V->St->Prop}{Φ:Phi}
theorem q_eqL {σ:St}{a b:Nat}{xs ys:List V}{k:Bool->Prop} (h:σ.L a=some xs) (h':σ.L b=some ys) (hx:xs.all isB=true) (hy:ys.all isB=true) (q:k (xs == ys)):cmpop .eq (.ref a) (.ref b) σ k:=by
 refine gS_of h (gS_of h' ?_)
 by_cases n:xs.length=ys.length
 ·rw [if_pos n];exact ⟨hx,hy,q⟩
 ·rw [if_neg n];exact (beq_eq_false_iff_ne.mpr λe=>n (congrArg List.length e):(xs == ys)=false) ▸ q
theorem q_neL {σ:St}{a b:Nat}{xs ys:List V}{k:Bool->Prop} (h:σ.L a=some xs) (h':σ.L b=some ys) (hx:xs.all isB=true) (hy:ys.all isB=true) (q:k (!(xs == ys))):cmpop .ne (.ref a) (.ref b) σ k:=by
 refine gS_of h (gS_of h' ?_)
 by_cases n:xs.length=ys.length
 ·rw [if_pos n];exact ⟨hx,hy,q⟩
 ·rw [if_neg n];exact (beq_eq_false_iff_ne.mpr λe=>n (congrArg List.length e):(xs == ys)=false) ▸ q
theorem allB_bytes (l:List (List UInt8)):(l.map V.bytes).all isB=true:=by
 rw [List.all_eq_true];intro x hx;obtain ⟨y,_,rfl⟩:=List.mem_map.mp hx;rfl
theorem among_bytes (o:List UInt8) (l:List (List UInt8)):among (.bytes o) (l.map V.bytes)=true:=by
 unfold among;rw [allB_bytes];simp [isB,isI]
theorem any_bytes (o:List UInt8) (l:List (List UInt8)):((l.map V.bytes).any (· == .bytes o))=decide (o∈l):=by
 rw [Bool.eq_iff_iff,List.any_eq_true]
 simp
structure Keep (A:Ad) (σ τ:St):Prop where
 L:∀ c xs,(∀ b,c≠A.s b)->c ∉ [A.bd,A.tr,A.he,A.lo]->σ.L c=some xs->τ.L c=some xs
 T:∀ a x,σ.T a=some x->τ.T a=some x
 al:∀ a,τ.fresh a->σ.fresh a
theorem Keep.refl {A:Ad}{σ:St}:Keep A σ σ:=⟨λø ø ø ø h=>h,λø ø h=>h,λø h=>h⟩
theorem Keep.trans {A:Ad}{σ τ υ:St} (x:Keep A σ τ) (y:Keep A τ υ):Keep A σ υ:=⟨λc xs h1 h2 h=>y.L c xs h1 h2 (x.L c xs h1 h2 h),λa v h=>y.T a v (x.T a v h),λa h=>x.al a (y.al a h)⟩
theorem Ext.keep {A:Ad}{SI SL SD:List Nat}{σ τ:St} (x:Ext SI SL SD σ τ) (h:∀ a∈SL,(∃ b,a=A.s b)\/a∈[A.bd,A.tr,A.he,A.lo]):Keep A σ τ:=
 ⟨λc xs h1 h2 hc=>x.L c xs (λm=>(h c m).elim (λ⟨b,e⟩=>h1 b e) h2) hc,x.T,x.al⟩
theorem SysR.hear {σ:St}{A:Ad}{least:Int}{fates:List Int}{Y:Sy} (R:SysR σ A least fates Y) (b:Bool) (now:Int) {j:Nat} (hj:seqIndex? (ix b) 2=some j) :
 SysR (σ.setL A.he ([hv (Y.heard false),hv (Y.heard true)].set j (.int now))) A least fates { Y with heard:=upB Y.heard b (some now) }/\Ext [] [A.he] [] σ (σ.setL A.he ([hv (Y.heard false),hv (Y.heard true)].set j (.int now))):=by
 have x:Ext [] [A.he] [] σ (σ.setL A.he ([hv (Y.heard false),hv (Y.heard true)].set j (.int now))):=Ext.setL Ext.refl (.inl ⟨.head _,_,R.he⟩)
 have hb:∀ {a:Nat}{t:Tg},Y.oL a=t->t≠.he->a ∉ [A.he]:=λh n=>n1 (tne h R.the n)
 exact ⟨{ R with
  sc:=x.D _ _ (by acc_open) R.sc,scL:=alive_nL x R.sc R.scL,scT:=alive_nT x R.sc R.scT
  fa:=x.L _ _ (hb R.tfa nofun) R.fa,se:=x.L _ _ (hb R.tse nofun) R.se,lo:=x.L _ _ (hb R.tlo nofun) R.lo
  he:=by
   rw [L_eq]
   cases b
   ·have e:j=0:=by cases hj;rfl
    subst e;rfl
   ·have e:j=1:=by cases hj;rfl
    subst e;rfl
  s:=λc=>x.L _ _ (hb (R.ts c) nofun) (R.s c)
  l:=λc=>x.L _ _ (hb (R.tl c) nofun) (R.l c)
  F:=λc=>(R.F c).ext x (by acc_open) (by acc_open) (by acc_open) (by acc_open) λt ht=>⟨by simp,hb (R.tq c t ht) nofun⟩
  L:=R.L.ext x (by acc_open) (by acc_open) (by acc_open) (hb R.tnu nofun) (hb R.tbd nofun) (hb R.ttr nofun) },x⟩
inductive Came (now:Int) (b:Bool) (o:List UInt8) (least:Int) (Y Y':Sy):Prop
 | spoilt (hd s:List UInt8) (e:o=hd++s) (hs:s.length=4) (h1:14<=hd.length) (h2:hd.length<=600) (hn:sumO hd≠s) (hm:o ∉ Y.sent (!b)) (es:Y'.es=Y.es) (sent:Y'.sent=Y.sent) (lost:Y'.lost=Y.lost) (heard:Y'.heard=Y.heard) (trs:Y'.trs=Y.trs)
 | ip (hd:List UInt8) (tg:Int) (p:List UInt8) (e:o=hd++sumO hd) (F:FrB (!b) hd tg 2048 p) (hm:o∈Y.sent (!b)) (es:Y'.es=Y.es) (sent:Y'.sent=Y.sent) (lost:Y'.lost=Y.lost) (heard:Y'.heard=Y.heard) (trs:MoreT b [] Y.trs Y'.trs)
 | arp (hd:List UInt8) (tg:Int) (p:List UInt8) (op tl tg':Int) (e:o=hd++sumO hd) (F:FrB (!b) hd tg 2054 p) (ha:ArpOk p op (lk (!b)) (ad (!b)) tl tg') (hm:o∈Y.sent (!b)) (σ:St) (es':List Ent) (wt fr:List (List UInt8)) (le:Learn now b (tg' == ad b) σ (Y.es b) es' wt)
  (hf:fr=(ansL b op tg').map (rqB b least)++(wt.map λp=>(lk (!b),p)).map (pyB b least)) (es:Y'.es=upB Y.es b es') (sent:Y'.sent=upB Y.sent b (Y.sent b++fr)) (lost:Y'.lost=Y.lost) (heard:Y'.heard=upB Y.heard b (some ((Y.heard b).getD now))) (trs:MoreT b fr Y.trs Y'.trs)
inductive Comes (b:Bool) (o:List UInt8) (Y:Sy):Prop
 | spoilt (hd s:List UInt8) (e:o=hd++s) (hs:s.length=4) (h1:14<=hd.length) (h2:hd.length<=600) (hn:sumO hd≠s) (hm:o ∉ Y.sent (!b))
 | ip (hd:List UInt8) (tg:Int) (p:List UInt8) (e:o=hd++sumO hd) (F:FrB (!b) hd tg 2048 p) (hm:o∈Y.sent (!b))
 | arp (hd:List UInt8) (tg:Int) (p:List UInt8) (op tl tg':Int) (e:o=hd++sumO hd) (F:FrB (!b) hd tg 2054 p) (ha:ArpOk p op (lk (!b)) (ad (!b)) tl tg') (hm:o∈Y.sent (!b))
noncomputable def C60 (Φ:Ph):Prop:=∀ (A:Ad) (least:Int) (fates:List Int) (Y:Sy) (b:Bool) (o:List UInt8) (now:Int) σ k,SysR σ A least fates Y->least<=400->Comes b o Y->(Y.es b).length<3->(∀ t∈Y.es b,t.que.length<=50/\∀ p∈t.que,p.length<=500)->Y.trs.length<80000->(Y.sent b).length<80000 ->
 (∀ σ' Y',Keep A σ σ'->SysR σ' A least fates Y'->Came now b o least Y Y'->k (.bool true) σ')->Φ [.ref A.sc,.int (ix b),.bytes o,.int now] σ k
theorem Learn.wt_ok {now:Int}{b fm:Bool}{σ:St}{es es':List Ent}{wt:List (List UInt8)} (h:Learn now b fm σ es es' wt) (hq:∀ t∈es,t.que.length<=50/\∀ p∈t.que,p.length<=500):wt.length<=50/\∀ p∈wt,p.length<=500:=by
 cases h with
 | known pre post t q hk hf=>exact hq t (List.mem_append_right _ (.head _))
 | other _ _ _=>exact ⟨by simp,by simp⟩
 | new _ _ _ _ _ _ _ _=>exact ⟨by simp,by simp⟩
theorem Learn.addr {now:Int}{b fm:Bool}{σ:St}{es es':List Ent}{wt:List (List UInt8)} (h:Learn now b fm σ es es' wt):∀ t∈es',((∃ u∈es,t.q=u.q)\/σ.fresh t.q)/\((∃ u∈es,t.a=u.a)\/σ.fresh t.a):=by
 intro t ht
 cases h with
 | known pre post u q hk hf=>
   rcases List.mem_append.mp ht with ht | ht
   ·exact ⟨.inl ⟨t,List.mem_append_left _ ht,rfl⟩,.inl ⟨t,List.mem_append_left _ ht,rfl⟩⟩
   ·rcases List.mem_cons.mp ht with rfl | ht
    ·exact ⟨.inr hf,.inl ⟨u,List.mem_append_right _ (.head _),rfl⟩⟩
    ·exact ⟨.inl ⟨t,List.mem_append_right _ (.tail _ ht),rfl⟩,.inl ⟨t,List.mem_append_right _ (.tail _ ht),rfl⟩⟩
 | other _ _ _=>exact ⟨.inl ⟨t,ht,rfl⟩,.inl ⟨t,ht,rfl⟩⟩
 | new _ e q ord hk hf he hq=>
   rcases List.mem_append.mp ht with ht | ht
   ·exact ⟨.inl ⟨t,ht,rfl⟩,.inl ⟨t,ht,rfl⟩⟩
   ·rw [List.mem_singleton.mp ht];exact ⟨.inr hq,.inr he⟩
theorem ans_ok (b:Bool) (op tg:Int) (least:Int) (hl:least<=400):∀ o∈(ansL b op tg).map (rqB b least),OkF b o:=by
 intro o ho
 obtain ⟨r,hr,rfl⟩:=List.mem_map.mp ho
 unfold ansL at hr
 split at hr
 ·rw [List.mem_singleton.mp hr]
  exact ⟨_,_,_,_,rfl,FrB.mk' (.inl rfl) (.inr rfl) (pad_len (by rw [parp_len];lia) hl)⟩
 ·cases hr
theorem py_ok (b:Bool) (least:Int) (hl:least<=400) (wt:List (List UInt8)) (hw:∀ p∈wt,p.length<=500):∀ o∈(wt.map λp=>(lk (!b),p)).map (pyB b least),OkF b o:=by
 intro o ho
 obtain ⟨r,hr,rfl⟩:=List.mem_map.mp ho
 obtain ⟨p,hp,rfl⟩:=List.mem_map.mp hr
 exact ⟨_,_,_,_,rfl,FrB.mk' (.inl rfl) (.inl rfl) (pad_len (hw p hp) hl)⟩
end
section
variable {rs:Nat->List V->St->Prop}{Φ:Phi}
theorem ix_mem {σ:St}{A:Ad}{least:Int}{fates:List Int}{Y:Sy} (R:SysR σ A least fates Y) (b:Bool) (o:List UInt8) {k:Bool->Prop} (q:k (!decide (o∈Y.sent b))):cmpop .notin (.bytes o) (.ref (A.s b)) σ k:=by
 refine q_ninL (R.s b) (among_bytes _ _) ?_
 rw [any_bytes];exact q
noncomputable def tE:SL:=(.cons (.ret (.call 59 (.cons (.var 0) (.cons (.var 1) (.cons (.var 8) (.cons (.var 3) .nil)))))) .nil)
noncomputable def tD:SL:=(.cons (.ite (.andv (.cmp .eq (.var 11) (.int 2054)) (.cmp .is (.idx (.idx (.var 0) (.str "heard")) (.var 1)) .nil)) (.cons (.setI (.idx (.var 0) (.str "heard")) (.var 1) (.var 3)) .nil) .nil) tE)
noncomputable def tC:SL:=(.cons (.ite (.andv (.cmp .eq (.var 11) (.int 2048)) (.cmp .ne (.var 8) (.list .nil))) (.cons (.ret .fls) .nil) .nil) tD)
noncomputable def tB:SL:=(.cons (.ite (.orv (.cmp .ne (.var 7) (.ite (.var 6) (.list (.cons (.var 12) .nil)) (.list .nil))) (.cmp .ne (.attr (.var 4) 14) (.var 5))) (.cons (.ret .fls) .nil) .nil) tC)
noncomputable def tA:SL:=(.cons (.asg 6 (.andv (.cmp .eq (.var 11) (.int 2048)) (.cmp .isin (.var 9) (.list (.cons (.attr (.var 4) 8) (.cons (.bin .sub (.bin .pow (.int 2) (.int 48)) (.int 1)) .nil)))))) tB)
noncomputable def t9:SL:=(.cons (.asgT [9,10,11,12] (.call 57 (.cons (.var 2) .nil))) tA)
noncomputable def t0:SL:=(.cons (.ite (.cmp .notin (.var 2) (.idx (.idx (.var 0) (.str "sent")) (.bin .sub (.int 1) (.var 1)))) (.cons (.ret (.andv (.cmp .eq (.var 7) (.list .nil)) (.andv (.cmp .eq (.var 8) (.list .nil)) (.cmp .eq (.attr (.var 4) 14) (.bin .add (.var 5) (.int 1)))))) .nil) .nil) t9)
structure Lo60 (lo:Lo) (sc:Nat) (b:Bool) (o:List UInt8) (now:Int) (i:Nat) (w:Int) (l1 l2:Nat):Prop where
 len:lo.length=13
 v0:lo[0]?=some (some (.ref sc))
 v1:lo[1]?=some (some (.int (ix b)))
 v2:lo[2]?=some (some (.bytes o))
 v3:lo[3]?=some (some (.int now))
 v4:lo[4]?=some (some (.ref i))
 v5:lo[5]?=some (some (.int w))
 v7:lo[7]?=some (some (.ref l1))
 v8:lo[8]?=some (some (.ref l2))
theorem gset {lo:Lo}{i j:Nat}{v:Option V}{x} (h:lo[j]?=x) (n:i≠j):(lo.set i v)[j]?=x:=by rw [List.getElem?_set_ne n];exact h
section
variable {sc:Nat}{b:Bool}{o:List UInt8}{now:Int}{i:Nat}{w:Int}{l1 l2:Nat}{lo:Lo}
theorem Lo60.set (l:Lo60 lo sc b o now i w l1 l2) (j:Nat) (v:Option V) (hj:j=6\/9<=j):Lo60 (lo.set j v) sc b o now i w l1 l2:=
 ⟨by rw [List.length_set];exact l.len,gset l.v0 (by lia),gset l.v1 (by lia),gset l.v2 (by lia),gset l.v3 (by lia),gset l.v4 (by lia),gset l.v5 (by lia),gset l.v7 (by lia),gset l.v8 (by lia)⟩
end
structure Lo61 (lo:Lo) (tg kd:Int) (p:List UInt8):Prop where
 v9:lo[9]?=some (some (.int tg))
 v11:lo[11]?=some (some (.int kd))
 v12:lo[12]?=some (some (.bytes p))
theorem parts60 (h57:C57 (Φ 57)) {A:Ad}{b:Bool}{hd:List UInt8}{now:Int}{i:Nat}{w:Int}{l1 l2:Nat}{lo:Lo}{σ:St}{k:KV}{tg kd:Int}{p:List UInt8} (F:FrB (!b) hd tg kd p) (l:Lo60 lo A.sc b (hd++sumO hd) now i w l1 l2)
 (q:∀ lo' σ',Lo60 lo' A.sc b (hd++sumO hd) now i w l1 l2->Lo61 lo' tg kd p->Ext [] [] [] σ σ'->wpSL (tabsP rs) Φ tA lo' σ' (retK k)):wpSL (tabsP rs) Φ t9 lo σ (retK k):=by
 unfold t9
 kp_flats
 refine kVar_of l.v2 ?_
 refine h57 _ _ _ _ _ _ _ F λt2 ht2=>?_
 refine kMany_of T_eq rfl ?_
 refine q _ _ ((((l.set 9 _ (by omega)).set 10 _ (by omega)).set 11 _ (by omega)).set 12 _ (by omega)) ⟨?_,?_,?_⟩ (Ext.setT Ext.refl ht2)
 ·exact gset (gset (gset (List.getElem?_set_self (by rw [l.len];decide)) (by decide)) (by decide)) (by decide)
 ·exact gset (List.getElem?_set_self (by simp [l.len])) (by decide)
 ·exact List.getElem?_set_self (by simp [l.len])
theorem came1 {A:Ad}{least:Int}{fates:List Int}{Y:Sy}{b:Bool}{o:List UInt8}{now:Int}{w:Int}{l1 l2:Nat}{lo:Lo}{σ σ1:St}{k:KV} (R1:SysR σ1 A least fates Y) (l:Lo60 lo A.sc b o now (A.i b) w l1 l2) (hw:Y.w b=w+1) (hm:o ∉ Y.sent (!b)) (hL1:σ1.L l1=some []) (hL2:σ1.L l2=some []) (x:Keep A σ σ1)
 (q:∀ τ,Keep A σ τ->SysR τ A least fates Y->k (.bool true) τ):wpSL (tabsP rs) Φ t0 lo σ1 (retK k):=by
 unfold t0
 kp_flats
 refine kVar_of l.v2 (kVar_of l.v0 ?_)
 refine R1.x_se ?_
 refine kVar_of l.v1 ?_
 refine b_sub ?_
 rw [ix_not]
 refine R1.x_s ?_
 refine ix_mem R1 _ _ (kIf_t (by simpa using hm) ?_)
 kp_flats
 refine kVar_of l.v7 ?_
 refine kList_of (by acc_open) λc1 hc1=>?_
 refine q_eqL (L_ne (fr_L hc1 hL1) hL1) L_eq rfl rfl ?_
 refine kAnd_t rfl ?_
 kp_flats
 refine kVar_of l.v8 ?_
 refine kList_of (by acc_open) λc2 hc2=>?_
 refine q_eqL (L_ne (fr_L (fr_setL hc2) hL2) (L_ne (fr_L hc1 hL2) hL2)) L_eq rfl rfl ?_
 refine kAnd_t rfl ?_
 kp_flats
 refine kVar_of l.v4 ?_
 refine kAttr_of (I_of_L (I_of_L (R1.F b).i)) (by with_unfolding_all rfl) ?_
 refine kVar_of l.v5 ?_
 kp_flats
 have y:Ext [] [] [] σ1 ((σ1.setL c1 []).setL c2 []):=Ext.setL (Ext.setL Ext.refl (.inr hc1)) (.inr (fr_setL hc2))
 rw [hw,beq_self_eq_true]
 exact retK_same (q _ (x.trans (y.keep (by acc_open))) (R1.keep y))
theorem put_keep {A:Ad}{b:Bool}:∀ a∈[A.s b,A.bd,A.tr],(∃ b,a=A.s b)\/a∈[A.bd,A.tr,A.he,A.lo]:=λa ha=>by
 rcases List.mem_cons.mp ha with rfl | ha
 ·exact .inl ⟨b,rfl⟩
 ·exact .inr (by simp at ha |-;lia)
theorem came2 (h57:C57 (Φ 57)) (h59:C59 (Φ 59)) {A:Ad}{least:Int}{fates:List Int}{Y:Sy}{b:Bool}{hd:List UInt8}{now:Int}{l1 l2:Nat}{lo:Lo}{σ σ1:St}{k:KV}{tg:Int}{p:List UInt8} (R1:SysR σ1 A least fates Y) (l:Lo60 lo A.sc b (hd++sumO hd) now (A.i b) (Y.w b) l1 l2) (F:FrB (!b) hd tg 2048 p) (hm:hd++sumO hd∈Y.sent (!b)) (hL1:σ1.L l1=some [.bytes p]) (hL2:σ1.L l2=some [])
 (nl2:l2 ∉ [A.s b,A.bd,A.tr]) (ht:Y.trs.length<80000) (hs:(Y.sent b).length<80000) (x:Keep A σ σ1)
 (q:∀ τ trs',Keep A σ τ->MoreT b [] Y.trs trs'->SysR τ A least fates { Y with trs:=trs' }->k (.bool true) τ):wpSL (tabsP rs) Φ t0 lo σ1 (retK k):=by
 have htg:=F.tgE
 rw [Bool.not_not] at htg
 unfold t0
 kp_flats
 refine kVar_of l.v2 (kVar_of l.v0 ?_)
 refine R1.x_se ?_
 refine kVar_of l.v1 ?_
 refine b_sub ?_
 rw [ix_not]
 refine R1.x_s ?_
 refine ix_mem R1 _ _ (kIf_f (by simpa using hm) ?_)
 rw [q_lnil,q_seqnx]
 refine parts60 h57 F l λlo2 σ2 l2' m2 x2=>?_
 have R2:=R1.keep x2
 have hL1:=x2.L _ _ (by acc_open) hL1
 have hL2:=x2.L _ _ (by acc_open) hL2
 have xx:=x.trans (x2.keep (by acc_open))
 clear x x2 R1 l
 unfold tA
 kp_flats
 refine kVar_of m2.v11 ?_
 kp_flats
 refine kAnd_t rfl ?_
 kp_flats
 refine kVar_of m2.v9 (kVar_of l2'.v4 ?_)
 refine kAttr_of (R2.F b).i (by with_unfolding_all rfl) ?_
 refine b_pow (by decide) (by decide) (by unfold small64;decide) ?_
 refine b_sub ?_
 refine kList_of (by acc_open) λc1 hc1=>?_
 refine q_inL L_eq (by unfold among;simp [isI]) ?_
 have ea:([V.int (lk b),V.int (2 ^ Int.toNat 48 - 1)].any (· == V.int tg))=true:=by
  rcases htg with rfl | rfl
  ·simp
  ·simp [BC]
 rw [ea]
 have x3:Ext [] [] [] σ2 (σ2.setL c1 [.int (lk b),.int (2 ^ Int.toNat 48 - 1)]):=Ext.setL Ext.refl (.inr hc1)
 have R3:=R2.keep x3
 have hL1:=x3.L _ _ (by acc_open) hL1
 have hL2:=x3.L _ _ (by acc_open) hL2
 have xx:=xx.trans (x3.keep (by acc_open))
 generalize σ2.setL c1 [.int (lk b),.int (2 ^ Int.toNat 48 - 1)]=σ3 at x3 R3 hL1 hL2 xx |-
 have l3:=l2'.set 6 (some (.bool true)) (.inl rfl)
 have g6:(lo2.set 6 (some (.bool true)))[6]?=some (some (.bool true)):=List.getElem?_set_self (by rw [l2'.len];decide)
 have g11:(lo2.set 6 (some (.bool true)))[11]?=some (some (.int 2048)):=gset m2.v11 (by decide)
 have g12:(lo2.set 6 (some (.bool true)))[12]?=some (some (.bytes p)):=gset m2.v12 (by decide)
 generalize lo2.set 6 (some (.bool true))=lo3 at l3 g6 g11 g12 |-
 clear x3 R2 l2' m2
 unfold tB
 kp_flats
 refine kVar_of l3.v7 (kVar_of g6 ?_)
 refine kTest_of rfl ?_
 refine kIte_t rfl ?_
 kp_flats
 refine kVar_of g12 ?_
 refine kList_of (by acc_open) λc2 hc2=>?_
 refine q_neL (L_ne (fr_L hc2 hL1) hL1) L_eq rfl rfl ?_
 refine kCOr_f (by acc_open) ?_
 have x4:Ext [] [] [] σ3 (σ3.setL c2 [.bytes p]):=Ext.setL Ext.refl (.inr hc2)
 have R4:=R3.keep x4
 have hL2:=x4.L _ _ (by acc_open) hL2
 have xx:=xx.trans (x4.keep (by acc_open))
 generalize σ3.setL c2 [.bytes p]=σ4 at x4 R4 hL2 xx |-
 kp_flats
 refine kVar_of l3.v4 ?_
 refine kAttr_of (R4.F b).i (by with_unfolding_all rfl) ?_
 refine kVar_of l3.v5 ?_
 kp_flats
 refine kIf_f (by acc_open) ?_
 rw [q_lnil,q_seqnx]
 unfold tC
 kp_flats
 refine kVar_of g11 ?_
 kp_flats
 refine kCAnd_t rfl ?_
 kp_flats
 refine kVar_of l3.v8 ?_
 refine kList_of (by acc_open) λc3 hc3=>?_
 refine q_neL (L_ne (fr_L hc3 hL2) hL2) L_eq rfl rfl ?_
 refine kIf_f rfl ?_
 rw [q_lnil,q_seqnx]
 have x5:Ext [] [] [] σ4 (σ4.setL c3 []):=Ext.setL Ext.refl (.inr hc3)
 have R5:=R4.keep x5
 have hL2:=x5.L _ _ (by acc_open) hL2
 have xx:=xx.trans (x5.keep (by acc_open))
 generalize σ4.setL c3 []=σ5 at x5 R5 hL2 xx |-
 unfold tD
 kp_flats
 refine kVar_of g11 ?_
 kp_flats
 refine kCAnd_f rfl ?_
 refine kIf_f rfl ?_
 rw [q_lnil,q_seqnx]
 unfold tE
 kp_flats
 refine kVar_of l3.v0 (kVar_of l3.v1 (kVar_of l3.v8 (kVar_of l3.v3 ?_)))
 refine h59 A least fates Y b l2 [] now _ _ R5 hL2 nl2 (by acc_open) (by simp;lia) (by simp;lia) λσ6 trs' m y R6=>?_
 rw [List.append_nil,upB_self] at R6
 exact retK_same (q _ _ (xx.trans (y.keep put_keep)) m R6)
theorem came3 (h57:C57 (Φ 57)) (h59:C59 (Φ 59)) {A:Ad}{least:Int}{fates:List Int}{Y:Sy}{b:Bool}{hd:List UInt8}{now:Int}{l1 fr:Nat}{lo:Lo}{σ σ1:St}{k:KV}{tg:Int}{p:List UInt8}{fl:List (List UInt8)} (R1:SysR σ1 A least fates Y) (l:Lo60 lo A.sc b (hd++sumO hd) now (A.i b) (Y.w b) l1 fr) (F:FrB (!b) hd tg 2054 p) (hm:hd++sumO hd∈Y.sent (!b)) (hL1:σ1.L l1=some []) (hL2:σ1.L fr=some (fl.map .bytes))
 (nl2:fr ∉ [A.s b,A.bd,A.tr]) (nhe:fr≠A.he) (okf:∀ o∈fl,OkF b o) (ht:Y.trs.length+2 * fl.length<90000) (hs:(Y.sent b).length+fl.length<90000) (x:Keep A σ σ1)
 (q:∀ τ trs',Keep A σ τ->MoreT b fl Y.trs trs'->SysR τ A least fates { Y with trs:=trs',sent:=upB Y.sent b (Y.sent b++fl),heard:=upB Y.heard b (some ((Y.heard b).getD now)) }->k (.bool true) τ):wpSL (tabsP rs) Φ t0 lo σ1 (retK k):=by
 unfold t0
 kp_flats
 refine kVar_of l.v2 (kVar_of l.v0 ?_)
 refine R1.x_se ?_
 refine kVar_of l.v1 ?_
 refine b_sub ?_
 rw [ix_not]
 refine R1.x_s ?_
 refine ix_mem R1 _ _ (kIf_f (by simpa using hm) ?_)
 rw [q_lnil,q_seqnx]
 refine parts60 h57 F l λlo2 σ2 l2' m2 x2=>?_
 have R2:=R1.keep x2
 have hL1:=x2.L _ _ (by acc_open) hL1
 have hL2:=x2.L _ _ (by acc_open) hL2
 have xx:=x.trans (x2.keep (by acc_open))
 clear x x2 R1 l
 unfold tA
 kp_flats
 refine kVar_of m2.v11 ?_
 kp_flats
 refine kAnd_f rfl ?_
 have l3:=l2'.set 6 (some (.bool false)) (.inl rfl)
 have g6:(lo2.set 6 (some (.bool false)))[6]?=some (some (.bool false)):=List.getElem?_set_self (by rw [l2'.len];decide)
 have g11:(lo2.set 6 (some (.bool false)))[11]?=some (some (.int 2054)):=gset m2.v11 (by decide)
 show wpSL (tabsP rs) Φ tB (lo2.set 6 (some (.bool false))) σ2 (retK k)
 generalize lo2.set 6 (some (.bool false))=lo3 at l3 g6 g11 |-
 clear l2' m2
 unfold tB
 kp_flats
 refine kVar_of l3.v7 (kVar_of g6 ?_)
 refine kTest_of rfl ?_
 refine kIte_f rfl ?_
 kp_flats
 refine kList_of (by acc_open) λc2 hc2=>?_
 refine q_neL (L_ne (fr_L hc2 hL1) hL1) L_eq rfl rfl ?_
 refine kCOr_f (by acc_open) ?_
 have x4:Ext [] [] [] σ2 (σ2.setL c2 []):=Ext.setL Ext.refl (.inr hc2)
 have R4:=R2.keep x4
 have hL2:=x4.L _ _ (by acc_open) hL2
 have xx:=xx.trans (x4.keep (by acc_open))
 generalize σ2.setL c2 []=σ4 at x4 R4 hL2 xx |-
 kp_flats
 refine kVar_of l3.v4 ?_
 refine kAttr_of (R4.F b).i (by with_unfolding_all rfl) ?_
 refine kVar_of l3.v5 ?_
 kp_flats
 refine kIf_f (by acc_open) ?_
 rw [q_lnil,q_seqnx]
 unfold tC
 kp_flats
 refine kVar_of g11 ?_
 kp_flats
 refine kCAnd_f rfl ?_
 refine kIf_f rfl ?_
 rw [q_lnil,q_seqnx]
 have fin:∀ (h':Bool->Option Int) (τ:St),Keep A σ τ->τ.L fr=some (fl.map .bytes)->h'=upB Y.heard b (some ((Y.heard b).getD now))->SysR τ A least fates { Y with heard:=h' }->wpSL (tabsP rs) Φ tE lo3 τ (retK k):=by
  intro h' τ kk hL eh RR
  unfold tE
  kp_flats
  refine kVar_of l3.v0 (kVar_of l3.v1 (kVar_of l3.v8 (kVar_of l3.v3 ?_)))
  refine h59 A least fates _ b fr fl now _ _ RR hL nl2 okf ht hs λσ6 trs' m y R6=>?_
  rw [eh] at R6
  exact retK_same (q _ _ (kk.trans (y.keep put_keep)) m R6)
 unfold tD
 kp_flats
 refine kVar_of g11 ?_
 kp_flats
 refine kCAnd_t rfl ?_
 kp_flats
 refine kVar_of l3.v0 ?_
 refine R4.x_he ?_
 refine kVar_of l3.v1 ?_
 refine R4.x_h ?_
 refine q_is ?_
 cases hh:Y.heard b with
 | none=>
   refine kIf_t rfl ?_
   kp_flats
   refine kVar_of l3.v3 (kVar_of l3.v0 ?_)
   refine R4.x_he ?_
   refine kVar_of l3.v1 ?_
   obtain ⟨j,j1,j2,j3⟩:=ix_at b (V.int 0) (V.int 0)
   refine p_L R4.he (j:=j) j1 ?_
   obtain ⟨R5,x5⟩:=R4.hear b now j1
   refine fin _ _ (xx.trans (x5.keep (by acc_open))) (x5.L _ _ (by simpa using nhe) hL2) ?_ R5
   rw [hh];rfl
 | some n=>
   refine kIf_f rfl ?_
   rw [q_lnil,q_seqnx]
   refine fin Y.heard _ xx hL2 ?_ R4
   rw [hh]
   show Y.heard=upB Y.heard b (some n)
   rw [<- hh,upB_self]
theorem b60 (h40:C40 (Φ 40)) (h57:C57 (Φ 57)) (h59:C59 (Φ 59)):C60 (fW rs Φ 4 13 bd60):=by
 intro A least fates Y b o now σ k R hl hc he hq ht hs h
 refine fW_of rfl ?_
 have e1:bd60=(.cons (.asg 4 (.idx (.idx (.var 0) (.str "faces")) (.var 1))) (.cons (.asg 5 (.attr (.var 4) 14)) (.cons (.asgT [7,8] (.meth (.var 4) 58 (.cons (.var 2) (.cons (.var 3) .nil)))) t0))):=rfl
 rw [e1]
 kp_flats
 refine kVar_of rfl ?_
 refine R.x_fa ?_
 refine kVar_of rfl ?_
 refine R.x_i ?_
 refine kVar_of rfl ?_
 refine kAttr_of (R.F b).i (by with_unfolding_all rfl) ?_
 kp_flats
 refine kVar_of rfl ?_
 refine kMeth_of (R.F b).i rfl rfl ?_
 kp_flats
 refine kVar_of rfl (kVar_of rfl ?_)
 have na:∀ {a c:Nat}{v},σ.fresh c->σ.L a=some v->c≠a:=λf h=>Ne.symm (fr_L f h)
 obtain ⟨_,_,hbd⟩:=R.L.bdE
 refine h40 _ _ _ _ _ _ _ _ _ _ _ _ _ (R.F b) ?_
 cases hc with
 | spoilt hd s e hs4 h1 h2 hn hm=>
   refine .inl ⟨hd,s,e,hs4,h1,h2,hn,λt σ1 l1 l2 x F1 hT hL1 hL2=>?_⟩
   refine kMany_of hT rfl ?_
   obtain ⟨oL,oI,ho,R1⟩:=R.face (b:=b) (x.wide (λø h=>.inl h) (by acc_open) (by acc_open):Ext [A.i b] [] [A.en b] σ σ1) (λa ha=>.inl (by simpa using ha)) (by acc_open) (λt ht=>.inl ⟨t,ht,rfl⟩) (λt ht=>.inl ⟨t,ht,rfl⟩) F1
   rw [upB_self,upB_self] at R1
   kp_flats
   refine came1 R1 (w:=Y.w b) ⟨rfl,rfl,rfl,rfl,rfl,rfl,rfl,rfl,rfl⟩ upB_eq hm hL1 hL2 (x.keep (by acc_open)) λτ kk RR=>?_
   exact h _ _ kk RR (.spoilt hd s e hs4 h1 h2 hn hm rfl rfl rfl rfl rfl)
 | ip hd tg p e F hm=>
   have F0:=F.F
   have htg:=F.tgE
   rw [Bool.not_not] at htg
   refine .inr (.inl ⟨hd,_,p,tg,e,F0,htg,λt σ1 l1 l2 fl2 x hT hL1 hL2=>?_⟩)
   subst e
   refine kMany_of hT rfl ?_
   kp_flats
   refine came2 h57 h59 (R.keep x) ⟨rfl,rfl,rfl,rfl,rfl,rfl,rfl,rfl,rfl⟩ F hm hL1 hL2 (by simp [na fl2 (R.s b),na fl2 hbd,na fl2 R.L.trE]) ht hs (x.keep (by acc_open)) λτ trs' kk m RR=>?_
   exact h _ _ kk RR (.ip hd tg p rfl F hm rfl rfl rfl rfl m)
 | arp hd tg p op tl tg' e F ha hm=>
   have F0:=F.F
   have htg:=F.tgE
   rw [Bool.not_not] at htg
   refine .inr (.inr ⟨hd,_,p,tg,op,tl,tg',e,F0,htg,ha,hl,he,hq,λt σ1 l1 fr es' made' wt ffr le x F1 hT hL1 hL2=>?_⟩)
   obtain ⟨oL,oI,ho,R1⟩:=R.face (b:=b) x (λa ha=>by
    rcases List.mem_cons.mp ha with rfl | ha
    ·exact .inr (.inl rfl)
    ·obtain ⟨u,hu,e⟩:=List.mem_map.mp ha
     exact .inr (.inr ⟨u,hu,e.symm⟩)) (by acc_open) (λt ht=>(le.addr t ht).1) (λt ht=>(le.addr t ht).2) F1
   rw [upB_self] at R1
   have wok:=le.wt_ok hq
   subst e
   refine kMany_of hT rfl ?_
   have lf:((ansL b op tg').map (rqB b least)++(wt.map λp=>(lk (!b),p)).map (pyB b least)).length<=60:=by
    have:(ansL b op tg').length<=1:=by unfold ansL;split <;> simp
    have:=wok.1
    simp only [List.length_append,List.length_map];lia
   have okf:∀ o∈(ansL b op tg').map (rqB b least)++(wt.map λp=>(lk (!b),p)).map (pyB b least),OkF b o:=λo ho=>by
    rcases List.mem_append.mp ho with ho | ho
    ·exact ans_ok b op tg' least hl o ho
    ·exact py_ok b least hl wt wok.2 o ho
   kp_flats
   refine came3 h57 h59 R1 ⟨rfl,rfl,rfl,rfl,rfl,rfl,rfl,rfl,rfl⟩ F hm hL1 hL2 (by simp [na ffr (R.s b),na ffr hbd,na ffr R.L.trE]) (na ffr R.he) okf (by show Y.trs.length+_<_;lia) (by show (Y.sent b).length+_<_;lia) (x.keep (by acc_open)) λτ trs' kk m RR=>?_
   exact h _ _ kk RR (.arp hd tg p op tl tg' rfl F ha hm σ es' wt _ le rfl rfl rfl rfl rfl m)
end
section
inductive Fd where
 | ip (tg:Int) (p:List UInt8)
 | arp (r:Rq)
noncomputable def enc (b:Bool) (least:Int):Fd->List UInt8
 | .ip tg p=>pyB b least (tg,p)
 | .arp r=>rqB b least r
noncomputable def ipO:Fd->Option (Int×List UInt8)
 | .ip tg p=>some (tg,p)
 | .arp _=>none
noncomputable def ips (D:List Fd):List (Int×List UInt8):=D.filterMap ipO
theorem ips_app (D E:List Fd):ips (D++E)=ips D++ips E:=List.filterMap_append ..
theorem ips_arp (rq:List Rq):ips (rq.map .arp)=[]:=by
 unfold ips;rw [List.filterMap_map,List.filterMap_eq_nil_iff];intro _ _;rfl
theorem ips_ip (tg:Int) (ps:List (List UInt8)):ips (ps.map (.ip tg))=ps.map λp=>(tg,p):=by
 unfold ips;induction ps with
 | nil=>rfl
 | cons p ps ih=>rw [List.map_cons,List.filterMap_cons,ih];rfl
inductive FdOk (b:Bool):Fd->Prop
 | ip (tg:Int) (p:List UInt8) (h:tg=lk (!b)\/tg=BC) (hp:p.length<=3):FdOk b (.ip tg p)
 | ask (key:Int) (h:key=ad (!b)\/key=300):FdOk b (.arp (qR b key))
 | ans:FdOk b (.arp ⟨lk (!b),2,lk b,ad b,lk (!b),ad (!b)⟩)
structure Pk where
 A:List (List UInt8)
 B:List (List UInt8)
 C:List (List UInt8)
noncomputable def early:Option Int->Bool
 | some h=>decide (h<=10)
 | none=>false
structure Pend (m:Nat) (t:Ent):Prop where
 link:t.link=.none
 since:t.since=2 * ((m / 2:Nat):Int)
 tries:t.tries=((m / 2:Nat):Int)+1
structure EndI (P:Pk) (b:Bool) (m:Nat) (es:List Ent) (D:List Fd) (lost:List (List UInt8)) (heard:Option Int):Prop where
 keys:∀ t∈es,t.key=ad (!b)\/t.key=300
 peer0:heard=none->m<10->(P.A≠[]->ad (!b)∈es.map (λø=>ø.key))/\∀ t∈es,t.key=ad (!b)->Pend m t/\t.que=P.A
 peer1:heard=none->10<=m->ad (!b) ∉ es.map (λø=>ø.key)
 peer2:∀ h,heard=some h->∀ t∈es,t.key=ad (!b)->t.link≠.none/\0<=t.since/\t.que=[]
 un0:m<10->(P.C≠[]->300∈es.map (λø=>ø.key))/\∀ t∈es,t.key=300->Pend m t/\t.que=P.C
 un1:10<=m->300 ∉ es.map (λø=>ø.key)
 ipsE:ips D=P.B.map (λp=>(BC,p))++if early heard then P.A.map (λp=>(lk (!b),p)) else []
 lost0:m<10->lost=[]
 lost1:10<=m->lost.Perm (P.C++if early heard then [] else P.A)
 hle:∀ h,heard=some h->m<10->h<=10
theorem ad300 (b:Bool):ad b≠300:=by cases b <;> decide +kernel
theorem EndI.init (b:Bool):EndI ⟨[],[],[]⟩ b 0 [] [] [] none where
 keys:=by simp
 peer0:=by simp
 peer1:=by simp
 peer2:=by simp
 un0:=by simp
 un1:=by simp
 ipsE:=by simp [ips,early]
 lost0:=by simp
 lost1:=by simp
 hle:=by simp
theorem EndI.bc {P:Pk}{b:Bool}{es:List Ent}{D:List Fd}{lost:List (List UInt8)} (h:EndI P b 0 es D lost none) (p:List UInt8):EndI { P with B:=P.B++[p] } b 0 es (D++[.ip BC p]) lost none:=
 { h with ipsE:=by rw [ips_app,h.ipsE];simp [ips,ipO,early] }
theorem EndI.arps {P:Pk}{b:Bool}{m:Nat}{es:List Ent}{D:List Fd}{lost:List (List UInt8)}{heard:Option Int} (h:EndI P b m es D lost heard) (rq:List Rq):EndI P b m es (D++rq.map .arp) lost heard:=
 { h with ipsE:=by rw [ips_app,ips_arp,List.append_nil];exact h.ipsE }
theorem pend0 (key:Int) (e:Nat) (ord:Int) (q:Nat) (p:List (List UInt8)):Pend 0 ⟨key,e,ord,.none,0,1,q,p⟩:=⟨rfl,rfl,rfl⟩
theorem not_key {es:List Ent}{key:Int} (h:key ∉ es.map (λø=>ø.key)) {t:Ent} (ht:t∈es):t.key≠key:=λe=>h (List.mem_map.mpr ⟨t,ht,e⟩)
theorem kk_other {pre post:List Ent}{t u:Ent} (kk:((pre++t::post).map (λø=>ø.key)).Nodup) (hu:u∈pre++t::post) (e:u.key=t.key):u=t:=by
 rw [List.map_append,List.map_cons,List.nodup_append] at kk
 obtain ⟨_,k2,k3⟩:=kk
 rw [List.nodup_cons] at k2
 rcases List.mem_append.mp hu with hu | hu
 ·exact absurd e (k3 _ (List.mem_map.mpr ⟨u,hu,rfl⟩) _ (.head _))
 ·rcases List.mem_cons.mp hu with rfl | hu
  ·rfl
  ·exact absurd (List.mem_map.mpr ⟨u,hu,e⟩) k2.1
theorem mem_mod {pre post:List Ent}{t t' u:Ent} (kk:((pre++t::post).map (λø=>ø.key)).Nodup) (hk:t'.key=t.key) (hu:u∈pre++t'::post):u=t'\/(u∈pre++t::post/\u.key≠t.key):=by
 by_cases e:u.key=t.key
 ·rw [List.map_append,List.map_cons,List.nodup_append] at kk
  obtain ⟨_,k2,k3⟩:=kk
  rw [List.nodup_cons] at k2
  rcases List.mem_append.mp hu with hu | hu
  ·exact absurd e (k3 _ (List.mem_map.mpr ⟨u,hu,rfl⟩) _ (.head _))
  ·rcases List.mem_cons.mp hu with rfl | hu
   ·exact .inl rfl
   ·exact absurd (List.mem_map.mpr ⟨u,hu,e⟩) k2.1
 ·right
  refine ⟨?_,e⟩
  rcases List.mem_append.mp hu with hu | hu
  ·exact List.mem_append_left _ hu
  ·rcases List.mem_cons.mp hu with rfl | hu
   ·exact absurd hk e
   ·exact List.mem_append_right _ (.tail _ hu)
theorem keys_mod {pre post:List Ent}{t t':Ent} (hk:t'.key=t.key):(pre++t'::post).map (λø=>ø.key)=(pre++t::post).map (λø=>ø.key):=by simp [hk]
theorem EndI.askA {P:Pk}{b:Bool}{es es':List Ent}{D:List Fd}{lost:List (List UInt8)}{p:List UInt8}{σ:St}{rq:List Rq} (h:EndI P b 0 es D lost none) (kk:(es.map (λø=>ø.key)).Nodup) (a:Ask 0 b (ad (!b)) p σ es es' rq):EndI { P with A:=P.A++[p] } b 0 es' (D++rq.map .arp) lost none:=by
 have h0:=h.peer0 rfl (by decide)
 have u0:=h.un0 (by decide)
 cases a with
 | new _ e q ord hk he hq=>
   have hA:P.A=[]:=Decidable.byContradiction λn=>hk (h0.1 n)
   refine ⟨?_,λø ø=>⟨λø=>by simp,?_⟩,λø c=>absurd c (by decide),λø c=>(by cases c),λø=>⟨λc=>by rw [List.map_append];exact List.mem_append_left _ (u0.1 c),?_⟩,λc=>absurd c (by decide),?_,h.lost0,λc=>absurd c (by decide),λø c=>(by cases c)⟩
   ·intro t ht
    rcases List.mem_append.mp ht with ht | ht
    ·exact h.keys t ht
    ·rw [List.mem_singleton.mp ht];exact .inl rfl
   ·intro t ht ek
    rcases List.mem_append.mp ht with ht | ht
    ·exact absurd ek (not_key hk ht)
    ·rw [List.mem_singleton.mp ht];exact ⟨pend0 _ _ _ _ _,by rw [hA];rfl⟩
   ·intro t ht ek
    rcases List.mem_append.mp ht with ht | ht
    ·exact u0.2 t ht ek
    ·rw [List.mem_singleton.mp ht] at ek;exact absurd ek (ad300 _)
   ·rw [ips_app,ips_arp,List.append_nil];exact h.ipsE
 | more pre post t hk hl=>
   have ht:=h0.2 t (List.mem_append_right _ (.head _)) hk
   refine ⟨?_,λø ø=>⟨λø=>?_,?_⟩,λø c=>absurd c (by decide),λø c=>(by cases c),λø=>⟨λc=>by rw [keys_mod (t:=t) (t':={ t with que:=t.que++[p] }) rfl];exact u0.1 c,?_⟩,λc=>absurd c (by decide),?_,h.lost0,λc=>absurd c (by decide),λø c=>(by cases c)⟩
   ·intro u hu
    rcases mem_mod kk (t':={ t with que:=t.que++[p] }) rfl hu with rfl | ⟨hu,_⟩
    ·exact .inl hk
    ·exact h.keys u hu
   ·rw [keys_mod (t:=t) (t':={ t with que:=t.que++[p] }) rfl,<- hk];simp
   ·intro u hu ek
    rcases mem_mod kk (t':={ t with que:=t.que++[p] }) rfl hu with rfl | ⟨hu,n⟩
    ·exact ⟨⟨ht.1.link,ht.1.since,ht.1.tries⟩,by show t.que++[p]=_;rw [ht.2]⟩
    ·exact absurd (ek.trans hk.symm) n
   ·intro u hu ek
    rcases mem_mod kk (t':={ t with que:=t.que++[p] }) rfl hu with rfl | ⟨hu,n⟩
    ·exact absurd (hk.symm.trans ek) (ad300 _)
    ·exact u0.2 u hu ek
   ·rw [ips_app,ips_arp,List.append_nil];exact h.ipsE
theorem EndI.askC {P:Pk}{b:Bool}{es es':List Ent}{D:List Fd}{lost:List (List UInt8)}{p:List UInt8}{σ:St}{rq:List Rq} (h:EndI P b 0 es D lost none) (kk:(es.map (λø=>ø.key)).Nodup) (a:Ask 0 b 300 p σ es es' rq):EndI { P with C:=P.C++[p] } b 0 es' (D++rq.map .arp) lost none:=by
 have h0:=h.peer0 rfl (by decide)
 have u0:=h.un0 (by decide)
 cases a with
 | new _ e q ord hk he hq=>
   have hC:P.C=[]:=Decidable.byContradiction λn=>hk (u0.1 n)
   refine ⟨?_,λø ø=>⟨λc=>by rw [List.map_append];exact List.mem_append_left _ (h0.1 c),?_⟩,λø c=>absurd c (by decide),λø c=>(by cases c),λø=>⟨λø=>by simp,?_⟩,λc=>absurd c (by decide),?_,h.lost0,λc=>absurd c (by decide),λø c=>(by cases c)⟩
   ·intro t ht
    rcases List.mem_append.mp ht with ht | ht
    ·exact h.keys t ht
    ·rw [List.mem_singleton.mp ht];exact .inr rfl
   ·intro t ht ek
    rcases List.mem_append.mp ht with ht | ht
    ·exact h0.2 t ht ek
    ·rw [List.mem_singleton.mp ht] at ek;exact absurd ek.symm (ad300 _)
   ·intro t ht ek
    rcases List.mem_append.mp ht with ht | ht
    ·exact absurd ek (not_key hk ht)
    ·rw [List.mem_singleton.mp ht];exact ⟨pend0 _ _ _ _ _,by rw [hC];rfl⟩
   ·rw [ips_app,ips_arp,List.append_nil];exact h.ipsE
 | more pre post t hk hl=>
   have ht:=u0.2 t (List.mem_append_right _ (.head _)) hk
   refine ⟨?_,λø ø=>⟨λc=>by rw [keys_mod (t:=t) (t':={ t with que:=t.que++[p] }) rfl];exact h0.1 c,?_⟩,λø c=>absurd c (by decide),λø c=>(by cases c),λø=>⟨λø=>?_,?_⟩,λc=>absurd c (by decide),?_,h.lost0,λc=>absurd c (by decide),λø c=>(by cases c)⟩
   ·intro u hu
    rcases mem_mod kk (t':={ t with que:=t.que++[p] }) rfl hu with rfl | ⟨hu,_⟩
    ·exact .inr hk
    ·exact h.keys u hu
   ·intro u hu ek
    rcases mem_mod kk (t':={ t with que:=t.que++[p] }) rfl hu with rfl | ⟨hu,n⟩
    ·exact absurd (ek.symm.trans hk) (ad300 _)
    ·exact h0.2 u hu ek
   ·rw [keys_mod (t:=t) (t':={ t with que:=t.que++[p] }) rfl,<- hk];simp
   ·intro u hu ek
    rcases mem_mod kk (t':={ t with que:=t.que++[p] }) rfl hu with rfl | ⟨hu,n⟩
    ·exact ⟨⟨ht.1.link,ht.1.since,ht.1.tries⟩,by show t.que++[p]=_;rw [ht.2]⟩
    ·exact absurd (ek.trans hk.symm) n
   ·rw [ips_app,ips_arp,List.append_nil];exact h.ipsE
theorem EndI.learn {P:Pk}{b fm:Bool}{m:Nat}{now:Int}{es es':List Ent}{D:List Fd}{lost wt:List (List UInt8)}{heard:Option Int}{σ:St}{rq:List Rq} (h:EndI P b m es D lost heard) (kk:(es.map (λø=>ø.key)).Nodup) (hn:now=(m:Int)+1) (l:Learn now b fm σ es es' wt) :
 EndI P b m es' (D++rq.map .arp++wt.map (.ip (lk (!b)))) lost (some (heard.getD now)):=by
 have pe:es'.map (λø=>ø.key)=es.map (λø=>ø.key)\/es'.map (λø=>ø.key)=es.map (λø=>ø.key)++[ad (!b)]:=by
  cases l with
  | known pre post t q hk hq=>exact .inl (keys_mod rfl)
  | other _ hk hf=>exact .inl rfl
  | new _ e q ord hk hf he hq=>exact .inr (by simp)
 have m300:(300∈es'.map (λø=>ø.key)) ↔ 300∈es.map (λø=>ø.key):=by
  rcases pe with e | e
  ·rw [e]
  ·rw [e,List.mem_append]
   exact ⟨λq=>q.elim id λq=>absurd (List.mem_singleton.mp q).symm (ad300 _),.inl⟩
 have who:∀ t∈es',(t.key=ad (!b)/\((t.link≠.none/\0<=t.since/\t.que=[])\/(t∈es/\ad (!b) ∉ es.map (λø=>ø.key))))\/(t∈es/\t.key≠ad (!b)):=by
  have n0:(0:Int)<=now:=by omega
  intro t ht
  cases l with
  | known pre post u q hk hq=>
    rcases mem_mod kk (t':={ u with link:=.int (lk (!b)),since:=now,tries:=0,q:=q,que:=[] }) rfl ht with rfl | ⟨ht,n⟩
    ·exact .inl ⟨hk,.inl ⟨nofun,n0,rfl⟩⟩
    ·exact .inr ⟨ht,λe=>n (e.trans hk.symm)⟩
  | other _ hk hf=>exact .inr ⟨ht,not_key hk ht⟩
  | new _ e q ord hk hf he hq=>
    rcases List.mem_append.mp ht with ht | ht
    ·exact .inr ⟨ht,not_key hk ht⟩
    ·rw [List.mem_singleton.mp ht];exact .inl ⟨rfl,.inl ⟨nofun,n0,rfl⟩⟩
 have hw:wt=(if heard=none/\m<10 then P.A else []):=by
  cases l with
  | known pre post u q hk hq=>
    have hu:u∈pre++u::post:=List.mem_append_right _ (.head _)
    cases hh:heard with
    | none=>
      by_cases c:m<10
      ·rw [if_pos ⟨rfl,c⟩];exact ((h.peer0 hh c).2 u hu hk).2
      ·exact absurd (List.mem_map.mpr ⟨u,hu,hk⟩) (h.peer1 hh (by omega))
    | some n=>rw [if_neg (λc=>by cases c.1)];exact (h.peer2 n hh u hu hk).2.2
  | other _ hk hf=>
    split
    ·next c=>exact (Decidable.byContradiction λn=>hk ((h.peer0 c.1 c.2).1 (λe=>n e.symm)))
    ·rfl
  | new _ e q ord hk hf he hq=>
    split
    ·next c=>exact (Decidable.byContradiction λn=>hk ((h.peer0 c.1 c.2).1 (λe=>n e.symm)))
    ·rfl
 have hea:early (some (heard.getD now))=(early heard || (decide (heard=none)&&decide (m<10))):=by
  cases hh:heard with
  | none=>simp only [early,Option.getD_none,Bool.false_or,decide_true,Bool.true_and,decide_eq_decide];omega
  | some n=>simp [early]
 refine ⟨?_,λc=>(by cases c),λc=>(by cases c),?_,λc=>⟨λn=>m300.mpr ((h.un0 c).1 n),?_⟩,λc n=>h.un1 c (m300.mp n),?_,h.lost0,?_,?_⟩
 ·intro t ht
  rcases who t ht with ⟨e,_⟩ | ⟨ht,_⟩
  ·exact .inl e
  ·exact h.keys t ht
 ·intro n hn t ht ek
  rcases who t ht with ⟨_,q | ⟨q,q'⟩⟩ | ⟨_,n⟩
  ·exact q
  ·exact absurd ek (not_key q' q)
  ·exact absurd ek n
 ·intro t ht ek
  rcases who t ht with ⟨e,_⟩ | ⟨ht,_⟩
  ·exact absurd (e.symm.trans ek) (ad300 _)
  ·exact (h.un0 c).2 t ht ek
 ·rw [ips_app,ips_app,ips_arp,List.append_nil,h.ipsE,ips_ip,hw,hea,List.append_assoc]
  congr 1
  cases hh:heard with
  | none=>
    by_cases c:m<10
    ·simp [early,c]
    ·simp [early,c]
  | some n=>simp [early]
 ·intro c
  have e:early (some (heard.getD now))=early heard:=by
   rw [hea]
   have:¬ m<10:=by omega
   simp [this]
  rw [e];exact h.lost1 c
 ·intro n hn' c
  cases hh:heard with
  | none=>rw [hh] at hn';cases hn';show now<=10;omega
  | some u=>rw [hh] at hn';cases hn';exact h.hle _ hh c
end
section
theorem len2 {a:Int}{es:List Ent} (kk:(es.map (λø=>ø.key)).Nodup) (keys:∀ t∈es,t.key=a\/t.key=300):es.length<=2:=by
 rcases es with _ | ⟨t,_ | ⟨u,_ | ⟨v,r⟩⟩⟩
 ·decide
 ·exact Nat.le_succ 1
 ·exact Nat.le_refl 2
 ·exfalso
  simp only [List.map_cons,List.nodup_cons,List.mem_cons,not_or] at kk
  have k1:=keys t (.head _)
  have k2:=keys u (.tail _ (.head _))
  have k3:=keys v (.tail _ (.tail _ (.head _)))
  lia
theorem perm_flat {a:Int} (ha:a≠300) {X C:List (List UInt8)}{f:Ent->List (List UInt8)}{es:List Ent} (kk:(es.map (λø=>ø.key)).Nodup) (keys:∀ t∈es,t.key=a\/t.key=300) (hX:∀ t∈es,t.key=a->f t=X) (hC:∀ t∈es,t.key=300->f t=C) (nX:X≠[]->a∈es.map (λø=>ø.key)) (nC:C≠[]->300∈es.map (λø=>ø.key)):(es.flatMap f).Perm (C++X):=by
 rcases es with _ | ⟨t,_ | ⟨u,_ | ⟨v,r⟩⟩⟩
 ·have e1:X=[]:=Decidable.byContradiction λn=>nomatch nX n
  have e2:C=[]:=Decidable.byContradiction λn=>nomatch nC n
  rw [e1,e2];exact .refl _
 ·rcases keys t (.head _) with k | k
  ·have e2:C=[]:=Decidable.byContradiction λn=>ha (by rw [<- k];exact (List.mem_singleton.mp (nC n)).symm)
   rw [e2];simp [hX t (.head _) k]
  ·have e1:X=[]:=Decidable.byContradiction λn=>ha (by rw [<- k];exact List.mem_singleton.mp (nX n))
   rw [e1];simp [hC t (.head _) k]
 ·have n:t.key≠u.key:=λe=>(List.nodup_cons.mp kk).1 (List.mem_singleton.mpr e)
  rcases keys t (.head _) with k | k
  ·have k':u.key=300:=(keys u (.tail _ (.head _))).elim (λe=>absurd (k.trans e.symm) n) id
   simp [hX t (.head _) k,hC u (.tail _ (.head _)) k']
   exact List.perm_append_comm
  ·have k':u.key=a:=(keys u (.tail _ (.head _))).elim id (λe=>absurd (k.trans e.symm) n)
   simp [hC t (.head _) k,hX u (.tail _ (.head _)) k']
 ·exact absurd (len2 kk keys) (by show ¬ (r.length+1+1+1<=2);lia)
theorem due_known {n:Int}{t:Ent} (h:t.link≠.none):due n t=false:=by
 unfold due
 have:(t.link == V.none)=false:=beq_eq_false_iff_ne.mpr h
 rw [this];rfl
theorem due_pend {m:Nat}{t:Ent} (h:Pend m t):due ((m:Int)+1) t=decide (m % 2=1):=by
 unfold due
 rw [h.link,h.since]
 simp only [beq_self_eq_true,Bool.true_and,decide_eq_decide]
 lia
theorem tick_known {n:Int}{t:Ent} (h:t.link≠.none):tkE n t=some t/\tkG n t=[]:=by
 unfold tkE tkG;rw [due_known h];simp
theorem tick_pend {m:Nat}{t:Ent} (h:Pend m t) (hm:m<9):(∃ u,tkE ((m:Int)+1) t=some u/\Pend (m+1) u)/\tkG ((m:Int)+1) t=[]:=by
 have e:=due_pend h
 have ht:=h.tries
 by_cases c:m % 2=1
 ·have d:due ((m:Int)+1) t=true:=by rw [e];exact decide_eq_true c
  have l:t.tries<5:=by rw [ht];omega
  refine ⟨⟨{ t with tries:=t.tries+1,since:=(m:Int)+1 },by unfold tkE;rw [if_pos d,if_pos l],⟨h.link,?_,?_⟩⟩,?_⟩
  ·show (m:Int)+1=_;omega
  ·show t.tries+1=_;rw [ht];omega
  ·unfold tkG;simp [d,l]
 ·have d:due ((m:Int)+1) t=false:=by rw [e];exact decide_eq_false c
  refine ⟨⟨t,by unfold tkE;rw [d];rfl,⟨h.link,?_,?_⟩⟩,?_⟩
  ·rw [h.since];omega
  ·rw [ht];omega
  ·unfold tkG;simp [d]
theorem tick_last {t:Ent} (h:Pend 9 t):tkE 10 t=none/\tkG 10 t=t.que:=by
 have d:due 10 t=true:=due_pend h
 have l:¬ t.tries<5:=by rw [h.tries];decide
 exact ⟨by unfold tkE;rw [if_pos d,if_neg l],by unfold tkG;simp [d,l]⟩
theorem EndI.tick {P:Pk}{b:Bool}{m:Nat}{n:Int}{es:List Ent}{D:List Fd}{lost:List (List UInt8)}{heard:Option Int} (h:EndI P b m es D lost heard) (kk:(es.map (λø=>ø.key)).Nodup) (hn:n=(m:Int)+1) :
 EndI P b (m+1) (es.filterMap (tkE n)) (D++((es.filterMap (tkA n)).map (qR b)).map .arp) (lost++es.flatMap (tkG n)) heard:=by
 subst hn
 have cl:∀ t∈es,(t.link≠.none/\t.key=ad (!b)/\heard≠none/\0<=t.since/\t.que=[])\/(m<10/\Pend m t/\((t.key=ad (!b)/\heard=none/\t.que=P.A)\/(t.key=300/\t.que=P.C))):=by
  intro t ht
  rcases h.keys t ht with k | k
  ·cases hh:heard with
   | some u=>exact .inl (by obtain ⟨a,c,d⟩:=h.peer2 u hh t ht k;exact ⟨a,k,nofun,c,d⟩)
   | none=>
     by_cases c:m<10
     ·obtain ⟨p,q⟩:=(h.peer0 hh c).2 t ht k
      exact .inr ⟨c,p,.inl ⟨k,rfl,q⟩⟩
     ·exact absurd (List.mem_map.mpr ⟨t,ht,k⟩) (h.peer1 hh (by lia))
  ·by_cases c:m<10
   ·obtain ⟨p,q⟩:=(h.un0 c).2 t ht k
    exact .inr ⟨c,p,.inr ⟨k,q⟩⟩
   ·exact absurd (List.mem_map.mpr ⟨t,ht,k⟩) (h.un1 (by lia))
 have mem:∀ u∈es.filterMap (tkE ((m:Int)+1)),∃ t∈es,tkE ((m:Int)+1) t=some u/\u.key=t.key/\u.que=t.que/\u.link=t.link:=by
  intro u hu
  obtain ⟨t,ht,e⟩:=List.mem_filterMap.mp hu
  have f:=tkE_fields e
  exact ⟨t,ht,e,f.2.1,f.2.2.2.1,f.2.2.2.2.2⟩
 have kept:m≠9->∀ key,key∈es.map (λø=>ø.key)->key∈(es.filterMap (tkE ((m:Int)+1))).map (λø=>ø.key):=by
  intro h9 key hk
  obtain ⟨t,ht,rfl⟩:=List.mem_map.mp hk
  rcases cl t ht with ⟨l,_⟩ | ⟨c,p,_⟩
  ·exact List.mem_map.mpr ⟨t,List.mem_filterMap.mpr ⟨t,ht,(tick_known l).1⟩,rfl⟩
  ·obtain ⟨⟨u,e,_⟩,_⟩:=tick_pend p (by lia)
   exact List.mem_map.mpr ⟨u,List.mem_filterMap.mpr ⟨t,ht,e⟩,(tkE_fields e).2.1⟩
 have sub:∀ key,key∈(es.filterMap (tkE ((m:Int)+1))).map (λø=>ø.key)->key∈es.map (λø=>ø.key):=by
  intro key hk
  obtain ⟨u,hu,rfl⟩:=List.mem_map.mp hk
  obtain ⟨t,ht,_,e,_⟩:=mem u hu
  exact List.mem_map.mpr ⟨t,ht,e.symm⟩
 have noG:m≠9->es.flatMap (tkG ((m:Int)+1))=[]:=by
  intro h9
  rw [List.flatMap_eq_nil_iff]
  intro t ht
  rcases cl t ht with ⟨l,_⟩ | ⟨c,p,_⟩
  ·exact (tick_known l).2
  ·exact (tick_pend p (by lia)).2
 have pendK:m+1<10->∀ u t,t∈es->tkE ((m:Int)+1) t=some u->Pend m t->Pend (m+1) u:=by
  intro c u t ht e p
  obtain ⟨⟨u',e',p'⟩,_⟩:=tick_pend p (by lia)
  rw [e] at e';cases e';exact p'
 have dead:m=9->∀ u t,tkE ((m:Int)+1) t=some u->¬ Pend m t:=by
  rintro rfl u t e p
  have:=(tick_last p).1
  rw [show (((9:Nat):Int)+1)=10 from rfl] at e
  rw [this] at e;cases e
 refine ⟨?_,?_,?_,?_,?_,?_,?_,?_,?_,?_⟩
 ·intro u hu
  obtain ⟨t,ht,_,e,_⟩:=mem u hu
  rw [e];exact h.keys t ht
 ·intro hh c
  refine ⟨λn=>kept (by lia) _ ((h.peer0 hh (by lia)).1 n),λu hu k=>?_⟩
  obtain ⟨t,ht,e,ek,eq,_⟩:=mem u hu
  obtain ⟨p,q⟩:=(h.peer0 hh (by lia)).2 t ht (ek.symm.trans k)
  exact ⟨pendK c u t ht e p,eq.trans q⟩
 ·intro hh c hk
  obtain ⟨u,hu,k⟩:=List.mem_map.mp hk
  obtain ⟨t,ht,e,ek,eq,el⟩:=mem u hu
  rcases cl t ht with ⟨_,_,nh,_⟩ | ⟨c',p,_⟩
  ·exact nh hh
  ·exact dead (by lia) u t e p
 ·intro n hn u hu k
  obtain ⟨t,ht,e,ek,eq,el⟩:=mem u hu
  obtain ⟨q1,q2,q3⟩:=h.peer2 n hn t ht (ek.symm.trans k)
  have:=(tick_known (n:=(m:Int)+1) q1).1
  rw [e] at this;cases this
  exact ⟨q1,q2,q3⟩
 ·intro c
  refine ⟨λn=>kept (by lia) _ ((h.un0 (by lia)).1 n),λu hu k=>?_⟩
  obtain ⟨t,ht,e,ek,eq,_⟩:=mem u hu
  obtain ⟨p,q⟩:=(h.un0 (by lia)).2 t ht (ek.symm.trans k)
  exact ⟨pendK c u t ht e p,eq.trans q⟩
 ·intro c hk
  obtain ⟨u,hu,k⟩:=List.mem_map.mp hk
  obtain ⟨t,ht,e,ek,eq,el⟩:=mem u hu
  have k':t.key=300:=ek.symm.trans k
  rcases cl t ht with ⟨_,k2,_⟩ | ⟨c',p,_⟩
  ·exact ad300 _ (k2.symm.trans k')
  ·exact dead (by lia) u t e p
 ·rw [ips_app,ips_arp,List.append_nil];exact h.ipsE
 ·intro c
  rw [noG (by lia),h.lost0 (by lia)];rfl
 ·intro c
  by_cases h9:m=9
  ·subst h9
   rw [h.lost0 (by decide),List.nil_append]
   have hX:(if early heard=true then [] else P.A)=if heard=none then P.A else []:=by
    cases hh:heard with
    | none=>rfl
    | some n=>have:=h.hle n hh (by decide);simp [early,this]
   rw [hX]
   refine perm_flat (ad300 (!b)) kk h.keys ?_ ?_ ?_ ?_
   ·intro t ht k
    rcases cl t ht with ⟨l,_,nh,_⟩ | ⟨c',p,⟨_,nh,q⟩ | ⟨k',_⟩⟩
    ·rw [if_neg nh];exact (tick_known l).2
    ·rw [if_pos nh];exact (tick_last p).2.trans q
    ·exact absurd (k.symm.trans k') (ad300 _)
   ·intro t ht k
    rcases cl t ht with ⟨_,k',_⟩ | ⟨c',p,⟨k',_⟩ | ⟨_,q⟩⟩
    ·exact absurd (k'.symm.trans k) (ad300 _)
    ·exact absurd (k'.symm.trans k) (ad300 _)
    ·exact (tick_last p).2.trans q
   ·intro n
    by_cases hh:heard=none
    ·rw [if_pos hh] at n;exact (h.peer0 hh (by decide)).1 n
    ·rw [if_neg hh] at n;exact absurd rfl n
   ·exact λn=>(h.un0 (by decide)).1 n
  ·rw [noG h9,List.append_nil];exact h.lost1 (by lia)
 ·intro n hn c
  exact h.hle n hn (by lia)
theorem EndI.fresh {P:Pk}{b:Bool}{m:Nat}{n:Int}{es:List Ent}{D:List Fd}{lost:List (List UInt8)}{heard:Option Int} (h:EndI P b m es D lost heard) (hn:n<=80):∀ t∈es,t.link≠.none->n - t.since<90:=by
 intro t ht l
 rcases h.keys t ht with k | k
 ·cases hh:heard with
  | some u=>have:=(h.peer2 u hh t ht k).2.1;lia
  | none=>
    by_cases c:m<10
    ·exact absurd ((h.peer0 hh c).2 t ht k).1.link l
    ·exact absurd (List.mem_map.mpr ⟨t,ht,k⟩) (h.peer1 hh (by lia))
 ·by_cases c:m<10
  ·exact absurd ((h.un0 c).2 t ht k).1.link l
  ·exact absurd (List.mem_map.mpr ⟨t,ht,k⟩) (h.un1 (by lia))
structure Pk.Ok (P:Pk):Prop where
 len:P.A.length+P.B.length+P.C.length<=2
 p:∀ p,p∈P.A\/p∈P.B\/p∈P.C->p.length<=3
theorem EndI.que {P:Pk}{b:Bool}{m:Nat}{es:List Ent}{D:List Fd}{lost:List (List UInt8)}{heard:Option Int} (h:EndI P b m es D lost heard):∀ t∈es,t.que=P.A\/t.que=P.C\/t.que=[]:=by
 intro t ht
 rcases h.keys t ht with k | k
 ·cases hh:heard with
  | some u=>exact .inr (.inr (h.peer2 u hh t ht k).2.2)
  | none=>
    by_cases c:m<10
    ·exact .inl ((h.peer0 hh c).2 t ht k).2
    ·exact absurd (List.mem_map.mpr ⟨t,ht,k⟩) (h.peer1 hh (by lia))
 ·by_cases c:m<10
  ·exact .inr (.inl ((h.un0 c).2 t ht k).2)
  ·exact absurd (List.mem_map.mpr ⟨t,ht,k⟩) (h.un1 (by lia))
theorem EndI.que_ok {P:Pk}{b:Bool}{m:Nat}{es:List Ent}{D:List Fd}{lost:List (List UInt8)}{heard:Option Int} (h:EndI P b m es D lost heard) (o:P.Ok):∀ t∈es,t.que.length<=2/\∀ p∈t.que,p.length<=3:=by
 intro t ht
 have:=o.len
 rcases h.que t ht with e | e | e
 ·rw [e];exact ⟨by lia,λp hp=>o.p p (.inl hp)⟩
 ·rw [e];exact ⟨by lia,λp hp=>o.p p (.inr (.inr hp))⟩
 ·rw [e];exact ⟨by simp,by simp⟩
noncomputable def wq (es:List Ent):Nat:=(es.flatMap (λø=>ø.que)).length
theorem Learn.wq {now:Int}{b fm:Bool}{σ:St}{es es':List Ent}{wt:List (List UInt8)} (h:Learn now b fm σ es es' wt):wq es'+wt.length=wq es:=by
 cases h with
 | known pre post t q hk hf=>simp [Mine.wq,List.flatMap_append,List.flatMap_cons];lia
 | other _ _ _=>rfl
 | new _ e q ord hk hf he hq=>simp [Mine.wq,List.flatMap_append]
theorem Ask.wq {now:Int}{b:Bool}{key:Int}{p:List UInt8}{σ:St}{es es':List Ent}{rq:List Rq} (h:Ask now b key p σ es es' rq):wq es'=wq es+1:=by
 cases h with
 | new _ e q ord hk he hq=>simp [Mine.wq,List.flatMap_append]
 | more pre post t hk hl=>simp [Mine.wq,List.flatMap_append,List.flatMap_cons];lia
theorem tick_wq (n:Int) (es:List Ent):wq (es.filterMap (tkE n))<=wq es:=by
 induction es with
 | nil=>exact Nat.le_refl _
 | cons t es ih=>
   rw [List.filterMap_cons]
   cases e:tkE n t with
   | none=>simp [wq,List.flatMap_cons] at ih |-;lia
   | some u=>have:=(tkE_fields e).2.2.2.1;simp [wq,List.flatMap_cons,this] at ih |-;lia
end
section
theorem pad_ip {p:List UInt8}{least:Int} (hp:p.length<=3) (hl:least=0\/least=3):(pad p least).length<=500:=pad_len (by lia) (by lia)
theorem pad_arp {op sl s tl t least:Int} (hl:least=0\/least=3):pad (parp op sl s tl t) least=parp op sl s tl t:=by
 unfold pad;rw [if_neg];rw [parp_len];lia
theorem enc_arp {b:Bool}{least:Int}{r:Rq} (hl:least=0\/least=3) (ht:r.tg=lk (!b)\/r.tg=BC):∃ hd,enc b least (.arp r)=hd++sumO hd/\FrB b hd r.tg 2054 (parp r.op r.sl r.s r.tl r.t):=
 ⟨_,rfl,by rw [pad_arp hl];exact FrB.mk' ht (.inr rfl) (by rw [parp_len];lia)⟩
theorem enc_ip {b:Bool}{least tg:Int}{p:List UInt8} (hl:least=0\/least=3) (ht:tg=lk (!b)\/tg=BC) (hp:p.length<=3):∃ hd,enc b least (.ip tg p)=hd++sumO hd/\FrB b hd tg 2048 (pad p least):=
 ⟨_,rfl,FrB.mk' ht (.inl rfl) (pad_ip hp hl)⟩
theorem arpOk_ask (b:Bool) {key:Int} (h:key=ad (!b)\/key=300):ArpOk (parp 1 (lk b) (ad b) 0 key) 1 (lk b) (ad b) 0 key:=by
 rcases h with rfl | rfl
 ·cases b <;> exact ⟨rfl,by decide +kernel,by decide +kernel,by decide +kernel,by decide +kernel,by decide +kernel,.inl rfl,by decide +kernel,by decide +kernel,by decide +kernel,by decide +kernel⟩
 ·cases b <;> exact ⟨rfl,by decide +kernel,by decide +kernel,by decide +kernel,by decide +kernel,by decide +kernel,.inl rfl,by decide +kernel,by decide +kernel,by decide +kernel,by decide +kernel⟩
theorem arpOk_ans (b:Bool):ArpOk (parp 2 (lk b) (ad b) (lk (!b)) (ad (!b))) 2 (lk b) (ad b) (lk (!b)) (ad (!b)):=by
 cases b <;> exact ⟨rfl,by decide +kernel,by decide +kernel,by decide +kernel,by decide +kernel,by decide +kernel,.inr rfl,by decide +kernel,by decide +kernel,by decide +kernel,by decide +kernel⟩
inductive Kind (b:Bool) (o:List UInt8):Prop
 | ip (hd:List UInt8) (tg:Int) (p:List UInt8) (e:o=hd++sumO hd) (F:FrB b hd tg 2048 p)
 | arp (hd:List UInt8) (tg:Int) (p:List UInt8) (op tl tg':Int) (e:o=hd++sumO hd) (F:FrB b hd tg 2054 p) (ha:ArpOk p op (lk b) (ad b) tl tg')
theorem enc_kind {b:Bool}{least:Int}{f:Fd} (hl:least=0\/least=3) (h:FdOk b f):Kind b (enc b least f):=by
 cases h with
 | ip tg p h hp=>
   obtain ⟨hd,e,F⟩:=enc_ip hl h hp
   exact .ip hd tg _ e F
 | ask key h=>
   obtain ⟨hd,e,F⟩:=enc_arp (b:=b) (r:=qR b key) hl (.inr rfl)
   exact .arp hd _ _ 1 0 key e F (arpOk_ask b h)
 | ans=>
   obtain ⟨hd,e,F⟩:=enc_arp (b:=b) (r:=⟨lk (!b),2,lk b,ad b,lk (!b),ad (!b)⟩) hl (.inl rfl)
   exact .arp hd _ _ 2 _ _ e F (arpOk_ans b)
theorem Kind.fst {b:Bool}{o:List UInt8} (h:Kind b o):∃ u r,o=u::r/\(u=0\/u=255):=by
 cases h with
 | ip hd tg p e F=>obtain ⟨u,r,rfl,h⟩:=F.fst;exact ⟨u,_,e,h⟩
 | arp hd tg p op tl tg' e F ha=>obtain ⟨u,r,rfl,h⟩:=F.fst;exact ⟨u,_,e,h⟩
theorem flip_out {u:UInt8}{k:Int} (hu:u=0\/u=255) (h0:0<=k) (h1:k<8):flipU u k≠0/\flipU u k≠255:=by
 have hk:k=0\/k=1\/k=2\/k=3\/k=4\/k=5\/k=6\/k=7:=by lia
 rcases hu with rfl | rfl <;> rcases hk with rfl | rfl | rfl | rfl | rfl | rfl | rfl | rfl <;> decide +kernel
theorem flip_in {u:UInt8}{k:Int} (hu:u=0\/u=255) (h0:0<=k) (h1:k<8):flipU u k≠u:=by
 obtain ⟨a,c⟩:=flip_out hu h0 h1
 rcases hu with rfl | rfl
 ·exact a
 ·exact c
theorem comes_of {b:Bool}{least:Int}{Y:Sy}{D:List Fd}{o:List UInt8} (hl:least=0\/least=3) (hs:Y.sent (!b)=D.map (enc (!b) least)) (ok:∀ f∈D,FdOk (!b) f) (h:∃ f∈D,o=enc (!b) least f\/Sp (enc (!b) least f) o):Comes b o Y:=by
 obtain ⟨f,hf,rfl | ⟨u,r,k,e,rfl,h0,h1⟩⟩:=h
 ·have hm:enc (!b) least f∈Y.sent (!b):=by rw [hs];exact List.mem_map.mpr ⟨f,hf,rfl⟩
  cases enc_kind hl (ok f hf) with
  | ip hd tg p e F=>exact .ip hd tg p e F hm
  | arp hd tg p op tl tg' e F ha=>exact .arp hd tg p op tl tg' e F ha hm
 ·have hm:flipU u k::r ∉ Y.sent (!b):=by
   rw [hs];intro hm
   obtain ⟨g,hg,eg⟩:=List.mem_map.mp hm
   obtain ⟨v,s,e',hv⟩:=(enc_kind hl (ok g hg)).fst
   obtain ⟨v',s',e'',hv'⟩:=(enc_kind hl (ok f hf)).fst
   rw [e] at e'';cases e''
   rw [eg] at e';cases e'
   obtain ⟨a,c⟩:=flip_out hv' h0 h1
   rcases hv with q | q
   ·exact a q
   ·exact c q
  have go:∀ {hd:List UInt8}{tg kd:Int}{p:List UInt8},enc (!b) least f=hd++sumO hd->FrB (!b) hd tg kd p->Comes b (flipU u k::r) Y:=by
   intro hd tg kd p e' F
   obtain ⟨v,s,rfl,hv⟩:=F.fst
   rw [e,List.cons_append] at e'
   obtain ⟨rfl,rfl⟩:=List.cons.inj e'
   refine .spoilt (flipU u k::s) (sumO (u::s)) rfl (sumO_len _) F.F.lo F.F.hi (λq=>?_) hm
   exact flip_in hv h0 h1 (crc_turned (sum_inj q))
  cases enc_kind hl (ok f hf) with
  | ip hd tg p e' F=>exact go e' F
  | arp hd tg p op tl tg' e' F ha=>exact go e' F
structure Inv (least:Int) (P:Bool->Pk) (m:Bool->Nat) (Y:Sy) (D:Bool->List Fd) (N r:Nat):Prop where
 E:∀ b,EndI (P b) b (m b) (Y.es b) (D b) (Y.lost b) (Y.heard b)
 sent:∀ b,Y.sent b=(D b).map (enc b least)
 ok:∀ b,∀ f∈D b,FdOk b f
 T:∀ t∈Y.trs,∃ f∈D (!t.en),t.oct=enc (!t.en) least f\/Sp (enc (!t.en) least f) t.oct
 b1:Y.trs.length+2 * (wq (Y.es false)+wq (Y.es true))+2 * r<=N
 b2:∀ b,(Y.sent b).length+wq (Y.es b)+r<=N
theorem wq_sum (es:Bool->List Ent) (b:Bool):wq (es false)+wq (es true)=wq (es b)+wq (es (!b)):=by cases b <;> simp [Nat.add_comm]
theorem ips_wt (b:Bool) (least:Int) (wt:List (List UInt8)):(wt.map (Fd.ip (lk (!b)))).map (enc b least)=(wt.map λp=>(lk (!b),p)).map (pyB b least):=by
 rw [List.map_map,List.map_map];rfl
theorem arp_rq (b:Bool) (least:Int) (rq:List Rq):(rq.map Fd.arp).map (enc b least)=rq.map (rqB b least):=by
 rw [List.map_map];rfl
theorem T_more {least:Int}{b:Bool}{D D':Bool->List Fd}{fd:List Fd}{trs trs':List Tr} (h:∀ t∈trs,∃ f∈D (!t.en),t.oct=enc (!t.en) least f\/Sp (enc (!t.en) least f) t.oct) (hD:∀ c,∀ f∈D c,f∈D' c) (hf:∀ f∈fd,f∈D' b) (m:MoreT b (fd.map (enc b least)) trs trs'):∀ t∈trs',∃ f∈D' (!t.en),t.oct=enc (!t.en) least f\/Sp (enc (!t.en) least f) t.oct:=by
 intro t ht
 rcases m.2 t ht with ht | ⟨e,o,ho,q⟩
 ·obtain ⟨f,hf,q⟩:=h t ht
  exact ⟨f,hD _ f hf,q⟩
 ·obtain ⟨f,hf',rfl⟩:=List.mem_map.mp ho
  rw [e,Bool.not_not]
  exact ⟨f,hf f hf',q⟩
theorem Learn.wt3 {now:Int}{b fm:Bool}{σ:St}{es es':List Ent}{wt:List (List UInt8)} (h:Learn now b fm σ es es' wt) (hq:∀ t∈es,∀ p∈t.que,p.length<=3):∀ p∈wt,p.length<=3:=by
 cases h with
 | known pre post t q hk hf=>exact hq t (List.mem_append_right _ (.head _))
 | other _ _ _=>simp
 | new _ _ _ _ _ _ _ _=>simp
theorem Inv.came {least:Int}{P:Bool->Pk}{m:Bool->Nat}{Y Y':Sy}{D:Bool->List Fd}{N r:Nat}{b:Bool}{o:List UInt8}{now:Int} (V:Inv least P m Y D N (r+1)) (hP:∀ b,(P b).Ok) (kk:∀ b,((Y.es b).map (λø=>ø.key)).Nodup) (hn:now=(m b:Int)+1) (c:Came now b o least Y Y') :
 ∃ D',(∀ c,∀ f∈D c,f∈D' c)/\Inv least P m Y' D' N r:=by
 have b1:=V.b1
 cases c with
 | spoilt hd s e hs h1 h2 hn hm es sent lost heard trs=>
   refine ⟨D,λø ø h=>h,⟨by rw [es,lost,heard];exact V.E,by rw [sent];exact V.sent,V.ok,by rw [trs];exact V.T,by rw [trs,es];lia,λc=>by rw [sent,es];have:=V.b2 c;lia⟩⟩
 | ip hd tg p e F hm es sent lost heard trs=>
   have t1:=trs.1
   refine ⟨D,λø ø h=>h,⟨by rw [es,lost,heard];exact V.E,by rw [sent];exact V.sent,V.ok,?_,by rw [es];simp at t1;lia,λc=>by rw [sent,es];have:=V.b2 c;lia⟩⟩
   exact T_more (b:=b) (fd:=[]) V.T (λø ø h=>h) (by simp) trs
 | arp hd tg p op tl tg' e F ha hm σ es' wt fr le hf es sent lost heard trs=>
   have hans:(ansL b op tg').length<=1:=by unfold ansL;split <;> simp
   have lw:=le.wq
   have ef:fr=(((ansL b op tg').map Fd.arp)++wt.map (Fd.ip (lk (!b)))).map (enc b least):=by rw [hf,List.map_append,arp_rq,ips_wt]
   have lf:fr.length=(ansL b op tg').length+wt.length:=by rw [hf];simp
   have E':=(V.E b).learn (rq:=ansL b op tg') (kk b) hn le
   rw [List.append_assoc] at E'
   have qo:=(V.E b).que_ok (hP b)
   refine ⟨upB D b (D b++((ansL b op tg').map Fd.arp++wt.map (Fd.ip (lk (!b))))),allB b ?_ ?_,⟨allB b ?_ ?_,allB b ?_ ?_,allB b ?_ ?_,?_,?_,allB b ?_ ?_⟩⟩
   ·intro f hf;rw [upB_eq];exact List.mem_append_left _ hf
   ·intro f hf;rw [upB_ne];exact hf
   ·rw [es,lost,heard];simp only [upB_eq];exact E'
   ·rw [es,lost,heard];simp only [upB_ne];exact V.E _
   ·rw [sent];simp only [upB_eq];rw [V.sent b,ef,List.map_append (l₁:=D b)]
   ·rw [sent];simp only [upB_ne];exact V.sent _
   ·simp only [upB_eq]
    intro f hf
    rcases List.mem_append.mp hf with hf | hf
    ·exact V.ok b f hf
    ·rcases List.mem_append.mp hf with hf | hf
     ·obtain ⟨r,hr,rfl⟩:=List.mem_map.mp hf
      unfold ansL at hr
      split at hr
      ·rw [List.mem_singleton.mp hr];exact .ans
      ·cases hr
     ·obtain ⟨p,hp,rfl⟩:=List.mem_map.mp hf
      refine .ip _ _ (.inl rfl) ?_
      exact le.wt3 (λt ht=>(qo t ht).2) p hp
   ·simp only [upB_ne];exact V.ok _
   ·rw [ef] at trs
    refine T_more (b:=b) V.T (allB b ?_ ?_) ?_ trs
    ·intro f hf;rw [upB_eq];exact List.mem_append_left _ hf
    ·intro f hf;rw [upB_ne];exact hf
    ·intro f hf;rw [upB_eq];exact List.mem_append_right _ hf
   ·have t1:=trs.1
    rw [wq_sum Y'.es b,es]
    rw [wq_sum Y.es b] at b1
    simp only [upB_eq,upB_ne]
    lia
   ·rw [sent,es];simp only [upB_eq,List.length_append]
    have:=V.b2 b;lia
   ·rw [sent,es];simp only [upB_ne]
    have:=V.b2 (!b);lia
end
section
set_option maxHeartbeats 1000000
variable {rs:Nat->List V->St->Prop}{Φ:Phi}
theorem SysR.lose {σ:St}{A:Ad}{least:Int}{fates:List Int}{Y:Sy} (R:SysR σ A least fates Y) (b:Bool) (g:List (List UInt8)) {c j:Nat} (hc:σ.fresh c) (hj:seqIndex? (ix b) 2=some j) :
 ∃ oL,SysR ((σ.setL c ((Y.lost b).map .bytes++g.map .bytes)).setL A.lo ([Mine.V.ref (Y.l false),Mine.V.ref (Y.l true)].set j (.ref c))) A least fates { Y with oL:=oL,l:=upB Y.l b c,lost:=upB Y.lost b (Y.lost b++g) }/\Ext [] [A.lo] [] σ ((σ.setL c ((Y.lost b).map .bytes++g.map .bytes)).setL A.lo ([Mine.V.ref (Y.l false),Mine.V.ref (Y.l true)].set j (.ref c))):=by
 have nlo:A.lo≠c:=fr_L hc R.lo
 have x0:Ext [] [A.lo] [] σ (σ.setL c ((Y.lost b).map .bytes++g.map .bytes)):=Ext.setL Ext.refl (.inr hc)
 have x:Ext [] [A.lo] [] σ ((σ.setL c ((Y.lost b).map .bytes++g.map .bytes)).setL A.lo ([Mine.V.ref (Y.l false),Mine.V.ref (Y.l true)].set j (.ref c))):=Ext.setL x0 (.inl ⟨.head _,_,L_ne nlo R.lo⟩)
 have hb:∀ {a:Nat}{t:Tg},Y.oL a=t->t≠.lo->a ∉ [A.lo]:=λh n=>n1 (tne h R.tlo n)
 have oc:∀ {a:Nat}{t:Tg}{v},σ.L a=some v->Y.oL a=t->(λx=>if x=c then Tg.l b else Y.oL x) a=t:=λh q=>(if_neg (fr_L hc h)).trans q
 obtain ⟨_,_,hbd⟩:=R.L.bdE
 exact ⟨λx=>if x=c then Tg.l b else Y.oL x,⟨{ R with
  sc:=x.D _ _ (by acc_open) R.sc,scL:=alive_nL x R.sc R.scL,scT:=alive_nT x R.sc R.scT
  fa:=x.L _ _ (hb R.tfa nofun) R.fa,se:=x.L _ _ (hb R.tse nofun) R.se,he:=x.L _ _ (hb R.the nofun) R.he
  lo:=by
   rw [L_eq]
   cases b
   ·have e:j=0:=by cases hj;rfl
    subst e;rfl
   ·have e:j=1:=by cases hj;rfl
    subst e;rfl
  s:=λd=>x.L _ _ (hb (R.ts d) nofun) (R.s d)
  l:=allB b (by simp only [upB_eq];rw [L_ne (Ne.symm nlo) L_eq];simp) (by simp only [upB_ne];exact x.L _ _ (hb (R.tl _) nofun) (R.l _))
  F:=λd=>(R.F d).ext x (by acc_open) (by acc_open) (by acc_open) (by acc_open) λt ht=>⟨by simp,hb (R.tq d t ht) nofun⟩
  L:=R.L.ext x (by acc_open) (by acc_open) (by acc_open) (hb R.tnu nofun) (hb R.tbd nofun) (hb R.ttr nofun)
  tfa:=oc R.fa R.tfa,tse:=oc R.se R.tse,tlo:=oc R.lo R.tlo,the:=oc R.he R.the,tbd:=oc hbd R.tbd,ttr:=oc R.L.trE R.ttr,tnu:=oc R.L.nuE R.tnu
  ts:=λd=>oc (R.s d) (R.ts d)
  tl:=allB b (by simp [upB_eq]) (by simp only [upB_ne];exact oc (R.l _) (R.tl _))
  tq:=λd t ht=>oc ((R.F d).T.ent t ht).l (R.tq d t ht) },x⟩⟩
noncomputable def bd61a:SL:=(.cons (.ite (.notv (.call 60 (.cons (.var 0) (.cons (.var 2) (.cons (.var 3) (.cons (.var 1) .nil)))))) (.cons (.ret .fls) .nil) .nil) .nil)
structure LoT (lo:Lo) (sc:Nat) (now:Int):Prop where
 len:lo.length=6
 v0:lo[0]?=some (some (.ref sc))
 v1:lo[1]?=some (some (.int now))
theorem LoT.set {lo:Lo}{sc:Nat}{now:Int} (h:LoT lo sc now) (j:Nat) (v:Option V) (hj:2<=j):LoT (lo.set j v) sc now:=⟨by rw [List.length_set];exact h.len,gset h.v0 (by lia),gset h.v1 (by lia)⟩
set_option tactic.hygienic true in
theorem loop61 (h60:C60 (Φ 60)) {A:Ad}{least:Int}{fates:List Int}{P:Bool->Pk}{m:Nat}{now:Int}{N:Nat}{c:Nat}{all:List V}{K:KL} (hl:least=0\/least=3) (hP:∀ b,(P b).Ok) (hn:now=(m:Int)+1) (hN:N<=60000) (hc:∀ b,c≠A.s b) (hc':c ∉ [A.bd,A.tr,A.he,A.lo]) :
 ∀ (ts:List Tr) (vs:List V) (Y:Sy) (D:Bool->List Fd) (lo:Lo) (σ:St),SysR σ A least fates Y->Inv least P (λø=>m) Y D N ts.length->(∀ t∈ts,∃ f∈D (!t.en),t.oct=enc (!t.en) least f\/Sp (enc (!t.en) least f) t.oct)->ArrR σ vs ts->σ.L c=some all->LoT lo A.sc now ->
 (∀ lo' σ' Y' D',LoT lo' A.sc now->Keep A σ σ'->SysR σ' A least fates Y'->Inv least P (λø=>m) Y' D' N 0->K .nx lo' σ')->loopW (.many [2,3]) (λτ=>τ.L c=some all) (bodyK (tabsP rs) Φ bd61a) K vs lo σ
 | []=>λø Y D lo σ R V ø hv hL l q=>by cases hv;exact lw_nil hL (q lo σ Y D l Keep.refl R V)
 | t::ts=>λø Y D lo σ R V hT hv hL l q=>by
   cases hv
   rename_i a xs h1 h2
   refine lw_many hL h1 rfl ?_
   rw [q_body]
   unfold bd61a
   have l':LoT (bindMany [2,3] [.int (ix t.en),.bytes t.oct] lo) A.sc now:=(l.set 2 _ (by decide)).set 3 _ (by decide)
   have g2:(bindMany [2,3] [.int (ix t.en),.bytes t.oct] lo)[2]?=some (some (.int (ix t.en))):=gset (List.getElem?_set_self (by rw [l.len];decide)) (by decide)
   have g3:(bindMany [2,3] [.int (ix t.en),.bytes t.oct] lo)[3]?=some (some (.bytes t.oct)):=List.getElem?_set_self (by simp [l.len])
   generalize bindMany [2,3] [.int (ix t.en),.bytes t.oct] lo=lo1 at l' g2 g3 |-
   kp_flats
   refine kVar_of l'.v0 (kVar_of g2 (kVar_of g3 (kVar_of l'.v1 ?_)))
   have E:=V.E t.en
   have kk:∀ b,((Y.es b).map (λø=>ø.key)).Nodup:=λb=>(R.F b).T.kk
   have b1:=V.b1
   have b2:=V.b2 t.en
   refine h60 A least fates Y t.en t.oct now _ _ R (by lia) (comes_of hl (V.sent _) (V.ok _) (hT t (.head _))) (by have:=len2 (kk t.en) E.keys;lia) (λu hu=>by
    obtain ⟨x,y⟩:=E.que_ok (hP t.en) u hu
    exact ⟨by lia,λp hp=>by have:=y p hp;lia⟩) (by lia) (by lia) λσ1 Y1 k1 R1 c1=>?_
   kp_flats
   refine kIf_f rfl ?_
   rw [q_lnil,q_seqnx,q_lnil,q_lknx]
   obtain ⟨D1,hD,V1⟩:=V.came (b:=t.en) (r:=ts.length) hP kk hn c1
   refine loop61 h60 hl hP hn hN hc hc' ts _ Y1 D1 lo1 σ1 R1 V1 (λu hu=>?_) (h2.mono k1.T) (k1.L _ _ hc hc' hL) l' λlo' σ' Y' D' l'' k' R' V'=>q lo' σ' Y' D' l'' (k1.trans k') R' V'
   obtain ⟨f,hf,e⟩:=hT u (.tail _ hu)
   exact ⟨f,hD _ f hf,e⟩
theorem gone_len (n:Int) (es:List Ent):(es.flatMap (tkG n)).length<=wq es:=by
 unfold wq
 induction es with
 | nil=>simp
 | cons t es ih=>have:=tkG_len n t;simp only [List.flatMap_cons,List.length_append];lia
theorem wq_le2:∀ {es:List Ent},(∀ t∈es,t.que.length<=2)->wq es<=2 * es.length
 | [],_=>Nat.le_refl _
 | t::es,h=>by
   have e:wq (t::es)=t.que.length+wq es:=List.length_append
   have a:=h t (.head _)
   have b:=wq_le2 λu hu=>h u (.tail _ hu)
   rw [e,List.length_cons];lia
theorem wq_le {es:List Ent} (h:es.length<=2) (hq:∀ t∈es,t.que.length<=2):wq es<=4:=
 Nat.le_trans (wq_le2 hq) (Nat.mul_le_mul (Nat.le_refl 2) h)
noncomputable def bd61b:SL:=(.cons (.asgT [4,5] (.meth (.idx (.idx (.var 0) (.str "faces")) (.var 2)) 59 (.cons (.var 1) .nil))) (.cons (.setI (.idx (.var 0) (.str "lost")) (.var 2) (.bin .add (.idx (.idx (.var 0) (.str "lost")) (.var 2)) (.var 5))) (.cons (.ite (.notv (.call 59 (.cons (.var 0) (.cons (.var 2) (.cons (.var 4) (.cons (.var 1) .nil)))))) (.cons (.ret .fls) .nil) .nil) .nil)))
theorem turn61 (h41:C41 (Φ 41)) (h59:C59 (Φ 59)) {A:Ad}{least:Int}{fates:List Int}{P:Bool->Pk}{m:Bool->Nat}{b:Bool}{now:Int}{N:Nat}{K:KL}{Y:Sy}{D:Bool->List Fd}{lo:Lo}{σ:St} (hl:least=0\/least=3) (hP:∀ b,(P b).Ok) (hn:now=(m b:Int)+1) (hm:m b<=10) (hN:N<=60000) (R:SysR σ A least fates Y) (V:Inv least P m Y D N 0) (l:LoT lo A.sc now) (v2:lo[2]?=some (some (.int (ix b))))
 (q:∀ lo' σ' Y' D',LoT lo' A.sc now->Keep A σ σ'->SysR σ' A least fates Y'->Inv least P (upB m b (m b+1)) Y' D' (N+4) 0->K .nx lo' σ'):wpSL (tabsP rs) Φ bd61b lo σ K:=by
 have E:=V.E b
 have kk:=(R.F b).T.kk
 have l2:=len2 kk E.keys
 have b1:=V.b1
 have b2:=V.b2 b
 have tw:=tick_wq now (Y.es b)
 unfold bd61b
 kp_flats
 refine kVar_of l.v0 ?_
 refine R.x_fa ?_
 refine kVar_of v2 ?_
 refine R.x_i ?_
 refine kMeth_of (R.F b).i rfl rfl ?_
 kp_flats
 refine kVar_of l.v1 ?_
 refine h41 _ _ _ _ _ _ _ _ _ _ _ _ (R.F b) (by lia) (E.fresh (by lia)) (by lia) (by
  have:=wq_le l2 λt ht=>(E.que_ok (hP b) t ht).1
  show wq (Y.es b)<=50;lia) λt σ1 fr gv ff fg x F1 hT hfr hgv=>?_
 obtain ⟨oL,oI,ho,R1⟩:=R.face (b:=b) x (λa ha=>by
  obtain ⟨u,hu,e⟩:=List.mem_map.mp ha
  exact .inr (.inr ⟨u,hu,e.symm⟩)) (by acc_open) (λu hu=>by
  obtain ⟨t,ht,e⟩:=List.mem_filterMap.mp hu
  exact .inl ⟨t,ht,(tkE_fields e).2.2.1⟩) (λu hu=>by
  obtain ⟨t,ht,e⟩:=List.mem_filterMap.mp hu
  exact .inl ⟨t,ht,(tkE_fields e).1⟩) F1
 rw [upB_self,upB_self] at R1
 have na:∀ {a c:Nat}{v},σ.fresh c->σ.L a=some v->c≠a:=λf h=>Ne.symm (fr_L f h)
 obtain ⟨_,_,hbd⟩:=R.L.bdE
 refine kMany_of hT rfl ?_
 have l':LoT (bindMany [4,5] [.ref fr,.ref gv] lo) A.sc now:=(l.set 4 _ (by decide)).set 5 _ (by decide)
 have g2:(bindMany [4,5] [.ref fr,.ref gv] lo)[2]?=some (some (.int (ix b))):=gset (gset v2 (by decide)) (by decide)
 have g4:(bindMany [4,5] [.ref fr,.ref gv] lo)[4]?=some (some (.ref fr)):=gset (List.getElem?_set_self (by rw [l.len];decide)) (by decide)
 have g5:(bindMany [4,5] [.ref fr,.ref gv] lo)[5]?=some (some (.ref gv)):=List.getElem?_set_self (by simp [l.len])
 kp_flats
 generalize bindMany [4,5] [.ref fr,.ref gv] lo=lo1 at l' g2 g4 g5 |-
 refine kVar_of l'.v0 ?_
 refine R1.x_lo ?_
 refine kVar_of g2 ?_
 refine R1.x_l ?_
 refine kVar_of g5 ?_
 have lostB:((Y.lost b).map Mine.V.bytes).length+(((Y.es b).flatMap (tkG now)).map Mine.V.bytes).length<=big:=by
  have e1:(((Y.es b).flatMap (tkG now))).length<=wq (Y.es b):=gone_len _ _
  have ew:=wq_le l2 λt ht=>(E.que_ok (hP b) t ht).1
  have e2:(Y.lost b).length<=10:=by
   by_cases c:m b<10
   ·rw [E.lost0 c];simp
   ·have:=(E.lost1 (by lia)).length_eq
    have pl:=(hP b).len
    rw [this];split <;> simp <;> lia
  rw [List.length_map,List.length_map];unfold big;lia
 refine b_app (R1.l b) hgv lostB λc hc=>?_
 refine kVar_of l'.v0 ?_
 have lo2:(σ1.setL c ((Y.lost b).map .bytes++((Y.es b).flatMap (tkG now)).map .bytes)).L A.lo=some [.ref (Y.l false),.ref (Y.l true)]:=L_ne (fr_L hc R1.lo) R1.lo
 refine i_D (d:=scD A) R1.sc (L_ne (fr_D hc R1.sc) R1.scL) R1.scT (sc_lo A) ?_
 refine kVar_of g2 ?_
 obtain ⟨j,j1,j2,j3⟩:=ix_at b (Mine.V.int 0) (Mine.V.int 0)
 refine p_L lo2 (j:=j) j1 ?_
 obtain ⟨oL2,R2,x2⟩:=R1.lose b ((Y.es b).flatMap (tkG now)) hc j1
 have hfr2:=x2.L _ _ (by simpa using na ff R.lo) hfr
 have kk2:Keep A σ ((σ1.setL c ((Y.lost b).map .bytes++((Y.es b).flatMap (tkG now)).map .bytes)).setL A.lo ([Mine.V.ref (Y.l false),Mine.V.ref (Y.l true)].set j (.ref c))):=(x.keep (by acc_open)).trans (x2.keep (by acc_open))
 kp_flats
 generalize (σ1.setL c ((Y.lost b).map .bytes++((Y.es b).flatMap (tkG now)).map .bytes)).setL A.lo ([Mine.V.ref (Y.l false),Mine.V.ref (Y.l true)].set j (.ref c))=σ2 at R2 hfr2 kk2 |-
 refine kVar_of l'.v0 (kVar_of g2 (kVar_of g4 (kVar_of l'.v1 ?_)))
 have rl:(((Y.es b).filterMap (tkA now)).map (qR b)).length<=2:=by
  rw [List.length_map];exact Nat.le_trans (tkA_all now _) l2
 have rl':((((Y.es b).filterMap (tkA now)).map (qR b)).map (rqB b least)).length<=2:=by rw [List.length_map];exact rl
 have okq:∀ f∈(((Y.es b).filterMap (tkA now)).map (qR b)).map Fd.arp,FdOk b f:=by
  intro f hf
  obtain ⟨r,hr,rfl⟩:=List.mem_map.mp hf
  obtain ⟨key,hk,rfl⟩:=List.mem_map.mp hr
  obtain ⟨t,ht,e⟩:=List.mem_filterMap.mp hk
  unfold tkA at e
  split at e
  ·cases e;exact .ask _ (E.keys t ht)
  ·cases e
 have okf:∀ o∈(((Y.es b).filterMap (tkA now)).map (qR b)).map (rqB b least),OkF b o:=by
  intro o ho
  rw [<- arp_rq] at ho
  obtain ⟨f,hf,rfl⟩:=List.mem_map.mp ho
  cases enc_kind hl (okq f hf) with
  | ip hd tg p e F=>exact ⟨hd,tg,_,p,e,F⟩
  | arp hd tg p op tl tg' e F ha=>exact ⟨hd,tg,_,p,e,F⟩
 refine h59 A least fates _ b fr ((((Y.es b).filterMap (tkA now)).map (qR b)).map (rqB b least)) now _ _ R2 hfr2 (by simp [na ff (R.s b),na ff hbd,na ff R.L.trE]) okf (by show Y.trs.length+_<_;lia) (by show (Y.sent b).length+_<_;lia) λσ3 trs' mt y R3=>?_
 kp_flats
 refine kIf_f rfl ?_
 rw [q_lnil,q_seqnx,q_lnil]
 refine q lo1 σ3 _ (upB D b (D b++(((Y.es b).filterMap (tkA now)).map (qR b)).map .arp)) l' (kk2.trans (y.keep put_keep)) R3 ⟨allB b ?_ ?_,allB b ?_ ?_,allB b ?_ ?_,?_,?_,allB b ?_ ?_⟩
 ·simp only [upB_eq];exact E.tick kk hn
 ·simp only [upB_ne];exact V.E _
 ·simp only [upB_eq];rw [V.sent b,List.map_append,arp_rq]
 ·simp only [upB_ne];exact V.sent _
 ·simp only [upB_eq]
  intro f hf
  exact (List.mem_append.mp hf).elim (V.ok b f) (okq f)
 ·simp only [upB_ne];exact V.ok _
 ·rw [<- arp_rq] at mt
  refine T_more (b:=b) V.T (allB b ?_ ?_) ?_ mt
  ·intro f hf;rw [upB_eq];exact List.mem_append_left _ hf
  ·intro f hf;rw [upB_ne];exact hf
  ·intro f hf;rw [upB_eq];exact List.mem_append_right _ hf
 ·have t1:=mt.1
  rw [wq_sum _ b] at b1 |-
  simp only [upB_eq,upB_ne] at t1 |-
  lia
 ·simp only [upB_eq,List.length_append];lia
 ·simp only [upB_ne]
  have:=V.b2 (!b);lia
noncomputable def C61 (Φ:Ph):Prop:=∀ (A:Ad) (least:Int) (fates:List Int) (P:Bool->Pk) (m:Nat) (Y:Sy) (D:Bool->List Fd) (N:Nat) (now:Int) σ k,SysR σ A least fates Y->(least=0\/least=3)->(∀ b,(P b).Ok)->Inv least P (λø=>m) Y D N 0->now=(m:Int)+1->m<=10->N<=20000 ->
 (∀ σ' Y' D',Keep A σ σ'->SysR σ' A least fates Y'->Inv least P (λø=>m+1) Y' D' (2 * N+8) 0->k (.bool true) σ')->Φ [.ref A.sc,.int now] σ k
theorem upB_both {m:Nat}:upB (upB (λø=>m) false (m+1)) true (m+1)=λø=>m+1:=by funext c;cases c <;> rfl
theorem b61 (h41:C41 (Φ 41)) (h50:C50 (Φ 50)) (h59:C59 (Φ 59)) (h60:C60 (Φ 60)):C61 (fW rs Φ 2 6 bd61):=by
 intro A least fates P m Y D N now σ k R hl hP V hn hm hN h
 refine fW_of rfl ?_
 have b1:=V.b1
 unfold bd61
 kp_flats
 refine kVar_of rfl ?_
 refine R.x_ln ?_
 obtain ⟨_,_,_,_,hln⟩:=R.L.lnE
 refine kMeth_of hln rfl rfl ?_
 kp_flats
 refine kVar_of rfl ?_
 refine h50 _ _ _ _ _ _ _ _ _ _ R.L (by lia) λc σ1 gone rest vs et hc hL hA x L1=>?_
 have R1:=R.line (x.wide (by acc_open) (λø h=>.inl (by rw [List.mem_singleton.mp h];exact .tail _ (.head _))) (by acc_open)) L1
 have na:∀ {a:Nat}{v},σ.L a=some v->c≠a:=λh=>Ne.symm (fr_L hc h)
 obtain ⟨_,_,hbd⟩:=R.L.bdE
 have hcs:∀ b,c≠A.s b:=λb=>na (R.s b)
 have hcf:c ∉ [A.bd,A.tr,A.he,A.lo]:=by simp [na hbd,na R.L.trE,na R.he,na R.lo]
 have k1:Keep A σ σ1:=x.keep (by acc_open)
 have lt:Y.trs.length=gone.length+rest.length:=by rw [et,List.length_append]
 have V1:Inv least P (λø=>m) { Y with trs:=rest } D (2 * N) gone.length:=by
  refine ⟨V.E,V.sent,V.ok,λt ht=>V.T t (by rw [et];exact List.mem_append_right _ ht),?_,λb=>?_⟩
  ·simp only;lia
  ·have:=V.b2 b;simp only;lia
 refine kObj_L hL ?_
 refine loop61 h60 hl hP hn (by lia) hcs hcf gone vs _ D _ σ1 R1 V1 (λt ht=>V.T t (by rw [et];exact List.mem_append_left _ ht)) hA hL ⟨rfl,rfl,rfl⟩ λlo2 σ2 Y2 D2 l2 k2 R2 V2=>?_
 kp_flats
 refine kRng1_of (by decide) (by unfold big;lia) ?_
 refine lw_one True.intro ?_
 rw [q_body]
 refine turn61 (m:=λø=>m) (b:=false) h41 h59 hl hP hn hm (by lia) R2 V2 (l2.set 2 _ (by decide)) (List.getElem?_set_self (by rw [l2.len];decide)) λlo3 σ3 Y3 D3 l3 k3 R3 V3=>?_
 rw [q_lknx]
 refine lw_one True.intro ?_
 rw [q_body]
 refine turn61 (b:=true) h41 h59 hl hP (by rw [show (upB (λø=>m) false (m+1)) true=m from rfl];exact hn) (by rw [show (upB (λø=>m) false (m+1)) true=m from rfl];exact hm) (by lia) R3 V3 (l3.set 2 _ (by decide)) (List.getElem?_set_self (by rw [l3.len];decide)) λlo4 σ4 Y4 D4 l4 k4 R4 V4=>?_
 rw [q_lknx]
 refine lw_nil True.intro ?_
 kp_flats
 rw [show (upB (λø=>m) false (m+1)) true=m from rfl,upB_both] at V4
 exact retK_same (h σ4 Y4 D4 (((k1.trans k2).trans k3).trans k4) R4 V4)
end
section
set_option maxHeartbeats 1000000
variable {rs:Nat->List V->St->Prop}{Φ:Phi}
noncomputable def hit (least:Int) (p:List UInt8):Fd->Bool
 | .ip _ q=>isOf (pad q least) p
 | .arp _=>false
noncomputable def pos (least:Int) (p:List UInt8):Nat->List Fd->List Int
 | _,[]=>[]
 | i,f::D=>if hit least p f then (i:Int)::pos least p (i+1) D else pos least p (i+1) D
theorem pos_cons {least:Int}{p:List UInt8}{i:Nat}{f:Fd}{D:List Fd}:pos least p i (f::D)=if hit least p f then (i:Int)::pos least p (i+1) D else pos least p (i+1) D:=rfl
theorem pos_len (least:Int) (p:List UInt8):∀ (D:List Fd) (i:Nat),(pos least p i D).length<=D.length
 | [],_=>Nat.le_refl _
 | f::D,i=>by rw [pos_cons];have:=pos_len least p D (i+1);split <;> simp <;> lia
noncomputable def bd62a:SL:=(.cons (.ite (.cmp .ne (.var 5) (.var 2)) (.cons (.ret .nil) .nil) .nil) (.cons (.expr (.m1 .append (.var 3) (.var 4))) .nil))
noncomputable def bd62b:SL:=(.cons (.asgT [5,6,7,8] (.call 57 (.cons (.idx (.var 0) (.var 4)) .nil))) (.cons (.ite (.andv (.cmp .eq (.var 7) (.int 2048)) (.call 58 (.cons (.var 8) (.cons (.var 1) .nil)))) bd62a .nil) .nil))
structure Lo62 (lo:Lo) (c f:Nat) (p:List UInt8) (tv:V):Prop where
 len:lo.length=9
 v0:lo[0]?=some (some (.ref c))
 v1:lo[1]?=some (some (.bytes p))
 v2:lo[2]?=some (some tv)
 v3:lo[3]?=some (some (.ref f))
theorem Lo62.set {lo:Lo}{c f:Nat}{p:List UInt8}{tv:V} (h:Lo62 lo c f p tv) (j:Nat) (v:Option V) (hj:4<=j):Lo62 (lo.set j v) c f p tv:=
 ⟨by rw [List.length_set];exact h.len,gset h.v0 (by lia),gset h.v1 (by lia),gset h.v2 (by lia),gset h.v3 (by lia)⟩
theorem turn62 (h57:C57 (Φ 57)) (h58:C58 (Φ 58)) {b:Bool}{least:Int}{p:List UInt8}{tv:V}{c f:Nat}{D:List Fd}{s:Nat}{g:Fd}{acc:List V}{lo:Lo}{σ:St}{K:KL} (hl:least=0\/least=3) (hp:p.length<=3) (l:Lo62 lo c f p tv) (v4:lo[4]?=some (some (.int s))) (hL:σ.L c=some ((D.map (enc b least)).map .bytes)) (hs:D[s]?=some g) (ok:FdOk b g) (ht:∀ tg q,g=.ip tg q->isOf (pad q least) p=true->tv=.int tg) (hF:σ.L f=some acc) (ha:acc.length<90000) (hD:D.length<=90000)
 (q:∀ lo' σ' acc',Lo62 lo' c f p tv->Ext [] [f] [] σ σ'->σ'.L f=some acc'->acc'=acc++(if hit least p g then [V.int s] else [])->K .nx lo' σ'):wpSL (tabsP rs) Φ bd62b lo σ K:=by
 have hlt:s<D.length:=by
  obtain ⟨h,_⟩:=List.getElem?_eq_some_iff.mp hs;exact h
 unfold bd62b
 kp_flats
 refine kVar_of l.v0 (kVar_of v4 ?_)
 refine i_L (j:=s) (u:=.bytes (enc b least g)) hL ?_ ?_ ?_
 ·rw [List.length_map,List.length_map];exact seqIndex_nat (by lia) (by lia)
 ·rw [List.getElem?_map,List.getElem?_map,hs];rfl
 have go:∀ (hd:List UInt8) (tg kd:Int) (pl:List UInt8),enc b least g=hd++sumO hd->FrB b hd tg kd pl->(kd=2048/\(hit least p g=isOf pl p)/\(isOf pl p=true->tv=.int tg)/\pl.length<=500\/kd=2054/\hit least p g=false)->Φ 57 [.bytes (enc b least g)] σ (kMany [5,6,7,8] (λlo σ=>wpSL (tabsP rs) Φ (.cons (.ite (.andv (.cmp .eq (.var 7) (.int 2048)) (.call 58 (.cons (.var 8) (.cons (.var 1) .nil)))) bd62a .nil) .nil) lo σ K) lo):=by
  intro hd tg kd pl e F hk
  rw [e]
  refine h57 _ _ _ _ _ _ _ F λt ht'=>?_
  refine kMany_of T_eq rfl ?_
  have x0:Ext [] [f] [] σ (σ.setT t [.int tg,.int (lk b),.int kd,.bytes pl]):=Ext.setT Ext.refl ht'
  have hF1:(σ.setT t [.int tg,.int (lk b),.int kd,.bytes pl]).L f=some acc:=hF
  generalize σ.setT t [.int tg,.int (lk b),.int kd,.bytes pl]=σ1 at x0 hF1 |-
  have l1:Lo62 (bindMany [5,6,7,8] [.int tg,.int (lk b),.int kd,.bytes pl] lo) c f p tv:=(((l.set 5 _ (by lia)).set 6 _ (by lia)).set 7 _ (by lia)).set 8 _ (by lia)
  have g4:(bindMany [5,6,7,8] [.int tg,.int (lk b),.int kd,.bytes pl] lo)[4]?=some (some (.int s)):=gset (gset (gset (gset v4 (by decide)) (by decide)) (by decide)) (by decide)
  have g5:(bindMany [5,6,7,8] [.int tg,.int (lk b),.int kd,.bytes pl] lo)[5]?=some (some (.int tg)):=gset (gset (gset (List.getElem?_set_self (by rw [l.len];decide)) (by decide)) (by decide)) (by decide)
  have g7:(bindMany [5,6,7,8] [.int tg,.int (lk b),.int kd,.bytes pl] lo)[7]?=some (some (.int kd)):=gset (List.getElem?_set_self (by simp [l.len])) (by decide)
  have g8:(bindMany [5,6,7,8] [.int tg,.int (lk b),.int kd,.bytes pl] lo)[8]?=some (some (.bytes pl)):=List.getElem?_set_self (by simp [l.len])
  generalize bindMany [5,6,7,8] [.int tg,.int (lk b),.int kd,.bytes pl] lo=lo1 at l1 g4 g5 g7 g8 |-
  kp_flats
  refine kVar_of g7 ?_
  kp_flats
  rcases hk with ⟨rfl,hh,htv,hpl⟩ | ⟨rfl,hh⟩
  ·refine kCAnd_t rfl ?_
   kp_flats
   refine kVar_of g8 (kVar_of l1.v1 ?_)
   refine h58 _ _ _ _ (by lia) (by lia) ?_
   kp_flats
   cases hi:isOf pl p
   ·refine kIf_f rfl ?_
    rw [q_lnil,q_seqnx,q_lnil]
    exact q lo1 σ1 acc l1 x0 hF1 (by rw [hh,hi];simp)
   ·refine kIf_t rfl ?_
    unfold bd62a
    kp_flats
    refine kVar_of g5 ?_
    have e2:=htv hi
    refine kVar_of l1.v2 ?_
    rw [e2]
    kp_flats
    refine kIf_f (by acc_open) ?_
    kp_flats
    refine kVar_of l1.v3 ?_
    refine kM1_L hF1 rfl ?_
    kp_flats
    refine kVar_of g4 ?_
    refine x_append hF1 (by unfold big;lia) ?_
    exact q lo1 _ _ l1 (Ext.setL x0 (.inl ⟨.head _,_,hF1⟩)) L_eq (by rw [hh,hi];simp)
  ·refine kCAnd_f rfl (kIf_f rfl ?_)
   rw [q_lnil,q_seqnx,q_lnil]
   exact q lo1 σ1 acc l1 x0 hF1 (by rw [hh];simp)
 cases ok with
 | ip tg u h hp'=>
   obtain ⟨hd,e,F⟩:=enc_ip hl h hp'
   exact go hd tg 2048 _ e F (.inl ⟨rfl,rfl,λhi=>ht tg u rfl hi,pad_ip hp' hl⟩)
 | ask key h=>
   obtain ⟨hd,e,F⟩:=enc_arp (b:=b) (r:=qR b key) hl (.inr rfl)
   exact go hd _ _ _ e F (.inr ⟨rfl,rfl⟩)
 | ans=>
   obtain ⟨hd,e,F⟩:=enc_arp (b:=b) (r:=⟨lk (!b),2,lk b,ad b,lk (!b),ad (!b)⟩) hl (.inl rfl)
   exact go hd _ _ _ e F (.inr ⟨rfl,rfl⟩)
theorem loop62 (h57:C57 (Φ 57)) (h58:C58 (Φ 58)) {b:Bool}{least:Int}{p:List UInt8}{tv:V}{c f:Nat}{D:List Fd}{K:KL} (hl:least=0\/least=3) (hp:p.length<=3) (hcf:c≠f) (ok:∀ g∈D,FdOk b g) (ht:∀ tg q,Fd.ip tg q∈D->isOf (pad q least) p=true->tv=.int tg) (hD:D.length<=80000) :
 ∀ (E:List Fd) (s:Nat) (acc:List V) (lo:Lo) (σ:St),D.drop s=E->s+E.length=D.length->Lo62 lo c f p tv->σ.L c=some ((D.map (enc b least)).map .bytes)->σ.L f=some acc->acc.length<=s ->
 (∀ lo' σ',Lo62 lo' c f p tv->Ext [] [f] [] σ σ'->σ'.L f=some (acc++(pos least p s E).map .int)->K .nx lo' σ')->loopW (.one 4) (λø=>True) (bodyK (tabsP rs) Φ bd62b) K ((List.range' s E.length).map λ(j:Nat)=>V.int (0+(j:Int))) lo σ
 | []=>λs acc lo σ ø ø l ø hF ø q=>lw_nil True.intro (q lo σ l Ext.refl (by simpa [pos] using hF))
 | g::E=>λs acc lo σ hd hlen l hL hF ha q=>by
   rw [List.length_cons] at hlen
   rw [List.length_cons,List.range'_succ,List.map_cons]
   have hs:D[s]?=some g:=by
    have:=congrArg (·[0]?) hd
    simpa using this
   have hmem:g∈D:=List.mem_of_getElem? hs
   refine lw_one True.intro ?_
   rw [q_body]
   rw [Int.zero_add]
   refine turn62 h57 h58 hl hp (l.set 4 _ (by decide)) (List.getElem?_set_self (by rw [l.len];decide)) hL hs (ok g hmem) (λtg u e hi=>ht tg u (e ▸ hmem) hi) hF (by lia) (by lia) λlo1 σ1 acc1 l1 x1 hF1 e1=>?_
   rw [q_lknx]
   have hd':D.drop (s+1)=E:=by rw [<- List.drop_drop,hd];rfl
   refine loop62 h57 h58 hl hp hcf ok ht hD E (s+1) acc1 lo1 σ1 hd' (by lia) l1 (x1.L _ _ (by simpa using hcf) hL) hF1 (by rw [e1];split <;> simp <;> lia) λlo' σ' l' x' hF'=>q lo' σ' l' (x1.trans x') ?_
   rw [hF',e1]
   congr 1
   rw [pos_cons]
   split <;> simp
noncomputable def C62 (Φ:Ph):Prop:=∀ (b:Bool) (least:Int) (p:List UInt8) (tv:V) (c:Nat) (D:List Fd) σ k,(least=0\/least=3)->p.length<=3->σ.L c=some ((D.map (enc b least)).map .bytes)->(∀ g∈D,FdOk b g)->(∀ tg q,Fd.ip tg q∈D->isOf (pad q least) p=true->tv=.int tg)->D.length<=80000 ->
 (∀ f σ',σ.fresh f->Ext [] [] [] σ σ'->σ'.L f=some ((pos least p 0 D).map .int)->k (.ref f) σ')->Φ [.ref c,.bytes p,tv] σ k
theorem b62 (h57:C57 (Φ 57)) (h58:C58 (Φ 58)):C62 (fW rs Φ 3 9 bd62):=by
 intro b least p tv c D σ k hl hp hL ok ht hD h
 refine fW_of rfl ?_
 have e1:bd62=(.cons (.asg 3 (.list .nil)) (.cons (.loop (.one 4) (.rng1 (.bi .len (.var 0))) bd62b) (.cons (.ret (.var 3)) .nil))):=rfl
 rw [e1]
 kp_flats
 refine kList_of (by acc_open) λf hf=>?_
 kp_flats
 refine kVar_of rfl ?_
 have hcf:c≠f:=fr_L hf hL
 refine len_L (L_ne hcf hL) ?_
 refine kRng1_of (by lia) (by rw [List.length_map,List.length_map];unfold big;lia) ?_
 have er:rangeL 0 (((D.map (enc b least)).map V.bytes).length:Nat)=(List.range' 0 D.length).map λ(j:Nat)=>V.int (0+(j:Int)):=by
  unfold rangeL;rw [List.range_eq_range',List.length_map,List.length_map];simp
 rw [er]
 refine loop62 h57 h58 hl hp hcf ok ht hD D 0 [] _ _ (by acc_open) (by acc_open) ⟨rfl,rfl,rfl,rfl,rfl⟩ (L_ne hcf hL) L_eq (by acc_open) λlo' σ' l' x' hF'=>?_
 kp_flats
 refine kVar_of l'.v3 ?_
 have x:Ext [] [f] [] σ σ':=(Ext.setL Ext.refl (.inr hf):Ext [] [f] [] σ (σ.setL f [])).trans x'
 exact retK_same (h f σ' hf (x.wide (by acc_open) (λa ha=>.inr (by rw [List.mem_singleton.mp ha];exact hf)) (by acc_open)) (by simpa using hF'))
end
section
set_option maxHeartbeats 1000000
variable {rs:Nat->List V->St->Prop}{Φ:Phi}
noncomputable def kPset (w x y u:V) (k:St->Prop) (σ:St):Prop:=psetK w x y u σ k
theorem kPset_of {w:V}{r:Nat}{i j:Int}{dd:List (V×V)}{k:St->Prop}{σ:St} (h:σ.D r=some dd) (h1:pairFit dd=true) (h2:dd.length<big) (q:k (σ.setD r (dput (.pair i j) w dd))):kPset w (.ref r) (.int i) (.int j) k σ:=by
 exact gS_of h ⟨h1,h2,q⟩
section
variable {TB:Tabs}{lo:Lo}{σ:St}
theorem q_pset {d a b e:E}{k:KL}:wpS TB Φ (.pset d a b e) lo σ k=wpE TB Φ e lo σ λw σ=>wpE TB Φ d lo σ λx σ=>wpE TB Φ a lo σ λy σ=>wpE TB Φ b lo σ λu σ=>kPset w x y u (λσ=>k .nx lo σ) σ:=rfl
theorem q_pget {d a b z:E}{k:KV}:wpE TB Φ (.pget d a b z) lo σ k=wpE TB Φ d lo σ λx σ=>kd x σ=some false/\wpE TB Φ a lo σ λy σ=>wpE TB Φ b lo σ λu σ=>[y,u].length<=big/\∀ c,σ.fresh c->wpE TB Φ z lo (σ.setT c [y,u]) λv σ=>pgetK x (.ref c) v σ k:=rfl
theorem pgetK_of {r c:Nat}{i j:Int}{v:V}{dd:List (V×V)}{k:KV} (h:σ.D r=some dd) (h1:σ.T c=some [.int i,.int j]) (h2:pairFit dd=true) (q:k ((dget (.pair i j) dd).getD v) σ):pgetK (.ref r) (.ref c) v σ k:=by
 exact gS_of h (gS_of h1 ⟨h2,q⟩)
end
theorem SysR.keepD {σ τ:St}{A:Ad}{least:Int}{fates:List Int}{Y:Sy}{bh:Nat} (R:SysR σ A least fates Y) (x:Ext [] [] [bh] σ τ) (h1:A.sc≠bh) (h2:∀ b,A.en b≠bh):SysR τ A least fates Y:=
 { R with
   sc:=x.D _ _ (n1 h1) R.sc,scL:=alive_nL x R.sc R.scL,scT:=alive_nT x R.sc R.scT
   fa:=x.L _ _ (by acc_open) R.fa,se:=x.L _ _ (by acc_open) R.se,lo:=x.L _ _ (by acc_open) R.lo,he:=x.L _ _ (by acc_open) R.he
   s:=λb=>x.L _ _ (by acc_open) (R.s b),l:=λb=>x.L _ _ (by acc_open) (R.l b)
   F:=λb=>(R.F b).ext x (by acc_open) (by acc_open) (by acc_open) (n1 (h2 b)) λø ø=>⟨by simp,by simp⟩
   L:=R.L.ext x (by acc_open) (by acc_open) (by acc_open) (by acc_open) (by acc_open) (by acc_open) }
noncomputable def tgt (b:Bool) (key:Int):V:=if key=511 then .int BC else if key=300 then .none else .int (lk (!b))
noncomputable def late (key:Int) (heard:Option Int):Bool:=key == 300 || (key != 511&&!early heard)
theorem comp63 {p:List UInt8}{l:Nat}{g:Guard}{k:St->Prop}:∀ (xs:List (List UInt8)) (acc:List V) (σ:St),(∀ acc,g (σ.setL l acc))->acc.length+xs.length<=1000->(∀ acc',acc'.length=acc.length+xs.count p->k (σ.setL l acc')) ->
 compW l (.one 1) g (condK (tabsP rs) Φ (.cmp .eq (.var 1) (.var 0))) (elemK (tabsP rs) Φ (.var 1)) [some (.bytes p),Option.none] k (xs.map .bytes) (σ.setL l acc)
 | []=>λacc σ hg ø q=>cw_nil (hg acc) (q acc (by acc_open))
 | x::xs=>λacc σ hg hl q=>by
   rw [List.length_cons] at hl
   refine cw_one (hg acc) ?_
   kp_flats
   refine kVar_of rfl (kVar_of rfl ?_)
   kp_flats
   cases hx:(x == p)
   ·rw [q_ckf]
    refine comp63 xs acc σ hg (by lia) λacc' e=>q acc' ?_
    rw [List.count_cons,hx];simpa using e
   ·rw [q_ckt]
    kp_flats
    refine kVar_of rfl ?_
    refine compA_of L_eq (by unfold big;lia) ?_
    rw [St.setL_setL]
    refine comp63 xs _ σ hg (by simp;lia) λacc' e=>q acc' ?_
    rw [List.count_cons,hx,e];simp;lia
noncomputable def w5:SL:=.cons (.ite (.orv (.cmp .eq (.var 4) (.int 300)) (.andv (.cmp .ne (.var 4) (.int 511)) (.orv (.cmp .is (.var 9) .nil) (.cmp .gt (.var 9) (.int 10))))) (.cons (.ite (.orv (.cmp .ne (.var 7) (.list .nil)) (.cmp .ne (.var 8) (.int 1))) (.cons (.ret .fls) .nil) .nil) .nil) (.cons (.ite (.orv (.cmp .is (.var 7) .nil) (.orv (.cmp .ne (.bi .len (.var 7)) (.int 1)) (.cmp .ne (.var 8) (.int 0)))) (.cons (.ret .fls) .nil) (.cons (.ite (.cmp .ge (.pget (.var 2) (.var 3) (.var 4) (.neg (.int 1))) (.idx (.var 7) (.int 0))) (.cons (.ret .fls) .nil) .nil) (.cons (.pset (.var 2) (.var 3) (.var 4) (.idx (.var 7) (.int 0))) .nil))) .nil)) .nil
noncomputable def w4:SL:=.cons (.asg 9 (.idx (.idx (.var 0) (.str "heard")) (.var 3))) w5
noncomputable def w3:SL:=.cons (.asg 8 (.bi .len (.comp [5] 1 (.one 1) (.obj (.idx (.idx (.var 0) (.str "lost")) (.var 3))) (.cmp .eq (.var 1) (.var 0)) (.var 1)))) w4
noncomputable def w2:SL:=.cons (.asg 7 (.call 62 (.cons (.idx (.idx (.var 0) (.str "sent")) (.var 3)) (.cons (.var 5) (.cons (.var 6) .nil))))) w3
noncomputable def w1:SL:=.cons (.asg 6 (.m1 .get (.dict [.int 511,.int 257,.int 258] (.cons (.bin .sub (.bin .pow (.int 2) (.int 48)) (.int 1)) (.cons (.int 50) (.cons (.int 60) .nil)))) (.var 4))) w2
structure Lo63 (lo:Lo) (sc bh:Nat):Prop where
 len:lo.length=10
 v0:lo[0]?=some (some (.ref sc))
 v2:lo[2]?=some (some (.ref bh))
structure Lo64 (lo:Lo) (b:Bool) (key:Int) (p:List UInt8):Prop where
 v3:lo[3]?=some (some (.int (ix b)))
 v4:lo[4]?=some (some (.int key))
 v5:lo[5]?=some (some (.bytes p))
theorem Lo63.set {lo:Lo}{sc bh:Nat} (h:Lo63 lo sc bh) (j:Nat) (v:Option V) (hj:3<=j):Lo63 (lo.set j v) sc bh:=⟨by rw [List.length_set];exact h.len,gset h.v0 (by lia),gset h.v2 (by lia)⟩
theorem Lo64.set {lo:Lo}{b:Bool}{key:Int}{p:List UInt8} (h:Lo64 lo b key p) (j:Nat) (v:Option V) (hj:6<=j):Lo64 (lo.set j v) b key p:=⟨gset h.v3 (by lia),gset h.v4 (by lia),gset h.v5 (by lia)⟩
theorem dget_tgt {b:Bool}{key:Int} (hk:key=ad (!b)\/key=511\/key=300):(dget (.int key) (([DK.int 511,DK.int 257,DK.int 258].map DK.v).zip [.int (2 ^ Int.toNat 48 - 1),.int 50,.int 60])).getD .none=tgt b key:=by
 rcases hk with rfl | rfl | rfl
 ·cases b <;> with_unfolding_all rfl
 ·with_unfolding_all rfl
 ·with_unfolding_all rfl
structure RowF (least:Int) (b:Bool) (key:Int) (p:List UInt8) (D:List Fd) (lost:List (List UInt8)) (heard:Option Int):Prop where
 keyE:key=ad (!b)\/key=511\/key=300
 pE:p.length<=3
 tgE:∀ tg q,Fd.ip tg q∈D->isOf (pad q least) p=true->tgt b key=.int tg
 lateE:late key heard=true->pos least p 0 D=[]/\lost.count p=1
 goneE:late key heard=false->∃ i:Nat,pos least p 0 D=[(i:Int)]/\lost.count p=0
theorem tail63 {A:Ad}{b:Bool}{key:Int}{p:List UInt8}{bh pl:Nat}{dd:List (V×V)}{ps:List Int}{n:Nat}{heard:Option Int}{lo:Lo}{σ:St}{K:KL} (l:Lo63 lo A.sc bh) (m:Lo64 lo b key p) (v7:lo[7]?=some (some (.ref pl))) (v8:lo[8]?=some (some (.int n))) (v9:lo[9]?=some (some (hv heard))) (hk:key=ad (!b)\/key=511\/key=300) (hP:σ.L pl=some (ps.map .int)) (hB:σ.D bh=some dd) (hBL:σ.L bh=none) (hf:pairFit dd=true) (hd:dd.length<100)
 (lt:late key heard=true->ps=[]/\n=1) (ge:late key heard=false->∃ i:Nat,ps=[(i:Int)]/\n=0/\∃ v:Int,(dget (.pair (ix b) key) dd).getD (.int (-1))=.int v/\v<i)
 (q:∀ σ',Ext [] [] [bh] σ σ'->σ'.D bh=some (if late key heard then dd else dput (.pair (ix b) key) (.int (ps.headD 0)) dd)->K .nx lo σ'):wpSL (tabsP rs) Φ w5 lo σ K:=by
 have onT:late key heard=true->wpSL (tabsP rs) Φ (.cons (.ite (.orv (.cmp .ne (.var 7) (.list .nil)) (.cmp .ne (.var 8) (.int 1))) (.cons (.ret .fls) .nil) .nil) .nil) lo σ (seqK (tabsP rs) Φ .nil K):=by
  intro hl
  obtain ⟨rfl,rfl⟩:=lt hl
  kp_flats
  refine kVar_of v7 ?_
  refine kList_of (by acc_open) λc hc=>?_
  refine q_neL (L_ne (fr_L hc hP) hP) L_eq rfl rfl ?_
  refine kCOr_f rfl ?_
  kp_flats
  refine kVar_of v8 ?_
  kp_flats
  refine kIf_f rfl ?_
  rw [q_lnil,q_seqnx,q_lnil,q_seqnx,q_lnil]
  exact q _ (Ext.setL Ext.refl (.inr hc)) (by rw [if_pos hl];exact hB)
 have onF:late key heard=false->wpSL (tabsP rs) Φ (.cons (.ite (.orv (.cmp .is (.var 7) .nil) (.orv (.cmp .ne (.bi .len (.var 7)) (.int 1)) (.cmp .ne (.var 8) (.int 0)))) (.cons (.ret .fls) .nil) (.cons (.ite (.cmp .ge (.pget (.var 2) (.var 3) (.var 4) (.neg (.int 1))) (.idx (.var 7) (.int 0))) (.cons (.ret .fls) .nil) .nil) (.cons (.pset (.var 2) (.var 3) (.var 4) (.idx (.var 7) (.int 0))) .nil))) .nil) lo σ (seqK (tabsP rs) Φ .nil K):=by
  intro hl
  obtain ⟨i,rfl,rfl,v,hv',hvi⟩:=ge hl
  kp_flats
  refine kVar_of v7 ?_
  refine q_is ?_
  refine kCOr_f rfl ?_
  kp_flats
  refine kVar_of v7 ?_
  refine len_L hP ?_
  kp_flats
  refine kCOr_f rfl ?_
  kp_flats
  refine kVar_of v8 ?_
  kp_flats
  refine kIf_f rfl ?_
  dsimp only [q_pget,q_pset,q_lcons,q_lnil,q_seqnx,q_site,q_ccmp,q_var,q_neg,q_kneg,q_int,q_idx]
  refine kVar_of l.v2 ⟨kd_D hB hBL,?_⟩
  refine kVar_of m.v3 (kVar_of m.v4 ⟨big_small (by acc_open),λc hc=>?_⟩)
  refine pgetK_of hB T_eq hf ?_
  rw [hv']
  refine kVar_of v7 ?_
  refine i_L (j:=0) (u:=.int i) hP rfl rfl ?_
  kp_flats
  refine kIf_f (decide_eq_false (by lia)) ?_
  dsimp only [q_pset,q_lcons,q_lnil,q_seqnx,q_var,q_int,q_idx]
  refine kVar_of v7 ?_
  refine i_L (j:=0) (u:=.int i) hP rfl rfl ?_
  refine kVar_of l.v2 (kVar_of m.v3 (kVar_of m.v4 ?_))
  refine kPset_of hB hf (by unfold big;lia) ?_
  refine q _ (Ext.setD (Ext.setT Ext.refl hc) (.inl (.head _))) ?_
  rw [if_neg (by rw [hl];decide)];exact D_eq
 unfold w5
 rw [q_lcons,q_site]
 dsimp only [q_cor,q_ccmp,q_var,q_int,q_eqi]
 refine kVar_of m.v4 ?_
 kp_flats
 rcases hk with rfl | rfl | rfl
 ·have n3:(ad (!b) == 300)=false:=beq_eq_false_iff_ne.mpr (ad300 _)
  have n5:(ad (!b) != 511)=true:=by cases b <;> decide +kernel
  have le:late (ad (!b)) heard=!early heard:=by unfold late;rw [n3,n5];simp
  refine kCOr_f n3 ?_
  dsimp only [q_cand,q_cor,q_ccmp,q_var,q_int]
  refine kVar_of m.v4 ?_
  kp_flats
  refine kCAnd_t n5 ?_
  kp_flats
  refine kVar_of v9 ?_
  refine q_is ?_
  cases hh:heard with
  | none=>
    rw [hh] at le onT
    exact kCOr_t rfl (kIf_t rfl (onT le))
  | some n=>
    rw [hh] at le onT onF v9
    refine kCOr_f rfl ?_
    kp_flats
    refine kVar_of v9 ?_
    rw [show hv (some n)=V.int n from rfl]
    kp_flats
    by_cases c:n > 10
    ·refine kIf_t (decide_eq_true c) (onT ?_)
     rw [le];simp [early];lia
    ·refine kIf_f (decide_eq_false c) (onF ?_)
     rw [le];simp [early];lia
 ·refine kCOr_f rfl ?_
  dsimp only [q_cand,q_cor,q_ccmp,q_var,q_int]
  refine kVar_of m.v4 ?_
  kp_flats
  exact kCAnd_f rfl (kIf_f rfl (onF rfl))
 ·exact kCOr_t rfl (kIf_t rfl (onT rfl))
end
section
set_option maxHeartbeats 1000000
variable {rs:Nat->List V->St->Prop}{Φ:Phi}
theorem kf3 (key:Int):keyFit (.int key) (([DK.int 511,DK.int 257,DK.int 258].map DK.v).zip [.int (2 ^ Int.toNat 48 - 1),.int 50,.int 60])=true:=by with_unfolding_all rfl
theorem turn63 (h62:C62 (Φ 62)) {A:Ad}{least:Int}{fates:List Int}{Y:Sy}{b:Bool}{key:Int}{p:List UInt8}{D:List Fd}{bh:Nat}{dd:List (V×V)}{lo:Lo}{σ:St}{K:KL} (hl:least=0\/least=3) (R:SysR σ A least fates Y) (hs:Y.sent b=D.map (enc b least)) (ok:∀ g∈D,FdOk b g) (hD:D.length<=80000) (hlo:(Y.lost b).length<=100)
 (F:RowF least b key p D (Y.lost b) (Y.heard b)) (l:Lo63 lo A.sc bh) (m:Lo64 lo b key p) (hB:σ.D bh=some dd) (hBL:σ.L bh=none) (hBT:σ.T bh=none) (hf:pairFit dd=true) (hd:dd.length<100) (nsc:A.sc≠bh) (nen:∀ b,A.en b≠bh)
 (ge:late key (Y.heard b)=false->∀ i:Nat,pos least p 0 D=[(i:Int)]->∃ v:Int,(dget (.pair (ix b) key) dd).getD (.int (-1))=.int v/\v<i)
 (q:∀ lo' σ' dd',Lo63 lo' A.sc bh->Ext [] [] [bh] σ σ'->SysR σ' A least fates Y->σ'.D bh=some dd'->σ'.L bh=none->σ'.T bh=none->dd'=(if late key (Y.heard b) then dd else dput (.pair (ix b) key) (.int ((pos least p 0 D).headD 0)) dd)->K .nx lo' σ'):wpSL (tabsP rs) Φ w1 lo σ K:=by
 unfold w1
 kp_flats
 refine b_pow (by decide) (by decide) (by unfold small64;decide) ?_
 refine b_sub ?_
 refine kDict_of rfl (by decide) λc hc=>?_
 refine kM1_D D_eq hc.2.1 rfl ?_
 refine e_var m.v4 ?_
 refine x_get D_eq (kf3 key) ?_
 rw [dget_tgt F.keyE]
 have x0:Ext [] [] [] σ (σ.setD c (([DK.int 511,DK.int 257,DK.int 258].map DK.v).zip [.int (2 ^ Int.toNat 48 - 1),.int 50,.int 60])):=Ext.setD Ext.refl (.inr hc)
 have R0:=R.keep x0
 have x0':Ext [] [] [bh] σ _:=x0.wide (by acc_open) (by acc_open) (by acc_open)
 have hB0:=x0.D _ _ (by acc_open) hB
 have hBL0:=alive_nL x0 hB hBL
 have hBT0:=alive_nT x0 hB hBT
 show wpSL (tabsP rs) Φ w2 (lo.set 6 (some (tgt b key))) _ K
 generalize σ.setD c (([DK.int 511,DK.int 257,DK.int 258].map DK.v).zip [.int (2 ^ Int.toNat 48 - 1),.int 50,.int 60])=σ0 at x0' R0 hB0 hBL0 hBT0 |-
 have l0:=l.set 6 (some (tgt b key)) (by decide)
 have m0:=m.set 6 (some (tgt b key)) (by decide)
 have g6:(lo.set 6 (some (tgt b key)))[6]?=some (some (tgt b key)):=List.getElem?_set_self (by rw [l.len];decide)
 generalize lo.set 6 (some (tgt b key))=lo0' at l0 m0 g6 |-
 unfold w2
 kp_flats
 refine kVar_of l0.v0 ?_
 refine R0.x_se ?_
 refine kVar_of m0.v3 ?_
 refine R0.x_s ?_
 refine kVar_of m0.v5 (kVar_of g6 ?_)
 refine h62 b least p _ (A.s b) D _ _ hl F.pE (by rw [R0.s b,hs]) ok F.tgE hD λpl σ1 fpl x1 hP=>?_
 have R1:=R0.keep x1
 have x1':Ext [] [] [bh] σ σ1:=x0'.trans (x1.wide (by acc_open) (by acc_open) (by acc_open))
 have hB1:=x1.D _ _ (by acc_open) hB0
 have hBL1:=alive_nL x1 hB0 hBL0
 have hBT1:=alive_nT x1 hB0 hBT0
 have l1:=l0.set 7 (some (.ref pl)) (by decide)
 have m1:=m0.set 7 (some (.ref pl)) (by decide)
 have g7:(lo0'.set 7 (some (.ref pl)))[7]?=some (some (.ref pl)):=List.getElem?_set_self (by rw [l0.len];decide)
 kp_flats
 generalize lo0'.set 7 (some (.ref pl))=lo1 at l1 m1 g7 |-
 unfold w3
 kp_flats
 refine kVar_of l1.v0 ?_
 refine R1.x_lo ?_
 refine kVar_of m1.v3 ?_
 refine R1.x_l ?_
 refine kObj_L (R1.l b) ?_
 intro cl hcl
 have efv:([5].map (λi=>(lo1[i]?).join)++List.replicate 1 Option.none)=[some (.bytes p),Option.none]:=by
  simp only [List.map_cons,List.map_nil,m1.v5];rfl
 rw [efv]
 have ncl:Y.l b≠cl:=fr_L hcl (R1.l b)
 refine comp63 (Y.lost b) [] σ1 (λacc=>L_ne ncl (R1.l b)) (by simp;lia) λacc' hacc=>?_
 rw [List.length_nil,Nat.zero_add] at hacc
 refine len_L L_eq ?_
 rw [hacc]
 have x2:Ext [] [] [] σ1 (σ1.setL cl acc'):=Ext.setL Ext.refl (.inr hcl)
 have R2:=R1.keep x2
 have x2':Ext [] [] [bh] σ (σ1.setL cl acc'):=x1'.trans (x2.wide (by acc_open) (by acc_open) (by acc_open))
 have hB2:=x2.D _ _ (by acc_open) hB1
 have hBL2:=alive_nL x2 hB1 hBL1
 have hBT2:=alive_nT x2 hB1 hBT1
 have hP2:=x2.L _ _ (by acc_open) hP
 show wpSL (tabsP rs) Φ w4 (lo1.set 8 (some (.int ((Y.lost b).count p:Nat)))) _ K
 generalize σ1.setL cl acc'=σ2 at x2' R2 hB2 hBL2 hBT2 hP2 |-
 have l2:=l1.set 8 (some (.int ((Y.lost b).count p:Nat))) (by decide)
 have m2:=m1.set 8 (some (.int ((Y.lost b).count p:Nat))) (by decide)
 have k7:(lo1.set 8 (some (.int ((Y.lost b).count p:Nat))))[7]?=some (some (.ref pl)):=gset g7 (by decide)
 have k8:(lo1.set 8 (some (.int ((Y.lost b).count p:Nat))))[8]?=some (some (.int ((Y.lost b).count p:Nat))):=List.getElem?_set_self (by rw [l1.len];decide)
 generalize lo1.set 8 (some (.int ((Y.lost b).count p:Nat)))=lo2 at l2 m2 k7 k8 |-
 unfold w4
 kp_flats
 refine kVar_of l2.v0 ?_
 refine R2.x_he ?_
 refine kVar_of m2.v3 ?_
 refine R2.x_h ?_
 show wpSL (tabsP rs) Φ w5 (lo2.set 9 (some (hv (Y.heard b)))) _ K
 have l3:=l2.set 9 (some (hv (Y.heard b))) (by decide)
 refine tail63 l3 (m2.set 9 (some (hv (Y.heard b))) (by decide)) (gset k7 (by decide)) (gset k8 (by decide)) (List.getElem?_set_self (by rw [l2.len];decide)) F.keyE hP2 hB2 hBL2 hf hd (λc=>F.lateE c) (λc=>?_) λσ' x' hB'=>?_
 ·obtain ⟨i,e,n⟩:=F.goneE c
  obtain ⟨v,hv',hvi⟩:=ge c i e
  exact ⟨i,e,n,v,hv',hvi⟩
 ·exact q _ σ' _ l3 (x2'.trans x') (R2.keepD x' nsc nen) hB' (alive_nL x' hB2 hBL2) (alive_nT x' hB2 hBT2) rfl
structure RowsF (least:Int) (Y:Sy) (D:Bool->List Fd) (rows:List Row):Prop where
 one:∀ r∈rows,RowF least r.b r.key r.p (D r.b) (Y.lost r.b) (Y.heard r.b)
 two:∀ r s,rows=[r,s]->r.b=s.b->r.key=s.key->late r.key (Y.heard r.b)=false->∀ i j:Nat,pos least r.p 0 (D r.b)=[(i:Int)]->pos least s.p 0 (D s.b)=[(j:Int)]->i<j
 few:rows.length<=2
noncomputable def C63 (Φ:Ph):Prop:=∀ (A:Ad) (least:Int) (fates:List Int) (Y:Sy) (D:Bool->List Fd) (f:Nat) (xs:List V) (rows:List Row) σ k,(least=0\/least=3)->SysR σ A least fates Y->(∀ b,Y.sent b=(D b).map (enc b least))->(∀ b,∀ g∈D b,FdOk b g)->(∀ b,(D b).length<=80000)->(∀ b,(Y.lost b).length<=100)->RowsF least Y D rows->σ.L f=some xs->RowsR σ xs rows->(∀ σ',k (.bool true) σ')->Φ [.ref A.sc,.ref f] σ k
theorem b63 (h62:C62 (Φ 62)):C63 (fW rs Φ 2 10 bd63):=by
 intro A least fates Y D f xs rows σ k hl R hs ok hD hlo F hL hR h
 refine fW_of rfl ?_
 have e1:bd63=.cons (.asg 2 (.dict [] .nil)) (.cons (.loop (.many [3,4,5]) (.obj (.var 1)) w1) (.cons (.ret .tru) .nil)):=rfl
 rw [e1]
 kp_flats
 refine kDict_of rfl (by decide) λbh hbh=>?_
 have nsc:A.sc≠bh:=fr_D hbh R.sc
 have nen:∀ b,A.en b≠bh:=λb=>fr_D hbh (R.F b).T.d
 have x0:Ext [] [] [] σ (σ.setD bh (([].map DK.v).zip [])):=Ext.setD Ext.refl (.inr hbh)
 have R0:=R.keep x0
 have hB0:(σ.setD bh (([].map DK.v).zip [])).D bh=some []:=D_eq
 have hBL0:(σ.setD bh (([].map DK.v).zip [])).L bh=none:=hbh.2.1
 have hBT0:(σ.setD bh (([].map DK.v).zip [])).T bh=none:=hbh.2.2.1
 have hL0:=x0.L _ _ (by acc_open) hL
 have hR0:=hR.mono x0.T
 kp_flats
 generalize σ.setD bh (([].map DK.v).zip [])=σ0 at R0 hB0 hBL0 hBT0 hL0 hR0 |-
 refine kVar_of rfl ?_
 refine kObj_L hL0 ?_
 have lof:∀ (lo:Lo) (r:Row),Lo63 lo A.sc bh->Lo63 (bindMany [3,4,5] [.int (ix r.b),.int r.key,.bytes r.p] lo) A.sc bh/\Lo64 (bindMany [3,4,5] [.int (ix r.b),.int r.key,.bytes r.p] lo) r.b r.key r.p:=λlo r l=>
  ⟨((l.set 3 _ (by decide)).set 4 _ (by decide)).set 5 _ (by decide),⟨gset (gset (List.getElem?_set_self (by rw [l.len];decide)) (by decide)) (by decide),gset (List.getElem?_set_self (by simp [l.len])) (by decide),List.getElem?_set_self (by simp [l.len])⟩⟩
 have l0:Lo63 ((lo0 10 [.ref A.sc,.ref f]).set 2 (some (.ref bh))) A.sc bh:=⟨rfl,rfl,rfl⟩
 have few:=F.few
 cases hR0 with
 | nil=>
   refine lw_nil hL0 ?_
   kp_flats
   exact retK_same (h _)
 | @cons a xs' r rows' h1 h2=>
   refine lw_many hL0 h1 rfl ?_
   rw [q_body]
   obtain ⟨la,lb⟩:=lof _ r l0
   refine turn63 h62 hl R0 (hs r.b) (ok r.b) (hD r.b) (hlo r.b) (F.one r (.head _)) la lb hB0 hBL0 hBT0 rfl (by decide) nsc nen (λc i e=>⟨-1,rfl,by lia⟩) λlo1 σ1 dd1 l1 x1 R1 hB1 hBL1 hBT1 e1=>?_
   rw [q_lknx]
   have hL1:=x1.L _ _ (by acc_open) hL0
   have h2:=h2.mono x1.T
   cases h2 with
   | nil=>
     refine lw_nil hL1 ?_
     kp_flats
     exact retK_same (h _)
   | @cons a2 xs2 s rows2 h3 h4=>
     refine lw_many hL1 h3 rfl ?_
     rw [q_body]
     obtain ⟨lc,ld⟩:=lof _ s l1
     have hfit:pairFit dd1=true/\dd1.length<100:=by
      rw [e1];split
      ·exact ⟨rfl,by decide⟩
      ·exact ⟨rfl,by simp [dput]⟩
     have hrs:rows2=[]:=by
      cases rows2 with
      | nil=>rfl
      | cons _ _=>simp at few
     subst hrs
     refine turn63 h62 hl R1 (hs s.b) (ok s.b) (hD s.b) (hlo s.b) (F.one s (.tail _ (.head _))) lc ld hB1 hBL1 hBT1 hfit.1 hfit.2 nsc nen (λc i e=>?_) λlo2 σ2 dd2 l2 x2 R2 hB2 hBL2 hBT2 e2=>?_
     ·rw [e1]
      by_cases hlr:late r.key (Y.heard r.b)=true
      ·rw [if_pos hlr];exact ⟨-1,rfl,by lia⟩
      ·rw [if_neg hlr]
       have hlr':late r.key (Y.heard r.b)=false:=by simpa using hlr
       obtain ⟨j,ej,_⟩:=(F.one r (.head _)).goneE hlr'
       rw [ej]
       show ∃ v:Int,(dget (.pair (ix s.b) s.key) [(V.pair (ix r.b) r.key,V.int j)]).getD (.int (-1))=.int v/\v<i
       by_cases hk:(V.pair (ix r.b) r.key)=(V.pair (ix s.b) s.key)
       ·refine ⟨j,by unfold dget;simp [hk],?_⟩
        have hb:r.b=s.b:=by
         injection hk with e _
         revert e;cases r.b <;> cases s.b <;> simp [ix]
        have hkk:r.key=s.key:=by injection hk
        have:=F.two r s rfl hb hkk hlr' j i ej e
        lia
       ·exact ⟨-1,by unfold dget;simp [hk],by lia⟩
     ·rw [q_lknx]
      cases h4
      refine lw_nil (x2.L _ _ (by acc_open) hL1) ?_
      kp_flats
      exact retK_same (h _)
end
section
noncomputable def fil (rows:List Row) (b:Bool) (key:Int):List Row:=rows.filter λr=>r.b == b&&r.key == key
noncomputable def pkOf (rows:List Row) (b:Bool):Pk:=⟨(fil rows b (ad (!b))).map (λø=>ø.p),(fil rows b 511).map (λø=>ø.p),(fil rows b 300).map (λø=>ø.p)⟩
theorem mem_fil {rows:List Row}{b:Bool}{key:Int}{r:Row}:r∈fil rows b key ↔ r∈rows/\r.b=b/\r.key=key:=by
 unfold fil;rw [List.mem_filter];simp
structure Sepd (least:Int) (rows:List Row):Prop where
 s1:∀ r∈rows,∀ s∈rows,isOf (pad s.p least) r.p=true->s=r
 s2:∀ r∈rows,isOf (pad r.p least) r.p=true
 s3:rows.Nodup
 key:∀ r∈rows,r.key=ad (!r.b)\/r.key=511\/r.key=300
 p:∀ r∈rows,r.p.length<=3
 few:rows.length<=2
theorem Sepd.inj {least:Int}{rows:List Row} (S:Sepd least rows) {r s:Row} (hr:r∈rows) (hs:s∈rows) (e:r.p=s.p):r=s:=by
 have:=S.s2 r hr
 exact (S.s1 s hs r hr (by rw [<- e];exact this))
theorem isOf_self {p:List UInt8}{least:Int}:isOf (pad p least) p=true:=by
 unfold isOf pad
 split
 ·rw [List.take_left' rfl,List.drop_left' rfl]
  simp
 ·simp
theorem isOf_head {m n:Nat}{u v:UInt8}{least:Int} (hm:1<=m) (hn:1<=n) (h:isOf (pad (List.replicate m u) least) (List.replicate n v)=true):u=v:=by
 unfold isOf at h
 rw [Bool.and_eq_true] at h
 have e:=eq_of_beq h.1
 rw [List.length_replicate] at e
 have e0:=congrArg (·[0]?) e
 simp only [List.getElem?_take,List.getElem?_replicate] at e0
 rw [if_pos (by lia),if_pos (by lia)] at e0
 have:(pad (List.replicate m u) least)[0]?=some u:=by
  unfold pad
  split
  ·rw [List.getElem?_append_left (by rw [List.length_replicate];lia),List.getElem?_replicate,if_pos (by lia)]
  ·rw [List.getElem?_replicate,if_pos (by lia)]
 rw [this] at e0;exact Option.some.inj e0
theorem sepd_of {rows:List Row}{least:Int} (h:RowsOk rows):Sepd least rows:=by
 have hp:∀ {u:UInt8}{r:Row},RowOk u r->r.p.length<=3:=λh=>by obtain ⟨m,a,c,e⟩:=h.p;rw [e,List.length_replicate];exact c
 rcases h with ⟨r,hr,rfl⟩ | ⟨r,s,hr,hs,rfl⟩
 ·refine ⟨?_,?_,?_,?_,?_,?_⟩
  ·intro a ha c hc _
   rw [List.mem_singleton.mp ha,List.mem_singleton.mp hc]
  ·intro a ha;exact isOf_self
  ·simp
  ·intro a ha;rw [List.mem_singleton.mp ha];exact hr.key
  ·intro a ha;rw [List.mem_singleton.mp ha];exact hp hr
  ·simp
 ·obtain ⟨m,m1,m2,em⟩:=hr.p
  obtain ⟨n,n1,n2,en⟩:=hs.p
  refine ⟨?_,?_,?_,?_,?_,?_⟩
  ·intro a ha c hc hi
   simp only [List.mem_cons,List.not_mem_nil,or_false] at ha hc
   rcases ha with rfl | rfl <;> rcases hc with rfl | rfl
   ·rfl
   ·rw [em,en] at hi;exact absurd (isOf_head n1 m1 hi) (by decide)
   ·rw [em,en] at hi;exact absurd (isOf_head m1 n1 hi) (by decide)
   ·rfl
  ·intro a ha;exact isOf_self
  ·simp only [List.nodup_cons,List.mem_singleton,List.not_mem_nil,not_false_eq_true,List.nodup_nil,and_true]
   rintro rfl
   rw [em] at en
   have:=congrArg (·[0]?) en
   simp only [List.getElem?_replicate] at this
   rw [if_pos (by lia),if_pos (by lia)] at this
   exact absurd this (by decide)
  ·intro a ha
   simp only [List.mem_cons,List.not_mem_nil,or_false] at ha
   rcases ha with rfl | rfl
   ·exact hr.key
   ·exact hs.key
  ·intro a ha
   simp only [List.mem_cons,List.not_mem_nil,or_false] at ha
   rcases ha with rfl | rfl
   ·exact hp hr
   ·exact hp hs
  ·simp
theorem pos_app (least:Int) (p:List UInt8):∀ (D E:List Fd) (i:Nat),pos least p i (D++E)=pos least p i D++pos least p (i+D.length) E
 | []=>λE i=>by simp [pos]
 | f::D=>λE i=>by
   rw [List.cons_append,pos_cons,pos_cons,pos_app least p D E (i+1),List.length_cons,show i+1+D.length=i+(D.length+1) by lia]
   split <;> rfl
theorem pos_none {least:Int}{p:List UInt8}:∀ {D:List Fd}{i:Nat},(∀ y∈ips D,isOf (pad y.2 least) p=false)->pos least p i D=[]
 | [],_,_=>rfl
 | .arp r::D,i,h=>by
   rw [pos_cons,show hit least p (.arp r)=false from rfl]
   exact pos_none (D:=D) h
 | .ip tg q::D,i,h=>by
   have h0:isOf (pad q least) p=false:=h (tg,q) (.head _)
   rw [pos_cons,show hit least p (.ip tg q)=isOf (pad q least) p from rfl,h0]
   exact pos_none (D:=D) λy hy=>h y (.tail _ hy)
theorem ipO_some {f:Fd}{y:Int×List UInt8} (h:ipO f=some y):f=.ip y.1 y.2:=by
 cases f with
 | ip tg p=>cases h;rfl
 | arp r=>cases h
theorem ips_split {D:List Fd}{xs ys:List (Int×List UInt8)}{y:Int×List UInt8} (h:ips D=xs++y::ys):∃ D1 D2,D=D1++.ip y.1 y.2::D2/\ips D1=xs/\ips D2=ys:=by
 unfold ips at h
 obtain ⟨l1,l2,rfl,h1,h2⟩:=List.filterMap_eq_append_iff.mp h
 obtain ⟨l3,a,l4,rfl,h3,h4,h5⟩:=List.filterMap_eq_cons_iff.mp h2
 refine ⟨l1++l3,l4,by rw [ipO_some h4];simp,?_,h5⟩
 unfold ips
 rw [List.filterMap_append,h1,List.filterMap_eq_nil_iff.mpr h3,List.append_nil]
theorem pos_at {least:Int}{p q:List UInt8}{tg:Int}{D1 D2:List Fd} (h1:∀ y∈ips D1,isOf (pad y.2 least) p=false) (h2:∀ y∈ips D2,isOf (pad y.2 least) p=false) (h:isOf (pad q least) p=true):pos least p 0 (D1++.ip tg q::D2)=[(D1.length:Int)]:=by
 rw [pos_app,pos_none h1,pos_cons,show hit least p (.ip tg q)=isOf (pad q least) p from rfl,h,pos_none h2]
 simp
noncomputable def went (rows:List Row) (b:Bool) (heard:Option Int):List Row:=fil rows b 511++if early heard then fil rows b (ad (!b)) else []
noncomputable def gone (rows:List Row) (b:Bool) (heard:Option Int):List Row:=fil rows b 300++if early heard then [] else fil rows b (ad (!b))
noncomputable def tgI (b:Bool) (key:Int):Int:=if key=511 then BC else lk (!b)
theorem ad511 (b:Bool):ad b≠511:=by cases b <;> decide +kernel
theorem fil_nodup {rows:List Row} (h:rows.Nodup) (b:Bool) (key:Int):(fil rows b key).Nodup:=h.filter _
theorem nodup_app {a c:List Row} (h1:a.Nodup) (h2:c.Nodup) (h:∀ r∈a,r ∉ c):(a++c).Nodup:=List.nodup_append.mpr ⟨h1,h2,λr hr s hs e=>h r hr (e ▸ hs)⟩
theorem went_nodup {rows:List Row} (h:rows.Nodup) (b:Bool) (heard:Option Int):(went rows b heard).Nodup:=by
 unfold went
 split
 ·refine nodup_app (fil_nodup h _ _) (fil_nodup h _ _) λr hr hs=>?_
  exact ad511 _ ((mem_fil.mp hs).2.2.symm.trans (mem_fil.mp hr).2.2)
 ·rw [List.append_nil];exact fil_nodup h _ _
theorem gone_nodup {rows:List Row} (h:rows.Nodup) (b:Bool) (heard:Option Int):(gone rows b heard).Nodup:=by
 unfold gone
 split
 ·rw [List.append_nil];exact fil_nodup h _ _
 ·refine nodup_app (fil_nodup h _ _) (fil_nodup h _ _) λr hr hs=>?_
  exact ad300 _ ((mem_fil.mp hs).2.2.symm.trans (mem_fil.mp hr).2.2)
theorem mem_went {rows:List Row}{b:Bool}{heard:Option Int}{r:Row} (hk:r.b=b->r.key=ad (!b)\/r.key=511\/r.key=300):r∈went rows b heard ↔ r∈rows/\r.b=b/\late r.key heard=false:=by
 unfold went late
 rw [List.mem_append,mem_fil]
 have a3:=ad300 (!b)
 have a5:=ad511 (!b)
 constructor
 ·rintro (⟨h1,h2,h3⟩ | h)
  ·exact ⟨h1,h2,by rw [h3];rfl⟩
  ·split at h
   ·next c=>
    obtain ⟨h1,h2,h3⟩:=mem_fil.mp h
    exact ⟨h1,h2,by rw [h3,c];simp [a3]⟩
   ·cases h
 ·rintro ⟨h1,h2,h3⟩
  rcases hk h2 with k | k | k
  ·right
   rw [k] at h3
   have c:early heard=true:=by simpa [a3,a5] using h3
   rw [if_pos c];exact mem_fil.mpr ⟨h1,h2,k⟩
  ·exact .inl ⟨h1,h2,k⟩
  ·rw [k] at h3;simp at h3
theorem mem_gone {rows:List Row}{b:Bool}{heard:Option Int}{r:Row} (hk:r.b=b->r.key=ad (!b)\/r.key=511\/r.key=300):r∈gone rows b heard ↔ r∈rows/\r.b=b/\late r.key heard=true:=by
 unfold gone late
 rw [List.mem_append,mem_fil]
 have a3:=ad300 (!b)
 have a5:=ad511 (!b)
 constructor
 ·rintro (⟨h1,h2,h3⟩ | h)
  ·exact ⟨h1,h2,by rw [h3];rfl⟩
  ·split at h
   ·cases h
   ·next c=>
    obtain ⟨h1,h2,h3⟩:=mem_fil.mp h
    exact ⟨h1,h2,by rw [h3];simp [a3,a5,c]⟩
 ·rintro ⟨h1,h2,h3⟩
  rcases hk h2 with k | k | k
  ·right
   rw [k] at h3
   have c:early heard=false:=by simpa [a3,a5] using h3
   rw [c];exact mem_fil.mpr ⟨h1,h2,k⟩
  ·rw [k] at h3;simp at h3
  ·exact .inl ⟨h1,h2,k⟩
theorem ips_went {rows:List Row}{b:Bool}{m:Nat}{es:List Ent}{D:List Fd}{lost:List (List UInt8)}{heard:Option Int} (E:EndI (pkOf rows b) b m es D lost heard):ips D=(went rows b heard).map λs=>(tgI b s.key,s.p):=by
 rw [E.ipsE]
 unfold went pkOf
 rw [List.map_append,List.map_map]
 have e1:(fil rows b 511).map ((λp=>(BC,p)) ∘ λx=>x.p)=(fil rows b 511).map λs=>(tgI b s.key,s.p):=by
  refine List.map_congr_left λr hr=>?_
  have:=(mem_fil.mp hr).2.2
  simp [tgI,this]
 have e2:(fil rows b (ad (!b))).map ((λp=>(lk (!b),p)) ∘ λx=>x.p)=(fil rows b (ad (!b))).map λs=>(tgI b s.key,s.p):=by
  refine List.map_congr_left λr hr=>?_
  have:=(mem_fil.mp hr).2.2
  simp [tgI,this,ad511]
 rw [e1]
 congr 1
 split
 ·rw [List.map_map,e2]
 ·rfl
theorem lost_gone {rows:List Row}{b:Bool}{m:Nat}{es:List Ent}{D:List Fd}{lost:List (List UInt8)}{heard:Option Int} (E:EndI (pkOf rows b) b m es D lost heard) (hm:10<=m):lost.Perm ((gone rows b heard).map (λø=>ø.p)):=by
 have:=E.lost1 hm
 unfold gone
 rw [List.map_append]
 unfold pkOf at this
 split
 ·next c=>simpa [c] using this
 ·next c=>simpa [c] using this
theorem count_rows {least:Int}{rows:List Row} (S:Sepd least rows) {r:Row} (hr:r∈rows):∀ (L:List Row),L.Nodup->(∀ s∈L,s∈rows)->(r∈L->(L.map (λø=>ø.p)).count r.p=1)/\(r ∉ L->(L.map (λø=>ø.p)).count r.p=0)
 | []=>λø ø=>⟨λh=>(by cases h),λø=>rfl⟩
 | s::L=>λhn hL=>by
   rw [List.nodup_cons] at hn
   obtain ⟨i1,i2⟩:=count_rows S hr L hn.2 λt ht=>hL t (.tail _ ht)
   rw [List.map_cons,List.count_cons]
   by_cases e:s.p=r.p
   ·have es:s=r:=S.inj (hL s (.head _)) hr e
    subst es
    refine ⟨λø=>?_,λh=>absurd (.head _) h⟩
    rw [i2 hn.1];simp
   ·have eb:(s.p == r.p)=false:=beq_eq_false_iff_ne.mpr e
    rw [eb]
    have ns:r≠s:=λh=>e (by rw [h])
    refine ⟨λh=>?_,λh=>?_⟩
    ·rcases List.mem_cons.mp h with h | h
     ·exact absurd h ns
     ·simpa using i1 h
    ·simpa using i2 λh'=>h (.tail _ h')
theorem rowF_of {least:Int}{rows:List Row} (S:Sepd least rows) {r:Row} (hr:r∈rows) {m:Nat}{es:List Ent}{D:List Fd}{lost:List (List UInt8)}{heard:Option Int} (E:EndI (pkOf rows r.b) r.b m es D lost heard) (hm:10<=m):RowF least r.b r.key r.p D lost heard:=by
 have hk:=S.key r hr
 have ei:=ips_went E
 have hw:∀ s∈went rows r.b heard,s∈rows:=λs hs=>by
  unfold went at hs
  rcases List.mem_append.mp hs with h | h
  ·exact (mem_fil.mp h).1
  ·split at h
   ·exact (mem_fil.mp h).1
   ·cases h
 have hg:∀ s∈gone rows r.b heard,s∈rows:=λs hs=>by
  unfold gone at hs
  rcases List.mem_append.mp hs with h | h
  ·exact (mem_fil.mp h).1
  ·split at h
   ·cases h
   ·exact (mem_fil.mp h).1
 have nh:∀ (L:List Row),(∀ s∈L,s∈rows)->r ∉ L->∀ y∈L.map (λs=>(tgI r.b s.key,s.p)),isOf (pad y.2 least) r.p=false:=by
  intro L hL hn y hy
  obtain ⟨s,hs,rfl⟩:=List.mem_map.mp hy
  show isOf (pad s.p least) r.p=false
  cases c:isOf (pad s.p least) r.p
  ·rfl
  ·exact absurd (S.s1 r hr s (hL s hs) c ▸ hs) hn
 have cnt:=count_rows S hr (gone rows r.b heard) (gone_nodup S.s3 _ _) hg
 have pl:=(lost_gone E hm).count_eq r.p
 refine ⟨hk,S.p r hr,?_,?_,?_⟩
 ·intro tg q hq hi
  have hmem:(tg,q)∈ips D:=by
   unfold ips;exact List.mem_filterMap.mpr ⟨_,hq,rfl⟩
  rw [ei] at hmem
  obtain ⟨s,hs,e⟩:=List.mem_map.mp hmem
  cases e
  have es:=S.s1 r hr s (hw s hs) hi
  subst es
  have hl:=((mem_went λø=>hk).mp hs).2.2
  unfold tgt tgI
  split
  ·rfl
  ·next c=>
   split
   ·next d=>rw [d] at hl;simp [late] at hl
   ·rfl
 ·intro hl
  have n1:r ∉ went rows r.b heard:=λh=>by
   have:=((mem_went λø=>hk).mp h).2.2
   rw [this] at hl;cases hl
  refine ⟨pos_none ?_,?_⟩
  ·rw [ei];exact nh _ hw n1
  ·rw [pl];exact cnt.1 ((mem_gone λø=>hk).mpr ⟨hr,rfl,hl⟩)
 ·intro hl
  have h1:r∈went rows r.b heard:=(mem_went λø=>hk).mpr ⟨hr,rfl,hl⟩
  obtain ⟨L1,L2,eL⟩:=List.append_of_mem h1
  have nd:=went_nodup S.s3 r.b heard
  rw [eL] at ei nd hw
  rw [List.map_append,List.map_cons] at ei
  obtain ⟨D1,D2,rfl,h2,h3⟩:=ips_split ei
  have nd':=List.nodup_append.mp nd
  have nr1:r ∉ L1:=λh=>nd'.2.2 r h r (.head _) rfl
  have nr2:r ∉ L2:=(List.nodup_cons.mp nd'.2.1).1
  refine ⟨D1.length,pos_at ?_ ?_ (S.s2 r hr),?_⟩
  ·rw [h2];exact nh L1 (λs hs=>hw s (List.mem_append_left _ hs)) nr1
  ·rw [h3];exact nh L2 (λs hs=>hw s (List.mem_append_right _ (.tail _ hs))) nr2
  ·rw [pl];exact cnt.2 λh=>by
    have:=((mem_gone λø=>hk).mp h).2.2
    rw [hl] at this;cases this
end
section
set_option maxHeartbeats 1000000
variable {rs:Nat->List V->St->Prop}{Φ:Phi}
theorem fil_pair {r s:Row}{b:Bool}{key:Int} (h1:r.b=b) (h2:s.b=b) (k1:r.key=key) (k2:s.key=key):fil [r,s] b key=[r,s]:=by
 unfold fil;simp [List.filter,h1,h2,k1,k2]
theorem fil_none {r s:Row}{b:Bool}{key:Int} (k1:r.key≠key) (k2:s.key≠key):fil [r,s] b key=[]:=by
 unfold fil
 have e1:(r.key == key)=false:=beq_eq_false_iff_ne.mpr k1
 have e2:(s.key == key)=false:=beq_eq_false_iff_ne.mpr k2
 simp [List.filter,e1,e2]
theorem rowsF_of {least:Int}{rows:List Row}{Y:Sy}{D:Bool->List Fd}{m:Nat} (S:Sepd least rows) (E:∀ b,EndI (pkOf rows b) b m (Y.es b) (D b) (Y.lost b) (Y.heard b)) (hm:10<=m):RowsF least Y D rows:=by
 refine ⟨λr hr=>rowF_of S hr (E r.b) hm,?_,S.few⟩
 rintro r s rfl hb hk hl i j hi hj
 have hr:r∈[r,s]:=.head _
 have hs:s∈[r,s]:=.tail _ (.head _)
 have hkr:=S.key r hr
 have hw:went [r,s] r.b (Y.heard r.b)=[r,s]:=by
  unfold went
  rcases hkr with k | k | k
  ·have c:early (Y.heard r.b)=true:=by
    unfold late at hl;rw [k] at hl
    simpa [ad300,ad511] using hl
   rw [if_pos c,fil_pair rfl hb.symm k (hk ▸ k),fil_none (by rw [k];exact ad511 _) (by rw [<- hk,k];exact ad511 _)];rfl
  ·rw [fil_pair rfl hb.symm k (hk ▸ k),fil_none (by rw [k];exact Ne.symm (ad511 _)) (by rw [<- hk,k];exact Ne.symm (ad511 _))];simp
  ·rw [k] at hl;simp [late] at hl
 have ei:=ips_went (E r.b)
 rw [hw] at ei
 have ei':ips (D r.b)=[]++(tgI r.b r.key,r.p)::[(tgI r.b s.key,s.p)]:=ei
 obtain ⟨D1,D2,hD,h1,h2⟩:=ips_split ei'
 have ei2:ips D2=[]++(tgI r.b s.key,s.p)::[]:=h2
 obtain ⟨D3,D4,hD2,h3,h4⟩:=ips_split ei2
 have nrs:r≠s:=by have:=S.s3;simp at this;exact this
 have f1:isOf (pad s.p least) r.p=false:=by
  cases c:isOf (pad s.p least) r.p
  ·rfl
  ·exact absurd (S.s1 r hr s hs c).symm nrs
 have f2:isOf (pad r.p least) s.p=false:=by
  cases c:isOf (pad r.p least) s.p
  ·rfl
  ·exact absurd (S.s1 s hs r hr c) nrs
 have p1:pos least r.p 0 (D r.b)=[(D1.length:Int)]:=by
  rw [hD];refine pos_at (by rw [h1];simp) ?_ (S.s2 r hr)
  rw [h2];intro y hy;rw [List.mem_singleton.mp hy];exact f1
 have p2:pos least s.p 0 (D s.b)=[((D1++Fd.ip (tgI r.b r.key) r.p::D3).length:Int)]:=by
  rw [<- hb,hD,hD2]
  have:D1++Fd.ip (tgI r.b r.key,r.p).1 (tgI r.b r.key,r.p).2::(D3++Fd.ip (tgI r.b s.key,s.p).1 (tgI r.b s.key,s.p).2::D4)=(D1++Fd.ip (tgI r.b r.key) r.p::D3)++Fd.ip (tgI r.b s.key) s.p::D4:=by simp
  rw [this]
  refine pos_at ?_ (by rw [h4];simp) (S.s2 s hs)
  have:ips (D1++Fd.ip (tgI r.b r.key) r.p::D3)=[(tgI r.b r.key,r.p)]:=by
   rw [ips_app,h1];show []++((tgI r.b r.key,r.p)::ips D3)=_;rw [h3];rfl
  rw [this];intro y hy;rw [List.mem_singleton.mp hy];exact f2
 rw [p1] at hi;rw [p2] at hj
 simp at hi hj
 lia
theorem fil_snoc (don:List Row) (r:Row) (b:Bool) (key:Int):fil (don++[r]) b key=fil don b key++if r.b=b/\r.key=key then [r] else []:=by
 unfold fil;rw [List.filter_append];congr 1
 by_cases h:r.b=b/\r.key=key
 ·rw [if_pos h];simp [List.filter,h.1,h.2]
 ·rw [if_neg h]
  have:(r.b == b&&r.key == key)=false:=by
   cases c:(r.b == b&&r.key == key)
   ·rfl
   ·simp at c;exact absurd c h
  simp [List.filter,this]
theorem pk_other {don:List Row}{r:Row}{b:Bool} (h:r.b≠b):pkOf (don++[r]) b=pkOf don b:=by
 unfold pkOf;simp [fil_snoc,h]
theorem pk_A {don:List Row}{r:Row} (h:r.key=ad (!r.b)):pkOf (don++[r]) r.b={ pkOf don r.b with A:=(pkOf don r.b).A++[r.p] }:=by
 unfold pkOf;simp [fil_snoc,h,ad511,ad300]
theorem pk_B {don:List Row}{r:Row} (h:r.key=511):pkOf (don++[r]) r.b={ pkOf don r.b with B:=(pkOf don r.b).B++[r.p] }:=by
 unfold pkOf;simp [fil_snoc,h,Ne.symm (ad511 _)]
theorem pk_C {don:List Row}{r:Row} (h:r.key=300):pkOf (don++[r]) r.b={ pkOf don r.b with C:=(pkOf don r.b).C++[r.p] }:=by
 unfold pkOf;simp [fil_snoc,h,Ne.symm (ad300 _)]
theorem fil_len (rows:List Row) (b:Bool):(fil rows b (ad (!b))).length+(fil rows b 511).length+(fil rows b 300).length<=rows.length:=by
 have a3:=ad300 (!b)
 have a5:=ad511 (!b)
 induction rows with
 | nil=>simp [fil]
 | cons r rows ih=>
   have e:∀ key,(fil (r::rows) b key).length=(fil rows b key).length+if r.b == b&&r.key == key then 1 else 0:=λkey=>by
    unfold fil;rw [List.filter_cons];split <;> simp
   rw [e,e,e,List.length_cons]
   cases hb:(r.b == b)
   ·simp;lia
   ·simp only [Bool.true_and,beq_iff_eq]
    repeat' split
    all_goals lia
theorem pk_ok {least:Int}{rows:List Row} (S:Sepd least rows) (b:Bool):(pkOf rows b).Ok:=by
 refine ⟨?_,?_⟩
 ·have:=fil_len rows b;have:=S.few
  simp only [pkOf,List.length_map];lia
 ·intro p hp
  have:∃ r∈rows,p=r.p:=by
   rcases hp with hp | hp | hp <;> (obtain ⟨r,hr,rfl⟩:=List.mem_map.mp hp;exact ⟨r,(mem_fil.mp hr).1,rfl⟩)
  obtain ⟨r,hr,rfl⟩:=this
  exact S.p r hr
theorem Ask.addr {now:Int}{b:Bool}{key:Int}{p:List UInt8}{σ:St}{es es':List Ent}{rq:List Rq} (h:Ask now b key p σ es es' rq):∀ t∈es',((∃ u∈es,t.q=u.q)\/σ.fresh t.q)/\((∃ u∈es,t.a=u.a)\/σ.fresh t.a):=by
 intro t ht
 cases h with
 | new _ e q ord hk he hq=>
   rcases List.mem_append.mp ht with ht | ht
   ·exact ⟨.inl ⟨t,ht,rfl⟩,.inl ⟨t,ht,rfl⟩⟩
   ·rw [List.mem_singleton.mp ht];exact ⟨.inr hq,.inr he⟩
 | more pre post u hk hl=>
   rcases List.mem_append.mp ht with ht | ht
   ·exact ⟨.inl ⟨t,List.mem_append_left _ ht,rfl⟩,.inl ⟨t,List.mem_append_left _ ht,rfl⟩⟩
   ·rcases List.mem_cons.mp ht with rfl | ht
    ·exact ⟨.inl ⟨u,List.mem_append_right _ (.head _),rfl⟩,.inl ⟨u,List.mem_append_right _ (.head _),rfl⟩⟩
    ·exact ⟨.inl ⟨t,List.mem_append_right _ (.tail _ ht),rfl⟩,.inl ⟨t,List.mem_append_right _ (.tail _ ht),rfl⟩⟩
theorem Ask.rq_ok {now:Int}{b:Bool}{key:Int}{p:List UInt8}{σ:St}{es es':List Ent}{rq:List Rq} (h:Ask now b key p σ es es' rq) (hk:key=ad (!b)\/key=300):∀ f∈rq.map Fd.arp,FdOk b f:=by
 cases h with
 | new _ e q ord hk' he hq=>intro f hf;rw [List.map_cons,List.map_nil] at hf;rw [List.mem_singleton.mp hf];exact .ask key hk
 | more pre post t hk' hl=>intro f hf;cases hf
end
section
set_option maxHeartbeats 1000000
variable {rs:Nat->List V->St->Prop}{Φ:Phi}
noncomputable def bd64a:SL:=(.cons (.ite (.notv (.call 59 (.cons (.var 4) (.cons (.var 7) (.cons (.meth (.idx (.idx (.var 4) (.str "faces")) (.var 7)) 57 (.cons (.var 8) (.cons (.var 9) (.cons (.int 0) .nil)))) (.cons (.int 0) .nil)))))) (.cons (.ret .fls) .nil) .nil) .nil)
structure LoR (lo:Lo) (sc f:Nat):Prop where
 len:lo.length=10
 v4:lo[4]?=some (some (.ref sc))
 v5:lo[5]?=some (some (.ref f))
theorem LoR.set {lo:Lo}{sc f:Nat} (h:LoR lo sc f) (j:Nat) (v:Option V) (hj:6<=j):LoR (lo.set j v) sc f:=⟨by rw [List.length_set];exact h.len,gset h.v4 (by lia),gset h.v5 (by lia)⟩
theorem key_nb {key:Int}{b:Bool} (h:key=ad (!b)\/key=511\/key=300):key≠4294967295:=by
 have:ad (!b)=257\/ad (!b)=258:=by cases b <;> simp [ad]
 lia
theorem turn64 (h39:C39 (Φ 39)) (h59:C59 (Φ 59)) {A:Ad}{least:Int}{fates:List Int}{don:List Row}{r:Row}{rows:List Row}{Y:Sy}{D:Bool->List Fd}{f:Nat}{xs:List V}{lo:Lo}{σ:St}{K:KL} (hF:σ.L f=some xs) (hT:Y.oL f=.no) (hl:least=0\/least=3) (S:Sepd least rows) (hsub:∃ r2,rows=don++r::r2) (R:SysR σ A least fates Y) (V:Inv least (pkOf don) (λø=>0) Y D (4 * don.length) 0) (hh:∀ b,Y.heard b=none)
 (l:LoR lo A.sc f) (v7:lo[7]?=some (some (.int (ix r.b)))) (v8:lo[8]?=some (some (.int r.key))) (v9:lo[9]?=some (some (.bytes r.p)))
 (q:∀ lo' σ' Y' D',LoR lo' A.sc f->σ'.L f=some xs->(∀ a x,σ.T a=some x->σ'.T a=some x)->Y'.oL f=.no->SysR σ' A least fates Y'->Inv least (pkOf (don++[r])) (λø=>0) Y' D' (4 * (don++[r]).length) 0->(∀ b,Y'.heard b=none)->K .nx lo' σ'):wpSL (tabsP rs) Φ bd64a lo σ K:=by
 obtain ⟨r2,er⟩:=hsub
 have hr:r∈rows:=by rw [er];exact List.mem_append_right _ (.head _)
 have hk:=S.key r hr
 have hp:=S.p r hr
 have dl:don.length<=1:=by have:=S.few;rw [er,List.length_append,List.length_cons] at this;lia
 have fl:=fil_len don r.b
 have E:=V.E r.b
 have kk:=(R.F r.b).T.kk
 have b1:=V.b1
 have b2:=V.b2 r.b
 have e4:4 * (don++[r]).length=4 * don.length+4:=by rw [List.length_append,List.length_singleton];lia
 have fin:∀ (Y1:Sy) (fd:List Fd) (trs':List Tr) (lo:Lo) (τ:St),LoR lo A.sc f->τ.L f=some xs->(∀ a x,σ.T a=some x->τ.T a=some x)->Y1.oL f=.no->SysR τ A least fates { Y1 with sent:=upB Y1.sent r.b (Y1.sent r.b++fd.map (enc r.b least)),trs:=trs' }->(∀ o∈fd,FdOk r.b o)->fd.length<=1->MoreT r.b (fd.map (enc r.b least)) Y1.trs trs'->Y1.sent=Y.sent->Y1.trs=Y.trs->Y1.lost=Y.lost->Y1.heard=Y.heard->(∀ b,b≠r.b->Y1.es b=Y.es b)->wq (Y1.es r.b)<=wq (Y.es r.b)+1 ->
  EndI (pkOf (don++[r]) r.b) r.b 0 (Y1.es r.b) (D r.b++fd) (Y.lost r.b) none->K .nx lo τ:=by
  intro Y1 fd trs' lo τ l kp kt ko R' ok lf mt es et el eh ee ew E'
  have nb:(!r.b)≠r.b:=by cases r.b <;> decide
  have fl':(fd.map (enc r.b least)).length<=1:=by rw [List.length_map];exact lf
  refine q lo τ { Y1 with sent:=upB Y1.sent r.b (Y1.sent r.b++fd.map (enc r.b least)),trs:=trs' } (upB D r.b (D r.b++fd)) l kp kt ko R' ⟨allB r.b ?_ ?_,allB r.b ?_ ?_,allB r.b ?_ ?_,?_,?_,allB r.b ?_ ?_⟩ (by intro b;show Y1.heard b=none;rw [eh];exact hh b)
  ·simp only [upB_eq];rw [el,eh,hh];exact E'
  ·simp only [upB_ne];rw [pk_other (Ne.symm nb),el,eh,ee _ nb];exact V.E _
  ·simp only [upB_eq];rw [es,V.sent r.b,List.map_append]
  ·simp only [upB_ne];rw [es];exact V.sent _
  ·simp only [upB_eq];exact λo ho=>(List.mem_append.mp ho).elim (V.ok _ o) (ok o)
  ·simp only [upB_ne];exact V.ok _
  ·rw [et] at mt
   refine T_more (b:=r.b) V.T (allB r.b ?_ ?_) ?_ mt
   ·intro o ho;rw [upB_eq];exact List.mem_append_left _ ho
   ·intro o ho;rw [upB_ne];exact ho
   ·intro o ho;rw [upB_eq];exact List.mem_append_right _ ho
  ·have t1:=mt.1
   rw [et] at t1
   rw [wq_sum _ r.b] at b1
   simp only [e4]
   rw [wq_sum Y1.es r.b,ee _ nb]
   lia
  ·simp only [upB_eq,e4];rw [es,List.length_append];lia
  ·simp only [upB_ne,e4];rw [es,ee _ nb]
   have:=V.b2 (!r.b);lia
 have fput:f ∉ [A.s r.b,A.bd,A.tr]:=by
  have h1:=tne hT (R.ts r.b) nofun
  have h2:=tne hT R.tbd nofun
  have h3:=tne hT R.ttr nofun
  simp [h1,h2,h3]
 unfold bd64a
 kp_flats
 refine kVar_of l.v4 (kVar_of v7 (kVar_of l.v4 ?_))
 refine R.x_fa ?_
 refine kVar_of v7 ?_
 refine R.x_i ?_
 refine kMeth_of (R.F r.b).i rfl rfl ?_
 kp_flats
 refine kVar_of v8 (kVar_of v9 ?_)
 have na:∀ {a c:Nat}{v},σ.fresh c->σ.L a=some v->c≠a:=λf h=>Ne.symm (fr_L f h)
 obtain ⟨_,_,hbd⟩:=R.L.bdE
 refine h39 _ _ _ _ _ _ _ _ _ _ _ _ _ _ (R.F r.b) (by lia) (by lia) (key_nb hk) ?_
 by_cases k5:r.key=511
 ·refine .inl ⟨k5,λc hc=>?_⟩
  have x0:Ext [] [] [] σ (σ.setL c [.bytes (frameB BC (lk r.b) 2048 r.p least)]):=Ext.setL Ext.refl (.inr hc)
  have hc':(σ.setL c [.bytes (frameB BC (lk r.b) 2048 r.p least)]).L c=some (([Fd.ip BC r.p].map (enc r.b least)).map .bytes):=L_eq
  have okd:∀ o∈[Fd.ip BC r.p],FdOk r.b o:=λo ho=>by rw [List.mem_singleton.mp ho];exact .ip _ _ (.inr rfl) hp
  refine h59 A least fates Y r.b c ([Fd.ip BC r.p].map (enc r.b least)) 0 _ _ (R.keep x0) hc' (by simp [na hc (R.s r.b),na hc hbd,na hc R.L.trE]) ?_ (by simp;lia) (by simp;lia) λσ2 trs' mt y R2=>?_
  ·intro o ho
   obtain ⟨g,hg,rfl⟩:=List.mem_map.mp ho
   cases enc_kind hl (okd g hg) with
   | ip hd tg p e F=>exact ⟨hd,tg,_,p,e,F⟩
   | arp hd tg p op tl tg' e F ha=>exact ⟨hd,tg,_,p,e,F⟩
  ·kp_flats
   refine kIf_f rfl ?_
   rw [q_lnil,q_seqnx,q_lnil]
   refine fin Y [Fd.ip BC r.p] trs' lo σ2 l (y.L _ _ fput (x0.L _ _ (by acc_open) hF)) (λa v h=>y.T a v (x0.T a v h)) hT R2 okd (by acc_open) mt rfl rfl rfl rfl (λø ø=>rfl) (by lia) ?_
   rw [pk_B k5]
   rw [hh] at E
   exact E.bc r.p
 ·have hk':r.key=ad (!r.b)\/r.key=300:=by rcases hk with k | k | k;exact .inl k;exact absurd k k5;exact .inr k
  have l2:=len2 kk E.keys
  have pe:=E.peer0 (hh _) (by decide)
  have ue:=E.un0 (by decide)
  have lA:(pkOf don r.b).A.length<=1:=by simp only [pkOf,List.length_map];lia
  have lC:(pkOf don r.b).C.length<=1:=by simp only [pkOf,List.length_map];lia
  refine .inr ⟨k5,by lia,?_,λc σ1 es' made' rq hc ask x F1 hL1=>?_⟩
  ·intro t ht e
   rcases hk' with k | k
   ·obtain ⟨p1,p2⟩:=pe.2 t ht (e.trans k)
    exact ⟨p1.link,by rw [p2];lia⟩
   ·obtain ⟨p1,p2⟩:=ue.2 t ht (e.trans k)
    exact ⟨p1.link,by rw [p2];lia⟩
  ·obtain ⟨oL,oI,ho,R1⟩:=R.face (b:=r.b) x (λa ha=>.inr (.inl (List.mem_singleton.mp ha))) (λa ha=>by
    obtain ⟨u,hu,e⟩:=List.mem_map.mp ha
    exact ⟨u,hu,e.symm⟩) (λt ht=>(ask.addr t ht).1) (λt ht=>(ask.addr t ht).2) F1
   rw [upB_self] at R1
   have okd:=ask.rq_ok hk'
   have lq:=ask.rq_len
   rw [<- arp_rq] at hL1
   refine h59 A least fates _ r.b c ((rq.map Fd.arp).map (enc r.b least)) 0 _ _ R1 hL1 (by simp [na hc (R.s r.b),na hc hbd,na hc R.L.trE]) ?_ (by simp;lia) (by simp;lia) λσ2 trs' mt y R2=>?_
   ·intro o ho
    obtain ⟨g,hg,rfl⟩:=List.mem_map.mp ho
    cases enc_kind hl (okd g hg) with
    | ip hd tg p e F=>exact ⟨hd,tg,_,p,e,F⟩
    | arp hd tg p op tl tg' e F ha=>exact ⟨hd,tg,_,p,e,F⟩
   ·kp_flats
    refine kIf_f rfl ?_
    rw [q_lnil,q_seqnx,q_lnil]
    have fq:f ∉ (Y.es r.b).map (λø=>ø.q):=λh=>by
     obtain ⟨u,hu,e⟩:=List.mem_map.mp h
     have:=R.tq r.b u hu
     rw [show u.q=f from e,hT] at this;cases this
    refine fin { Y with oL:=oL,oI:=oI,made:=upB Y.made r.b made',es:=upB Y.es r.b es' } (rq.map Fd.arp) trs' lo σ2 l (y.L _ _ fput (x.L _ _ fq hF)) (λa v h=>y.T a v (x.T a v h)) ((ho f (alive_L hF)).trans hT) R2 okd (by rw [List.length_map];exact lq) mt rfl rfl rfl rfl (λb nb=>if_neg nb) (by simp only [upB_eq];rw [ask.wq];lia) ?_
    simp only [upB_eq]
    rw [hh] at E
    rcases hk' with k | k
    ·rw [pk_A k]
     have ask':=ask
     rw [k] at ask'
     exact E.askA kk ask'
    ·rw [pk_C k]
     have ask':=ask
     rw [k] at ask'
     exact E.askC kk ask'
end
section
set_option maxHeartbeats 1000000
variable {rs:Nat->List V->St->Prop}{Φ:Phi}
noncomputable def bd64t:SL:=(.cons (.ite (.notv (.call 61 (.cons (.var 4) (.cons (.var 6) .nil)))) (.cons (.ret .fls) .nil) .nil) .nil)
theorem pow_le {k:Nat} (h:k<=10):2 ^ k<=1024:=Nat.pow_le_pow_right (by decide) h
theorem loop64t (h61:C61 (Φ 61)) {A:Ad}{least:Int}{fates:List Int}{P:Bool->Pk}{f:Nat}{xs:List V}{K:KL} (hl:least=0\/least=3) (hP:∀ b,(P b).Ok) (hf:∀ b,f≠A.s b) (hf':f ∉ [A.bd,A.tr,A.he,A.lo]):∀ (n k:Nat) (Y:Sy) (D:Bool->List Fd) (lo:Lo) (σ:St),k+n=11->SysR σ A least fates Y->Inv least P (λø=>k) Y D (16 * 2 ^ k - 8) 0->LoR lo A.sc f->σ.L f=some xs ->
 (∀ lo' σ' Y' D',LoR lo' A.sc f->σ'.L f=some xs->(∀ a x,σ.T a=some x->σ'.T a=some x)->SysR σ' A least fates Y'->Inv least P (λø=>11) Y' D' 32760 0->K .nx lo' σ')->loopW (.one 6) (λø=>True) (bodyK (tabsP rs) Φ bd64t) K ((List.range' k n).map λ(j:Nat)=>V.int (1+(j:Int))) lo σ
 | 0=>λk Y D lo σ hk R V l hF q=>by
   have:k=11:=by lia
   subst this
   exact lw_nil True.intro (q lo σ Y D l hF (λø ø h=>h) R V)
 | n+1=>λk Y D lo σ hk R V l hF q=>by
   rw [List.range'_succ,List.map_cons]
   refine lw_one True.intro ?_
   rw [q_body]
   unfold bd64t
   have l':=l.set 6 (some (.int (1+(k:Int)))) (by decide)
   have g6:(lo.set 6 (some (.int (1+(k:Int)))))[6]?=some (some (.int (1+(k:Int)))):=List.getElem?_set_self (by rw [l.len];decide)
   generalize lo.set 6 (some (.int (1+(k:Int))))=lo1 at l' g6 |-
   kp_flats
   refine kVar_of l'.v4 (kVar_of g6 ?_)
   have hp:=pow_le (k:=k) (by lia)
   refine h61 A least fates P k Y D (16 * 2 ^ k - 8) _ _ _ R hl hP V (by lia) (by lia) (by lia) λσ1 Y1 D1 k1 R1 V1=>?_
   kp_flats
   refine kIf_f rfl ?_
   rw [q_lnil,q_seqnx,q_lnil,q_lknx]
   have e:2 * (16 * 2 ^ k - 8)+8=16 * 2 ^ (k+1) - 8:=by
    have:2 ^ (k+1)=2 * 2 ^ k:=by rw [Nat.pow_succ];lia
    have:1<=2 ^ k:=Nat.one_le_two_pow
    lia
   rw [e] at V1
   exact loop64t h61 hl hP hf hf' n (k+1) Y1 D1 lo1 σ1 (by lia) R1 V1 l' (k1.L _ _ hf hf' hF) λlo' σ' Y' D' l'' hF' hT' R' V'=>q lo' σ' Y' D' l'' hF' (λa x h=>hT' a x (k1.T a x h)) R' V'
set_option tactic.hygienic true in
theorem loop64r (h39:C39 (Φ 39)) (h59:C59 (Φ 59)) {A:Ad}{least:Int}{fates:List Int}{rows:List Row}{f:Nat}{xs:List V}{K:KL} (hl:least=0\/least=3) (S:Sepd least rows):∀ (todo don:List Row) (vs:List V) (Y:Sy) (D:Bool->List Fd) (lo:Lo) (σ:St),rows=don++todo->RowsR σ vs todo->SysR σ A least fates Y->Inv least (pkOf don) (λø=>0) Y D (4 * don.length) 0->(∀ b,Y.heard b=none)->LoR lo A.sc f->σ.L f=some xs->Y.oL f=.no ->
 (∀ lo' σ' Y' D',LoR lo' A.sc f->σ'.L f=some xs->(∀ a x,σ.T a=some x->σ'.T a=some x)->Y'.oL f=.no->SysR σ' A least fates Y'->Inv least (pkOf rows) (λø=>0) Y' D' (4 * rows.length) 0->K .nx lo' σ')->loopW (.many [7,8,9]) (λτ=>τ.L f=some xs) (bodyK (tabsP rs) Φ bd64a) K vs lo σ
 | []=>λdon ø Y D lo σ er hv R V hh l hF hT q=>by
   cases hv
   rw [List.append_nil] at er
   subst er
   exact lw_nil hF (q lo σ Y D l hF (λø ø h=>h) hT R V)
 | r::todo=>λdon ø Y D lo σ er hv R V hh l hF hT q=>by
   cases hv
   rename_i a vs h1 h2
   refine lw_many hF h1 rfl ?_
   rw [q_body]
   have l':LoR (bindMany [7,8,9] [.int (ix r.b),.int r.key,.bytes r.p] lo) A.sc f:=((l.set 7 _ (by decide)).set 8 _ (by decide)).set 9 _ (by decide)
   refine turn64 h39 h59 hF hT hl S ⟨todo,er⟩ R V hh l' (gset (gset (List.getElem?_set_self (by rw [l.len];decide)) (by decide)) (by decide)) (gset (List.getElem?_set_self (by simp [l.len])) (by decide)) (List.getElem?_set_self (by simp [l.len])) λlo1 σ1 Y1 D1 l1 hF1 hT1 ho1 R1 V1 hh1=>?_
   rw [q_lknx]
   exact loop64r h39 h59 hl S todo (don++[r]) vs Y1 D1 lo1 σ1 (by rw [er];simp) (h2.mono hT1) R1 V1 hh1 l1 hF1 ho1 λlo' σ' Y' D' l'' hF' hT' ho' R' V'=>q lo' σ' Y' D' l'' hF' (λa x h=>hT' a x (hT1 a x h)) ho' R' V'
theorem comp64 (h52:C52 (Φ 52)) {c l:Nat}{k:St->Prop} (hcl:c≠l):∀ (xs:List V) (acc:List Int) (σ:St),SrcR σ c->σ.L l=some (acc.map .int)->(∀ f∈acc,0<=f/\f<64)->acc.length+xs.length<=1000 ->
 (∀ (σ':St) (acc':List Int),Ext [] [c,l] [] σ σ'->SrcR σ' c->σ'.L l=some (acc'.map .int)->(∀ f∈acc',0<=f/\f<64)->acc'.length=acc.length+xs.length->k σ') ->
 compW l (.one 1) (λø=>True) (condK (tabsP rs) Φ .tru) (elemK (tabsP rs) Φ (.call 52 (.cons (.var 0) (.cons (.int 64) .nil)))) [some (.ref c),Option.none] k xs σ
 | []=>λacc σ hS hL ha ø q=>cw_nil True.intro (q σ acc Ext.refl hS hL ha rfl)
 | x::xs=>λacc σ hS hL ha hl q=>by
   rw [List.length_cons] at hl
   refine cw_one True.intro ?_
   rw [q_condK,q_ctru,q_tru,q_ktestb,q_ckt]
   kp_flats
   refine kVar_of rfl ?_
   refine h52 _ _ _ _ hS (by decide) (by decide) λa m r ha0 hr0 hr1=>?_
   obtain ⟨hS1,x1⟩:=hS.put (m:=m) ha0
   have hL1:=x1.L _ _ (by simpa using Ne.symm hcl) hL
   generalize σ.setL c [.int a,.int m]=σ1 at hS1 x1 hL1 |-
   refine compA_of hL1 (by rw [List.length_map];unfold big;lia) ?_
   have x2:Ext [] [c,l] [] σ (σ1.setL l (acc.map .int++[.int r])):=Ext.setL (x1.wide (by acc_open) (λø h=>.inl (by rw [List.mem_singleton.mp h];exact .head _)) (by acc_open)) (.inl ⟨.tail _ (.head _),_,hL1⟩)
   refine comp64 h52 hcl xs (acc++[r]) _ ?_ (by rw [L_eq];simp) ?_ (by simp;lia) λσ' acc' x' hS' hL' ha' e=>q σ' acc' (x2.trans x') hS' hL' ha' (by rw [e];simp;lia)
   ·obtain ⟨a',m',h5,h6⟩:=hS1
    exact ⟨a',m',L_ne hcl h5,h6⟩
   ·intro f hf
    rcases List.mem_append.mp hf with hf | hf
    ·exact ha f hf
    ·rw [List.mem_singleton.mp hf];exact ⟨hr0,hr1⟩
structure AN (σ:St) (as:List Nat):Prop where
 nd:as.Nodup
 al:∀ a∈as,∃ v,σ.L a=some v
theorem AN.push {σ:St}{as:List Nat} (h:AN σ as) {c:Nat} (hc:σ.fresh c) {v:List V}:AN (σ.setL c v) (c::as):=by
 refine ⟨List.nodup_cons.mpr ⟨λm=>?_,h.nd⟩,λa ha=>?_⟩
 ·obtain ⟨v,hv⟩:=h.al c m
  rw [hc.2.1] at hv;cases hv
 ·rcases List.mem_cons.mp ha with rfl | ha
  ·exact ⟨v,L_eq⟩
  ·obtain ⟨w,hw⟩:=h.al a ha
   exact ⟨w,L_ne (fr_L hc hw) hw⟩
theorem AN.ext {σ τ:St}{as:List Nat} (h:AN σ as) {SI SL SD:List Nat} (x:Ext SI SL SD σ τ) (n:∀ a∈as,a ∉ SL):AN τ as:=⟨h.nd,λa ha=>by obtain ⟨v,hv⟩:=h.al a ha;exact ⟨v,x.L _ _ (n a ha) hv⟩⟩
theorem AN.add {σ τ:St}{as:List Nat} (h:AN σ as) {SI SL SD:List Nat} (x:Ext SI SL SD σ τ) (n:∀ a∈as,a ∉ SL) {c:Nat} (hc:σ.fresh c) {v} (hv:τ.L c=some v):AN τ (c::as):=by
 refine ⟨List.nodup_cons.mpr ⟨λm=>?_,h.nd⟩,λa ha=>?_⟩
 ·obtain ⟨v,hv⟩:=h.al c m
  rw [hc.2.1] at hv;cases hv
 ·rcases List.mem_cons.mp ha with rfl | ha
  ·exact ⟨v,hv⟩
  ·exact (h.ext x n).al a ha
theorem tags (as:List (Nat×Tg)) (h:(as.map (λø=>ø.1)).Nodup):∃ oL:Nat->Tg,(∀ p∈as,oL p.1=p.2)/\∀ a,a ∉ as.map (λø=>ø.1)->oL a=.no:=by
 induction as with
 | nil=>exact ⟨λø=>.no,by simp,λø ø=>rfl⟩
 | cons p as ih=>
   rw [List.map_cons,List.nodup_cons] at h
   obtain ⟨oL,h1,h2⟩:=ih h.2
   refine ⟨λa=>if a=p.1 then p.2 else oL a,λq hq=>?_,λa ha=>?_⟩
   ·rcases List.mem_cons.mp hq with rfl | hq
    ·exact if_pos rfl
    ·have:q.1≠p.1:=λe=>h.1 (e ▸ List.mem_map.mpr ⟨q,hq,rfl⟩)
     exact (if_neg this).trans (h1 q hq)
   ·rw [List.map_cons,List.mem_cons,not_or] at ha
    exact (if_neg ha.1).trans (h2 a ha.2)
end
section
set_option maxHeartbeats 2000000
variable {rs:Nat->List V->St->Prop}{Φ:Phi}
noncomputable def v7:SL:=.cons (.loop (.one 6) (.rng2 (.int 1) (.int 12)) bd64t) (.cons (.ret (.call 63 (.cons (.var 4) (.cons (.var 5) .nil)))) .nil)
noncomputable def v6:SL:=.cons (.loop (.many [7,8,9]) (.obj (.var 5)) bd64a) v7
noncomputable def v5:SL:=.cons (.asg 5 (.call 56 (.cons (.var 1) .nil))) v6
noncomputable def v4:SL:=.cons (.asg 4 (.dict [.str "faces",.str "line",.str "sent",.str "lost"] (.cons (.call 55 (.cons (.var 1) .nil)) (.cons (.var 3) (.cons (.list (.cons (.list .nil) (.cons (.list .nil) .nil))) (.cons (.list (.cons (.list .nil) (.cons (.list .nil) .nil))) .nil)))))) (.cons (.setI (.var 4) (.str "heard") (.list (.cons .nil (.cons .nil .nil)))) v5)
theorem inv0 (least:Int) (Y:Sy) (h1:∀ b,Y.es b=[]) (h2:∀ b,Y.sent b=[]) (h3:∀ b,Y.lost b=[]) (h4:∀ b,Y.heard b=none) (h5:Y.trs=[]):Inv least (pkOf []) (λø=>0) Y (λø=>[]) (4 * ([]:List Row).length) 0:=by
 refine ⟨λb=>?_,λb=>by rw [h2];rfl,λb f hf=>(by cases hf),λt ht=>(by rw [h5] at ht;cases ht),by rw [h1,h1,h5];simp [wq],λb=>by rw [h1,h2];simp [wq]⟩
 rw [h1,h3,h4];exact EndI.init b
theorem run64 (h39:C39 (Φ 39)) (h59:C59 (Φ 59)) (h61:C61 (Φ 61)) (h63:C63 (Φ 63)) {A:Ad}{least:Int}{fates:List Int}{rows:List Row}{Y:Sy}{f:Nat}{xs:List V}{lo:Lo}{σ:St}{k:KV} (hl:least=0\/least=3) (hrows:RowsOk rows) (R:SysR σ A least fates Y) (h1:∀ b,Y.es b=[]) (h2:∀ b,Y.sent b=[]) (h3:∀ b,Y.lost b=[]) (h4:∀ b,Y.heard b=none) (h5:Y.trs=[]) (hR:RowsR σ xs rows) (hF:σ.L f=some xs) (hT:Y.oL f=.no) (l:LoR lo A.sc f)
 (h:∀ σ',k (.bool true) σ'):wpSL (tabsP rs) Φ v6 lo σ (retK k):=by
 have S:=sepd_of (least:=least) hrows
 have hP:=pk_ok S
 unfold v6
 kp_flats
 refine kVar_of l.v5 ?_
 refine kObj_L hF ?_
 refine loop64r h39 h59 hl S rows [] xs Y (λø=>[]) lo σ rfl hR R (inv0 least Y h1 h2 h3 h4 h5) h4 l hF hT λlo1 σ1 Y1 D1 l1 hF1 hT1 ho1 R1 V1=>?_
 have few:=S.few
 have V1':Inv least (pkOf rows) (λø=>0) Y1 D1 (16 * 2 ^ 0 - 8) 0:=⟨V1.E,V1.sent,V1.ok,V1.T,Nat.le_trans V1.b1 (by lia),λb=>Nat.le_trans (V1.b2 b) (by lia)⟩
 rw [q_seqnx]
 unfold v7
 kp_flats
 refine ⟨by decide,by unfold big;lia,by decide,by unfold big;lia,?_⟩
 have er:rangeL 1 12=(List.range' 0 11).map λ(j:Nat)=>V.int (1+(j:Int)):=by
  unfold rangeL;rw [List.range_eq_range'];rfl
 rw [er]
 have hs:∀ b,f≠A.s b:=λb=>tne ho1 (R1.ts b) nofun
 have hf':f ∉ [A.bd,A.tr,A.he,A.lo]:=by
  have e1:=tne ho1 R1.tbd nofun
  have e2:=tne ho1 R1.ttr nofun
  have e3:=tne ho1 R1.the nofun
  have e4:=tne ho1 R1.tlo nofun
  simp [e1,e2,e3,e4]
 refine loop64t h61 hl hP hs hf' 11 0 Y1 D1 lo1 σ1 rfl R1 V1' l1 hF1 λlo2 σ2 Y2 D2 l2 hF2 hT2 R2 V2=>?_
 kp_flats
 refine kVar_of l2.v4 (kVar_of l2.v5 ?_)
 refine h63 A least fates Y2 D2 f xs rows _ _ hl R2 V2.sent V2.ok (λb=>?_) (λb=>?_) (rowsF_of S V2.E (by decide)) hF2 ((hR.mono hT1).mono hT2) λσ'=>?_
 ·have:=V2.b2 b
  have e:=congrArg List.length (V2.sent b)
  rw [List.length_map] at e;lia
 ·have:=((V2.E b).lost1 (by decide)).length_eq
  have pl:=(hP b).len
  rw [this,List.length_append]
  split <;> simp <;> lia
 ·exact retK_same (h σ')
noncomputable def C64 (Φ:Ph):Prop:=∀ (s:Nat) (xs:List Int) σ k,σ.F s=some (xs.map .int)->σ.L s=none->σ.D s=none->σ.T s=none->(∀ σ',k (.bool true) σ')->Φ [.ref s] σ k
theorem fc {p:Nat->Prop}{a:Nat}{l:List Nat} (h:p a) (k:∀ b∈l,p b):∀ b∈a::l,p b:=List.forall_mem_cons.mpr ⟨h,k⟩
theorem b64 (h39:C39 (Φ 39)) (h45:C45 (Φ 45)) (h51:C51 (Φ 51)) (h52:C52 (Φ 52)) (h55:C55 (Φ 55)) (h56:C56 (Φ 56)) (h59:C59 (Φ 59)) (h61:C61 (Φ 61)) (h63:C63 (Φ 63)):C64 (fW rs Φ 1 10 bd64):=by
 intro s xs σ k hF hL hD hT h
 refine fW_of rfl ?_
 have e1:bd64=.cons (.asg 1 (.call 51 (.cons (.var 0) (.cons (.int 0) .nil)))) (.cons (.asg 2 (.comp [1] 1 (.one 1) (.rng1 (.bin .add (.int 1) (.call 52 (.cons (.var 1) (.cons (.int 4) .nil))))) .tru (.call 52 (.cons (.var 0) (.cons (.int 64) .nil))))) (.cons (.asg 3 (.newk 8 (.cons (.var 2) (.cons (.int 1) (.cons (.int 2) .nil))) "most_bad" (.int 1))) v4)):=rfl
 rw [e1]
 kp_flats
 refine kVar_of rfl ?_
 refine h51 _ _ _ _ hF hL hD hT λc a m hc ha=>?_
 have hS0:SrcR (σ.setL c [.int a,.int m]) c:=⟨a,m,L_eq,ha⟩
 kp_flats
 generalize σ.setL c [.int a,.int m]=σ0 at hS0 |-
 refine kVar_of rfl ?_
 refine h52 _ _ _ _ hS0 (by decide) (by decide) λa1 m1 r ha1 hr0 hr1=>?_
 obtain ⟨hS1,x1⟩:=hS0.put (m:=m1) ha1
 generalize σ0.setL c [.int a1,.int m1]=σ1 at hS1 x1 |-
 refine b_add ?_
 refine kRng1_of (by lia) (by unfold big;lia) ?_
 intro l hl
 have hcl:c≠l:=by obtain ⟨a,m,hL,_⟩:=hS1;exact fr_L hl hL
 have hlen:(rangeL 0 (1+r)).length=(1+r).toNat:=by unfold rangeL;simp
 refine comp64 h52 hcl _ [] _ (hS1.ext (Ext.setL Ext.refl (.inr hl):Ext [] [] [] σ1 _) (by acc_open)) L_eq (by acc_open) (by rw [hlen];simp;lia) λσ2 fates x2 hS2 hL2 hft hfl=>?_
 rw [List.length_nil,hlen,Nat.zero_add] at hfl
 refine kVar_of rfl ?_
 intro ln hln
 have hcln:(σ2.setI ln (8,[])).L c=σ2.L c:=rfl
 refine h45 _ _ _ _ _ I_eq (L_of_I hL2) hft (by lia) (by lia) λσ3 ft nu bd tr fft fnu fbd ftr x3 L3=>⟨rfl,?_⟩
 have hS3:SrcR σ3 c:=by
  obtain ⟨a,m,q1,q2⟩:=hS2
  exact ⟨a,m,x3.L _ _ (by acc_open) q1,q2⟩
 have nc:∀ {x},(σ2.setI ln (8,[])).fresh x->x≠c:=λf e=>by
  obtain ⟨a,m,q1,_⟩:=hS2
  rw [e] at f
  have:=f.2.1;rw [show (σ2.setI ln (8,[])).L c=some _ from q1] at this;cases this
 have ncnu:=nc fnu
 have ncbd:=nc fbd
 have nctr:=nc ftr
 obtain ⟨_,_,hbd3⟩:=L3.bdE
 have an3:AN σ3 [tr,bd,nu]:=⟨by simp [Ne.symm L3.n1,Ne.symm L3.n2,Ne.symm L3.n3],λa ha=>by
  simp only [List.mem_cons,List.not_mem_nil,or_false] at ha
  rcases ha with rfl | rfl | rfl
  ·exact ⟨_,L3.trE⟩
  ·exact ⟨_,hbd3⟩
  ·exact ⟨_,L3.nuE⟩⟩
 show wpSL (tabsP rs) Φ v4 ((((lo0 10 [.ref s]).set 1 (some (.ref c))).set 2 (some (.ref l))).set 3 (some (.ref ln))) σ3 (retK k)
 have w1:((((lo0 10 [.ref s]).set 1 (some (.ref c))).set 2 (some (.ref l))).set 3 (some (.ref ln)))[1]?=some (some (.ref c)):=rfl
 have w3:((((lo0 10 [.ref s]).set 1 (some (.ref c))).set 2 (some (.ref l))).set 3 (some (.ref ln)))[3]?=some (some (.ref ln)):=rfl
 have wl:((((lo0 10 [.ref s]).set 1 (some (.ref c))).set 2 (some (.ref l))).set 3 (some (.ref ln))).length=10:=rfl
 generalize (((lo0 10 [.ref s]).set 1 (some (.ref c))).set 2 (some (.ref l))).set 3 (some (.ref ln))=lo3 at w1 w3 wl |-
 unfold v4
 kp_flats
 refine kVar_of w1 ?_
 refine h55 _ _ _ hS3 λfa σ4 least i0 arp0 tab0 en0 i1 arp1 tab1 en1 hle ffa x4 hS4 hFa F0 F1 ni nt ne=>?_
 have cn:∀ a∈[tr,bd,nu],a ∉ [c]:=λa ha=>by
  simp only [List.mem_cons,List.not_mem_nil,or_false] at ha |-
  rcases ha with rfl | rfl | rfl
  ·exact nctr
  ·exact ncbd
  ·exact ncnu
 have L4:LineR σ4 ln ft nu bd tr fates []:=L3.ext x4 (by acc_open) (by acc_open) (by acc_open) (cn _ (by acc_open)) (cn _ (by acc_open)) (cn _ (by acc_open))
 have an4:AN σ4 [fa,tr,bd,nu]:=an3.add x4 cn ffa hFa
 refine kVar_of w3 ?_
 refine kList_of (by acc_open) λs0 hs0=>?_
 have y5:Ext [] [] [] σ4 (σ4.setL s0 []):=Ext.setL Ext.refl (.inr hs0)
 have Vs0:(σ4.setL s0 []).L s0=some []:=L_eq
 have an5:=an4.push (v:=[]) hs0
 generalize σ4.setL s0 []=σ5 at y5 Vs0 an5 |-
 refine kList_of (by acc_open) λs1 hs1=>?_
 have y6:Ext [] [] [] σ5 (σ5.setL s1 []):=Ext.setL Ext.refl (.inr hs1)
 have Vs1:(σ5.setL s1 []).L s1=some []:=L_eq
 have an6:=an5.push (v:=[]) hs1
 generalize σ5.setL s1 []=σ6 at y6 Vs1 an6 |-
 refine kList_of (by acc_open) λse hse=>?_
 have y7:Ext [] [] [] σ6 (σ6.setL se [.ref s0,.ref s1]):=Ext.setL Ext.refl (.inr hse)
 have Vse:(σ6.setL se [.ref s0,.ref s1]).L se=some [.ref s0,.ref s1]:=L_eq
 have an7:=an6.push (v:=[.ref s0,.ref s1]) hse
 generalize σ6.setL se [.ref s0,.ref s1]=σ7 at y7 Vse an7 |-
 refine kList_of (by acc_open) λl0 hl0=>?_
 have y8:Ext [] [] [] σ7 (σ7.setL l0 []):=Ext.setL Ext.refl (.inr hl0)
 have Vl0:(σ7.setL l0 []).L l0=some []:=L_eq
 have an8:=an7.push (v:=[]) hl0
 generalize σ7.setL l0 []=σ8 at y8 Vl0 an8 |-
 refine kList_of (by acc_open) λl1 hl1=>?_
 have y9:Ext [] [] [] σ8 (σ8.setL l1 []):=Ext.setL Ext.refl (.inr hl1)
 have Vl1:(σ8.setL l1 []).L l1=some []:=L_eq
 have an9:=an8.push (v:=[]) hl1
 generalize σ8.setL l1 []=σ9 at y9 Vl1 an9 |-
 refine kList_of (by acc_open) λlo hlo=>?_
 have y10:Ext [] [] [] σ9 (σ9.setL lo [.ref l0,.ref l1]):=Ext.setL Ext.refl (.inr hlo)
 have Vlo:(σ9.setL lo [.ref l0,.ref l1]).L lo=some [.ref l0,.ref l1]:=L_eq
 have an10:=an9.push (v:=[.ref l0,.ref l1]) hlo
 generalize σ9.setL lo [.ref l0,.ref l1]=σ10 at y10 Vlo an10 |-
 refine kDict_of rfl (by acc_open) λsc hsc=>?_
 have y11:Ext [] [] [] σ10 (σ10.setD sc (([DK.str "faces",DK.str "line",DK.str "sent",DK.str "lost"].map DK.v).zip [.ref fa,.ref ln,.ref se,.ref lo])):=Ext.setD Ext.refl (.inr hsc)
 have Dsc:(σ10.setD sc (([DK.str "faces",DK.str "line",DK.str "sent",DK.str "lost"].map DK.v).zip [.ref fa,.ref ln,.ref se,.ref lo])).D sc=some (([DK.str "faces",DK.str "line",DK.str "sent",DK.str "lost"].map DK.v).zip [.ref fa,.ref ln,.ref se,.ref lo]):=D_eq
 have Lsc:(σ10.setD sc (([DK.str "faces",DK.str "line",DK.str "sent",DK.str "lost"].map DK.v).zip [.ref fa,.ref ln,.ref se,.ref lo])).L sc=none:=hsc.2.1
 have Tsc:(σ10.setD sc (([DK.str "faces",DK.str "line",DK.str "sent",DK.str "lost"].map DK.v).zip [.ref fa,.ref ln,.ref se,.ref lo])).T sc=none:=hsc.2.2.1
 have an11:=an10.ext y11 (by acc_open)
 have nsc:∀ {a:Nat}{d},σ4.D a=some d->sc≠a:=λh=>Ne.symm (fr_D (y5.al _ (y6.al _ (y7.al _ (y8.al _ (y9.al _ (y10.al _ hsc)))))) h)
 generalize σ10.setD sc (([DK.str "faces",DK.str "line",DK.str "sent",DK.str "lost"].map DK.v).zip [.ref fa,.ref ln,.ref se,.ref lo])=σ11 at y11 Dsc Lsc Tsc an11 |-
 have g4:(lo3.set 4 (some (.ref sc)))[4]?=some (some (.ref sc)):=List.getElem?_set_self (by rw [wl];decide)
 have g1:(lo3.set 4 (some (.ref sc)))[1]?=some (some (.ref c)):=gset w1 (by decide)
 have gl:(lo3.set 4 (some (.ref sc))).length=10:=by simp [wl]
 kp_flats
 generalize lo3.set 4 (some (.ref sc))=lo4 at g4 g1 gl |-
 refine kList_of (by acc_open) λhe hhe=>?_
 have y12:Ext [] [] [] σ11 (σ11.setL he [.none,.none]):=Ext.setL Ext.refl (.inr hhe)
 have Vhe:(σ11.setL he [.none,.none]).L he=some [.none,.none]:=L_eq
 have an12:=an11.push (v:=[.none,.none]) hhe
 have Lsc2:=alive_nL y12 Dsc Lsc
 have Tsc2:=alive_nT y12 Dsc Tsc
 have Dsc2:=y12.D _ _ (by acc_open) Dsc
 generalize σ11.setL he [.none,.none]=σ12 at y12 Vhe an12 Lsc2 Tsc2 Dsc2 |-
 refine kVar_of g4 ?_
 refine p_D Dsc2 Lsc2 (by with_unfolding_all rfl) (by unfold big;simp) ?_
 obtain ⟨A,hA⟩:∃ A:Ad,A=⟨sc,fa,se,lo,he,ln,ft,nu,bd,tr,λb=>if b then s1 else s0,λb=>if b then i1 else i0,λb=>if b then arp1 else arp0,λb=>if b then tab1 else tab0,λb=>if b then en1 else en0⟩:=⟨_,rfl⟩
 have ed:dput (.str (Str.ofString "heard")) (.ref he) (([DK.str "faces",DK.str "line",DK.str "sent",DK.str "lost"].map DK.v).zip [.ref fa,.ref ln,.ref se,.ref lo])=scD A:=by
  rw [hA];with_unfolding_all rfl
 rw [ed]
 have t11:=y11.trans y12
 have t10:=y10.trans t11
 have t9:=y9.trans t10
 have t8:=y8.trans t9
 have t7:=y7.trans t8
 have t6:=y6.trans t7
 have t5:=y5.trans t6
 have fsc:σ4.fresh sc:=y5.al _ (y6.al _ (y7.al _ (y8.al _ (y9.al _ (y10.al _ hsc)))))
 have t4:Ext [] [] [] σ4 (σ12.setD sc (scD A)):=Ext.setD t5 (.inr fsc)
 have U0:(σ12.setD sc (scD A)).L s0=some []:=t6.L _ _ (by acc_open) Vs0
 have U1:(σ12.setD sc (scD A)).L s1=some []:=t7.L _ _ (by acc_open) Vs1
 have Use:(σ12.setD sc (scD A)).L se=some [.ref s0,.ref s1]:=t8.L _ _ (by acc_open) Vse
 have Ul0:(σ12.setD sc (scD A)).L l0=some []:=t9.L _ _ (by acc_open) Vl0
 have Ul1:(σ12.setD sc (scD A)).L l1=some []:=t10.L _ _ (by acc_open) Vl1
 have Ulo:(σ12.setD sc (scD A)).L lo=some [.ref l0,.ref l1]:=t11.L _ _ (by acc_open) Vlo
 have Uhe:(σ12.setD sc (scD A)).L he=some [.none,.none]:=Vhe
 have Usc:(σ12.setD sc (scD A)).D sc=some (scD A):=D_eq
 have UscL:(σ12.setD sc (scD A)).L sc=none:=Lsc2
 have UscT:(σ12.setD sc (scD A)).T sc=none:=Tsc2
 have an13:AN (σ12.setD sc (scD A)) [he,lo,l1,l0,se,s1,s0,fa,tr,bd,nu]:=⟨an12.nd,an12.al⟩
 have nfc:∀ {τ:St}{a:Nat},(∀ a,τ.fresh a->σ4.fresh a)->τ.fresh a->a≠c:=λh f e=>by
  obtain ⟨_,_,q1,_⟩:=hS4
  have:=(h _ f).2.1
  rw [e,q1] at this;cases this
 have c0:s0≠c:=nfc (λø h=>h) hs0
 have c1:s1≠c:=nfc y5.al hs1
 have c2:se≠c:=nfc (y5.trans y6).al hse
 have c3:l0≠c:=nfc ((y5.trans y6).trans y7).al hl0
 have c4:l1≠c:=nfc (((y5.trans y6).trans y7).trans y8).al hl1
 have c5:lo≠c:=nfc ((((y5.trans y6).trans y7).trans y8).trans y9).al hlo
 have c6:he≠c:=nfc ((((((y5.trans y6).trans y7).trans y8).trans y9).trans y10).trans y11).al hhe
 have c7:fa≠c:=by
  obtain ⟨_,_,q1,_⟩:=hS3
  exact λe=>by rw [e] at ffa;have:=ffa.2.1;rw [q1] at this;cases this
 have nc1:∀ {x:Nat},x≠c->x ∉ [c]:=λh m=>(List.mem_cons.mp m).elim h List.not_mem_nil
 have cs:∀ a∈[he,lo,l1,l0,se,s1,s0,fa,tr,bd,nu],a ∉ [c]:=
  fc (nc1 c6) <| fc (nc1 c5) <| fc (nc1 c4) <| fc (nc1 c3) <| fc (nc1 c2) <| fc (nc1 c1) <| fc (nc1 c0) <| fc (nc1 c7) <| fc (nc1 nctr) <| fc (nc1 ncbd) <| fc (nc1 ncnu) λø h=>absurd h List.not_mem_nil
 have hS13:=hS4.ext t4 (by acc_open)
 generalize σ12.setD sc (scD A)=σ13 at t4 U0 U1 Use Ul0 Ul1 Ulo Uhe Usc UscL UscT an13 hS13 |-
 show wpSL (tabsP rs) Φ v5 lo4 σ13 (retK k)
 unfold v5
 kp_flats
 refine kVar_of g1 ?_
 refine h56 _ _ _ hS13 λf σ14 xs' rows hf x14 hS14 hrows hF14 hR14=>?_
 have an14:=an13.ext x14 cs
 have xx:Ext [] [c] [] σ4 σ14:=(t4.wide (by acc_open) (by acc_open) (by acc_open)).trans x14
 have e14:∀ {a v},a≠c->σ13.L a=some v->σ14.L a=some v:=λn h=>x14.L _ _ (by simpa using n) h
 obtain ⟨oL,o1,o2⟩:=tags [(he,.he),(lo,.lo),(l1,.l true),(l0,.l false),(se,.se),(s1,.s true),(s0,.s false),(fa,.fa),(tr,.tr),(bd,.bd),(nu,.nu)] an14.nd
 have hfn:f ∉ [he,lo,l1,l0,se,s1,s0,fa,tr,bd,nu]:=λm=>by
  obtain ⟨v,hv⟩:=an13.al f m
  rw [hf.2.1] at hv;cases hv
 have L14:LineR σ14 ln ft nu bd tr fates []:=L4.ext xx (by acc_open) (by acc_open) (by acc_open) (cn _ (by acc_open)) (cn _ (by acc_open)) (cn _ (by acc_open))
 have F014:=F0.ext xx (by acc_open) (by acc_open) (by acc_open) (by acc_open) λt ht=>(by cases ht)
 have F114:=F1.ext xx (by acc_open) (by acc_open) (by acc_open) (by acc_open) λt ht=>(by cases ht)
 have nit1:i0≠tab1:=ne_cls F0.i F1.T.tab (by decide)
 have nti1:tab0≠i1:=ne_cls F0.T.tab F1.i (by decide)
 have R:SysR σ14 A least fates ⟨oL,λx=>decide (x=i1\/x=tab1),λb=>if b then l1 else l0,λø=>0,λø=>0,λø=>[],λø=>[],λø=>[],λø=>none,[]⟩:=by
  subst hA
  exact {
   sc:=x14.D _ _ (by acc_open) Usc
   scL:=alive_nL x14 Usc UscL
   scT:=alive_nT x14 Usc UscT
   fa:=xx.L _ _ (by simpa using c7) hFa
   se:=e14 c2 Use
   lo:=e14 c5 Ulo
   he:=e14 c6 Uhe
   s:=λb=>by cases b;exact e14 c0 U0;exact e14 c1 U1
   l:=λb=>by cases b;exact e14 c3 Ul0;exact e14 c4 Ul1
   F:=λb=>by cases b;exact F014;exact F114
   L:=L14
   tfa:=o1 (fa,.fa) (by acc_open)
   tse:=o1 (se,.se) (by acc_open)
   tlo:=o1 (lo,.lo) (by acc_open)
   the:=o1 (he,.he) (by acc_open)
   tbd:=o1 (bd,.bd) (by acc_open)
   ttr:=o1 (tr,.tr) (by acc_open)
   tnu:=o1 (nu,.nu) (by acc_open)
   ts:=λb=>by cases b;exact o1 (s0,.s false) (by acc_open);exact o1 (s1,.s true) (by acc_open)
   tl:=λb=>by cases b;exact o1 (l0,.l false) (by acc_open);exact o1 (l1,.l true) (by acc_open)
   tq:=λb t ht=>by cases ht
   ti:=λb=>by cases b;simp [ni,nit1];simp
   tt:=λb=>by cases b;simp [nt,nti1];simp
   ta:=λb t ht=>by cases ht
   ne:=λb=>by cases b;exact ne;exact Ne.symm ne
   nsc:=λb=>by cases b;exact nsc F0.T.d;exact nsc F1.T.d }
 have lr:LoR (lo4.set 5 (some (.ref f))) A.sc f:=⟨by simp [gl],by rw [hA];exact gset g4 (by decide),List.getElem?_set_self (by rw [gl];decide)⟩
 exact run64 h39 h59 h61 h63 hle hrows R (λø=>rfl) (λø=>rfl) (λø=>rfl) (λø=>rfl) rfl hR14 hF14 (o2 f (by simpa using hfn)) lr h
end
section
section
variable {W:Wd}{Φ Ψ:Phi}
noncomputable def Bears2 (TB:Tabs) (Ψ Φ:Phi) (g ar n:Nat) (bd:SL):Prop:=∀ vs σ k,Ψ g vs σ k->vs.length=ar/\wpSL TB Φ bd (lo0 n vs) σ (retK k)
theorem call_ok2 {d:FnData}{g ar:Nat}{vt:List Str}{bd:SL} (F:FnOk W d g ar vt bd) (T:NOk W) (B:Below W Φ g) (Z:Errs W Φ g) (hb:Bears2 W.N.TB Ψ Φ g ar vt.length bd)
 (binds:∀ (us:List Value) (s:Shared),us.length=ar->W.K.In s.heap->BindsTo s d.fd ⟨us,[]⟩ ((vt.take ar).zip us)):CallOK W Ψ g:=by
 intro A fl L m X σ s R k us vs hA hfx H hvs hφ K
 obtain ⟨h1,h2⟩:=hb vs σ k hφ
 refine call_core F T B Z hA hfx H hvs h1 (binds us s (hvs.len.trans h1) H.inK) h2 (λu fl' lo' h' t' σ' H' hu w=>?_) λø ø ø ø ø ø ø ø ø ø ø ø ø ø ø ø ø ø ø ø ø w=>w.elim
 rcases hu with ⟨rfl,rfl⟩ | ⟨v,rfl,hu⟩
 ·obtain ⟨τ,hs,hk⟩:=w
  exact K .none .none h' t' τ rfl (H'.sub hs) hk
 ·obtain ⟨τ,hs,hk⟩:=w
  exact K u v h' t' τ hu (H'.sub hs) hk
theorem call_kw2 {d:FnData}{g ar:Nat}{vt:List Str}{bd:SL}{w:Str} (F:FnOk W d g ar vt bd) (T:NOk W) (B:Below W Φ g) (Z:Errs W Φ g) (hb:Bears2 W.N.TB Ψ Φ g ar vt.length bd)
 (binds:∀ (us:List Value) (u₀:Value) (s:Shared),us.length+1=ar->W.K.In s.heap->BindsTo s d.fd ⟨us,[(w,u₀)]⟩ ((vt.take ar).zip (us++[u₀]))):CallKW W Ψ g w:=by
 intro A fl L m X σ s R k us vs u₀ v₀ hA hfx H hvs hv₀ hφ K
 obtain ⟨h1,h2⟩:=hb _ σ k hφ
 have hvs':Vs (us++[u₀]) (vs++[v₀]):=hvs.app (Vs.cons hv₀ Vs.nil)
 refine call_core F T B Z hA hfx H hvs' h1 (binds us u₀ s (by have:=hvs'.len.trans h1;simpa using this) H.inK) h2 (λu fl' lo' h' t' σ' H' hu w=>?_) λø ø ø ø ø ø ø ø ø ø ø ø ø ø ø ø ø ø ø ø ø w=>w.elim
 rcases hu with ⟨rfl,rfl⟩ | ⟨v,rfl,hu⟩
 ·obtain ⟨τ,hs,hk⟩:=w
  exact K .none .none h' t' τ rfl (H'.sub hs) hk
 ·obtain ⟨τ,hs,hk⟩:=w
  exact K u v h' t' τ hu (H'.sub hs) hk
end
noncomputable def bodyN (n:Nat):Nat×List String×SL:=bodies.getD n (0,[],.nil)
noncomputable def PhiN:Nat->Phi
 | 0=>λø ø ø ø=>False
 | n+1=>λg=>if g=n then fW rsP (PhiN n) (bodyN n).1 (bodyN n).2.1.length (bodyN n).2.2 else PhiN n g
theorem PhiN_mk {n:Nat}:PhiN (n+1) n=fW rsP (PhiN n) (bodyN n).1 (bodyN n).2.1.length (bodyN n).2.2:=if_pos rfl
theorem PhiN_step {n g:Nat} (h:g≠n):PhiN (n+1) g=PhiN n g:=if_neg h
theorem PhiN_eq {g:Nat}:∀ {m:Nat},g<m->PhiN m g=PhiN (g+1) g
 | 0,h=>absurd h (Nat.not_lt_zero _)
 | m+1,h=>by
   by_cases e:g=m
   ·subst e;rfl
   ·rw [PhiN_step e];exact PhiN_eq (by lia)
theorem bears_N (n:Nat):Bears2 (tabsP rsP) (PhiN (n+1)) (PhiN n) n (bodyN n).1 (bodyN n).2.1.length (bodyN n).2.2:=by
 intro vs σ k h
 rw [PhiN_mk] at h;exact h
end
end
section
theorem cP {C:Ph->Prop}{n m ar nv:Nat}{bd:SL} (h:n<m) (e1:(bodyN n).1=ar) (e2:(bodyN n).2.1.length=nv) (e3:(bodyN n).2.2=bd) (q:C (fW rsP (PhiN n) ar nv bd)):C (PhiN m n):=by
 rw [PhiN_eq h,PhiN_mk,e1,e2,e3];exact q
theorem c0 {m:Nat} (h:0<m):C0 (PhiN m 0):=cP (C:=C0) h rfl rfl rfl (b0 (rs:=rsP))
theorem c1 {m:Nat} (h:1<m):C1 (PhiN m 1):=cP (C:=C1) h rfl rfl rfl (b1 (rs:=rsP) (c0 (by decide)))
theorem c2 {m:Nat} (h:2<m):C2 (PhiN m 2):=cP (C:=C2) h rfl rfl rfl (b2 (rs:=rsP) (c0 (by decide)) (c1 (by decide)))
theorem c3 {m:Nat} (h:3<m):C3 (PhiN m 3):=cP (C:=C3) h rfl rfl rfl (b3 (rs:=rsP))
theorem c4 {m:Nat} (h:4<m):C4 (PhiN m 4):=cP (C:=C4) h rfl rfl rfl (b4 (rs:=rsP) (c3 (by decide)))
theorem c5 {m:Nat} (h:5<m):C5 (PhiN m 5):=cP (C:=C5) h rfl rfl rfl (b5 (rs:=rsP) (c3 (by decide)) (c4 (by decide)))
theorem c6 {m:Nat} (h:6<m):C6 (PhiN m 6):=cP (C:=C6) h rfl rfl rfl (b6 (rs:=rsP) (c3 (by decide)) (c4 (by decide)) (c5 (by decide)))
theorem c7 {m:Nat} (h:7<m):C7 (PhiN m 7):=cP (C:=C7) h rfl rfl rfl (b7 (rs:=rsP))
theorem c8 {m:Nat} (h:8<m):C8 (PhiN m 8):=cP (C:=C8) h rfl rfl rfl (b8 (rs:=rsP) (c0 (by decide)) (c1 (by decide)) (c2 (by decide)))
theorem c9 {m:Nat} (h:9<m):C9 (PhiN m 9):=cP (C:=C9) h rfl rfl rfl (b9 (rs:=rsP) (c4 (by decide)) (c5 (by decide)) (c6 (by decide)) (c7 (by decide)))
theorem c10 {m:Nat} (h:10<m):C10 (PhiN m 10):=cP (C:=C10) h rfl rfl rfl (b10 (rs:=rsP))
theorem c11 {m:Nat} (h:11<m):C11 (PhiN m 11):=cP (C:=C11) h rfl rfl rfl (b11 (rs:=rsP) (c10 (by decide)))
theorem c12 {m:Nat} (h:12<m):C12 (PhiN m 12):=cP (C:=C12) h rfl rfl rfl (b12 (rs:=rsP) (c11 (by decide)))
theorem c13 {m:Nat} (h:13<m):C13 (PhiN m 13):=cP (C:=C13) h rfl rfl rfl (b13 (rs:=rsP))
theorem c14 {m:Nat} (h:14<m):C14 (PhiN m 14):=cP (C:=C14) h rfl rfl rfl (b14 (rs:=rsP) (c12 (by decide)))
theorem c15 {m:Nat} (h:15<m):C15 (PhiN m 15):=cP (C:=C15) h rfl rfl rfl (b15 (rs:=rsP) (c0 (by decide)) (c2 (by decide)) (c14 (by decide)))
theorem c16 {m:Nat} (h:16<m):C16 (PhiN m 16):=cP (C:=C16) h rfl rfl rfl (b16 (rs:=rsP) (c4 (by decide)) (c6 (by decide)) (c13 (by decide)) (c14 (by decide)))
theorem c17 {m:Nat} (h:17<m):C17 (PhiN m 17):=cP (C:=C17) h rfl rfl rfl (b17 (rs:=rsP))
theorem c18 {m:Nat} (h:18<m):C18 (PhiN m 18):=cP (C:=C18) h rfl rfl rfl (b18 (rs:=rsP) (c17 (by decide)))
theorem c19 {m:Nat} (h:19<m):C19 (PhiN m 19):=cP (C:=C19) h rfl rfl rfl (b19 (rs:=rsP) (c17 (by decide)) (c18 (by decide)))
theorem c20 {m:Nat} (h:20<m):C20 (PhiN m 20):=cP (C:=C20) h rfl rfl rfl (b20 (rs:=rsP))
theorem c21 {m:Nat} (h:21<m):C21 (PhiN m 21):=cP (C:=C21) h rfl rfl rfl (b21 (rs:=rsP) (c13 (by decide)) (c15 (by decide)))
theorem c22 {m:Nat} (h:22<m):C22 (PhiN m 22):=cP (C:=C22) h rfl rfl rfl (b22 (rs:=rsP) (c8 (by decide)) (c21 (by decide)))
theorem c23 {m:Nat} (h:23<m):C23 (PhiN m 23):=cP (C:=C23) h rfl rfl rfl (b23 (rs:=rsP))
theorem c24 {m:Nat} (h:24<m):C24 (PhiN m 24):=cP (C:=C24) h rfl rfl rfl (b24 (rs:=rsP))
theorem c25 {m:Nat} (h:25<m):C25 (PhiN m 25):=cP (C:=C25) h rfl rfl rfl (b25 (rs:=rsP) (c7 (by decide)))
theorem c26 {m:Nat} (h:26<m):C26 (PhiN m 26):=cP (C:=C26) h rfl rfl rfl (b26 (rs:=rsP) (c23 (by decide)))
theorem c27 {m:Nat} (h:27<m):C27 (PhiN m 27):=cP (C:=C27) h rfl rfl rfl (b27 (rs:=rsP))
theorem c28 {m:Nat} (h:28<m):C28 (PhiN m 28):=cP (C:=C28) h rfl rfl rfl (b28 (rs:=rsP))
theorem c29 {m:Nat} (h:29<m):C29 (PhiN m 29):=cP (C:=C29) h rfl rfl rfl (b29 (rs:=rsP))
theorem c30 {m:Nat} (h:30<m):C30 (PhiN m 30):=cP (C:=C30) h rfl rfl rfl (b30 (rs:=rsP) (c28 (by decide)))
theorem c31 {m:Nat} (h:31<m):C31 (PhiN m 31):=cP (C:=C31) h rfl rfl rfl (b31 (rs:=rsP) (c30 (by decide)))
theorem c32 {m:Nat} (h:32<m):C32 (PhiN m 32):=cP (C:=C32) h rfl rfl rfl (b32 (rs:=rsP) (c27 (by decide)))
theorem c33 {m:Nat} (h:33<m):C33 (PhiN m 33):=cP (C:=C33) h rfl rfl rfl (And.intro (b33a (rs:=rsP)) (And.intro (b33b (rs:=rsP)) (b33c (rs:=rsP) (c32 (by decide)))))
theorem c34 {m:Nat} (h:34<m):C34 (PhiN m 34):=cP (C:=C34) h rfl rfl rfl (And.intro (b34a (rs:=rsP) (c32 (by decide))) (b34b (rs:=rsP) (c28 (by decide)) (c30 (by decide))))
theorem c35 {m:Nat} (h:35<m):C35 (PhiN m 35):=cP (C:=C35) h rfl rfl rfl (b35 (rs:=rsP) (c28 (by decide)) (c30 (by decide)))
theorem c36 {m:Nat} (h:36<m):C36 (PhiN m 36):=cP (C:=C36) h rfl rfl rfl (b36 (rs:=rsP) (c7 (by decide)) (c26 (by decide)) (c33 (by decide)))
theorem c37 {m:Nat} (h:37<m):C37 (PhiN m 37):=cP (C:=C37) h rfl rfl rfl (b37 (rs:=rsP) (c25 (by decide)) (c31 (by decide)) (c34 (by decide)))
theorem c38 {m:Nat} (h:38<m):C38 (PhiN m 38):=cP (C:=C38) h rfl rfl rfl (b38 (rs:=rsP) (c25 (by decide)) (c35 (by decide)))
theorem c39 {m:Nat} (h:39<m):C39 (PhiN m 39):=cP (C:=C39) h rfl rfl rfl (b39 (rs:=rsP) (c19 (by decide)) (c21 (by decide)) (c22 (by decide)) (c37 (by decide)))
theorem c40 {m:Nat} (h:40<m):C40 (PhiN m 40):=cP (C:=C40) h rfl rfl rfl (b40 (c9 (by decide)) (c16 (by decide)) (c22 (by decide)) (c36 (by decide)))
theorem c41 {m:Nat} (h:41<m):C41 (PhiN m 41):=cP (C:=C41) h rfl rfl rfl (b41 (rs:=rsP) (c22 (by decide)) (c38 (by decide)))
theorem c42 {m:Nat} (h:42<m):C42 (PhiN m 42):=cP (C:=C42) h rfl rfl rfl (b42 (rs:=rsP))
theorem c43 {m:Nat} (h:43<m):C43 (PhiN m 43):=cP (C:=C43) h rfl rfl rfl (b43 (rs:=rsP))
theorem c44 {m:Nat} (h:44<m):C44 (PhiN m 44):=cP (C:=C44) h rfl rfl rfl (b44 (rs:=rsP))
theorem c45 {m:Nat} (h:45<m):C45 (PhiN m 45):=cP (C:=C45) h rfl rfl rfl (b45 (rs:=rsP) (c43 (by decide)))
theorem c46 {m:Nat} (h:46<m):C46 (PhiN m 46):=cP (C:=C46) h rfl rfl rfl (b46 (rs:=rsP))
theorem c47 {m:Nat} (h:47<m):C47 (PhiN m 47):=cP (C:=C47) h rfl rfl rfl (b47 (rs:=rsP) (c42 (by decide)))
theorem c48 {m:Nat} (h:48<m):C48 (PhiN m 48):=cP (C:=C48) h rfl rfl rfl (b48 (rs:=rsP) (c46 (by decide)) (c47 (by decide)))
theorem c49 {m:Nat} (h:49<m):C49 (PhiN m 49):=cP (C:=C49) h rfl rfl rfl (b49 (rs:=rsP) (c44 (by decide)) (c48 (by decide)))
theorem c50 {m:Nat} (h:50<m):C50 (PhiN m 50):=cP (C:=C50) h rfl rfl rfl (b50 (rs:=rsP))
theorem c51 {m:Nat} (h:51<m):C51 (PhiN m 51):=cP (C:=C51) h rfl rfl rfl (b51 (rs:=rsP))
theorem c52 {m:Nat} (h:52<m):C52 (PhiN m 52):=cP (C:=C52) h rfl rfl rfl (b52 (rs:=rsP))
theorem c53 {m:Nat} (h:53<m):C53 (PhiN m 53):=cP (C:=C53) h rfl rfl rfl (b53 (rs:=rsP) (c52 (by decide)))
theorem c54 {m:Nat} (h:54<m):C54 (PhiN m 54):=cP (C:=C54) h rfl rfl rfl (b54 (rs:=rsP))
theorem c55 {m:Nat} (h:55<m):C55 (PhiN m 55):=cP (C:=C55) h rfl rfl rfl (b55 (rs:=rsP) (c20 (by decide)) (c24 (by decide)) (c29 (by decide)) (c53 (by decide)))
theorem c56 {m:Nat} (h:56<m):C56 (PhiN m 56):=cP (C:=C56) h rfl rfl rfl (b56 (rs:=rsP) (c52 (by decide)) (c53 (by decide)))
theorem c57 {m:Nat} (h:57<m):C57 (PhiN m 57):=cP (C:=C57) h rfl rfl rfl (b57 (rs:=rsP) (c54 (by decide)))
theorem c58 {m:Nat} (h:58<m):C58 (PhiN m 58):=cP (C:=C58) h rfl rfl rfl (b58 (rs:=rsP))
theorem c59 {m:Nat} (h:59<m):C59 (PhiN m 59):=cP (C:=C59) h rfl rfl rfl (b59 (rs:=rsP) (c49 (by decide)) (c57 (by decide)))
theorem c60 {m:Nat} (h:60<m):C60 (PhiN m 60):=cP (C:=C60) h rfl rfl rfl (b60 (rs:=rsP) (c40 (by decide)) (c57 (by decide)) (c59 (by decide)))
theorem c61 {m:Nat} (h:61<m):C61 (PhiN m 61):=cP (C:=C61) h rfl rfl rfl (b61 (rs:=rsP) (c41 (by decide)) (c50 (by decide)) (c59 (by decide)) (c60 (by decide)))
theorem c62 {m:Nat} (h:62<m):C62 (PhiN m 62):=cP (C:=C62) h rfl rfl rfl (b62 (rs:=rsP) (c57 (by decide)) (c58 (by decide)))
theorem c63 {m:Nat} (h:63<m):C63 (PhiN m 63):=cP (C:=C63) h rfl rfl rfl (b63 (rs:=rsP) (c62 (by decide)))
theorem c64 {m:Nat} (h:64<m):C64 (PhiN m 64):=cP (C:=C64) h rfl rfl rfl (b64 (rs:=rsP) (c39 (by decide)) (c45 (by decide)) (c51 (by decide)) (c52 (by decide)) (c55 (by decide)) (c56 (by decide)) (c59 (by decide)) (c61 (by decide)) (c63 (by decide)))
end
section
noncomputable def stN (l:List String):List Str:=l.map Str.ofString
structure Prog (W:Wd) (fi:Addr) (d:FnData):Prop where
 hN:W.N=nmP rsP
 T:NOk W
 F:∀ g,g<65->FnOk W (fnD W.K (W.N.fa g)) g (bodyN g).1 (stN (bodyN g).2.1) (bodyN g).2.2
 bi:∀ g,g<65->∀ (us:List Value) (s:Shared),us.length=(bodyN g).1->W.K.In s.heap->BindsTo s (fnD W.K (W.N.fa g)).fd ⟨us,[]⟩ (((stN (bodyN g).2.1).take (bodyN g).1).zip us)
 bk:∀ (us:List Value) (u₀:Value) (s:Shared),us.length+1=(bodyN 45).1->W.K.In s.heap->BindsTo s (fnD W.K (W.N.fa 45)).fd ⟨us,[(Str.ofString "most_bad",u₀)]⟩ (((stN (bodyN 45).2.1).take (bodyN 45).1).zip (us++[u₀]))
 X:XCls W fi d
theorem CallOK.of_eq {W:Wd}{Φ Ψ:Phi}{f:Nat} (h:CallOK W Φ f) (e:Φ f=Ψ f):CallOK W Ψ f:=by unfold CallOK at h |-;rw [<- e];exact h
theorem CallKW.of_eq {W:Wd}{Φ Ψ:Phi}{f:Nat}{w:Str} (h:CallKW W Φ f w) (e:Φ f=Ψ f):CallKW W Ψ f w:=by unfold CallKW at h |-;rw [<- e];exact h
theorem all_ok {W:Wd}{fi:Addr}{d:FnData} (P:Prog W fi d):∀ n,n<=65->Below W (PhiN n) n/\∀ f,f<n->CallErr W f
 | 0,_=>⟨⟨λø h=>absurd h (Nat.not_lt_zero _),λø ø h=>absurd h (Nat.not_lt_zero _)⟩,λø h=>absurd h (Nat.not_lt_zero _)⟩
 | n+1,h=>by
   obtain ⟨B,BX⟩:=all_ok P n (by lia)
   have hT:W.N.TB=tabsP rsP:=by rw [P.hN];rfl
   have Z:Errs W (PhiN n) n:=⟨λck x h=>raise_ok P.X h,λck i f as b j fd y g q1 q2 q3 q4 q5 xs ys h=>try_ok P.X P.T B BX ck i f as b j fd y g q1 q2 q3 q4 q5 xs ys h⟩
   have F:=P.F n (by lia)
   have ln:(stN (bodyN n).2.1).length=(bodyN n).2.1.length:=by unfold stN;rw [List.length_map]
   have hb:Bears2 W.N.TB (PhiN (n+1)) (PhiN n) n (bodyN n).1 (stN (bodyN n).2.1).length (bodyN n).2.2:=by rw [ln,hT];exact bears_N n
   refine ⟨⟨λf hf=>?_,λf w hf hw=>?_⟩,λf hf=>?_⟩
   ·by_cases e:f=n
    ·subst e;exact call_ok2 F P.T B Z hb (P.bi f (by lia))
    ·exact (B.ok f (by lia)).of_eq (PhiN_step e).symm
   ·by_cases e:f=n
    ·subst e
     rw [hT] at hw
     have hw:(f == 45&&w == Str.ofString "most_bad")=true:=hw
     rw [Bool.and_eq_true,beq_iff_eq,beq_iff_eq] at hw
     obtain ⟨rfl,rfl⟩:=hw
     exact call_kw2 F P.T B Z hb P.bk
    ·exact (B.kw f w (by lia) hw).of_eq (PhiN_step e).symm
   ·by_cases e:f=n
    ·subst e
     refine call_err F P.T B Z (λvs σ hr=>?_) (P.bi f (by lia))
     rw [hT] at hr
     obtain ⟨rfl,hd,s,rfl,h1,h2,h3,h4⟩:rsP f vs σ:=hr
     refine ⟨rfl,?_⟩
     rw [ln,hT]
     exact x16 (rs:=rsP) (c14 (by decide)) hd s σ h1 h2 h3 h4
    ·exact BX f (by lia)
end
section
noncomputable def Cur:Nat->(List Value->Prop)->Prop
 | 0,f=>f []
 | n+1,f=>∀ u,Cur n λus=>f (u::us)
theorem Cur.all {n:Nat}{f:List Value->Prop} (h:Cur n f) (us:List Value) (e:us.length=n):f us:=by
 subst e
 induction us generalizing f with
 | nil=>exact h
 | cons u us ih=>exact ih (h u)
theorem Cur.nil {f:List Value->Prop} (h:f []):Cur 0 f:=h
noncomputable def AllB:Nat->Nat->(Nat->Prop)->Prop
 | 0,_,_=>True
 | n+1,k,P=>P k/\AllB n (k+1) P
theorem AllB.get {P:Nat->Prop}:∀ {n k:Nat},AllB n k P->∀ i,k<=i->i<k+n->P i
 | 0,_,_,i,h1,h2=>absurd h2 (Nat.not_lt.mpr h1)
 | n+1,k,h,i,h1,h2=>by
   rcases Nat.eq_or_lt_of_le h1 with e | e
   ·exact e ▸ h.1
   ·exact AllB.get h.2 i e (by rw [Nat.add_assoc,Nat.add_comm 1 n];exact h2)
noncomputable def nokChk (K:Frag) (N:Nm):Bool:=
 (fldL.all λp=>fldOk K (N.ca p.1) (N.fn p.2))&&(mtL.all λt=>methOk K (N.ca t.1) (N.fn t.2.1) (N.fa t.2.2))&&(mtL.all λt=>decide (t.2.2<N.TB.mr t.2.1)) &&
 (fldL.all λp=>mtL.all λt=>!(p.1 == t.1) || !(N.fn p.2 == N.fn t.2.1) || p.2 == t.2.1)&&(fldL.all λp=>fldL.all λq=>!(p.1 == q.1) || !(N.fn p.2 == N.fn q.2) || p.2 == q.2)
theorem nok_of {W:Wd}{rs:Nat->List V->St->Prop} (hN:W.N=nmP rs) (h:nokChk W.K W.N=true):NOk W:=by
 unfold nokChk at h
 simp only [Bool.and_eq_true] at h
 obtain ⟨⟨⟨⟨h1,h2⟩,h3⟩,h4⟩,h5⟩:=h
 have fl:∀ c f,W.N.TB.fld c f=true->(c,f)∈fldL:=λc f e=>by
  rw [hN] at e
  obtain ⟨p,hp,q⟩:=List.any_eq_true.mp (show (fldL.any λp=>p.1 == c&&p.2 == f)=true from e)
  simp only [Bool.and_eq_true,beq_iff_eq] at q
  obtain ⟨rfl,rfl⟩:=q
  exact hp
 have mt:∀ c m g,W.N.TB.mt c m=some g->(c,m,g)∈mtL:=λc m g e=>by
  rw [hN] at e
  have e:(mtL.find? λt=>t.1 == c&&t.2.1 == m).map (λø=>ø.2.2)=some g:=e
  cases q:mtL.find? λt=>t.1 == c&&t.2.1 == m with
  | none=>rw [q] at e;cases e
  | some t=>
    have e':t.2.2=g:=by rw [q] at e;exact Option.some.inj e
    have hp:=List.find?_some q
    have hm:=List.mem_of_find?_eq_some q
    simp only [Bool.and_eq_true,beq_iff_eq] at hp
    rw [<- hp.1,<- hp.2,<- e'];exact hm
 refine ⟨λc f e=>List.all_eq_true.mp h1 _ (fl c f e),λc m g e=>List.all_eq_true.mp h2 _ (mt c m g e),λc m g e=>of_decide_eq_true (List.all_eq_true.mp h3 _ (mt c m g e)),λc f m e1 e2 e3=>?_,λc f f' e1 e2 e3=>?_⟩
 ·obtain ⟨g,e2⟩:=Option.isSome_iff_exists.mp e2
  have:=List.all_eq_true.mp (List.all_eq_true.mp h4 _ (fl c f e1)) _ (mt c m g e2)
  simpa [e3] using this
 ·have:=List.all_eq_true.mp (List.all_eq_true.mp h5 _ (fl c f e1)) _ (fl c f' e2)
  simpa [e3] using this
structure KF (K:Frag):Prop where
 fc:AllB 65 0 λi=>fnChk K (nmP rsP) i (bodyN i).1 (stN (bodyN i).2.1) (bodyN i).2.2=true
 kb:AllB 65 0 λi=>∀ S:Setting,Cur (bodyN i).1 λus=>peek K S (bindArgs (fnD K ((nmP rsP).fa i)).fd ⟨us,[]⟩)=some (((stN (bodyN i).2.1).take (bodyN i).1).zip us)
 nc:nokChk K (nmP rsP)=true
 x1:K.lookup 51=some (excClassObj "FormError" "FormError" 51 50 [.ref 38] [.ref 38,.type "Exception",.type "BaseException",.type "object"] true [] [] false none none (some (.ref 42)) none (some (.str "FormError" 225)) (some (.str "FormError" 233)) (some (.bool true)) "Exception.__new__")
 x2:nsIn K mainGlobals (Str.ofString "FormError")=some (some (.ref 51))
 x3:keepIn K (.ref 51)=true
 x4:findIn K (.ref 51) "__init__"=some (some (.ref 35))
 x5:findIn K (.ref 51) "__setattr__"=some (some (.builtin "object.__setattr__"))
 x6:findIn K (.ref 51) "message"=some none
 x7:K.lookup 35=some ⟨(fnD K 35).oc,(fnD K 35).od,.func (fnD K 35).fd,(fnD K 35).osl⟩
 x8:(fnD K 35).oc=.type "function"
 x9:codeIn K (fnD K 35).cdv (fnD K 35).qual=true
 xa:(fnD K 35).scope.names=[(("self":Str),NameKind.local),(("message":Str),NameKind.local)]
 xb:(fnD K 35).scope.kind=.function
 xc:(fnD K 35).scope.isCoroutine=false
 xd:(fnD K 35).scope.isGenerator=false
 xe:(fnD K 35).body=[Stmt.Assign [Expr.Attribute (Expr.Name ("self":Str) ⟨8,8,8,12⟩) ("message":Str) ⟨8,8,8,20⟩] (Expr.Name ("message":Str) ⟨8,23,8,30⟩) ⟨8,8,8,30⟩]
 xf:∀ S:Setting,Cur 2 λus=>peek K S (bindArgs (fnD K 35).fd ⟨us,[]⟩)=some (([Str.ofString "self",Str.ofString "message"]:List Str).zip us)
 xg:∀ (S:Setting) (v:Value),Cur 4 λus=>peek K S (bindArgs (fnD K ((nmP rsP).fa 45)).fd ⟨us,[(Str.ofString "most_bad",v)]⟩)=some (((stN (bodyN 45).2.1).take (bodyN 45).1).zip (us++[v]))
 law:nsIn K mainGlobals (Str.ofString "law")=some (some (.ref ((nmP rsP).fa 64)))
theorem prog_ok {W:Wd} (h:KF W.K) (hN:W.N=nmP rsP):Prog W 35 (fnD W.K 35) where
 hN:=hN
 T:=nok_of hN (by rw [hN];exact h.nc)
 F:=λg hg=>fnChk_ok (by rw [hN];exact h.fc.get g (Nat.zero_le _) (by rw [Nat.zero_add];exact hg))
 bi:=λg hg us s hl X=>by
  refine kp_binds X λS=>?_
  rw [hN]
  exact (h.kb.get g (Nat.zero_le _) (by rw [Nat.zero_add];exact hg) S).all us hl
 bk:=λus u₀ s hl X=>by
  have hl:us.length=4:=Nat.succ.inj hl
  refine kp_binds X λS=>?_
  rw [hN]
  exact (h.xg S u₀).all us hl
 X:={
  obj:=λP k=>by
   rw [hN] at k
   exact k _ _ _ _ _ _ _ _ _ _ _ _ _ _ _ h.x1 ⟨by decide +kernel,by decide +kernel,by decide +kernel,by decide +kernel⟩ (.cons _ _ .base)
  nam:=by rw [hN];exact h.x2
  keep:=by rw [hN];exact h.x3
  ini:=by rw [hN];exact h.x4
  sa:=by rw [hN];exact h.x5
  msg:=by rw [hN];exact h.x6
  fn:=h.x7
  oc:=h.x8
  code:=h.x9
  co:=h.xc
  gen:=h.xd
  kind:=h.xb
  names:=h.xa
  body:=λP k=>k _ _ _ _ h.xe
  binds:=λus s hl X=>by
   refine kp_binds X λS=>?_
   exact (h.xf S).all us hl }
end
section
variable {W:Wd}{Φ:Phi}
noncomputable def onlyF (s:Nat) (vs:List V):St:={ I:=λø=>none,L:=λø=>none,T:=λø=>none,D:=λø=>none,F:=λa=>if a=s then some vs else none }
theorem enter0 {σ:St} (hI:∀ a,σ.I a=none) (hL:∀ a,σ.L a=none) (hT:∀ a,σ.T a=none) (hD:∀ a,σ.D a=none) (hF:FOk W σ) {h₁:Heap}{m':Str->Option Value}{cs:List (Str×Addr)}{cm:Str->Option Value} (hns:h₁.Ns W.B.objs.size m') (hk:∀ b o,W.B.get? b=some o->h₁.get? b=some o)
 (hc:∀ n c,cs.lookup n=some c->h₁.IsCell c (cm n)) (hap:cs.Pairwise λx y=>x.2≠y.2) (hab:∀ n c,(n,c)∈cs->W.B.objs.size<c) :
 ∃ X',HS W W.B.objs.size m' X' σ h₁/\(∀ n c,cs.lookup n=some c->∃ o,X' c=some o/\o.data=.cell (cm n))/\(∀ a o,X' a=some o->∃ n,(n,a)∈cs):=by
 let gc:=goodCells cs
 let X':Addr->Option Obj:=λa=>if (gc.any λp=>p.2 == a)=true then some (objAt h₁ a) else none
 have gcell:∀ p∈gc,∃ o,h₁.get? p.2=some o/\o.data=.cell (cm p.1)/\W.B.objs.size<p.2:=λp hp=>by
  obtain ⟨h1,h2⟩:=List.mem_filter.mp hp
  obtain ⟨o,q1,q2⟩:=hc p.1 p.2 (by simpa using h2)
  exact ⟨o,q1,q2,hab p.1 p.2 h1⟩
 have gany:∀ a,(gc.any λp=>p.2 == a)=true->∃ p∈gc,p.2=a:=λa q=>by
  obtain ⟨p,h1,h2⟩:=List.any_eq_true.mp q
  exact ⟨p,h1,by simpa using h2⟩
 refine ⟨X',⟨⟨hns,hk,Nat.le_refl _⟩,⟨gc.map λp=>(p.2,Role.ex,objAt h₁ p.2),?_,?_,?_⟩,hF⟩,λn c e=>?_,λa o e=>?_⟩
 ·rw [List.map_map]
  have:(gc.map ((λx:Addr×Role×Obj=>x.1) ∘ λp=>(p.2,Role.ex,objAt h₁ p.2)))=gc.map (λø=>ø.2):=rfl
  rw [this]
  exact (List.Pairwise.sublist List.filter_sublist hap).map _ λa b q=>q
 ·intro p hp
  obtain ⟨e,he,rfl⟩:=List.mem_map.mp hp
  obtain ⟨p',hp',rfl⟩:=List.mem_map.mp he
  obtain ⟨o,q1,q2,q3⟩:=gcell p' hp'
  refine ⟨?_,Ne.symm (Nat.ne_of_lt q3),Heap.get?_none_of_le (Nat.le_of_lt q3)⟩
  show h₁.get? p'.2=some (objAt h₁ p'.2)
  rw [objAt_eq q1];exact q1
 ·refine ⟨λa c fs q=>?_,λa vs q=>?_,λa vs q=>?_,λa d q=>?_,λa p q=>?_⟩
  ·rw [hI] at q;cases q
  ·rw [hL] at q;cases q
  ·rw [hT] at q;cases q
  ·rw [hD] at q;cases q
  ·have q:(if (gc.any λp=>p.2 == a)=true then some (objAt h₁ a) else none)=some p:=q
   split at q
   ·rename_i h2
    obtain ⟨p',hp',rfl⟩:=gany a h2
    cases q
    exact ⟨_,List.mem_map.mpr ⟨p',hp',rfl⟩,.inl rfl⟩
   ·cases q
 ·have hg:=good_mem e
  obtain ⟨o,q1,q2,q3⟩:=gcell _ hg
  refine ⟨o,?_,q2⟩
  show (if (gc.any λp=>p.2 == c)=true then some (objAt h₁ c) else none)=some o
  rw [if_pos (List.any_eq_true.mpr ⟨(n,c),hg,by simp⟩),objAt_eq q1]
 ·have q:(if (gc.any λp=>p.2 == a)=true then some (objAt h₁ a) else none)=some o:=e
  split at q
  ·rename_i h2
   obtain ⟨p',hp',rfl⟩:=gany a h2
   exact ⟨p'.1,(List.mem_filter.mp hp').1⟩
  ·cases q
theorem call_top {d:FnData}{g ar:Nat}{vt:List Str}{bd:SL} (F:FnOk W d g ar vt bd) (T:NOk W) (B:Below W Φ g) (Z:Errs W Φ g) {A:Around}{σ:St}{s:Shared}{R:Result->Shared->Prop}{kb:KL}{us:List Value}{vs:List V}{args:Args}
 (hI:∀ a,σ.I a=none) (hL:∀ a,σ.L a=none) (hT:∀ a,σ.T a=none) (hD:∀ a,σ.D a=none) (hF:FOk W σ) (hs:s.heap=W.B) (hA:ACall A [] g) (hvs:Vs us vs) (hlen:vs.length=ar) (hbind:BindsTo s d.fd args ((vt.take ar).zip us))
 (hw:wpSL W.N.TB Φ bd (lo0 vt.length vs) σ kb) (nx:∀ lo σ,¬ kb .ex lo σ)
 (K:∀ u fl' lo' L m X h' t' σ',HS W L m X σ' h'->((fl'=.nx/\u=.none)\/∃ v,fl'=.rt v/\av u=some v)->kb fl' lo' σ'->R (.ok (.ret u)) { s with heap:=h',toks:=t' }) :
 codeAny (Mo W) A (.call (.ref (W.N.fa g)) args) R s:=by
 have hul:us.length=ar:=hvs.len.trans hlen
 have ndv:=nodup_of_B F.nd
 have htl:(vt.take ar).length=us.length:=by rw [List.length_take,hul];exact Nat.min_eq_left F.len
 have bnames:(((vt.take ar).zip us).map (λø=>ø.1)).Nodup:=by
  have:((vt.take ar).zip us).map (λø=>ø.1)=vt.take ar:=by
   rw [List.map_fst_zip]
   exact Nat.le_of_eq htl
  rw [this];exact ndv.sublist (List.take_sublist _ _)
 have inK:W.K.In s.heap:=by rw [hs];exact W.X
 refine codeAny_call_cells' (fd:=d.fd) (body:=d.body) (binds:=(vt.take ar).zip us) (by show A.depth<recursionLimit;have:=hA.d;show A.depth<1000;omega) (inK _ _ F.obj) rfl (by rw [hs];exact W.T.nolimit) (codeRec_of inK F.code) rfl hbind rfl ?_ ?_ F.co F.gen F.kind
 ·intro x hx
  have hm:=(List.of_mem_zip hx).1
  have:=List.all_eq_true.mp F.par _ hm
  simp only [Bool.or_eq_true,beq_iff_eq] at this
  rcases this with h | h
  ·exact .inl h
  ·exact .inr ⟨h,cells_some (.inl (lookup_mem h))⟩
 ·intro s₁ IC
  obtain ⟨h₁,tk,rfl,hk₁⟩:=IC.done
  have es:s.heap.objs.size=W.B.objs.size:=by rw [hs]
  obtain ⟨X₀,H₁,hcell,_⟩:=enter0 hI hL hT hD hF (by rw [<- es];exact IC.toInCall.ns) (by rw [<- hs];exact hk₁) IC.cell IC.apart (by rw [<- es];exact IC.above)
  rw [<- es] at H₁
  let C:Cx W:=F.cx s.heap.objs.size [] IC.apart
  have hC:C.of ⟨vt,d.scope.names,true⟩:=⟨rfl,rfl,rfl⟩
  have fx₀:FX C.fl C.L X₀:=by
   intro e he
   rcases List.mem_cons.mp he with rfl | he
   ·exact ⟨(by rw [show (callEnvC d.fd s.heap.objs.size (W.N.fa g)).scope.kind=.function from F.kind];exact λh=>by cases h),s.heap.objs.size,rfl,.inl rfl⟩
   ·cases he
  have V₁:VOk C _ X₀ (lo0 vt.length vs):={
   vars:=λi v hv=>by
    unfold lo0 at hv
    have hi:i<vs.length:=by
     by_cases q:i<vs.length
     ·exact q
     ·rw [List.getElem?_append_right (by simpa using q),List.getElem?_replicate] at hv
      split at hv <;> cases hv
    rw [List.getElem?_append_left (by simpa using hi),List.getElem?_map] at hv
    have hv:vs[i]?=some v:=by
     cases q:vs[i]? with
     | none=>rw [q] at hv;cases hv
     | some w=>rw [q] at hv;simp at hv;rw [hv]
    obtain ⟨u,e1,e2⟩:=hvs.get hv
    have hi':i<vt.length:=Nat.lt_of_lt_of_le (by rw [hlen] at hi;exact hi) F.len
    have ht:(vt.take ar)[i]?=some vt[i]:=by rw [List.getElem?_take,if_pos (by rw [<- hlen];exact hi)];exact List.getElem?_eq_getElem hi'
    have hz:((vt.take ar).zip us)[i]?=some (vt[i],u):=List.getElem?_zip_eq_some.mpr ⟨ht,e1⟩
    have hm:(vt[i],u)∈(vt.take ar).zip us:=List.mem_of_getElem? hz
    refine ⟨vt[i],u,List.getElem?_eq_getElem hi',e2,?_⟩
    have:=List.all_eq_true.mp F.par _ (List.of_mem_zip hm).1
    simp only [Bool.or_eq_true,beq_iff_eq] at this
    rcases this with h | h
    ·exact .loc h rfl (bindL_get (kindOf:=(callEnvC d.fd s.heap.objs.size (W.N.fa g)).kindOf) (m:=λø=>none) h bnames hm)
    ·obtain ⟨a,ha⟩:=C.cb vt[i] h
     obtain ⟨o,q1,q2⟩:=hcell _ _ ha
     refine .cel a o h ha q1 ?_
     rw [q2]
     exact congrArg Data.cell (bindC_get (kindOf:=(callEnvC d.fd s.heap.objs.size (W.N.fa g)).kindOf) (m:=λø=>none) h bnames hm)
   fx:=fx₀
   cells:=λx a hx=>by
    obtain ⟨o,q1,q2⟩:=hcell x a hx
    exact ⟨o,_,q1,q2⟩
   dict:=.inl rfl }
  have hA':ACond (A.deeper (callEnvC d.fd s.heap.objs.size (W.N.fa g))) C.fl g:=⟨hA.h,by show A.depth+1+3 * g<=900;have:=hA.d;omega,by show A.units+3+8 * g<=9000;have:=hA.u;omega,by
   show A.frames.map _=_
   rw [hA.f];rfl⟩
  refine chkSL_ok T B Z bd _ _ F.chk C hC _ _ X₀ _ σ { s with heap:=h₁,toks:=tk } _ _ kb hA' V₁ H₁ hw (λf fl' h' t' m' X' lo' σ' ef H' V' xe w'=>?_) λe h' t' m' X' lo' σ' fe xe fx' w'=>absurd w' (nx _ _)
  cases ef with
  | nx=>exact K .none .nx lo' _ _ _ h' t' σ' H' (.inl ⟨rfl,rfl⟩) w'
  | rt hu=>exact K _ _ lo' _ _ _ h' t' σ' H' (.inr ⟨_,rfl,hu⟩) w'
end
section
theorem errs_at {W:Wd}{fi:Addr}{d:FnData} (P:Prog W fi d) (n:Nat) (h:n<=65):Errs W (PhiN n) n:=by
 obtain ⟨B,BX⟩:=all_ok P n h
 exact ⟨λck x h=>raise_ok P.X h,λck i f as b j fd y g q1 q2 q3 q4 q5 xs ys h=>try_ok P.X P.T B BX ck i f as b j fd y g q1 q2 q3 q4 q5 xs ys h⟩
theorem law_wp (s:Nat) (xs:List Int) (σ:St) (k:KV) (hF:σ.F s=some (xs.map .int)) (hL:σ.L s=none) (hD:σ.D s=none) (hT:σ.T s=none) (h:∀ σ',k (.bool true) σ'):wpSL (tabsP rsP) (PhiN 64) bd64 (lo0 10 [.ref s]) σ (retK k):=by
 have q:PhiN 65 64 [.ref s] σ k:=c64 (by decide) s xs σ k hF hL hD hT h
 rw [PhiN_mk] at q;exact q.2
theorem vs_ints {us:List Value}{xs:List Int} (h:IntsAre us xs):Vs us (xs.map V.int):=by
 induction h with
 | nil=>exact Vs.nil
 | cons n t _ ih=>exact Vs.cons rfl ih
theorem av_true {u:Value} (h:av u=some (.bool true)):u=.bool true:=av_bool h
theorem top_run {W:Wd}{fi:Addr}{d:FnData} (P:Prog W fi d) {s:Shared} (hs:s.heap=W.B) {a:Addr}{us:List Value}{xs:List Int} (hL:W.B.IsList a us.toArray) (hI:IntsAre us xs) (hlen:xs.length<=63) {R:Result->Shared->Prop}
 (hR:∀ h' t',(∀ b o,W.B.get? b=some o->h'.get? b=some o)->R (.ok (.ret (.bool true))) { s with heap:=h',toks:=t' }):codeAny (Mo W) callerA (.call (.ref (W.N.fa 64)) ⟨[.ref a],[]⟩) R s:=by
 have F:=P.F 64 (by decide)
 have hT:W.N.TB=tabsP rsP:=by rw [P.hN];rfl
 have hb:=P.bi 64 (by decide) [.ref a] s rfl (by rw [hs];exact W.X)
 refine call_top (W:=W) (Φ:=PhiN 64) (us:=[.ref a]) (vs:=[.ref a]) (σ:=onlyF a (xs.map V.int)) F P.T (all_ok P 64 (by decide)).1 (errs_at P 64 (by decide)) (λø=>rfl) (λø=>rfl) (λø=>rfl) (λø=>rfl) ?_ hs ⟨rfl,by decide +kernel,by decide +kernel,rfl⟩ (Vs.cons rfl Vs.nil) rfl hb (by rw [hT];exact law_wp a xs _ (λv ø=>v=.bool true) (if_pos rfl) rfl rfl rfl λø=>rfl) ?_ ?_
 ·intro b vs e
  have e:(if b=a then some (xs.map V.int) else none)=some vs:=e
  split at e
  ·next q=>cases e;rw [q];exact ⟨us,hL,vs_ints hI,by rw [List.length_map];unfold big;lia⟩
  ·cases e
 ·intro lo σ q;exact q
 ·intro u fl' lo' L m X h' t' σ' H hu hk
  rcases hu with ⟨rfl,rfl⟩ | ⟨v,rfl,hu⟩
  ·obtain ⟨_,_,q⟩:=hk;cases q
  ·obtain ⟨_,_,q⟩:=hk
   rw [q] at hu;rw [av_true hu]
   exact hR h' t' H.fr.keep
theorem walk_law {W:Wd}{fi:Addr}{d:FnData} (P:Prog W fi d) {s:Shared} (hs:s.heap=W.B) (hfa:nsIn W.K mainGlobals (Str.ofString "law")=some (some (.ref (W.N.fa 64)))) {fa:Addr} (hmg:W.mg (Str.ofString "law")=some (.ref fa)) {a:Addr}{us:List Value}{xs:List Int} (hL:W.B.IsList a us.toArray) (hI:IntsAre us xs) (hlen:xs.length<=63) {R:Result->Shared->Prop}
 (hR:∀ h' t',(∀ b o,W.B.get? b=some o->h'.get? b=some o)->R (.ok (.ret (.bool true))) { s with heap:=h',toks:=t' }):codeAny (Mo W) callerA (.call (.ref fa) ⟨[.ref a],[]⟩) R s:=by
 have e:=mg_of W.X W.T.g hfa
 rw [hmg] at e
 cases e
 exact top_run P hs hL hI hlen hR
theorem walk_any {K:Frag} (h:KF K) {prog:Program}{w:World}{s:Shared}{p:Program}{loose:List Str}{mg mb:Str->Option Value} (KX:K.In s.heap) (T:TopRead p loose mg mb s.heap) {fa:Addr} (hmg:mg (Str.ofString "law")=some (.ref fa)) {a:Addr}{us:List Value}{xs:List Int} (hL:s.heap.IsList a us.toArray) (hI:IntsAre us xs) (hlen:xs.length<=63) {R:Result->Shared->Prop}
 (hR:∀ h' t',(∀ b o,s.heap.get? b=some o->h'.get? b=some o)->R (.ok (.ret (.bool true))) { s with heap:=h',toks:=t' }):codeAny (model prog w) callerA (.call (.ref fa) ⟨[.ref a],[]⟩) R s:=
 walk_law (W:=⟨prog,w,K,s.heap,p,loose,mg,mb,KX,T,nmP rsP⟩) (prog_ok h rfl) rfl h.law hmg hL hI hlen hR
end
namespace hd
theorem tw12031091572760372716 : True:=trivial
theorem tw11943477663328021970 : True:=trivial
theorem tw9857393182710283340 : True:=trivial
theorem tw5494293020794390752 : True:=trivial
theorem tw10727248033764811480 : True:=trivial
theorem tw13263762954130075895 : True:=trivial
theorem tw14243000110752803332 : True:=trivial
theorem tw6875355717438233227 : True:=trivial
theorem tw13820451137229368939 : True:=trivial
theorem tw10508133024638518461 : True:=trivial
theorem tw13639822356385061178 : True:=trivial
theorem tw26425463804135960 : True:=trivial
theorem tw17907119631360928549 : True:=trivial
theorem tw17863302656999482806 : True:=trivial
theorem tw8189064311535668238 : True:=trivial
theorem tw1168947359784239393 : True:=trivial
theorem tw9762872527117769658 : True:=trivial
theorem tw10416423209093676788 : True:=trivial
theorem tw13132618709999183898 : True:=trivial
theorem tw3165473116527847801 : True:=trivial
theorem tw2312034457802059207 : True:=trivial
theorem tw257007361410690125 : True:=trivial
theorem tw7400000992700561065 : True:=trivial
theorem tw9184186324627900627 : True:=trivial
theorem tw13038990169509382042 : True:=trivial
theorem tw920214292312260371 : True:=trivial
theorem tw6990203504111849199 : True:=trivial
theorem tw5480042469492414594 : True:=trivial
theorem tw15335557244880282288 : True:=trivial
theorem tw11955717195305443320 : True:=trivial
theorem tw5054737718236178183 : True:=trivial
theorem tw3998498355137831708 : True:=trivial
theorem tw15344866539931968096 : True:=trivial
theorem tw8025032847418708242 : True:=trivial
theorem tw18355325099282552504 : True:=trivial
theorem tw11389486352061984695 : True:=trivial
theorem tw1129884963351977449 : True:=trivial
theorem tw17709224040873823659 : True:=trivial
theorem tw1760603350576429475 : True:=trivial
theorem tw515116654868589033 : True:=trivial
theorem tw5089235407568680550 : True:=trivial
theorem tw9073681462420916055 : True:=trivial
theorem tw14667805832236412624 : True:=trivial
theorem tw15427206886491885616 : True:=trivial
theorem tw13409441903868389331 : True:=trivial
theorem tw13855946660403688772 : True:=trivial
theorem tw7540655947842036084 : True:=trivial
theorem tw17454471701868102899 : True:=trivial
theorem tw2701402951725559080 : True:=trivial
theorem tw16009884308244765898 : True:=trivial
theorem tw3484992998616243462 : True:=trivial
theorem tw5987830557187376847 : True:=trivial
theorem tw6264232113106981867 : True:=trivial
theorem tw2304311442786299043 : True:=trivial
theorem tw11713075325732132258 : True:=trivial
theorem tw14478148883734587675 : True:=trivial
theorem tw17843490464661113860 : True:=trivial
theorem tw7540741092611519060 : True:=trivial
theorem tw9161709004213602331 : True:=trivial
theorem tw2480057099694739299 : True:=trivial
theorem tw17062030032774818151 : True:=trivial
theorem tw1147470481896660410 : True:=trivial
theorem tw10905682514733158466 : True:=trivial
theorem tw8538877666451538035 : True:=trivial
theorem tw14294344414604881677 : True:=trivial
theorem tw18245042118932799458 : True:=trivial
theorem tw262745018181394680 : True:=trivial
theorem tw10949625832625181284 : True:=trivial
theorem tw17821661813734597965 : True:=trivial
theorem tw9430268157657104642 : True:=trivial
theorem tw12268275109542032366 : True:=trivial
theorem tw9783614193127449063 : True:=trivial
theorem tw10203026625882799534 : True:=trivial
theorem tw2216850387143573719 : True:=trivial
theorem tw6276725880618359904 : True:=trivial
theorem tw2386827423013361158 : True:=trivial
theorem tw12350410155528471161 : True:=trivial
theorem tw2327210489368252092 : True:=trivial
theorem tw17919194246423945575 : True:=trivial
theorem tw13566260322249332789 : True:=trivial
theorem tw13342606739435360313 : True:=trivial
theorem tw14060154772996877548 : True:=trivial
theorem tw11011131195910976488 : True:=trivial
theorem tw11213053971927718326 : True:=trivial
theorem tw2855845756224970109 : True:=trivial
theorem tw2284436838669742495 : True:=trivial
theorem tw10292235466723388172 : True:=trivial
theorem tw17925215291927510665 : True:=trivial
theorem tw7355570028127101125 : True:=trivial
theorem tw8184699220007379433 : True:=trivial
theorem tw853570095554691725 : True:=trivial
theorem tw2603259988358896889 : True:=trivial
theorem tw15578025631644234493 : True:=trivial
theorem tw16640546478005224243 : True:=trivial
theorem tw16053994301053490033 : True:=trivial
theorem tw15813434630575017362 : True:=trivial
theorem tw3429492842335990350 : True:=trivial
theorem tw7610815399733428385 : True:=trivial
theorem tw7598622570094877466 : True:=trivial
theorem tw2951005344575393816 : True:=trivial
theorem tw13483081372092288885 : True:=trivial
theorem tw1033889070964956483 : True:=trivial
theorem tw16006246977917349235 : True:=trivial
theorem tw14553816603554493358 : True:=trivial
theorem tw13866372431405929976 : True:=trivial
theorem tw6804821044290156842 : True:=trivial
theorem tw4363365295628954845 : True:=trivial
theorem tw1666387254794493845 : True:=trivial
theorem tw728884934406724761 : True:=trivial
theorem tw7519716089354478335 : True:=trivial
theorem tw4706079058837389440 : True:=trivial
theorem tw13220430256171166289 : True:=trivial
theorem tw6320253292602491972 : True:=trivial
theorem tw2315301623876862497 : True:=trivial
theorem tw3973766799837268725 : True:=trivial
theorem tw4856431653887292112 : True:=trivial
theorem tw2167537188350426706 : True:=trivial
theorem tw6830512106363814048 : True:=trivial
theorem tw5009564483982726761 : True:=trivial
theorem tw13209851902499103039 : True:=trivial
theorem tw17673860158736603733 : True:=trivial
theorem tw17234923516513369237 : True:=trivial
theorem tw17562767543260142214 : True:=trivial
theorem tw6908023607885247049 : True:=trivial
theorem tw12092154237167983948 : True:=trivial
theorem tw10258999931320997221 : True:=trivial
theorem tw17599816209265215132 : True:=trivial
theorem tw5292301768408028288 : True:=trivial
theorem tw6038821095411175016 : True:=trivial
theorem tw14892549342360969540 : True:=trivial
theorem tw15948780112781908787 : True:=trivial
theorem tw1848646778235469078 : True:=trivial
theorem tw8879563391730754479 : True:=trivial
theorem tw2323474266016966308 : True:=trivial
theorem tw13047593935725612058 : True:=trivial
theorem tw3530705653197291679 : True:=trivial
theorem tw4297731678662094536 : True:=trivial
theorem tw8587404781116728655 : True:=trivial
theorem tw10024716035694756283 : True:=trivial
theorem tw3182187488490625086 : True:=trivial
theorem tw5278057926702712004 : True:=trivial
theorem tw10246146449241189800 : True:=trivial
theorem tw6882427118574961969 : True:=trivial
theorem tw5592360268479517082 : True:=trivial
theorem tw9271970288684553227 : True:=trivial
theorem tw17070941380808615275 : True:=trivial
theorem tw4014540891139286612 : True:=trivial
theorem tw17330945745186091897 : True:=trivial
theorem tw16056359734778111409 : True:=trivial
theorem tw12058812876911547015 : True:=trivial
theorem tw9741134391959003819 : True:=trivial
theorem tw8609351116199087170 : True:=trivial
theorem tw18268791191939849864 : True:=trivial
theorem tw9983995961361265002 : True:=trivial
theorem tw15529170255622000948 : True:=trivial
theorem tw6046454685291232161 : True:=trivial
theorem tw7676003278276379012 : True:=trivial
theorem tw1600037746751723098 : True:=trivial
theorem tw13431754692932380062 : True:=trivial
theorem tw12239354291974867115 : True:=trivial
theorem tw18093812233618175256 : True:=trivial
theorem tw4478177076189095293 : True:=trivial
theorem tw11754176132448286083 : True:=trivial
theorem tw10264135568141901301 : True:=trivial
theorem tw13277076834127875243 : True:=trivial
theorem tw4654797750381630734 : True:=trivial
theorem tw1580110805410547442 : True:=trivial
theorem tw16634568088961857937 : True:=trivial
theorem tw4870687313549177768 : True:=trivial
theorem tw16456969618363192440 : True:=trivial
theorem tw14029546391885035639 : True:=trivial
theorem tw7763873220885509757 : True:=trivial
theorem tw16240987189780228909 : True:=trivial
theorem tw15910714762333108613 : True:=trivial
theorem tw9366941133304187829 : True:=trivial
theorem tw17429513623812275283 : True:=trivial
theorem tw16722109127936396110 : True:=trivial
theorem tw6818987989461384207 : True:=trivial
theorem tw1088296927520436173 : True:=trivial
theorem tw16904818350239718627 : True:=trivial
theorem tw10491609206876299696 : True:=trivial
theorem tw13365295217650922812 : True:=trivial
theorem tw14745743045033390146 : True:=trivial
theorem tw4086058157674990017 : True:=trivial
theorem tw11660266114150955751 : True:=trivial
theorem tw8965841893048198262 : True:=trivial
theorem tw16473244170626142550 : True:=trivial
theorem tw17903497710992402801 : True:=trivial
theorem tw9566141503761928105 : True:=trivial
theorem tw4159134105002834734 : True:=trivial
theorem tw3309697970292668127 : True:=trivial
theorem tw16412773359747925120 : True:=trivial
theorem tw15675198926951892251 : True:=trivial
theorem tw5343241284826551009 : True:=trivial
theorem tw17258206423299326598 : True:=trivial
theorem tw15790720579355451973 : True:=trivial
theorem tw8081886968326746073 : True:=trivial
theorem tw2708950531961675432 : True:=trivial
theorem tw11912922877643110818 : True:=trivial
theorem tw5732804406350252772 : True:=trivial
theorem tw4377701919642642989 : True:=trivial
theorem tw6555240042291301478 : True:=trivial
theorem tw1589133516308662214 : True:=trivial
theorem tw5716766192118558609 : True:=trivial
theorem tw6528754448969337418 : True:=trivial
theorem tw9557236495431379559 : True:=trivial
theorem tw9170477692918782315 : True:=trivial
theorem tw1506431575118746342 : True:=trivial
theorem tw9496365245306024149 : True:=trivial
theorem tw7369741819223213686 : True:=trivial
theorem tw15852365999677673905 : True:=trivial
theorem tw13642289790063256904 : True:=trivial
theorem tw15166520500009309586 : True:=trivial
theorem tw8226494294326810461 : True:=trivial
theorem tw7317836474542784337 : True:=trivial
theorem tw7752767780024739350 : True:=trivial
theorem tw4478166936697009375 : True:=trivial
theorem tw12769127236821124696 : True:=trivial
theorem tw1882180444382439491 : True:=trivial
theorem tw991583007596301734 : True:=trivial
theorem tw14685462170515437407 : True:=trivial
theorem tw10879034167726328663 : True:=trivial
theorem tw190519026028168232 : True:=trivial
theorem tw697623264460660564 : True:=trivial
theorem tw9427301549700849589 : True:=trivial
theorem tw4494801613693538912 : True:=trivial
theorem tw6785817131721698500 : True:=trivial
theorem tw6767318904944593275 : True:=trivial
theorem tw3646829019195819677 : True:=trivial
theorem tw5978321128707920903 : True:=trivial
theorem tw8053944837975664402 : True:=trivial
theorem tw10111801491309104144 : True:=trivial
theorem tw9702936160620672325 : True:=trivial
theorem tw3704167492566942397 : True:=trivial
theorem tw17252143746492648416 : True:=trivial
theorem tw13532847315355080253 : True:=trivial
theorem tw9013056391748086436 : True:=trivial
theorem tw2930668341846507884 : True:=trivial
theorem tw11117797201346649052 : True:=trivial
theorem tw12487502673411948298 : True:=trivial
theorem tw15220180469806662145 : True:=trivial
theorem tw6196171512934965099 : True:=trivial
theorem tw11034497122203965937 : True:=trivial
theorem tw4138081844389336918 : True:=trivial
theorem tw14896477498954680388 : True:=trivial
theorem tw11128854368766332075 : True:=trivial
theorem tw4851647983119433812 : True:=trivial
theorem tw4136554803537287180 : True:=trivial
theorem tw3434918251397683217 : True:=trivial
theorem tw18103342009636024947 : True:=trivial
theorem tw6407587892757256292 : True:=trivial
theorem tw4402725079659364252 : True:=trivial
theorem tw5976792059365374437 : True:=trivial
theorem tw9132557439983319658 : True:=trivial
theorem tw8381844023166312768 : True:=trivial
theorem tw7927469264209771579 : True:=trivial
theorem tw7578210074245671484 : True:=trivial
theorem tw17377529257436501650 : True:=trivial
theorem tw17183224562656869120 : True:=trivial
theorem tw16011055738799735888 : True:=trivial
theorem tw15042006015671813226 : True:=trivial
theorem tw10738003575532504788 : True:=trivial
theorem tw6060742912462422084 : True:=trivial
theorem tw1452849714261714991 : True:=trivial
theorem tw17087091549796120035 : True:=trivial
theorem tw16259696140248634718 : True:=trivial
theorem tw11917015161858427179 : True:=trivial
theorem tw307737655149646647 : True:=trivial
theorem tw6924109203229866365 : True:=trivial
theorem tw9673543361469618366 : True:=trivial
theorem tw16649331688326792143 : True:=trivial
theorem tw11652457597714270106 : True:=trivial
theorem tw6423634429210846174 : True:=trivial
theorem tw7366208706002141716 : True:=trivial
theorem tw15987713032478767096 : True:=trivial
theorem tw3443669649825651883 : True:=trivial
theorem tw15616948245753086127 : True:=trivial
theorem tw8990313861142287110 : True:=trivial
theorem tw8269573656231971908 : True:=trivial
theorem tw5036846961687405229 : True:=trivial
theorem tw3694398316872202419 : True:=trivial
theorem tw3229955645248102723 : True:=trivial
theorem tw3915529967508079626 : True:=trivial
theorem tw8684328023851190084 : True:=trivial
theorem tw8801323125487838256 : True:=trivial
theorem tw8977307856219701671 : True:=trivial
theorem tw2502866573005156581 : True:=trivial
theorem tw3350844169311001129 : True:=trivial
theorem tw8015326511298524721 : True:=trivial
theorem tw9748044761591592747 : True:=trivial
theorem tw9298403506768410418 : True:=trivial
theorem tw8134915037123179040 : True:=trivial
theorem tw7153062008950511462 : True:=trivial
theorem tw4111692666942324129 : True:=trivial
theorem tw17130151131035750659 : True:=trivial
theorem tw15673258824015622330 : True:=trivial
theorem tw11709330566771433103 : True:=trivial
theorem tw5245234834050458271 : True:=trivial
theorem tw8004679753235328684 : True:=trivial
theorem tw7854228177987924090 : True:=trivial
theorem tw10012880186880212623 : True:=trivial
theorem tw10030107230732127627 : True:=trivial
theorem tw100483095206116625 : True:=trivial
theorem tw1013155817946168525 : True:=trivial
theorem tw10170382586518783626 : True:=trivial
theorem tw10403243965636340961 : True:=trivial
theorem tw10404513684093684653 : True:=trivial
theorem tw10424393626065333798 : True:=trivial
theorem tw1043307727769730188 : True:=trivial
theorem tw10458740792067480800 : True:=trivial
theorem tw10507497572311344420 : True:=trivial
theorem tw10525666975642140466 : True:=trivial
theorem tw10543509907540572799 : True:=trivial
theorem tw10601615944963115059 : True:=trivial
theorem tw10614716105012338702 : True:=trivial
theorem tw10678649693572172417 : True:=trivial
theorem tw10752148897807903841 : True:=trivial
theorem tw10781468475247234061 : True:=trivial
theorem tw10806950440038215891 : True:=trivial
theorem tw10844753989422098599 : True:=trivial
theorem tw10847404155465417027 : True:=trivial
theorem tw11054480109507316185 : True:=trivial
theorem tw11079593142295127227 : True:=trivial
theorem tw11162318198679636149 : True:=trivial
theorem tw1118553966540926140 : True:=trivial
theorem tw11210553801493137410 : True:=trivial
theorem tw11232374478483605306 : True:=trivial
theorem tw11251137523995926341 : True:=trivial
theorem tw11319892378374348655 : True:=trivial
theorem tw11375277706881905925 : True:=trivial
theorem tw11402939732021071671 : True:=trivial
theorem tw11465210709893060100 : True:=trivial
theorem tw11513968764499736323 : True:=trivial
theorem tw11551083187376567056 : True:=trivial
theorem tw11631869004601391166 : True:=trivial
theorem tw11631947586910100387 : True:=trivial
theorem tw11632984921778587759 : True:=trivial
theorem tw11778180911958503814 : True:=trivial
theorem tw11801993109049149486 : True:=trivial
theorem tw11893437276241958245 : True:=trivial
theorem tw11953376511379268794 : True:=trivial
theorem tw11968265576560266318 : True:=trivial
theorem tw1197925565968671727 : True:=trivial
theorem tw12050417470231563642 : True:=trivial
theorem tw12070051907170230399 : True:=trivial
theorem tw12070654863422294720 : True:=trivial
theorem tw12112201142124510154 : True:=trivial
theorem tw12113243949977362033 : True:=trivial
theorem tw12173100003817136821 : True:=trivial
theorem tw1222794163293265305 : True:=trivial
theorem tw12393119488966705847 : True:=trivial
theorem tw1241404454085649124 : True:=trivial
theorem tw12459740579856956213 : True:=trivial
theorem tw12575139184659369484 : True:=trivial
theorem tw12588582704262371052 : True:=trivial
theorem tw12591134339009171964 : True:=trivial
theorem tw12611767792052310623 : True:=trivial
theorem tw12614811148066621264 : True:=trivial
theorem tw12631932088317031055 : True:=trivial
theorem tw12647368939536790636 : True:=trivial
theorem tw12744807935193187038 : True:=trivial
theorem tw128412058910260475 : True:=trivial
theorem tw12870888531099404533 : True:=trivial
theorem tw12901994302517312135 : True:=trivial
theorem tw12936449754285732098 : True:=trivial
theorem tw1299046323782801668 : True:=trivial
theorem tw13181700845877081190 : True:=trivial
theorem tw13217225542625558698 : True:=trivial
theorem tw13225837485096350037 : True:=trivial
theorem tw13267510147771200024 : True:=trivial
theorem tw13280443560766958183 : True:=trivial
theorem tw13285133528070534704 : True:=trivial
theorem tw13293453174229064190 : True:=trivial
theorem tw1331086792558400476 : True:=trivial
theorem tw13315533130655954831 : True:=trivial
theorem tw13322179722446271537 : True:=trivial
theorem tw13330244855972007585 : True:=trivial
theorem tw13372043803930879067 : True:=trivial
theorem tw13466754112058979494 : True:=trivial
theorem tw13638418597567726942 : True:=trivial
theorem tw13783031573616600631 : True:=trivial
theorem tw13790719812936386609 : True:=trivial
theorem tw13828106393651249627 : True:=trivial
theorem tw1382963296337349011 : True:=trivial
theorem tw13893168526513508166 : True:=trivial
theorem tw13929354066492186541 : True:=trivial
theorem tw13931416462566266981 : True:=trivial
theorem tw1409312971732116557 : True:=trivial
theorem tw1413172679324656950 : True:=trivial
theorem tw14176624398918483544 : True:=trivial
theorem tw1425423193147277237 : True:=trivial
theorem tw14353793391729792155 : True:=trivial
theorem tw1439246655266547700 : True:=trivial
theorem tw14457593812595234344 : True:=trivial
theorem tw14492701947808656938 : True:=trivial
theorem tw14598272352848978880 : True:=trivial
theorem tw14620637471214046174 : True:=trivial
theorem tw14705683404202351889 : True:=trivial
theorem tw14754404106442844205 : True:=trivial
theorem tw14768889098011018680 : True:=trivial
theorem tw14852329139284432860 : True:=trivial
theorem tw14906377314874228009 : True:=trivial
theorem tw14955159897011116063 : True:=trivial
theorem tw14960593345356199642 : True:=trivial
theorem tw14980023328507725902 : True:=trivial
theorem tw15043168886218598503 : True:=trivial
theorem tw15048261121198461528 : True:=trivial
theorem tw15083628210047938546 : True:=trivial
theorem tw15103106377680225435 : True:=trivial
theorem tw15207398651663016943 : True:=trivial
theorem tw15213948185873263833 : True:=trivial
theorem tw15279998641719260112 : True:=trivial
theorem tw15367242080415987702 : True:=trivial
theorem tw15411387601460861337 : True:=trivial
theorem tw15416985209724490359 : True:=trivial
theorem tw15422856539912107476 : True:=trivial
theorem tw15463257786427224491 : True:=trivial
theorem tw15508949281206285077 : True:=trivial
theorem tw15527848837575444561 : True:=trivial
theorem tw15610959940260225430 : True:=trivial
theorem tw15615420239508185596 : True:=trivial
theorem tw15615537253650120727 : True:=trivial
theorem tw1563692795949630186 : True:=trivial
theorem tw15642763164714097627 : True:=trivial
theorem tw15643275761693703936 : True:=trivial
theorem tw15683763237869141255 : True:=trivial
theorem tw15759970867653108152 : True:=trivial
theorem tw15833661619300960221 : True:=trivial
theorem tw15946388913382835224 : True:=trivial
theorem tw15967140613478806237 : True:=trivial
theorem tw15992342658441690333 : True:=trivial
theorem tw16029623286316568529 : True:=trivial
theorem tw16037735763661986305 : True:=trivial
theorem tw16064382804478563927 : True:=trivial
theorem tw16091413853298234908 : True:=trivial
theorem tw1610171440888473627 : True:=trivial
theorem tw16154546982801380032 : True:=trivial
theorem tw16171809288044610508 : True:=trivial
theorem tw162610821266807592 : True:=trivial
theorem tw16299908979028503884 : True:=trivial
theorem tw16302227732802510677 : True:=trivial
theorem tw16332348944364537037 : True:=trivial
theorem tw16345102440705955213 : True:=trivial
theorem tw16357263729072622229 : True:=trivial
theorem tw16432713993328977331 : True:=trivial
theorem tw16502264421070913907 : True:=trivial
theorem tw16694946328126371552 : True:=trivial
theorem tw16794629799341752650 : True:=trivial
theorem tw16858285156579221889 : True:=trivial
theorem tw16868993833207775613 : True:=trivial
theorem tw16919406825032445293 : True:=trivial
theorem tw16920754564084929960 : True:=trivial
theorem tw16945582573551092051 : True:=trivial
theorem tw16970440968685349367 : True:=trivial
theorem tw1699103778626983548 : True:=trivial
theorem tw17047115858639842297 : True:=trivial
theorem tw17054507655720011243 : True:=trivial
theorem tw1712922718373300912 : True:=trivial
theorem tw17177331786930743035 : True:=trivial
theorem tw17213754286329925777 : True:=trivial
theorem tw17311223219408574766 : True:=trivial
theorem tw17447410573909459338 : True:=trivial
theorem tw17542962492245011380 : True:=trivial
theorem tw17606422857730326317 : True:=trivial
theorem tw17650839729002327288 : True:=trivial
theorem tw17672654358674132775 : True:=trivial
theorem tw17696971302532935780 : True:=trivial
theorem tw17739348878880393726 : True:=trivial
theorem tw1781861727890032366 : True:=trivial
theorem tw17893044597097874663 : True:=trivial
theorem tw17895171251205151618 : True:=trivial
theorem tw17948085552500728524 : True:=trivial
theorem tw17950676927832955104 : True:=trivial
theorem tw17975533764899295144 : True:=trivial
theorem tw1800889605409440832 : True:=trivial
theorem tw18176940659606848779 : True:=trivial
theorem tw18219297243305740317 : True:=trivial
theorem tw18264374347568628810 : True:=trivial
theorem tw18291419657060728153 : True:=trivial
theorem tw18293732401869909652 : True:=trivial
theorem tw18293851220164018083 : True:=trivial
theorem tw18322514126500204803 : True:=trivial
theorem tw18343703819029505601 : True:=trivial
theorem tw1836080755315867724 : True:=trivial
theorem tw1847840615245081061 : True:=trivial
theorem tw185848376630758926 : True:=trivial
theorem tw1892617552273215400 : True:=trivial
theorem tw189712035060473897 : True:=trivial
theorem tw1954109241102656831 : True:=trivial
theorem tw1997569388931296116 : True:=trivial
theorem tw2051048951616859547 : True:=trivial
theorem tw2068664650715991707 : True:=trivial
theorem tw2114630138375439770 : True:=trivial
theorem tw212345690472687942 : True:=trivial
theorem tw2195365466389143174 : True:=trivial
theorem tw2252305205657439004 : True:=trivial
theorem tw226724450230711188 : True:=trivial
theorem tw2329189449893159454 : True:=trivial
theorem tw2391449824757734642 : True:=trivial
theorem tw2448417245163862455 : True:=trivial
theorem tw2783992281797965187 : True:=trivial
theorem tw2799067240506288376 : True:=trivial
theorem tw280609765759037681 : True:=trivial
theorem tw2845679848157327705 : True:=trivial
theorem tw2867327485932766208 : True:=trivial
theorem tw2887051446865420828 : True:=trivial
theorem tw2999033326186475339 : True:=trivial
theorem tw3008623586974134963 : True:=trivial
theorem tw3381375190539634487 : True:=trivial
theorem tw3404104791013757517 : True:=trivial
theorem tw3442329435671937591 : True:=trivial
theorem tw3451239065008710300 : True:=trivial
theorem tw3452082135128663414 : True:=trivial
theorem tw3480954088277226078 : True:=trivial
theorem tw3571134770919094901 : True:=trivial
theorem tw3673020696563887462 : True:=trivial
theorem tw3759623122121258479 : True:=trivial
theorem tw3789350110615891812 : True:=trivial
theorem tw3828038474966422129 : True:=trivial
theorem tw3919010098100093602 : True:=trivial
theorem tw395138700845864316 : True:=trivial
theorem tw3953601041324332601 : True:=trivial
theorem tw4015398097383911347 : True:=trivial
theorem tw4021928978595405253 : True:=trivial
theorem tw402640490398009360 : True:=trivial
theorem tw4065347644161347641 : True:=trivial
theorem tw4115565904173853331 : True:=trivial
theorem tw4172343393113369950 : True:=trivial
theorem tw4182648748547736412 : True:=trivial
theorem tw4225703048834024713 : True:=trivial
theorem tw4272726840584523970 : True:=trivial
theorem tw4282304852377368616 : True:=trivial
theorem tw432457690288141553 : True:=trivial
theorem tw4360684699965382250 : True:=trivial
theorem tw4383666589626881386 : True:=trivial
theorem tw442638132926106271 : True:=trivial
theorem tw4449123307109862055 : True:=trivial
theorem tw4478964076566166474 : True:=trivial
theorem tw4523669819894539328 : True:=trivial
theorem tw461538923250603899 : True:=trivial
theorem tw4642405928176397000 : True:=trivial
theorem tw4643362625855044894 : True:=trivial
theorem tw464777395874653626 : True:=trivial
theorem tw4788038989552484473 : True:=trivial
theorem tw4971549296188076032 : True:=trivial
theorem tw4990156530697904881 : True:=trivial
theorem tw5148922909946612681 : True:=trivial
theorem tw5167245352685981253 : True:=trivial
theorem tw5174551420813472067 : True:=trivial
theorem tw5190246844813560578 : True:=trivial
theorem tw519851828213033955 : True:=trivial
theorem tw5238241317806426387 : True:=trivial
theorem tw526207354791536317 : True:=trivial
theorem tw5283464899586487735 : True:=trivial
theorem tw5363564295841288755 : True:=trivial
theorem tw5373601922739893978 : True:=trivial
theorem tw5388632664720090651 : True:=trivial
theorem tw541196102884509978 : True:=trivial
theorem tw5416991563250132298 : True:=trivial
theorem tw5486487638281291605 : True:=trivial
theorem tw5549315172176941698 : True:=trivial
theorem tw5608270528595127837 : True:=trivial
theorem tw5629675986466331604 : True:=trivial
theorem tw5635641802508607975 : True:=trivial
theorem tw5657824000916062451 : True:=trivial
theorem tw5899666649113621702 : True:=trivial
theorem tw5902613922787404954 : True:=trivial
theorem tw5961118342813265553 : True:=trivial
theorem tw6123773746684550334 : True:=trivial
theorem tw6140570298594658328 : True:=trivial
theorem tw6164396464334811476 : True:=trivial
theorem tw6184208073178115725 : True:=trivial
theorem tw6184460063843016694 : True:=trivial
theorem tw6186238094035137676 : True:=trivial
theorem tw6293948785866598258 : True:=trivial
theorem tw6305734824756694309 : True:=trivial
theorem tw6411954120941647267 : True:=trivial
theorem tw6438293893037913957 : True:=trivial
theorem tw6442067068224118133 : True:=trivial
theorem tw6545403380812914513 : True:=trivial
theorem tw6578402527460240241 : True:=trivial
theorem tw6598312636042714100 : True:=trivial
theorem tw663384727985864361 : True:=trivial
theorem tw6755925336976613232 : True:=trivial
theorem tw6759412095888398321 : True:=trivial
theorem tw6819123309680001836 : True:=trivial
theorem tw6838551448383532254 : True:=trivial
theorem tw6898005170327248138 : True:=trivial
theorem tw6906073325868019850 : True:=trivial
theorem tw6965799899956892507 : True:=trivial
theorem tw6982297934935202809 : True:=trivial
theorem tw701787995468756871 : True:=trivial
theorem tw7023726343779634624 : True:=trivial
theorem tw7028611270464810887 : True:=trivial
theorem tw7068711184596962023 : True:=trivial
theorem tw7082855905992002993 : True:=trivial
theorem tw7152984921513172624 : True:=trivial
theorem tw7270182246851987180 : True:=trivial
theorem tw7292484366425897655 : True:=trivial
theorem tw7296583596125217682 : True:=trivial
theorem tw732345407407602841 : True:=trivial
theorem tw7379015992945566340 : True:=trivial
theorem tw7382370116671421104 : True:=trivial
theorem tw7494724483528729301 : True:=trivial
theorem tw7510230149288206974 : True:=trivial
theorem tw7523672394736509286 : True:=trivial
theorem tw7525542149764818722 : True:=trivial
theorem tw7526368328331116154 : True:=trivial
theorem tw7534799579077118603 : True:=trivial
theorem tw7541792107247259296 : True:=trivial
theorem tw7628703163842673926 : True:=trivial
theorem tw7654286748164834634 : True:=trivial
theorem tw7721951785955056133 : True:=trivial
theorem tw7754304195085646258 : True:=trivial
theorem tw7793673504863384051 : True:=trivial
theorem tw7880807054014371918 : True:=trivial
theorem tw7891253978561527248 : True:=trivial
theorem tw7914949630228597729 : True:=trivial
theorem tw8047900516022102942 : True:=trivial
theorem tw8068729725432388964 : True:=trivial
theorem tw8112040973832200146 : True:=trivial
theorem tw8228950375871286339 : True:=trivial
theorem tw8268277133935991078 : True:=trivial
theorem tw8273930003744585626 : True:=trivial
theorem tw8343274005884668182 : True:=trivial
theorem tw8351282476255451920 : True:=trivial
theorem tw8457440626546761165 : True:=trivial
theorem tw8458067239894703972 : True:=trivial
theorem tw8493152586797012548 : True:=trivial
theorem tw8516288146210602744 : True:=trivial
theorem tw8652628183442184457 : True:=trivial
theorem tw8664936974563722654 : True:=trivial
theorem tw8683856772340465682 : True:=trivial
theorem tw8716120427605611371 : True:=trivial
theorem tw8727321023445011275 : True:=trivial
theorem tw876933089483189297 : True:=trivial
theorem tw8770205317985620760 : True:=trivial
theorem tw881544763273948857 : True:=trivial
theorem tw8934143017859847078 : True:=trivial
theorem tw8960069828448710407 : True:=trivial
theorem tw9131607905817354932 : True:=trivial
theorem tw9153386212771759811 : True:=trivial
theorem tw922143313871775805 : True:=trivial
theorem tw9244321171653502345 : True:=trivial
theorem tw9277588360372424766 : True:=trivial
theorem tw9345676750909349944 : True:=trivial
theorem tw9345929723534960622 : True:=trivial
theorem tw9386895884608548742 : True:=trivial
theorem tw9421340871869096474 : True:=trivial
theorem tw9459050058782445324 : True:=trivial
theorem tw9499510787657705874 : True:=trivial
theorem tw9555612238305686254 : True:=trivial
theorem tw9577689765879766989 : True:=trivial
theorem tw9617658007855726926 : True:=trivial
theorem tw9657781627882305391 : True:=trivial
theorem tw9719896912496429819 : True:=trivial
theorem tw9731375825926819010 : True:=trivial
theorem tw9763420282994701918 : True:=trivial
theorem tw978945382295711627 : True:=trivial
theorem tw9908193460736022307 : True:=trivial
theorem tw9960721518486171458 : True:=trivial
end hd
set_option Elab.async true in
set_option maxHeartbeats 8000000 in
set_option tactic.hygienic true in
theorem hd : PySem.Challenge.rw_nu0137_01.Holds := by
 w_on; o_law; k_head; (case hw => w_witness2)
 intro w s₀ s₁ mg mb G Y fa o pm cd doc dV kV ho hdd hcd hD hmg hg args vals as hpre hlay hrd hwl hlo
 have KX := kIn_of Y
 clear Y
 refine Ground.open G ?_
 intro T B D TE TW
 have TR := topRead_of T
 wrow_args hpre hlay hrd hwl hlo
 all_goals (refine enter_call ?_)
 all_goals (refine codeAny_mono ?_ (fun _ _ g => GoodW.toG g))
 rename_i xs _ _ _ _ _ _ _ _ us _ hL ra _ _ hI _ hc _
 refine walk_any ?kf KX TR hmg hL hI (by omega) fun h' t' hk => ?_
 case kf =>
  generalize w.params = p
  refine ⟨?_, ?_, ?_, ?_, ?_, ?_, ?_, ?_, ?_, ?_, ?_, ?_, ?_, ?_, ?_, ?_, ?_, ?_, ?_, ?_⟩
  ·repeat (refine ⟨by kernel_rfl, ?_⟩)
   exact trivial
  ·repeat (refine ⟨by intro S; (repeat intro _); refine Cur.nil ?_; kernel_rfl, ?_⟩)
   exact trivial
  all_goals first | kernel_rfl | ((repeat intro _); refine Cur.nil ?_; kernel_rfl)
 refine ⟨.inl ⟨_, .bool true, [], rfl, fun _ => rfl, .bool true, ?_, fun _ => ⟨List.nodup_nil, fun a h => by cases h⟩⟩, hk, rfl, hg⟩
 kernel_rfl
end Mine
set_option maxRecDepth 100000 in
theorem PySem.Challenge.cw_nu0137_01_holds : PySem.Challenge.rw_nu0137_01.Holds :=
 Mine.hd
