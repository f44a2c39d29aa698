import PyProof.Rows.All
import Wide.All
import OpenK.AllK
import Wide.FinOn
import Lean
import PySem.Challenge.RW_sa0050_01
set_option Elab.async false
set_option genSizeOf false
set_option genInjectivity false
set_option genCtorIdx false
set_option tactic.hygienic false
set_option linter.all false
open PySem PySem.W PySem.Calls PyProof.Rows PySem.SeqAt
local macro_rules | `(tactic| omega) => `(tactic| lia -abstractProof)
namespace Mine
theorem x02 {A0 A1:Prop} {P:Prop} (h:A0∧A1) (k:A0→A1→P):P:=k h.1 h.2
theorem x03 {A0 A1 A2:Prop} {P:Prop} (h:A0∧A1∧A2) (k:A0→A1→A2→P):P:=k h.1 h.2.1 h.2.2
theorem x04 {A0 A1 A2 A3:Prop} {P:Prop} (h:A0∧A1∧A2∧A3) (k:A0→A1→A2→A3→P):P:=k h.1 h.2.1 h.2.2.1 h.2.2.2
theorem x08 {A0 A1 A2 A3 A4 A5 A6 A7:Prop} {P:Prop} (h:A0∧A1∧A2∧A3∧A4∧A5∧A6∧A7) (k:A0→A1→A2→A3→A4→A5→A6→A7→P):P:=k h.1 h.2.1 h.2.2.1 h.2.2.2.1 h.2.2.2.2.1 h.2.2.2.2.2.1 h.2.2.2.2.2.2.1 h.2.2.2.2.2.2.2
theorem x11 {α:Type} {A0:α→Prop} {P:Prop} (h:∃x,A0 x) (k:∀x,A0 x→P):P:=h.elim fun x h=>k x h
theorem x12 {α:Type} {A0 A1:α→Prop} {P:Prop} (h:∃x,A0 x∧A1 x) (k:∀x,A0 x→A1 x→P):P:=h.elim fun x h=>k x h.1 h.2
theorem x13 {α:Type} {A0 A1 A2:α→Prop} {P:Prop} (h:∃x,A0 x∧A1 x∧A2 x) (k:∀x,A0 x→A1 x→A2 x→P):P:=h.elim fun x h=>k x h.1 h.2.1 h.2.2
theorem x14 {α:Type} {A0 A1 A2 A3:α→Prop} {P:Prop} (h:∃x,A0 x∧A1 x∧A2 x∧A3 x) (k:∀x,A0 x→A1 x→A2 x→A3 x→P):P:=h.elim fun x h=>k x h.1 h.2.1 h.2.2.1 h.2.2.2
theorem x15 {α:Type} {A0 A1 A2 A3 A4:α→Prop} {P:Prop} (h:∃x,A0 x∧A1 x∧A2 x∧A3 x∧A4 x) (k:∀x,A0 x→A1 x→A2 x→A3 x→A4 x→P):P:=h.elim fun x h=>k x h.1 h.2.1 h.2.2.1 h.2.2.2.1 h.2.2.2.2
theorem x21 {α:Type} {β:Type} {A0:α→β→Prop} {P:Prop} (h:∃x y,A0 x y) (k:∀x y,A0 x y→P):P:=h.elim fun x h=>h.elim fun y h=>k x y h
theorem x22 {α:Type} {β:Type} {A0 A1:α→β→Prop} {P:Prop} (h:∃x y,A0 x y∧A1 x y) (k:∀x y,A0 x y→A1 x y→P):P:=h.elim fun x h=>h.elim fun y h=>k x y h.1 h.2
theorem x23 {α:Type} {β:Type} {A0 A1 A2:α→β→Prop} {P:Prop} (h:∃x y,A0 x y∧A1 x y∧A2 x y) (k:∀x y,A0 x y→A1 x y→A2 x y→P):P:=h.elim fun x h=>h.elim fun y h=>k x y h.1 h.2.1 h.2.2
theorem x24 {α:Type} {β:Type} {A0 A1 A2 A3:α→β→Prop} {P:Prop} (h:∃x y,A0 x y∧A1 x y∧A2 x y∧A3 x y) (k:∀x y,A0 x y→A1 x y→A2 x y→A3 x y→P):P:=h.elim fun x h=>h.elim fun y h=>k x y h.1 h.2.1 h.2.2.1 h.2.2.2
theorem x26 {α:Type} {β:Type} {A0 A1 A2 A3 A4 A5:α→β→Prop} {P:Prop} (h:∃x y,A0 x y∧A1 x y∧A2 x y∧A3 x y∧A4 x y∧A5 x y) (k:∀x y,A0 x y→A1 x y→A2 x y→A3 x y→A4 x y→A5 x y→P):P:=h.elim fun x h=>h.elim fun y h=>k x y h.1 h.2.1 h.2.2.1 h.2.2.2.1 h.2.2.2.2.1 h.2.2.2.2.2
theorem x28 {α:Type} {β:Type} {A0 A1 A2 A3 A4 A5 A6 A7:α→β→Prop} {P:Prop} (h:∃x y,A0 x y∧A1 x y∧A2 x y∧A3 x y∧A4 x y∧A5 x y∧A6 x y∧A7 x y) (k:∀x y,A0 x y→A1 x y→A2 x y→A3 x y→A4 x y→A5 x y→A6 x y→A7 x y→P):P:=h.elim fun x h=>h.elim fun y h=>k x y h.1 h.2.1 h.2.2.1 h.2.2.2.1 h.2.2.2.2.1 h.2.2.2.2.2.1 h.2.2.2.2.2.2.1 h.2.2.2.2.2.2.2
theorem x31 {α:Type} {β:Type} {γ:Type} {A0:α→β→γ→Prop} {P:Prop} (h:∃x y z,A0 x y z) (k:∀x y z,A0 x y z→P):P:=h.elim fun x h=>h.elim fun y h=>h.elim fun z h=>k x y z h
theorem x32 {α:Type} {β:Type} {γ:Type} {A0 A1:α→β→γ→Prop} {P:Prop} (h:∃x y z,A0 x y z∧A1 x y z) (k:∀x y z,A0 x y z→A1 x y z→P):P:=h.elim fun x h=>h.elim fun y h=>h.elim fun z h=>k x y z h.1 h.2
theorem x33 {α:Type} {β:Type} {γ:Type} {A0 A1 A2:α→β→γ→Prop} {P:Prop} (h:∃x y z,A0 x y z∧A1 x y z∧A2 x y z) (k:∀x y z,A0 x y z→A1 x y z→A2 x y z→P):P:=h.elim fun x h=>h.elim fun y h=>h.elim fun z h=>k x y z h.1 h.2.1 h.2.2
theorem x34 {α:Type} {β:Type} {γ:Type} {A0 A1 A2 A3:α→β→γ→Prop} {P:Prop} (h:∃x y z,A0 x y z∧A1 x y z∧A2 x y z∧A3 x y z) (k:∀x y z,A0 x y z→A1 x y z→A2 x y z→A3 x y z→P):P:=h.elim fun x h=>h.elim fun y h=>h.elim fun z h=>k x y z h.1 h.2.1 h.2.2.1 h.2.2.2
theorem x35 {α:Type} {β:Type} {γ:Type} {A0 A1 A2 A3 A4:α→β→γ→Prop} {P:Prop} (h:∃x y z,A0 x y z∧A1 x y z∧A2 x y z∧A3 x y z∧A4 x y z) (k:∀x y z,A0 x y z→A1 x y z→A2 x y z→A3 x y z→A4 x y z→P):P:=h.elim fun x h=>h.elim fun y h=>h.elim fun z h=>k x y z h.1 h.2.1 h.2.2.1 h.2.2.2.1 h.2.2.2.2
theorem x42 {α:Type} {β:Type} {γ:Type} {δ:Type} {A0 A1:α→β→γ→δ→Prop} {P:Prop} (h:∃x y z w,A0 x y z w∧A1 x y z w) (k:∀x y z w,A0 x y z w→A1 x y z w→P):P:=h.elim fun x h=>h.elim fun y h=>h.elim fun z h=>h.elim fun w h=>k x y z w h.1 h.2
theorem x43 {α:Type} {β:Type} {γ:Type} {δ:Type} {A0 A1 A2:α→β→γ→δ→Prop} {P:Prop} (h:∃x y z w,A0 x y z w∧A1 x y z w∧A2 x y z w) (k:∀x y z w,A0 x y z w→A1 x y z w→A2 x y z w→P):P:=h.elim fun x h=>h.elim fun y h=>h.elim fun z h=>h.elim fun w h=>k x y z w h.1 h.2.1 h.2.2
theorem x57 {α:Type} {β:Type} {γ:Type} {δ:Type} {ε:Type} {A0 A1 A2 A3 A4 A5 A6:α→β→γ→δ→ε→Prop} {P:Prop} (h:∃x y z w u,A0 x y z w u∧A1 x y z w u∧A2 x y z w u∧A3 x y z w u∧A4 x y z w u∧A5 x y z w u∧A6 x y z w u) (k:∀x y z w u,A0 x y z w u→A1 x y z w u→A2 x y z w u→A3 x y z w u→A4 x y z w u→A5 x y z w u→A6 x y z w u→P):P:=h.elim fun x h=>h.elim fun y h=>h.elim fun z h=>h.elim fun w h=>h.elim fun u h=>k x y z w u h.1 h.2.1 h.2.2.1 h.2.2.2.1 h.2.2.2.2.1 h.2.2.2.2.2.1 h.2.2.2.2.2.2
theorem x63 {α:Type} {β:Type} {γ:Type} {δ:Type} {ε:Type} {ζ:Type} {A0 A1 A2:α→β→γ→δ→ε→ζ→Prop} {P:Prop} (h:∃x y z w u v,A0 x y z w u v∧A1 x y z w u v∧A2 x y z w u v) (k:∀x y z w u v,A0 x y z w u v→A1 x y z w u v→A2 x y z w u v→P):P:=h.elim fun x h=>h.elim fun y h=>h.elim fun z h=>h.elim fun w h=>h.elim fun u h=>h.elim fun v h=>k x y z w u v h.1 h.2.1 h.2.2
theorem x64 {α:Type} {β:Type} {γ:Type} {δ:Type} {ε:Type} {ζ:Type} {A0 A1 A2 A3:α→β→γ→δ→ε→ζ→Prop} {P:Prop} (h:∃x y z w u v,A0 x y z w u v∧A1 x y z w u v∧A2 x y z w u v∧A3 x y z w u v) (k:∀x y z w u v,A0 x y z w u v→A1 x y z w u v→A2 x y z w u v→A3 x y z w u v→P):P:=h.elim fun x h=>h.elim fun y h=>h.elim fun z h=>h.elim fun w h=>h.elim fun u h=>h.elim fun v h=>k x y z w u v h.1 h.2.1 h.2.2.1 h.2.2.2
theorem x74 {α:Type} {β:Type} {γ:Type} {δ:Type} {ε:Type} {ζ:Type} {η:Type} {A0 A1 A2 A3:α→β→γ→δ→ε→ζ→η→Prop} {P:Prop} (h:∃x y z w u v t,A0 x y z w u v t∧A1 x y z w u v t∧A2 x y z w u v t∧A3 x y z w u v t) (k:∀x y z w u v t,A0 x y z w u v t→A1 x y z w u v t→A2 x y z w u v t→A3 x y z w u v t→P):P:=h.elim fun x h=>h.elim fun y h=>h.elim fun z h=>h.elim fun w h=>h.elim fun u h=>h.elim fun v h=>h.elim fun t h=>k x y z w u v t h.1 h.2.1 h.2.2.1 h.2.2.2
theorem leK {x a b:Nat} (h:x≤a) (d:a≤b:=by decide):x≤b:=Nat.le_trans h d
theorem ltK {x a b:Nat} (h:x≤a) (d:a<b:=by decide):x<b:=Nat.lt_of_le_of_lt h d
theorem l1K {x a b:Nat} (h:x≤a) (d:1+a≤b:=by decide):1+x≤b:=Nat.le_trans (Nat.add_le_add_left h 1) d
theorem mK {x y c a b:Nat} (h:x≤c * y) (h':y≤a) (d:c * a≤b:=by decide):x≤b:=Nat.le_trans h (Nat.le_trans (Nat.mul_le_mul_left c h') d)
theorem mK1 {x y c a b e:Nat} (h:x≤c * y+e) (h':y≤a) (d:c * a+e≤b:=by decide):x≤b:=Nat.le_trans h (Nat.le_trans (Nat.add_le_add_right (Nat.mul_le_mul_left c h') e) d)
theorem aK {x y a b c:Nat} (h:x≤a) (h':y≤b) (d:a+b≤c:=by decide):x+y≤c:=Nat.le_trans (Nat.add_le_add h h') d
theorem aC {x y c e:Nat} (h:x≤c * y):x≤c * y+e:=Nat.le_trans h (Nat.le_add_right _ _)
theorem aC1 {x y c e f:Nat} (h:x≤c * y+e) (d:e≤f:=by decide):x≤c * y+f:=Nat.le_trans h (Nat.add_le_add_left d _)
theorem sK {x y a b:Nat} (h:x+a<y) (d:b≤a:=by decide):x+b<y:=Nat.lt_of_le_of_lt (Nat.add_le_add_left d x) h
theorem n0 {a b c:Nat} (h:a=b) (h':c<b):a≠0:=fun e=>Nat.not_lt_zero c (by rw[←e,h];exact h')
theorem n0' {a b:Nat} (h:a=b) (h':b≠0):a≠0:=fun e=>h' (h▸e)
theorem neE {a b c:Nat} (h:c<b) (h':c=a):a≠b:=fun e=>Nat.ne_of_lt h (h'.trans e)
theorem iK' {n b:Nat} (h:n<b):(n:Int)<(b:Nat):=Int.ofNat_lt.mpr h
theorem iN {n a:Nat} (d:0<a:=by decide):-((a:Nat):Int)<(n:Int):=Int.lt_of_lt_of_le (Int.neg_neg_of_pos (Int.ofNat_lt.mpr d)) (Int.natCast_nonneg n)
theorem sub1 {a b:Nat} (h:¬a<b) (k:a - b<1):a=b:=Nat.le_antisymm (Nat.le_of_sub_eq_zero (Nat.lt_one_iff.mp k)) (Nat.le_of_not_lt h)
theorem mmx {a b:Nat} (h:a≠b):min a b<max a b:=(Nat.lt_or_gt_of_ne h).elim (fun l=>by rw[Nat.min_eq_left (Nat.le_of_lt l),Nat.max_eq_right (Nat.le_of_lt l)];exact l) fun l=>by rw[Nat.min_eq_right (Nat.le_of_lt l),Nat.max_eq_left (Nat.le_of_lt l)];exact l
theorem ls1 {a b x y:Nat} (h:y+(b+1)<x) (k:a≤y+1):a+b<x:=Nat.lt_of_le_of_lt (Nat.le_trans (Nat.add_le_add_right k b) (Nat.le_of_eq (Nat.add_right_comm y 1 b))) h
theorem rmS {a b c:Nat} (h:a+c+150<b):a+80<b:=Nat.lt_of_le_of_lt (Nat.add_le_add (Nat.le_add_right a c) (by decide)) h
theorem potA {m w a:Nat} (h:m+1≤24) (k:a≤48):(24 - (m+1)) * 49+(w+a)+1≤(24 - m) * 49+(w+1):=by omega
theorem Jc {α:Type} {P:Prop} {a:α} (h:(none:Option α)=some a):P:=nomatch h
set_option genCtorIdx true in
inductive V where
 |none
 |bool (b:Bool)
 |int (i:Int)
 |str (s:Str)
 |tup (vs:List V)
 |ref (n:Nat)
mutual
noncomputable def V.eqb:V→V→Bool
 |.none,b=>(match b with|.none=>true|_=>false)
 |.bool a,b=>(match b with|.bool b=>a==b|_=>false)
 |.int a,b=>(match b with|.int b=>a==b|_=>false)
 |.str a,b=>(match b with|.str b=>a==b|_=>false)
 |.tup a,b=>(match b with|.tup b=>V.eqbs a b|_=>false)
 |.ref a,b=>(match b with|.ref b=>a==b|_=>false)
noncomputable def V.eqbs:List V→List V→Bool
 |[],bs=>(match bs with|[]=>true|_=>false)
 |a::as,bs=>(match bs with|b::bs=>V.eqb a b&&V.eqbs as bs|_=>false)
end
mutual
theorem V.eqb_to:∀a b:V,V.eqb a b=true→a=b
 |.none,b,h=>by cases b<;>first|rfl|exact Bool.noConfusion h
 |.bool a,b,h=>by cases b<;>first|exact Bool.noConfusion h|exact congrArg _ (eq_of_beq h)
 |.int a,b,h=>by cases b<;>first|exact Bool.noConfusion h|exact congrArg _ (eq_of_beq h)
 |.str a,b,h=>by cases b<;>first|exact Bool.noConfusion h|exact congrArg _ (eq_of_beq h)
 |.ref a,b,h=>by cases b<;>first|exact Bool.noConfusion h|exact congrArg _ (eq_of_beq h)
 |.tup a,b,h=>by cases b<;>first|exact Bool.noConfusion h|exact congrArg _ (V.eqbs_to a _ h)
theorem V.eqbs_to:∀a b:List V,V.eqbs a b=true→a=b
 |[],b,h=>by cases b<;>first|rfl|exact Bool.noConfusion h
 |a::as,b,h=>by
  cases b with
  |nil=>exact Bool.noConfusion h
  |cons b bs=>
   have h:=Bool.and_eq_true_iff.mp h
   rw[V.eqb_to a b h.1,V.eqbs_to as bs h.2]
end
mutual
theorem V.eqb_refl:∀a:V,V.eqb a a=true
 |.none=>rfl
 |.bool a=>beq_self_eq_true a
 |.int a=>beq_self_eq_true a
 |.str a=>beq_self_eq_true a
 |.ref a=>beq_self_eq_true a
 |.tup a=>V.eqbs_refl a
theorem V.eqbs_refl:∀a:List V,V.eqbs a a=true
 |[]=>rfl
 |a::as=>Bool.and_eq_true_iff.mpr ⟨V.eqb_refl a,V.eqbs_refl as⟩
end
noncomputable instance:DecidableEq V:=fun a b=>decidable_of_decidable_of_iff (p:=V.eqb a b=true) ⟨V.eqb_to a b,fun h=>h▸V.eqb_refl a⟩
mutual
noncomputable def V.plain:V→Bool
 |.int _=>true
 |.str x=>PyData.strOk x
 |.tup vs=>V.plains vs
 |_=>false
noncomputable def V.plains:List V→Bool
 |[]=>true
 |a::as=>a.plain&&V.plains as
end
mutual
noncomputable def V.depth:V→Nat
 |.tup vs=>V.depths vs+1
 |_=>0
noncomputable def V.depths:List V→Nat
 |[]=>0
 |a::as=>max a.depth (V.depths as)
end
noncomputable def V.data (v:V):Bool:=v.plain&&decide (v.depth≤60)
noncomputable def V.datas (vs:List V):Bool:=V.plains vs&&decide (V.depths vs≤60)
set_option genCtorIdx true in
inductive O where
 |list (xs:List V)
 |dict (es:List (V×V)) (n:Nat)
 |inst (c:Str) (fs:List (Str×V))
structure St where
 objs:Array O
namespace St
noncomputable def get (s:St) (i:Nat):Option O:=s.objs[i]?
noncomputable def getM (s:St) (i:Nat):Option O:=match i with
 |0=>none
 |i+1=>s.get (i+1)
noncomputable def set (s:St) (i:Nat) (o:O):St:=⟨s.objs.setIfInBounds i o⟩
noncomputable def size (s:St):Nat:=s.objs.size
noncomputable def push (s:St) (o:O):St:=⟨s.objs.push o⟩
end St
noncomputable abbrev Loc:=List (Option V)
noncomputable def ix (sc:Scope) (x:Str):Nat:=sc.names.findIdx fun p=>x==p.1
noncomputable def lget (sc:Scope) (l:Loc) (x:Str):Option V:=(l[ix sc x]?).bind id
noncomputable def lset (sc:Scope) (l:Loc) (x:Str) (v:V):Loc:=l.set (ix sc x) (some v)
noncomputable abbrev KV:=V→St→Prop
noncomputable abbrev X:=Loc→St→KV→Prop
noncomputable abbrev XB:=Loc→St→(Bool→St→Prop)→Prop
noncomputable abbrev XL:=Loc→St→(List V→St→Prop)→Prop
noncomputable abbrev XS:=Loc→St→(Loc→St→Prop)→KV→Prop
structure Fn where
 params:List Str
 body:List Stmt
 scope:Scope
structure Tab where
 fn:Str→Option Fn
 gfn:Str→Option Str
 gcls:Str→Option Str
 gconst:Str→Option V
 meth:Str→Str→Option Str
 sup:Str→Str→Str→Option Str
 init:Str→Option Str
 fld:Str→Str→Bool
structure Cx where
 tab:Tab
 key:Str
 sc:Scope
 call:Str→List V→St→KV→Prop
noncomputable def cap:Nat:=1048576
noncomputable def alloc (o:O) (st:St) (Q:KV):Prop:=Q (.ref st.size) (st.push o)
noncomputable def small (i:Int):Prop:=i.natAbs<18446744073709551616
noncomputable def V.atom:V→Bool
 |.int _=>true
 |.str _=>true
 |_=>false
set_option genCtorIdx true in
inductive KK where
 |int|str|tup
noncomputable def keyKind:V→Option KK
 |.int _=>some .int
 |.str _=>some .str
 |.tup vs=>if vs.all V.atom then some .tup else none
 |_=>none
noncomputable def keysOk (k:V) (es:List (V×V)):Prop:=∃kk,keyKind k=some kk∧∀e∈es,keyKind e.1=some kk
noncomputable def dget (es:List (V×V)) (k:V):Option V:=(es.find? fun e=>decide (e.1=k)).map (·.2)
noncomputable def dput:List (V×V)→V→V→List (V×V)
 |[],k,v=>[(k,v)]
 |e::es,k,v=>if e.1=k then (e.1,v)::es else e::dput es k v
noncomputable def dep (es:List (V×V)) (k:V) (n:Nat):Nat:=if (dget es k).isSome then n else n+1
noncomputable def ddel (es:List (V×V)) (k:V):List (V×V):=es.eraseP fun e=>decide (e.1=k)
noncomputable def fget (fs:List (Str×V)) (k:Str):Option V:=(fs.find? fun e=>e.1==k).map (·.2)
noncomputable def fput:List (Str×V)→Str→V→List (Str×V)
 |[],k,v=>[(k,v)]
 |e::es,k,v=>if e.1=k then (e.1,v)::es else e::fput es k v
noncomputable def boolP (v:V) (Q:Bool→Prop):Prop:=match v with
 |.bool b=>Q b
 |_=>False
noncomputable def intP (v:V) (Q:Int→Prop):Prop:=match v with
 |.int b=>Q b
 |_=>False
noncomputable def cConst (k:Const):X:=fun _ st Q=>match k with
 |.none=>Q .none st
 |.bool b=>Q (.bool b) st
 |.int i=>Q (.int i) st
 |.str s=>Q (.str s) st
 |_=>False
noncomputable def optP (o:Option α) (Q:α→Prop):Prop:=match o with
 |some a=>Q a
 |none=>False
noncomputable def cName (c:Cx) (x:Str):X:=fun l st Q=>match x==Str.ofString "__debug__" with
 |true=>False
 |false=>match c.sc.names.lookup x with
  |some .globalImplicit=>optP (c.tab.gconst x) fun v=>Q v st
  |some .local=>optP (lget c.sc l x) fun v=>Q v st
  |some .cell=>optP (lget c.sc l x) fun v=>Q v st
  |some .free=>optP (lget c.sc l x) fun v=>Q v st
  |_=>False
noncomputable def addV (a b:V) (st:St) (Q:KV):Prop:=match a with
 |.int i=>intP b fun j=>small (i+j)∧Q (.int (i+j)) st
 |.tup x=>(match b with
  |.tup y=>x.length+y.length<cap∧Q (.tup (x++y)) st
  |_=>False)
 |.ref x=>(match b with
  |.ref y=>∃xs ys,st.get x=some (.list xs)∧st.get y=some (.list ys)∧xs.length+ys.length<cap∧alloc (.list (xs++ys)) st Q
  |_=>False)
 |_=>False
noncomputable def binV (op:Operator) (a b:V) (st:St) (Q:KV):Prop:=match op with
 |.Add=>addV a b st Q
 |.Sub=>intP a fun i=>intP b fun j=>Q (.int (i - j)) st
 |.Mult=>intP a fun i=>intP b fun j=>(small i∧small j)∧Q (.int (i * j)) st
 |.FloorDiv=>intP a fun i=>intP b fun j=>(0<j∧j<1073741824)∧Q (.int (Int.fdiv i j)) st
 |.Mod=>intP a fun i=>intP b fun j=>0<j∧Q (.int (Int.fmod i j)) st
 |_=>False
noncomputable def cBin (op:Operator) (a b:X):X:=fun l st Q=>a l st fun x st=>b l st fun y st=>binV op x y st Q
noncomputable def unV (op:UnaryOp) (v:V) (st:St) (Q:KV):Prop:=match op with
 |.Not=>boolP v fun b=>Q (.bool (!b)) st
 |.USub=>intP v fun i=>Q (.int (-i)) st
 |_=>False
noncomputable def cUn (op:UnaryOp) (a:X):X:=fun l st Q=>a l st fun x st=>unV op x st Q
noncomputable def eqV (a b:V) (st:St) (Q:Bool→Prop):Prop:=match a with
 |.ref x=>(match b with
  |.ref y=>∃xs ys,st.get x=some (.list xs)∧st.get y=some (.list ys)∧(V.datas xs=true∧V.datas ys=true)∧Q (decide (xs=ys))
  |_=>False)
 |.bool x=>boolP b fun y=>Q (x==y)
 |a=>(a.data=true∧b.data=true)∧Q (decide (a=b))
noncomputable def inV (a b:V) (st:St) (Q:Bool→Prop):Prop:=match b with
 |.ref y=>(∃ys,st.get y=some (.list ys)∧(a.data=true∧V.datas ys=true)∧Q (decide (a∈ys)))∨∃es n,st.get y=some (.dict es n)∧keysOk a es∧Q (dget es a).isSome
 |.str y=>(match a with
  |.str x=>Q !(Builtin.Str.occurrences y x 0 y.length 1).isEmpty
  |_=>False)
 |_=>False
noncomputable def isV (a b:V) (Q:Bool→Prop):Prop:=match b with
 |.none=>(match a with
  |.none=>Q true
  |.tup _=>Q false
  |_=>False)
 |_=>False
noncomputable def cmpV (op:CmpOp) (a b:V) (st:St) (Q:Bool→Prop):Prop:=match op with
 |.Eq=>eqV a b st Q
 |.NotEq=>eqV a b st fun r=>Q (!r)
 |.Lt=>intP a fun i=>intP b fun j=>Q (decide (i<j))
 |.LtE=>intP a fun i=>intP b fun j=>Q (decide (i≤j))
 |.Gt=>intP a fun i=>intP b fun j=>Q (decide (i>j))
 |.GtE=>intP a fun i=>intP b fun j=>Q (decide (i≥j))
 |.In=>inV a b st Q
 |.NotIn=>inV a b st fun r=>Q (!r)
 |.Is=>isV a b Q
 |.IsNot=>False
noncomputable def bothP (b:Bool) (P Q:Prop):Prop:=match b with
 |true=>P
 |false=>Q
noncomputable def chain1 (v:V) (op:CmpOp) (x:X) (l:Loc) (st:St) (Q:Bool→St→Prop):Prop:=x l st fun w st=>cmpV op v w st fun b=>Q b st
noncomputable def cmpChain (v:V) (ops:List CmpOp) (xs:List X) (l:Loc) (st:St) (Q:Bool→St→Prop):Prop:=match ops with
 |[]=>False
 |op::ops=>(match xs with
  |[]=>False
  |x::xs=>(match ops with
   |[]=>(match xs with
    |[]=>chain1 v op x l st Q
    |_=>False)
   |op'::ops=>(match ops with
    |[]=>(match xs with
     |[y]=>x l st fun w st=>cmpV op v w st fun b=>bothP b (chain1 w op' y l st Q) (Q false st)
     |_=>False)
    |_=>False)))
noncomputable def cCmpT (ops:List CmpOp) (a:X) (bs:List X):XB:=fun l st Q=>a l st fun x st=>cmpChain x ops bs l st Q
noncomputable def cCmp (ops:List CmpOp) (a:X) (bs:List X):X:=fun l st Q=>match ops with
 |[op]=>(match bs with
  |[b]=>a l st fun x st=>b l st fun y st=>cmpV op x y st fun r=>Q (.bool r) st
  |_=>False)
 |_=>False
noncomputable def cBool (op:BoolOp) (xs:List X):X:=fun l st Q=>match xs with
 |[x,y]=>x l st fun v st=>boolP v fun b=>(match op with
  |.And=>bothP b (y l st Q) (Q v st)
  |.Or=>bothP b (Q v st) (y l st Q))
 |_=>False
noncomputable def cAllT (op:BoolOp):List XB→XB
 |[]=>fun _ st Q=>Q (match op with|.And=>true|.Or=>false) st
 |x::xs=>fun l st Q=>x l st fun b st=>(match op with
  |.And=>bothP b (cAllT op xs l st Q) (Q false st)
  |.Or=>bothP b (Q true st) (cAllT op xs l st Q))
noncomputable def cNotT (x:XB):XB:=fun l st Q=>x l st fun b st=>Q (!b) st
noncomputable def cTruth (x:X):XB:=fun l st Q=>x l st fun v st=>boolP v fun b=>Q b st
noncomputable def cIf (t:XB) (a b:X):X:=fun l st Q=>t l st fun q st=>bothP q (a l st Q) (b l st Q)
noncomputable def cAll:List X→XL
 |[],_,st,Q=>Q [] st
 |x::xs,l,st,Q=>x l st fun v st=>cAll xs l st fun vs st=>Q (v::vs) st
noncomputable def cTup (xs:List X):X:=fun l st Q=>xs.length≤60∧cAll xs l st fun vs st=>Q (.tup vs) st
noncomputable def cList (xs:List X):X:=fun l st Q=>xs.length≤60∧cAll xs l st fun vs st=>alloc (.list vs) st Q
noncomputable def cPairs:List X→List X→Loc→St→(List (V×V)→St→Prop)→Prop
 |[],ys,_,st,Q=>(match ys with|[]=>Q [] st|_=>False)
 |k::ks,ys,l,st,Q=>(match ys with
  |v::vs=>k l st fun a st=>v l st fun b st=>cPairs ks vs l st fun r st=>Q ((a,b)::r) st
  |_=>False)
noncomputable def dmake:List (V×V)→Nat→List (V×V)→(O→Prop)→Prop
 |acc,n,[],Q=>Q (.dict acc n)
 |acc,n,(k,v)::r,Q=>keysOk k acc∧dmake (dput acc k v) (dep acc k n) r Q
noncomputable def cDict (ks vs:List X):X:=fun l st Q=>(ks.length≤8∧ks.length=vs.length)∧cPairs ks vs l st fun r st=>dmake [] 0 r fun o=>alloc o st Q
noncomputable def idx (n:Nat) (i:Int) (Q:Nat→Prop):Prop:=(-9223372036854775808≤i∧i<9223372036854775808)∧∃j,seqIndex? i n=some j∧Q j
noncomputable def subV (o i:V) (st:St) (Q:KV):Prop:=match o with
 |.tup vs=>intP i fun k=>idx vs.length k fun j=>∃v,vs[j]?=some v∧Q v st
 |.str s=>intP i fun k=>idx s.length k fun j=>∃ch,s.cps[j]?=some ch∧Q (.str ⟨#[ch]⟩) st
 |.ref x=>(∃vs,st.get x=some (.list vs)∧intP i fun k=>idx vs.length k fun j=>∃v,vs[j]?=some v∧Q v st)∨
  ∃es n v,st.get x=some (.dict es n)∧keysOk i es∧dget es i=some v∧Q v st
 |_=>False
noncomputable def cSub (a b:X):X:=fun l st Q=>a l st fun o st=>b l st fun i st=>subV o i st Q
set_option genCtorIdx true in
inductive SL where
 |drop (k:X)
 |take (k:X)
 |rev
noncomputable def cSlice (a:X) (s:SL):X:=fun l st Q=>a l st fun o st=>match s with
 |.drop k=>k l st fun k st=>∃vs n,o=.tup vs∧k=.int n∧(1≤n∧n≤vs.length∧vs.length<cap)∧Q (.tup (vs.drop n.toNat)) st
 |.take k=>k l st fun k st=>∃x vs n,o=.ref x∧k=.int n∧st.get x=some (.list vs)∧(0≤n∧vs.length<cap)∧alloc (.list (vs.take n.toNat)) st Q
 |.rev=>∃x vs,o=.ref x∧st.get x=some (.list vs)∧vs.length<cap∧alloc (.list vs.reverse) st Q
noncomputable def attrV (T:Tab) (o:V) (a:Str) (st:St) (Q:KV):Prop:=∃i C fs v,o=.ref i∧st.get i=some (.inst C fs)∧T.fld C a=true∧fget fs a=some v∧Q v st
noncomputable def cAttr (c:Cx) (x:X) (a:Str):X:=fun l st Q=>x l st fun o st=>attrV c.tab o a st Q
noncomputable def insertInt (i:Int):List Int→List Int
 |[]=>[i]
 |j::r=>if i≤j then i::j::r else j::insertInt i r
noncomputable def sortInts (l:List Int):List Int:=l.foldr insertInt []
noncomputable def rangeL (a b:Int):List Int:=(List.range (b - a).toNat).map fun (k:Nat)=>a+(k:Int)
noncomputable def maxL (m:Int) (l:List Int):Int:=l.foldl (fun m j=>if j>m then j else m) m
noncomputable def itemsV (v:V) (st:St) (Q:List V→Prop):Prop:=match v with
 |.tup vs=>Q vs
 |.ref x=>∃vs,st.get x=some (.list vs)∧Q vs
 |_=>False
set_option genCtorIdx true in
inductive BF where
 |len|int|min|max|sum|tuple|list|sorted
noncomputable def bfOf (f:Str):Option BF:=
 if f="len" then some .len
 else if f="int" then some .int
 else if f="min" then some .min
 else if f="max" then some .max
 else if f="sum" then some .sum
 else if f="tuple" then some .tuple
 else if f="list" then some .list
 else if f="sorted" then some .sorted
 else none
noncomputable def intL (is:List Int):List V:=is.map .int
noncomputable def fnV (f:BF) (as:List V) (st:St) (Q:KV):Prop:=match f with
 |.len=>∃v,as=[v]∧itemsV v st fun vs=>vs.length<cap∧Q (.int vs.length) st
 |.int=>∃i,as=[.int i]∧Q (.int i) st
 |.min=>∃i j,as=[.int i,.int j]∧Q (.int (if j<i then j else i)) st
 |.max=>(∃i j,as=[.int i,.int j]∧Q (.int (if j>i then j else i)) st)∨∃x i r,as=[.ref x]∧st.get x=some (.list (intL (i::r)))∧Q (.int (maxL i r)) st
 |.sum=>∃x is,as=[.ref x]∧st.get x=some (.list (intL is))∧((∀i∈is,0≤i∧i<4294967296)∧is.length<cap)∧Q (.int is.sum) st
 |.tuple=>∃v,as=[v]∧itemsV v st fun vs=>vs.length<cap∧Q (.tup vs) st
 |.list=>∃x vs,as=[.ref x]∧st.get x=some (.list vs)∧vs.length<cap∧alloc (.list vs) st Q
 |.sorted=>∃x is,as=[.ref x]∧(st.get x=some (.list (intL is))∨∃es n,st.get x=some (.dict es n)∧es.map (·.1)=intL is)∧is.length<60∧alloc (.list (intL (sortInts is))) st Q
noncomputable def sortedSetV (v:V) (st:St) (Q:KV):Prop:=∃x is,v=.ref x∧st.get x=some (.list (intL is))∧(is.length<60∧∀i∈is,0≤i∧i<1048576)∧alloc (.list (intL (sortInts is.eraseDups))) st Q
set_option genCtorIdx true in
inductive MF where
 |append|pop|extend|get|setdefault|isspace
noncomputable def mfOf (f:Str):Option MF:=
 if f="append" then some .append
 else if f="pop" then some .pop
 else if f="extend" then some .extend
 else if f="get" then some .get
 else if f="setdefault" then some .setdefault
 else if f="isspace" then some .isspace
 else none
set_option genCtorIdx true in
inductive BT where
 |list|dict|str
noncomputable def typeV (T:BT) (v:V) (st:St):Prop:=match T with
 |.list=>∃x xs,v=.ref x∧st.get x=some (.list xs)
 |.dict=>∃x es n,v=.ref x∧st.get x=some (.dict es n)
 |.str=>∃x,v=.str x
noncomputable def methV (T:BT) (m:MF) (o:V) (as:List V) (st:St) (Q:KV):Prop:=match T with
 |.list=>∃x xs,o=.ref x∧st.getM x=some (.list xs)∧xs.length<cap∧(match m with
  |.append=>∃v,as=[v]∧Q .none (st.set x (.list (xs++[v])))
  |.pop=>∃v ys,as=[]∧xs=ys++[v]∧Q v (st.set x (.list ys))
  |.extend=>∃y ys,as=[.ref y]∧st.get y=some (.list ys)∧xs.length+ys.length<cap∧Q .none (st.set x (.list (xs++ys)))
  |_=>False)
 |.dict=>∃x es n k,o=.ref x∧st.getM x=some (.dict es n)∧es.length<cap∧keysOk k es∧(match m with
  |.get=>∃d,as=[k,d]∧Q ((dget es k).getD d) st
  |.setdefault=>∃d,as=[k,d]∧(match dget es k with
   |some v=>Q v st
   |none=>Q d (st.set x (.dict (es++[(k,d)]) (n+1))))
  |.pop=>∃v,as=[k]∧dget es k=some v∧Q v (st.set x (.dict (ddel es k) (n+1)))
  |_=>False)
 |.str=>∃s,o=.str s∧as=[]∧(match m with
  |.isspace=>Q (.bool (Txt.isspace s)) st
  |_=>False)
noncomputable def mid (T:BT) (m:MF):Option String:=match T with
 |.list=>(match m with
  |.append=>some "list.append"
  |.pop=>some "list.pop"
  |.extend=>some "list.extend"
  |_=>none)
 |.dict=>(match m with
  |.get=>some "dict.get"
  |.setdefault=>some "dict.setdefault"
  |.pop=>some "dict.pop"
  |_=>none)
 |.str=>(match m with
  |.isspace=>some "str.isspace"
  |_=>none)
noncomputable def glob (c:Cx) (x:Str) (P:Prop):Prop:=match x==Str.ofString "__debug__" with
 |true=>False
 |false=>match c.sc.names.lookup x with
  |some .globalImplicit=>P
  |_=>False
noncomputable def cCallName (c:Cx) (f:Str) (as:List X):X:=fun l st Q=>glob c f (match c.tab.gfn f with
 |some q=>cAll as l st fun vs st=>c.call q vs st Q
 |none=>match c.tab.gcls f with
  |some C=>cAll as l st fun vs st=>optP (c.tab.init C) fun q=>c.call q (.ref st.size::vs) (st.push (.inst C [])) fun r st'=>r=.none∧Q (.ref st.size) st'
  |none=>optP (bfOf f) fun b=>cAll as l st fun vs st=>fnV b vs st Q)
noncomputable def methP (c:Cx) (v:V) (m:Str) (as:XL) (l:Loc) (st:St) (Q:KV):Prop:=
 (∃i C fs q,v=.ref i∧st.get i=some (.inst C fs)∧fget fs m=none∧c.tab.meth C m=some q∧as l st fun vs st=>c.call q (v::vs) st Q)∨
 ∃T b id,mfOf m=some b∧mid T b=some id∧typeV T v st∧as l st fun vs st=>methV T b v vs st Q
noncomputable def cCallMeth (c:Cx) (o:X) (m:Str) (as:List X):X:=fun l st Q=>o l st fun v st=>methP c v m (cAll as) l st Q
set_option genCtorIdx true in
inductive Src where
 |items (vs:List V)
 |list (x:Nat) (vs:List V)
 |dict (x:Nat) (es:List (V×V)) (n:Nat)
 |enum (x:Nat) (vs:List V)
noncomputable def enumL (k:Int):List V→List V
 |[]=>[]
 |v::r=>.tup [.int k,v]::enumL (k+1) r
noncomputable def Src.all:Src→List V
 |.items vs=>vs
 |.list _ vs=>vs
 |.dict _ es _=>es.map (·.1)
 |.enum _ vs=>enumL 0 vs
noncomputable def Src.ok (s:Src) (st:St):Prop:=match s with
 |.items _=>True
 |.list x vs=>st.get x=some (.list vs)
 |.dict x es n=>st.get x=some (.dict es n)
 |.enum x vs=>st.get x=some (.list vs)
noncomputable def Src.own:Src→Bool
 |.enum _ _=>true
 |_=>false
noncomputable abbrev XI:=Loc→St→(Src→St→Prop)→Prop
noncomputable def srcV (v:V) (st:St) (Q:Src→Prop):Prop:=match v with
 |.tup vs=>Q (.items vs)
 |.str s=>s.cps.all (·<128)=true∧Q (.items (s.cps.toList.map fun ch=>.str ⟨#[ch]⟩))
 |.ref x=>(∃vs,st.get x=some (.list vs)∧Q (.list x vs))∨∃es n is,st.get x=some (.dict es n)∧es.map (·.1)=intL is∧Q (.dict x es n)
 |_=>False
noncomputable def rangeV (vs:List V) (Q:Int→Int→Prop):Prop:=
 (∃b,vs=[.int b]∧(b<cap∧-cap<b)∧Q 0 b)∨∃a b,vs=[.int a,.int b]∧(-cap<a∧a<cap∧b<cap∧-cap<b)∧Q a b
noncomputable def iRange (c:Cx) (as:List X):XI:=fun l st Q=>glob c "range" (cAll as l st fun vs st=>rangeV vs fun a b=>Q (.items (intL (rangeL a b))) st)
noncomputable def iEnum (c:Cx) (as:List X):XI:=fun l st Q=>glob c "enumerate" (cAll as l st fun vs st=>∃x ws,vs=[.ref x]∧st.get x=some (.list ws)∧Q (.enum x ws) st)
noncomputable def iPlain (x:X):XI:=fun l st Q=>x l st fun v st=>srcV v st fun s=>Q s st
noncomputable def cListRange (c:Cx) (as:List X):X:=fun l st Q=>glob c "list" (glob c "range" (cAll as l st fun vs st=>rangeV vs fun a b=>alloc (.list (intL (rangeL a b))) st Q))
noncomputable def cSortedSet (c:Cx) (x:X):X:=fun l st Q=>glob c "sorted" (glob c "set" (x l st fun v st=>sortedSetV v st Q))
set_option backward.match.sparseCases false in
noncomputable def namesOnly:List Expr→Option (List Str)
 |[]=>some []
 |e::r=>(match e with
  |.Name x _=>(namesOnly r).map (x::·)
  |_=>none)
set_option genCtorIdx true in
inductive Tg where
 |one (x:Str)
 |many (xs:List Str)
set_option backward.match.sparseCases false in
noncomputable def tgOf (e:Expr):Option Tg:=match e with
 |.Name x _=>some (.one x)
 |.Tuple es _ _=>(namesOnly es).map .many
 |_=>none
noncomputable def Tg.names:Tg→List Str
 |.one x=>[x]
 |.many xs=>xs
noncomputable def isL (sc:Scope) (x:Str):Bool:=match sc.names.lookup x with
 |some .local=>true
 |_=>false
noncomputable def isLC (sc:Scope) (x:Str):Bool:=match sc.names.lookup x with
 |some .local=>true
 |some .cell=>true
 |_=>false
noncomputable def bindN (sc:Scope):List Str→List V→Loc→(Loc→Prop)→Prop
 |[],vs,l,Q=>(match vs with|[]=>Q l|_=>False)
 |x::xs,vs,l,Q=>(match vs with|v::vs=>bindN sc xs vs (lset sc l x v) Q|_=>False)
noncomputable def bindT (sc:Scope) (t:Tg) (v:V) (l:Loc) (st:St) (Q:Loc→Prop):Prop:=match t with
 |.one x=>Q (lset sc l x v)
 |.many xs=>itemsV v st fun vs=>bindN sc xs vs l Q
noncomputable def cRet (x:X):XS:=fun l st _ kr=>x l st kr
noncomputable def cExpr (x:X):XS:=fun l st kn _=>x l st fun _ st=>kn l st
noncomputable def cSeq (a b:XS):XS:=fun l st kn kr=>a l st (fun l st=>b l st kn kr) kr
noncomputable def cIfS (t:XB) (a b:XS):XS:=fun l st kn kr=>t l st fun q st=>bothP q (a l st kn kr) (b l st kn kr)
noncomputable def cSkip:XS:=fun l st kn _=>kn l st
noncomputable def cWhile (t:XB) (a:XS):XS:=fun l st kn kr=>∃I:Nat→Loc→St→Prop,(∃n,I n l st)∧∀n l st,I n l st→
 t l st fun q st=>bothP q (a l st (fun l st=>∃m,m<n∧I m l st) kr) (kn l st)
noncomputable def cForL (sc:Scope) (src:Src) (t:Tg) (body:XS):List V→XS
 |[],l,st,kn,_=>src.ok st∧kn l st
 |v::vs,l,st,kn,kr=>src.ok st∧bindT sc t v l st fun l=>body l st (fun l st=>cForL sc src t body vs l st kn kr) kr
noncomputable def pairOk (src:Src) (t:Tg):Prop:=match src with
 |.enum _ _=>(match t with|.many _=>True|_=>False)
 |_=>True
noncomputable def cFor (c:Cx) (t:Expr) (i:XI) (body:XS):XS:=fun l st kn kr=>match tgOf t with
 |some t=>bothP (t.names.all (isLC c.sc)) (i l st fun src st=>pairOk src t∧cForL c.sc src t body src.all l st kn kr) False
 |none=>False
noncomputable def cAssign (c:Cx) (t:Tg) (x:X):XS:=fun l st kn _=>bothP (t.names.all (isLC c.sc)) (x l st fun v st=>bindT c.sc t v l st fun l=>kn l st) False
noncomputable def compL (sc:Scope) (src:Src) (t:Tg) (ifs:XB) (elt:X) (lo:Loc):List V→List V→St→(List V→St→Prop)→Prop
 |[],acc,st,Q=>src.ok st∧Q acc st
 |v::vs,acc,st,Q=>src.ok st∧bindT sc t v lo st fun l=>ifs l st fun b st=>bothP b
   (elt l st fun y st=>acc.length<cap∧compL sc src t ifs elt lo vs (acc++[y]) st Q)
   (compL sc src t ifs elt lo vs acc st Q)
noncomputable def compLoc (sc scope:Scope) (l:Loc):Loc:=scope.names.map fun p=>match scope.names.lookup p.1 with
 |some .free=>lget sc l p.1
 |_=>none
noncomputable def compOk (sc scope:Scope) (t:Tg):Bool:=(match scope.kind with|.function=>true|_=>false)&&t.names.all (isL scope)&&
 scope.names.all fun p=>match p.2 with
  |.local=>isL scope p.1
  |.globalImplicit=>true
  |.free=>(match sc.names.lookup p.1 with|some .cell=>true|_=>false)
  |_=>false
noncomputable def cComp (c:Cx) (scope:Scope) (t:Expr) (iter:XI) (ifs:XB) (elt:X):X:=fun l st Q=>match tgOf t with
 |some t=>bothP (compOk c.sc scope t) (iter l st fun src st=>src.own=false∧compL scope src t ifs elt (compLoc c.sc scope l) src.all [] st fun vs st=>alloc (.list vs) st Q) False
 |none=>False
noncomputable def setAttrV (T:Tab) (o:V) (a:Str) (v:V) (st:St) (Q:St→Prop):Prop:=∃i C fs,o=.ref i∧st.getM i=some (.inst C fs)∧T.fld C a=true∧fs.length<64∧Q (st.set i (.inst C (fput fs a v)))
noncomputable def setItemV (o i v:V) (st:St) (Q:St→Prop):Prop:=
 (∃x vs k,o=.ref x∧st.getM x=some (.list vs)∧i=.int k∧idx vs.length k fun j=>Q (st.set x (.list (vs.set j v))))∨
 ∃x es n,o=.ref x∧st.getM x=some (.dict es n)∧(keysOk i es∧es.length<cap)∧Q (st.set x (.dict (dput es i v) (dep es i n)))
noncomputable def cSetAttr (c:Cx) (x o:X) (a:Str):XS:=fun l st kn _=>x l st fun v st=>o l st fun p st=>setAttrV c.tab p a v st fun st=>kn l st
noncomputable def cSetItem (x o i:X):XS:=fun l st kn _=>x l st fun v st=>o l st fun p st=>i l st fun k st=>setItemV p k v st fun st=>kn l st
noncomputable def delItemV (o i:V) (st:St) (Q:St→Prop):Prop:=∃x es n v,o=.ref x∧st.getM x=some (.dict es n)∧(keysOk i es∧es.length<cap)∧dget es i=some v∧Q (st.set x (.dict (ddel es i) (n+1)))
noncomputable def delSliceV (o i:V) (st:St) (Q:St→Prop):Prop:=∃x vs k,o=.ref x∧st.getM x=some (.list vs)∧i=.int k∧(0≤k∧vs.length<cap)∧Q (st.set x (.list (vs.take k.toNat)))
noncomputable def cDelItem (o i:X):XS:=fun l st kn _=>o l st fun p st=>i l st fun k st=>delItemV p k st fun st=>kn l st
noncomputable def cDelSlice (o i:X):XS:=fun l st kn _=>o l st fun p st=>i l st fun k st=>delSliceV p k st fun st=>kn l st
end Mine
namespace Mine
set_option backward.match.sparseCases false
noncomputable def badX:X:=fun _ _ _=>False
noncomputable def chk (b:Bool) (x:X):X:=match b with
 |true=>x
 |false=>badX
noncomputable def badS:XS:=fun _ _ _ _=>False
noncomputable def chkS (b:Bool) (x:XS):XS:=match b with
 |true=>x
 |false=>badS
noncomputable def goodE (e:Expr):Bool:=match e with
 |.Starred ..=>false
 |.Set ..=>false
 |_=>true
noncomputable def nullary (e:Expr):Bool:=match e with
 |.Call f as ks _=>(match f with
  |.Name _ _=>(match as with
   |[]=>(match ks with|[]=>true|_=>false)
   |_=>false)
  |_=>false)
 |_=>false
noncomputable def allSome:List (Option Expr)→Option (List Expr)
 |[]=>some []
 |e::r=>(match e with
  |some e=>(allSome r).map (e::·)
  |none=>none)
structure EvF where
 e:Expr→X
 t:Expr→XB
noncomputable def stSub (r:EvF) (v i:Expr):X:=match i with
 |.Slice lo up step _=>(match lo with
  |some a=>(match up with
   |none=>(match step with|none=>cSlice (r.e v) (.drop (r.e a))|_=>badX)
   |_=>badX)
  |none=>(match up with
   |some b=>(match step with|none=>cSlice (r.e v) (.take (r.e b))|_=>badX)
   |none=>(match step with
    |some s=>(match s with
     |.UnaryOp op k _=>(match op with
      |.USub=>(match k with
       |.Constant k _ _=>(match k with
        |.int i=>chk (decide (i=1)) (cSlice (r.e v) .rev)
        |_=>badX)
       |_=>badX)
      |_=>badX)
     |_=>badX)
    |_=>badX)))
 |i=>cSub (r.e v) (r.e i)
noncomputable def stI (c:Cx) (r:EvF) (e:Expr):XI:=match e with
 |.Call f as ks _=>(match ks with
  |[]=>(match f with
   |.Name f _=>(match as.all goodE with
    |true=>if f=="range" then iRange c (as.map r.e) else if f=="enumerate" then iEnum c (as.map r.e) else iPlain (r.e e)
    |false=>fun _ _ _=>False)
   |_=>iPlain (r.e e))
  |_=>iPlain (r.e e))
 |.Set ..=>fun _ _ _=>False
 |_=>iPlain (r.e e)
noncomputable def isCall (e:Expr):Option (Str×List Expr):=match e with
 |.Call f as ks _=>(match ks with
  |[]=>(match f with|.Name f _=>some (f,as)|_=>none)
  |_=>none)
 |_=>none
set_option backward.match.sparseCases true in
noncomputable def stName (c:Cx) (r:EvF) (f:Str) (as:List Expr):X:=match as with
 |[a]=>(match isCall a with
  |some (g,bs)=>if f=="list"&&g=="range" then chk (bs.all goodE) (cListRange c (bs.map r.e))
   else if f=="sorted"&&g=="set" then (match bs with
    |[b]=>chk (goodE b) (cSortedSet c (r.e b))
    |_=>badX)
   else cCallName c f [r.e a]
  |none=>chk (goodE a) (cCallName c f [r.e a]))
 |as=>chk (as.all goodE) (cCallName c f (as.map r.e))
noncomputable def stCall (c:Cx) (r:EvF) (f:Expr) (as:List Expr) (pos:Pos):X:=match f with
 |.Attribute o m apos=>chk (!nullary o&&(apos.endLine==pos.line)&&decide (as.length≤20)&&as.all goodE) (cCallMeth c (r.e o) m (as.map r.e))
 |.Name f _=>stName c r f as
 |_=>badX
noncomputable def stE (rec:Cx→EvF) (c:Cx) (e:Expr):X:=match e with
 |.Constant k _ _=>cConst k
 |.Name x _=>cName c x
 |.BinOp a op b _=>cBin op ((rec c).e a) ((rec c).e b)
 |.UnaryOp op a _=>cUn op ((rec c).e a)
 |.BoolOp op vs _=>cBool op (vs.map (rec c).e)
 |.Compare a ops bs _=>chk (bs.all goodE) (cCmp ops ((rec c).e a) (bs.map (rec c).e))
 |.IfExp t a b _=>cIf ((rec c).t t) ((rec c).e a) ((rec c).e b)
 |.Tuple es _ _=>chk (es.all goodE) (cTup (es.map (rec c).e))
 |.List es _=>chk (es.all goodE) (cList (es.map (rec c).e))
 |.Dict ks vs _=>(match allSome ks with
  |some ks=>cDict (ks.map (rec c).e) (vs.map (rec c).e)
  |none=>badX)
 |.Subscript v i _=>stSub (rec c) v i
 |.Attribute o a _=>chk (!nullary o) (cAttr c ((rec c).e o) a)
 |.Call f as ks pos=>(match ks with
  |[]=>stCall c (rec c) f as pos
  |_=>badX)
 |.ListComp elt gens scope _=>(match gens with
  |[g]=>(match g with
   |⟨t,iter,ifs,k⟩=>chk (decide (k=0)&&goodE iter) (cComp c scope t (stI c (rec c) iter) (cAllT .And (ifs.map (rec {c with sc:=scope}).t)) ((rec {c with sc:=scope}).e elt)))
  |_=>badX)
 |_=>badX
noncomputable def stT (r:EvF) (e:Expr):XB:=match e with
 |.UnaryOp op a _=>(match op with
  |.Not=>cNotT (r.t a)
  |_=>cTruth (r.e e))
 |.BoolOp op vs _=>cAllT op (vs.map r.t)
 |.Compare a ops bs _=>(match bs.all goodE with
  |true=>cCmpT ops (r.e a) (bs.map r.e)
  |false=>fun _ _ _=>False)
 |.IfExp ..=>fun _ _ _=>False
 |e=>cTruth (r.e e)
noncomputable def ev:Nat→Cx→EvF
 |0,_=>⟨fun _=>badX,fun _ _ _ _=>False⟩
 |n+1,c=>⟨stE (ev n) c,stT (ev n c)⟩
noncomputable def isComp (e:Expr):Bool:=match e with
 |.ListComp ..=>true
 |.SetComp ..=>true
 |.DictComp ..=>true
 |_=>false
noncomputable def valueOk (c:Cx) (t v:Expr):Bool:=match t with
 |.Name x _=>!(isComp v&&isL c.sc x)
 |.Tuple _ _ _=>(match v with
  |.Tuple vs _ _=>!vs.all (constantsAlone 8)
  |_=>true)
 |_=>true
noncomputable def stAssign (c:Cx) (r:EvF) (t v:Expr):XS:=match t with
 |.Attribute o a _=>cSetAttr c (r.e v) (r.e o) a
 |.Subscript o i _=>cSetItem (r.e v) (r.e o) (r.e i)
 |t=>(match tgOf t with
  |some g=>chkS (valueOk c t v) (cAssign c g (r.e v))
  |none=>badS)
noncomputable def stDel (r:EvF) (t:Expr):XS:=match t with
 |.Subscript o i _=>(match i with
  |.Slice a b s _=>(match a with
   |some a=>(match b with
    |none=>(match s with|none=>cDelSlice (r.e o) (r.e a)|_=>badS)
    |_=>badS)
   |none=>badS)
  |i=>cDelItem (r.e o) (r.e i))
 |_=>badS
noncomputable def deep:Nat:=24
noncomputable def stS (rec:List Stmt→XS) (c:Cx) (s:Stmt):XS:=match s with
 |.Assign ts v _=>(match ts with
  |[t]=>stAssign c (ev deep c) t v
  |_=>badS)
 |.Expr e _=>chkS (!isComp e) (cExpr ((ev deep c).e e))
 |.If t a b _=>cIfS ((ev deep c).t t) (rec a) (rec b)
 |.While t a o _=>(match o with
  |[]=>cWhile ((ev deep c).t t) (rec a)
  |_=>badS)
 |.For t i a o _=>(match o with
  |[]=>chkS (goodE i) (cFor c t (stI c (ev deep c) i) (rec a))
  |_=>badS)
 |.Return v _=>(match v with
  |some e=>cRet ((ev deep c).e e)
  |none=>fun _ st _ kr=>kr .none st)
 |.Delete ts _=>(match ts with
  |[t]=>stDel (ev deep c) t
  |_=>badS)
 |.Pass _=>cSkip
 |_=>badS
noncomputable def seqS (f:Stmt→XS):List Stmt→XS
 |[]=>cSkip
 |s::r=>cSeq (f s) (seqS f r)
noncomputable def evS (c:Cx):Nat→List Stmt→XS
 |0,_=>badS
 |n+1,ss=>seqS (stS (evS c n) c) ss
noncomputable def cSuper (c:Cx) (m:Str) (as:List X):X:=fun l st Q=>glob c "super" (match c.sc.names.lookup ("__class__":Str) with
 |some .free=>optP (c.tab.fn c.key) fun f=>optP f.params.head? fun self=>bothP (isL c.sc self) (optP (lget c.sc l self) fun v=>
  ∃i C fs q,v=.ref i∧st.get i=some (.inst C fs)∧c.tab.sup c.key C m=some q∧cAll as l st fun vs st=>c.call q (v::vs) st Q) False
 |_=>False)
noncomputable def superOf (e:Expr):Option (Str×List Expr×Bool):=match e with
 |.Call f as ks pos=>(match ks with
  |[]=>(match f with
   |.Attribute o m apos=>(match o with
    |.Call g bs ks' _=>(match ks' with
     |[]=>(match bs with
      |[]=>(match g with
       |.Name g _=>some (m,as,g=="super"&&(apos.endLine==pos.line)&&decide (as.length≤20)&&as.all goodE)
       |_=>none)
      |_=>none)
     |_=>none)
    |_=>none)
   |_=>none)
  |_=>none)
 |_=>none
noncomputable def topS (c:Cx) (s:Stmt):XS:=match s with
 |.Expr e _=>(match superOf e with
  |some (m,as,b)=>chkS b (cExpr (cSuper c m (as.map (ev deep c).e)))
  |none=>stS (evS c deep) c s)
 |.Return v _=>(match v with
  |some e=>(match superOf e with
   |some (m,as,b)=>chkS b (cRet (cSuper c m (as.map (ev deep c).e)))
   |none=>stS (evS c deep) c s)
  |none=>stS (evS c deep) c s)
 |s=>stS (evS c deep) c s
noncomputable def callN (tab:Tab):Nat→Str→List V→St→KV→Prop
 |0,_,_,_,_=>False
 |d+1,q,vs,st,Q=>optP (tab.fn q) fun f=>bindN f.scope f.params vs (f.scope.names.map fun _=>none) fun l=>
  seqS (topS {tab,key:=q,sc:=f.scope,call:=callN tab d}) f.body l st (fun _ st=>Q .none st) Q
end Mine
namespace Mine
noncomputable abbrev Io:=List (Addr×Addr)
structure Fix where
 prog:Program
 w:World
 h₀:Heap
 K:Frag
 tab:Tab
 cad:Str→Option Addr
 fad:Str→Option Addr
 os:OsState
set_option genCtorIdx true in
inductive Atom where
 |int (i:Int)
 |str (x:Str)
 deriving DecidableEq
noncomputable def Atom.is:Atom→Value→Bool
 |.int i,v=>v.isInt i
 |.str x,v=>v.isStrOf x
theorem Atom.is_int (h:Atom.is (.int i) v=true):∃t,v=.int i t:=Value.isInt_shape h
theorem Atom.is_str (h:Atom.is (.str x) v=true):∃t,v=.str x t:=Value.isStrOf_shape h
noncomputable def atomHash (w:World):Atom→Int
 |.int i=>hashInt i
 |.str x=>hashStr w x
theorem Jlr (v:Value) (a b:Atom) (ha:a.is v=true) (hb:b.is v=true):a=b:=by
 cases a with
 |int i=>cases b with
  |int j=>exact congrArg _ (Value.isInt_inj v _ _ ha hb)
  |str y=>obtain ⟨t,rfl⟩:=Atom.is_int ha;exact Bool.noConfusion hb
 |str x=>cases b with
  |int j=>obtain ⟨t,rfl⟩:=Atom.is_str ha;exact Bool.noConfusion hb
  |str y=>exact congrArg _ (Value.isStrOf_inj v _ _ ha hb)
theorem Jcl (a:Atom) (v:Value) (h:a.is v=true):carriedByValue v=true:=by
 cases a with
 |int i=>obtain ⟨t,rfl⟩:=Atom.is_int h;rfl
 |str x=>obtain ⟨t,rfl⟩:=Atom.is_str h;rfl
theorem Jdo (hv:k.is v=true) (h:Q (atomHash w k) {s with toks:=s.toks+1}) :
  wpAny (model prog w) A (PySem.pyHash v) Q E s:=by
 cases k with
 |int i=>obtain ⟨t,rfl⟩:=Atom.is_int hv;exact wpAny_pyHash_int h
 |str x=>obtain ⟨t,rfl⟩:=Atom.is_str hv;exact wpAny_pyHash_str h
theorem Jdp {prog:Program} {w:World} {A:Around} {E:Value→Shared→Prop} {a b:Atom} {Q:Bool→Shared→Prop} (hu:a.is u=true) (hv:b.is v=true) (h:Q (decide (a=b)) s) :
  wpAny (model prog w) A (PySem.eqBool u v) Q E s:=by
 cases a with
 |int i=>
  refine x11 (Atom.is_int hu) fun t q1_=>?_
  subst q1_
  cases b with
  |int j=>
   refine x11 (Atom.is_int hv) fun u q1_=>?_
   subst q1_
   refine wpAny_eqBool_int ?_
   by_cases q:i=j
   ·subst q;rw[beq_self_eq_true];rwa [decide_eq_true rfl] at h
   ·rw[beq_eq_false_iff_ne.mpr q];rwa [decide_eq_false fun e=>q (by cases e;rfl)] at h
  |str y=>
   refine x11 (Atom.is_str hv) fun u q1_=>?_
   subst q1_
   exact wpAny_holding (wpAny_bind (EqMixed.eq_int_str (wpAny_truthy_bool (by rwa [decide_eq_false fun e=>nomatch e] at h))))
 |str x=>
  refine x11 (Atom.is_str hu) fun t q1_=>?_
  subst q1_
  cases b with
  |int j=>
   refine x11 (Atom.is_int hv) fun u q1_=>?_
   subst q1_
   exact wpAny_holding (wpAny_bind (EqMixed.eq_str_int (wpAny_truthy_bool (by rwa [decide_eq_false fun e=>nomatch e] at h))))
  |str y=>
   refine x11 (Atom.is_str hv) fun u q1_=>?_
   subst q1_
   refine wpAny_eqBool_str ?_
   by_cases q:x=y
   ·subst q;rw[decide_eq_true rfl];rwa [decide_eq_true rfl] at h
   ·rw[decide_eq_false q];rwa [decide_eq_false fun e=>q (by cases e;rfl)] at h
theorem Jis (k:Atom) (x:Str) (t:Tok) (v:Value) (h:k.is (.str x t)=true):k.is v=v.isStr x:=by
 cases k with
 |int i=>exact Bool.noConfusion h
 |str y=>
  refine x11 (Atom.is_str h) fun u hu=>?_
  injection hu with hx
  subst hx
  cases v<;>rfl
noncomputable def atomKind (prog:Program) (w:World):KeyKind prog w Atom where
 is:=Atom.is
 hash:=atomHash w
 inj:=Jlr
 byValue:=Jcl
 pyHash:=fun hv h=>Jdo hv h
 eqBool:=fun hu hv h=>Jdp hu hv h
 «strs»:=Jis
noncomputable def atoms:List V→List Atom
 |[]=>[]
 |v::r=>(match v with
  |.int i=>.int i::atoms r
  |.str x=>.str x::atoms r
  |_=>atoms r)
noncomputable def hashV (Z:Fix) (v:V):Int:=match v with
 |.int i=>hashInt i
 |.str x=>hashStr Z.w x
 |.tup vs=>(tupleKind (atomKind Z.prog Z.w)).hash (atoms vs)
 |_=>0
noncomputable abbrev tupO (its:Array Value) (n:Nat):Obj:={cls:=.type "tuple",data:=.seq its n}
noncomputable abbrev listO (its:Array Value) (n:Nat):Obj:={cls:=.type "list",data:=.seq its n}
noncomputable abbrev dictO (es:Array DictEntry) (n:Nat):Obj:={cls:=.type "dict",data:=.dict es n}
mutual
noncomputable def VR (ι:Io) (h:Heap):V→Value→Prop
 |.none,r=>r=.none
 |.bool b,r=>r=.bool b
 |.int i,r=>∃t,r=.int i t
 |.str x,r=>∃t,r=.str x t
 |.tup vs,r=>∃a its n,r=.ref a∧h.get? a=some (tupO its n)∧VRs ι h vs its.toList
 |.ref i,r=>∃p,ι[i]?=some p∧r=.ref p.1
noncomputable def VRs (ι:Io) (h:Heap):List V→List Value→Prop
 |[],rs=>rs=[]
 |v::vs,rs=>∃r rs',rs=r::rs'∧VR ι h v r∧VRs ι h vs rs'
end
noncomputable def ERs (Z:Fix) (ι:Io) (h:Heap):List (V×V)→List DictEntry→Prop
 |[],rs=>rs=[]
 |e::es,rs=>∃r rs',rs=r::rs'∧(r.hash=hashV Z e.1∧(keyKind e.1).isSome=true∧VR ι h e.1 r.key∧VR ι h e.2 r.val)∧ERs Z ι h es rs'
noncomputable def FRs (ι:Io) (h:Heap):List (Str×V)→List DictEntry→Prop
 |[],rs=>rs=[]
 |e::es,rs=>∃r rs',rs=r::rs'∧((∃t,r.key=.str e.1 t)∧VR ι h e.2 r.val)∧FRs ι h es rs'
noncomputable def DictAt (Z:Fix) (ι:Io) (h:Heap) (d:Addr) (es:List (V×V)) (n:Nat):Prop:=(es.map (·.1)).Nodup∧∃ents,h.get? d=some (dictO ents n)∧ERs Z ι h es ents.toList
noncomputable def ObjR (Z:Fix) (ι:Io) (h:Heap) (p:Addr×Addr):O→Prop
 |.list xs=>p.2=p.1∧∃its n,h.get? p.1=some (listO its n)∧VRs ι h xs its.toList
 |.dict es n=>p.2=p.1∧DictAt Z ι h p.1 es n
 |.inst C fs=>p.1≠p.2∧∃Ca ents n,Z.cad C=some Ca∧h.get? p.1=some (instObj Ca p.2)∧h.get? p.2=some (dictO ents n)∧FRs ι h fs ents.toList
noncomputable def foot (ι:Io) (a:Addr):Prop:=∃p∈ι,a=p.1∨a=p.2
structure Cfg (Z:Fix) where
 ι:Io
 st:St
 s:Shared
 base:∀a o,Z.h₀.get? a=some o→s.heap.get? a=some o
 len:ι.length=st.size
 objs:∀i p o,ι[i]?=some p→st.get i=some o→ObjR Z ι s.heap p o
 inj:∀(i j:Nat) p q,ι[i]?=some p→ι[j]?=some q→i≠j→p.1≠q.1∧p.1≠q.2∧p.2≠q.1∧p.2≠q.2
 new:∀(i:Nat) p,ι[i]?=some p→i≠0→Z.h₀.get? p.1=none∧Z.h₀.get? p.2=none
 zero:∀p,ι[0]?=some p→p.1≠sysModules
 pos:0<ι.length
 gens:s.gens=#[]
 os:s.os=Z.os
noncomputable abbrev Cfg.h {Z:Fix} (c:Cfg Z):Heap:=c.s.heap
structure Evo {Z:Fix} (W:Addr→Prop) (c c':Cfg Z):Prop where
 pre:∃τ,c'.ι=c.ι++τ∧∀p∈τ,∀a,a=p.1∨a=p.2→W a∨c.h.get? a=none
 alive:∀a o,c.h.get? a=some o→¬W a→∃o',c'.h.get? a=some o'
 keep:∀a o,c.h.get? a=some o→¬foot c.ι a→¬W a→c'.h.get? a=some o
 tup:∀a its n,c.h.get? a=some (tupO its n)→c'.h.get? a=some (tupO its n)
noncomputable abbrev NoW:Addr→Prop:=fun _=>False
noncomputable abbrev Le {Z:Fix} (c c':Cfg Z):Prop:=Evo NoW c c'
variable {Z:Fix}
theorem Evo.refl:Evo W c c:=
 ⟨⟨[],(List.append_nil _).symm,fun _ hp=>(List.not_mem_nil hp).elim⟩,fun _ o e _=>⟨o,e⟩,fun _ _ e _ _=>e,fun _ _ _ e=>e⟩
theorem Jdg:foot (ι++τ) a↔foot ι a∨foot τ a:=by
 unfold foot
 constructor
 ·rintro ⟨p,hp,h⟩
  rcases List.mem_append.mp hp with q|q
  ·exact .inl ⟨p,q,h⟩
  ·exact .inr ⟨p,q,h⟩
 ·rintro (⟨p,q,h⟩|⟨p,q,h⟩)
  ·exact⟨p,List.mem_append_left _ q,h⟩
  ·exact⟨p,List.mem_append_right _ q,h⟩
theorem Jh {α:Type} {P:Prop} {x:Option α} {a:α} (h:x=some a) (h':x=none):P:=by rw[h] at h';injection h'
theorem Evo.notFoot {W:Addr→Prop} {c c':Cfg Z} (E:Evo W c c') {a:Addr} {o:Obj} (ha:c.h.get? a=some o) (hf:¬foot c.ι a) (hw:¬W a):¬foot c'.ι a:=by
 refine x12 E.pre fun τ e hτ=>?_
 rw[e,Jdg]
 rintro (q|⟨p,hp,q⟩)
 ·exact hf q
 ·exact(hτ p hp a q).elim hw fun h=>Jh ha h
theorem Evo.trans {W:Addr→Prop} {a b c:Cfg Z} (E:Evo W a b) (F:Evo W b c):Evo W a c:=by
 refine⟨?_,fun a o e hw=>x11 (E.alive a o e hw) fun o' e'=>F.alive a o' e' hw,fun a o e hf hw=>F.keep a o (E.keep a o e hf hw) (E.notFoot e hf hw) hw,fun a its n e=>F.tup a its n (E.tup a its n e)⟩
 refine x12 E.pre fun τ e1 hτ=>?_
 refine x12 F.pre fun τ' e2 hτ'=>?_
 refine⟨τ++τ',by rw[e2,e1,List.append_assoc],fun p hp x hx=>?_⟩
 rcases List.mem_append.mp hp with q|q
 ·exact hτ p q x hx
 ·refine(hτ' p q x hx).elim .inl fun h=>?_
  cases z:a.h.get? x with
  |none=>exact .inr rfl
  |some o=>exact .inl (Classical.byContradiction fun hw=>x11 (E.alive x o z hw) fun o' e'=>Jh e' h)
theorem Evo.fresh {W W':Addr→Prop} {c c':Cfg Z} (E:Evo W c c') (h:∀a,W a→W' a∨c.h.get? a=none):Evo W' c c':=by
 have nw:∀a o,c.h.get? a=some o→¬W' a→¬W a:=fun a o e hw q=>(h a q).elim hw fun z=>Jh e z
 refine⟨?_,fun a o e hw=>E.alive a o e (nw a o e hw),fun a o e hf hw=>E.keep a o e hf (nw a o e hw),E.tup⟩
 refine x12 E.pre fun τ e hτ=>?_
 exact⟨τ,e,fun p hp a ha=>(hτ p hp a ha).elim (h a) .inr⟩
theorem Evo.weaken (E:Evo W c c') (h:∀a,W a→W' a):Evo W' c c':=E.fresh fun a q=>.inl (h a q)
theorem Evo.toW (E:Le c c'):Evo W c c':=E.weaken fun _ f=>f.elim
theorem Evo.back {c c':Cfg Z} (E:Le c c') (a:Addr) (h:c'.h.get? a=none):c.h.get? a=none:=by
 cases z:c.h.get? a with
 |none=>rfl
 |some o=>exact x11 (E.alive a o z id) fun _ e=>Jh e h
structure Up (ι:Io) (h:Heap) (ι':Io) (h':Heap):Prop where
 pre:∃τ,ι'=ι++τ
 tup:∀a its n,h.get? a=some (tupO its n)→h'.get? a=some (tupO its n)
theorem Up.get {ι ι':Io} {h h':Heap} (U:Up ι h ι' h') {i:Nat} {p:Addr×Addr} (e:ι[i]?=some p):ι'[i]?=some p:=by
 refine x11 U.pre fun τ q1_=>?_
 subst q1_
 rw[List.getElem?_append_left (List.getElem?_eq_some_iff.mp e).1]
 exact e
theorem Evo.up {W:Addr→Prop} (E:Evo W c c'):Up c.ι c.h c'.ι c'.h:=⟨x12 E.pre fun τ h _=>⟨τ,h⟩,E.tup⟩
theorem Up.keeps (k:∀a o,h.get? a=some o→h'.get? a=some o):Up ι h ι h':=⟨⟨[],(List.append_nil _).symm⟩,fun _ _ _ e=>k _ _ e⟩
mutual
theorem VR.up' {ι ι':Io} {h h':Heap} (U:Up ι h ι' h'):∀(v:V) {r:Value},VR ι h v r→VR ι' h' v r
 |.none,_,q=>q
 |.bool _,_,q=>q
 |.int _,_,q=>q
 |.str _,_,q=>q
 |.tup vs,_,q=>x33 q fun a its n e g r=>⟨a,its,n,e,U.tup _ _ _ g,VRs.up' U vs r⟩
 |.ref i,_,q=>x12 q fun p e r=>⟨p,U.get e,r⟩
theorem VRs.up' (U:Up ι h ι' h'):∀(vs:List V) {rs:List Value},VRs ι h vs rs→VRs ι' h' vs rs
 |[],_,q=>q
 |v::vs,_,q=>x23 q fun r rs' e a b=>⟨r,rs',e,VR.up' U v a,VRs.up' U vs b⟩
end
theorem VR.up (q:VR ι h v r) (U:Up ι h ι' h'):VR ι' h' v r:=VR.up' U v q
theorem VRs.up (q:VRs ι h v r) (U:Up ι h ι' h'):VRs ι' h' v r:=VRs.up' U v q
theorem ERs.up (U:Up ι h ι' h'):∀{es:List (V×V)} {rs:List DictEntry},ERs Z ι h es rs→ERs Z ι' h' es rs
 |[],_,q=>q
 |_::_,_,q=>x23 q fun r rs' e p00_ q=>x04 p00_ fun a b c d=>⟨r,rs',e,⟨a,b,c.up U,d.up U⟩,q.up U⟩
theorem FRs.up (U:Up ι h ι' h'):∀{es:List (Str×V)} {rs:List DictEntry},FRs ι h es rs→FRs ι' h' es rs
 |[],_,q=>q
 |_::_,_,q=>x23 q fun r rs' e p00_ q=>x02 p00_ fun a b=>⟨r,rs',e,⟨a,b.up U⟩,q.up U⟩
theorem DictAt.up (D:DictAt Z ι h d es n) (U:Up ι h ι' h') (k:h'.get? d=h.get? d):DictAt Z ι' h' d es n:=
 let ⟨a,its,g,r⟩:=D;⟨a,its,k.trans g,r.up U⟩
theorem ObjR.up (U:Up ι h ι' h') (k:∀a,a=p.1∨a=p.2→h'.get? a=h.get? a) (q:ObjR Z ι h p o):ObjR Z ι' h' p o:=by
 cases o with
 |list xs=>exact let ⟨a,its,n,g,r⟩:=q;⟨a,its,n,(k _ (.inl rfl)).trans g,r.up U⟩
 |dict es n=>exact⟨q.1,q.2.up U (k _ (.inl rfl))⟩
 |inst C fs=>exact let ⟨a,Ca,its,n,c,g,g',r⟩:=q;⟨a,Ca,its,n,c,(k _ (.inl rfl)).trans g,(k _ (.inr rfl)).trans g',r.up U⟩
noncomputable def NoTup (h:Heap) (a:Addr):Prop:=∀its n,h.get? a≠some (tupO its n)
theorem Jc0 (h:a≠b):Value.type a≠Value.type b:=fun e=>h (by cases e;rfl)
theorem noTup (e:h.get? a=some o) (hc:o.cls≠.type "tuple"):NoTup h a:=fun its n q=>by
 rw[e] at q;exact hc (congrArg (fun z=>(z.map (·.cls)).getD .none) q)
theorem ObjR.at (q:ObjR Z ι h p o) (ha:a=p.1∨a=p.2):∃ob,h.get? a=some ob∧ob.cls≠.type "tuple":=by
 cases o with
 |list xs=>
  obtain ⟨e,its,n,g,-⟩:=q
  exact⟨_,(ha.elim id fun h=>h.trans e)▸g,Jc0 (by decide)⟩
 |dict es n=>
  obtain ⟨e,-,its,g,-⟩:=q
  exact⟨_,(ha.elim id fun h=>h.trans e)▸g,Jc0 (by decide)⟩
 |inst C fs=>
  obtain ⟨-,Ca,its,n,-,g,g',-⟩:=q
  rcases ha with rfl|rfl
  ·exact⟨_,g,fun e=>nomatch e⟩
  ·exact⟨_,g',Jc0 (by decide)⟩
theorem Cfg.idx (c:Cfg Z) (e:c.ι[i]?=some p):∃o,c.st.get i=some o:=by
 have hi:=(List.getElem?_eq_some_iff.mp e).1
 rw[c.len] at hi
 exact⟨c.st.objs[i],Array.getElem?_eq_getElem hi⟩
theorem Cfg.at (c:Cfg Z) {i:Nat} {p:Addr×Addr} (hi:c.ι[i]?=some p) {a:Addr} (ha:a=p.1∨a=p.2):∃ob,c.h.get? a=some ob∧ob.cls≠.type "tuple":=
 x11 (c.idx hi) fun o ho=>(c.objs i p o hi ho).at ha
theorem Cfg.footAt (c:Cfg Z) {a:Addr} (h:foot c.ι a):∃ob,c.h.get? a=some ob∧ob.cls≠.type "tuple":=
 x12 h fun _ hp ha=>x11 (List.getElem?_of_mem hp) fun _ hi=>c.at hi ha
theorem Cfg.off (c:Cfg Z) {a:Addr} (h:c.h.get? a=none):¬foot c.ι a∧Z.h₀.get? a=none:=by
 refine⟨fun hf=>x12 (c.footAt hf) fun _ e _=>Jh e h,?_⟩
 cases q:Z.h₀.get? a with
 |none=>rfl
 |some o=>exact Jh (c.base a o q) h
theorem Jp (h:Heap):h.get? h.objs.size=none:=Heap.get?_none_of_le (Nat.le_refl _)
theorem Q0 (h:Heap):h.get? (h.objs.size+1)=none:=Heap.get?_none_of_le (Nat.le_succ _)
noncomputable def Cfg.but (c:Cfg Z) (W:Addr→Prop) (h':Heap) (t:Nat) (k:∀b o,¬W b→c.h.get? b=some o→h'.get? b=some o) (hW:∀b,W b→¬foot c.ι b∧Z.h₀.get? b=none∧NoTup c.h b):Cfg Z where
 ι:=c.ι
 st:=c.st
 s:={c.s with heap:=h',toks:=t}
 base a o e:=k a o (fun q=>Jh e (hW a q).2.1) (c.base a o e)
 len:=c.len
 objs i p o hi ho:=by
  have q:=c.objs i p o hi ho
  refine q.up ⟨⟨[],(List.append_nil _).symm⟩,fun a its n e=>k a _ (fun z=>(hW a z).2.2 _ _ e) e⟩ fun a ha=>?_
  refine x12 (q.at ha) fun ob e _=>?_
  rw[e]
  exact k a ob (fun z=>(hW a z).1 ⟨p,List.mem_of_getElem? hi,ha⟩) e
 inj:=c.inj
 new:=c.new
 zero:=c.zero
 pos:=c.pos
 gens:=c.gens
 os:=c.os
theorem Cfg.but_le {c:Cfg Z} {W:Addr→Prop} {h':Heap} {t:Nat} {k:∀b o,¬W b→c.h.get? b=some o→h'.get? b=some o} {hW:∀b,W b→¬foot c.ι b∧Z.h₀.get? b=none∧NoTup c.h b}:Evo W c (c.but W h' t k hW):=
 ⟨⟨[],(List.append_nil _).symm,fun _ hp=>(List.not_mem_nil hp).elim⟩,fun a o e hw=>⟨o,k a o hw e⟩,fun a o e _ hw=>k a o hw e,fun a its n e=>k a _ (fun z=>(hW a z).2.2 _ _ e) e⟩
noncomputable def Cfg.grow (c:Cfg Z) (h':Heap) (t:Nat) (k:∀b o,c.h.get? b=some o→h'.get? b=some o):Cfg Z:=c.but NoW h' t (fun b o _ e=>k b o e) fun _ f=>f.elim
theorem Cfg.grow_le {c:Cfg Z} {h':Heap} {t:Nat} {k:∀b o,c.h.get? b=some o→h'.get? b=some o}:Le c (c.grow h' t k):=Cfg.but_le
theorem keepPush {h:Heap} {x:Obj}:∀b o,h.get? b=some o→(h.push x).get? b=some o:=fun _ _ e=>Heap.get?_push_of_some _ e
noncomputable def Cfg.toks (c:Cfg Z) (t:Nat):Cfg Z:=c.grow c.h t fun _ _ e=>e
theorem Cfg.toks_le:Le c (c.toks t):=Cfg.grow_le
noncomputable def Cfg.draw (c:Cfg Z) (d:Drawn):Cfg Z:=⟨c.ι,c.st,{c.s with drawn:=d},c.base,c.len,c.objs,c.inj,c.new,c.zero,c.pos,c.gens,c.os⟩
theorem Cfg.draw_le:Le c (c.draw d):=⟨⟨[],(List.append_nil _).symm,fun _ hp=>(List.not_mem_nil hp).elim⟩,fun _ o e _=>⟨o,e⟩,fun _ _ e _ _=>e,fun _ _ _ e=>e⟩
noncomputable def Cfg.put (c:Cfg Z) (i:Nat) (o':O) (h':Heap) (t:Nat) {p:Addr×Addr} {b:Addr} (hf:i≠0) (hi:c.ι[i]?=some p) (hb:b=p.1∨b=p.2) (hs:Heap.SameBut b c.h h') (ho:Up c.ι c.h c.ι h'→ObjR Z c.ι h' p o'):Cfg Z:=
 have U:Up c.ι c.h c.ι h':=⟨⟨[],(List.append_nil _).symm⟩,fun a its n e=>(hs.2 a (by
  rintro rfl
  refine x12 (c.at hi hb) fun ob eb nb=>?_
  exact noTup eb nb _ _ e)).trans e⟩
 {ι:=c.ι
  st:=c.st.set i o'
  s:={c.s with heap:=h',toks:=t}
  base:=fun a o e=>(hs.2 a (by
   rintro rfl
   have:=c.new i p hi hf
   rcases hb with h|h
   ·exact Jh e (h▸this.1)
   ·exact Jh e (h▸this.2))).trans (c.base a o e)
  len:=c.len.trans (Array.size_setIfInBounds ..).symm
  objs:=fun j q o hj hoj=>by
   unfold St.get St.set at hoj
   rw[Array.getElem?_setIfInBounds] at hoj
   by_cases hij:i=j
   ·subst hij
    rw[hi] at hj
    obtain rfl:=Option.some.inj hj
    rw[if_pos rfl] at hoj
    split at hoj
    ·obtain rfl:=Option.some.inj hoj;exact ho U
    ·exact Jc hoj
   ·rw[if_neg hij] at hoj
    refine(c.objs j q o hj hoj).up U fun a ha=>hs.2 a ?_
    have:=c.inj i j p q hi hj hij
    rintro rfl
    rcases hb with h|h<;>rcases ha with h'|h'
    ·exact this.1 (h.symm.trans h')
    ·exact this.2.1 (h.symm.trans h')
    ·exact this.2.2.1 (h.symm.trans h')
    ·exact this.2.2.2 (h.symm.trans h')
  inj:=c.inj
  new:=c.new
  zero:=c.zero
  pos:=c.pos
  gens:=c.gens
  os:=c.os}
theorem Cfg.put_le {c:Cfg Z} {i:Nat} {o':O} {h':Heap} {t:Nat} {p:Addr×Addr} {b:Addr} {hf:i≠0} {hi:c.ι[i]?=some p} {hb:b=p.1∨b=p.2} {hs:Heap.SameBut b c.h h'} {ho:Up c.ι c.h c.ι h'→ObjR Z c.ι h' p o'} :
  Le c (c.put i o' h' t hf hi hb hs ho):=by
 refine x12 (c.at hi hb) fun ob eb nb=>?_
 have hf:foot c.ι b:=⟨p,List.mem_of_getElem? hi,hb⟩
 have ht:∀a its n,c.h.get? a=some (tupO its n)→h'.get? a=some (tupO its n):=fun a its n e=>(hs.2 a (by rintro rfl;exact noTup eb nb _ _ e)).trans e
 refine⟨⟨[],(List.append_nil _).symm,fun _ hp=>(List.not_mem_nil hp).elim⟩,fun a o e _=>?_,fun a o e hf' _=>(hs.2 a (by rintro rfl;exact hf' hf)).trans e,ht⟩
 by_cases z:a=b
 ·subst z
  refine x12 ((c.put i o' h' t ‹_› hi hb hs ho).at hi hb) fun ob' e' _=>?_
  exact⟨ob',e'⟩
 ·exact⟨o,(hs.2 a z).trans e⟩
noncomputable def Cfg.alloc (c:Cfg Z) (o':O) (h':Heap) (t:Nat) (p:Addr×Addr) (k:∀a o,c.h.get? a=some o→h'.get? a=some o)
  (hp:∀a,a=p.1∨a=p.2→¬foot c.ι a∧Z.h₀.get? a=none) (ho:Up c.ι c.h (c.ι++[p]) h'→ObjR Z (c.ι++[p]) h' p o'):Cfg Z:=
 have U:Up c.ι c.h (c.ι++[p]) h':=⟨⟨[p],rfl⟩,fun a its n e=>k _ _ e⟩
 have apart:∀q∈c.ι,q.1≠p.1∧q.1≠p.2∧q.2≠p.1∧q.2≠p.2:=fun q hq=>
  ⟨fun e=>(hp _ (.inl rfl)).1 ⟨q,hq,.inl e.symm⟩,fun e=>(hp _ (.inr rfl)).1 ⟨q,hq,.inl e.symm⟩,fun e=>(hp _ (.inl rfl)).1 ⟨q,hq,.inr e.symm⟩,fun e=>(hp _ (.inr rfl)).1 ⟨q,hq,.inr e.symm⟩⟩
 have old:∀(j:Nat) q,(c.ι++[p])[j]?=some q→(c.ι[j]?=some q∧j<c.ι.length)∨(q=p∧j=c.ι.length):=fun j q e=>by
  rw[List.getElem?_append] at e
  split at e
  ·exact .inl ⟨e,by assumption⟩
  ·have hj:=(List.getElem?_eq_some_iff.mp e).1
   have:j=c.ι.length:=by rw[List.length_singleton] at hj;exact sub1 (by assumption) hj
   subst this
   rw[Nat.sub_self] at e
   exact .inr ⟨(Option.some.inj e).symm,rfl⟩
 {ι:=c.ι++[p]
  st:=c.st.push o'
  s:={c.s with heap:=h',toks:=t}
  base:=fun a o e=>k a o (c.base a o e)
  len:=by rw[List.length_append,c.len];exact(Array.size_push ..).symm
  objs:=fun j q o hj hoj=>by
   unfold St.get St.push at hoj
   rcases old j q hj with ⟨e,hl⟩|⟨rfl,hl⟩
   ·rw[c.len] at hl
    rw[Array.getElem?_push_lt hl] at hoj
    have z:=c.objs j q o e ((Array.getElem?_eq_getElem hl).trans hoj)
    refine z.up U fun a ha=>?_
    refine x12 (z.at ha) fun ob e _=>?_
    rw[e];exact k _ _ e
   ·rw[c.len] at hl
    subst hl
    have:o'=o:=Option.some.inj (Array.getElem?_push_size.symm.trans hoj)
    subst this
    exact ho U
  inj:=fun i j q r hi hj hij=>by
   rcases old i q hi with ⟨e,hl⟩|⟨rfl,hl⟩<;>rcases old j r hj with ⟨e',hl'⟩|⟨rfl,hl'⟩
   ·exact c.inj i j q r e e' hij
   ·exact apart q (List.mem_of_getElem? e)
   ·have:=apart r (List.mem_of_getElem? e')
    exact⟨this.1.symm,this.2.2.1.symm,this.2.1.symm,this.2.2.2.symm⟩
   ·exact absurd (hl.trans hl'.symm) hij
  new:=fun i q hq h0=>by
   rcases old i q hq with ⟨e,hl⟩|⟨rfl,hl⟩
   ·exact c.new i q e h0
   ·exact⟨(hp _ (.inl rfl)).2,(hp _ (.inr rfl)).2⟩
  zero:=fun q hq=>by
   rcases old 0 q hq with ⟨e,hl⟩|⟨rfl,hl⟩
   ·exact c.zero q e
   ·exact absurd hl (Nat.ne_of_lt c.pos)
  pos:=Nat.lt_of_lt_of_le c.pos (by rw[List.length_append];exact Nat.le_add_right _ _)
  gens:=c.gens
  os:=c.os}
theorem Cfg.alloc_le {W:Addr→Prop} {k:∀a o,c.h.get? a=some o→h'.get? a=some o} {hp:∀a,a=p.1∨a=p.2→¬foot c.ι a∧Z.h₀.get? a=none}
  {ho:Up c.ι c.h (c.ι++[p]) h'→ObjR Z (c.ι++[p]) h' p o'} (hW:∀a,a=p.1∨a=p.2→W a∨c.h.get? a=none):Evo W c (c.alloc o' h' t p k hp ho):=
 ⟨⟨[p],rfl,fun q hq=>by obtain rfl:=List.mem_singleton.mp hq;exact hW⟩,fun a o e _=>⟨o,k a o e⟩,fun a o e _ _=>k a o e,fun a its n e=>k _ _ e⟩
theorem Cfg.ref_new (c:Cfg Z) (p:Addr×Addr):VR (c.ι++[p]) h' (.ref c.st.size) (.ref p.1):=⟨p,by rw[←c.len];exact List.getElem?_concat_length,rfl⟩
end Mine
namespace Mine
variable {Z:Fix} {A:Around} {E:Value→Shared→Prop} {ι:Io} {s:Shared} {h:Heap}
theorem ERs.cons_inv (q:ERs Z ι h (e::es) rs):∃r rs',rs=r::rs'∧(r.hash=hashV Z e.1∧(keyKind e.1).isSome=true∧VR ι h e.1 r.key∧VR ι h e.2 r.val)∧ERs Z ι h es rs':=q
theorem ERs.findIdx:∀{es:List (V×V)} {rs:List DictEntry},ERs Z ι h es rs→(∀e∈es,∀r,VR ι h e.1 r.key→f r=g e)→rs.findIdx? f=es.findIdx? g
 |[],rs,q,_=>by obtain rfl:=(show rs=[] from q);rfl
 |e::es,rs,q,hf=>by
  obtain ⟨r,rs',rfl,⟨-,-,k,-⟩,q⟩:=q.cons_inv
  rw[List.findIdx?_cons,List.findIdx?_cons,hf e (.head _) r k,q.findIdx fun e he=>hf e (.tail _ he)]
theorem ERs.mem:∀{es:List (V×V)} {rs:List DictEntry},ERs Z ι h es rs→∀r∈rs,∃e∈es,r.hash=hashV Z e.1∧VR ι h e.1 r.key:=by
 intro l_
 induction l_ with
 |nil=>
  intro rs q r hr
  obtain rfl:=(show rs=[] from q);cases hr
 |cons e es ih_=>
  intro rs q r hr
  obtain ⟨r',rs',rfl,⟨a,-,k,-⟩,q⟩:=q.cons_inv
  refine(List.mem_cons.mp hr).elim (fun e_=>?_) fun hr=>?_
  ·subst e_
   exact⟨e,.head _,a,k⟩
  ·exact x12 ((ih_ q) r hr) fun e' he z=>⟨e',.tail _ he,z⟩
theorem ERs.get:∀{es:List (V×V)} {rs:List DictEntry},ERs Z ι h es rs→∀(i:Nat) (e:V×V),es[i]?=some e→∃r,rs[i]?=some r∧VR ι h e.2 r.val:=by
 intro l_
 induction l_ with
 |nil=>
  intro rs q i e he
  exact Jc he
 |cons e es ih_=>
  intro rs q i e' he
  obtain ⟨r',rs',rfl,⟨a,b,c,d⟩,q⟩:=q.cons_inv
  cases i with
  |zero=>obtain rfl:=Option.some.inj he;exact⟨r',rfl,d⟩
  |succ i=>exact(ih_ q) i e' he
theorem ERs.length:∀{es:List (V×V)} {rs:List DictEntry},ERs Z ι h es rs→rs.length=es.length:=by
 intro l_
 induction l_ with
 |nil=>
  intro rs q
  obtain rfl:=(show rs=[] from q);rfl
 |cons x_ xs_ ih_=>
  intro _ q
  obtain ⟨r,rs',rfl,-,q⟩:=q.cons_inv;exact congrArg Nat.succ (ih_ q)
theorem VRs.cons_of (q:VRs ι h (v::vs) rs):∃r rs',rs=r::rs'∧VR ι h v r∧VRs ι h vs rs':=q
theorem VRs.nil_of (q:VRs ι h [] rs):rs=[]:=q
theorem VRs.one (q:VR ι h v r):VRs ι h [v] [r]:=⟨r,[],rfl,q,rfl⟩
theorem VRs.one_inv (q:VRs ι h [v] rs):∃r,rs=[r]∧VR ι h v r:=by
 refine x23 q fun r _ q1_ a q2_=>?_
 subst q1_
 subst q2_
 exact⟨r,rfl,a⟩
theorem VRs.two_inv (q:VRs ι h [v,w] rs):∃r u,rs=[r,u]∧VR ι h v r∧VR ι h w u:=by
 obtain ⟨r,_,rfl,a,q⟩:=q
 refine x12 (VRs.one_inv q) fun u q1_ b=>?_
 subst q1_
 exact⟨r,u,rfl,a,b⟩
theorem Q1 {P:V→Prop} (v:V) (h:v.atom=true) (hi:∀i,P (.int i)) (hs:∀x,P (.str x)):P v:=by
 cases v with
 |int i=>exact hi i
 |str x=>exact hs x
 |_=>exact Bool.noConfusion h
theorem all_cons (h:(v::vs).all V.atom=true):v.atom=true∧vs.all V.atom=true:=Bool.and_eq_true_iff.mp h
theorem Wc:Value.isInt i (.int i t)=true:=beq_self_eq_true i
theorem W7:Value.isStrOf x (.str x t)=true:=beq_self_eq_true x
theorem Jhz:∀{vs:List V} {rs:List Value},VRs ι h vs rs→vs.all V.atom=true→ItemsAre (atomKind Z.prog Z.w) (atoms vs) rs:=by
 intro l_
 induction l_ with
 |nil=>
  intro rs q _
  obtain rfl:=q.nil_of;exact .nil
 |cons v vs ih_=>
  intro rs q ha
  obtain ⟨r,rs',rfl,k,q⟩:=q.cons_of
  have ih:=ih_ q (all_cons ha).2
  refine Q1 (P:=fun v=>VR ι h v r→ItemsAre (atomKind Z.prog Z.w) (atoms (v::vs)) (r::rs')) v (all_cons ha).1 (fun i k=>?_) (fun x k=>?_) k
  ·obtain ⟨t,rfl⟩:=k;exact .cons (Wc (t:=t)) ih
  ·obtain ⟨t,rfl⟩:=k;exact .cons (W7 (t:=t)) ih
theorem Jir:∀{vs ws:List V},vs.all V.atom=true→ws.all V.atom=true→atoms vs=atoms ws→vs=ws:=by
 intro l_
 induction l_ with
 |nil=>
  intro ws _ hw e
  cases ws with
  |nil=>rfl
  |cons w ws=>exact Q1 (P:=fun w=>[]=atoms (w::ws)→[]=w::ws) w (all_cons hw).1 (fun i e=>nomatch e) (fun x e=>nomatch e) e
 |cons v vs ih_=>
  intro ws hv hw e
  cases ws with
  |nil=>exact Q1 (P:=fun v=>atoms (v::vs)=[]→v::vs=[]) v (all_cons hv).1 (fun i e=>nomatch e) (fun x e=>nomatch e) e
  |cons w ws=>
   have ih:atoms vs=atoms ws→vs=ws:=ih_ (all_cons hv).2 (all_cons hw).2
   refine Q1 (P:=fun v=>atoms (v::vs)=atoms (w::ws)→v::vs=w::ws) v (all_cons hv).1 (fun i=>?_) (fun x=>?_) e
   ·exact Q1 (P:=fun w=>Atom.int i::atoms vs=atoms (w::ws)→V.int i::vs=w::ws) w (all_cons hw).1 (fun j e=>by injection e with a b;injection a with a;rw[a,ih b]) (fun y e=>nomatch (List.cons.inj e).1)
   ·exact Q1 (P:=fun w=>Atom.str x::atoms vs=atoms (w::ws)→V.str x::vs=w::ws) w (all_cons hw).1 (fun j e=>nomatch (List.cons.inj e).1) (fun y e=>by injection e with a b;injection a with a;rw[a,ih b])
theorem Q2 (h:keyKind k=some .tup):∃vs,k=.tup vs∧vs.all V.atom=true:=by
 cases k with
 |tup vs=>
  by_cases q:vs.all V.atom=true
  ·exact⟨vs,rfl,q⟩
  ·exact absurd h (by show ¬(if vs.all V.atom=true then some KK.tup else none)=_;rw[if_neg q];exact fun e=>nomatch e)
 |_=>cases h
theorem Xd (h:keyKind (.tup vs)=some kk):kk=.tup:=by
 replace h:(if vs.all V.atom=true then some KK.tup else none)=some kk:=h
 split at h
 ·exact(Option.some.inj h).symm
 ·exact Jc h
theorem Wm (h:keyKind k=some .int):∃i,k=.int i:=by
 cases k with
 |tup vs=>exact nomatch Xd h
 |int i=>exact⟨i,rfl⟩
 |_=>cases h
theorem Wl (h:keyKind k=some .str):∃i,k=.str i:=by
 cases k with
 |tup vs=>exact nomatch Xd h
 |str i=>exact⟨i,rfl⟩
 |_=>cases h
theorem Jc1 (q:VR ι h (.tup vs) r) (ha:vs.all V.atom=true):∃a,r=.ref a∧IsTupleKey (atomKind Z.prog Z.w) h (atoms vs) a:=
 x33 q fun a its n e g k=>⟨a,e,_,its,n,g,rfl,rfl,Jhz k ha⟩
theorem Jbq (hu:A.units<cLine) (kr:VR ι s.heap k rk) (hk:keyKind k=some kk) (h:∀t,Q (hashV Z k) {s with toks:=t}):wpAny (model Z.prog Z.w) A (PySem.pyHash rk) Q E s:=by
 cases kk with
 |int=>obtain ⟨i,rfl⟩:=Wm hk;obtain ⟨t,rfl⟩:=kr;exact wpAny_pyHash_int (h _)
 |str=>obtain ⟨i,rfl⟩:=Wl hk;obtain ⟨t,rfl⟩:=kr;exact wpAny_pyHash_str (h _)
 |tup=>
  refine x12 (Q2 hk) fun vs q1_ ha=>?_
  subst q1_
  refine x12 (Jc1 (Z:=Z) kr ha) fun a q1_ hT=>?_
  subst q1_
  exact(tupleKind (atomKind Z.prog Z.w)).pyHash hu hT (h _)
noncomputable def tupAtoms (k:V):List Atom:=match k with
 |.tup vs=>atoms vs
 |_=>[]
theorem ERs.rows:∀{es:List (V×V)} {rs:List DictEntry},ERs Z ι h es rs→(∀e∈es,keyKind e.1=some .tup)→
  ∃xs:List (List Atom×Addr×Value),rs=xs.map (entryOfKey (tupleKind (atomKind Z.prog Z.w)))∧(∀x∈xs,IsTupleKey (atomKind Z.prog Z.w) h x.1 x.2.1)∧xs.map (·.1)=es.map fun e=>tupAtoms e.1:=by
 intro l_
 induction l_ with
 |nil=>
  intro rs q _
  obtain rfl:=(show rs=[] from q);exact⟨[],rfl,fun x hx=>(List.not_mem_nil hx).elim,rfl⟩
 |cons e es ih_=>
  intro rs q hk
  obtain ⟨⟨rh,rk,rv⟩,rs',rfl,⟨a,b,c,d⟩,q⟩:=q.cons_inv
  refine x13 ((ih_ q) fun e he=>hk e (.tail _ he)) fun xs q1_ h2 h3=>?_
  subst q1_
  refine x12 (Q2 (hk e (.head _))) fun vs e1 ha=>?_
  rw[e1] at a c
  refine x12 (Jc1 (Z:=Z) c ha) fun ad hr hT=>?_
  dsimp only at hr a
  subst hr a
  refine⟨(atoms vs,ad,rv)::xs,rfl,fun x hx=>?_,?_⟩
  ·refine(List.mem_cons.mp hx).elim (fun e_=>?_) fun hx=>?_
   ·subst e_
    exact hT
   ·exact h2 x hx
  ·rw[List.map_cons,List.map_cons,h3,e1];rfl
theorem Jgz (h:keyKind k=some .tup) (h':keyKind k'=some .tup) (e:tupAtoms k=tupAtoms k'):k=k':=by
 refine x12 (Q2 h) fun vs q1_ ha=>?_
 subst q1_
 refine x12 (Q2 h') fun ws q1_ hb=>?_
 subst q1_
 rw[Jir ha hb e]
theorem Jbt {α β:Type} {f:α→β}:∀{l:List α},l.Nodup→(∀x∈l,∀y∈l,f x=f y→x=y)→(l.map f).Nodup:=by
 intro l_
 induction l_ with
 |nil=>
  intro _ _
  exact List.nodup_nil
 |cons a l ih_=>
  intro h hf
  rw[List.nodup_cons] at h
  rw[List.map_cons,List.nodup_cons]
  refine⟨fun hm=>?_,ih_ h.2 fun x hx y hy=>hf x (.tail _ hx) y (.tail _ hy)⟩
  refine x12 (List.mem_map.mp hm) fun b hb e=>?_
  exact h.1 (hf b (.tail _ hb) a (.head _) e▸hb)
theorem Zt {es:List (V×V)} (nd:(es.map (·.1)).Nodup) {e:V×V} (h:es[j]?=some e):es.findIdx? (fun x=>decide (x.1=e.1))=some j:=by
 induction es generalizing j with
 |nil=>exact Jc h
 |cons x es ih=>
  rw[List.findIdx?_cons]
  rw[List.map_cons,List.nodup_cons] at nd
  cases j with
  |zero=>obtain rfl:=Option.some.inj h;rw[decide_eq_true rfl];rfl
  |succ j=>
   rw[decide_eq_false fun q=>nd.1 (by rw[q];exact List.mem_map_of_mem (List.mem_of_getElem? (show es[j]?=some e from h))),ih nd.2 h];rfl
theorem Zu {ents:Array DictEntry} {es:List (V×V)} {Q:Option Nat→Shared→Prop} (hu:A.units<cLine) (hd:s.heap.get? d=some (dictO ents n)) (R:ERs Z ι s.heap es ents.toList)
  (nd:(es.map (·.1)).Nodup) (kr:VR ι s.heap k rk) (ok:keysOk k es) (h:Q (es.findIdx? fun e=>decide (e.1=k)) s):wpAny (model Z.prog Z.w) A (dictFind d rk (hashV Z k)) Q E s:=by
 refine x12 ok fun kk hk all=>?_
 obtain ⟨l⟩:=ents
 cases kk with
 |int=>
  refine x11 (Wm hk) fun i q1_=>?_
  subst q1_
  refine x11 kr fun t q1_=>?_
  subst q1_
  refine wpAny_dictFind_of (knd:=intKind Z.prog Z.w) (k:=i) (es:=⟨l⟩) (Wc (t:=t)) hd rfl (fun r hr=>?_) ?_
  ·refine x13 (R.mem r (Array.mem_toList_iff.mpr hr)) fun e he a c=>?_
   refine x11 (Wm (all e he)) fun j ej=>?_
   rw[ej] at a c
   refine x11 c fun u c=>?_
   exact⟨j,by rw[c];exact Wc (t:=u),a⟩
  ·rw[List.findIdx?_toArray,R.findIdx (g:=fun e=>decide (e.1=.int i)) fun e he r c=>?_]
   ·exact h
   ·refine x11 (Wm (all e he)) fun j ej=>?_
    rw[ej] at c ⊢
    refine x11 c fun u c=>?_
    rw[c]
    by_cases q:j=i
    ·subst q;rw[decide_eq_true rfl];exact Wc (t:=u)
    ·rw[decide_eq_false fun e=>q (by cases e;rfl)];exact beq_eq_false_iff_ne.mpr q
 |str=>
  refine x11 (Wl hk) fun i q1_=>?_
  subst q1_
  refine x11 kr fun t q1_=>?_
  subst q1_
  refine wpAny_dictFind_of (knd:=strKind Z.prog Z.w) (k:=i) (es:=⟨l⟩) (W7 (t:=t)) hd rfl (fun r hr=>?_) ?_
  ·refine x13 (R.mem r (Array.mem_toList_iff.mpr hr)) fun e he a c=>?_
   refine x11 (Wl (all e he)) fun j ej=>?_
   rw[ej] at a c
   refine x11 c fun u c=>?_
   exact⟨j,by rw[c];exact W7 (t:=u),a⟩
  ·rw[List.findIdx?_toArray,R.findIdx (g:=fun e=>decide (e.1=.str i)) fun e he r c=>?_]
   ·exact h
   ·refine x11 (Wl (all e he)) fun j ej=>?_
    rw[ej] at c ⊢
    refine x11 c fun u c=>?_
    rw[c]
    by_cases q:j=i
    ·subst q;rw[decide_eq_true rfl];exact W7 (t:=u)
    ·rw[decide_eq_false fun e=>q (by cases e;rfl)];exact beq_eq_false_iff_ne.mpr q
 |tup=>
  refine x12 (Q2 hk) fun vs q1_ ha=>?_
  subst q1_
  refine x12 (Jc1 (Z:=Z) kr ha) fun a q1_ hT=>?_
  subst q1_
  refine x13 (R.rows all) fun xs h1 h2 h3=>?_
  have key:∀(j:Nat),(∃p,xs[j]?=some (atoms vs,p))↔∃e,es[j]?=some e∧e.1=.tup vs:=fun j=>by
   have z:=congrArg (·[j]?) h3
   simp only [List.getElem?_map] at z
   constructor
   ·rintro ⟨p,hp⟩
    rw[hp] at z
    refine x12 (Option.map_eq_some_iff.mp z.symm) fun e he q=>?_
    exact⟨e,he,Jgz (all e (List.mem_of_getElem? he)) hk q⟩
   ·rintro ⟨e,he,e1⟩
    rw[he] at z
    refine x12 (Option.map_eq_some_iff.mp z) fun q1_ hx q=>?_
    obtain ⟨x,p⟩:=q1_
    replace q:x=tupAtoms e.1:=q
    rw[e1] at q
    exact⟨p,by rw[hx,show x=atoms vs from q]⟩
  have nx:(xs.map (·.1)).Nodup:=by
   rw[h3,show (es.map fun e=>tupAtoms e.1)=(es.map (·.1)).map tupAtoms from(List.map_map (f:=Prod.fst) (g:=tupAtoms)).symm]
   refine Jbt nd fun x hx y hy q=>?_
   refine x12 (List.mem_map.mp hx) fun e he q1_=>?_
   subst q1_
   refine x12 (List.mem_map.mp hy) fun e' he' q1_=>?_
   subst q1_
   exact Jgz (all e he) (all e' he') q
  refine wpAny_dictFind_heap (knd:=tupleKind (atomKind Z.prog Z.w)) (k:=atoms vs) hu hT hd rfl h1 h2 nx (fun hno=>?_) fun j p hp=>?_
  ·rwa [List.findIdx?_eq_none_iff.mpr fun e he=>decide_eq_false fun q=>?_] at h
   refine x11 (List.getElem?_of_mem he) fun j hj=>?_
   refine x11 ((key j).mpr ⟨e,hj,q⟩) fun p hp=>?_
   exact hno j p hp
  ·refine x12 ((key j).mp ⟨p,hp⟩) fun e he e1=>?_
   have:=Zt nd he
   rw[e1] at this
   rwa [this] at h
theorem Jlj (es:List (V×V)) (k:V):dget es k=(es.findIdx? fun e=>decide (e.1=k)).bind fun i=>(es[i]?).map (·.2):=by
 unfold dget
 induction es with
 |nil=>rfl
 |cons e es ih=>
  rw[List.find?_cons,List.findIdx?_cons]
  cases decide (e.1=k) with
  |true=>rfl
  |false=>
   rw[ih]
   cases es.findIdx? fun e=>decide (e.1=k)<;>rfl
theorem Ja2 (h:es.findIdx? (fun e=>decide (e.1=k))=none):dput es k v=es++[(k,v)]:=by
 induction es with
 |nil=>rfl
 |cons e es ih=>
  have h1:=List.findIdx?_eq_none_iff.mp h
  unfold dput
  rw[if_neg (of_decide_eq_false (h1 e (.head _))),ih (List.findIdx?_eq_none_iff.mpr fun x hx=>h1 x (.tail _ hx))];rfl
theorem Jib (h:k∈es.map (·.1)):(dput es k v).map (·.1)=es.map (·.1):=by
 induction es with
 |nil=>cases h
 |cons e es ih=>
  unfold dput
  by_cases q:e.1=k
  ·rw[if_pos q];rfl
  ·rw[if_neg q,List.map_cons,List.map_cons,ih ((List.mem_cons.mp h).resolve_left fun z=>q z.symm)]
theorem Jab (nd:(es.map (·.1)).Nodup) (k v:V):((dput es k v).map (·.1)).Nodup:=by
 by_cases h:k∈es.map (·.1)
 ·rw[Jib h];exact nd
 ·rw[Ja2 (List.findIdx?_eq_none_iff.mpr fun e he=>decide_eq_false fun q=>h (by rw[←q];exact List.mem_map_of_mem he)),List.map_append,List.nodup_append]
  exact⟨nd,List.nodup_cons.mpr ⟨List.not_mem_nil,List.nodup_nil⟩,fun a ha b hb e=>h (by have e':a=k:=e.trans (List.mem_singleton.mp hb);rw[←e'];exact ha)⟩
theorem ERs.modify:∀{es:List (V×V)} {rs:List DictEntry} {k v:V} {rv:Value} {i:Nat},ERs Z ι h es rs→es.findIdx? (fun e=>decide (e.1=k))=some i→VR ι h v rv→
  ERs Z ι h (dput es k v) (rs.modify i fun e=>{e with val:=rv}):=by
 intro l_
 induction l_ with
 |nil=>
  intro _ _ _ _ _ _ hi _
  exact Jc hi
 |cons e es ih_=>
  intro rs k v rv i q hi hv
  obtain ⟨r,rs',rfl,⟨a,b,c,d⟩,q⟩:=q.cons_inv
  rw[List.findIdx?_cons] at hi
  unfold dput
  by_cases z:e.1=k
  ·rw[decide_eq_true z] at hi
   obtain rfl:=Option.some.inj hi
   rw[if_pos z]
   exact⟨_,_,rfl,⟨a,b,c,hv⟩,q⟩
  ·rw[decide_eq_false z] at hi
   refine x12 (Option.map_eq_some_iff.mp hi) fun j hj q1_=>?_
   subst q1_
   rw[if_neg z]
   exact⟨r,_,rfl,⟨a,b,c,d⟩,(ih_ q) hj hv⟩
theorem ERs.push:∀{es:List (V×V)} {rs:List DictEntry} {k v:V} {rk rv:Value},ERs Z ι h es rs→(keyKind k).isSome=true→VR ι h k rk→VR ι h v rv→ERs Z ι h (es++[(k,v)]) (rs++[⟨hashV Z k,rk,rv⟩]):=by
 intro l_
 induction l_ with
 |nil=>
  intro rs k v rk rv q hk h1 h2
  obtain rfl:=(show rs=[] from q);exact⟨_,[],rfl,⟨rfl,hk,h1,h2⟩,rfl⟩
 |cons e es ih_=>
  intro rs k v rk rv q hk h1 h2
  obtain ⟨r,rs',rfl,z,q⟩:=q.cons_inv
  exact⟨r,_,rfl,z,(ih_ q) hk h1 h2⟩
theorem ERs.erase:∀{es:List (V×V)} {rs:List DictEntry} {k:V} {i:Nat},ERs Z ι h es rs→es.findIdx? (fun e=>decide (e.1=k))=some i→ERs Z ι h (ddel es k) (rs.eraseIdx i):=by
 intro l_
 induction l_ with
 |nil=>
  intro _ _ _ _ hi
  exact Jc hi
 |cons e es ih_=>
  intro rs k i q hi
  obtain ⟨r,rs',rfl,z,q⟩:=q.cons_inv
  rw[List.findIdx?_cons] at hi
  unfold ddel
  rw[List.eraseP_cons]
  cases y:decide (e.1=k) with
  |true=>
   rw[y] at hi
   obtain rfl:=Option.some.inj hi
   exact q
  |false=>
   rw[y] at hi
   refine x12 (Option.map_eq_some_iff.mp hi) fun j hj q1_=>?_
   subst q1_
   exact⟨r,_,rfl,z,(ih_ q) hj⟩
theorem Jff (nd:(es.map (·.1)).Nodup) (k:V):((ddel es k).map (·.1)).Nodup:=nd.sublist ((List.eraseP_sublist).map _)
theorem Jl (h:n<cap):n≤sizeLine:=by rw[sizeLine_eq];unfold cap at h;exact leK (Nat.le_of_lt h)
theorem Jh0 (h:o=some a):o.isSome=true:=by rw[h];rfl
theorem keyed {Q:Int→Option Nat→Shared→Prop} (hu:A.units<cLine) (D:DictAt Z ι s.heap d es n) (kr:VR ι s.heap k rk) (ok:keysOk k es)
  (h:∀t ents,s.heap.get? d=some (dictO ents n)→ERs Z ι s.heap es ents.toList→ents.size=es.length→(dget es k=none→es.findIdx? (fun e=>decide (e.1=k))=none→Q (hashV Z k) none {s with toks:=t})∧
   (∀i v r,es.findIdx? (fun e=>decide (e.1=k))=some i→dget es k=some v→ents[i]?=some r→VR ι s.heap v r.val→Q (hashV Z k) (some i) {s with toks:=t})) :
  wpAny (model Z.prog Z.w) A (PySem.pyHash rk) (fun hh s₁=>wpAny (model Z.prog Z.w) A (dictFind d rk hh) (Q hh) E s₁) E s:=by
 obtain ⟨nd,ents,hd,R⟩:=D
 refine x12 (id ok) fun kk hk all=>?_
 refine Jbq hu kr hk fun t=>Zu (s:={s with toks:=t}) hu hd R nd kr ok ?_
 refine x02 (h t ents hd R (by rw[←Array.length_toList];exact R.length)) fun h0 h1=>?_
 have dg:=Jlj es k
 cases hi:es.findIdx? (fun e=>decide (e.1=k)) with
 |none=>rw[hi] at dg;exact h0 dg hi
 |some i=>
  rw[hi] at dg
  have hl:=(List.findIdx?_eq_some_iff_getElem.mp hi).1
  refine x12 (R.get i es[i] (List.getElem?_eq_getElem hl)) fun r hr hv=>?_
  exact h1 i es[i].2 r hi (dg.trans (by rw[Option.bind_some,List.getElem?_eq_getElem hl];rfl)) (by rw[←Array.getElem?_toList];exact hr) hv
theorem Wn {Q:Option Value→Shared→Prop} (hu:A.units<cLine) (D:DictAt Z ι s.heap d es n) (kr:VR ι s.heap k rk) (ok:keysOk k es)
  (h0:dget es k=none→∀t,Q none {s with toks:=t}) (h1:∀v r,dget es k=some v→VR ι s.heap v r→∀t,Q (some r) {s with toks:=t}):wpAny (model Z.prog Z.w) A (dictGet d rk) Q E s:=by
 unfold dictGet
 refine wpAny_holding (wpAny_bind (wpAny_mono (keyed hu D kr ok fun t ents hd R hz=>⟨fun e hi=>?_,fun i v r hi e hr hv=>?_⟩) (fun _ _ h=>wpAny_bind h) fun _ _ e=>e))
 ·exact wpAny_pure (h0 e t)
 ·refine wpAny_bind (wpAny_dictEntries (s:={s with toks:=t}) hd rfl (wpAny_pure ?_))
  rw[hr]
  exact h1 v r.val e hv t
theorem DictAt.pushed {es:List (V×V)} {ents:Array DictEntry} (nd:(es.map (·.1)).Nodup) (R:ERs Z ι h es ents.toList) (ok:keysOk k es) (kr:VR ι h k rk) (vr:VR ι h v rv) (U:Up ι h ι h')
  (hi:es.findIdx? (fun e=>decide (e.1=k))=none) (e:h'.get? d=some (dictO (ents.push ⟨hashV Z k,rk,rv⟩) (n+1))):DictAt Z ι h' d (es++[(k,v)]) (n+1):=by
 refine⟨Ja2 (v:=v) hi▸Jab nd k v,_,e,?_⟩
 rw[Array.toList_push]
 exact(R.push (Jh0 ok.choose_spec.1) kr vr).up U
theorem Xz {Q:Unit→Shared→Prop} (hu:A.units<cLine) (D:DictAt Z ι s.heap d es n) (kr:VR ι s.heap k rk) (vr:VR ι s.heap v rv) (ok:keysOk k es) (hz:es.length<cap)
  (up:∀h',Heap.SameBut d s.heap h'→Up ι s.heap ι h')
  (h:∀h' t,Heap.SameBut d s.heap h'→DictAt Z ι h' d (dput es k v) (dep es k n)→Q () {s with heap:=h',toks:=t}):wpAny (model Z.prog Z.w) A (dictSet d rk rv) Q E s:=by
 have nd:=D.1
 unfold dictSet dictSetHashed
 refine wpAny_holding (wpAny_bind (wpAny_mono (keyed hu D kr ok fun t ents hd R hl=>⟨fun e hi=>?_,fun i u r hi e hr hv=>?_⟩) (fun _ _ h=>wpAny_holding (wpAny_bind h)) fun _ _ e=>e))
 ·have hs:Heap.SameBut d s.heap (s.heap.update d (Obj.mapDictKeys (·.push ⟨hashV Z k,rk,rv⟩))):=Heap.SameBut.update ..
  have he:dep es k n=n+1:=by unfold dep;rw[e];rfl
  rw[he,Ja2 hi] at h
  exact wpAny_bind (wpAny_rule (wpAny_updateDictKeys (s:={s with toks:=t}) hd rfl (h _ t hs (.pushed nd R ok kr vr (up _ hs) hi (Heap.get?_update_self _ hd rfl))) (by rw[hl];exact Jl hz) (Nat.le_of_eq (Array.size_push ..))))
 ·have hs:Heap.SameBut d s.heap (s.heap.update d (Obj.mapDict (·.modify i fun e=>{e with val:=rv}))):=Heap.SameBut.update ..
  have he:dep es k n=n:=by unfold dep;rw[e];rfl
  rw[he] at h
  refine wpAny_bind (wpAny_rule (wpAny_bind (wpAny_updateDict (s:={s with toks:=t}) hd rfl (wpAny_point (h _ t hs ⟨Jab nd k v,ents.modify i fun e=>{e with val:=rv},Heap.get?_update_self _ hd rfl,?_⟩)) (by simp))))
  rw[Array.toList_modify]
  exact(R.modify hi vr).up (up _ hs)
theorem Yl {Q:Value→Shared→Prop} (hu:A.units<cLine) (D:DictAt Z ι s.heap d es n) (kr:VR ι s.heap k rk) (vr:VR ι s.heap v rv) (ok:keysOk k es) (hz:es.length<cap)
  (up:∀h',Heap.SameBut d s.heap h'→Up ι s.heap ι h')
  (h0:dget es k=none→∀h' t,Heap.SameBut d s.heap h'→DictAt Z ι h' d (es++[(k,v)]) (n+1)→Q rv {s with heap:=h',toks:=t})
  (h1:∀u r,dget es k=some u→VR ι s.heap u r→∀t,Q r {s with toks:=t}):wpAny (model Z.prog Z.w) A (dictSetDefault d rk rv) Q E s:=by
 have nd:=D.1
 unfold dictSetDefault
 refine wpAny_holding (wpAny_bind (wpAny_mono (keyed hu D kr ok fun t ents hd R hl=>⟨fun e hi=>?_,fun i u r hi e hr hv=>?_⟩) (fun _ _ h=>wpAny_bind h) fun _ _ e=>e))
 ·have hs:Heap.SameBut d s.heap (s.heap.update d (Obj.mapDictKeys (·.push ⟨hashV Z k,rk,rv⟩))):=Heap.SameBut.update ..
  exact wpAny_bind (wpAny_rule (wpAny_bind (wpAny_updateDictKeys (s:={s with toks:=t}) hd rfl (wpAny_pure (h0 e _ t hs (.pushed nd R ok kr vr (up _ hs) hi (Heap.get?_update_self _ hd rfl)))) (by rw[hl];exact Jl hz) (Nat.le_of_eq (Array.size_push ..)))))
 ·refine wpAny_bind (wpAny_dictEntries (s:={s with toks:=t}) hd rfl ?_)
  rw[hr]
  exact wpAny_bind (wpAny_rule (wpAny_pure (h1 u r.val e hv t)))
theorem Xo {Q:Option DictEntry→Shared→Prop} (hu:A.units<cLine) (D:DictAt Z ι s.heap d es n) (kr:VR ι s.heap k rk) (ok:keysOk k es) (hz:es.length<cap)
  (up:∀h',Heap.SameBut d s.heap h'→Up ι s.heap ι h') (hk':dget es k=some u)
  (h:∀e h' t,VR ι s.heap u e.val→Heap.SameBut d s.heap h'→DictAt Z ι h' d (ddel es k) (n+1)→Q (some e) {s with heap:=h',toks:=t}):wpAny (model Z.prog Z.w) A (Builtin.Dict.takeOut d rk) Q E s:=by
 have nd:=D.1
 unfold Builtin.Dict.takeOut
 refine wpAny_holding (wpAny_bind (wpAny_mono (keyed hu D kr ok fun t ents hd R hl=>⟨fun e hi=>Jh hk' e,fun i v r hi e hr hv=>?_⟩) (fun _ _ h=>wpAny_bind h) fun _ _ e=>e))
 obtain rfl:=Option.some.inj (hk'.symm.trans e)
 refine wpAny_bind (wpAny_dictEntries (s:={s with toks:=t}) hd rfl ?_)
 rw[hr]
 have hs:Heap.SameBut d s.heap (s.heap.update d (Obj.mapDictKeys (·.eraseIdxIfInBounds i))):=Heap.SameBut.update ..
 have hle:i<ents.size:=(Array.getElem?_eq_some_iff.mp hr).1
 refine wpAny_bind (wpAny_updateDictKeys (s:={s with toks:=t}) hd rfl (wpAny_pure (h r _ t hv hs ⟨Jff nd k,ents.eraseIdxIfInBounds i,Heap.get?_update_self _ hd rfl,?_⟩)) (by rw[hl];exact Jl hz) ?_)
 ·rw[Array.eraseIdxIfInBounds_eq,dif_pos hle,Array.toList_eraseIdx]
  exact(R.erase hi).up (up _ hs)
 ·rw[Array.eraseIdxIfInBounds_eq,dif_pos hle,Array.size_eraseIdx];exact Nat.le_succ_of_le (Nat.sub_le _ _)
end Mine
namespace Mine
variable {Z:Fix} {A:Around} {sc:Scope} {env:Env}
noncomputable abbrev Er:Value→Shared→Prop:=fun _ _=>False
theorem mono (h:wpAny M A t Q Er s) (hQ:∀a s,Q a s→Q' a s):wpAny M A t Q' E s:=
 wpAny_mono h hQ fun _ _ f=>f.elim
structure Frm (sc:Scope) (env:Env) (l:Loc) (c:Cfg Z):Prop where
 kind:env.scope.kind=.function
 glob:env.globals=mainGlobals
 blt:env.builtins=builtinsNs
 len:l.length=sc.names.length
 kLoc:∀x,sc.names.lookup x=some .local→env.kindOf x=some .local
 kCell:∀x,sc.names.lookup x=some .cell→env.kindOf x=some .cell
 kGlob:∀x,sc.names.lookup x=some .globalImplicit→env.kindOf x=some .globalImplicit
 lown:¬foot c.ι env.locals∧Z.h₀.get? env.locals=none
 ns:∃m,c.h.Ns env.locals m∧∀x v,sc.names.lookup x=some .local→lget sc l x=some v→∃r,m x=some r∧VR c.ι c.h v r
 cell:∀x,sc.names.lookup x=some .cell→∃a u,env.cells.lookup x=some a∧c.h.IsCell a u∧¬foot c.ι a∧Z.h₀.get? a=none∧a≠env.locals∧(∀v,lget sc l x=some v→∃r,u=some r∧VR c.ι c.h v r)
 free:∀x v,sc.names.lookup x=some .free→lget sc l x=some v→env.kindOf x=some .cell∧∃a r,env.cells.lookup x=some a∧c.h.IsCell a (some r)∧¬foot c.ι a∧a≠env.locals∧VR c.ι c.h v r
 apart:∀x y a,sc.names.lookup x=some .cell→sc.names.lookup y=some .cell→env.cells.lookup x=some a→env.cells.lookup y=some a→x=y
 sep:∀x y a v,sc.names.lookup x=some .cell→sc.names.lookup y=some .free→lget sc l y=some v→env.cells.lookup x=some a→env.cells.lookup y≠some a
 alive:∀x a,env.cells.lookup x=some a→∃o,c.h.get? a=some o
noncomputable def wOf (sc:Scope) (env:Env):Addr→Prop:=fun a=>a=env.locals∨∃x,sc.names.lookup x=some .cell∧env.cells.lookup x=some a
noncomputable def Off (env:Env) (W:Addr→Prop):Prop:=¬W env.locals∧∀x c,env.cells.lookup x=some c→¬W c
theorem ns_keep {h h':Heap} {a:Addr} {m:Str→Option Value} (hn:h.Ns a m) (k:∀o,h.get? a=some o→h'.get? a=some o):h'.Ns a m:=
 x32 hn fun o es ep e r=>⟨o,es,ep,k _ e,r⟩
theorem Jci {h h':Heap} {a:Addr} {v:Option Value} (hn:h.IsCell a v) (k:∀o,h.get? a=some o→h'.get? a=some o):h'.IsCell a v:=
 x12 hn fun o e r=>⟨o,k _ e,r⟩
theorem Frm.evo {l:Loc} {c c':Cfg Z} {W:Addr→Prop} (F:Frm sc env l c) (E:Evo W c c') (ho:Off env W):Frm sc env l c' where
 kind:=F.kind
 glob:=F.glob
 blt:=F.blt
 len:=F.len
 kLoc:=F.kLoc
 kCell:=F.kCell
 kGlob:=F.kGlob
 lown:=⟨x12 F.ns fun _ p00_ _=>x32 p00_ fun _ _ _ e _=>E.notFoot e F.lown.1 ho.1,F.lown.2⟩
 ns:=x12 F.ns fun m hn hm=>⟨m,ns_keep hn fun o e=>E.keep _ o e F.lown.1 ho.1,fun x v hx hv=>x12 (hm x v hx hv) fun r a b=>⟨r,a,b.up E.up⟩⟩
 cell x hx:=let ⟨c,u,a,b,d,e,f,g⟩:=F.cell x hx;⟨c,u,a,Jci b fun o q=>E.keep _ o q d (ho.2 x c a),let ⟨_,e,_⟩:=b;E.notFoot e d (ho.2 x c a),e,f,fun v hv=>let ⟨r,p,q⟩:=g v hv;⟨r,p,q.up E.up⟩⟩
 free x v hx hv:=let ⟨k,c,r,a,b,d,e,f⟩:=F.free x v hx hv;⟨k,c,r,a,Jci b fun o q=>E.keep _ o q d (ho.2 x c a),let ⟨_,e,_⟩:=b;E.notFoot e d (ho.2 x c a),e,f.up E.up⟩
 apart:=F.apart
 sep:=F.sep
 alive x c h:=x11 (F.alive x c h) fun o e=>E.alive c o e (ho.2 x c h)
theorem Frm.up (F:Frm sc env l c) (E:Le c c'):Frm sc env l c':=F.evo E ⟨id,fun _ _ _=>id⟩
theorem Off.of (F:Frm sc env l c) (hW:∀b,W b→c.h.get? b=none):Off env W:=
 ⟨fun q=>x12 F.ns fun _ p00_ _=>x32 p00_ fun _ _ _ e _=>Jh e (hW _ q),fun x a hc q=>x11 (F.alive x a hc) fun _ e=>Jh e (hW _ q)⟩
theorem Off.wOf (h:Off env W):∀b,W b→¬wOf sc env b:=fun b hb q=>q.elim (fun q=>h.1 (q▸hb)) fun w0_=>x12 w0_ fun x _ hx=>h.2 x b hx hb
noncomputable def Kon (c:Cfg Z) (Q:KV) (K:Value→Shared→Prop):Prop:=∀c':Cfg Z,∀v r,Le c c'→VR c'.ι c'.h v r→Q v c'.st→K r c'.s
noncomputable def KonB (c:Cfg Z) (Q:Bool→St→Prop) (K:Bool→Shared→Prop):Prop:=∀c':Cfg Z,∀b,Le c c'→Q b c'.st→K b c'.s
noncomputable def KonL (c:Cfg Z) (Q:List V→St→Prop) (K:List Value→Shared→Prop):Prop:=∀c':Cfg Z,∀vs rs,Le c c'→VRs c'.ι c'.h vs rs→Q vs c'.st→K rs c'.s
noncomputable def Out (A:Around) (c:Cfg Z) (t:Sem Value) (Y:KV→Prop):Prop:=∀Q K,Y Q→Kon c Q K→wpAny (model Z.prog Z.w) A t K Er c.s
noncomputable def OutB (A:Around) (c:Cfg Z) (t:Sem Bool) (Y:(Bool→St→Prop)→Prop):Prop:=∀Q K,Y Q→KonB c Q K→wpAny (model Z.prog Z.w) A t K Er c.s
noncomputable def Sim (Z:Fix) (A:Around) (sc:Scope) (env:Env) (t:Sem Value) (x:X):Prop:=∀(c:Cfg Z) l,Frm sc env l c→Out A c t (x l c.st)
noncomputable def SimB (Z:Fix) (A:Around) (sc:Scope) (env:Env) (t:Sem Bool) (x:XB):Prop:=∀(c:Cfg Z) l,Frm sc env l c→OutB A c t (x l c.st)
theorem Kon.le {K:Value→Shared→Prop} (k:Kon c Q K) (L:Le c c'):Kon c' Q K:=fun d v r M=>k d v r (L.trans M)
theorem KonB.le {Q:Bool→St→Prop} {K:Bool→Shared→Prop} (k:KonB c Q K) (L:Le c c'):KonB c' Q K:=fun d b M=>k d b (L.trans M)
theorem Kon.now {K:Value→Shared→Prop} (k:Kon c Q K) (R:VR c.ι c.h v r) (q:Q v c.st):K r c.s:=k c v r .refl R q
theorem Kon.tok {K:Value→Shared→Prop} (k:Kon c Q K) (R:VR c.ι c.h v r) (q:Q v c.st) (t:Nat):K r {c.s with toks:=t}:=k (c.toks t) v r Cfg.toks_le R q
theorem Kon.int {K:Value→Shared→Prop} (k:Kon c Q K) (q:Q (.int i) c.st) (t:Nat):K (.int i u) {c.s with toks:=t}:=k.tok (v:=.int i) ⟨_,rfl⟩ q t
theorem Kon.grown {K:Value→Shared→Prop} (k:Kon c Q K) (g:∀b o,c.h.get? b=some o→h'.get? b=some o) (t:Nat) (R:VR c.ι h' v r) (q:Q v c.st):K r {c.s with heap:=h',toks:=t}:=
 k (c.grow h' t g) v r Cfg.grow_le R q
theorem Kon.new {c:Cfg Z} {Q:KV} {K:Value→Shared→Prop} (k:Kon c Q K) {o':O} {h':Heap} {a:Addr} (t:Nat) (g:∀b o,c.h.get? b=some o→h'.get? b=some o) (ha:c.h.get? a=none)
  (ho:Up c.ι c.h (c.ι++[(a,a)]) h'→ObjR Z (c.ι++[(a,a)]) h' (a,a) o') (q:alloc o' c.st Q):K (.ref a) {c.s with heap:=h',toks:=t}:=
 k (c.alloc o' h' t (a,a) g (fun b hb=>by rw[hb.elim id id];exact c.off ha) ho) _ _ (Cfg.alloc_le fun b hb=>.inr (by rw[hb.elim id id];exact ha)) (c.ref_new (a,a)) q
theorem Kon.push {c:Cfg Z} {Q:KV} {K:Value→Shared→Prop} (k:Kon c Q K) {vs:List V} {its:Array Value} {n:Nat} (R:VRs c.ι c.h vs its.toList) (q:alloc (.list vs) c.st Q) (t:Nat):K (.ref c.h.objs.size) {c.s with heap:=c.h.push (listO its n),toks:=t}:=
 k.new (o':=.list vs) t keepPush (Jp _) (fun U=>⟨rfl,its,n,Heap.get?_push_size _ rfl,R.up U⟩) q
theorem Kon.pushT {K:Value→Shared→Prop} (k:Kon c Q K) (R:VRs c.ι c.h vs its.toList) (q:Q (.tup vs) c.st) (t:Nat):K (.ref c.h.objs.size) {c.s with heap:=c.h.push (tupO its n),toks:=t}:=
 k.grown (v:=.tup vs) keepPush t ⟨_,its,n,rfl,Heap.get?_push_size _ rfl,R.up (Up.keeps keepPush)⟩ q
theorem Kon.put {c:Cfg Z} {Q:KV} {K:Value→Shared→Prop} (k:Kon c Q K) {v:V} {r:Value} {h':Heap} {a:Addr} {i:Nat} {o':O} (hi:c.ι[i+1]?=some (a,a)) (hs:Heap.SameBut a c.h h') (ho:Up c.ι c.h c.ι h'→ObjR Z c.ι h' (a,a) o') (t:Nat) (R:VR c.ι c.h v r) (q:Q v (c.st.set (i+1) o')) :
  K r {c.s with heap:=h',toks:=t}:=
 have E:Le c (c.put (i+1) o' h' t (Nat.succ_ne_zero i) hi (.inl rfl) hs ho):=Cfg.put_le
 k _ v r E (R.up E.up) q
noncomputable def bval (b:BF):Value:=match b with
 |.len=>.builtin "len"
 |.int=>.type "int"
 |.min=>.builtin "min"
 |.max=>.builtin "max"
 |.sum=>.builtin "sum"
 |.tuple=>.type "tuple"
 |.list=>.type "list"
 |.sorted=>.builtin "sorted"
structure ClsOk (K:Frag) (Ca:Addr):Prop where
 cd:∃cd,clsIn K Ca=some cd∧cd.hasDict=true
 ga:findIn K (.ref Ca) "__getattribute__"=some (some (.builtin "object.__getattribute__"))
 gattr:findIn K (.ref Ca) "__getattr__"=some none
 sa:findIn K (.ref Ca) "__setattr__"=some (some (.builtin "object.__setattr__"))
 over:plainOver K Ca=true
structure Base (Z:Fix) (nm:Str→Option Value):Prop where
 lim:Z.h₀.NoLimit
 K:Z.K.In Z.h₀
 sysm:∃o,Z.h₀.get? sysModules=some o
 name:∀x v,nm x=some v→∀(s:Shared) (env:Env) (A:Around) (Q:Value→Shared→Prop) (E:Value→Shared→Prop),(∀a o,Z.h₀.get? a=some o→s.heap.get? a=some o)→env.globals=mainGlobals→env.builtins=builtinsNs→
  env.scope.kind=.function→env.kindOf x=some .globalImplicit→Q v s→wpAny (model Z.prog Z.w) A (loadName env x) Q E s
 gconst:∀x v,Z.tab.gconst x=some v→∃r,nm x=some r∧∀ι h,VR ι h v r
 gfn:∀x q,Z.tab.gfn x=some q→∃a,Z.fad q=some a∧nm x=some (.ref a)
 gcls:∀x q,Z.tab.gcls x=some q→∃a,Z.cad q=some a∧nm x=some (.ref a)
 gbf:∀x b,Z.tab.gfn x=none→Z.tab.gcls x=none→bfOf x=some b→nm x=some (bval b)
 cls:∀C Ca,Z.cad C=some Ca→ClsOk Z.K Ca
 fld:∀C a Ca,Z.tab.fld C a=true→Z.cad C=some Ca→findIn Z.K (.ref Ca) a=some none
theorem Cfg.K (c:Cfg Z) (B:Base Z nm):Z.K.In c.h:=fun b o q=>c.base b o (B.K b o q)
theorem J9 (h:optP o Q):∃a,o=some a∧Q a:=by
 cases o with
 |none=>exact h.elim
 |some a=>exact⟨a,rfl,h⟩
theorem W8 (h:boolP v Q):∃b,v=.bool b∧Q b:=by
 cases v with
 |bool b=>exact⟨b,rfl,h⟩
 |_=>exact h.elim
theorem Qi (h:intP v Q):∃b,v=.int b∧Q b:=by
 cases v with
 |int b=>exact⟨b,rfl,h⟩
 |_=>exact h.elim
theorem Jha:Sim Z A sc env (eval (.Constant k n pos) env) (cConst k):=fun c l F Q K e k'=>by
 cases k with
 |none=>exact wpAny_Constant_none (k'.now (v:=.none) rfl e)
 |bool b=>exact wpAny_Constant_bool (k'.now (v:=.bool b) rfl e)
 |int i=>exact wpAny_Constant_int (k'.int e _)
 |str x=>exact wpAny_Constant_str (k'.tok (v:=.str x) ⟨_,rfl⟩ e _)
 |_=>exact e.elim
theorem Je5 {k:Option NameKind} {p q:Prop} (h:match k with|some .globalImplicit=>p|some .local=>q|some .cell=>q|some .free=>q|_=>False):(k=some .globalImplicit∧p)∨(k=some .local∧q)∨(k=some .cell∧q)∨(k=some .free∧q):=by
 rcases k with _|k
 ·exact False.elim h
 ·cases k<;>first|exact False.elim h|exact .inl ⟨rfl,h⟩|exact .inr (.inl ⟨rfl,h⟩)|exact .inr (.inr (.inl ⟨rfl,h⟩))|exact .inr (.inr (.inr ⟨rfl,h⟩))
theorem Jkf {nm:Str→Option Value} (B:Base Z nm) {C:Cx} (hc:C.tab=Z.tab) (hs:C.sc=sc) {pos:Pos}:Sim Z A sc env (eval (.Name x pos) env) (cName C x):=fun c l F Q K e k=>by
 unfold cName at e
 cases hd:x==Str.ofString "__debug__" with
 |true=>rw[hd] at e;exact e.elim
 |false=>
  rw[hd,hs,hc] at e
  refine wpAny_Name ?_ hd
  rcases Je5 e with ⟨hk,e⟩|⟨hk,e⟩|⟨hk,e⟩|⟨hk,e⟩
  ·refine x12 (J9 e) fun v hv e=>?_
   refine x12 (B.gconst x v hv) fun r hr hR=>?_
   exact B.name x r hr c.s env A _ _ c.base F.glob F.blt F.kind (F.kGlob x hk) (k.now (hR _ _) e)
  ·refine x12 (J9 e) fun v hv e=>?_
   refine x12 F.ns fun m hn hm=>?_
   refine x12 (hm x v hk hv) fun r hr hR=>?_
   exact wpAny_loadName_local F.kind (F.kLoc x hk) hn hr (k.now hR e)
  ·refine x12 (J9 e) fun v hv e=>?_
   refine x26 (F.cell x hk) fun a u ha hu _ _ _ hg=>?_
   refine x12 (hg v hv) fun r q1_ hR=>?_
   subst q1_
   exact wpAny_loadName_cell F.kind (F.kCell x hk) ha hu (k.now hR e)
  ·refine x12 (J9 e) fun v hv e=>?_
   obtain ⟨kk,a,r,ha,hu,-,-,hR⟩:=F.free x v hk hv
   exact wpAny_loadName_cell F.kind kk ha hu (k.now hR e)
theorem Qr (h:goodE e=true):starEach (e::rest) env=(false,eval e env)::starEach rest env:=by
 cases e<;>first|rfl|exact Bool.noConfusion h
theorem Qj (h:(e::es).all goodE=true):goodE e=true∧es.all goodE=true:=Bool.and_eq_true_iff.mp h
noncomputable abbrev SimF (Z:Fix) (A:Around) (sc:Scope) (env:Env) (f:Expr→X):Prop:=∀e,Sim Z A sc env (eval e env) (f e)
theorem VRs.length:∀{vs:List V} {ι:Io} {h:Heap} {rs:List Value},VRs ι h vs rs→vs.length=rs.length:=by
 intro l_
 induction l_ with
 |nil=>
  intro _ _ _ q
  obtain rfl:=q.nil_of;rfl
 |cons x_ xs_ ih_=>
  intro _ _ _ q
  obtain ⟨r,rs',rfl,-,q⟩:=q.cons_of;exact congrArg Nat.succ (ih_ q)
theorem Jc6 (H:SimF Z A sc env f):∀{es:List Expr} {c:Cfg Z} {Q:List V→St→Prop} {K:List Value→Shared→Prop},es.all goodE=true→Frm sc env l c→cAll (es.map f) l c.st Q→
  (∀c':Cfg Z,∀vs rs,Le c c'→VRs c'.ι c'.h vs rs→vs.length=es.length→Q vs c'.st→K rs c'.s)→wpAny (model Z.prog Z.w) A (spliced (backTo pos (starEach es env))) K Er c.s:=by
 intro l_
 induction l_ with
 |nil=>
  intro c Q K _ F e k
  exact Calls.spliced_nil (k c [] [] .refl rfl rfl e)
 |cons a es ih_=>
  intro c Q K hb F e k
  rw[Qr (Qj hb).1]
  refine Calls.spliced_cons (show wpAny _ _ (if false=true then _ else eval a env) _ _ _ from ?_)
  rw[if_neg Bool.false_ne_true]
  exact H a c l F _ _ e fun c₁ v r L₁ R₁ e₁=>ih_ (Qj hb).2 (F.up L₁) e₁ fun c₂ vs rs L₂ R₂ hl e₂=>k c₂ (v::vs) (r::rs) (L₁.trans L₂) ⟨r,rs,rfl,R₁.up L₂.up,R₂⟩ (congrArg Nat.succ hl) e₂
end Mine
namespace Mine
variable {Z:Fix} {A:Around} {sc:Scope} {env:Env} {ι:Io} {h:Heap}
theorem VRs.append (q:VRs ι h y b):∀{x:List V} {a:List Value},VRs ι h x a→VRs ι h (x++y) (a++b)
 |[],a,p=>by obtain rfl:=p.nil_of;exact q
 |v::x,a,p=>by obtain ⟨r,rs,rfl,k,p⟩:=p.cons_of;exact⟨r,_,rfl,k,q.append p⟩
theorem VRs.get:∀{x:List V} {a:List Value},VRs ι h x a→∀(i:Nat) (v:V),x[i]?=some v→∃r,a[i]?=some r∧VR ι h v r:=by
 intro l_
 induction l_ with
 |nil=>
  intro _ _ i v e
  exact Jc e
 |cons w x ih_=>
  intro a p i v e
  obtain ⟨r,rs,rfl,k,p⟩:=p.cons_of
  cases i with
  |zero=>obtain rfl:=Option.some.inj e;exact⟨r,rfl,k⟩
  |succ i=>exact(ih_ p) i v e
theorem Ju {its:Array Value} (k:VRs ι h xs its.toList):its.size=xs.length:=by rw[k.length,Array.length_toList]
theorem Cfg.list (c:Cfg Z) (R:VR c.ι c.h (.ref x) r) (h:c.st.get x=some (.list xs)) :
  ∃a its n,c.ι[x]?=some (a,a)∧r=.ref a∧c.h.get? a=some (listO its n)∧VRs c.ι c.h xs its.toList:=by
 refine x12 R fun q1_ hp q2_=>?_
 obtain ⟨a,b⟩:=q1_
 subst q2_
 obtain ⟨e,its,n,g,k⟩:=c.objs x _ _ hp h
 cases e
 exact⟨_,its,n,hp,rfl,g,k⟩
theorem Cfg.dict (c:Cfg Z) (R:VR c.ι c.h (.ref x) r) (h:c.st.get x=some (.dict es n)) :
  ∃a,c.ι[x]?=some (a,a)∧r=.ref a∧DictAt Z c.ι c.h a es n:=by
 refine x12 R fun q1_ hp q2_=>?_
 obtain ⟨a,b⟩:=q1_
 subst q2_
 refine x02 (c.objs x _ _ hp h) fun e k=>?_
 cases e
 exact⟨_,hp,rfl,k⟩
theorem J4 {st:St} {x:Nat} {o:O} (h:st.getM x=some o):∃y,x=y+1∧st.get (y+1)=some o:=by
 cases x with
 |zero=>exact Jc h
 |succ y=>exact⟨y,rfl,h⟩
theorem Yx {op:Operator} {c:Cfg Z} {u v:Value} {p q:V} {K:Value→Shared→Prop} (Ru:VR c.ι c.h p u) (Rv:VR c.ι c.h q v) {F:Int→Int→Prop} (e:intP p fun i=>intP q fun j=>F i j) (f:∀i j a b,F i j→wpAny (model Z.prog Z.w) A (binaryOp op (.int i a) (.int j b)) K Er c.s):wpAny (model Z.prog Z.w) A (binaryOp op u v) K Er c.s:=by
 refine x12 (Qi e) fun i hp e1=>?_
 refine x12 (Qi e1) fun j hq e2=>?_
 subst hp hq
 refine x11 Ru fun a q1_=>?_
 subst q1_
 refine x11 Rv fun b q1_=>?_
 subst q1_
 exact f i j a b e2
theorem add_ok' (Ru:VR c.ι c.h p u) (Rv:VR c.ι c.h q v):Out A c (binaryOp .Add u v) (binV .Add p q c.st):=fun Q K e k=>by
 cases p with
 |int i=>
  refine x12 (Qi e) fun j q1_ e=>?_
  subst q1_
  refine x11 Ru fun a q1_=>?_
  subst q1_
  refine x11 Rv fun b q1_=>?_
  subst q1_
  exact wpAny_add_int (k.int e.2 _)
 |tup x=>
  cases q with
  |tup y=>
   refine x02 e fun hc e=>?_
   refine x33 Ru fun a its n q1_ ha ka=>?_
   subst q1_
   refine x33 Rv fun b its' n' q1_ hb kb=>?_
   subst q1_
   have e1:=Ju ka
   have e2:=Ju kb
   by_cases hx:its.isEmpty=true
   ·obtain rfl:=List.eq_nil_of_length_eq_zero (e1.symm.trans (Array.isEmpty_iff_size_eq_zero.mp hx))
    exact concat_meets ⟨_,ha,rfl⟩ ⟨_,hb,rfl⟩ noFill_tuple_add seq_tuple_add PySem.F.slot_tuple_add PySem.F.entry_tuple_add (PySem.F.args_tuple_add_2 _ _)
     (tuple_addW0 a b its its' n n' none none #[] #[] hx) ⟨ha,hb,k.now (v:=.tup y) ⟨b,its',n',rfl,hb,kb⟩ e⟩
   ·by_cases hy:its'.isEmpty=true
    ·obtain rfl:=List.eq_nil_of_length_eq_zero (e2.symm.trans (Array.isEmpty_iff_size_eq_zero.mp hy))
     exact concat_meets ⟨_,ha,rfl⟩ ⟨_,hb,rfl⟩ noFill_tuple_add seq_tuple_add PySem.F.slot_tuple_add PySem.F.entry_tuple_add (PySem.F.args_tuple_add_2 _ _)
      (tuple_addW1 a b its its' n n' none none #[] #[] hx hy) ⟨ha,hb,k.now (v:=.tup x) ⟨a,its,n,rfl,ha,ka⟩ (List.append_nil x▸e)⟩
    ·exact P.add_tuple ha hb hx hy (k.pushT (its:=its++its') (n:=0) (by rw[Array.toList_append];exact kb.append ka) e _) (by rw[e1,e2];exact Jl hc)
  |_=>exact e.elim
 |ref x=>
  cases q with
  |ref y=>
   refine x24 e fun xs ys hx hy hc e=>?_
   refine x34 (c.list Ru hx) fun a its n _ q1_ ha ka=>?_
   subst q1_
   refine x34 (c.list Rv hy) fun b its' n' _ q1_ hb kb=>?_
   subst q1_
   exact P.add_list ha hb (k.push (its:=its++its') (n:=0) (by rw[Array.toList_append];exact kb.append ka) e _) (by rw[Ju ka,Ju kb];exact Jl hc)
  |_=>exact e.elim
 |_=>exact e.elim
theorem bin_ok (op:Operator) (Ru:VR c.ι c.h p u) (Rv:VR c.ι c.h q v):Out A c (binaryOp op u v) (binV op p q c.st):=by
 cases op with
 |Sub=>exact fun Q K e k=>Yx Ru Rv e fun i j a b e=>PyProof.Rows.sub_int (k.int e _)
 |Mult=>exact fun Q K e k=>Yx Ru Rv e fun i j a b e=>PyProof.Rows.mul_int (k.int e.2 _) (IntMulOk.of_left (intBits_le_64 (by have:=e.1.1;unfold small at this;omega) (by have:=e.1.1;unfold small at this;omega)))
 |FloorDiv=>exact fun Q K e k=>Yx Ru Rv e fun i j a b e=>PyProof.Rows.floordiv_int (by have:=e.1;exact Int.ne_of_gt e.1.1) (k.int e.2 _) (.inl (PyProof.noPylong_small (by have:=e.1;omega)))
 |Mod=>exact fun Q K e k=>Yx Ru Rv e fun i j a b e=>PyProof.Rows.mod_int' (by have:=e.1;omega) (k.int e.2 _)
 |Add=>exact add_ok' Ru Rv
 |_=>exact fun _ _ e _=>e.elim
theorem un_ok (op:UnaryOp) (Ru:VR c.ι c.h p u):Out A c (unaryOp op u) (unV op p c.st):=fun Q K e k=>by
 cases op with
 |Not=>
  refine x12 (W8 e) fun b q1_ e=>?_
  subst q1_
  obtain rfl:=(show u=.bool b from Ru)
  exact not_of (wpAny_truthy_bool (k.now (v:=.bool !b) rfl e))
 |USub=>
  refine x12 (Qi e) fun i q1_ e=>?_
  subst q1_
  refine x11 Ru fun t q1_=>?_
  subst q1_
  exact PyProof.Rows.neg_int (k.int e _)
 |_=>exact e.elim
mutual
noncomputable def V.py:V→PyData
 |.int i=>.int i
 |.str x=>.str x
 |.tup vs=>.tuple (V.pys vs)
 |.bool b=>.bool b
 |_=>.none
noncomputable def V.pys:List V→List PyData
 |[]=>[]
 |a::as=>a.py::V.pys as
end
theorem Jr (h:V.plains (v::vs)=true):v.plain=true∧V.plains vs=true:=Bool.and_eq_true_iff.mp h
mutual
theorem VR.reads:∀{v:V} {r:Value},VR ι h v r→v.plain=true→∃as,Reads h r v.py as
 |.int i,r,q,_=>by obtain ⟨t,rfl⟩:=q;exact⟨_,.int i t⟩
 |.str i,r,q,_=>by obtain ⟨t,rfl⟩:=q;exact⟨_,.str i t⟩
 |.tup vs,r,q,p=>by
  refine x33 q fun a its n q1_ g k=>?_
  subst q1_
  refine x11 (VRs.reads k p) fun as z=>?_
  exact⟨as,.tuple g rfl rfl z⟩
 |.none,_,_,p=>by exact Bool.noConfusion p
 |.bool _,_,_,p=>by exact Bool.noConfusion p
 |.ref _,_,_,p=>by exact Bool.noConfusion p
theorem VRs.reads:∀{vs:List V} {rs:List Value},VRs ι h vs rs→V.plains vs=true→∃as,ReadsAll h rs (V.pys vs) as
 |[],rs,q,_=>by obtain rfl:=q.nil_of;exact⟨_,.nil⟩
 |v::vs,rs,q,p=>by
  obtain ⟨r,rs',rfl,k,q⟩:=q.cons_of
  refine x11 (VR.reads k (Jr p).1) fun as z=>?_
  refine x11 (VRs.reads q (Jr p).2) fun bs y=>?_
  exact⟨_,.cons z y⟩
end
mutual
theorem V.py_lay:∀{v:V},v.plain=true→v.py.canLay0=true
 |.int _,_=>rfl
 |.str _,p=>p
 |.tup vs,p=>by unfold V.py PyData.canLay0;exact V.pys_lay p
 |.none,p=>by exact Bool.noConfusion p
 |.bool _,p=>by exact Bool.noConfusion p
 |.ref _,p=>by exact Bool.noConfusion p
theorem V.pys_lay:∀{vs:List V},V.plains vs=true→PyData.canLayAll0 (V.pys vs)=true
 |[],_=>rfl
 |v::vs,p=>by unfold V.pys PyData.canLayAll0;exact Bool.and_eq_true_iff.mpr ⟨V.py_lay (Jr p).1,V.pys_lay (Jr p).2⟩
end
mutual
theorem V.py_depth:∀(v:V),v.py.depth=v.depth
 |.int _=>by unfold V.py PyData.depth;rfl
 |.str _=>by unfold V.py PyData.depth;rfl
 |.tup vs=>by unfold V.py PyData.depth;rw[V.pys_depth vs];rfl
 |.none=>by unfold V.py PyData.depth;rfl
 |.bool _=>by unfold V.py PyData.depth;rfl
 |.ref _=>by unfold V.py PyData.depth;rfl
theorem V.pys_depth:∀(vs:List V),PyData.depthAll (V.pys vs)=V.depths vs
 |[]=>rfl
 |v::vs=>by unfold V.pys PyData.depthAll;rw[V.py_depth v,V.pys_depth vs];rfl
end
theorem We [Decidable p] [Decidable q] (h:p↔q):decide p=decide q:=decide_eq_decide.mpr h
mutual
theorem V.py_eqv:∀{v w:V},v.plain=true→w.plain=true→PyData.eqv v.py w.py=decide (v=w)
 |.int i,w,_,q=>by
  cases w<;>first|exact Bool.noConfusion q|skip
  ·unfold V.py PyData.eqv;exact We ⟨fun e=>e▸rfl,fun e=>by cases e;rfl⟩
  ·unfold V.py PyData.eqv;exact(decide_eq_false fun e=>nomatch e).symm
  ·unfold V.py PyData.eqv;exact(decide_eq_false fun e=>nomatch e).symm
 |.str i,w,_,q=>by
  cases w<;>first|exact Bool.noConfusion q|skip
  ·unfold V.py PyData.eqv;exact(decide_eq_false fun e=>nomatch e).symm
  ·unfold V.py PyData.eqv;exact We ⟨fun e=>e▸rfl,fun e=>by cases e;rfl⟩
  ·unfold V.py PyData.eqv;exact(decide_eq_false fun e=>nomatch e).symm
 |.tup vs,w,p,q=>by
  cases w<;>first|exact Bool.noConfusion q|skip
  ·unfold V.py PyData.eqv;exact(decide_eq_false fun e=>nomatch e).symm
  ·unfold V.py PyData.eqv;exact(decide_eq_false fun e=>nomatch e).symm
  ·unfold V.py PyData.eqv;rw[V.pys_eqv p q];exact We ⟨fun e=>e▸rfl,fun e=>by cases e;rfl⟩
 |.none,_,p,_=>by exact Bool.noConfusion p
 |.bool _,_,p,_=>by exact Bool.noConfusion p
 |.ref _,_,p,_=>by exact Bool.noConfusion p
theorem V.pys_eqv:∀{vs ws:List V},V.plains vs=true→V.plains ws=true→PyData.eqvAll (V.pys vs) (V.pys ws)=decide (vs=ws)
 |[],[],_,_=>rfl
 |[],_::_,_,_=>rfl
 |_::_,[],_,_=>rfl
 |v::vs,w::ws,p,q=>by
  unfold V.pys PyData.eqvAll
  rw[V.py_eqv (Jr p).1 (Jr q).1,V.pys_eqv (Jr p).2 (Jr q).2,←Bool.decide_and]
  exact We ⟨fun e=>by rw[e.1,e.2],fun e=>by cases e;exact⟨rfl,rfl⟩⟩
end
theorem Qq {v:V} (h:v.data=true):v.plain=true∧v.depth≤60:=x02 (Bool.and_eq_true_iff.mp h) fun a b=>⟨a,of_decide_eq_true b⟩
theorem Qe (h:V.datas v=true):V.plains v=true∧V.depths v≤60:=x02 (Bool.and_eq_true_iff.mp h) fun a b=>⟨a,of_decide_eq_true b⟩
theorem Xp (h:d.canLay0=true) (hd:d.depth≤61):shaped d=true:=Bool.and_eq_true_iff.mpr ⟨h,decide_eq_true (leK hd)⟩
noncomputable def eqOp (ne:Bool):CmpOp:=match ne with
 |true=>.NotEq
 |false=>.Eq
noncomputable def inOp (no:Bool):CmpOp:=match no with
 |true=>.NotIn
 |false=>.In
theorem Jeg (hu:A.units+80<cLine) (ne:Bool) {K:Value→Shared→Prop} (ra:Reads s.heap u da as) (rb:Reads s.heap v db bs) (ha:da.canLay0=true∧da.depth≤61) (hb:db.canLay0=true∧db.depth≤61)
  (k:K (.bool (PyData.eqv da db != ne)) s):wpAny (model Z.prog Z.w) A (compareOp (eqOp ne) u v) K Er s:=by
 cases ne with
 |true=>exact compareNe_shaped ra rb (Xp ha.1 ha.2) (Xp hb.1 hb.2) (sK hu) (by rw[Bool.bne_true] at k;exact k)
 |false=>exact compareEq_shaped ra rb (Xp ha.1 ha.2) (Xp hb.1 hb.2) (sK hu) (by rw[Bool.bne_false] at k;exact k)
theorem V.py_ok {v:V} (h:v.data=true):v.py.canLay0=true∧v.py.depth≤61:=⟨V.py_lay (Qq h).1,by rw[V.py_depth];have:=(Qq h).2;exact leK this⟩
theorem V.pys_ok (h:V.datas vs=true):(PyData.list (V.pys vs)).canLay0=true∧(PyData.list (V.pys vs)).depth≤61:=
 ⟨by unfold PyData.canLay0;exact V.pys_lay (Qe h).1,by unfold PyData.depth;rw[V.pys_depth];have:=(Qe h).2;exact ltK this⟩
noncomputable abbrev KonC (c:Cfg Z) (Q:Bool→Prop) (K:Value→Shared→Prop):Prop:=∀b t,Q b→K (.bool b) {c.s with toks:=t}
noncomputable def OutC (A:Around) (c:Cfg Z) (t:Sem Value) (Y:(Bool→Prop)→Prop):Prop:=∀Q K,Y Q→KonC c Q K→wpAny (model Z.prog Z.w) A t K Er c.s
theorem eq_ok (hu:A.units+80<cLine) (ne:Bool) {c:Cfg Z} {u v:Value} {p q:V} (Ru:VR c.ι c.h p u) (Rv:VR c.ι c.h q v) :
  OutC A c (compareOp (eqOp ne) u v) (fun Q=>eqV p q c.st fun r=>Q (r != ne)):=fun Q K e k=>by
 have data:(p.data=true∧q.data=true)∧Q (decide (p=q) != ne)→wpAny (model Z.prog Z.w) A (compareOp (eqOp ne) u v) K Er c.s:=fun w0_=>x02 w0_ fun p00_ e=>x02 p00_ fun hp hq=>by
  refine x11 (Ru.reads (Qq hp).1) fun as ra=>?_
  refine x11 (Rv.reads (Qq hq).1) fun bs rb=>?_
  exact Jeg hu ne ra rb (V.py_ok hp) (V.py_ok hq) (k _ c.s.toks (by rw[V.py_eqv (Qq hp).1 (Qq hq).1];exact e))
 cases p with
 |ref x=>
  cases q with
  |ref y=>
   refine x24 e fun xs ys hx hy q1_ e=>?_
   refine x02 q1_ fun p1 q1=>?_
   refine x34 (c.list Ru hx) fun a its n _ q1_ ha ka=>?_
   subst q1_
   refine x34 (c.list Rv hy) fun b its' n' _ q1_ hb kb=>?_
   subst q1_
   refine x11 (ka.reads (Qe p1).1) fun as ra=>?_
   refine x11 (kb.reads (Qe q1).1) fun bs rb=>?_
   refine Jeg hu ne (.list ha rfl rfl ra) (.list hb rfl rfl rb) (V.pys_ok p1) (V.pys_ok q1) (k _ c.s.toks ?_)
   unfold PyData.eqv
   rw[V.pys_eqv (Qe p1).1 (Qe q1).1]
   exact e
  |_=>exact e.elim
 |bool x=>
  refine x12 (W8 e) fun y q1_ e=>?_
  subst q1_
  obtain rfl:=(show u=.bool x from Ru)
  obtain rfl:=(show v=.bool y from Rv)
  cases ne with
  |true=>exact PyProof.Rows.ne_bool (k _ c.s.toks (by cases x<;>cases y<;>exact e))
  |false=>exact PyProof.Rows.eq_bool (k _ c.s.toks (by cases x<;>cases y<;>exact e))
 |_=>exact data e
theorem Cfg.notSys (c:Cfg Z) {nm:Str→Option Value} (B:Base Z nm) {x:Nat} {a:Addr} (h:c.ι[x]?=some (a,a)):(a==sysModules)=false:=by
 refine beq_eq_false_iff_ne.mpr fun e=>?_
 cases x with
 |zero=>exact c.zero _ h e
 |succ x=>obtain ⟨o,ho⟩:=B.sysm;exact Jh ho (e▸(c.new _ _ h (Nat.succ_ne_zero x)).1)
theorem DictAt.typeIs {s:Shared} {d:Addr} {es:List (V×V)} {n:Nat} (D:DictAt Z ι s.heap d es n):s.TypeIs (.ref d) "dict":=let ⟨_,_,hd,_⟩:=D;⟨_,hd,rfl⟩
theorem X2 (hu:A.units+80<cLine) (hd:(d==sysModules)=false) (D:DictAt Z ι s.heap d es n) (kr:VR ι s.heap k rk) (ok:keysOk k es)
  (h:∀t,Q (dget es k).isSome {s with toks:=t}):wpAny (model Z.prog Z.w) A (contains (.ref d) rk) Q E s:=by
 unfold contains
 refine wpAny_holding (wpAny_bind (wpAny_specialOf D.typeIs slot_dict_contains.lookup ?_))
 show wpAny _ _ (if (some (Value.builtin "dict.__contains__")==some Value.none)=true then _ else _) _ _ s
 rw[if_neg (by rw[beq_builtin_none];exact Bool.false_ne_true)]
 refine wpAny_bind (wpAny_callSpecialUnlessNone?_slot (name:=Str.ofString "__contains__") D.typeIs slot_dict_contains
  (wpAny_call_entry slot_dict_contains D.typeIs entry_dict_contains ?_ (args_dict_contains _ _)))
 refine wpAny_bind (m:=dictGet d rk) (Wn (by show A.units+1<_;exact sK hu) D kr ok (fun e t=>?_) fun v r e _ t=>?_)
 ·rw[e] at h
  exact wpAny_bind (m:=Builtin.Dict.pendingKey? d rk) (wpAny_pendingKey_other hd (wpAny_pure ⟨_,rfl,wpAny_truthy_bool (h t)⟩))
 ·rw[e] at h
  exact wpAny_pure ⟨_,rfl,wpAny_truthy_bool (h t)⟩
mutual
theorem VR.inj:∀{v w:V} {r:Value},VR ι h v r→VR ι h w r→v.plain=true→w.plain=true→v=w
 |.int i,w,r,a,b,_,q=>by
  refine x11 a fun t q1_=>?_
  subst q1_
  cases w with
  |int j=>obtain ⟨u,e⟩:=b;(injection e with q_;subst q_);rfl
  |str x=>obtain ⟨u,e⟩:=b;injection e
  |tup x=>obtain ⟨_,_,_,e,-⟩:=b;injection e
  |_=>exact Bool.noConfusion q
 |.str i,w,r,a,b,_,q=>by
  refine x11 a fun t q1_=>?_
  subst q1_
  cases w with
  |int j=>obtain ⟨u,e⟩:=b;injection e
  |str x=>obtain ⟨u,e⟩:=b;(injection e with q_;subst q_);rfl
  |tup x=>obtain ⟨_,_,_,e,-⟩:=b;injection e
  |_=>exact Bool.noConfusion q
 |.tup vs,w,r,a,b,p,q=>by
  refine x33 a fun t its n q1_ g k=>?_
  subst q1_
  cases w with
  |int j=>obtain ⟨u,e⟩:=b;injection e
  |str x=>obtain ⟨u,e⟩:=b;injection e
  |tup x=>
   refine x33 b fun t' its' n' e g' k'=>?_
   (injection e with q_;subst q_)
   cases g.symm.trans g'
   rw[VRs.inj k k' p q]
  |_=>exact Bool.noConfusion q
 |.none,_,_,_,_,p,_=>by exact Bool.noConfusion p
 |.bool _,_,_,_,_,p,_=>by exact Bool.noConfusion p
 |.ref _,_,_,_,_,p,_=>by exact Bool.noConfusion p
theorem VRs.inj:∀{v w:List V} {r:List Value},VRs ι h v r→VRs ι h w r→V.plains v=true→V.plains w=true→v=w
 |[],[],_,_,_,_,_=>rfl
 |[],_::_,_,a,b,_,_=>by obtain ⟨_,_,e,-⟩:=b;injection (a.symm.trans e)
 |_::_,[],_,a,b,_,_=>by obtain ⟨_,_,e,-⟩:=a;injection (b.symm.trans e)
 |v::vs,w::ws,_,a,b,p,q=>by
  refine x23 a fun r rs q1_ a1 a2=>?_
  subst q1_
  refine x23 b fun r' rs' e b1 b2=>?_
  cases e
  rw[VR.inj a1 b1 (Jr p).1 (Jr q).1,VRs.inj a2 b2 (Jr p).2 (Jr q).2]
end
noncomputable def vrAt (ι:Io) (h:Heap) (p:V) (r:Value):Bool:=@decide (VR ι h p r) (Classical.propDecidable _)
theorem vrAt_eq [Decidable q] (e:VR ι h p r↔q):vrAt ι h p r=decide q:=@We _ _ (Classical.propDecidable _) _ e
theorem Je7 (hu:A.units+80<cLine) (pp:p.plain=true) (pd:p.depth≤60) (ra:Reads s.heap u p.py as) (Ru:VR ι s.heap p u):∀{ys:List V} {rs:List Value},VRs ι s.heap ys rs→V.plains ys=true→
  (∀r∈rs,EqAt A.in1 s r u (vrAt ι s.heap p r))∧rs.any (vrAt ι s.heap p)=decide (p∈ys):=by
 intro l_
 induction l_ with
 |nil=>
  intro rs k _
  obtain rfl:=k.nil_of;exact⟨fun r hr=>(List.not_mem_nil hr).elim,(decide_eq_false List.not_mem_nil).symm⟩
 |cons y ys ih_=>
  intro rs k hp
  refine x23 k.cons_of fun r rs' q1_ k1 k2=>?_
  subst q1_
  refine x02 (Jr hp) fun h1 h2=>?_
  refine x02 (ih_ k2 h2) fun i1 i2=>?_
  have e0:vrAt ι s.heap p r=decide (y=p):=vrAt_eq ⟨fun z=>k1.inj z h1 pp,fun e=>e▸k1⟩
  refine⟨fun r' hr=>?_,?_⟩
  ·refine(List.mem_cons.mp hr).elim (fun e_=>?_) fun hr=>?_
   ·subst e_
    refine x11 (k1.reads h1) fun bs rb=>?_
    have e:=eqAt_reads y.py p.py A.in1 s _ _ _ _ rb ra (V.py_lay h1) (V.py_lay pp) (by rw[V.py_depth,V.py_depth];show A.units+1+_<_;have:min y.depth p.depth≤p.depth:=Nat.min_le_right _ _;omega)
    rw[V.py_eqv h1 pp] at e
    rw[e0];exact e
   ·exact i1 r' hr
  ·rw[List.any_cons,i2,e0,←Bool.decide_or]
   exact We ⟨fun e=>e.elim (fun e=>e▸.head _) (.tail _),fun e=>(List.mem_cons.mp e).imp Eq.symm id⟩
theorem in_ok {nm:Str→Option Value} (B:Base Z nm) (hu:A.units+80<cLine) (no:Bool) {c:Cfg Z} {u v:Value} {p q:V} (Ru:VR c.ι c.h p u) (Rv:VR c.ι c.h q v) :
  OutC A c (compareOp (inOp no) u v) (fun Q=>inV p q c.st fun r=>Q (r != no)):=fun Q K e k=>by
 cases q with
 |ref y=>
  rcases e with ⟨ys,hy,⟨p1,q1⟩,e⟩|⟨es,n,hy,ok,e⟩
  ·refine x34 (c.list Rv hy) fun a its n _ q1_ ha ka=>?_
   subst q1_
   refine x02 (Qq p1) fun pp pd=>?_
   refine x11 (Ru.reads pp) fun as ra=>?_
   refine x02 (Je7 hu pp pd ra Ru ka (Qe q1).1) fun e1 e2=>?_
   have e3:its.any (vrAt c.ι c.h p)=decide (p∈ys):=by rw[←Array.any_toList,e2]
   cases no with
   |true=>exact notIn_listAt _ ⟨_,ha,rfl,n,rfl⟩ (fun r hr=>e1 r (Array.mem_toList_iff.mpr hr)) (k _ c.s.toks (by rw[e3];rw[Bool.bne_true] at e;exact e))
   |false=>exact in_listAt _ ⟨_,ha,rfl,n,rfl⟩ (fun r hr=>e1 r (Array.mem_toList_iff.mpr hr)) (k _ c.s.toks (by rw[e3];rw[Bool.bne_false] at e;exact e))
  ·refine x13 (c.dict Rv hy) fun a ia q1_ D=>?_
   subst q1_
   cases no with
   |true=>exact wpAny_bind (m:=contains (.ref a) u) (X2 hu (c.notSys B ia) D Ru ok fun t=>wpAny_pure (k _ t (by rw[Bool.bne_true] at e;exact e)))
   |false=>exact wpAny_bind (m:=contains (.ref a) u) (X2 hu (c.notSys B ia) D Ru ok fun t=>wpAny_pure (k _ t (by rw[Bool.bne_false] at e;exact e)))
 |str y=>
  cases p with
  |str x=>
   refine x11 Ru fun t q1_=>?_
   subst q1_
   refine x11 Rv fun t' q1_=>?_
   subst q1_
   cases no with
   |true=>exact P.notIn_str (k _ c.s.toks (by rw[←Bool.bne_true];exact e))
   |false=>exact P.in_str (k _ c.s.toks (by rw[←Bool.bne_false (Bool.not _)];exact e))
  |_=>exact e.elim
 |_=>exact e.elim
theorem Jij {nm:Str→Option Value} (B:Base Z nm) (hu:A.units+80<cLine) (op:CmpOp) {c:Cfg Z} {u v:Value} {p q:V} (Ru:VR c.ι c.h p u) (Rv:VR c.ι c.h q v):OutC A c (compareOp op u v) (cmpV op p q c.st):=fun Q K e k=>by
 have both:∀{F:Int→Int→Prop},(intP p fun i=>intP q fun j=>F i j)→(∀i j a b,F i j→wpAny (model Z.prog Z.w) A (compareOp op (.int i a) (.int j b)) K Er c.s)→wpAny (model Z.prog Z.w) A (compareOp op u v) K Er c.s:=fun {F} e f=>by
  refine x12 (Qi e) fun i hp e=>?_
  refine x12 (Qi e) fun j hq e=>?_
  rw[hp] at Ru
  rw[hq] at Rv
  refine x11 Ru fun a q1_=>?_
  subst q1_
  refine x11 Rv fun b q1_=>?_
  subst q1_
  exact f i j a b e
 cases op with
 |Eq=>exact eq_ok hu false Ru Rv Q K (by simp only [Bool.bne_false];exact e) k
 |NotEq=>exact eq_ok hu true Ru Rv Q K (by simp only [Bool.bne_true];exact e) k
 |In=>exact in_ok B hu false Ru Rv Q K (by simp only [Bool.bne_false];exact e) k
 |NotIn=>exact in_ok B hu true Ru Rv Q K (by simp only [Bool.bne_true];exact e) k
 |Lt=>exact both e fun i j a b e=>PyProof.Rows.lt_int (k _ c.s.toks e)
 |LtE=>exact both e fun i j a b e=>PyProof.Rows.le_int (k _ c.s.toks e)
 |Gt=>exact both e fun i j a b e=>PyProof.Rows.gt_int (k _ c.s.toks e)
 |GtE=>exact both e fun i j a b e=>PyProof.Rows.ge_int (k _ c.s.toks e)
 |Is=>
  cases q with
  |none=>
   obtain rfl:=(show v=.none from Rv)
   cases p with
   |none=>obtain rfl:=(show u=.none from Ru);exact wpAny_is_plain rfl (k _ c.s.toks e)
   |tup vs=>obtain ⟨a,its,n,rfl,-⟩:=Ru;exact wpAny_is_other rfl (fun h=>nomatch h) (k _ c.s.toks e)
   |_=>exact e.elim
  |_=>exact e.elim
 |IsNot=>exact e.elim
end Mine
namespace Mine
variable {Z:Fix} {A:Around} {sc:Scope} {env:Env} {ι:Io} {h:Heap}
set_option tactic.hygienic true in
theorem tailOf {value slice:Expr} {T id:String} {Q E:Value→Shared→Prop} (hT:s.TypeIs o T) (hl:typeLookup (.type T) "__getitem__"=pure (some (.builtin id)))
  (hg:wpAny (model Z.prog Z.w) A (getItem o i) Q E s):wpAny (model Z.prog Z.w) A (subscriptTail value slice o i) Q E s:=by
 obtain ⟨ops,e⟩:∃ops,subscripted slice false o i=operate ops (getItem o i):=by
  cases slice<;>try exact⟨_,rfl⟩
  rename_i st _
  cases st<;>exact⟨_,rfl⟩
 exact tail_any hT hl hg e
theorem Xg (h:seqIndex? i n=some j):(0≤i∧i<n∧j=i.toNat)∨(i<0∧-(n:Int)≤i∧j=(i+n).toNat):=by
 unfold seqIndex? at h
 dsimp only at h
 by_cases z:i<0
 ·rw[if_pos z] at h
  split at h
  ·rename_i q
   rw[Bool.and_eq_true,decide_eq_true_eq,decide_eq_true_eq] at q
   exact .inr ⟨z,by omega,(Option.some.inj h).symm⟩
  ·exact Jc h
 ·rw[if_neg z] at h
  split at h
  ·rename_i q
   rw[Bool.and_eq_true,decide_eq_true_eq,decide_eq_true_eq] at q
   exact .inl ⟨by omega,by exact q.2,(Option.some.inj h).symm⟩
  ·exact Jc h
theorem sub_ok (B:Base Z nm) (hu:A.units+80<cLine) (value slice:Expr) (Ru:VR c.ι c.h p u) (Rv:VR c.ι c.h q v):Out A c (subscriptTail value slice u v) (subV p q c.st):=fun Q K e k=>by
 cases p with
 |tup vs=>
  obtain ⟨i,rfl,b,j,hj,w,hw,e⟩:=Qi e
  refine x33 Ru fun a its n q1_ g kk=>?_
  subst q1_
  refine x11 Rv fun t q1_=>?_
  subst q1_
  refine x12 (kk.get j _ hw) fun y hy Ry=>?_
  exact tailOf ⟨_,g,rfl⟩ slot_tuple_getitem.lookup (P.getItem_tuple g b.1 b.2 (by rw[Ju kk];exact hj) (by rw[←Array.getElem?_toList];exact hy) (k.now Ry e))
 |str x=>
  obtain ⟨i,rfl,b,j,hj,w,hw,e⟩:=Qi e
  refine x11 Ru fun t' q1_=>?_
  subst q1_
  refine x11 Rv fun t q1_=>?_
  subst q1_
  exact tailOf (typeIs_str c.s x t') PySem.F.slot_str_getitem.lookup (P.getItem_str (by rw[Bool.or_eq_false_iff,decide_eq_false_iff_not,decide_eq_false_iff_not];omega) (by rw[hj];exact hw) (k.tok (v:=.str ⟨#[w]⟩) ⟨_,rfl⟩ e _))
 |ref x=>
  refine Or.elim e (fun r0_=>?_) (fun r1_=>?_)
  ·refine x12 r0_ fun vs hx e=>?_
   obtain ⟨i,rfl,b,j,hj,w,hw,e⟩:=Qi e
   refine x11 Rv fun t q1_=>?_
   subst q1_
   refine x34 (c.list Ru hx) fun a its n ia q1_ g kk=>?_
   subst q1_
   refine x12 (kk.get j _ hw) fun y hy Ry=>?_
   rw[Array.getElem?_toList] at hy
   have sz:=Ju kk
   refine tailOf ⟨_,g,rfl⟩ slot_list_getitem.lookup ?_
   refine Or.elim (Xg hj) (fun r0_=>?_) (fun r1_=>?_)
   ·refine x03 r0_ fun c1 c2 r0_1=>?_
    subst r0_1
    exact wpAny_getItem_list ⟨_,g,rfl,n,rfl⟩ c1 b.2 hy (k.now Ry e)
   ·refine x03 r1_ fun c1 c2 r1_1=>?_
    subst r1_1
    exact wpAny_getItem_list_neg ⟨_,g,rfl,n,rfl⟩ c1 (by rw[sz];exact c2) b.1 (by rw[sz];exact hy) (k.now Ry e)
  ·refine x34 r1_ fun es n w hx ok hw e=>?_
   refine x13 (c.dict Ru hx) fun a ia q1_ D=>?_
   subst q1_
   refine tailOf D.typeIs slot_dict_getitem.lookup ?_
   unfold getItem
   refine wpAny_holding (wpAny_bind (wpAny_sequenceKey D.typeIs (by decide) (wpAny_bind (wpAny_callSpecial?_slot (name:=Str.ofString "__getitem__") D.typeIs slot_dict_getitem
    (wpAny_call_entry slot_dict_getitem D.typeIs entry_dict_getitem ?_ (args_dict_getitem _ _))))))
   refine wpAny_bind (m:=dictGet a v) (Wn (by show A.units+1<_;exact sK hu) D Rv ok (fun e t=>Jh hw e) fun u r e hr t=>?_)
   obtain rfl:=Option.some.inj (hw.symm.trans e)
   exact wpAny_pure ⟨r,rfl,wpAny_pure (k.tok hr ‹_› t)⟩
 |_=>exact e.elim
theorem VRs.drop:∀{x:List V} {a:List Value} (n:Nat),VRs ι h x a→VRs ι h (x.drop n) (a.drop n)
 |_,_,0,p=>p
 |[],a,n+1,p=>by obtain rfl:=p.nil_of;rfl
 |v::x,a,n+1,p=>by obtain ⟨r,rs,rfl,-,p⟩:=p.cons_of;exact p.drop n
theorem VRs.take:∀{x:List V} {a:List Value} (n:Nat),VRs ι h x a→VRs ι h (x.take n) (a.take n)
 |x,a,0,p=>by rw[List.take_zero,List.take_zero];rfl
 |[],a,n+1,p=>by obtain rfl:=p.nil_of;rfl
 |v::x,a,n+1,p=>by obtain ⟨r,rs,rfl,k,p⟩:=p.cons_of;exact⟨r,_,rfl,k,p.take n⟩
theorem VRs.rev:∀{x:List V} {a:List Value},VRs ι h x a→VRs ι h x.reverse a.reverse:=by
 intro l_
 induction l_ with
 |nil=>
  intro a p
  obtain rfl:=p.nil_of;rfl
 |cons v x ih_=>
  intro a p
  obtain ⟨r,rs,rfl,k,p⟩:=p.cons_of
  rw[List.reverse_cons,List.reverse_cons]
  exact VRs.append (.one k) (ih_ p)
theorem VRs.set (q:VR ι h v r):∀{x:List V} {a:List Value} (n:Nat),VRs ι h x a→VRs ι h (x.set n v) (a.set n r)
 |[],a,n,p=>by obtain rfl:=p.nil_of;rfl
 |w::x,a,0,p=>by obtain ⟨r',rs,rfl,-,p⟩:=p.cons_of;exact⟨r,rs,rfl,q,p⟩
 |w::x,a,n+1,p=>by obtain ⟨r',rs,rfl,k,p⟩:=p.cons_of;exact⟨r',_,rfl,k,p.set q n⟩
noncomputable abbrev sliceO (a b d:Value):Obj:={cls:=.type "slice",data:=.fields #[a,b,d]}
theorem Jes (value sl:Expr) (Ru:VR c.ι c.h (.tup vs) u) (Rw:VR c.ι c.h (.int m) w) (hm:1≤m∧m≤vs.length∧vs.length<cap) (hx:c.h.get? x=some (sliceO w .none .none)) {K:Value→Shared→Prop} (e:Q (.tup (vs.drop m.toNat)) c.st) (k:Kon c Q K) :
  wpAny (model Z.prog Z.w) A (subscriptTail value sl u (.ref x)) K Er c.s:=by
 refine x33 Ru fun d its n q1_ g kk=>?_
 subst q1_
 refine x11 Rw fun t q1_=>?_
 subst q1_
 have sz:=Ju kk
 refine x11 (Int.eq_ofNat_of_zero_le (a:=m) (by omega)) fun m q1_=>?_
 subst q1_
 exact tailOf ⟨_,g,rfl⟩ slot_tuple_getitem.lookup (getItem_tuple_from (a:=m) ⟨_,g,rfl,n,rfl⟩ ⟨_,hx,rfl,rfl⟩ (by omega) (by omega) (k.pushT (its:=(its.toList.drop m).toArray) (n:=0) (kk.drop m) e _) (by rw[sz];exact Jl hm.2.2))
theorem Jer (value sl:Expr) (Ru:VR c.ι c.h (.ref y) u) (hy:c.st.get y=some (.list vs)) (Rw:VR c.ι c.h (.int m) w) (hm:0≤m∧vs.length<cap) (hx:c.h.get? x=some (sliceO .none w .none)) {K:Value→Shared→Prop} (e:alloc (.list (vs.take m.toNat)) c.st Q) (k:Kon c Q K) :
  wpAny (model Z.prog Z.w) A (subscriptTail value sl u (.ref x)) K Er c.s:=by
 refine x34 (c.list Ru hy) fun d its n ia q1_ g kk=>?_
 subst q1_
 refine x11 Rw fun t q1_=>?_
 subst q1_
 refine x11 (Int.eq_ofNat_of_zero_le (a:=m) hm.1) fun m q1_=>?_
 subst q1_
 refine tailOf ⟨_,g,rfl⟩ slot_list_getitem.lookup (wpAny_getItem_list_slice ⟨_,g,rfl,n,rfl⟩ ⟨_,hx,rfl,rfl⟩ .none (.int _ _) .none (by simp) ?_ (by rw[Ju kk];exact Jl hm.2))
 rw[slicePick_upto']
 exact k.push (its:=_) (n:=0) (by simpa using kk.take m) e _
theorem Jg9 (value sl:Expr) (Ru:VR c.ι c.h (.ref y) u) (hy:c.st.get y=some (.list vs)) (Rw:VR c.ι c.h (.int (-1)) w) (hm:vs.length<cap) (hx:c.h.get? x=some (sliceO .none .none w)) {K:Value→Shared→Prop} (e:alloc (.list vs.reverse) c.st Q) (k:Kon c Q K) :
  wpAny (model Z.prog Z.w) A (subscriptTail value sl u (.ref x)) K Er c.s:=by
 refine x34 (c.list Ru hy) fun d its n ia q1_ g kk=>?_
 subst q1_
 refine x11 Rw fun t q1_=>?_
 subst q1_
 refine tailOf ⟨_,g,rfl⟩ slot_list_getitem.lookup (wpAny_getItem_list_slice ⟨_,g,rfl,n,rfl⟩ ⟨_,hx,rfl,rfl⟩ .none .none (.int _ _) (by simp) ?_ (by rw[Ju kk];exact Jl hm))
 rw[krv_pick]
 exact k.push (its:=_) (n:=0) (by simpa using kk.rev) e _
theorem Jh6 (f:Str×V) (fs:List (Str×V)) (a:Str):fget (f::fs) a=if f.1==a then some f.2 else fget fs a:=by
 unfold fget
 rw[List.find?_cons]
 cases f.1==a<;>rfl
theorem FRs.cons_inv (q:FRs ι h (f::fs) rs):∃r rs',rs=r::rs'∧((∃t,r.key=.str f.1 t)∧VR ι h f.2 r.val)∧FRs ι h fs rs':=q
theorem FRs.find:∀{fs:List (Str×V)} {rs:List DictEntry},FRs ι h fs rs→rs.any (·.refKey)=false∧rs.length=fs.length∧(∀v,fget fs a=some v→∃e,rs.find? (·.key.isStr a)=some e∧VR ι h v e.val)∧(fget fs a=none→rs.find? (·.key.isStr a)=none)
 |[],rs,q=>by obtain rfl:=(show rs=[] from q);exact⟨rfl,rfl,fun v h=>(nomatch h),fun _=>rfl⟩
 |f::fs,rs,q=>by
  refine x23 q.cons_inv fun q1_ rs' q2_ q3_ q'=>?_
  obtain ⟨rh,rk,rv⟩:=q1_
  subst q2_
  obtain ⟨⟨t,hk⟩,hv⟩:=q3_
  dsimp only at hk hv
  subst hk
  refine x04 (q'.find (a:=a)) fun i1 i2 i3 i4=>?_
  refine⟨i1,congrArg Nat.succ i2,?_⟩
  rw[List.find?_cons,Jh6,show (DictEntry.mk rh (.str f.1 t) rv).key.isStr a=(f.1==a) from rfl]
  cases f.1==a with
  |true=>exact⟨fun v h=>⟨_,rfl,Option.some.inj h▸hv⟩,fun h=>nomatch h⟩
  |false=>exact⟨i3,i4⟩
theorem FRs.look (q:FRs ι h fs ents.toList) :
  (∀v,fget fs a=some v→∃r,lookIn a (dictO ents n)=some (some r)∧VR ι h v r)∧(fget fs a=none→lookIn a (dictO ents n)=some none):=by
 refine x04 (q.find (a:=a)) fun h0 _ h1 h2=>?_
 have e:lookIn a (dictO ents n)=match ents.toList.find? (·.key.isStr a) with
  |some e=>some (some e.val)
  |none=>if ents.toList.any (·.refKey) then none else some none:=rfl
 constructor
 ·intro v hv
  refine x12 (h1 v hv) fun r hr hR=>?_
  exact⟨r.val,by rw[e,hr],hR⟩
 ·intro hv
  rw[e,h2 hv,h0];rfl
theorem Cfg.inst (c:Cfg Z) (R:VR c.ι c.h (.ref x) r) (h:c.st.get x=some (.inst C fs)) :
  ∃a d Ca ents n,c.ι[x]?=some (a,d)∧r=.ref a∧a≠d∧Z.cad C=some Ca∧c.h.get? a=some (instObj Ca d)∧c.h.get? d=some (dictO ents n)∧FRs c.ι c.h fs ents.toList:=by
 refine x12 R fun q1_ hp q2_=>?_
 obtain ⟨a,d⟩:=q1_
 subst q2_
 obtain ⟨e,Ca,ents,n,hc,g,g',k⟩:=c.objs x _ _ hp h
 exact⟨a,d,Ca,ents,n,hp,rfl,e,hc,g,g',k⟩
theorem instAt (g:h.get? a=some (instObj Ca d)) (g':h.get? d=some (dictO ents n)):InstAt h a (instObj Ca d) Ca (some (dictO ents n)):=⟨g,rfl,rfl,g'⟩
theorem VR.handed (q:VR ι h v r):handedIn r=true:=by
 cases v with
 |none=>obtain rfl:=(show r=_ from q);rfl
 |bool b=>obtain rfl:=(show r=_ from q);rfl
 |int i=>obtain ⟨t,rfl⟩:=q;rfl
 |str x=>obtain ⟨t,rfl⟩:=q;rfl
 |tup vs=>obtain ⟨a,its,n,rfl,-⟩:=q;rfl
 |ref i=>obtain ⟨p,-,rfl⟩:=q;rfl
theorem attr_ok {nm:Str→Option Value} (B:Base Z nm) {c:Cfg Z} {u:Value} {p:V} (a:Str) (Ru:VR c.ι c.h p u):Out A c (getAttr u a true) (attrV Z.tab p a c.st):=fun Q K ⟨i,C,fs,v,hp,hi,hf,hv,e⟩ k=>by
 subst hp
 refine x57 (c.inst Ru hi) fun x d Ca ents n ix q1_ hne hc g g' kk=>?_
 subst q1_
 have ok:=B.cls C Ca hc
 refine x12 ((kk.look (n:=n) (a:=a)).1 v hv) fun rv hl hR=>?_
 refine x12 ok.cd fun cd hcd hd=>?_
 refine get_value (K:=Z.K) (v:=rv) (c.K B) (instAt g g') ok.ga ?_ hR.handed (k.tok hR e _)
 unfold findObj
 rw[hcd,Option.bind_some,B.fld C a Ca hf hc,Option.bind_some]
 dsimp only
 rw[Option.bind_some,Option.bind_some]
 unfold W.ownOf
 rw[if_pos hd]
 dsimp only
 rw[hl,Option.bind_some]
noncomputable def KonU (c:Cfg Z) (Q:St→Prop) (K:Unit→Shared→Prop):Prop:=∀c':Cfg Z,Le c c'→Q c'.st→K () c'.s
noncomputable def OutU (A:Around) (c:Cfg Z) (t:Sem Unit) (Y:(St→Prop)→Prop):Prop:=∀Q K,Y Q→KonU c Q K→wpAny (model Z.prog Z.w) A t K Er c.s
theorem KonU.put {c:Cfg Z} {Q:St→Prop} {K:Unit→Shared→Prop} (k:KonU c Q K) {h':Heap} {p:Addr×Addr} {a:Addr} {i:Nat} {o':O} (hi:c.ι[i+1]?=some p) (ha:a=p.1∨a=p.2) (hs:Heap.SameBut a c.h h') (ho:Up c.ι c.h c.ι h'→ObjR Z c.ι h' p o') (t:Nat) (q:Q (c.st.set (i+1) o')) :
  K () {c.s with heap:=h',toks:=t}:=k (c.put (i+1) o' h' t (Nat.succ_ne_zero i) hi ha hs ho) Cfg.put_le q
theorem Cfg.up (c:Cfg Z) {i:Nat} {a:Addr} (hi:c.ι[i]?=some (a,a)) (h':Heap) (hs:Heap.SameBut a c.h h'):Up c.ι c.h c.ι h':=
 ⟨⟨[],(List.append_nil _).symm⟩,fun b its n e=>(hs.2 b (by rintro rfl;obtain ⟨ob,eb,nb⟩:=c.at hi (.inl rfl);exact noTup eb nb _ _ e)).trans e⟩
theorem Y3 (hl:s.heap.get? l=some (listO items n))
  (hfit:Builtin.List.listFitsIndex k=true) (hk:seqIndex? k items.size=some j)
  (hQ:Q () {s with heap:=s.heap.update l (Obj.mapSeq (·.setIfInBounds j v))}) :
  wpAny (model Z.prog Z.w) A (setItem (.ref l) (.int k t) v) Q E s:=by
 have hT:s.TypeIs (.ref l) "list":=⟨_,hl,rfl⟩
 have hj:j<items.size:=by rcases Xg hk with ⟨c1,c2,rfl⟩|⟨c1,c2,rfl⟩<;>omega
 have fin:wpAny (model Z.prog Z.w) A.in1 (setSeqItemAt l j v) (fun _ s'=>∃w,(Value.none)=w∧wpAny (model Z.prog Z.w) A (pure ()) Q E s') E s:=wpAny_setSeqItemAt hl rfl ⟨_,rfl,wpAny_pure hQ⟩
 unfold setItem
 refine wpAny_holding (wpAny_bind (wpAny_sequenceKey hT (by decide) (wpAny_bind (wpAny_callSpecial?_slot (name:=Str.ofString "__setitem__") hT slot_list_setitem
  (wpAny_call_entry slot_list_setitem hT entry_list_setitem ?_ (args_list_setitem _ _ _))))))
 refine wpAny_bind (m:=Builtin.List.listSubscript? (.int k t)) (wpAny_listSubscript_int hfit ?_)
 rcases Xg hk with ⟨c1,c2,c3⟩|⟨c1,c2,c3⟩
 ·refine x11 (Int.eq_ofNat_of_zero_le c1) fun m q1_=>?_
  subst q1_
  obtain rfl:=(show j=m from c3)
  show wpAny _ _ ((seqItemAt l j >>= fun r=>pure (r.map (j,·))) >>= _) _ _ s
  refine wpAny_bind (wpAny_bind (wpAny_seqItemAt hl rfl (wpAny_pure ?_)))
  rw[Array.getElem?_eq_getElem hj]
  exact wpAny_bind (m:=setSeqItemAt l j v) (wpAny_mono fin (fun _ _ w2_=>x12 w2_ fun w e h=>wpAny_pure ⟨w,congrArg (fun z=>Fin.done (Flow.ret z)) e,h⟩) fun _ _ e=>e)
 ·refine x11 (Int.eq_negSucc_of_lt_zero c1) fun m q1_=>?_
  subst q1_
  show wpAny _ _ ((Builtin.List.listItems (.ref l) >>= fun xs=>pure ((seqIndex? (Int.negSucc m) xs.size).bind fun j=>xs[j]?.map (j,·))) >>= _) _ _ s
  refine wpAny_bind (wpAny_bind ?_)
  unfold Builtin.List.listItems
  refine wpAny_bind (wpAny_seqItems hl rfl (wpAny_pure (wpAny_pure ?_)))
  rw[hk]
  dsimp only [Option.bind_some]
  rw[Array.getElem?_eq_getElem hj]
  exact wpAny_bind (m:=setSeqItemAt l j v) (wpAny_mono fin (fun _ _ w2_=>x12 w2_ fun w e h=>wpAny_pure ⟨w,congrArg (fun z=>Fin.done (Flow.ret z)) e,h⟩) fun _ _ e=>e)
theorem Jey {nm:Str→Option Value} (B:Base Z nm) (hu:A.units+80<cLine) {c:Cfg Z} {o i v:V} {ro ri rv:Value} (Ro:VR c.ι c.h o ro) (Ri:VR c.ι c.h i ri) (Rv:VR c.ι c.h v rv):OutU A c (setItem ro ri rv) (setItemV o i v c.st):=fun Q K e k=>by
 rcases e with ⟨x,vs,m,rfl,hx,rfl,b,j,hj,e⟩|⟨x,es,n,rfl,hx,⟨ok,hz⟩,e⟩
 ·refine x12 (J4 hx) fun x q1_ hx=>?_
  subst q1_
  refine x11 Ri fun t q1_=>?_
  subst q1_
  refine x34 (c.list Ro hx) fun a its n ia q1_ g R=>?_
  subst q1_
  refine Y3 (j:=j) g (by unfold Builtin.List.listFitsIndex;simp;exact b) (by rw[Ju R];exact hj) ?_
  exact k.put (o':=.list (vs.set j v)) ia (.inl rfl) (Heap.SameBut.update ..) (fun U=>⟨rfl,its.setIfInBounds j rv,_,Heap.get?_update_self _ g rfl,by rw[Array.toList_setIfInBounds];exact(R.up U).set (Rv.up U) j⟩) c.s.toks e
 ·refine x12 (J4 hx) fun x q1_ hx=>?_
  subst q1_
  refine x13 (c.dict Ro hx) fun a ia q1_ D=>?_
  subst q1_
  unfold setItem
  refine wpAny_holding (wpAny_bind (wpAny_sequenceKey D.typeIs (by decide) (wpAny_bind (wpAny_callSpecial?_slot (name:=Str.ofString "__setitem__") D.typeIs PySem.F.slot_dict_setitem
   (wpAny_call_entry PySem.F.slot_dict_setitem D.typeIs PySem.F.entry_dict_setitem ?_ (args_dict_setitem _ _ _))))))
  refine wpAny_bind (m:=Builtin.Dict.notOrdered "__setitem__" ⟨[.ref a,ri,rv],[]⟩) (wpAny_notOrdered_dict D.typeIs ?_)
  exact wpAny_bind (m:=dictSet a ri rv) (Xz (by show A.units+1<_;exact sK hu) D Ri Rv ok hz (c.up ia) fun h' t hs D'=>wpAny_pure ⟨.none,rfl,wpAny_pure (k.put (o':=.dict (dput es i v) (dep es i n)) ia (.inl rfl) hs (fun _=>⟨rfl,D'⟩) t e)⟩)
theorem Jfe {nm:Str→Option Value} (B:Base Z nm) (hu:A.units+80<cLine) {c:Cfg Z} {o i:V} {ro ri:Value} (Ro:VR c.ι c.h o ro) (Ri:VR c.ι c.h i ri):OutU A c (delItem ro ri) (delItemV o i c.st):=fun Q K ⟨x,es,n,v,ho,hx,⟨ok,hz⟩,hv,e⟩ k=>by
 subst ho
 refine x12 (J4 hx) fun x q1_ hx=>?_
 subst q1_
 refine x13 (c.dict Ro hx) fun a ia q1_ D=>?_
 subst q1_
 refine wpAny_delItem_slot D.typeIs (by decide) PySem.F.slot_dict_delitem (wpAny_call_entry PySem.F.slot_dict_delitem D.typeIs PySem.F.entry_dict_delitem ?_ (PySem.F.args_dict_delitem_2 _ _))
 unfold Builtin.«dict.__delitem__» Builtin.Dict.dictSlotArgs
 refine wpAny_bind (wpAny_bind (wpAny_notOrdered_dict D.typeIs (show wpAny _ _ (pure (Value.ref a,ri)) _ _ _ from wpAny_pure ?_)))
 exact wpAny_bind (m:=Builtin.Dict.takeOut a ri) (Xo (by show A.units+1<_;exact sK hu) D Ri ok hz (c.up ia) hv fun e' h' t he hs D'=>wpAny_bind (wpAny_letGo (wpAny_pure ⟨.none,rfl,k.put (o':=.dict (ddel es i) (n+1)) ia (.inl rfl) hs (fun _=>⟨rfl,D'⟩) t e⟩)))
theorem Jh9 (sel:Nat→Bool):∀(l:List α) (k m:Nat),(∀i,m≤i→i<m+l.length→sel i=decide (k≤i))→((l.zipIdx m).filterMap fun (x,i)=>if sel i=true then none else some x)=l.take (k - m):=by
 intro l_
 induction l_ with
 |nil=>
  intro k m _
  rw[List.take_nil];rfl
 |cons x l ih_=>
  intro k m h
  rw[List.zipIdx_cons,List.filterMap_cons]
  have e:=h m (Nat.le_refl _) (by rw[List.length_cons];exact Nat.succ_le_succ (Nat.le_add_right _ _))
  have ih:=ih_ k (m+1) fun i h1 h2=>h i (Nat.le_of_lt h1) (by rw[List.length_cons];exact Nat.lt_of_lt_of_le h2 (Nat.le_of_eq (Nat.add_right_comm _ _ _)))
  dsimp only
  rw[e]
  by_cases q:k≤m
  ·rw[if_pos (decide_eq_true q),ih,show k - (m+1)=0 by exact Nat.sub_eq_zero_of_le (Nat.le_succ_of_le q),show k - m=0 by exact Nat.sub_eq_zero_of_le q];rfl
  ·rw[if_neg (fun z=>q (of_decide_eq_true z)),ih,show k - m=(k - (m+1))+1 by exact(Nat.succ_pred_eq_of_pos (Nat.sub_pos_of_lt (Nat.lt_of_not_le q))).symm,List.take_succ_cons]
theorem Jc2 (m n:Nat):sliceBounds (some (m:Int)) none none n=(((min m n:Nat):Int),(n:Int),1):=by
 show ((if (1:Int)>0 then max 0 (min (if (m:Int)<0 then (m:Int)+n else (m:Int)) (n:Int)) else _),(if (1:Int)>0 then (n:Int) else -1),(1:Int))=_
 have e:max 0 (min (m:Int) (n:Int))=((min m n:Nat):Int):=by
  rw[Int.max_eq_right (Int.le_min.mpr ⟨Int.natCast_nonneg m,Int.natCast_nonneg n⟩)]
  refine Or.elim (Nat.le_total m n) (fun h=>?_) (fun h=>?_)
  ·rw[Nat.min_eq_left h,Int.min_eq_left (Int.ofNat_le.mpr h)]
  ·rw[Nat.min_eq_right h,Int.min_eq_right (Int.ofNat_le.mpr h)]
 have z:(1:Int)>0:=by decide
 rw[if_pos z,if_pos z,if_neg (Int.not_lt.mpr (Int.natCast_nonneg m)),e]
theorem Jku {sel:Nat→Bool} {k n:Nat} (hsel:∀i,sel i=if (1:Int)>0 then (decide ((k:Int)≤(i:Int))&&decide ((i:Int)<(n:Int))&&(((i:Int) - (k:Int)) % 1==0)) else (decide ((n:Int)<(i:Int))&&decide ((i:Int)≤(k:Int))&&(((k:Int) - (i:Int)) % (-1)==0))) {i:Nat} (h:i<n):sel i=decide (k≤i):=by
 rw[hsel i,if_pos (by decide),Int.emod_one,decide_eq_true (Int.ofNat_lt.mpr h),Bool.and_true,beq_self_eq_true,Bool.and_true]
 exact decide_eq_decide.mpr Int.ofNat_le
theorem Jhx {α:Type} {sel:Nat→Bool} {m:Nat} {l:List α} (hsel:∀i,sel i=if (1:Int)>0 then (decide (((min m l.length:Nat):Int)≤(i:Int))&&decide ((i:Int)<(l.length:Int))&&(((i:Int) - ((min m l.length:Nat):Int)) % 1==0)) else (decide ((l.length:Int)<(i:Int))&&decide ((i:Int)≤((min m l.length:Nat):Int))&&((((min m l.length:Nat):Int) - (i:Int)) % (-1)==0))) :
  (l.zipIdx.filterMap fun (x,k)=>if sel k=true then none else some x)=l.take m:=by
 rw[Jh9 sel l (min m l.length) 0 (fun i _ hi=>Jku hsel (Nat.zero_add l.length▸hi)),Nat.sub_zero,List.take_eq_take_iff,Nat.min_assoc,Nat.min_self]
theorem Jdj {c:Cfg Z} {o i:V} {ro ri:Value} {x:Addr} (Ro:VR c.ι c.h o ro) (Ri:VR c.ι c.h i ri) (hx:c.h.get? x=some (sliceO ri .none .none)):OutU A c (delItem ro (.ref x)) (delSliceV o i c.st):=fun Q K w2_ k=>x35 w2_ fun y vs m ho hy hi p00_ e=>x02 p00_ fun h0 hz=>by
 subst ho hi
 refine x12 (J4 hy) fun y q1_ hy=>?_
 subst q1_
 refine x34 (c.list Ro hy) fun a its n ia q1_ g R=>?_
 subst q1_
 refine x11 Ri fun t q1_=>?_
 subst q1_
 refine x11 (Int.eq_ofNat_of_zero_le (a:=m) h0) fun m q1_=>?_
 subst q1_
 have hTs:c.s.TypeIs (.ref x) "slice":=⟨_,hx,rfl⟩
 have hTl:c.s.TypeIs (.ref a) "list":=⟨_,g,rfl⟩
 refine wpAny_delItem_slot hTl (by decide) PySem.F.slot_list_delitem (wpAny_call_entry PySem.F.slot_list_delitem hTl PySem.F.entry_list_delitem ?_ (PySem.F.args_list_delitem_2 _ _))
 refine wpAny_bind (m:=Builtin.List.listSubscript? (.ref x)) ?_
 unfold Builtin.List.listSubscript?
 refine wpAny_bind (wpAny_specialOf hTs slice_no_index ?_)
 simp only [Option.isNone_none,if_true]
 refine wpAny_pure (wpAny_bind (m:=typeOf (.ref x)) (wpAny_typeOf hTs ?_))
 rw[if_neg (by decide)]
 show wpAny _ _ (Builtin.List.listSliceParts (.ref x) >>= _) _ _ c.s
 rw[listSliceParts_eq]
 refine wpAny_bind (wpAny_bind (wpAny_field hx rfl (x:=.none) rfl (wpAny_bind (wpAny_listPart .none ?_))))
 rw[if_neg (by exact Bool.false_ne_true)]
 refine wpAny_bind (wpAny_field hx rfl (x:=.int m t) rfl (wpAny_bind (wpAny_listPart (.int _ _) ?_)))
 refine wpAny_bind (wpAny_field hx rfl (x:=.none) rfl (wpAny_bind (wpAny_listPart .none (wpAny_pure ?_))))
 refine wpAny_bind (m:=Builtin.List.listItems (.ref a)) ?_
 unfold Builtin.List.listItems
 refine wpAny_bind (wpAny_seqItems g rfl (wpAny_pure (wpAny_bind (wpAny_of_eq (sliceIndices_raw (some (m:Int)) none none its.size (by simp)) (wpAny_bind (wpAny_rule ?_))))))
 have hsz:its.size≤sizeLine:=by rw[Ju R];exact Jl hz
 rw[Jc2]
 have key:∀sel:Nat→Bool,_→(its.toList.zipIdx.filterMap fun x=>if sel x.2=true then none else some x.1)=its.toList.take m:=fun sel hsel=>Jhx (sel:=sel) (l:=its.toList) hsel
 refine wpAny_bind (wpAny_updateSeq g rfl ?_ hsz ?_)
 ·refine wpAny_bind (wpAny_letGo (wpAny_pure ⟨.none,rfl,?_⟩))
  exact k.put (o':=.list (vs.take (Int.toNat m))) ia (.inl rfl) (Heap.SameBut.update ..) (fun U=>⟨rfl,_,_,Heap.get?_update_self _ g rfl,cast (congrArg (VRs c.ι _ _) (key _ fun i=>rfl).symm) ((R.up U).take m)⟩) c.s.toks e
 ·refine Nat.le_trans (Nat.le_of_eq (congrArg List.length (key _ fun i=>rfl))) ?_
  rw[List.length_take]
  exact Nat.le_trans (Nat.min_le_right _ _) (Nat.le_succ_of_le hsz)
theorem FRs.put:∀{fs:List (Str×V)} {rs:List DictEntry},FRs ι h fs rs→VR ι h v rv→FRs ι h (fput fs a v) (PySem.putIn (·.key.isStr a) (fun e=>{e with val:=rv}) ⟨hh,.str a t,rv⟩ rs):=by
 intro l_
 induction l_ with
 |nil=>
  intro rs q hv
  obtain rfl:=(show rs=[] from q);exact⟨_,[],rfl,⟨⟨t,rfl⟩,hv⟩,rfl⟩
 |cons f fs ih_=>
  intro rs q hv
  refine x23 q.cons_inv fun q1_ rs' q2_ q3_ q'=>?_
  obtain ⟨rh,rk,rw'⟩:=q1_
  subst q2_
  obtain ⟨⟨t',hk⟩,hw⟩:=q3_
  dsimp only at hk hw
  subst hk
  unfold fput
  by_cases z:f.1=a
  ·rw[if_pos z,PySem.putIn_hit _ _ _ _ _ (by show (f.1==a)=true;exact beq_iff_eq.mpr z)]
   exact⟨_,_,rfl,⟨⟨t',rfl⟩,hv⟩,q'⟩
  ·rw[if_neg z,PySem.putIn_miss _ _ _ _ _ (by show (f.1==a)=false;exact beq_eq_false_iff_ne.mpr z)]
   exact⟨_,_,rfl,⟨⟨t',rfl⟩,hw⟩,(ih_ q') hv⟩
theorem Jbr (p:α→Bool) (f:α→α) (x:α) (l:List α):(PySem.putIn p f x l).length≤l.length+1:=by
 unfold PySem.putIn
 split<;>simp
open Builtin Builtin.ObjectAttr in
theorem Jez {nm:Str→Option Value} (B:Base Z nm) {c:Cfg Z} {o v:V} {ro rv:Value} (a:Str) (Ro:VR c.ι c.h o ro) (Rv:VR c.ι c.h v rv):OutU A c (setAttr ro a rv) (setAttrV Z.tab o a v c.st):=fun Q K w2_ k=>x35 w2_ fun i C fs ho hi hf hl e=>by
 subst ho
 refine x12 (J4 hi) fun i q1_ hi=>?_
 subst q1_
 refine x57 (c.inst Ro hi) fun x d Ca ents n ix q1_ hne hc g g' kk=>?_
 subst q1_
 have ok:=B.cls C Ca hc
 refine x12 ok.cd fun cd hcd hd=>?_
 have X:=c.K B
 refine x03 (kk.find (a:=a)) fun hno kl _=>?_
 rw[Array.length_toList] at kl
 refine set_plain (K:=Z.K) X (instAt g g') ok.sa ?_
 refine osa_open (s:={c.s with toks:=c.s.toks+1}) (r:=none) X (instAt g g') ok.over (by unfold takerIn;rw[B.fld C a Ca hf hc,Option.bind_some]) fun b=>?_
 unfold storeInOwnDict
 refine wpAny_bind (wpAny_pure (wpAny_bind (wpAny_bind (wpAny_loadPart (s:={c.s with toks:=c.s.toks+1}) g (wpAny_bind (Looks.here (s:={c.s with toks:=c.s.toks+1}) (looks_clsIn X hcd) ?_))))))
 rw[hd]
 refine wpAny_pure (a:=some d) (wpAny_bind (wpAny_pure (wpAny_bind ?_)))
 unfold nsSet
 refine wpAny_bind (wpAny_bind (wpAny_askSetting (wpAny_pure (wpAny_bind (wpAny_mkText (wpAny_bind (wpAny_loadPart (s:={c.s with toks:=c.s.toks+1+1}) g' ?_)))))))
 have hno:ents.any (·.refKey)=false:=by rw[←Array.any_toList];exact hno
 have c0:(!ents.any (·.key.isStr a)&&ents.any (·.refKey))=false:=by rw[hno,Bool.and_false]
 dsimp only
 rw[aRefKeyMayBeTheName_at,c0]
 generalize hH:(if a.cps.isEmpty=true then (0:Int) else _)=H
 have hs:Heap.SameBut d c.h (c.h.update d (Obj.putName a H (.str a (c.s.toks+1)) rv)):=Heap.SameBut.update ..
 obtain ⟨n',hp⟩:∃n',Obj.putName a H (.str a (c.s.toks+1)) rv (dictO ents n)=dictO (PySem.putIn (·.key.isStr a) (fun e=>{e with val:=rv}) ⟨H,.str a (c.s.toks+1),rv⟩ ents.toList).toArray n':=⟨_,PySem.putName_eq a H _ rv (.type "dict") none ents.toList n #[]⟩
 have hD':(c.h.update d (Obj.putName a H (.str a (c.s.toks+1)) rv)).get? d=some (dictO (PySem.putIn (·.key.isStr a) (fun e=>{e with val:=rv}) ⟨H,.str a (c.s.toks+1),rv⟩ ents.toList).toArray n'):=by
  rw[←hp]
  exact Heap.get?_update_self _ g' (by rw[hp];rfl)
 have hlen:=Jbr (·.key.isStr a) (fun e=>{e with val:=rv}) ⟨H,.str a (c.s.toks+1),rv⟩ ents.toList
 rw[show ents.toList.length=ents.size from Array.length_toList] at hlen
 refine wpAny_updatePart (s:={c.s with toks:=c.s.toks+1+1}) g' (wpAny_bind (wpAny_lookBehind hD' (by exact pastItsLine_dict (by rw[List.size_toArray,sizeLine_eq];exact Nat.le_trans hlen (Nat.lt_of_le_of_lt (Nat.le_of_eq kl) (Nat.lt_of_lt_of_le hl (by decide))))) (wpAny_pure ?_)))
 exact k.put (o':=.inst C (fput fs a v)) ix (.inr rfl) hs (fun U=>⟨hne,Ca,_,n',hc,(hs.2 x hne).trans g,hD',(kk.up U).put (Rv.up U)⟩) _ e
end Mine
namespace Mine
theorem Zp:∀{a b:List Int},a.Perm b→a.Pairwise (·≤·)→b.Pairwise (·≤·)→a=b:=by
 intro l_
 induction l_ with
 |nil=>
  intro b p _ _
  exact(List.Perm.nil_eq p)
 |cons x a ih_=>
  intro w1_
  cases w1_ with
  |nil=>
   intro p _ _
   exact nomatch p.length_eq
  |cons y b=>
   intro p ha hb
   rw[List.pairwise_cons] at ha hb
   have h1:x≤y:=(List.mem_cons.mp (p.symm.subset (.head _))).elim (fun e=>Int.le_of_eq e.symm) (ha.1 y)
   have h2:y≤x:=(List.mem_cons.mp (p.subset (.head _))).elim (fun e=>Int.le_of_eq e.symm) (hb.1 x)
   obtain rfl:=Int.le_antisymm h1 h2
   rw[ih_ (List.Perm.cons_inv p) ha.2 hb.2]
theorem Xe (i:Int):∀l:List Int,(insertInt i l).Perm (i::l):=by
 intro l_
 induction l_ with
 |nil=>
  exact .refl _
 |cons j r ih_=>
  unfold insertInt
  split
  ·exact .refl _
  ·exact((ih_).cons j).trans (.swap i j r)
theorem Jah:∀l:List Int,(sortInts l).Perm l:=by
 intro l_
 induction l_ with
 |nil=>
  exact .refl _
 |cons i l ih_=>
  exact(Xe i _).trans ((ih_).cons i)
theorem Yp (i:Int):∀{l:List Int},l.Pairwise (·≤·)→(insertInt i l).Pairwise (·≤·):=by
 intro l_
 induction l_ with
 |nil=>
  intro _
  exact List.pairwise_singleton _ _
 |cons j r ih_=>
  intro h
  unfold insertInt
  rw[List.pairwise_cons] at h
  split
  ·rename_i hij
   exact List.pairwise_cons.mpr ⟨fun k hk=>(List.mem_cons.mp hk).elim (fun e=>e▸hij) fun hk=>Int.le_trans hij (h.1 k hk),List.pairwise_cons.mpr h⟩
  ·rename_i hij
   exact List.pairwise_cons.mpr ⟨fun k hk=>(List.mem_cons.mp ((Xe i r).subset hk)).elim (fun e=>by omega) (h.1 k),ih_ h.2⟩
theorem Y1:∀l:List Int,(sortInts l).Pairwise (·≤·):=by
 intro l_
 induction l_ with
 |nil=>
  exact .nil
 |cons i l ih_=>
  exact Yp i (ih_)
theorem Jc5 (p:a.Perm l) (h:a.Pairwise (·≤·)):a=sortInts l:=Zp (p.trans (Jah l).symm) h (Y1 l)
variable {Z:Fix} {A:Around} {ι:Io} {h:Heap}
theorem Z9:∀{is:List Int} {rs:List Value},VRs ι h (intL is) rs→∃xs:List (Int×Tok),rs=xs.map (fun p=>.int p.1 p.2)∧xs.map (·.1)=is:=by
 intro l_
 induction l_ with
 |nil=>
  intro rs q
  obtain rfl:=q.nil_of;exact⟨[],rfl,rfl⟩
 |cons i is ih_=>
  intro rs q
  refine x23 (VRs.cons_of (v:=.int i) (vs:=intL is) q) fun r rs' q1_ q2_ q'=>?_
  subst q1_
  refine x11 q2_ fun t q1_=>?_
  subst q1_
  refine x12 (ih_ q') fun xs q1_ q2_=>?_
  subst q1_
  subst q2_
  exact⟨(i,t)::xs,rfl,rfl⟩
theorem Z8:∀{is:List Int} {rs:List Value},VRs ι h (intL is) rs→PyProof.Rows.IntsAre rs is:=by
 intro l_
 induction l_ with
 |nil=>
  intro rs q
  obtain rfl:=q.nil_of;exact .nil
 |cons i is ih_=>
  intro rs q
  refine x23 (VRs.cons_of (v:=.int i) (vs:=intL is) q) fun r rs' q1_ q2_ q'=>?_
  subst q1_
  refine x11 q2_ fun t q1_=>?_
  subst q1_
  exact .cons i t (ih_ q')
theorem Jdu:∀{rs:List Value} {is:List Int},PyProof.Rows.IntsAre rs is→VRs ι h (intL is) rs
 |_,_,.nil=>rfl
 |_,_,.cons i t k=>⟨_,_,rfl,⟨t,rfl⟩,Jdu k⟩
theorem Xr (xs:List (Int×Tok)) (i:Nat):numAt xs.toArray i=((xs.map (·.1))[i]?).getD 0:=by
 unfold numAt
 simp [List.getElem?_map]
theorem Jbs (xs:List (Int×Tok)):∀j,preSum (numAt xs.toArray) j=((xs.map (·.1)).take j).sum:=by
 intro l_
 induction l_ with
 |zero=>
  exact rfl
 |succ j ih_=>
  unfold preSum
  rw[ih_,Xr]
  generalize xs.map (·.1)=is
  by_cases h:j<is.length
  ·rw[List.take_succ_eq_append_getElem h,List.sum_append,List.getElem?_eq_getElem h]
   simp
  ·rw[List.take_of_length_le (Nat.le_of_not_lt h),List.take_of_length_le (Nat.le_of_lt (Nat.lt_of_not_le h)),List.getElem?_eq_none (Nat.le_of_not_lt h)]
   exact Int.add_zero _
theorem Jg4 (is:List Int) (h:∀i∈is,0≤i∧i<4294967296):0≤is.sum∧is.sum≤is.length * 4294967296:=by
 induction is with
 |nil=>exact⟨Int.le_refl _,Int.le_refl _⟩
 |cons i is ih=>
  have h1:=h i (.head _)
  have h2:=ih fun j hj=>h j (.tail _ hj)
  rw[List.sum_cons,List.length_cons]
  omega
theorem Jdq (xs:List (Int×Tok)) (i:Int) (r:List Int) (e:xs.map (·.1)=i::r):∀k,k≤r.length→numAt xs.toArray (argBest (fun i j=>decide (numAt xs.toArray i>numAt xs.toArray j)) k)=maxL i (r.take k):=by
 intro l_
 induction l_ with
 |zero=>
  intro _
  unfold argBest
  rw[Xr,e];rfl
 |succ k ih_=>
  intro hk
  have ih:=ih_ (Nat.le_of_lt hk)
  have hk':k<r.length:=hk
  unfold argBest
  have n1:numAt xs.toArray (k+1)=r[k]:=by
   rw[Xr,e,List.getElem?_cons_succ,List.getElem?_eq_getElem hk'];rfl
  rw[List.take_succ_eq_append_getElem hk']
  unfold maxL at ih ⊢
  rw[List.foldl_append]
  simp only [ih,n1]
  by_cases h:r[k]>List.foldl (fun m j=>if j>m then j else m) i (r.take k)
  ·simp [h,n1]
  ·simp [h,ih]
theorem Yz (h64:is.length<64)
  (hc:wpAny (model Z.prog Z.w) A.in1 (collect x) (fun vs s₁=>(∀a o,s.heap.get? a=some o→s₁.heap.get? a=some o)∧(∃t d,s₁={s with heap:=s₁.heap,toks:=t,drawn:=d})∧∃js,PyProof.Rows.IntsAre vs js∧js.Perm is) Er s)
  (h:∀h' t d a its n,(∀a o,s.heap.get? a=some o→h'.get? a=some o)→s.heap.get? a=none→h'.get? a=some (listO its n)→PyProof.Rows.IntsAre its.toList (sortInts is)→Q (.ref a) {s with heap:=h',toks:=t,drawn:=d}) :
  wpAny (model Z.prog Z.w) A (call (.builtin "sorted") [x]) Q E s:=by
 refine Calls.call_function_entry kind_sorted plain_sorted entry_sorted (args_sorted1 _) ?_
 unfold Builtin.«sorted»
 refine wpAny_bind (m:=checkCount "sorted" 1 1 _) (wpAny_pure (wpAny_bind (mono hc ?_)))
 rintro vs s₁ ⟨hk,⟨t,d,hs₁⟩,js,hI,hp⟩
 have hl:vs.length<64:=by rw[IntsAre.length hI,hp.length_eq];exact h64
 refine wpAny_bind (wpAny_newList ?_ (by rw[sizeLine_eq];exact leK (Nat.le_of_lt hl)))
 have hoL:(s₁.heap.push (seqObj "list" vs.toArray 0)).get? s₁.heap.objs.size=some (seqObj "list" vs.toArray 0):=Heap.get?_push_size _ rfl
 have hno:s.heap.get? s₁.heap.objs.size=none:=by
  cases q:s.heap.get? s₁.heap.objs.size with
  |none=>rfl
  |some o=>exact Jh (hk _ _ q) (Jp _)
 refine wpAny_bind (s:={s₁ with heap:=s₁.heap.push (seqObj "list" vs.toArray 0)}) (wpAny_holding (wpAny_call_entry slot_list_sort ⟨_,hoL,rfl⟩ entry_list_sort (list_sort_tree hoL hI hl fun out ns' a1 a2 a3=>⟨_,rfl,?_⟩) (args_list_sort _)))
 refine x11 (sortedHeap_at (n:=0) (out:=out) hoL) fun e he=>?_
 refine wpAny_pure ⟨_,rfl,?_⟩
 rw[hs₁]
 refine h _ t d _ out e (fun a o q=>?_) hno (by rw[←hs₁];exact he) (by rw[←Jc5 (a2.trans hp) a3];exact a1)
 have q1:=hk a o q
 have hlt:=Heap.lt_size q1
 rw[←hs₁,sortedHeap_old (Nat.ne_of_lt hlt) (by rw[Heap.size_push];exact Nat.lt_succ_of_lt hlt)]
 exact Heap.get?_push_of_some _ q1
theorem Kon.sortd {K:Value→Shared→Prop} (k:Kon c Q K) (e:alloc (.list (intL (sortInts is))) c.st Q) (h':Heap) (t:Nat) (d:Drawn) (a:Addr) (its:Array Value) (n:Nat) (hk:∀a o,c.h.get? a=some o→h'.get? a=some o) (ha:c.h.get? a=none)
  (g:h'.get? a=some (listO its n)) (hI:PyProof.Rows.IntsAre its.toList (sortInts is)):K (.ref a) {c.s with heap:=h',toks:=t,drawn:=d}:=
 (k.le (Cfg.draw_le (d:=d))).new (o':=.list (intL (sortInts is))) t hk ha (fun _=>⟨rfl,its,n,g,Jdu hI⟩) e
theorem DictAt.ints (D:DictAt Z ι h d es n) (hi:es.map (·.1)=intL is) :
  ∃(kvs:List (Int×Value)),h.DictAt (intKind Z.prog Z.w) d kvs n∧kvs.map (·.1)=is:=by
 obtain ⟨nd,ents,hd,R⟩:=D
 have key:∀(es:List (V×V)) (rs:List DictEntry) (is:List Int),ERs Z ι h es rs→es.map (·.1)=intL is→
   ∃kvs:List (Int×Value),Pairs (intKind Z.prog Z.w) rs kvs∧(∀e∈rs,∃k,(intKind Z.prog Z.w).is k e.key=true∧e.hash=(intKind Z.prog Z.w).hash k)∧kvs.map (·.1)=is:=by
  intro es
  induction es with
  |nil=>
   intro rs is q e
   obtain rfl:=(show rs=[] from q)
   cases is with
   |nil=>exact⟨[],.nil,fun e he=>(List.not_mem_nil he).elim,rfl⟩
   |cons i is=>injection e
  |cons e es ih=>
   intro rs is q hi
   obtain ⟨k,v⟩:=e
   cases is with
   |nil=>injection hi
   |cons i is=>
    refine x02 (List.cons.inj hi) fun h1 h2=>?_
    obtain rfl:=(show k=.int i from h1)
    obtain ⟨r,rs',rfl,⟨a,b,⟨t,c⟩,d⟩,q⟩:=q.cons_inv
    refine x13 (ih rs' is q h2) fun kvs k1 k2 k3=>?_
    have hk:(intKind Z.prog Z.w).is i r.key=true:=by rw[c];exact Wc (t:=t)
    exact⟨(i,r.val)::kvs,.cons hk rfl k1,fun e he=>(List.mem_cons.mp he).elim (fun z=>z▸⟨i,hk,a⟩) (k2 e),congrArg (i::·) k3⟩
 refine x13 (key es ents.toList is R hi) fun kvs h1 h2 h3=>?_
 refine⟨kvs,⟨_,ents,hd,⟨rfl,rfl,rfl⟩,rfl,fun e he=>h2 e (Array.mem_toList_iff.mpr he),h1,?_⟩,h3⟩
 rw[h3]
 rw[hi] at nd
 exact(List.pairwise_map.mp nd).imp fun h e=>h (congrArg _ e)
theorem Jay (acc:Array Value) (kvs:List (Int×Value)) (h:ItemsOf (fun i v=>∃k x,kvs[i]?=some (k,x)∧(intKind Z.prog Z.w).is k v=true) acc kvs.length):PyProof.Rows.IntsAre acc.toList (kvs.map (·.1)):=by
 refine x02 h fun hs hi=>?_
 have key:∀(l:List Value) (kvs:List (Int×Value)),l.length=kvs.length→(∀(i:Nat) v,l[i]?=some v→∃k x,kvs[i]?=some (k,x)∧(intKind Z.prog Z.w).is k v=true)→PyProof.Rows.IntsAre l (kvs.map (·.1)):=by
  intro l
  induction l with
  |nil=>intro kvs hl _;obtain rfl:=List.eq_nil_of_length_eq_zero hl.symm;exact .nil
  |cons v l ih=>
   intro kvs hl hk
   cases kvs with
   |nil=>injection hl
   |cons kv kvs=>
    refine x22 (hk 0 v rfl) fun k x e hv=>?_
    obtain rfl:=Option.some.inj e
    refine x11 (Value.isInt_shape hv) fun t q1_=>?_
    subst q1_
    exact .cons k t (ih kvs (Nat.succ.inj hl) fun i v hi=>hk (i+1) v hi)
 exact key acc.toList kvs hs fun i v e=>hi i v (by rwa [Array.getElem?_toList] at e)
theorem fn_ok {nm:Str→Option Value} (B:Base Z nm) (hh:A.handled=none) (hu:A.units+80<cLine) (b:BF) {c:Cfg Z} {vs:List V} {rs:List Value} (R:VRs c.ι c.h vs rs):Out A c (call (bval b) rs) (fnV b vs c.st):=fun Q K e k=>by
 cases b with
 |len=>
  obtain ⟨v,rfl,e⟩:=e
  obtain ⟨r,rfl,R1⟩:=R.one_inv
  cases v with
  |tup xs=>
   obtain ⟨a,its,n,rfl,g,kk⟩:=R1
   exact P.len_tuple g (by have:=e.1;rw[Ju kk];unfold cap at this;omega) (by rw[Ju kk];exact k.int e.2 _)
  |ref x=>
   obtain ⟨xs,hx,hc,e⟩:=e
   obtain ⟨a,its,n,ia,rfl,g,kk⟩:=c.list R1 hx
   exact call_len_list ⟨_,g,rfl,n,rfl⟩ (by rw[Ju kk];unfold cap at hc;omega) (by rw[Ju kk];exact k.int e _)
  |_=>exact e.elim
 |int=>
  obtain ⟨i,rfl,e⟩:=e
  refine x12 R.one_inv fun r q1_ q2_=>?_
  subst q1_
  obtain ⟨t,rfl⟩:=q2_
  exact call_int_int (k.now (v:=.int i) ⟨t,rfl⟩ e)
 |min=>
  obtain ⟨i,j,rfl,e⟩:=e
  refine x23 R.two_inv fun r u q1_ q2_ q3_=>?_
  subst q1_
  obtain ⟨t,rfl⟩:=q2_
  obtain ⟨t',rfl⟩:=q3_
  refine min_two_ints hh fun h' tk g=>?_
  split
  ·rename_i q;rw[if_pos q] at e;exact k.grown (v:=.int j) g _ ⟨_,rfl⟩ e
  ·rename_i q;rw[if_neg q] at e;exact k.grown (v:=.int i) g _ ⟨_,rfl⟩ e
 |max=>
  rcases e with ⟨i,j,rfl,e⟩|⟨x,i,r,rfl,hx,e⟩
  ·refine x23 R.two_inv fun r u q1_ q2_ q3_=>?_
   subst q1_
   refine x11 q2_ fun t q1_=>?_
   subst q1_
   refine x11 q3_ fun t' q1_=>?_
   subst q1_
   refine max_two_ints hh fun h' tk g=>?_
   split
   ·rename_i q;rw[if_pos q] at e;exact k.grown (v:=.int j) g _ ⟨_,rfl⟩ e
   ·rename_i q;rw[if_neg q] at e;exact k.grown (v:=.int i) g _ ⟨_,rfl⟩ e
  ·refine x12 R.one_inv fun u q1_ R1=>?_
   subst q1_
   refine x34 (c.list R1 hx) fun a its n ia q1_ g kk=>?_
   subst q1_
   refine x12 (Z9 kk) fun xs e1 e2=>?_
   have ei:its=intItems xs.toArray:=by rw[←Array.toList_inj,e1];simp [intItems]
   have hl:xs.length=r.length+1:=by rw[←List.length_map (f:=Prod.fst),e2];rfl
   refine max_intList (xs:=xs.toArray) hh ⟨_,g,rfl,n,by rw[ei]⟩ (by rw[List.size_toArray];omega) fun v h' tk hv hk=>?_
   refine x11 (intItems_at hv) fun t q1_=>?_
   subst q1_
   rw[show xs.toArray.size - 1=r.length by rw[List.size_toArray];exact congrArg Nat.pred hl,Jdq xs i r e2 r.length (Nat.le_refl _),List.take_length]
   exact k.grown (v:=.int (maxL i r)) hk _ ⟨_,rfl⟩ e
 |sum=>
  obtain ⟨x,is,rfl,hx,⟨hall,hz⟩,e⟩:=e
  refine x12 R.one_inv fun u q1_ R1=>?_
  subst q1_
  refine x34 (c.list R1 hx) fun a its n ia q1_ g kk=>?_
  subst q1_
  refine x12 (Z9 kk) fun xs e1 e2=>?_
  have ei:its=intItems xs.toArray:=by rw[←Array.toList_inj,e1];simp [intItems]
  have hl:xs.length=is.length:=by rw[←List.length_map (f:=Prod.fst),e2]
  refine sum_intList (xs:=xs.toArray) hh ⟨_,g,rfl,n,by rw[ei]⟩ (fun j hj=>?_) fun h' tk t' hk=>?_
  ·rw[List.size_toArray] at hj
   have hj':j<is.length:=Nat.lt_of_lt_of_le hj (Nat.le_of_eq hl)
   rw[Jbs,Xr,e2]
   have b1:=Jg4 (is.take (j+1)) fun i hi=>hall i (List.mem_of_mem_take hi)
   have b2:=hall is[j] (List.getElem_mem hj')
   have b3:(is.take (j+1)).length≤is.length:=by rw[List.length_take];exact Nat.min_le_right _ _
   unfold cap at hz
   unfold InLong
   rw[List.getElem?_eq_getElem hj',Option.getD_some]
   constructor<;>constructor<;>omega
  ·rw[Jbs,e2,List.size_toArray,hl,List.take_length]
   exact k.grown (v:=.int is.sum) hk _ ⟨_,rfl⟩ e
 |tuple=>
  obtain ⟨v,rfl,e⟩:=e
  obtain ⟨r,rfl,R1⟩:=R.one_inv
  cases v with
  |tup xs=>
   obtain ⟨a,its,n,rfl,g,kk⟩:=R1
   exact PySem.call_tuple_same ⟨_,g,rfl,n,rfl⟩ (k.now (v:=.tup xs) ⟨a,its,n,rfl,g,kk⟩ e.2)
  |ref x=>
   obtain ⟨xs,hx,hc,e⟩:=e
   obtain ⟨a,its,n,ia,rfl,g,kk⟩:=c.list R1 hx
   refine call_tuple_list ⟨_,g,rfl,n,rfl⟩ (fun h' hk=>?_) (by rw[Ju kk];exact Jl hc)
   have gg:∀b o,c.h.get? b=some o→(h'.push (tupO its 0)).get? b=some o:=fun b o e=>keepPush b o (hk b o e)
   exact k.grown (v:=.tup xs) gg _ ⟨_,_,_,rfl,Heap.get?_push_size _ rfl,kk.up (Up.keeps gg)⟩ e
  |_=>exact e.elim
 |list=>
  obtain ⟨x,xs,rfl,hx,hc,e⟩:=e
  obtain ⟨r,rfl,R1⟩:=R.one_inv
  refine x34 (c.list R1 hx) fun a its n ia q1_ g kk=>?_
  subst q1_
  exact call_list_seq a (.inl rfl) g rfl rfl (fun h' c' hk hD=>k.new (o':=.list xs) c.s.toks hk (Jp _) (fun U=>⟨rfl,its,c',hD,kk.up U⟩) e) (by rw[Ju kk];exact Jl hc)
 |sorted=>
  obtain ⟨x,is,rfl,hx,hc,e⟩:=e
  refine x12 R.one_inv fun r q1_ R1=>?_
  subst q1_
  rcases hx with hx|⟨es,n,hx,hes⟩
  ·refine x34 (c.list R1 hx) fun a its n ia q1_ g kk=>?_
   subst q1_
   have hI:=Z8 kk
   refine Yz (is:=is) (Nat.lt_of_lt_of_le hc (by decide)) ?_ (k.sortd e)
   refine collect_list (vs:=its.toList) (by rw[Array.toArray_toList];exact⟨_,g,rfl,n,rfl⟩) ⟨fun b o e=>?_,⟨c.s.toks,c.s.drawn,rfl⟩,is,hI,.refl _⟩ (by rw[IntsAre.length hI,sizeLine_eq];exact leK (Nat.le_of_lt hc))
   show (Heap.update _ _ _).get? _=_
   rw[Heap.get?_update_other _ _ (Nat.ne_of_gt (Heap.lt_size e))]
   exact keepPush _ _ e
  ·refine x13 (c.dict R1 hx) fun a ia q1_ D=>?_
   subst q1_
   refine x12 (D.ints hes) fun kvs hD hkv=>?_
   refine Yz (is:=is) (Nat.lt_of_lt_of_le hc (by decide)) ?_ (k.sortd e)
   have hlen:kvs.length=is.length:=by rw[←hkv,List.length_map]
   refine kdu_collect (kdl_dict (knd:=intKind Z.prog Z.w) (kvs:=kvs) (ep:=n) (c.notSys B ia)) hh hD (by rw[sizeLine_eq];exact Nat.le_of_lt (Nat.lt_of_le_of_lt (Nat.le_of_eq hlen) (Nat.lt_of_lt_of_le hc (by decide)))) fun h' tk acc hk hacc=>⟨hk,⟨tk,c.s.drawn,rfl⟩,is,?_,.refl _⟩
   rw[←hkv]
   exact Jay acc kvs hacc
noncomputable def tyName (T:BT):String:=match T with
 |.list=>"list"
 |.dict=>"dict"
 |.str=>"str"
noncomputable def mname (m:MF):Str:=match m with
 |.append=>"append"
 |.pop=>"pop"
 |.extend=>"extend"
 |.get=>"get"
 |.setdefault=>"setdefault"
 |.isspace=>"isspace"
theorem Jhp (h:mfOf m=some b):m=mname b:=by
 unfold mfOf at h
 by_cases e:m="append"
 ·rw[if_pos e] at h;obtain rfl:=Option.some.inj h;exact e
 rw[if_neg e] at h;clear e
 by_cases e:m="pop"
 ·rw[if_pos e] at h;obtain rfl:=Option.some.inj h;exact e
 rw[if_neg e] at h;clear e
 by_cases e:m="extend"
 ·rw[if_pos e] at h;obtain rfl:=Option.some.inj h;exact e
 rw[if_neg e] at h;clear e
 by_cases e:m="get"
 ·rw[if_pos e] at h;obtain rfl:=Option.some.inj h;exact e
 rw[if_neg e] at h;clear e
 by_cases e:m="setdefault"
 ·rw[if_pos e] at h;obtain rfl:=Option.some.inj h;exact e
 rw[if_neg e] at h;clear e
 by_cases e:m="isspace"
 ·rw[if_pos e] at h;obtain rfl:=Option.some.inj h;exact e
 rw[if_neg e] at h;exact Jc h
theorem Jgy {c:Cfg Z} {v:V} {u:Value} {T:BT} (R:VR c.ι c.h v u) (h:typeV T v c.st):c.s.TypeIs u (tyName T)∧(∀a,u=.ref a→∃o,c.h.get? a=some o∧o.dict=none):=by
 cases T with
 |list=>
  refine x22 h fun x xs q1_ hx=>?_
  subst q1_
  refine x34 (c.list R hx) fun a its n ia q1_ g k=>?_
  subst q1_
  exact⟨⟨_,g,rfl⟩,fun b e=>by(injection e with q_;subst q_);exact⟨_,g,rfl⟩⟩
 |dict=>
  refine x32 h fun x es n q1_ hx=>?_
  subst q1_
  refine x13 (c.dict R hx) fun a ia q1_ D=>?_
  subst q1_
  exact⟨D.typeIs,fun b e=>by(injection e with q_;subst q_);obtain ⟨-,ents,hd,-⟩:=D;exact⟨_,hd,rfl⟩⟩
 |str=>
  refine x11 h fun x q1_=>?_
  subst q1_
  refine x11 R fun t q1_=>?_
  subst q1_
  exact⟨typeIs_str c.s _ t,fun a e=>by injection e⟩
theorem Jb2 {c:Cfg Z} {v:V} {u:Value} {T:BT} {b:MF} {id:String} {pl:Sem Bool} {E:Value→Shared→Prop} {Q:Value×List Value→Shared→Prop} (R:VR c.ι c.h v u) (h:typeV T v c.st) (hm:mid T b=some id)
  (hQ:Q (.builtin id,[u]) c.s):wpAny (model Z.prog Z.w) A (getMethod u (mname b) pl) Q E c.s:=by
 refine x02 (Jgy R h) fun hT hd=>?_
 cases T with
 |list=>cases b with
  |append=>obtain rfl:=Option.some.inj hm;exact getMethod_builtin hT PySem.F.plainAttrs_list PySem.F.slot_list_append PySem.F.type_list_append hd hQ
  |pop=>obtain rfl:=Option.some.inj hm;exact getMethod_builtin hT PySem.F.plainAttrs_list PySem.F.slot_list_pop PySem.F.type_list_pop hd hQ
  |extend=>obtain rfl:=Option.some.inj hm;exact getMethod_builtin hT PySem.F.plainAttrs_list PySem.F.slot_list_extend PySem.F.type_list_extend hd hQ
  |_=>exact Jc hm
 |dict=>cases b with
  |get=>obtain rfl:=Option.some.inj hm;exact getMethod_builtin hT PySem.F.plainAttrs_dict PySem.F.slot_dict_get PySem.F.type_dict_get hd hQ
  |setdefault=>obtain rfl:=Option.some.inj hm;exact getMethod_builtin hT PySem.F.plainAttrs_dict PySem.F.slot_dict_setdefault PySem.F.type_dict_setdefault hd hQ
  |pop=>obtain rfl:=Option.some.inj hm;exact getMethod_builtin hT PySem.F.plainAttrs_dict PySem.F.slot_dict_pop PySem.F.type_dict_pop hd hQ
  |_=>exact Jc hm
 |str=>cases b with
  |isspace=>obtain rfl:=Option.some.inj hm;exact getMethod_builtin hT PySem.F.plainAttrs_str PySem.F.slot_str_isspace PySem.F.type_str_isspace hd hQ
  |_=>exact Jc hm
theorem dictHead {α:Type} {name:String} {es:List (V×V)} {rs:List Value} {t:Sem α} {K:α→Shared→Prop} {E:Value→Shared→Prop} (D:DictAt Z ι s.heap a es n) (h:wpAny (model Z.prog Z.w) A t K E s):wpAny (model Z.prog Z.w) A (Builtin.Dict.notOrdered name ⟨.ref a::rs,[]⟩ >>= fun _=>t) K E s:=
 wpAny_bind (wpAny_notOrdered_dict D.typeIs h)
theorem Yo (B:Base Z nm) (hu:A.units+80<cLine) (Ru:VR c.ι c.h o u) (R:VRs c.ι c.h vs rs):Out A c (call (.builtin "list.append") (u::rs)) (methV .list .append o vs c.st):=fun Q K e k=>by
 obtain ⟨x,xs,rfl,hx,hc,e⟩:=e
 obtain ⟨x,rfl,hx⟩:=J4 hx
 obtain ⟨a,its,n,ia,rfl,g,kk⟩:=c.list Ru hx
 have sz:=Ju kk
 have hz:its.size≤sizeLine:=by rw[sz];exact Jl hc
 obtain ⟨v,rfl,e⟩:=e
 refine x12 R.one_inv fun r1 q1_ R1=>?_
 subst q1_
 exact call_meets PySem.F.slot_list_append ⟨_,g,rfl⟩ PySem.F.entry_list_append (PySem.F.args_list_append_2 _ _) (PySem.list_append a its n r1 hz) ⟨g,k.put (v:=.none) (o':=.list (xs++[v])) ia (Heap.SameBut.update ..)
  (fun U=>⟨rfl,its.push r1,_,Heap.get?_update_self _ g rfl,by rw[Array.toList_push];exact VRs.append (.one (R1.up U)) (kk.up U)⟩) c.s.toks rfl e⟩
theorem Jat (B:Base Z nm) (hu:A.units+80<cLine) (Ru:VR c.ι c.h o u) (R:VRs c.ι c.h vs rs):Out A c (call (.builtin "list.pop") (u::rs)) (methV .list .pop o vs c.st):=fun Q K e k=>by
 obtain ⟨x,xs,rfl,hx,hc,e⟩:=e
 obtain ⟨x,rfl,hx⟩:=J4 hx
 obtain ⟨a,its,n,ia,rfl,g,kk⟩:=c.list Ru hx
 have sz:=Ju kk
 have hz:its.size≤sizeLine:=by rw[sz];exact Jl hc
 obtain ⟨v,ys,rfl,rfl,e⟩:=e
 obtain rfl:=R.nil_of
 have hne:its.size=ys.length+1:=by rw[sz,List.length_append];rfl
 refine x12 (kk.get ys.length v (by rw[List.getElem?_append_right (Nat.le_refl _),Nat.sub_self];rfl)) fun r1 h1 h2=>?_
 refine call_meets PySem.F.slot_list_pop ⟨_,g,rfl⟩ PySem.F.entry_list_pop (PySem.F.args_list_pop_1 _) (PySem.MeetsSeq.list_pop_last a its n r1 (by rw[hne,←Array.getElem?_toList];exact h1) hz) ⟨g,?_⟩
 refine k.put (o':=.list ys) ia (Heap.SameBut.update ..) (fun U=>⟨rfl,its.eraseIdxIfInBounds (its.size - 1),_,Heap.get?_update_self _ g rfl,?_⟩) c.s.toks h2 e
 have h3:=(kk.up U).take ys.length
 rw[List.take_left] at h3
 have h4:(its.eraseIdxIfInBounds (its.size - 1)).toList=its.toList.take ys.length:=by
  rw[Array.eraseIdxIfInBounds_eq,dif_pos (by exact Nat.sub_one_lt (by rw[hne];exact Nat.succ_ne_zero _)),Array.toList_eraseIdx,←Array.length_toList,List.eraseIdx_length_sub_one,List.dropLast_eq_take,Array.length_toList,hne];rfl
 rw[h4]
 exact h3
theorem Yn (B:Base Z nm) (hu:A.units+80<cLine) (Ru:VR c.ι c.h o u) (R:VRs c.ι c.h vs rs):Out A c (call (.builtin "list.extend") (u::rs)) (methV .list .extend o vs c.st):=fun Q K e k=>by
 obtain ⟨x,xs,rfl,hx,hc,e⟩:=e
 obtain ⟨x,rfl,hx⟩:=J4 hx
 obtain ⟨a,its,n,ia,rfl,g,kk⟩:=c.list Ru hx
 have sz:=Ju kk
 have hz:its.size≤sizeLine:=by rw[sz];exact Jl hc
 obtain ⟨y,ys,rfl,hy,hc2,e⟩:=e
 refine x12 R.one_inv fun r1 q1_ R1=>?_
 subst q1_
 refine x34 (c.list R1 hy) fun b' its' n' ib q1_ g' k'=>?_
 subst q1_
 have hcap:its.size+its'.size≤sizeLine:=by rw[sz,Ju k'];exact Jl hc2
 refine call_meets PySem.F.slot_list_extend ⟨_,g,rfl⟩ PySem.F.entry_list_extend (PySem.F.args_list_extend_2 _ _) (PySem.AutoSeq1.list_extend_list_list_0 a its n b' its' n' ?_ hz (Nat.le_succ_of_le hcap)) ⟨g,g',?_⟩
 ·unfold Builtin.List.listTooLong
  rw[sizeLine_eq] at hcap ⊢
  intro q
  have:=of_decide_eq_true (Bool.and_eq_true_iff.mp q).2
  omega
 ·exact k.put (v:=.none) (o':=.list (xs++ys)) ia (Heap.SameBut.update ..) (fun U=>⟨rfl,its++its',_,Heap.get?_update_self _ g rfl,by rw[Array.toList_append];exact VRs.append (k'.up U) (kk.up U)⟩) c.s.toks rfl e
theorem Jav {nm:Str→Option Value} (B:Base Z nm) (hu:A.units+80<cLine) {c:Cfg Z} {o:V} {u:Value} {vs:List V} {rs:List Value} (Ru:VR c.ι c.h o u) (R:VRs c.ι c.h vs rs):Out A c (call (.builtin "dict.get") (u::rs)) (methV .dict .get o vs c.st):=fun Q K e k=>by
 obtain ⟨x,es,n,kx,rfl,hx,hc,ok,e⟩:=e
 refine x12 (J4 hx) fun x q1_ hx=>?_
 subst q1_
 refine x13 (c.dict Ru hx) fun a ia q1_ D=>?_
 subst q1_
 have lo:=c.notSys B ia
 have hu':A.in1.units<cLine:=by show A.units+1<_;exact sK hu
 obtain ⟨d,rfl,e⟩:=e
 obtain ⟨r1,r2,rfl,R1,R2⟩:=R.two_inv
 refine wpAny_call_entry PySem.F.slot_dict_get D.typeIs PySem.F.entry_dict_get ?_ (PySem.F.args_dict_get_3 _ _ _)
 unfold Builtin.«dict.get» Builtin.Dict.keyAndDefault
 refine wpAny_bind (dictHead D (show wpAny _ _ (pure (a,r1,some r2)) _ _ c.s from wpAny_pure ?_))
 refine wpAny_bind (Wn hu' D R1 ok (fun e' t=>?_) fun v r e' hr t=>?_)
 ·rw[e'] at e
  exact wpAny_bind (wpAny_missed_other lo (wpAny_pure ⟨r2,rfl,k.tok R2 e t⟩))
 ·rw[e'] at e
  exact wpAny_pure ⟨r,rfl,k.tok hr e t⟩
theorem Xa {nm:Str→Option Value} (B:Base Z nm) (hu:A.units+80<cLine) {c:Cfg Z} {o:V} {u:Value} {vs:List V} {rs:List Value} (Ru:VR c.ι c.h o u) (R:VRs c.ι c.h vs rs):Out A c (call (.builtin "dict.setdefault") (u::rs)) (methV .dict .setdefault o vs c.st):=fun Q K e k=>by
 obtain ⟨x,es,n,kx,rfl,hx,hc,ok,e⟩:=e
 refine x12 (J4 hx) fun x q1_ hx=>?_
 subst q1_
 refine x13 (c.dict Ru hx) fun a ia q1_ D=>?_
 subst q1_
 have lo:=c.notSys B ia
 have hu':A.in1.units<cLine:=by show A.units+1<_;exact sK hu
 obtain ⟨d,rfl,e⟩:=e
 obtain ⟨r1,r2,rfl,R1,R2⟩:=R.two_inv
 refine wpAny_call_entry PySem.F.slot_dict_setdefault D.typeIs PySem.F.entry_dict_setdefault ?_ (PySem.F.args_dict_setdefault_3 _ _ _)
 unfold Builtin.«dict.setdefault» Builtin.Dict.keyAndDefault
 refine wpAny_bind (dictHead D (show wpAny _ _ (pure (a,r1,some r2)) _ _ c.s from wpAny_pure ?_))
 show wpAny _ _ (if (a==sysModules)=true then _ else (dictSetDefault a r1 r2 >>= _)) _ _ c.s
 rw[if_neg (by rw[lo];exact Bool.false_ne_true)]
 refine wpAny_bind (Yl hu' D R1 R2 ok hc (c.up ia) (fun e' h' t hs D'=>wpAny_pure ⟨r2,rfl,?_⟩) fun v r' e' hr t=>wpAny_pure ⟨r',rfl,?_⟩)
 ·rw[e'] at e
  exact k.put (o':=.dict (es++[(kx,d)]) (n+1)) ia hs (fun _=>⟨rfl,D'⟩) t R2 e
 ·rw[e'] at e
  exact k.tok hr e t
theorem Jau {nm:Str→Option Value} (B:Base Z nm) (hu:A.units+80<cLine) {c:Cfg Z} {o:V} {u:Value} {vs:List V} {rs:List Value} (Ru:VR c.ι c.h o u) (R:VRs c.ι c.h vs rs):Out A c (call (.builtin "dict.pop") (u::rs)) (methV .dict .pop o vs c.st):=fun Q K e k=>by
 obtain ⟨x,es,n,kx,rfl,hx,hc,ok,e⟩:=e
 refine x12 (J4 hx) fun x q1_ hx=>?_
 subst q1_
 refine x13 (c.dict Ru hx) fun a ia q1_ D=>?_
 subst q1_
 have lo:=c.notSys B ia
 have hu':A.in1.units<cLine:=by show A.units+1<_;exact sK hu
 obtain ⟨v,rfl,hv,e⟩:=e
 obtain ⟨r1,rfl,R1⟩:=R.one_inv
 refine wpAny_call_entry PySem.F.slot_dict_pop D.typeIs PySem.F.entry_dict_pop ?_ (PySem.F.args_dict_pop_2 _ _)
 unfold Builtin.«dict.pop» Builtin.Dict.keyAndDefault
 refine wpAny_bind (dictHead D (show wpAny _ _ (pure (a,r1,none)) _ _ c.s from wpAny_pure ?_))
 have go:wpAny (model Z.prog Z.w) A.in1 (Builtin.Dict.takeOut a r1) (fun old s'=>∃e,old=some e∧K e.val s') Er c.s:=
  Xo hu' D R1 ok hc (c.up ia) hv fun e' h' t he hs D'=>⟨e',rfl,k.put (o':=.dict (ddel es kx) (n+1)) ia hs (fun _=>⟨rfl,D'⟩) t he e⟩
 obtain ⟨nd,ents,hd,RR⟩:=D
 have hem:ents.isEmpty=false:=by
  cases hz:ents.isEmpty with
  |false=>rfl
  |true=>
   have:=RR.length
   rw[Array.length_toList,Array.isEmpty_iff_size_eq_zero.mp hz] at this
   obtain rfl:=List.eq_nil_of_length_eq_zero this.symm
   exact Jc hv
 show wpAny _ _ (if (keyPart r1).isSome=true then _ else _) _ _ c.s
 by_cases hp:(keyPart r1).isSome=true
 ·rw[if_pos hp]
  refine wpAny_bind (wpAny_pure ?_)
  simp only [Bool.false_eq_true,if_false]
  refine wpAny_bind (mono go ?_)
  rintro old s' ⟨e,rfl,hR⟩
  exact wpAny_bind (wpAny_letGo (wpAny_pure ⟨e.val,rfl,hR⟩))
 ·rw[if_neg hp]
  refine wpAny_bind (wpAny_dictEntries hd rfl (wpAny_bind (wpAny_pure ?_)))
  rw[hem]
  simp only [Bool.false_eq_true,if_false]
  refine wpAny_bind (mono go ?_)
  rintro old s' ⟨e,rfl,hR⟩
  exact wpAny_bind (wpAny_letGo (wpAny_pure ⟨e.val,rfl,hR⟩))
theorem Ym (B:Base Z nm) (hu:A.units+80<cLine) (Ru:VR c.ι c.h o u) (R:VRs c.ι c.h vs rs):Out A c (call (.builtin "str.isspace") (u::rs)) (methV .str .isspace o vs c.st):=fun Q K e k=>by
 obtain ⟨s,rfl,rfl,e⟩:=e
 obtain rfl:=R.nil_of
 obtain ⟨t,rfl⟩:=Ru
 exact call_gives PySem.F.slot_str_isspace (typeIs_str c.s _ t) PySem.F.entry_str_isspace (PySem.F.args_str_isspace_1 _) (gives_str_isspace _ t) (k.now (v:=.bool _) rfl e)
theorem meth_ok {nm:Str→Option Value} (B:Base Z nm) (hu:A.units+80<cLine) {c:Cfg Z} {o:V} {u:Value} {T:BT} {b:MF} {id:String} {vs:List V} {rs:List Value} (Ru:VR c.ι c.h o u) (R:VRs c.ι c.h vs rs) (hm:mid T b=some id) :
  Out A c (call (.builtin id) (u::rs)) (methV T b o vs c.st):=by
 cases T with
 |list=>
  cases b with
  |append=>obtain rfl:=Option.some.inj hm;exact Yo B hu Ru R
  |pop=>obtain rfl:=Option.some.inj hm;exact Jat B hu Ru R
  |extend=>obtain rfl:=Option.some.inj hm;exact Yn B hu Ru R
  |_=>exact Jc hm
 |dict=>
  cases b with
  |get=>obtain rfl:=Option.some.inj hm;exact Jav B hu Ru R
  |setdefault=>obtain rfl:=Option.some.inj hm;exact Xa B hu Ru R
  |pop=>obtain rfl:=Option.some.inj hm;exact Jau B hu Ru R
  |_=>exact Jc hm
 |str=>
  cases b with
  |isspace=>obtain rfl:=Option.some.inj hm;exact Ym B hu Ru R
  |_=>exact Jc hm
end Mine
namespace Mine
variable {Z:Fix} {A:Around} {sc:Scope} {env:Env}
noncomputable def charsV (x:Str):List V:=x.cps.toList.map fun ch=>.str ⟨#[ch]⟩
inductive ItAt (c:Cfg Z):Src→Addr→(Addr→Prop)→Nat→Prop
 |tup {vs:List V} {t:Addr} {its:Array Value} {n:Nat} {it:Addr} {i:Nat}:VRs c.ι c.h vs its.toList→c.h.get? t=some (tupO its n)→c.h.IsTupleIter it t i→ItAt c (.items vs) it (fun a=>a=it) i
 |str {x:Str} {t:Tok} {it:Addr} {i:Nat}:c.h.IsStrIter it "str_ascii_iterator" x t i→ItAt c (.items (charsV x)) it (fun a=>a=it) i
 |list {x:Nat} {vs:List V} {a it:Addr} {i:Nat}:c.ι[x]?=some (a,a)→c.h.IsListIter it a i→ItAt c (.list x vs) it (fun a=>a=it) i
 |dict {x n:Nat} {es:List (V×V)} {is:List Int} {a it:Addr} {i:Nat}:c.ι[x]?=some (a,a)→c.h.IsKeyIter it a i es.length n→es.map (·.1)=intL is→ItAt c (.dict x es n) it (fun a=>a=it) i
 |range {a b:Int} {it:Addr} {i:Nat}:IsRangeIter c.h it (a+i) (max (b - (a+i)) 0) 1→ItAt c (.items (intL (rangeL a b))) it (fun a=>a=it) i
 |enum {x:Nat} {vs:List V} {a e it:Addr} {i:Nat} {old:Value}:c.ι[x]?=some (a,a)→IsEnum c.h e it i old→c.h.IsListIter it a i→e≠it→ItAt c (.enum x vs) e (fun a=>a=e∨a=it) i
theorem Jh8 (vs:List V):∀(k:Int) (i:Nat),(enumL k vs)[i]?=(vs[i]?).map fun v=>.tup [.int (k+i),v]:=by
 induction vs with
 |nil=>intro k i;rfl
 |cons v vs ih=>
  intro k i
  cases i with
  |zero=>show some (V.tup [.int k,v])=some (V.tup [.int (k+((0:Nat):Int)),v]);rw[show k+((0:Nat):Int)=k from Int.add_zero k]
  |succ i=>show (enumL (k+1) vs)[i]?=_;rw[ih];show (vs[i]?).map _=(vs[i]?).map _;congr 1;funext v;rw[show k+1+(i:Int)=k+((i+1:Nat):Int) by omega]
theorem Je2 (a b:Int) (i:Nat):(rangeL a b)[i]?=if a+i<b then some (a+i) else none:=by
 unfold rangeL
 rw[List.getElem?_map]
 split
 ·rw[List.getElem?_range (by omega)];rfl
 ·rw[List.getElem?_eq_none (by rw[List.length_range];omega)];rfl
theorem Jec (is:List Int) (i:Nat):(intL is)[i]?=(is[i]?).map .int:=List.getElem?_map ..
theorem ItAt.evo (I:ItAt c src it W i) (E:Evo W' c c') (hW:∀b,W b→¬foot c.ι b∧¬W' b):ItAt c' src it W i:=by
 have k:∀b o,W b→c.h.get? b=some o→c'.h.get? b=some o:=fun b o w e=>E.keep b o e (hW b w).1 (hW b w).2
 cases I with
 |tup r g h=>exact x12 h fun o e q=>.tup (r.up E.up) (E.tup _ _ _ g) ⟨o,k _ _ rfl e,q⟩
 |str h=>exact x12 h fun o e q=>.str ⟨o,k _ _ rfl e,q⟩
 |list x h=>exact x12 h fun o e q=>.list (E.up.get x) ⟨o,k _ _ rfl e,q⟩
 |dict x h hi=>exact x12 h fun o e q=>.dict (E.up.get x) ⟨o,k _ _ rfl e,q⟩ hi
 |range h=>exact .range (k _ _ rfl h)
 |enum x he h ne=>exact x12 h fun o e q=>.enum (E.up.get x) (k _ _ (.inl rfl) he) ⟨o,k _ _ (.inr rfl) e,q⟩ ne
theorem Qa (ho:s.heap.get? it=some o) (hc:o.cls=.type n)
  (hn:["enumerate","zip","dict_itemiterator","dict_reverseitemiterator","odict_iterator","itertools.zip_longest","itertools.pairwise"].contains n=false) (h:Q () s) :
  wpAny M A (letOwnedTupleGo target (.ref it) v) Q E s:=by
 have go:wpAny M A (do
   let (.ref r,.ref a):=(Value.ref it,v)|return
   let o ←load r
   match o.cls,o.data with
   |.type n,.fields vs=>
    if ["enumerate","zip","dict_itemiterator","dict_reverseitemiterator","odict_iterator","itertools.zip_longest","itertools.pairwise"].contains n&&vs[0]?==some (rawInt a) then
     rule "for.unpacks-the-owned-tuple"
     updateField r 0 .none
   |_,_=>pure ()) Q E s:=by
  cases v with
  |ref a=>
   refine wpAny_bind (wpAny_load ho ?_)
   obtain ⟨c,d,dt,sl⟩:=o
   clear target ho
   obtain rfl:=(show c=.type n from hc)
   clear hc
   cases dt<;>first|exact wpAny_pure h|skip
   dsimp only
   rw[hn,Bool.false_and,if_neg Bool.false_ne_true]
   exact wpAny_pure h
  |_=>exact wpAny_pure h
 cases target<;>first|exact wpAny_pure h|exact go
noncomputable def Own (c:Cfg Z) (W:Addr→Prop):Prop:=∀b,W b→¬foot c.ι b∧Z.h₀.get? b=none
theorem ItAt.there (I:ItAt c src it W i):∀b,W b→∃o,c.h.get? b=some o:=by
 cases I with
 |tup r g q=>exact fun b e=>x12 q fun o h _=>⟨o,e▸h⟩
 |str q=>exact fun b e=>x12 q fun o h _=>⟨o,e▸h⟩
 |list x q=>exact fun b e=>x12 q fun o h _=>⟨o,e▸h⟩
 |dict x q hi=>exact fun b e=>x12 q fun o h _=>⟨o,e▸h⟩
 |range q=>exact fun b e=>⟨_,e▸q⟩
 |enum x he q ne=>exact fun b e=>e.elim (fun e=>⟨_,e▸he⟩) fun e=>x12 q fun o h _=>⟨o,e▸h⟩
theorem Own.evo (h:Own c W) (E:Evo W' c c') (hw:∀b,W b→¬W' b) (ha:∀b,W b→∃o,c.h.get? b=some o):Own c' W:=fun b hb=>
 x11 (ha b hb) fun _ e=>⟨E.notFoot e (h b hb).1 (hw b hb),(h b hb).2⟩
noncomputable def Cfg.turn (c:Cfg Z) (it:Addr) (h':Heap) (t:Nat) (k:∀b o,b≠it→c.h.get? b=some o→h'.get? b=some o) (own:¬foot c.ι it∧Z.h₀.get? it=none) (nt:NoTup c.h it):Cfg Z:=
 c.but (fun a=>a=it) h' t k fun b hb=>hb▸⟨own.1,own.2,nt⟩
theorem Cfg.turn_le:Evo (fun a=>a=it) c (c.turn it h' t k own nt):=Cfg.but_le
theorem Src.all_intL (x n:Nat) (h:es.map (·.1)=intL is) (i:Nat):(Src.dict x es n).all[i]?=(is[i]?).map .int:=by
 show (es.map (·.1))[i]?=_
 rw[h,Jec]
noncomputable def NextN (c:Cfg Z) (src:Src) (W:Addr→Prop) (i:Nat) (N:Shared→Prop):Prop:=src.all[i]?=none→∀c':Cfg Z,c'.st=c.st→Evo W c c'→N c'.s
noncomputable def NextK (c:Cfg Z) (src:Src) (it:Addr) (W:Addr→Prop) (i:Nat) (K:Value→Shared→Prop):Prop:=∀v rv,∀c':Cfg Z,src.all[i]?=some v→c'.st=c.st→Evo W c c'→Own c' W→VR c'.ι c'.h v rv→ItAt c' src it W (i+1)→K rv c'.s
noncomputable def NextP (Z:Fix) (A:Around) (target:Expr) (it:Addr) (N:Shared→Prop) (K:Value→Shared→Prop) (E:Value→Shared→Prop):Option Value→Shared→Prop:=fun r s₁=>match r with
 |none=>N s₁
 |some v=>wpAny (model Z.prog Z.w) A (letOwnedTupleGo target (.ref it) v) (fun _ s'=>K v s') E s₁
theorem Jar {c:Cfg Z} {src:Src} {it:Addr} {W:Addr→Prop} {i:Nat} (hh:A.handled=none) (I:ItAt c src it W i) (ok:src.ok c.st) (hW:Own c W)
  {target:Expr} (ht:src.own=true→∃elts x pos,target=.Tuple elts x pos) {N:Shared→Prop} {K:Value→Shared→Prop} {E:Value→Shared→Prop} (h0:NextN c src W i N) (h1:NextK c src it W i K) :
  wpAny (model Z.prog Z.w) A (pyNext (.ref it)) (NextP Z A target it N K E) E c.s:=by
 have oi:∀{a:Addr} {o:Obj} {n:String},c.h.get? a=some o→o.cls=.type n→n≠"tuple"→NoTup c.h a:=fun e hc hn=>noTup e (by rw[hc];exact Jc0 hn)
 cases I with
 |@tup vs t its n _ _ r g hit=>
  refine x13 (id hit) fun o e hc hd=>?_
  have nt:=oi e hc (by decide)
  have htu:c.h.IsTuple t its:=⟨_,g,rfl,n,rfl⟩
  cases hx:vs[i]? with
  |none=>
   refine wpAny_pyNext_tuple_end hh hit htu (by rw[←Array.getElem?_toList,List.getElem?_eq_none_iff,←r.length];exact List.getElem?_eq_none_iff.mp hx) fun h' he=>?_
   exact h0 hx (c.turn it h' c.s.toks he (hW it rfl) nt) rfl Cfg.turn_le
  |some v=>
   refine x12 (r.get i v hx) fun rv hr hR=>?_
   refine wpAny_pyNext_tuple_item hit htu (x:=rv) (by rw[←Array.getElem?_toList];exact hr) fun h' hit' hs=>?_
   have E:Evo (fun a=>a=it) c (c.turn it h' c.s.toks hs.extBut (hW it rfl) nt):=Cfg.turn_le
   refine x13 (id hit') fun o' e' hc' _=>?_
   exact Qa e' hc' (by decide) (h1 v rv _ hx (by rfl) E hW (hR.up E.up) (.tup (r.up E.up) (E.tup _ _ _ g) hit'))
 |@str x t _ _ hit=>
  refine x13 (id hit) fun o e hc hd=>?_
  have nt:=oi e hc (by decide)
  have hq:(Src.items (charsV x)).all[i]?=(x.cps[i]?).map fun ch=>.str ⟨#[ch]⟩:=by show (List.map _ _)[i]?=_;rw[List.getElem?_map,Array.getElem?_toList]
  cases hx:x.cps[i]? with
  |none=>exact wpAny_pyNext_ascii_end hh hit hx fun h' he=>h0 (by rw[hq,hx];rfl) (c.turn it h' c.s.toks he (hW it rfl) nt) rfl Cfg.turn_le
  |some ch=>
   refine wpAny_pyNext_ascii_item hit hx fun h' hit' hs=>?_
   refine x13 (id hit') fun o' e' hc' _=>?_
   exact Qa (s:={c.s with heap:=h',toks:=c.s.toks+1}) e' hc' (by decide) (h1 (.str ⟨#[ch]⟩) _ (c.turn it h' (c.s.toks+1) hs.extBut (hW it rfl) nt) (by rw[hq,hx];rfl) rfl Cfg.turn_le hW ⟨_,rfl⟩ (.str hit'))
 |@list x vs a _ _ hx hit=>
  refine x13 (id hit) fun o e hc hd=>?_
  have nt:=oi e hc (by decide)
  refine x34 (c.list (r:=.ref a) ⟨_,hx,rfl⟩ ok) fun a' its n ia ea g R=>?_
  (injection ea with q_;subst q_)
  have hl:c.h.IsList a its:=⟨_,g,rfl,n,rfl⟩
  cases hv:vs[i]? with
  |none=>
   refine wpAny_pyNext_list_end hh hit hl (by rw[←Array.getElem?_toList,List.getElem?_eq_none_iff,←R.length];exact List.getElem?_eq_none_iff.mp hv) fun h' he=>?_
   exact h0 hv (c.turn it h' c.s.toks he (hW it rfl) nt) rfl Cfg.turn_le
  |some v=>
   refine x12 (R.get i v hv) fun rv hr hR=>?_
   refine wpAny_pyNext_list_item hit hl (x:=rv) (by rw[←Array.getElem?_toList];exact hr) fun h' hit' hs=>?_
   have E:Evo (fun a=>a=it) c (c.turn it h' c.s.toks hs.extBut (hW it rfl) nt):=Cfg.turn_le
   refine x13 (id hit') fun o' e' hc' _=>?_
   exact Qa e' hc' (by decide) (h1 v rv _ hv (by rfl) E hW (hR.up E.up) (.list hx hit'))
 |@dict x n es is a _ _ hx hit hi=>
  refine x13 (id hit) fun o e hc hd=>?_
  have nt:=oi e hc (by decide)
  refine x13 (c.dict (r:=.ref a) ⟨_,hx,rfl⟩ ok) fun a' ia ea D=>?_
  (injection ea with q_;subst q_)
  refine x12 (D.ints hi) fun kvs hD hk=>?_
  have hlen:es.length=kvs.length:=by
   rw[←List.length_map (f:=Prod.fst) (as:=kvs),hk,←List.length_map (f:=Prod.fst) (as:=es),hi];exact List.length_map ..
  have hq:(Src.dict x es n).all[i]?=(kvs[i]?).map fun kv=>.int kv.1:=by rw[Src.all_intL x n hi,←hk,List.getElem?_map,Option.map_map];rfl
  rw[hlen] at hit
  cases hv:kvs[i]? with
  |none=>exact wpAny_pyNext_dict_end hh hit hD hv fun h' he=>h0 (by rw[hq,hv];rfl) (c.turn it h' c.s.toks he (hW it rfl) nt) rfl Cfg.turn_le
  |some kv=>
   obtain ⟨k,v⟩:=kv
   refine wpAny_pyNext_dict_item hit hD hv fun key h' hkey hit' hs=>?_
   refine x13 (id hit') fun o' e' hc' _=>?_
   refine x11 (Value.isInt_shape hkey) fun t q1_=>?_
   subst q1_
   rw[←hlen] at hit'
   exact Qa e' hc' (by decide) (h1 (.int k) _ (c.turn it h' c.s.toks hs.extBut (hW it rfl) nt) (by rw[hq,hv];rfl) rfl Cfg.turn_le hW ⟨_,rfl⟩ (.dict hx hit' hi))
 |@range a b _ _ hit=>
  have nt:=oi hit rfl (by decide)
  have hq:(Src.items (intL (rangeL a b))).all[i]?=(if a+i<b then some (a+i) else none).map .int:=by show (intL _)[i]?=_;rw[Jec,Je2]
  by_cases hb:a+i<b
  ·rw[if_pos hb] at hq
   refine wpAny_pyNext_range_item hit (by omega) fun h' hit' hs=>?_
   refine Qa (s:={c.s with heap:=h',toks:=c.s.toks+1}) hit' rfl (by decide) (h1 (.int (a+i)) _ (c.turn it h' (c.s.toks+1) hs.extBut (hW it rfl) nt) hq rfl Cfg.turn_le hW ⟨_,rfl⟩ (.range ?_))
   rw[←show a+(i:Int)+1=a+((i+1:Nat):Int) by omega,←show max (b - (a+(i:Int))) 0 - 1=max (b - (a+(i:Int)+1)) 0 by omega]
   exact hit'
  ·rw[if_neg hb] at hq
   exact wpAny_pyNext_range_end hh hit (by omega) fun h' he=>h0 hq (c.turn it h' c.s.toks he (hW it rfl) nt) rfl Cfg.turn_le
 |@enum x vs a _ it' _ old hx he hit hne=>
  refine x31 (ht rfl) fun elts xx pos q1_=>?_
  subst q1_
  refine x13 (id hit) fun o e hc hd=>?_
  refine x34 (c.list (r:=.ref a) ⟨_,hx,rfl⟩ ok) fun a' its n ia ea g R=>?_
  (injection ea with q_;subst q_)
  have hl:c.h.IsList a its:=⟨_,g,rfl,n,rfl⟩
  have nt:∀b,(b=it∨b=it')→NoTup c.h b:=fun b hb=>hb.elim (fun z=>z▸oi he rfl (by decide)) fun z=>z▸oi e hc (by decide)
  have hq:(Src.enum x vs).all[i]?=(vs[i]?).map fun v=>.tup [.int i,v]:=by show (enumL 0 vs)[i]?=_;rw[Jh8];congr 1;funext v;rw[Int.zero_add]
  cases hv:vs[i]? with
  |none=>
   refine wpAny_pyNext_enum_end hh he hit hl (by rw[←Array.getElem?_toList,List.getElem?_eq_none_iff,←R.length];exact List.getElem?_eq_none_iff.mp hv) fun h' he'=>?_
   exact h0 (by rw[hq,hv];rfl) (c.but (fun b=>b=it∨b=it') h' c.s.toks (fun b o hb e=>he' b o (fun z=>hb (.inr z)) e) fun b hb=>⟨(hW b hb).1,(hW b hb).2,nt b hb⟩) rfl Cfg.but_le
  |some v=>
   refine x12 (R.get i v hv) fun rv hr hR=>?_
   refine wpAny_pyNext_enum_item he hit hl (x:=rv) (by rw[←Array.getElem?_toList];exact hr) hne fun h' he' hit' htup hz hk=>?_
   refine wpAny_letOwnedTupleGo_enum (s:={c.s with heap:=h',toks:=c.s.toks+1}) he' fun h'' he'' hs''=>?_
   have ht'':h''.get? c.h.objs.size=some (tupO #[.int i c.s.toks,rv] 0):=(hs''.2 _ (Nat.ne_of_gt (Heap.lt_size he))).trans htup
   have E:Evo (fun b=>b=it∨b=it') c (c.but (fun b=>b=it∨b=it') h'' (c.s.toks+1) (fun b o hb e=>hs''.extBut b o (fun z=>hb (.inl z)) (hk b o (fun z=>hb (.inl z)) (fun z=>hb (.inr z)) e)) fun b hb=>⟨(hW b hb).1,(hW b hb).2,nt b hb⟩):=Cfg.but_le
   refine h1 (.tup [.int i,v]) _ _ (by rw[hq,hv];rfl) (by rfl) E hW ⟨_,_,_,rfl,ht'',⟨_,_,rfl,⟨_,rfl⟩,.one (hR.up E.up)⟩⟩ (.enum hx he'' ?_ hne)
   exact x12 hit' fun o' e' r'=>⟨o',hs''.extBut _ _ (Ne.symm hne) e',r'⟩
inductive SrcR (c:Cfg Z) (hs:Heap):Src→Value→Prop
 |tup {vs:List V} {r:Value}:VR c.ι c.h (.tup vs) r→SrcR c hs (.items vs) r
 |str {s:Str} {r:Value}:s.cps.all (·<128)=true→VR c.ι c.h (.str s) r→SrcR c hs (.items (charsV s)) r
 |list {x:Nat} {vs:List V} {r:Value}:VR c.ι c.h (.ref x) r→c.st.get x=some (.list vs)→SrcR c hs (.list x vs) r
 |dict {x n:Nat} {es:List (V×V)} {is:List Int} {r:Value}:VR c.ι c.h (.ref x) r→c.st.get x=some (.dict es n)→es.map (·.1)=intL is→SrcR c hs (.dict x es n) r
 |range {a b:Int} {ra:Addr} {t u w:Tok}:IsRange c.h ra a b 1 t u w→(-cap<a∧a<cap∧b<cap∧-cap<b)→SrcR c hs (.items (intL (rangeL a b))) (.ref ra)
 |enum {x:Nat} {vs:List V} {a e it:Addr}:c.ι[x]?=some (a,a)→IsEnum c.h e it 0 .none→c.h.IsListIter it a 0→e≠it→Own c (fun a=>a=e∨a=it)→hs.get? e=none→hs.get? it=none→SrcR c hs (.enum x vs) (.ref e)
noncomputable def KonI (c:Cfg Z) (Q:Src→St→Prop) (K:Value→Shared→Prop):Prop:=∀c':Cfg Z,∀src r,Le c c'→SrcR c' c.h src r→Q src c'.st→K r c'.s
noncomputable def SimI (Z:Fix) (A:Around) (sc:Scope) (env:Env) (t:Sem Value) (x:XI):Prop:=∀(c:Cfg Z) l,Frm sc env l c→∀Q K,x l c.st Q→KonI c Q K→wpAny (model Z.prog Z.w) A t K Er c.s
theorem srcV_ok (R:VR c.ι c.h v r) (e:srcV v c.st P):∃src,SrcR c hs src r∧P src:=by
 cases v with
 |tup vs=>exact⟨_,.tup R,e⟩
 |str s=>exact⟨_,.str e.1 R,e.2⟩
 |ref x=>
  refine Or.elim e (fun r0_=>?_) (fun r1_=>?_)
  ·refine x12 r0_ fun vs hx e=>?_
   exact⟨_,.list R hx,e⟩
  ·refine x33 r1_ fun es n is hx hi e=>?_
   exact⟨_,.dict R hx hi,e⟩
 |_=>exact e.elim
theorem Jev (h:Sim Z A sc env t x):SimI Z A sc env t (iPlain x):=fun c l F Q K e k=>
 h c l F _ _ e fun c' v r L R q=>x12 (srcV_ok R q) fun src S q=>k c' src r L S q
theorem Ze (h1:-2097152<i) (h2:i<2097152):Builtin.Range.rangeFitsLong i=true:=
 Bool.and_eq_true_iff.mpr ⟨decide_eq_true (Int.le_of_lt (Int.lt_trans (by decide) h1)),decide_eq_true (Int.lt_trans h2 (by decide))⟩
theorem Y2 {a b:Int} (h:-cap<a∧a<cap∧b<cap∧-cap<b):Builtin.Range.small a b 1=true∧Builtin.Range.rangeSize a b 1=max (b - a) 0:=by
 have hz:Builtin.Range.rangeSize a b 1=max (b - a) 0:=by
  unfold Builtin.Range.rangeSize
  rw[if_pos (by decide),Int.ediv_one,Int.sub_add_cancel]
  by_cases q:a<b
  ·rw[if_pos q,Int.max_eq_left (Int.sub_nonneg_of_le (Int.le_of_lt q))]
  ·rw[if_neg q,Int.max_eq_right (Int.sub_nonpos_of_le (Int.not_lt.mp q))]
 refine⟨?_,hz⟩
 unfold cap at h
 have f1:=Ze (i:=a) (by omega) (by omega)
 have f2:=Ze (i:=b) (by omega) (by omega)
 have f3:=Ze (i:=max (b - a) 0) (by omega) (by omega)
 have f4:Builtin.Range.rangeFitsLong (b+(1 - 1))=true:=by rw[Int.sub_self,Int.add_zero];exact f2
 unfold Builtin.Range.small
 rw[hz,f1,f2,f3,if_pos (by decide),f4,Bool.or_true]
 rfl
theorem Y4 {nm:Str→Option Value} (B:Base Z nm) {c:Cfg Z} {hs:Heap} {src:Src} {r:Value} {E:Value→Shared→Prop} {Q:Value→Shared→Prop} (R:SrcR c hs src r) (back:∀a,c.h.get? a=none→hs.get? a=none)
  (hQ:∀it W,∀c':Cfg Z,c'.st=c.st→Le c c'→ItAt c' src it W 0→Own c' W→(∀b,W b→hs.get? b=none)→Q (.ref it) c'.s):wpAny (model Z.prog Z.w) A (pyIter r) Q E c.s:=by
 have own:Own c (fun a=>a=c.h.objs.size):=fun b hb=>hb▸c.off (Jp _)
 have bk:∀b,b=c.h.objs.size→hs.get? b=none:=fun b hb=>hb▸back _ (Jp _)
 have fin:∀o:Obj,ItAt (c.grow (c.h.push o) c.s.toks keepPush) src c.h.objs.size (fun a=>a=c.h.objs.size) 0→Q (.ref c.h.objs.size) {c.s with heap:=c.h.push o}:=fun o I=>hQ _ _ (c.grow (c.h.push o) c.s.toks keepPush) rfl Cfg.grow_le I own bk
 cases R with
 |tup Rv=>
  refine x33 Rv fun a its n q1_ g k=>?_
  subst q1_
  exact wpAny_pyIter_tuple (items:=its) ⟨_,g,rfl,n,rfl⟩ (fin _ (.tup (k.up (Up.keeps keepPush)) (keepPush _ _ g) ⟨_,Heap.get?_push_size _ rfl,rfl,rfl⟩))
 |str ha Rv=>
  refine x11 Rv fun t q1_=>?_
  subst q1_
  exact wpAny_pyIter_ascii ha (fin _ (.str ⟨_,Heap.get?_push_size _ rfl,rfl,rfl⟩))
 |list Rv hx=>
  refine x34 (c.list Rv hx) fun a its n ia q1_ g k=>?_
  subst q1_
  exact wpAny_pyIter_list (items:=its) ⟨_,g,rfl,n,rfl⟩ (fin _ (.list ia ⟨_,Heap.get?_push_size _ rfl,rfl,rfl⟩))
 |@dict x n es is _ Rv hx hi=>
  refine x13 (c.dict Rv hx) fun a ia q1_ D=>?_
  subst q1_
  refine x12 (D.ints hi) fun kvs hD hk=>?_
  have hlen:es.length=kvs.length:=by
   rw[←List.length_map (f:=Prod.fst) (as:=kvs),hk,←List.length_map (f:=Prod.fst) (as:=es),hi];exact List.length_map ..
  exact wpAny_pyIter_dict (c.notSys B ia) hD (fin _ (.dict ia ⟨_,Heap.get?_push_size _ rfl,rfl,by rw[hlen];rfl⟩ hi))
 |@range a b ra t u w hr hb=>
  refine x02 (Y2 hb) fun hsm hz=>?_
  refine wpAny_pyIter_range hr hsm (fin _ (.range ?_))
  show Heap.get? _ _=some _
  rw[show a+((0:Nat):Int)=a from Int.add_zero a,←hz]
  exact Heap.get?_push_size _ rfl
 |enum hx he hit hne own' f1 f2=>exact wpAny_pyIter_enum he (hQ _ _ c rfl .refl (.enum hx he hit hne) own' fun b hb=>hb.elim (fun z=>z▸f1) fun z=>z▸f2)
end Mine
namespace Mine
variable {Z:Fix} {A:Around} {sc:Scope} {env:Env}
theorem Jle {names:List (Str×NameKind)} {k:NameKind} (h:names.lookup x=some k):∃p,names[names.findIdx fun p=>x==p.1]?=some p∧p.1=x:=by
 induction names with
 |nil=>exact Jc h
 |cons p names ih=>
  rw[List.lookup_cons] at h
  rw[List.findIdx_cons]
  cases q:x==p.1 with
  |true=>exact⟨p,rfl,(eq_of_beq q).symm⟩
  |false=>rw[q] at h;exact ih h
theorem Ww {k:NameKind} (hl:l.length=sc.names.length) (hx:sc.names.lookup x=some k):lget sc (lset sc l x v) x=some v∧∀y,y≠x→lget sc (lset sc l x v) y=lget sc l y:=by
 refine x12 (Jle hx) fun p hp hpx=>?_
 have hlt:ix sc x<l.length:=hl▸(List.getElem?_eq_some_iff.mp hp).1
 unfold lget lset
 refine⟨by rw[List.getElem?_set_self hlt];rfl,fun y hy=>?_⟩
 by_cases e:ix sc x=ix sc y
 ·have hy':ix sc y<sc.names.length:=by rw[←e,←hl];exact hlt
  have:=List.findIdx_getElem (p:=fun p:Str×NameKind=>y==p.1) (xs:=sc.names) (w:=hy')
  have e2:sc.names[ix sc y]?=some p:=e▸hp
  rw[List.getElem?_eq_getElem hy'] at e2
  have e3:sc.names[ix sc y].1=x:=by rw[Option.some.inj e2];exact hpx
  exact absurd ((eq_of_beq this).trans e3) hy
 ·rw[List.getElem?_set_ne e]
theorem Yt (hn:h.Ns a m):NoTup h a:=by
 refine x33 hn fun o es ep e d _=>?_
 intro its n q
 rw[e] at q;obtain rfl:=Option.some.inj q;injection d
theorem Jfj (hn:h.IsCell a v):NoTup h a:=by
 refine x12 hn fun o e d=>?_
 intro its n q
 rw[e] at q;obtain rfl:=Option.some.inj q;injection d
noncomputable def ownVar (sc:Scope) (x:Str):Prop:=sc.names.lookup x=some .local∨sc.names.lookup x=some .cell
theorem Jhu {k:ScopeKind} (h:(match k with|.function=>true|_=>false)=true):k=.function:=by
 cases k<;>first|exact rfl|exact absurd (show false=true from h) Bool.false_ne_true
theorem Jl7 {k:Option NameKind} (h:(match k with|some .local=>true|some .cell=>true|_=>false)=true):k=some .local∨k=some .cell:=by
 rcases k with _|k
 ·exact absurd (show false=true from h) Bool.false_ne_true
 ·cases k<;>first|exact .inl rfl|exact .inr rfl|exact absurd (show false=true from h) Bool.false_ne_true
theorem Jk8 {k:Option NameKind} (h:(match k with|some .local=>true|_=>false)=true):k=some .local:=by
 rcases k with _|k
 ·exact absurd (show false=true from h) Bool.false_ne_true
 ·cases k<;>first|exact rfl|exact absurd (show false=true from h) Bool.false_ne_true
theorem Jeb (h:isLC sc x=true):ownVar sc x:=Jl7 h
theorem Jdc (h:isL sc x=true):sc.names.lookup x=some .local:=Jk8 h
theorem X9 (hx:sc.names.lookup x=some k) (hy:sc.names.lookup y=some k') (h:k'≠k):y≠x:=fun e=>h (by rw[e,hx] at hy;exact(Option.some.inj hy).symm)
noncomputable def KonN (sc:Scope) (env:Env) (c:Cfg Z) (Q:Loc→Prop) (K:Unit→Shared→Prop):Prop:=∀c':Cfg Z,∀l',c'.st=c.st→Evo (wOf sc env) c c'→Frm sc env l' c'→Q l'→K () c'.s
theorem Jdx {E:Value→Shared→Prop} {K:Unit→Shared→Prop} (F:Frm sc env l c) (hx:ownVar sc x) (R:VR c.ι c.h v r)
  (k:KonN sc env c (fun l'=>l'=lset sc l x v) K):wpAny (model Z.prog Z.w) A (storeName env x r) K E c.s:=by
 refine x12 F.ns fun m hn hm=>?_
 have block:(env.scope.kind==.class||(env.scope.kind==.module&&env.locals != env.globals))=false:=by rw[F.kind];rfl
 have len:(lset sc l x v).length=sc.names.length:=(List.length_set ..).trans F.len
 rcases hx with hx|hx
 ·refine x02 (Ww (v:=v) F.len hx) fun g1 g2=>?_
  refine wpAny_storeName_local (F.kLoc x hx) hn (fun h' hn' hs=>?_) block
  have nt:=Yt hn
  have E1:Evo (fun b=>b=env.locals) c (c.turn env.locals h' (c.s.toks+1) hs.extBut F.lown nt):=Cfg.turn_le
  refine k _ _ (by rfl) (E1.weaken fun a h=>.inl h) ⟨F.kind,F.glob,F.blt,len,F.kLoc,F.kCell,F.kGlob,F.lown,⟨_,hn',fun y w hy hw=>?_⟩,fun y hy=>?_,fun y w hy hw=>?_,F.apart,fun a b d w h1 h2 h3 h4=>?_,fun a b h1=>?_⟩ rfl
  ·by_cases z:y=x
   ·subst z
    obtain rfl:=Option.some.inj (g1.symm.trans hw)
    exact⟨r,if_pos rfl,R.up E1.up⟩
   ·refine x12 (hm y w hy ((g2 y z).symm.trans hw)) fun r' h1 h2=>?_
    exact⟨r',(if_neg z).trans h1,h2.up E1.up⟩
  ·have z:=X9 hx hy (fun e=>nomatch e)
   refine x26 (F.cell y hy) fun c u h1 h2 h3 h4 h5 h6=>?_
   exact⟨c,u,h1,h2.sameBut hs h5,h3,h4,h5,fun w hw=>x12 (h6 w ((g2 y z).symm.trans hw)) fun r' h7 h8=>⟨r',h7,h8.up E1.up⟩⟩
  ·obtain ⟨h0,c,r',h1,h2,h3,h4,h5⟩:=F.free y w hy ((g2 y (X9 hx hy (fun e=>nomatch e))).symm.trans hw)
   exact⟨h0,c,r',h1,h2.sameBut hs h4,h3,h4,h5.up E1.up⟩
  ·exact F.sep a b d w h1 h2 ((g2 b (X9 hx h2 (fun e=>nomatch e))).symm.trans h3) h4
  ·refine x11 (F.alive a b h1) fun o e=>?_
   by_cases z:b=env.locals
   ·exact x32 hn' fun o' _ _ e' _=>⟨o',z▸e'⟩
   ·exact⟨o,hs.extBut b o z e⟩
 ·refine x02 (Ww (v:=v) F.len hx) fun g1 g2=>?_
  refine x26 (F.cell x hx) fun d u hc hcell hf h0 hcl _=>?_
  refine wpAny_storeName_cell F.kind (F.kCell x hx) hc hcell fun h' hn' hs=>?_
  have nt:=Jfj hcell
  have E1:Evo (fun b=>b=d) c (c.turn d h' c.s.toks hs.extBut ⟨hf,h0⟩ nt):=Cfg.turn_le
  refine k _ _ (by rfl) (E1.weaken fun a h=>.inr ⟨x,hx,h▸hc⟩) ⟨F.kind,F.glob,F.blt,len,F.kLoc,F.kCell,F.kGlob,F.lown,⟨m,hn.sameBut hs hcl.symm,fun y w hy hw=>?_⟩,fun y hy=>?_,fun y w hy hw=>?_,F.apart,fun a b d w h1 h2 h3 h4=>?_,fun a b h1=>?_⟩ rfl
  ·refine x12 (hm y w hy ((g2 y (X9 hx hy (fun e=>nomatch e))).symm.trans hw)) fun r' h1 h2=>?_
   exact⟨r',h1,h2.up E1.up⟩
  ·by_cases z:y=x
   ·subst z
    refine⟨d,some r,hc,hn',hf,h0,hcl,fun w hw=>?_⟩
    obtain rfl:=Option.some.inj (g1.symm.trans hw)
    exact⟨r,rfl,R.up E1.up⟩
   ·refine x26 (F.cell y hy) fun c' u' h1 h2 h3 h4 h5 h6=>?_
    have ne:c'≠d:=fun e=>z (F.apart y x _ hy hx h1 (e▸hc))
    exact⟨c',u',h1,h2.sameBut hs ne,h3,h4,h5,fun w hw=>x12 (h6 w ((g2 y z).symm.trans hw)) fun r' h7 h8=>⟨r',h7,h8.up E1.up⟩⟩
  ·have hw':=(g2 y (X9 hx hy (fun e=>nomatch e))).symm.trans hw
   obtain ⟨hk,c',r',h1,h2,h3,h4,h5⟩:=F.free y w hy hw'
   have ne:c'≠d:=fun e=>F.sep x y _ w hx hy hw' hc (e▸h1)
   exact⟨hk,c',r',h1,h2.sameBut hs ne,h3,h4,h5.up E1.up⟩
  ·exact F.sep a b d w h1 h2 ((g2 b (X9 hx h2 (fun e=>nomatch e))).symm.trans h3) h4
  ·refine x11 (F.alive a b h1) fun o e=>?_
   by_cases z:b=d
   ·exact x12 hn' fun o' e' _=>⟨o',z▸e'⟩
   ·exact⟨o,hs.extBut b o z e⟩
theorem KonN.step {Q Q':Loc→Prop} {K:Unit→Shared→Prop} (k:KonN sc env c Q K) (hs:c'.st=c.st) (E:Evo (wOf sc env) c c') (hq:∀l,Q' l→Q l):KonN sc env c' Q' K:=fun d l hd M F q=>k d l (hd.trans hs) (E.trans M) F (hq l q)
inductive Stores (Z:Fix) (A:Around) (env:Env):List Str→List (Value→Sem Unit)→Prop
 |nil:Stores Z A env [] []
 |cons {x:Str} {t:Value→Sem Unit} {xs:List Str} {ts:List (Value→Sem Unit)}:(∀(r:Value) (Q:Unit→Shared→Prop) (s:Shared),wpAny (model Z.prog Z.w) A (storeName env x r) Q Er s→wpAny (model Z.prog Z.w) A (t r) Q Er s)→Stores Z A env xs ts→Stores Z A env (x::xs) (t::ts)
theorem Ja6:∀{xs:List Str} {vs:List V} {rs:List Value} {stores:List (Value→Sem Unit)} {c:Cfg Z} {l:Loc} {Q:Loc→Prop} {K:Unit→Shared→Prop},(∀x∈xs,ownVar sc x)→
  Stores Z A env xs stores→Frm sc env l c→VRs c.ι c.h vs rs→bindN sc xs vs l Q→KonN sc env c Q K→wpAny (model Z.prog Z.w) A (assignInOrder stores rs) K Er c.s
 |[],vs,rs,_,c,l,Q,K,_,.nil,F,R,e,k=>by
  cases vs with
  |cons _ _=>exact e.elim
  |nil=>exact wpAny_pure (k c l rfl .refl F e)
 |x::xs,vs,rs,_,c,l,Q,K,hx,.cons (ts:=stores) (t:=t) ht hts,F,R,e,k=>by
  cases vs with
  |nil=>exact e.elim
  |cons v vs=>
   refine x23 R.cons_of fun r rs' q1_ R1 R2=>?_
   subst q1_
   exact wpAny_bind (m:=holding rs' (t r)) (wpAny_holding (ht r _ c.s (Jdx F (hx x (.head _)) R1 fun c₁ l₁ h₁ E₁ F₁ e₁=>
    Ja6 (fun y hy=>hx y (.tail _ hy)) hts F₁ (R2.up E₁.up) (by rw[e₁];exact e) (k.step h₁ E₁ fun _ q=>q))))
theorem Jbw:∀{es:List Expr} {xs:List Str},namesOnly es=some xs→(assignEach es env).findIdx? (·.1)=none∧(assignEach es env).length=xs.length∧
  Stores Z A env xs ((assignEach es env).map (·.2)):=by
 intro l_
 induction l_ with
 |nil=>
  intro xs h
  obtain rfl:=Option.some.inj h;exact⟨rfl,rfl,.nil⟩
 |cons e es ih_=>
  intro xs h
  cases e with
  |Name x p=>
   refine x12 (Option.map_eq_some_iff.mp h) fun ys h1 h2=>?_
   subst h2
   refine x03 (ih_ h1) fun a b c=>?_
   refine⟨?_,congrArg Nat.succ b,.cons (fun r Q s h=>wpAny_assign_Name h) c⟩
   show List.findIdx? _ ((false,assign (.Name x p) env)::assignEach es env)=none
   rw[List.findIdx?_cons,a];rfl
  |_=>exact Jc h
theorem Xn (h:tgOf t=some g):(∃x q,t=.Name x q∧g=.one x)∨(∃es k q xs,t=.Tuple es k q∧namesOnly es=some xs∧g=.many xs):=by
 cases t with
 |Name x q=>exact .inl ⟨_,_,rfl,(Option.some.inj h).symm⟩
 |Tuple es k q=>obtain ⟨xs,h1,h2⟩:=Option.map_eq_some_iff.mp h;exact .inr ⟨_,_,_,xs,rfl,h1,h2.symm⟩
 |_=>exact Jc h
theorem draw_ok (hh:A.handled=none) (ho:src.own=false):∀(n i:Nat) {c:Cfg Z} {Q:List Value→Shared→Prop},ItAt c src it W i→src.ok c.st→Own c W→i+n=src.all.length→
  (∀rs,∀c':Cfg Z,c'.st=c.st→Evo W c c'→Own c' W→VRs c'.ι c'.h (src.all.drop i) rs→ItAt c' src it W src.all.length→Q rs c'.s)→wpAny (model Z.prog Z.w) A (draw (.ref it) n) Q E c.s:=by
 intro l_
 induction l_ with
 |zero=>
  intro i c Q I ok hW hn hQ
  obtain rfl:=(show i=src.all.length from hn)
  exact wpAny_pure (hQ [] c rfl .refl hW (by rw[List.drop_length];rfl) I)
 |succ n ih_=>
  intro i c Q I ok hW hn hQ
  have hl:i<src.all.length:=by omega
  refine wpAny_bind (m:=pyNext (.ref it)) (wpAny_mono (Jar (target:=.Constant .none 0 default) (N:=fun _=>False) (K:=fun rv s₁=>wpAny (model Z.prog Z.w) A (draw (.ref it) n) (fun rs s'=>Q (rv::rs) s') E s₁) (E:=E) hh I ok hW (fun h=>by rw[ho] at h;exact Bool.noConfusion h) (fun h0=>?_) fun v rv c₁ hv hs E₁ W₁ R₁ I₁=>?_) (fun r s₁ h=>?_) fun _ _ e=>e)
  ·exact absurd (List.getElem?_eq_none_iff.mp h0) (Nat.not_le_of_gt hl)
  ·refine ih_ (i+1) I₁ (hs▸ok) W₁ (by omega) fun rs c₂ hs₂ E₂ W₂ R₂ I₂=>hQ (rv::rs) c₂ (hs₂.trans hs) (E₁.trans E₂) W₂ ?_ I₂
   rw[List.drop_eq_getElem_cons hl,show src.all[i]=v from Option.some.inj ((List.getElem?_eq_getElem hl).symm.trans hv)]
   exact⟨rv,rs,rfl,R₁.up E₂.up,R₂⟩
  ·cases r with
   |none=>exact h.elim
   |some v=>
    have h':=wpAny_bind (f:=fun _=>(do return v::(←holding [v] (draw (.ref it) n)):Sem (List Value))) (Q:=Q) (E:=E) (wpAny_mono h (fun _ _ q=>wpAny_bind (wpAny_holding (wpAny_mono q (fun _ _ z=>wpAny_pure z) fun _ _ e=>e))) fun _ _ e=>e)
    rw[show letOwnedTupleGo (Expr.Constant .none 0 default) (.ref it) v=pure () from rfl,pure_bind] at h'
    exact h'
theorem Jbc (B:Base Z nm) (hh:A.handled=none) (R:VR c.ι c.h v r) (e:itemsV v c.st P) (hn:∀vs,P vs→n=vs.length)
  (hQ:∀vs rs,∀c':Cfg Z,P vs→c'.st=c.st→Le c c'→VRs c'.ι c'.h vs rs→Q rs c'.s):wpAny (model Z.prog Z.w) A (unpackItems r n none) Q E c.s:=by
 have main:∀src,SrcR c c.h src r→src.own=false→src.ok c.st→P src.all→wpAny (model Z.prog Z.w) A (do
   let it ←holding [r] (pyIter r)
   let items ←holding [it] (draw it n)
   if items.length<n then
    rule "unpack.too-few";raiseError "ValueError" s!"not enough values to unpack (expected {n}, got {items.length})"
   if (←holding items (pyNext it)).isSome then
    rule "unpack.too-many";raiseError "ValueError" s!"too many values to unpack (expected {n})"
   return items) Q E c.s:=fun src S hown hok p=>by
  obtain rfl:=hn _ p
  refine wpAny_bind (wpAny_holding (Y4 B S (fun _ h=>h) fun it W c₁ hs₁ E₁ I₁ hW hf=>?_))
  refine wpAny_bind (wpAny_holding (draw_ok hh hown src.all.length 0 I₁ (hs₁▸hok) hW (Nat.zero_add _) fun rs c₂ hs₂ E₂ W₂ R₂ I₂=>?_))
  rw[List.drop_zero] at R₂
  rw[if_neg (by have:=R₂.length;exact Nat.not_lt_of_le (Nat.le_of_eq this))]
  refine wpAny_bind (wpAny_holding (wpAny_mono (Jar (target:=.Constant .none 0 default) (N:=fun s'=>Q rs s') (K:=fun _ _=>False) (E:=E) hh I₂ (hs₂▸hs₁▸hok) W₂ (fun h=>by rw[hown] at h;exact Bool.noConfusion h) (fun _ c₃ hs₃ E₃=>?_) fun v rv s' hv=>?_) (fun o s₃ h=>?_) fun _ _ e=>e))
  ·exact hQ _ _ c₃ p ((hs₃.trans hs₂).trans hs₁) ((E₁.toW.trans (E₂.trans E₃)).fresh fun a ha=>.inr (hf a ha)) (R₂.up E₃.up)
  ·exact absurd (List.getElem?_eq_some_iff.mp hv).1 (Nat.lt_irrefl _)
  ·cases o with
   |none=>exact wpAny_pure h
   |some w=>
    have h':=wpAny_bind (f:=fun _=>(raiseError "ValueError" s!"too many values to unpack (expected {src.all.length})" >>= fun (_:Unit)=>(return rs:Sem (List Value)))) (Q:=Q) (E:=E) (wpAny_mono h (fun _ _ q=>q.elim) fun _ _ e=>e)
    rw[show letOwnedTupleGo (Expr.Constant .none 0 default) (.ref it) w=pure () from rfl,pure_bind] at h'
    exact wpAny_bind (wpAny_rule h')
 unfold unpackItems
 cases v with
 |tup vs=>
  refine x33 (id R) fun a its m q1_ g k=>?_
  subst q1_
  refine wpAny_bind (m:=notIterableAtAll (.ref a)) (wpAny_bind (wpAny_specialOf (T:="tuple") ⟨_,g,rfl⟩ PySem.F.slot_tuple_iter.lookup (wpAny_pure ?_)))
  exact main _ (.tup R) rfl trivial e
 |ref x=>
  refine x12 e fun vs hx e=>?_
  refine x34 (c.list R hx) fun a its m ia q1_ g k=>?_
  subst q1_
  refine wpAny_bind (m:=notIterableAtAll (.ref a)) (wpAny_bind (wpAny_specialOf (T:="list") ⟨_,g,rfl⟩ slot_list_iter.lookup (wpAny_pure ?_)))
  exact main _ (.list R hx) rfl hx e
 |_=>exact e.elim
theorem Zj:∀{xs:List Str} {vs:List V} {l:Loc} {Q:Loc→Prop},bindN sc xs vs l Q→xs.length=vs.length:=by
 intro l_
 induction l_ with
 |nil=>
  intro w1_
  cases w1_ with
  |nil=>
   intro _ _ _
   exact rfl
  |cons x_ xs_=>
   intro _ _ e
   exact e.elim
 |cons x xs ih_=>
  intro w1_
  cases w1_ with
  |nil=>
   intro _ _ e
   exact e.elim
  |cons v vs=>
   intro l Q e
   exact congrArg Nat.succ (ih_ e)
theorem Zl {nm:Str→Option Value} (B:Base Z nm) (hh:A.handled=none) {c:Cfg Z} {l:Loc} {t:Expr} {g:Tg} {v:V} {r:Value} {Q:Loc→Prop} {K:Unit→Shared→Prop} (ht:tgOf t=some g) (ho:∀x∈g.names,ownVar sc x) (F:Frm sc env l c) (R:VR c.ι c.h v r) (e:bindT sc g v l c.st Q)
  (k:KonN sc env c Q K):wpAny (model Z.prog Z.w) A (assign t env r) K Er c.s:=by
 refine Or.elim (Xn ht) (fun r0_=>?_) (fun r1_=>?_)
 ·refine x22 r0_ fun x q r0_1 r0_2=>?_
  subst r0_1
  subst r0_2
  exact wpAny_assign_Name (Jdx F (ho x (.head _)) R (k.step rfl .refl fun l' h=>h▸e))
 ·refine x43 r1_ fun es kk q xs r1_1 hes r1_2=>?_
  subst r1_1
  subst r1_2
  refine x03 (Jbw (Z:=Z) (A:=A) (env:=env) hes) fun hst hlen hnm=>?_
  rw[arm_assign_Tuple]
  refine wpAny_bind (wpAny_standAt ?_)
  unfold unpack
  rw[hst,hlen]
  exact wpAny_bind (wpAny_holding (Jbc B hh R e (fun vs h=>Zj h) fun vs rs c₁ h hs E₁ R₁=>Ja6 ho hnm (F.up E₁) R₁ h (k.step hs E₁.toW fun _ q=>q)))
end Mine
namespace Mine
variable {Z:Fix} {A:Around} {sc:Scope} {env:Env} {nm:Str→Option Value} {f:Expr→X} {g:Expr→XB}
noncomputable def Room (A:Around) (d:Nat):Prop:=A.handled=none∧A.depth+5 * d+3<recursionLimit∧A.units+200 * d+150<cLine
noncomputable def RoomC (A:Around) (d:Nat):Prop:=A.handled=none∧A.depth+5 * d<recursionLimit∧A.units+200 * d<cLine
theorem Room.call (h:Room A d):RoomC A d:=⟨h.1,by have:=h.2.1;exact Nat.lt_of_add_right_lt this,by have:=h.2.2;exact Nat.lt_of_add_right_lt this⟩
theorem Room.small (h:Room A d):A.units+80<cLine:=by have:=h.2.2;exact rmS this
theorem sim_bin (H:SimF Z A sc env f):Sim Z A sc env (eval (.BinOp a op b pos) env) (cBin op (f a) (f b)):=fun c l F _ _ e k=>
 wpAny_BinOp (H a c l F _ _ e fun c₁ _ _ L₁ R₁ e₁=>H b c₁ l (F.up L₁) _ _ e₁ fun _ _ _ L₂ R₂ e₂=>bin_ok op (R₁.up L₂.up) R₂ _ _ e₂ (k.le (L₁.trans L₂)))
theorem sim_un (H:SimF Z A sc env f):Sim Z A sc env (eval (.UnaryOp op o p) env) (cUn op (f o)):=fun c l F _ _ e k=>
 wpAny_UnaryOp (H o c l F _ _ e fun _ _ _ L₁ R₁ e₁=>un_ok op R₁ _ _ e₁ (k.le L₁))
theorem sim_ifE (H:SimF Z A sc env f) (T:∀e,SimB Z A sc env (isTrue e env (eval e env)) (g e)):Sim Z A sc env (eval (.IfExp t a b pos) env) (cIf (g t) (f a) (f b)):=fun c l F _ _ e k=>
 wpAny_IfExp (T t c l F _ _ e fun c₁ q L₁ e₁=>by
  cases q with
  |true=>exact H a c₁ l (F.up L₁) _ _ e₁ (k.le L₁)
  |false=>exact H b c₁ l (F.up L₁) _ _ e₁ (k.le L₁))
theorem Jhb (H:SimF Z A sc env f):Sim Z A sc env (eval (.BoolOp op vs pos) env) (cBool op (vs.map f)):=fun c l F Q K e k=>by
 match vs,e with
 |[],e=>exact e.elim
 |[_],e=>exact e.elim
 |_::_::_::_,e=>exact e.elim
 |[a,b],e=>
  refine wpAny_bind (m:=eval a env) (H a c l F _ _ e fun c₁ v r L₁ R₁ e₁=>?_)
  refine x12 (W8 e₁) fun q q1_ e₁=>?_
  subst q1_
  obtain rfl:=(show r=.bool q from R₁)
  refine wpAny_bind (wpAny_standAt (wpAny_bind (wpAny_holding (wpAny_truthy_bool ?_))))
  cases op<;>cases q
  ·exact wpAny_pure (k c₁ (.bool false) _ L₁ rfl e₁)
  ·exact H b c₁ l (F.up L₁) _ _ e₁ (k.le L₁)
  ·exact H b c₁ l (F.up L₁) _ _ e₁ (k.le L₁)
  ·exact wpAny_pure (k c₁ (.bool true) _ L₁ rfl e₁)
theorem Zk (h:goodE e=true):behindInMarks op e=false:=by
 cases e<;>first|rfl|exact Bool.noConfusion h
theorem Jda (h:goodE e=true):markedBehindIn op e t=t:=by
 unfold markedBehindIn;rw[Zk h]
theorem Jkk (B:Base Z nm) (hu:A.units+80<cLine) (hb:bs.all goodE=true) (H:SimF Z A sc env f):Sim Z A sc env (eval (.Compare a ops bs pos) env) (cCmp ops (f a) (bs.map f)):=fun c l F Q K e k=>by
 match ops,bs,hb,e with
 |[],_,_,e=>exact e.elim
 |_::_::_,_,_,e=>exact e.elim
 |[_],[],_,e=>exact e.elim
 |[_],_::_::_,_,e=>exact e.elim
 |[op],[b],hb,e=>
  exact wpAny_Compare1 (H a c l F _ _ e fun c₁ _ _ L₁ R₁ e₁=>H b c₁ l (F.up L₁) _ _ e₁ fun c₂ _ _ L₂ R₂ e₂=>Jij B hu op (R₁.up L₂.up) R₂ _ _ e₂ fun q t e₃=>k (c₂.toks t) (.bool q) _ ((L₁.trans L₂).trans Cfg.toks_le) rfl e₃) (Zk (Qj hb).1)
theorem testOne {op:CmpOp} {b:Expr} {pos:Pos} (B:Base Z nm) (hu:A.units+80<cLine) {y:X} (H:Sim Z A sc env (eval b env) y) {c:Cfg Z} {l:Loc} {v:V} {r:Value} (F:Frm sc env l c) (R:VR c.ι c.h v r) (hb:goodE b=true) {Q:Bool→St→Prop} {K:Bool→Shared→Prop}
  (e:chain1 v op y l c.st Q) (k:KonB c Q K):wpAny (model Z.prog Z.w) A (testChain pos r [op] [markedBehindIn op b (eval b env)]) K Er c.s:=by
 rw[Jda hb]
 exact wpAny_bind (m:=holding [r] (eval b env)) (wpAny_holding (H c l F _ _ e fun c₁ w u L₁ R₁ e₁=>wpAny_bind (wpAny_standAt (wpAny_bind (wpAny_operateT (Jij B hu op (R.up L₁.up) R₁ _ _ e₁ fun q t e₂=>wpAny_holding (wpAny_truthy_bool (k (c₁.toks t) q (L₁.trans Cfg.toks_le) e₂))))))))
theorem Jkq (B:Base Z nm) (hu:A.units+80<cLine) (hb:bs.all goodE=true) (H:SimF Z A sc env f):SimB Z A sc env (isTrue (.Compare a ops bs pos) env whole) (cCmpT ops (f a) (bs.map f)):=fun c l F Q K e k=>by
 refine wpAny_bind (m:=eval a env) (f:=fun r=>testChain pos r ops (markedEach ops bs (evalEach bs env))) (H a c l F _ _ e fun c₁ v r L₁ R₁ e₁=>?_)
 match ops,bs,hb,e₁ with
 |[],_,_,e=>exact e.elim
 |_::_,[],_,e=>exact e.elim
 |[_],_::_::_,_,e=>exact e.elim
 |[_,_],[_],_,e=>exact e.elim
 |[_,_],_::_::_::_,_,e=>exact e.elim
 |_::_::_::_,_::_,_,e=>exact e.elim
 |[op],[b],hb,e=>exact testOne B hu (H b) (F.up L₁) R₁ (Qj hb).1 e (k.le L₁)
 |[op,op'],[b,b'],hb,e=>
  refine wpAny_bind (m:=holding [r] (eval b env)) (wpAny_holding (H b c₁ l (F.up L₁) _ _ e fun c₂ w u L₂ R₂ e₂=>wpAny_bind (wpAny_standAt (wpAny_bind (wpAny_holding (Jij B hu op (R₁.up L₂.up) R₂ _ _ e₂ fun q t e₃=>wpAny_bind (wpAny_release (wpAny_bind (wpAny_holding (wpAny_truthy_bool ?_))))))))))
  have L₃:=(L₁.trans L₂).trans (Cfg.toks_le (c:=c₂) (t:=t))
  cases q with
  |true=>exact testOne B hu (H b') (F.up L₃) (R₂.up (Cfg.toks_le (t:=t)).up) (Qj (Qj hb).2).1 e₃ (k.le L₃)
  |false=>exact wpAny_pure (k (c₂.toks t) false L₃ e₃)
theorem sim_tup (H:SimF Z A sc env f) (hb:es.all goodE=true):Sim Z A sc env (eval (.Tuple es n pos) env) (cTup (es.map f)):=fun c l F Q K e k=>
 wpAny_Tuple_spliced (Jc6 H hb F e.2 fun c' vs rs L R hl e'=>⟨Jl (by rw[←R.length,hl];have:=e.1;rw[List.length_map] at this;unfold cap;exact ltK this),(k.le L).pushT (its:=rs.toArray) (n:=0) R e' _⟩)
theorem Jkg (H:SimF Z A sc env f) (hb:es.all goodE=true):Sim Z A sc env (eval (.List es pos) env) (cList (es.map f)):=fun c l F Q K e k=>
 wpAny_List_spliced (Jc6 H hb F e.2 fun c' vs rs L R hl e'=>⟨Jl (by rw[←R.length,hl];have:=e.1;rw[List.length_map] at this;unfold cap;exact ltK this),(k.le L).push (its:=rs.toArray) (n:=0) R e' _⟩)
theorem Jkp (T:∀e,SimB Z A sc env (isTrue e env (eval e env)) (g e)):SimB Z A sc env (isTrue (.UnaryOp .Not a pos) env whole) (cNotT (g a)):=fun c l F _ _ e k=>
 wpAny_isTrue_Not (T a c l F _ _ e fun c' b L q=>k c' _ L q)
theorem Zz (he:isTrue e env (eval e env)=(do let v ←eval e env;standAt e.pos;holding [v] (truthy v))) (H:Sim Z A sc env (eval e env) x):SimB Z A sc env (isTrue e env (eval e env)) (cTruth x):=fun c l F Q K q k=>by
 rw[he]
 refine wpAny_bind (H c l F _ _ q fun c₁ v r L₁ R₁ q₁=>?_)
 refine x12 (W8 q₁) fun b q1_ q₁=>?_
 subst q1_
 obtain rfl:=(show r=.bool b from R₁)
 exact wpAny_bind (wpAny_standAt (wpAny_holding (wpAny_truthy_bool (k c₁ b L₁ q₁))))
theorem Jal (T:∀e,SimB Z A sc env (isTrue e env (eval e env)) (g e)):∀es:List Expr,SimB Z A sc env (allTrue op es env) (cAllT op (es.map g))
 |[]=>fun c l F Q K e k=>by
  cases op<;>exact wpAny_pure (k c _ .refl e)
 |a::es=>fun c l F Q K e k=>by
  refine wpAny_bind (m:=isTrue a env (eval a env)) (T a c l F _ _ e fun c₁ b L₁ e₁=>?_)
  cases op<;>cases b
  ·exact wpAny_pure (k c₁ _ L₁ e₁)
  ·exact Jal T es c₁ l (F.up L₁) _ _ e₁ (k.le L₁)
  ·exact Jal T es c₁ l (F.up L₁) _ _ e₁ (k.le L₁)
  ·exact wpAny_pure (k c₁ _ L₁ e₁)
theorem Jhh (T:∀e,SimB Z A sc env (isTrue e env (eval e env)) (g e)):SimB Z A sc env (isTrue (.BoolOp op es pos) env whole) (cAllT op (es.map g)):=fun c l F _ _ e k=>
 wpAny_isTrue_BoolOp (Jal T es c l F _ _ e k)
theorem sim_sub (B:Base Z nm) (hu:A.units+80<cLine) (H:SimF Z A sc env f):Sim Z A sc env (eval (.Subscript o i p) env) (cSub (f o) (f i)):=fun c l F _ _ e k=>
 Subscript_ (H o c l F _ _ e fun c₁ _ _ L₁ R₁ e₁=>H i c₁ l (F.up L₁) _ _ e₁ fun _ _ _ L₂ R₂ e₂=>sub_ok B hu o i (R₁.up L₂.up) R₂ _ _ e₂ (k.le (L₁.trans L₂)))
theorem Jkh (H:SimF Z A sc env f):Sim Z A sc env (eval (.Subscript o (.Slice (some a) none none sp) p) env) (cSlice (f o) (.drop (f a))):=fun c l F Q K e k=>
 Subscript_ (H o c l F _ _ e fun c₁ _ _ L₁ R₁ e₁=>wpAny_Slice (wpAny_evalPart_some (H a c₁ l (F.up L₁) _ _ e₁ fun c₂ v w L₂ R₂ w5_=>x24 w5_ fun vs n ho hn hb e₂=>wpAny_evalPart_none (wpAny_evalPart_none (by
  subst ho hn
  have L₃:Le c₂ (c₂.grow (c₂.h.push (sliceO w .none .none)) c₂.s.toks keepPush):=Cfg.grow_le
  exact Jes o _ (R₁.up (L₂.trans L₃).up) (R₂.up L₃.up) hb (Heap.get?_push_size _ rfl) e₂ (k.le ((L₁.trans L₂).trans L₃)))))))
theorem Jke (H:SimF Z A sc env f):Sim Z A sc env (eval (.Subscript o (.Slice none (some a) none sp) p) env) (cSlice (f o) (.take (f a))):=fun c l F Q K e k=>
 Subscript_ (H o c l F _ _ e fun c₁ _ _ L₁ R₁ e₁=>wpAny_Slice (wpAny_evalPart_none (wpAny_evalPart_some (H a c₁ l (F.up L₁) _ _ e₁ fun c₂ v w L₂ R₂ w5_=>x35 w5_ fun x vs n ho hn hx hb e₂=>wpAny_evalPart_none (by
  subst ho hn
  have L₃:Le c₂ (c₂.grow (c₂.h.push (sliceO .none w .none)) c₂.s.toks keepPush):=Cfg.grow_le
  exact Jer o _ (R₁.up (L₂.trans L₃).up) hx (R₂.up L₃.up) hb (Heap.get?_push_size _ rfl) e₂ (k.le ((L₁.trans L₂).trans L₃)))))))
theorem sim_rev (H:SimF Z A sc env f):Sim Z A sc env (eval (.Subscript o (.Slice none none (some (.UnaryOp .USub (.Constant (.int 1) n p1) p2)) sp) p) env) (cSlice (f o) .rev):=fun c l F Q K e k=>
 Subscript_ (H o c l F _ _ e fun c₁ _ _ L₁ R₁ w5_=>x24 w5_ fun x vs ho hx hb e₁=>wpAny_Slice (wpAny_evalPart_none (wpAny_evalPart_none (wpAny_evalPart_some (wpAny_UnaryOp (wpAny_Constant_int (PyProof.Rows.neg_int (by
  subst ho
  have L₃:Le c₁ (c₁.grow (c₁.h.push (sliceO .none .none (.int (-1) (c₁.s.toks+1)))) (c₁.s.toks+1+1) keepPush):=Cfg.grow_le
  exact Jg9 o _ (R₁.up L₃.up) hx ⟨_,rfl⟩ hb (Heap.get?_push_size _ rfl) e₁ (k.le (L₁.trans L₃))))))))))
set_option tactic.hygienic true in
theorem attrBase (h:(!nullary o)=true):attributeBase o a env w=w:=by
 cases o<;>try rfl
 rename_i f as ks p
 cases f<;>try rfl
 cases as with
 |cons=>rfl
 |nil=>cases ks with
  |cons=>rfl
  |nil=>exact Bool.noConfusion h
theorem Jkl (B:Base Z nm) (hc:C.tab=Z.tab) (hn:(!nullary o)=true) (H:SimF Z A sc env f):Sim Z A sc env (eval (.Attribute o a p) env) (cAttr C (f o) a):=fun c l F Q K e k=>by
 rw[arm_eval_Attribute,attrBase hn]
 exact wpAny_bind (H o c l F _ _ e fun c₁ v r L₁ R₁ e₁=>wpAny_bind (wpAny_standAt (wpAny_bind (wpAny_holding (attr_ok B a R₁ _ _ (hc▸e₁) fun c₂ v₂ r₂ L₂ R₂ e₂=>wpAny_bind (wpAny_letTemporaryGo (wpAny_pure (k c₂ v₂ r₂ (L₁.trans L₂) R₂ e₂))))))))
end Mine
namespace Mine
variable {Z:Fix} {A:Around} {sc:Scope} {env:Env} {nm:Str→Option Value} {f:Expr→X} {g:Expr→XB} {C:Cx} {d:Nat}
structure Fns (Z:Fix):Prop where
 keep:∀q a,Z.fad q=some a→keepIn Z.K (.ref a)=true
 ckeep:∀C Ca,Z.cad C=some Ca→keepIn Z.K (.ref Ca)=true∧makesIn Z.K Ca=true
 init:∀C q Ca,Z.tab.init C=some q→Z.cad C=some Ca→∃f,Z.fad q=some f∧findIn Z.K (.ref Ca) "__init__"=some (some (.ref f))∧typeIn Z.K (.ref f)=some (.type "function")
 meth:∀C m q Ca,Z.tab.meth C m=some q→Z.cad C=some Ca→∃f,Z.fad q=some f∧findIn Z.K (.ref Ca) m=some (some (.ref f))∧typeIn Z.K (.ref f)=some (.type "function")
noncomputable def CallOk (Z:Fix) (d:Nat) (call:Str→List V→St→KV→Prop):Prop:=
 ∀(A:Around),RoomC A d→∀q vs (c:Cfg Z) rs Q K,call q vs c.st Q→VRs c.ι c.h vs rs→∀a,Z.fad q=some a→Kon c Q K→
  codeAny (model Z.prog Z.w) A (.call (.ref a) ⟨rs,[]⟩) (fun r s=>∃o,r=.ok (.ret o)∧K o s) c.s
structure CxOk (Z:Fix) (nm:Str→Option Value) (A:Around) (sc:Scope) (c:Cx) (d:Nat):Prop where
 base:Base Z nm
 fns:Fns Z
 tab:c.tab=Z.tab
 sc:c.sc=sc
 room:Room A d
 call:CallOk Z d c.call
 nRange:nm "range"=some (.type "range")
 nEnum:nm "enumerate"=some (.type "enumerate")
 nList:nm "list"=some (.type "list")
 nSuper:nm "super"=some (.type "super")
 nSet:nm "set"=some (.type "set")
 nSorted:nm "sorted"=some (.builtin "sorted")
theorem lk_glob {k:Option NameKind} {P:Prop} (h:match k with|some .globalImplicit=>P|_=>False):k=some .globalImplicit∧P:=by
 rcases k with _|k
 ·exact False.elim h
 ·cases k<;>first|exact False.elim h|exact⟨rfl,h⟩
theorem Qu (h:glob c x P):(x==Str.ofString "__debug__")=false∧c.sc.names.lookup x=some .globalImplicit∧P:=by
 unfold glob at h
 cases q:x==Str.ofString "__debug__" with
 |true=>rw[q] at h;exact False.elim h
 |false=>rw[q] at h;exact⟨rfl,lk_glob h⟩
theorem Qt (B:Base Z nm) {x:Str} {v:Value} {pos:Pos} {c:Cfg Z} {l:Loc} {K:Value→Shared→Prop} (F:Frm sc env l c) (hk:sc.names.lookup x=some .globalImplicit) (hn:nm x=some v)
  (hd:(x==Str.ofString "__debug__")=false) (k:K v c.s):wpAny (model Z.prog Z.w) A (eval (.Name x pos) env) K Er c.s:=
 wpAny_Name (B.name x v hn c.s env A _ _ c.base F.glob F.blt F.kind (F.kGlob x hk) k) hd
theorem W9:∀{es:List Expr},es.all goodE=true→(backTo pos (starEach es env)).any (·.1)=false∧(backTo pos (starEach es env)).all (fun x=>!x.1)=true:=by
 intro l_
 induction l_ with
 |nil=>
  intro _
  exact⟨rfl,rfl⟩
 |cons e es ih_=>
  intro h
  rw[Qr (Qj h).1]
  exact ih_ (Qj h).2
theorem Ja8 {es:List Expr} {pos:Pos} {fv:Value} {c:Cfg Z} {l:Loc} {Q:List V→St→Prop} {K:Args→Shared→Prop} (H:SimF Z A sc env f) (hb:es.all goodE=true) (F:Frm sc env l c) (e:cAll (es.map f) l c.st Q)
  (k:KonL c Q fun rs=>K ⟨rs,[]⟩):wpAny (model Z.prog Z.w) A (evalArgs fv true (backTo pos (starEach es env)) []) K Er c.s:=by
 cases es with
 |nil=>exact evalArgs_nil3 (k c [] [] .refl rfl e)
 |cons a es=>
  have hL:=Jc6 H (pos:=pos) hb F e (K:=fun rs=>K ⟨rs,[]⟩) fun c' vs rs L R _ e'=>k c' vs rs L R e'
  rw[Qr (Qj hb).1] at hL ⊢
  exact evalArgs_plain hL
noncomputable def FnOk (Z:Fix) (f:Value):Prop:=(∃id,f=.builtin id)∨(∃T,f=.type T)∨keepIn Z.K f=true
theorem Qf (B:Base Z nm) {es:List Expr} {pos:Pos} {fv:Value} {first:List Value} {c:Cfg Z} {l:Loc} {Q:List V→St→Prop} {K:Value→Shared→Prop} (hf:FnOk Z fv) (H:SimF Z A sc env f) (hb:es.all goodE=true) (F:Frm sc env l c) (e:cAll (es.map f) l c.st Q)
  (k:KonL c Q fun rs=>wpAny (model Z.prog Z.w) A (call fv (first++rs)) K Er):wpAny (model Z.prog Z.w) A (callWith pos fv first (backTo pos (starEach es env)) []) K Er c.s:=by
 have hp:=(W9 (pos:=pos) (env:=env) hb).1
 rcases hf with ⟨id,rfl⟩|⟨T,rfl⟩|hk
 ·exact callWith_builtin hp (Ja8 H hb F e k)
 ·exact PyProof.Rows.callWith_type hp (Ja8 H hb F e k)
 ·exact callWith_of (P:=fun h=>Z.K.In h) (by rw[hp];rfl) (keeps_K hk) (Ja8 H hb F e fun c' vs rs L R e'=>⟨c'.K B,k c' vs rs L R e'⟩)
theorem Jei (O:CxOk Z nm A sc C d) {q:Str} {vs:List V} {c:Cfg Z} {Q:KV} {K:Value→Shared→Prop} {rs:List Value} (e:C.call q vs c.st Q) (R:VRs c.ι c.h vs rs) {a:Addr} (ha:Z.fad q=some a) (k:Kon c Q K):wpAny (model Z.prog Z.w) A (call (.ref a) rs) K Er c.s:=
 wpAny_call (codeAny_mono (O.call A O.room.call q vs c rs Q K e R a ha k) fun r s w2_=>x12 w2_ fun o h q=>by subst h;exact q)
noncomputable def Cfg.inst0 (c:Cfg Z) {C:Str} {Ca:Addr} (hc:Z.cad C=some Ca):Cfg Z:=
 c.alloc (.inst C []) ((c.h.push emptyDict).push (instObj Ca c.h.objs.size)) c.s.toks (c.h.objs.size+1,c.h.objs.size) (fun b o e=>keepPush b o (keepPush b o e)) (fun b hb=>hb.elim (fun z=>z▸c.off (Q0 _)) fun z=>z▸c.off (Jp _)) fun _=>
  ⟨Nat.succ_ne_self _,Ca,#[],0,hc,by rw[←Heap.size_push (o:=emptyDict)];exact Heap.get?_push_size _ rfl,keepPush _ _ (Heap.get?_push_size _ rfl),rfl⟩
theorem Cfg.inst0_le:Le c (c.inst0 hc):=Cfg.alloc_le fun b hb=>.inr (hb.elim (fun z=>z▸Q0 _) fun z=>z▸Jp _)
theorem Q3 (O:CxOk Z nm A sc C d) (H:SimF Z A sc env f) (hb:es.all goodE=true):Sim Z A sc env (eval (.Call (.Name x np) es [] pos) env) (cCallName C x (es.map f)):=fun c l F Q K e k=>by
 refine x03 (Qu e) fun hd hk e=>?_
 rw[O.sc] at hk
 rw[O.tab] at e
 have B:=O.base
 cases hq:Z.tab.gfn x with
 |some q=>
  rw[hq] at e
  refine x12 (B.gfn x q hq) fun a ha hn=>?_
  exact wpAny_Call_ofName (Qt B F hk hn hd (Qf B (.inr (.inr (O.fns.keep q a ha))) H hb F e fun c₁ vs rs L R e₁=>Jei O e₁ R ha (k.le L)))
 |none=>
  rw[hq] at e
  cases hC:Z.tab.gcls x with
  |some cl=>
   rw[hC] at e
   refine x12 (B.gcls x cl hC) fun Ca ha hn=>?_
   refine x02 (O.fns.ckeep cl Ca ha) fun ck mk=>?_
   refine wpAny_Call_ofName (Qt B F hk hn hd (Qf B (.inr (.inr ck)) H hb F e fun c₁ vs rs L R e₁=>wpAny_call ?_))
   refine x12 (J9 e₁) fun q hi e₁=>?_
   refine x13 (O.fns.init cl q Ca hi ha) fun fi hfi hfind hty=>?_
   refine make_core (h:=c₁.h) (g:=c₁.s.gens) (d:=c₁.s.drawn) (t:=c₁.s.toks) (os:=c₁.s.os) (makes_of (c₁.K B) mk) (looks_findIn (c₁.K B) hfind) (fun self=>bind_fn (c₁.K B) self hty) (.inl rfl) ?_
   have room:RoomC (A.under (.builtin "type.__call__" ⟨.ref Ca::rs,[]⟩)) d:=by
    refine x03 O.room fun r1 r2 r3=>?_
    refine⟨r1,?_,?_⟩
    ·show A.depth+Code.weight (.builtin "type.__call__" ⟨.ref Ca::rs,[]⟩)+5 * d<recursionLimit
     rw[show Code.weight (.builtin "type.__call__" ⟨.ref Ca::rs,[]⟩)=1 by kernel_rfl]
     omega
    ·show A.units+Code.cUnits (.builtin "type.__call__" ⟨.ref Ca::rs,[]⟩)+200 * d<cLine
     rw[show Code.cUnits (.builtin "type.__call__" ⟨.ref Ca::rs,[]⟩)=1 by kernel_rfl]
     omega
   have L₂:Le c₁ (c₁.inst0 ha):=Cfg.inst0_le
   have Rn:VR (c₁.inst0 ha).ι (c₁.inst0 ha).h (.ref c₁.st.size) (.ref (c₁.h.objs.size+1)):=c₁.ref_new (c₁.h.objs.size+1,c₁.h.objs.size)
   refine codeAny_mono (O.call _ room q (.ref c₁.st.size::vs) (c₁.inst0 ha) (.ref (c₁.h.objs.size+1)::rs) _ (fun o s=>o=.none∧K (.ref (c₁.h.objs.size+1)) s) e₁ ⟨_,_,rfl,Rn,R.up L₂.up⟩ fi hfi fun c₃ v r L₃ R₃ w5_=>x02 w5_ fun h1 h2=>?_) fun r s w2_=>x12 w2_ fun o h q=>by subst h;exact q
   subst h1
   exact⟨R₃,k c₃ _ _ ((L.trans L₂).trans L₃) (Rn.up L₃.up) h2⟩
  |none=>
   rw[hC] at e
   refine x12 (J9 e) fun b hbf e=>?_
   have fo:FnOk Z (bval b):=by cases b<;>first|exact .inl ⟨_,rfl⟩|exact .inr (.inl ⟨_,rfl⟩)
   exact wpAny_Call_ofName (Qt B F hk (B.gbf x b hq hC hbf) hd (Qf B fo H hb F e fun c₁ vs rs L R e₁=>fn_ok B O.room.1 O.room.small b R _ _ e₁ (k.le L)))
theorem Yy (hb:(!nullary o)=true) (hl:(apos.endLine==pos.line)=true) (hn:args.length≤20)
  (hp:(backTo pos (starEach args env)).all (fun x=>!x.1)=true)
  (h:wpAny (model Z.prog Z.w) A (eval o env) (fun ov s₁=>∀pl,wpAny (model Z.prog Z.w) A (getMethod ov name pl) (fun fm s₂=>wpAny (model Z.prog Z.w) A (callWith pos fm.1 fm.2 (backTo pos (starEach args env)) []) Q E s₂) E s₁) E s) :
  wpAny (model Z.prog Z.w) A (eval (.Call (.Attribute o name apos) args [] pos) env) Q E s:=by
 rw[arm_eval_Call,attrBase hb]
 refine wpAny_bind (wpAny_mono h (fun ov s₁ h₁=>wpAny_bind (wpAny_standAt ?_)) fun _ _ e=>e)
 have hform:methodCallForm (args.length+([]:List Keyword).length) (backTo pos (starEach args env)) (backToKw pos (keywordEach [] env))=true:=by
  unfold methodCallForm
  rw[hp]
  exact Bool.and_eq_true_iff.mpr ⟨rfl,decide_eq_true (show args.length+0+(if true=true then 0 else 1)<30 by rw[if_pos rfl];exact Nat.le_succ_of_le (ltK hn))⟩
 unfold methodCall
 rw[hform]
 exact wpAny_bind (wpAny_holding (wpAny_mono (h₁ _) (fun fm s₂ h₂=>wpAny_bind (wpAny_of_eq (by unfold methodCallPos;rw[hl];rfl) h₂)) fun _ _ e=>e))
theorem Jbk (O:CxOk Z nm A sc C d) (hc:(!nullary o&&(apos.endLine==pos.line)&&decide (es.length≤20)&&es.all goodE)=true) (H:SimF Z A sc env f) :
  Sim Z A sc env (eval (.Call (.Attribute o m apos) es [] pos) env) (cCallMeth C (f o) m (es.map f)):=fun c l F Q K e k=>by
 refine x02 (Bool.and_eq_true_iff.mp hc) fun hc hb=>?_
 refine x02 (Bool.and_eq_true_iff.mp hc) fun hc hn=>?_
 refine x02 (Bool.and_eq_true_iff.mp hc) fun hno hl=>?_
 have B:=O.base
 refine Yy hno hl (of_decide_eq_true hn) (W9 hb).2 (H o c l F _ _ e fun c₁ v u L₁ R₁ e₁ pl=>?_)
 rcases e₁ with ⟨i,cl,fs,q,rfl,hi,hsh,hq,e₁⟩|⟨T,b,id,hm,hid,hT,e₁⟩
 ·rw[O.tab] at hq
  refine x57 (c₁.inst R₁ hi) fun x dx Ca ents n ix q1_ hne hca g g' kf=>?_
  subst q1_
  have ok:=B.cls cl Ca hca
  refine x13 (O.fns.meth cl m q Ca hq hca) fun fa hf hfind hty=>?_
  have hs:shadowIn (some (dictO ents n)) m=some false:=by
   unfold shadowIn
   dsimp only
   rw[(kf.look (n:=n) (a:=m)).2 hsh];rfl
  exact method_fn (c₁.K B) (instAt g g') ok.ga ok.gattr hfind hty hs (Qf B (.inr (.inr (O.fns.keep q fa hf))) H hb (F.up L₁) e₁ fun c₂ vs rs L₂ R₂ e₂=>Jei O e₂ (rs:=.ref x::rs) ⟨_,_,rfl,R₁.up L₂.up,R₂⟩ hf (k.le (L₁.trans L₂)))
 ·obtain rfl:=Jhp hm
  exact Jb2 R₁ hT hid (Qf B (.inl ⟨_,rfl⟩) H hb (F.up L₁) e₁ fun c₂ vs rs L₂ R₂ e₂=>meth_ok B O.room.small (R₁.up L₂.up) R₂ hid _ _ e₂ (k.le (L₁.trans L₂)))
end Mine
namespace Mine
variable {Z:Fix} {A:Around} {sc:Scope} {env:Env} {nm:Str→Option Value} {f:Expr→X} {g:Expr→XB} {C:Cx} {d:Nat}
theorem Jd0 (O:CxOk Z nm A sc C d) (H:SimF Z A sc env f) (hb:es.all goodE=true) {P:Int→Int→St→Prop} {K:Value→Shared→Prop} (F:Frm sc env l c)
  (e:glob C "range" (cAll (es.map f) l c.st fun vs st=>rangeV vs fun a b=>P a b st))
  (k:∀c':Cfg Z,∀a b ra t u w,Le c c'→IsRange c'.h ra a b 1 t u w→(-cap<a∧a<cap∧b<cap∧-cap<b)→P a b c'.st→K (.ref ra) c'.s):wpAny (model Z.prog Z.w) A (eval (.Call (.Name "range" np) es [] pos) env) K Er c.s:=by
 refine x03 (Qu e) fun hd hk e=>?_
 rw[O.sc] at hk
 refine wpAny_Call_ofName (Qt O.base F hk O.nRange hd (Qf O.base (.inr (.inl ⟨_,rfl⟩)) H hb F e fun c₁ vs rs L R e₁=>?_))
 rcases e₁ with ⟨b,rfl,hb,e₁⟩|⟨a,b,rfl,hb,e₁⟩
 ·refine x12 R.one_inv fun r q1_ q2_=>?_
  subst q1_
  obtain ⟨t,rfl⟩:=q2_
  exact call_range_1 (k (c₁.grow _ _ keepPush) 0 b _ _ _ _ (L.trans Cfg.grow_le) (IsRange.new _ _ _ _ _ _ _) ⟨by decide,by decide,hb.1,hb.2⟩ e₁)
 ·refine x23 R.two_inv fun r r' q1_ q2_ q3_=>?_
  subst q1_
  obtain ⟨t,rfl⟩:=q2_
  obtain ⟨t',rfl⟩:=q3_
  exact call_range_2 (k (c₁.grow _ _ keepPush) a b _ _ _ _ (L.trans Cfg.grow_le) (IsRange.new _ _ _ _ _ _ _) hb e₁)
theorem Jeu (O:CxOk Z nm A sc C d) (H:SimF Z A sc env f) (hb:es.all goodE=true):SimI Z A sc env (eval (.Call (.Name "range" np) es [] pos) env) (iRange C (es.map f)):=fun c l F Q K e k=>
 Jd0 O H hb F e fun c' a b ra t u w L hr hb e'=>k c' _ _ L (.range hr hb) e'
theorem Jhg (O:CxOk Z nm A sc C d) (H:SimF Z A sc env f) (hb:es.all goodE=true):SimI Z A sc env (eval (.Call (.Name "enumerate" np) es [] pos) env) (iEnum C (es.map f)):=fun c l F Q K e k=>by
 refine x03 (Qu e) fun hd hk e=>?_
 rw[O.sc] at hk
 refine wpAny_Call_ofName (Qt O.base F hk O.nEnum hd (Qf O.base (.inr (.inl ⟨_,rfl⟩)) H hb F e fun c₁ vs rs L R w5_=>x23 w5_ fun x ws hvs hx e₁=>?_))
 subst hvs
 refine x12 R.one_inv fun r q1_ R1=>?_
 subst q1_
 refine x34 (c₁.list R1 hx) fun a its n ia q1_ gg kk=>?_
 subst q1_
 refine call_enumerate_list (items:=its) ⟨_,gg,rfl,n,rfl⟩ fun h' he hit hz hk=>?_
 exact k (c₁.grow h' c₁.s.toks hk) _ _ (L.trans Cfg.grow_le) (.enum (a:=a) ia he hit (Nat.succ_ne_self _) (fun b hb=>hb.elim (fun z=>z▸c₁.off (Q0 _)) fun z=>z▸c₁.off (Jp _)) (L.back _ (Q0 _)) (L.back _ (Jp _))) e₁
theorem Jgw:∀(l:List Value) (n k:Nat),l.length=n→(∀(i:Nat) v,l[i]?=some v→∃t,v=.int (a+((k+i:Nat):Int)) t)→VRs ι h (intL ((List.range' k n).map fun (i:Nat)=>a+(i:Int))) l:=by
 intro l_
 induction l_ with
 |nil=>
  intro n k hl _
  obtain rfl:=(show 0=n from hl);rfl
 |cons v l ih_=>
  intro n k hl hi
  cases n with
  |zero=>injection hl
  |succ n=>
   rw[List.range'_succ]
   refine x11 (hi 0 v rfl) fun t e=>?_
   exact⟨v,l,rfl,⟨t,e⟩,ih_ n (k+1) (Nat.succ.inj hl) fun i w hw=>x11 (hi (i+1) w hw) fun t e=>⟨t,by rw[e];congr 2;omega⟩⟩
theorem Jaj (O:CxOk Z nm A sc C d) (H:SimF Z A sc env f) (hb:es.all goodE=true) :
  Sim Z A sc env (eval (.Call (.Name "list" np) [.Call (.Name "range" np2) es [] p2] [] pos) env) (cListRange C (es.map f)):=fun c l F Q K e k=>by
 refine x03 (Qu e) fun hd hk e=>?_
 rw[O.sc] at hk
 refine wpAny_Call_ofName (Qt O.base F hk O.nList hd (PyProof.Rows.callWith_type rfl (evalArgs_plain (Calls.spliced_cons ?_))))
 show wpAny _ _ (if false=true then _ else eval (.Call (.Name "range" np2) es [] p2) env) _ _ _
 rw[if_neg Bool.false_ne_true]
 refine Jd0 O H hb F e fun c₁ a b ra t u w L hr hb e₁=>Calls.spliced_nil ?_
 refine x02 (Y2 hb) fun hsm hz=>?_
 refine call_list_range (n:=(b - a).toNat) O.room.1 hr hsm (by rw[hz];exact(Int.ofNat_toNat _).symm) (by unfold cap at *;omega) fun h' tk acc c' kk hD hit=>?_
 refine(k.le L).new (o':=.list (intL (rangeL a b))) tk kk (Jp _) (fun U=>⟨rfl,acc,c',hD,?_⟩) e₁
 refine x02 hit fun hs1 hs2=>?_
 unfold rangeL
 rw[List.range_eq_range']
 exact Jgw acc.toList (b - a).toNat 0 hs1 fun i v hv=>x11 (hs2 i v (by rwa [Array.getElem?_toList] at hv)) fun t e=>⟨t,by rw[e,Nat.zero_add,Int.mul_one]⟩
noncomputable def PRs (ι:Io) (h:Heap):List (V×V)→List (Value×Value)→Prop
 |[],rs=>rs=[]
 |e::es,rs=>∃r rs',rs=r::rs'∧(VR ι h e.1 r.1∧VR ι h e.2 r.2)∧PRs ι h es rs'
theorem PRs.cons_inv (q:PRs ι h (e::es) rs):∃r rs',rs=r::rs'∧(VR ι h e.1 r.1∧VR ι h e.2 r.2)∧PRs ι h es rs':=q
theorem PRs.up (U:Up ι h ι' h'):∀{es:List (V×V)} {rs:List (Value×Value)},PRs ι h es rs→PRs ι' h' es rs
 |[],_,q=>q
 |_::_,_,q=>x23 q fun r rs' e p00_ q=>x02 p00_ fun a b=>⟨r,rs',e,⟨a.up U,b.up U⟩,q.up U⟩
theorem Jky (H:SimF Z A sc env f):∀{ks vs:List Expr} {c:Cfg Z} {Q:List (V×V)→St→Prop} {K:List (Value×Value)→Shared→Prop},Frm sc env l c→cPairs (ks.map f) (vs.map f) l c.st Q→
  (∀c':Cfg Z,∀ps rs,Le c c'→PRs c'.ι c'.h ps rs→ps.length=ks.length→Q ps c'.st→K rs c'.s)→wpAny (model Z.prog Z.w) A (evalPairs (pairTrees (ks.map some) vs env pos)) K Er c.s:=by
 intro l_
 induction l_ with
 |nil=>
  intro w1_
  cases w1_ with
  |nil=>
   intro c Q K F e k
   exact pairTrees_nil_walk (k c [] [] .refl rfl rfl e)
  |cons x_ xs_=>
   intro _ _ _ _ e _
   exact e.elim
 |cons a ks ih_=>
  intro w1_
  cases w1_ with
  |nil=>
   intro _ _ _ _ e _
   exact e.elim
  |cons b vs=>
   intro c Q K F e k
   exact
  pairTrees_cons_walk (H a c l F _ _ e fun c₁ v₁ r₁ L₁ R₁ e₁=>H b c₁ l (F.up L₁) _ _ e₁ fun c₂ v₂ r₂ L₂ R₂ e₂=>ih_ (F.up (L₁.trans L₂)) e₂ fun c₃ ps rs L₃ R₃ hl e₃=>
   k c₃ ((v₁,v₂)::ps) _ ((L₁.trans L₂).trans L₃) ⟨_,rs,rfl,⟨R₁.up (L₂.trans L₃).up,R₂.up L₃.up⟩,R₃⟩ (congrArg Nat.succ hl) e₃)
theorem Jdi (es:List (V×V)) (k v:V):(dput es k v).length≤es.length+1:=by
 induction es with
 |nil=>exact Nat.le_refl _
 |cons e es ih=>unfold dput;split<;>(simp only [List.length_cons];omega)
theorem Jc3 (hu:A.units<cLine):∀{ps:List (V×V)} {rs:List (Value×Value)} {acc:List (V×V)} {n:Nat} {P:O→Prop} {c:Cfg Z} {K:PUnit→Shared→Prop},PRs c.ι c.h ps rs→dmake acc n ps P→acc.length+ps.length<cap→
  DictAt Z c.ι c.h D acc n→¬foot c.ι D∧Z.h₀.get? D=none→
  (∀c':Cfg Z,∀es m,c'.st=c.st→Evo (fun a=>a=D) c c'→¬foot c'.ι D∧Z.h₀.get? D=none→DictAt Z c'.ι c'.h D es m→P (.dict es m)→K PUnit.unit c'.s)→wpAny (model Z.prog Z.w) A (storeAll D rs) K Er c.s:=by
 intro l_
 induction l_ with
 |nil=>
  intro rs acc n P c K R e hz HD hf k
  obtain rfl:=(show rs=[] from R)
  exact wpAny_pure (k c acc n rfl .refl hf HD e)
 |cons x_ ps ih_=>
  obtain ⟨a,b⟩:=x_
  intro rs acc n P c K R v8_ hz HD hf k
  obtain ⟨ok,e⟩:=v8_
  refine x23 R.cons_inv fun r rs' q1_ q2_ R'=>?_
  subst q1_
  obtain ⟨R1,R2⟩:=q2_
  rw[List.length_cons] at hz
  show wpAny _ _ (forIn (r::rs') _ _) _ _ _
  rw[List.forIn_cons]
  have nt:NoTup c.h D:=let ⟨_,ents,he,_⟩:=HD;noTup he (Jc0 (by decide))
  refine wpAny_bind (wpAny_bind (Xz hu HD R1 R2 ok (Nat.lt_of_add_right_lt hz) (fun h' hs=>⟨⟨[],(List.append_nil _).symm⟩,fun x its n q=>(hs.2 x (by rintro rfl;exact nt _ _ q)).trans q⟩) fun h' t hs HD'=>wpAny_pure ?_))
  have E1:Evo (fun a=>a=D) c (c.turn D h' t hs.extBut hf nt):=Cfg.turn_le
  exact ih_ (c:=c.turn D h' t hs.extBut hf nt) (R'.up E1.up) e (by have:=Jdi acc a b;exact ls1 hz this) HD' hf fun c' es m h1 E' h2 h3 h4=>k c' es m h1 (E1.trans E') h2 h3 h4
theorem Jki {ks vs:List Expr} {pos:Pos} (hu:A.units+80<cLine) (H:SimF Z A sc env f):Sim Z A sc env (eval (.Dict (ks.map some) vs pos) env) (cDict (ks.map f) (vs.map f)):=fun c l F Q K w5_ k=>x02 w5_ fun hl e=>by
 rw[List.length_map,List.length_map] at hl
 have off:=c.off (Jp c.h)
 have L0:Le c (c.grow (c.h.push emptyDict) c.s.toks keepPush):=Cfg.grow_le
 have hD0:(c.h.push emptyDict).get? c.h.objs.size=some (dictO #[] 0):=Heap.get?_push_size _ rfl
 have fin:∀(c₁ c₂:Cfg Z) es m,Le c c₁→Evo (fun a=>a=c.h.objs.size) c₁ c₂→¬foot c₂.ι c.h.objs.size∧Z.h₀.get? c.h.objs.size=none→DictAt Z c₂.ι c₂.h c.h.objs.size es m→alloc (.dict es m) c₂.st Q→K (.ref c.h.objs.size) c₂.s:=fun c₁ c₂ es m L E hf HD q=>by
  refine k (c₂.alloc (.dict es m) c₂.h c₂.s.toks (c.h.objs.size,c.h.objs.size) (fun _ _ e=>e) (fun b hb=>by rw[hb.elim id id];exact hf) fun U=>⟨rfl,HD.up U rfl⟩) _ _ (((L.toW).trans (E.trans (Cfg.alloc_le fun b hb=>.inl (hb.elim id id)))).fresh fun a ha=>.inr (ha▸Jp _)) (c₂.ref_new (c.h.objs.size,c.h.objs.size)) q
 have HD:∀c₁:Cfg Z,c₁.h.get? c.h.objs.size=some (dictO #[] 0)→DictAt Z c₁.ι c₁.h c.h.objs.size [] 0:=fun c₁ q=>⟨List.nodup_nil,#[],q,rfl⟩
 cases ks with
 |nil=>
  cases vs with
  |cons _ _=>injection hl.2
  |nil=>exact wpAny_Dict_empty (fin _ _ [] 0 L0 .refl off (HD (c.grow (c.h.push emptyDict) c.s.toks keepPush) hD0) e)
 |cons a ks=>
  refine wpAny_Dict_any (by rw[List.all_map];exact List.all_eq_true.mpr fun _ _=>rfl) ((List.length_map ..).trans hl.2) (fun q=>nomatch q) (by rw[List.length_map];exact leK hl.1) (Jky (c:=c.grow (c.h.push emptyDict) c.s.toks keepPush) H (F.up L0) e fun c₁ ps rs L R hp e₁=>?_)
  have hD1:=L.keep _ _ hD0 off.1 id
  exact Jc3 (Nat.lt_of_add_right_lt hu) R e₁ (by rw[hp];show 0+_<cap;unfold cap;omega) (HD c₁ hD1) ⟨L.notFoot hD0 off.1 id,off.2⟩ fun c₂ es m hs E hf D q=>fin c₁ c₂ es m (L0.trans L) E hf D (hs▸q)
end Mine
namespace Mine
variable {Z:Fix} {A:Around} {sc:Scope} {env:Env} {nm:Str→Option Value} {f:Expr→X} {g:Expr→XB} {C:Cx} {d:Nat}
noncomputable def KonS (sc:Scope) (env:Env) (c:Cfg Z) (kn:Loc→St→Prop) (kr:KV) (K:Flow→Shared→Prop):Prop:=
 (∀c':Cfg Z,∀l',Evo (wOf sc env) c c'→Frm sc env l' c'→kn l' c'.st→K .next c'.s)∧∀c':Cfg Z,∀v r,Evo (wOf sc env) c c'→VR c'.ι c'.h v r→kr v c'.st→K (.ret r) c'.s
theorem KonS.le {kn:Loc→St→Prop} {K:Flow→Shared→Prop} (k:KonS sc env c kn kr K) (E:Evo (wOf sc env) c c'):KonS sc env c' kn kr K:=⟨fun d l M=>k.1 d l (E.trans M),fun d v r M=>k.2 d v r (E.trans M)⟩
noncomputable def SimS (Z:Fix) (A:Around) (sc:Scope) (env:Env) (t:Sem Flow) (x:XS):Prop:=∀(c:Cfg Z) l,Frm sc env l c→∀kn kr K,x l c.st kn kr→KonS sc env c kn kr K→wpAny (model Z.prog Z.w) A t K Er c.s
theorem Jdy:SimS Z A sc env (execs [] env) cSkip:=fun c l F _ _ _ e k=>wpAny_execs_nil (k.1 c l .refl F e)
theorem Jhf (ha:SimS Z A sc env (exec a env) x) (hs:SimS Z A sc env (execs ss env) y):SimS Z A sc env (execs (a::ss) env) (cSeq x y):=fun c l F _ _ _ e k=>
 wpAny_execs_cons (ha c l F _ _ _ e ⟨fun c' l' E F' e'=>hs c' l' F' _ _ _ e' (k.le E),fun c' v r E R q=>k.2 c' v r E R q⟩)
theorem Jhd:SimS Z A sc env (exec (.Pass pos) env) cSkip:=fun c l F _ _ _ e k=>wpAny_Pass (k.1 c l .refl F e)
theorem Jkm (H:Sim Z A sc env (eval e env) x):SimS Z A sc env (exec (.Return (some e) pos) env) (cRet x):=fun c l F _ _ _ q k=>
 wpAny_Return_some (H c l F _ _ q fun c' v r L R q=>k.2 c' v r L.toW R q)
theorem Jhc:SimS Z A sc env (exec (.Return none pos) env) (fun _ st _ kr=>kr .none st):=fun c l F _ _ _ q k=>wpAny_Return_none (k.2 c .none _ .refl rfl q)
theorem notInter (F:Frm sc env l c):interactive env=false:=by unfold interactive;rw[F.kind];rfl
theorem Zw (h:isComp e=false) (t:Option Expr):swapsWith e t line env=pure false:=by
 cases e<;>first|rfl|exact Bool.noConfusion h
theorem Jhe (hc:isComp e=false) (H:Sim Z A sc env (eval e env) x):SimS Z A sc env (exec (.Expr e pos) env) (cExpr x):=fun c l F _ _ _ q k=>
 wpAny_Expr_any (H c l F _ _ q fun c' v r L R q=>k.1 c' l L.toW (F.up L) q) (notInter F) (Zw hc none)
theorem simS_if (T:SimB Z A sc env (isTrue t env (eval t env)) xt) (ha:SimS Z A sc env (execs a env) xa) (hb:SimS Z A sc env (execs b env) xb):SimS Z A sc env (exec (.If t a b pos) env) (cIfS xt xa xb):=fun c l F _ _ _ e k=>
 wpAny_If (T c l F _ _ e fun c₁ q L₁ e₁=>by
  cases q with
  |true=>exact ha c₁ l (F.up L₁) _ _ _ e₁ (k.le L₁.toW)
  |false=>exact hb c₁ l (F.up L₁) _ _ _ e₁ (k.le L₁.toW))
theorem Jet (T:SimB Z A sc env (isTrue t env (eval t env)) xt) (ha:SimS Z A sc env (execs a env) xa):SimS Z A sc env (exec (.While t a [] pos) env) (cWhile xt xa):=fun c l F kn kr K w6_ k=>x12 w6_ fun I p00_ e=>x11 p00_ fun n hI=>by
 refine wpAny_While (codeAny_whileLoop (fun n s₁=>∃(c₁:Cfg Z) (l₁:Loc),c₁.s=s₁∧Evo (wOf sc env) c c₁∧Frm sc env l₁ c₁∧I n l₁ c₁.st) (fun n s₁ w2_=>x24 w2_ fun c₁ l₁ hs E₁ F₁ hI=>?_) n ⟨c,l,rfl,.refl,F,hI⟩)
 subst hs
 refine wpAny_mono (T c₁ l₁ F₁ _ (fun b s=>∃c':Cfg Z,c'.s=s∧Le c₁ c'∧bothP b (xa l₁ c'.st (fun l st=>∃m,m<n∧I m l st) kr) (kn l₁ c'.st)) (e n l₁ c₁.st hI) fun c₂ b L₂ e₂=>⟨c₂,rfl,L₂,e₂⟩) ?_ (fun _ _ f=>f.elim)
 rintro b s₂ ⟨c₂,rfl,L₂,e₂⟩
 cases b with
 |true=>
  rw[if_pos rfl]
  refine wpAny_mono (ha c₂ l₁ (F₁.up L₂) _ _ _ e₂ ⟨fun c₃ l₃ E₃ F₃ hm=>?n,fun c₃ v r E₃ R₃ q=>?r⟩) (fun _ _ h=>h) (fun _ _ f=>f.elim)
  case n=>exact x12 hm fun m hm hI=>⟨m,hm,c₃,l₃,rfl,E₁.trans (L₂.toW.trans E₃),F₃,hI⟩
  case r=>exact k.2 c₃ v r (E₁.trans (L₂.toW.trans E₃)) R₃ q
 |false=>exact wpAny_execs_nil (k.1 c₂ l₁ (E₁.trans L₂.toW) (F₁.up L₂) e₂)
inductive ForI (sc:Scope) (env:Env) (c:Cfg Z) (src:Src) (it:Addr) (W:Addr→Prop) (L:List V→Loc→St→Prop):Nat→Shared→Prop
 |mk {n j:Nat} {c₃:Cfg Z} {l₃:Loc} (E₃:Evo (fun b=>wOf sc env b∨W b) c c₃) (F₃:Frm sc env l₃ c₃) (I₃:ItAt c₃ src it W j) (W₃:Own c₃ W) (hn:n+j=src.all.length) (e₃:L (src.all.drop j) l₃ c₃.st):ForI sc env c src it W L n c₃.s
set_option tactic.hygienic true in
theorem Jkn (O:CxOk Z nm A sc C d) (hf:∀x,foldedSetIterable i env x=pure x) (hi:SimI Z A sc env (eval i env) xi) (ha:SimS Z A sc env (execs a env) xa):SimS Z A sc env (exec (.For t i a [] pos) env) (cFor C t xi xa):=fun c l F kn kr K e k=>by
 unfold cFor at e
 cases ht:tgOf t with
 |none=>rw[ht] at e;exact e.elim
 |some tg=>
  rw[ht,O.sc] at e
  dsimp only at e
  cases hown:tg.names.all (isLC sc) with
  |false=>rw[hown] at e;exact e.elim
  |true=>
   rw[hown] at e
   have own:∀x∈tg.names,ownVar sc x:=fun x hx=>Jeb (List.all_eq_true.mp hown x hx)
   refine wpAny_For (hi c l F _ _ e fun c₁ src x L₁ R₁ w5_=>x02 w5_ fun hp e₁=>Y4 O.base R₁ L₁.back fun it W c₂ hs₂ L₂ I₂ hW hfr=>?_) hf
   rw[←hs₂] at e₁
   have off:Off env W:=Off.of F hfr
   have nw:=off.wOf (sc:=sc)
   have htup:src.own=true→∃elts x pos,t=.Tuple elts x pos:=fun ho=>by
    refine Or.elim (Xn ht) (fun r0_=>?_) (fun r1_=>?_)
    ·refine x22 r0_ fun x q r0_1 r0_2=>?_
     subst r0_1
     subst r0_2
     cases src<;>first|(exact Bool.noConfusion ho;done)|exact False.elim hp
    ·refine x43 r1_ fun es kk q xs r1_1 _ _=>?_
     subst r1_1
     exact⟨_,_,_,rfl⟩
   have fin:∀{c₄:Cfg Z},Evo (fun b=>wOf sc env b∨W b) c c₄→Evo (wOf sc env) c c₄:=fun E=>E.fresh fun b hb=>hb.imp id (hfr b)
   refine codeAny_forLoop_any (ForI sc env c src it W fun r l st=>cForL sc src tg xa r l st kn kr) ?_ src.all.length (.mk (j:=0) (L₁.trans L₂).toW (F.up (L₁.trans L₂)) I₂ hW rfl e₁)
   rintro n _ ⟨E₃,F₃,I₃,W₃,hn,e₃⟩
   rename_i j c₃ l₃
   have hok:src.ok c₃.st:=by cases q:src.all.drop j<;>(rw[q] at e₃;exact e₃.1)
   refine Jar (target:=t) O.room.1 I₃ hok W₃ htup (fun h0 c₄ hs₄ E₄=>?_) fun v rv c₄ hv hs₄ E₄ W₄ R₄ I₄=>?_
   ·rw[List.drop_eq_nil_iff.mpr (List.getElem?_eq_none_iff.mp h0)] at e₃
    exact wpAny_execs_nil (k.1 c₄ l₃ (fin (E₃.trans (E₄.weaken fun b hb=>.inr hb))) (F₃.evo E₄ off) (hs₄▸e₃.2))
   ·have hj:=(List.getElem?_eq_some_iff.mp hv).1
    rw[List.drop_eq_getElem_cons hj,show src.all[j]=v from Option.some.inj ((List.getElem?_eq_getElem hj).symm.trans hv)] at e₃
    refine wpAny_mono (Zl O.base O.room.1 ht own (F₃.evo E₄ off) R₄ (hs₄▸e₃.2) fun c₅ l₅ hs₅ E₅ F₅ e₅=>?_) (fun _ _ h=>h) (fun _ _ f=>f.elim)
    have I₅:=I₄.evo E₅ fun b hb=>⟨(W₄ b hb).1,nw b hb⟩
    have W₅:=W₄.evo E₅ nw I₄.there
    have E₆:Evo (fun b=>wOf sc env b∨W b) c c₅:=(E₃.trans (E₄.weaken fun b hb=>.inr hb)).trans (E₅.weaken fun b hb=>.inl hb)
    refine wpAny_mono (ha c₅ l₅ F₅ _ _ _ (by rw[hs₅];exact e₅) ⟨fun c₆ l₆ E F₆ e₆=>?_,fun c₆ v r E R q=>?_⟩) (fun _ _ h=>h) (fun _ _ f=>f.elim)
    ·exact⟨n - 1,by omega,.mk (j:=j+1) (E₆.trans (E.weaken fun b hb=>.inl hb)) F₆ (I₅.evo E fun b hb=>⟨(W₅ b hb).1,nw b hb⟩) (W₅.evo E nw I₅.there) (by omega) e₆⟩
    ·exact k.2 c₆ v r (fin (E₆.trans (E.weaken fun b hb=>.inl hb))) R q
theorem Wx {K:Flow→Shared→Prop} (hsw:swapsWith value (some t) pos.line env=pure false) (hst:swappedStores [t] value env=pure none) (hns:assignEach [t] env=[(false,assign t env)])
  (h:wpAny (model Z.prog Z.w) A (eval value env) (fun v s₁=>wpAny (model Z.prog Z.w) A (assign t env v) (fun _=>K .next) Er s₁) Er s):wpAny (model Z.prog Z.w) A (exec (.Assign [t] value pos) env) K Er s:=
 wpAny_Assign_stores (wpAny_mono h (fun v s₁ h₁=>by rw[hns];exact h₁) fun _ _ e=>e) hsw hst
theorem Yj [BEq α]:∀(m:Nat) (l:List α),l.length≤m→l.eraseDups.length≤l.length:=by
 intro l_
 induction l_ with
 |zero=>
  intro w1_
  cases w1_ with
  |nil=>
   intro _
   rw[List.eraseDups_nil];exact Nat.le_refl _
  |cons x_ xs_=>
   intro h
   exact nomatch h
 |succ m ih_=>
  intro w1_
  cases w1_ with
  |nil=>
   intro _
   rw[List.eraseDups_nil];exact Nat.le_refl _
  |cons b l=>
   intro hl
   rw[List.eraseDups_cons,List.length_cons,List.length_cons]
   rw[List.length_cons] at hl
   have h1:=List.length_filter_le (fun x=>!x==b) l
   have h2:=ih_ (l.filter fun x=>!x==b) (Nat.le_trans h1 (Nat.le_of_lt_succ hl))
   exact Nat.lt_of_le_of_lt h2 (Nat.succ_le_succ h1)
theorem Wy [BEq α] [LawfulBEq α]:∀(n:Nat) (l:List α),l.length≤n→l.eraseDups.length=l.length→l.Nodup
 |_,[],_,_=>List.nodup_nil
 |0,_::_,h,_=>nomatch h
 |n+1,a::l,hl,he=>by
  rw[List.eraseDups_cons,List.length_cons,List.length_cons] at he
  rw[List.length_cons] at hl
  have h1:=Yj _ (l.filter fun x=>!x==a) (Nat.le_refl _)
  have h2:=List.length_filter_le (fun x=>!x==a) l
  have h4:l.filter (fun x=>!x==a)=l:=(List.filter_sublist).eq_of_length (by exact Nat.le_antisymm h2 (Nat.le_trans (Nat.le_of_eq (Nat.succ.inj he).symm) h1))
  rw[h4] at he
  rw[List.nodup_cons]
  refine⟨fun hm=>?_,Wy n l (Nat.le_of_lt_succ hl) (by omega)⟩
  rw[←h4] at hm
  have:=(List.mem_filter.mp hm).2
  rw[beq_self_eq_true] at this
  exact Bool.noConfusion this
theorem Zf {p:Str→Pos→Bool}:∀{es:List Expr} {xs:List Str},namesOnly es=some xs→(es.filterMap fun
  |.Name id pos=>if p id pos then some id else none
  |_=>none).Sublist xs∧es.length=xs.length:=by
 intro l_
 induction l_ with
 |nil=>
  intro xs h
  obtain rfl:=Option.some.inj h;exact⟨.slnil,rfl⟩
 |cons e es ih_=>
  intro xs h
  cases e with
  |Name x q=>
   refine x12 (Option.map_eq_some_iff.mp h) fun ys h1 h2=>?_
   subst h2
   refine x02 (ih_ h1) fun a b=>?_
   refine⟨?_,congrArg Nat.succ b⟩
   rw[List.filterMap_cons]
   dsimp only
   cases p x q with
   |true=>exact a.cons_cons _
   |false=>exact a.cons _
  |_=>exact Jc h
theorem Jag (hes:namesOnly es=some xs) (hc:(!vs.all (constantsAlone 8))=true):swappedStores [.Tuple es k q] (.Tuple vs k' q') env=pure none∨(swappedStores [.Tuple es k q] (.Tuple vs k' q') env=pure (some xs)∧xs.Nodup):=by
 unfold swappedStores
 dsimp only
 split
 ·exact .inl rfl
 split
 ·exact .inl rfl
 split
 ·exact .inl rfl
 rename_i h3
 split
 ·exact .inl rfl
 rw[if_neg (by rw[(Bool.not_eq_true' _).mp hc];exact Bool.false_ne_true)]
 have key:=Zf (p:=fun id pos=>env.kindOf id==some .local&&pos.line==(es.head?.map (·.pos.line)).getD 0) hes
 have h4:∀(ns:List Str),ns=(es.filterMap fun
   |.Name id pos=>if env.kindOf id==some .local&&pos.line==(es.head?.map (·.pos.line)).getD 0 then some id else none
   |_=>none)→¬((ns.length != es.length||ns.eraseDups.length != ns.length)=true)→ns=xs∧xs.Nodup:=by
  rintro ns rfl h
  rw[Bool.not_eq_true,Bool.or_eq_false_iff,bne_eq_false_iff_eq,bne_eq_false_iff_eq] at h
  have e:=key.1.eq_of_length (h.1.trans key.2)
  exact⟨e,e▸Wy _ _ (Nat.le_refl _) h.2⟩
 refine x02 (h4 _ rfl h3) fun h5 h6=>?_
 exact .inr ⟨congrArg (fun z=>(pure (some z):Sem (Option (List Str)))) h5,h6⟩
theorem Jhs (hx:sc.names.lookup x=some k) (hy:sc.names.lookup y=some k') (h:x≠y):lset sc (lset sc l x v) y w=lset sc (lset sc l y w) x v:=by
 unfold lset
 refine List.set_comm _ _ fun e=>h ?_
 refine x12 (Jle hx) fun p hp e1=>?_
 refine x12 (Jle hy) fun p' hp' e2=>?_
 cases (Option.some.inj (hp.symm.trans ((congrArg (sc.names[·]?) e).trans hp')))
 exact e1.symm.trans e2
theorem Jad (hx:sc.names.lookup x=some k):∀{xs:List Str} {vs:List V} {l:Loc} {Q:Loc→Prop},(∀y∈xs,∃k,sc.names.lookup y=some k)→x∉xs→bindN sc xs vs (lset sc l x v) Q→bindN sc xs vs l fun l=>Q (lset sc l x v)
 |[],[],_,_,_,_,e=>e
 |[],_::_,_,_,_,_,e=>e.elim
 |_::_,[],_,_,_,_,e=>e.elim
 |y::xs,w::vs,l,Q,hk,hn,e=>by
  refine x11 (hk y (.head _)) fun k' hy=>?_
  refine Jad hx (xs:=xs) (vs:=vs) (l:=lset sc l y w) (fun z hz=>hk z (.tail _ hz)) (fun h=>hn (.tail _ h)) ?_
  rw[←Jhs hx hy fun e=>hn (e▸.head _)]
  exact e
theorem Jfl:∀{xs:List Str} {vs:List V} {l:Loc} {Q:Loc→Prop},(bindN sc xs vs l fun l=>Q (lset sc l x v))→bindN sc (xs++[x]) (vs++[v]) l Q:=by
 intro l_
 induction l_ with
 |nil=>
  intro w1_
  cases w1_ with
  |nil=>
   intro _ _ e
   exact e
  |cons x_ xs_=>
   intro _ _ e
   exact e.elim
 |cons y xs ih_=>
  intro w1_
  cases w1_ with
  |nil=>
   intro _ _ e
   exact e.elim
  |cons w vs=>
   intro l Q e
   exact ih_ e
theorem Jiq:∀{xs:List Str} {vs:List V} {l:Loc} {Q:Loc→Prop},(∀y∈xs,∃k,sc.names.lookup y=some k)→xs.Nodup→bindN sc xs vs l Q→bindN sc xs.reverse vs.reverse l Q:=by
 intro l_
 induction l_ with
 |nil=>
  intro w1_
  cases w1_ with
  |nil=>
   intro _ _ _ _ e
   exact e
  |cons x_ xs_=>
   intro _ _ _ _ e
   exact e.elim
 |cons x xs ih_=>
  intro w1_
  cases w1_ with
  |nil=>
   intro _ _ _ _ e
   exact e.elim
  |cons v vs=>
   intro l Q hk nd e
   refine x11 (hk x (.head _)) fun k hx=>?_
   rw[List.nodup_cons] at nd
   rw[List.reverse_cons,List.reverse_cons]
   exact Jfl (ih_ (fun y hy=>hk y (.tail _ hy)) nd.2 (Jad hx (fun y hy=>hk y (.tail _ hy)) nd.1 e))
theorem Jbh:∀xs:List Str,Stores Z A env xs (xs.map fun x=>bindName env x):=by
 intro l_
 induction l_ with
 |nil=>
  exact .nil
 |cons x xs ih_=>
  exact .cons (fun r Q s h=>wpAny_bindName h) (ih_)
theorem ns_name (v:Expr):swappedStores [.Name y q] v env=pure none:=by cases v<;>rfl
theorem Jk1 (v:Expr) (h:¬∃vs k' q',v=.Tuple vs k' q'):swappedStores [.Tuple es k q] v env=pure none:=by
 cases v<;>first|rfl|exact absurd ⟨_,_,_,rfl⟩ h
theorem ns_attr (v:Expr):swappedStores [.Attribute o a q] v env=pure none:=by cases v<;>rfl
theorem sw_attr (v:Expr):swapsWith v (some (.Attribute o a q)) n env=pure false:=by cases v<;>rfl
theorem sw_sub (v:Expr):swapsWith v (some (.Subscript o i q)) n env=pure false:=by cases v<;>rfl
theorem Jj4 (v:Expr) (h:isComp v=true):swapsWith v (some (.Tuple es k q)) n env=pure false:=by
 cases v<;>first|rfl|exact Bool.noConfusion h
theorem sw_name (v:Expr) (h:isComp v=true) (hk:env.kindOf y=some .cell):swapsWith v (some (.Name y q)) n env=pure false:=by
 have e:∀a b c:Bool,(pure (a&&env.kindOf y==some .local&&b&&c):Sem Bool)=pure false:=fun a b c=>by
  rw[hk,show ((some NameKind.cell:Option NameKind)==some NameKind.local)=false from rfl,Bool.and_false,Bool.false_and,Bool.false_and]
 cases v<;>first|exact Bool.noConfusion h|exact e _ _ _
theorem Jc7 (O:CxOk Z nm A sc C d) (ht:tgOf t=some tg) (hv:valueOk C t value=true) (H:SimF Z A sc env f):SimS Z A sc env (exec (.Assign [t] value pos) env) (cAssign C tg (f value)):=fun c l F kn kr K e k=>by
 unfold cAssign at e
 rw[O.sc] at e
 cases hown:tg.names.all (isLC sc) with
 |false=>rw[hown] at e;exact e.elim
 |true=>
  rw[hown] at e
  have own:∀x∈tg.names,ownVar sc x:=fun x hx=>Jeb (List.all_eq_true.mp hown x hx)
  have hsw:swapsWith value (some t) pos.line env=pure false:=by
   by_cases hc:isComp value=true
   ·refine Or.elim (Xn ht) (fun r0_=>?_) (fun r1_=>?_)
    ·refine x22 r0_ fun y q r0_1 r0_2=>?_
     subst r0_1
     subst r0_2
     have hcell:sc.names.lookup y=some .cell:=by
      refine(own y (.head _)).resolve_left fun hl=>?_
      replace hv:(!(isComp value&&isL C.sc y))=true:=hv
      rw[hc,O.sc,show isL sc y=true by unfold isL;rw[hl]] at hv
      exact Bool.noConfusion hv
     exact sw_name value hc (F.kCell y hcell)
    ·refine x43 r1_ fun es kk q xs r1_1 _ _=>?_
     subst r1_1
     exact Jj4 value hc
   ·exact Zw (Bool.not_eq_true _▸hc) _
  have plain:swappedStores [t] value env=pure none→assignEach [t] env=[(false,assign t env)]→wpAny (model Z.prog Z.w) A (exec (.Assign [t] value pos) env) K Er c.s:=fun hsp hne=>
   Wx hsw hsp hne (H value c l F _ _ e fun c₁ v r L₁ R₁ e₁=>Zl O.base O.room.1 ht own (F.up L₁) R₁ e₁ fun c₂ l₂ hs E₂ F₂ e₂=>k.1 c₂ l₂ (L₁.toW.trans E₂) F₂ (by rw[hs];exact e₂))
  refine Or.elim (Xn ht) (fun r0_=>?_) (fun r1_=>?_)
  ·refine x22 r0_ fun y q r0_1 r0_2=>?_
   subst r0_1
   subst r0_2
   exact plain (ns_name value) rfl
  ·refine x43 r1_ fun es kk q xs r1_1 hes r1_2=>?_
   subst r1_1
   subst r1_2
   by_cases hval:∃vs k' q',value=.Tuple vs k' q'
   ·refine x31 hval fun vs k' q' q1_=>?_
    subst q1_
    refine Or.elim (Jag (k:=kk) (k':=k') (q:=q) (q':=q') (vs:=vs) (env:=env) hes hv) (fun hsp=>?_) (fun r1_=>?_)
    ·exact plain hsp rfl
    ·refine x02 r1_ fun hsp nd=>?_
     rw[exec_Assign_arm]
     refine wpAny_bind (wpAny_standAt ?_)
     rw[show swapsWithSole [.Tuple es kk q] (.Tuple vs k' q') pos.line env=swapsWith (.Tuple vs k' q') (some (.Tuple es kk q)) pos.line env from rfl,hsw]
     refine wpAny_bind (wpAny_pure ?_)
     rw[if_neg Bool.false_ne_true]
     refine wpAny_bind (H _ c l F _ _ e fun c₁ v r L₁ R₁ e₁=>?_)
     rw[hsp]
     refine wpAny_bind (wpAny_pure ?_)
     unfold assignStores
     refine wpAny_bind (wpAny_rule (wpAny_bind (Jbc O.base O.room.1 R₁ e₁ (fun vs h=>Zj h) fun ws rs c₂ h hs L₂ R₂=>?_)))
     have kN:KonN sc env c₂ (fun l=>kn l c₁.st) (fun _=>K .next):=fun c₃ l₃ hs₃ E₃ F₃ q=>k.1 c₃ l₃ ((L₁.trans L₂).toW.trans E₃) F₃ (by rw[hs₃,hs];exact q)
     exact wpAny_bind (wpAny_mono (Ja6 (fun x hx=>own x (List.mem_reverse.mp hx)) (Jbh xs.reverse) (F.up (L₁.trans L₂)) R₂.rev (Jiq (fun x hx=>(own x hx).elim (fun h=>⟨_,h⟩) fun h=>⟨_,h⟩) nd h) kN) (fun _ _ h=>wpAny_pure h) fun _ _ e=>e)
   ·exact plain (Jk1 value hval) rfl
theorem Jbm (O:CxOk Z nm A sc C d) (H:SimF Z A sc env f):SimS Z A sc env (exec (.Assign [.Attribute o a p] value pos) env) (cSetAttr C (f value) (f o) a):=fun c l F kn kr K e k=>
 Wx (sw_attr value) (ns_attr value) rfl (H value c l F _ _ e fun c₁ v r L₁ R₁ e₁=>by
  rw[arm_assign_Attribute]
  exact wpAny_bind (wpAny_holding (H o c₁ l (F.up L₁) _ _ e₁ fun c₂ v₂ r₂ L₂ R₂ e₂=>wpAny_bind (wpAny_standAt (wpAny_bind (wpAny_holding (Jez O.base a R₂ (R₁.up L₂.up) _ _ (O.tab▸e₂) fun c₃ L₃ e₃=>
   wpAny_release (k.1 c₃ l ((L₁.trans L₂).trans L₃).toW (F.up ((L₁.trans L₂).trans L₃)) e₃))))))))
theorem Jbl (hu:A.units+80<cLine) (B:Base Z nm) (H:SimF Z A sc env f):SimS Z A sc env (exec (.Assign [.Subscript o i p] value pos) env) (cSetItem (f value) (f o) (f i)):=fun c l F kn kr K e k=>
 wpAny_Assign_Subscript (H value c l F _ _ e fun c₁ v r L₁ R₁ e₁=>H o c₁ l (F.up L₁) _ _ e₁ fun c₂ v₂ r₂ L₂ R₂ e₂=>H i c₂ l (F.up (L₁.trans L₂)) _ _ e₂ fun c₃ v₃ r₃ L₃ R₃ e₃=>
  Jey B hu (R₂.up L₃.up) R₃ (R₁.up (L₂.trans L₃).up) _ _ e₃ fun c₄ L₄ e₄=>k.1 c₄ l (((L₁.trans L₂).trans L₃).trans L₄).toW (F.up (((L₁.trans L₂).trans L₃).trans L₄)) e₄) (sw_sub value)
theorem Jko (hu:A.units+80<cLine) (B:Base Z nm) (H:SimF Z A sc env f):SimS Z A sc env (exec (.Delete [.Subscript o i p] pos) env) (cDelItem (f o) (f i)):=fun c l F kn kr K e k=>
 wpAny_Delete (wpAny_deleteEach_cons (wpAny_delete_Subscript (H o c l F _ _ e fun c₂ v₂ r₂ L₂ R₂ e₂=>H i c₂ l (F.up L₂) _ _ e₂ fun c₃ v₃ r₃ L₃ R₃ e₃=>
  Jfe B hu (R₂.up L₃.up) R₃ _ _ e₃ fun c₄ L₄ e₄=>wpAny_deleteEach_nil (k.1 c₄ l ((L₂.trans L₃).trans L₄).toW (F.up ((L₂.trans L₃).trans L₄)) e₄))))
theorem Jak (H:SimF Z A sc env f):SimS Z A sc env (exec (.Delete [.Subscript o (.Slice (some i) none none sp) p] pos) env) (cDelSlice (f o) (f i)):=fun c l F kn kr K e k=>
 wpAny_Delete (wpAny_deleteEach_cons (wpAny_delete_Subscript (H o c l F _ _ e fun c₂ v₂ r₂ L₂ R₂ e₂=>wpAny_Slice (wpAny_evalPart_some (H i c₂ l (F.up L₂) _ _ e₂ fun c₃ v₃ r₃ L₃ R₃ e₃=>wpAny_evalPart_none (wpAny_evalPart_none (by
  have L₄:Le c₃ (c₃.grow (c₃.h.push (sliceO r₃ .none .none)) c₃.s.toks keepPush):=Cfg.grow_le
  exact Jdj (c:=c₃.grow (c₃.h.push (sliceO r₃ .none .none)) c₃.s.toks keepPush) (R₂.up (L₃.trans L₄).up) (R₃.up L₄.up) (Heap.get?_push_size _ rfl) _ _ e₃ fun c₅ L₅ e₅=>wpAny_deleteEach_nil (k.1 c₅ l (((L₂.trans L₃).trans L₄).trans L₅).toW (F.up (((L₂.trans L₃).trans L₄).trans L₅)) e₅))))))))
end Mine
namespace Mine
variable {Z:Fix} {A:Around} {sc:Scope} {env:Env} {nm:Str→Option Value} {C:Cx} {d:Nat}
theorem Jj3 (T:∀e,SimB Z A sc env (isTrue e env (eval e env)) (g e)):∀{es:List Expr} {r:Bool} {c:Cfg Z} {Q:Bool→St→Prop} {K:Bool→Shared→Prop},Frm sc env l c→bothP r (cAllT .And (es.map g) l c.st Q) (Q false c.st)→KonB c Q K→
  wpAny (model Z.prog Z.w) A (forIn es r fun c r=>if r=true then do let ok ←isTrue c env (eval c env);pure (ForInStep.yield ok) else pure (ForInStep.yield r)) K Er c.s:=by
 intro l_
 induction l_ with
 |nil=>
  intro r c Q K F e k
  rw[List.forIn_nil]
  cases r<;>exact wpAny_pure (k c _ .refl e)
 |cons a es ih_=>
  intro r c Q K F e k
  rw[List.forIn_cons]
  cases r with
  |false=>exact wpAny_bind (wpAny_pure (ih_ (r:=false) F e k))
  |true=>exact wpAny_bind (wpAny_bind (T a c l F _ _ e fun c₁ b L₁ e₁=>wpAny_pure (ih_ (r:=b) (F.up L₁) (by cases b<;>exact e₁) (k.le L₁))))
theorem Xc (I:Nat→Shared→Prop)
  (turn:∀n s,I n s→wpAny (model prog w) A (pyNext it) (fun r s₁=>match r with
   |none=>R (.ok .next) s₁
   |some v=>wpAny (model prog w) A (letOwnedTupleGo target it v) (fun _ s₁'=>wpAny (model prog w) A (assign target env v) (fun _ s₂=>
     wpAny (model prog w) A (forIn ifs true fun c r=>if r=true then do let ok ←isTrue c env (eval c env);pure (ForInStep.yield ok) else pure (ForInStep.yield r)) (fun ok s₃=>
      if ok=true then wpAny (model prog w) A (eval elt env) (fun x s₄=>
       wpAny (model prog w) A (call (.builtin "list.append") [acc,x]) (fun _ s₅=>∃m,m<n∧I m s₅) Er s₄) Er s₃
      else ∃m,m<n∧I m s₃) Er s₂) Er s₁') Er s₁) Er s)
  (n:Nat) (h:I n s) :
  codeAny (model prog w) A (.compLoop (.ListComp elt [⟨target,iter,ifs,0⟩] scope pos) 0 it acc env) R s:=by
 have er:∀{a:Value} {s:Shared} {P:Value→Shared→Prop},Er a s→P a s:=fun f=>f.elim
 refine codeAny_loop rfl I (fun n s hI=>?_) n h
 show wpAny _ A ((compTurn (.ListComp elt [⟨target,iter,ifs,0⟩] scope pos) 0 it acc env).onRaise (fun x=>do noteFrame x env;theTreesLotGoes x)) _ _ s
 refine wpAny_noted ?_
 rw[compTurn_list]
 refine wpAny_bind (wpAny_standAt (wpAny_bind (wpAny_mono (turn n s hI) (fun r s₁ h₁=>?_) fun _ _ h'=>er h')))
 cases r with
 |none=>exact wpAny_pure h₁
 |some v=>
  refine wpAny_bind (wpAny_mono h₁ (fun _ s₁' h₁'=>wpAny_bind (wpAny_mono h₁' (fun _ s₂ h₂=>wpAny_bind (wpAny_mono h₂ (fun ok s₃ h₃=>?_) fun _ _ h'=>er h')) fun _ _ h'=>er h')) fun _ _ h'=>er h')
  cases ok with
  |false=>exact wpAny_pure ⟨rfl,h₃⟩
  |true=>
   exact wpAny_bind (wpAny_bind (wpAny_mono h₃ (fun x s₄ h₄=>wpAny_bind (wpAny_mono h₄ (fun _ s₅ h₅=>wpAny_pure (wpAny_pure ⟨rfl,h₅⟩)) fun _ _ h'=>er h')) fun _ _ h'=>er h'))
theorem Zs:∀{names:List (Str×NameKind)},(names.map fun (n,k)=>if (k==NameKind.free&&env.scope.kind==.function&&env.kindOf n==some .cell) then (n,NameKind.cell) else (n,k)).lookup x =
  (names.lookup x).map fun k=>if (k==NameKind.free&&env.scope.kind==.function&&env.kindOf x==some .cell)=true then NameKind.cell else k:=by
 intro l_
 induction l_ with
 |nil=>
  exact rfl
 |cons x_ r ih_=>
  obtain ⟨n,k⟩:=x_
  show List.lookup x ((if (k==NameKind.free&&env.scope.kind==.function&&env.kindOf n==some .cell)=true then (n,NameKind.cell) else (n,k))::_)=_
  cases hx:x==n with
  |true=>
   obtain rfl:=eq_of_beq hx
   rw[List.lookup_cons (a:=x) (b:=k),beq_self_eq_true]
   cases q:(k==NameKind.free&&env.scope.kind==.function&&env.kindOf x==some .cell) with
   |true=>rw[if_pos rfl,List.lookup_cons,beq_self_eq_true];show _=some (if _ then _ else _);rw[q];rfl
   |false=>rw[if_neg Bool.false_ne_true,List.lookup_cons,beq_self_eq_true];show _=some (if _ then _ else _);rw[q];rfl
  |false=>
   rw[show List.lookup x ((n,k)::r)=List.lookup x r by rw[List.lookup_cons,hx],←ih_]
   split<;>rw[List.lookup_cons,hx]
theorem Ql:∀{l:List (Str×β)},l.lookup x=some v→(x,v)∈l:=by
 intro l_
 induction l_ with
 |nil=>
  intro h
  exact nomatch h
 |cons x_ l ih_=>
  obtain ⟨a,b⟩:=x_
  intro h
  rw[List.lookup_cons] at h
  cases q:x==a with
  |true=>rw[q] at h;obtain rfl:=Option.some.inj h;obtain rfl:=eq_of_beq q;exact .head _
  |false=>rw[q] at h;exact .tail _ (ih_ h)
theorem X8 {acc:List (Str×Addr)}:((n,c)::acc).lookup x=if x=n then some c else acc.lookup x:=by
 rw[List.lookup_cons]
 by_cases h:x=n
 ·subst h;rw[beq_self_eq_true,if_pos rfl]
 ·rw[beq_eq_false_iff_ne.mpr h,if_neg h]
theorem Jfi {env:Env}:∀(names:List (Str×NameKind)) (acc:List (Str×Addr)),(∀p∈names,p.2=.free→∃c,env.cells.lookup p.1=some c)→(∀x c,acc.lookup x=some c→env.cells.lookup x=some c)→
  ∃cl,(forIn names acc fun (p:Str×NameKind) (cs:List (Str×Addr))=>(if (p.2==.free)=true then do let c ←cellOf env p.1;pure (ForInStep.yield ((p.1,c)::cs)) else pure (ForInStep.yield cs):Sem (ForInStep (List (Str×Addr)))))=pure cl∧
   (∀x c,cl.lookup x=some c→env.cells.lookup x=some c)∧∀x,((acc.lookup x).isSome=true∨(x,NameKind.free)∈names)→(cl.lookup x).isSome=true:=by
 intro l_
 induction l_ with
 |nil=>
  intro acc _ ha
  exact⟨acc,List.forIn_nil ..,ha,fun x h=>h.elim id fun q=>(List.not_mem_nil q).elim⟩
 |cons x_ names ih_=>
  obtain ⟨n,k⟩:=x_
  intro acc hn ha
  rw[List.forIn_cons]
  by_cases hk:k=.free
  ·subst hk
   refine x11 (hn (n,.free) (.head _) rfl) fun c hc=>?_
   obtain ⟨cl,h1,h2,h3⟩:=ih_ ((n,c)::acc) (fun p hp=>hn p (.tail _ hp)) (fun x c' hx=>by
    rw[X8] at hx
    split at hx
    ·rename_i z;obtain rfl:=Option.some.inj hx;rw[z];exact hc
    ·exact ha x c' hx)
   refine⟨cl,?_,h2,fun x hx=>h3 x ?_⟩
   ·dsimp only
    rw[if_pos (by rfl),show cellOf env n=pure c by unfold cellOf;rw[hc],pure_bind,pure_bind]
    exact h1
   ·rw[X8]
    by_cases z:x=n
    ·rw[if_pos z];exact .inl rfl
    ·rw[if_neg z];exact hx.imp id fun q=>(List.mem_cons.mp q).resolve_left fun e=>z (congrArg Prod.fst e)
  ·refine x13 (ih_ acc (fun p hp=>hn p (.tail _ hp)) ha) fun cl h1 h2 h3=>?_
   refine⟨cl,?_,h2,fun x hx=>h3 x (hx.imp id fun q=>(List.mem_cons.mp q).resolve_left fun e=>hk (congrArg Prod.snd e).symm)⟩
   dsimp only
   rw[if_neg (fun q=>hk (eq_of_beq q)),pure_bind]
   exact h1
theorem Ja4 (h:∀p∈scope.names,p.2=.free→∃c,env.cells.lookup p.1=some c) :
  ∃cl,closureFor scope env=pure cl∧(∀x c,cl.lookup x=some c→env.cells.lookup x=some c)∧∀x,(x,NameKind.free)∈scope.names→(cl.lookup x).isSome=true:=by
 refine x13 (Jfi (env:=env) scope.names [] h (fun x c h=>by exact Jc h)) fun cl h1 h2 h3=>?_
 refine⟨cl,?_,h2,fun x hx=>h3 x (.inr hx)⟩
 unfold closureFor
 show (forIn scope.names [] _ >>= fun cs=>pure cs)=_
 rw[show (forIn scope.names ([]:List (Str×Addr)) _:Sem _)=pure cl from h1,pure_bind]
theorem ItAt.self (I:ItAt c src it W i) (ho:src.own=false) (h:Q (.ref it) c.s):wpAny (model Z.prog Z.w) A (pyIter (.ref it)) Q E c.s:=by
 cases I with
 |tup r g q=>exact wpAny_pyIter_tupleiter q h
 |str q=>exact wpAny_pyIter_striter_ascii q h
 |list x q=>exact wpAny_pyIter_listiter q h
 |dict x q hi=>exact wpAny_pyIter_keyiter q h
 |range q=>exact wpAny_pyIter_rangeiter q h
 |enum x he q ne=>exact Bool.noConfusion ho
structure CompOk (sc scope:Scope) (t:Tg):Prop where
 kind:scope.kind=.function
 target:∀x∈t.names,scope.names.lookup x=some .local
 names:∀p∈scope.names,(p.2=.local∧scope.names.lookup p.1=some .local)∨p.2=.globalImplicit∨(p.2=.free∧sc.names.lookup p.1=some .cell)
theorem Jim {k:Option NameKind} (h:(match k with|some .cell=>true|_=>false)=true):k=some .cell:=by
 rcases k with _|k
 ·exact absurd (show false=true from h) Bool.false_ne_true
 ·cases k<;>first|exact rfl|exact absurd (show false=true from h) Bool.false_ne_true
theorem Jii {scope:Scope} {t:Tg} (h:compOk sc scope t=true):CompOk sc scope t:=by
 unfold compOk at h
 refine x02 (Bool.and_eq_true_iff.mp h) fun h h3=>?_
 refine x02 (Bool.and_eq_true_iff.mp h) fun h1 h2=>?_
 refine⟨Jhu h1,fun x hx=>Jdc (List.all_eq_true.mp h2 x hx),fun p hp=>?_⟩
 have q:=List.all_eq_true.mp h3 p hp
 obtain ⟨n,k⟩:=p
 cases k<;>first|exact .inl ⟨rfl,Jdc q⟩|exact .inr (.inl rfl)|exact .inr (.inr ⟨rfl,Jim q⟩)|exact absurd (show false=true from q) Bool.false_ne_true
theorem Xk (hx:scope.names.lookup x=some k):lget scope (compLoc sc scope l) x=match scope.names.lookup x with|some .free=>lget sc l x|_=>none:=by
 refine x12 (Jle hx) fun p hp e=>?_
 unfold lget compLoc
 rw[List.getElem?_map,show scope.names[ix scope x]?=some p from hp]
 show (match scope.names.lookup p.1 with|some .free=>lget sc l p.1|_=>none:Option V)=_
 rw[e];rfl
theorem compFrm {scope:Scope} {t:Tg} {cl:List (Str×Addr)} {D:Addr} {l:Loc} {c:Cfg Z} (K:CompOk sc scope t) (F:Frm sc env l c) (hc1:∀x c,cl.lookup x=some c→env.cells.lookup x=some c) (hc2:∀x,(x,NameKind.free)∈scope.names→(cl.lookup x).isSome=true)
  (hC:¬foot c.ι D∧Z.h₀.get? D=none) (hn:c.h.Ns D fun _=>none) (hne:∀x a,env.cells.lookup x=some a→a≠D):Frm scope (compEnvC scope cl D env) (compLoc sc scope l) c:=by
 have kind:∀x,(compEnvC scope cl D env).kindOf x=(scope.names.lookup x).map fun k=>if (k==NameKind.free&&env.scope.kind==.function&&env.kindOf x==some .cell)=true then NameKind.cell else k:=fun x=>Zs
 have noCell:∀x,scope.names.lookup x≠some .cell:=fun x q=>by
  rcases K.names _ (Ql q) with ⟨h,-⟩|h|⟨h,-⟩<;>injection h
 refine⟨K.kind,F.glob,F.blt,List.length_map ..,fun x hx=>by rw[kind x,hx];rfl,fun x hx=>absurd hx (noCell x),fun x hx=>by rw[kind x,hx];rfl,hC,⟨_,hn,fun x v hx hv=>?_⟩,fun x hx=>absurd hx (noCell x),fun x v hx hv=>?_,fun x y c hx=>absurd hx (noCell x),fun x y c v hx=>absurd hx (noCell x),fun x c hx=>F.alive x c (hc1 x c hx)⟩
 ·rw[Xk hx,hx] at hv
  exact Jc hv
 ·rw[Xk hx,hx] at hv
  have hmem:=Ql hx
  rcases K.names _ hmem with ⟨q,-⟩|q|⟨-,hcell⟩
  ·injection q
  ·injection q
  ·refine x26 (F.cell x hcell) fun a u h1 h2 h3 h4 h5 h6=>?_
   refine x12 (h6 v hv) fun r q1_ hr=>?_
   subst q1_
   refine x11 (Option.isSome_iff_exists.mp (hc2 x hmem)) fun a' ha'=>?_
   cases (hc1 x a' ha').symm.trans h1
   exact⟨by rw[kind x,hx,Option.map_some,F.kind,F.kCell x hcell];rfl,_,r,ha',h2,h3,hne x _ h1,hr⟩
theorem Xl:∀{xs:List Str} {vs:List V} {l:Loc} {Q:Loc→Prop},l.length=sc.names.length→(∀x∈xs,∃k,sc.names.lookup x=some k)→bindN sc xs vs l Q→bindN sc xs vs l fun l'=>Q l'∧∀y,y∉xs→lget sc l' y=lget sc l y
 |[],[],_,_,_,_,e=>⟨e,fun _ _=>rfl⟩
 |[],_::_,_,_,_,_,e=>e.elim
 |_::_,[],_,_,_,_,e=>e.elim
 |x::xs,v::vs,l,Q,hl,hk,e=>by
  refine x11 (hk x (.head _)) fun k hx=>?_
  have:=Xl (xs:=xs) (vs:=vs) (l:=lset sc l x v) ((List.length_set ..).trans hl) (fun y hy=>hk y (.tail _ hy)) e
  have e2:(fun l'=>Q l'∧∀y,y∉xs→lget sc l' y=lget sc (lset sc l x v) y)=fun l'=>(Q l'∧∀y,y∉x::xs→lget sc l' y=lget sc l y)∧∀y,y∉xs→lget sc l' y=lget sc (lset sc l x v) y:=by
   funext l'
   exact propext ⟨fun h=>⟨⟨h.1,fun y hy=>(h.2 y fun q=>hy (.tail _ q)).trans ((Ww hl hx).2 y fun q=>hy (q▸.head _))⟩,h.2⟩,fun h=>⟨h.1.1,h.2⟩⟩
  rw[e2] at this
  exact bindN_and this
where bindN_and:∀{xs:List Str} {vs:List V} {l:Loc} {P Q:Loc→Prop},(bindN sc xs vs l fun l=>P l∧Q l)→bindN sc xs vs l P
 |[],[],_,_,_,e=>e.1
 |[],_::_,_,_,_,e=>e.elim
 |_::_,[],_,_,_,e=>e.elim
 |x::xs,v::vs,l,P,Q,e=>bindN_and (xs:=xs) (vs:=vs) (l:=lset sc l x v) e
theorem Jdl {t:Tg} {v:V} {l:Loc} {st:St} {Q:Loc→Prop} (hl:l.length=sc.names.length) (hk:∀x∈t.names,∃k,sc.names.lookup x=some k) (e:bindT sc t v l st Q):bindT sc t v l st fun l'=>Q l'∧∀y,y∉t.names→lget sc l' y=lget sc l y:=by
 cases t with
 |one x=>obtain ⟨k,hx⟩:=hk x (.head _);exact⟨e,fun y hy=>(Ww hl hx).2 y fun q=>hy (q▸.head _)⟩
 |many xs=>
  cases v with
  |tup vs=>exact Xl hl hk e
  |ref x=>exact x12 e fun vs hx e=>⟨vs,hx,Xl hl hk e⟩
  |_=>exact e.elim
theorem Jit (hD:s.heap.get? D=some (listO its n)) (hz:its.size≤sizeLine)
  (h:∀h' n',Heap.SameBut D s.heap h'→h'.get? D=some (listO (its.push x) n')→Q .none {s with heap:=h'}):wpAny (model Z.prog Z.w) A (call (.builtin "list.append") [.ref D,x]) Q E s:=
 call_meets PySem.F.slot_list_append ⟨_,hD,rfl⟩ PySem.F.entry_list_append (PySem.F.args_list_append_2 _ _) (PySem.list_append D its n x hz) ⟨hD,h _ _ (Heap.SameBut.update ..) (Heap.get?_update_self _ hD rfl)⟩
theorem Frm.less (F:Frm sc env l' c) (hn:l.length=sc.names.length) (hl:∀x k v,sc.names.lookup x=some k→lget sc l x=some v→lget sc l' x=some v):Frm sc env l c:=
 ⟨F.kind,F.glob,F.blt,hn,F.kLoc,F.kCell,F.kGlob,F.lown,let ⟨m,h1,h2⟩:=F.ns;⟨m,h1,fun x v hx hv=>h2 x v hx (hl x _ v hx hv)⟩,fun x hx=>let ⟨c,u,a,b,d,e,f,g⟩:=F.cell x hx;⟨c,u,a,b,d,e,f,fun v hv=>g v (hl x _ v hx hv)⟩,
  fun x v hx hv=>F.free x v hx (hl x _ v hx hv),F.apart,fun x y c v h1 h2 h3=>F.sep x y c v h1 h2 (hl y _ v h2 h3),F.alive⟩
end Mine
namespace Mine
variable {Z:Fix} {A:Around} {sc:Scope} {env:Env} {nm:Str→Option Value} {C:Cx} {d:Nat}
inductive CompI (c₄:Cfg Z) (D N:Addr) (W:Addr→Prop) (scope:Scope) (env':Env) (l':Loc) (src:Src) (it:Addr) (L:List V→List V→St→Prop):Nat→Shared→Prop
 |mk {n j:Nat} {c₅:Cfg Z} {acc:List V} {its:Array Value} {m:Nat} (E₅:Evo (fun b=>b=D∨b=N∨W b) c₄ c₅) (F₅:Frm scope env' l' c₅) (I₅:ItAt c₅ src it W j) (W₅:Own c₅ (fun b=>b=D∨b=N∨W b)) (D₅:c₅.h.get? D=some (listO its m)) (R₅:VRs c₅.ι c₅.h acc its.toList) (hn:n+j=src.all.length) (e₅:L (src.all.drop j) acc c₅.st):CompI c₄ D N W scope env' l' src it L n c₅.s
set_option tactic.hygienic true in
theorem Jih (O:CxOk Z nm A sc C d) {elt t iter:Expr} {ifs:List Expr} {scope:Scope} {pos:Pos} {g:Expr→XB} {xe:X} {tg:Tg} (ht:tgOf t=some tg)
  (T:∀env' e,SimB Z A scope env' (isTrue e env' (eval e env')) (g e)) (He:∀env',Sim Z A scope env' (eval elt env') xe) (P:CompOk sc scope tg) {cl:List (Str×Addr)} {c c₄:Cfg Z} {l:Loc} {src:Src} {it D N:Addr} {W:Addr→Prop} {Q:KV} {K:Value→Shared→Prop}
  (hown:src.own=false) (hDC:D≠N) (nWD:¬W D) (nWN:¬W N) (onlyN:∀b,wOf scope (compEnvC scope cl N env) b→b=N) (offW:Off (compEnvC scope cl N env) W) (offD:Off (compEnvC scope cl N env) (fun b=>b=D)) (ownD:Z.h₀.get? D=none) (ownC:Z.h₀.get? N=none)
  (f1:c.h.get? D=none) (f2:c.h.get? N=none) (hfr:∀b,W b→c.h.get? b=none) (L04:Le c c₄) (F4:Frm scope (compEnvC scope cl N env) (compLoc sc scope l) c₄) (I4:ItAt c₄ src it W 0) (own0:Own c₄ (fun b=>b=D∨b=N∨W b)) (hD1:c₄.h.get? D=some (listO #[] 0))
  (e4:compL scope src tg (cAllT .And (ifs.map g)) xe (compLoc sc scope l) src.all [] c₄.st fun vs st=>Mine.alloc (.list vs) st Q) (k:Kon c Q K) :
  codeAny (model Z.prog Z.w) A (.compLoop (.ListComp elt [⟨t,iter,ifs,0⟩] scope pos) 0 (.ref it) (.ref D) (compEnvC scope cl N env)) (compPost (model Z.prog Z.w) A Er none K (.ref D) N) c₄.s:=by
 refine Xc (CompI c₄ D N W scope (compEnvC scope cl N env) (compLoc sc scope l) src it fun rest acc st=>compL scope src tg (cAllT .And (ifs.map g)) xe (compLoc sc scope l) rest acc st fun vs st=>Mine.alloc (.list vs) st Q) ?_ src.all.length (.mk (j:=0) (c₅:=c₄) (acc:=[]) (its:=#[]) (m:=0) .refl F4 I4 own0 hD1 rfl rfl e4)
 rintro n _ ⟨E₅,F₅,I₅,W₅,D₅,R₅,hn,e₅⟩
 rename_i j c₅ acc its m
 have hok2:src.ok c₅.st:=by cases q:src.all.drop j<;>(rw[q] at e₅;exact e₅.1)
 have nfD:=(W₅ D (.inl rfl)).1
 refine Jar (target:=t) O.room.1 I₅ hok2 (fun b hb=>W₅ b (.inr (.inr hb))) (fun h=>by rw[hown] at h;exact Bool.noConfusion h) (fun h0 c₆ hs₆ E₆=>?_) fun v rv c₆ hv hs₆ E₆ W₆ R₆ I₆=>?_
 ·rw[List.drop_eq_nil_iff.mpr (List.getElem?_eq_none_iff.mp h0)] at e₅
  refine x12 ((F₅.evo E₆ offW).ns) fun mm hn6 _=>?_
  refine⟨mm,hn6,fun h' hsb=>?_⟩
  have D₆:=E₆.keep D _ D₅ nfD nWD
  have own6:¬foot c₆.ι N∧Z.h₀.get? N=none:=⟨x12 F₅.ns fun _ p00_ _=>x32 p00_ fun _ _ _ e _=>E₆.notFoot e (W₅ N (.inr (.inl rfl))).1 nWN,ownC⟩
  have E67:Evo (fun b=>b=N) c₆ (c₆.turn N h' c₆.s.toks hsb.extBut own6 (Yt hn6)):=Cfg.turn_le
  have D₇:h'.get? D=some (listO its m):=hsb.extBut D _ hDC D₆
  have nf7:¬foot c₆.ι D:=E₆.notFoot D₅ nfD nWD
  have R₇:=(R₅.up E₆.up).up E67.up
  refine k ((c₆.turn N h' c₆.s.toks hsb.extBut own6 (Yt hn6)).alloc (.list acc) h' c₆.s.toks (D,D) (fun _ _ e=>e) (fun b hb=>by rw[hb.elim id id];exact⟨nf7,ownD⟩) fun U=>⟨rfl,its,m,D₇,R₇.up U⟩) _ _ ?_ (Cfg.ref_new (c₆.turn N h' c₆.s.toks hsb.extBut own6 (Yt hn6)) (D,D)) ?_
  ·refine((((L04.toW.trans E₅).trans (E₆.weaken fun b hb=>.inr (.inr hb))).trans (E67.weaken fun b hb=>.inr (.inl hb))).trans (Cfg.alloc_le fun b hb=>.inl (.inl (hb.elim id id)))).fresh fun b hb=>.inr ?_
   exact hb.elim (fun z=>z▸f1) fun hb=>hb.elim (fun z=>z▸f2) (hfr b)
  ·have e6:Mine.alloc (.list acc) c₆.st Q:=by rw[hs₆];exact e₅.2
   exact e6
 ·have hj:=(List.getElem?_eq_some_iff.mp hv).1
  rw[List.drop_eq_getElem_cons hj,show src.all[j]=v from Option.some.inj ((List.getElem?_eq_getElem hj).symm.trans hv)] at e₅
  have F₆:=F₅.evo E₆ offW
  have tnames:∀x∈tg.names,∃k,scope.names.lookup x=some k:=fun x hx=>⟨_,P.target x hx⟩
  have hlen:(compLoc sc scope l).length=scope.names.length:=List.length_map ..
  refine wpAny_mono (Zl O.base O.room.1 ht (fun x hx=>.inl (P.target x hx)) F₆ R₆ (Jdl hlen tnames (hs₆▸e₅.2)) fun c₇ l₇ hs₇ E₇ F₇ w5_=>x02 w5_ fun e₇ ho=>?_) (fun _ _ h=>h) (fun _ _ f=>f)
  have less:∀x k v,scope.names.lookup x=some k→lget scope (compLoc sc scope l) x=some v→lget scope l₇ x=some v:=fun x kk w hx hw=>by
   refine(ho x fun hm=>?_).trans hw
   rw[Xk hx,P.target x hm] at hw
   exact Jc hw
  have D₇:=E₇.keep D _ (E₆.keep D _ D₅ nfD nWD) (E₆.notFoot D₅ nfD nWD) (fun q=>hDC (onlyN D q))
  have nf7:=E₇.notFoot (E₆.keep D _ D₅ nfD nWD) (E₆.notFoot D₅ nfD nWD) (fun q=>hDC (onlyN D q))
  have nN:∀b,W b→¬wOf scope (compEnvC scope cl N env) b:=fun b hb q=>nWN (onlyN b q▸hb)
  have I₇:=I₆.evo E₇ fun b hb=>⟨(W₆ b hb).1,nN b hb⟩
  have nf7N:¬foot c₇.ι N:=F₇.lown.1
  have W₇:Own c₇ (fun b=>b=D∨b=N∨W b):=fun b hb=>hb.elim (fun z=>z▸⟨nf7,ownD⟩) fun hb=>hb.elim (fun z=>z▸⟨nf7N,ownC⟩) (W₆.evo E₇ nN I₆.there b)
  have R₇:=(R₅.up E₆.up).up E₇.up
  have E57:Evo (fun b=>b=D∨b=N∨W b) c₄ c₇:=(E₅.trans (E₆.weaken fun b hb=>.inr (.inr hb))).trans (E₇.weaken fun b hb=>.inr (.inl (onlyN b hb)))
  have all7:∀b,(b=D∨b=N∨W b)→∃ob,c₇.h.get? b=some ob:=fun b hb=>hb.elim (fun z=>⟨_,z▸D₇⟩) fun hb=>hb.elim (fun z=>z▸x12 F₇.ns fun _ p00_ _=>x32 p00_ fun ob _ _ q _=>⟨ob,q⟩) (I₇.there b)
  refine Jj3 (T (compEnvC scope cl N env)) (r:=true) F₇ (by rw[hs₇];exact e₇) fun c₈ b L₈ e₈=>?_
  have D₈:=L₈.keep D _ D₇ nf7 id
  have I₈:=I₇.evo L₈ fun b hb=>⟨(W₇ b (.inr (.inr hb))).1,id⟩
  have W₈:=W₇.evo L₈ (fun b _=>id) all7
  have R₈:=R₇.up L₈.up
  cases b with
  |false=>
   rw[if_neg Bool.false_ne_true]
   exact⟨n - 1,by omega,.mk (j:=j+1) (its:=its) (m:=m) (E57.trans L₈.toW) ((F₇.up L₈).less hlen less) I₈ W₈ D₈ R₈ (by omega) e₈⟩
  |true=>
   rw[if_pos rfl]
   refine He _ c₈ l₇ (F₇.up L₈) _ _ e₈ fun c₉ y r L₉ R₉ w5_=>x02 w5_ fun hcap e₉=>?_
   have D₉:=L₉.keep D _ D₈ (W₈ D (.inl rfl)).1 id
   have W₉:=W₈.evo L₉ (fun b _=>id) fun b hb=>x11 (all7 b hb) fun o e=>L₈.alive b o e id
   refine Jit D₉ (by rw[Ju R₈];exact Jl hcap) fun h' n' hsb D'=>?_
   have ntD:NoTup c₉.h D:=noTup D₉ (Jc0 (by decide))
   have EA:Evo (fun b=>b=D) c₉ (c₉.turn D h' c₉.s.toks hsb.extBut ⟨(W₉ D (.inl rfl)).1,ownD⟩ ntD):=Cfg.turn_le
   refine⟨n - 1,by omega,.mk (j:=j+1) (c₅:=c₉.turn D h' c₉.s.toks hsb.extBut ⟨(W₉ D (.inl rfl)).1,ownD⟩ ntD) (acc:=acc++[y]) (its:=its.push r) (m:=n') ((E57.trans (L₈.trans L₉).toW).trans (EA.weaken fun b hb=>.inl hb)) (((F₇.up (L₈.trans L₉)).evo EA offD).less hlen less)
    ((I₈.evo L₉ fun b hb=>⟨(W₈ b (.inr (.inr hb))).1,id⟩).evo EA fun b hb=>⟨(W₉ b (.inr (.inr hb))).1,fun q=>nWD (q▸hb)⟩) W₉ D' ?_ (by omega) e₉⟩
   rw[Array.toList_push]
   exact VRs.append (.one (R₉.up EA.up)) ((R₈.up L₉.up).up EA.up)
theorem Jkj (O:CxOk Z nm A sc C d) {elt t iter:Expr} {ifs:List Expr} {scope:Scope} {pos:Pos} {xi:XI} {g:Expr→XB} {xe:X} (hf:∀x,foldedSetIterable iter env x=pure x) (hi:SimI Z A sc env (eval iter env) xi)
  (T:∀env' e,SimB Z A scope env' (isTrue e env' (eval e env')) (g e)) (He:∀env',Sim Z A scope env' (eval elt env') xe):Sim Z A sc env (eval (.ListComp elt [⟨t,iter,ifs,0⟩] scope pos) env) (cComp C scope t xi (cAllT .And (ifs.map g)) xe):=fun c l F Q K e k=>by
 unfold cComp at e
 cases ht:tgOf t with
 |none=>rw[ht] at e;exact e.elim
 |some tg=>
  rw[ht,O.sc] at e
  dsimp only at e
  cases hok:compOk sc scope tg with
  |false=>rw[hok] at e;exact e.elim
  |true=>
   rw[hok] at e
   have P:=Jii hok
   obtain ⟨cl,hclo,hc1,hc2⟩:=Ja4 (scope:=scope) (env:=env) fun p hp hk=>by
    rcases P.names p hp with ⟨q,-⟩|q|⟨-,q⟩
    ·rw[hk] at q;injection q
    ·rw[hk] at q;injection q
    ·exact x22 (F.cell p.1 q) fun a u h1 _=>⟨a,h1⟩
   rw[eval_ListComp]
   refine wpAny_comprehension_free (use:=none) rfl hf hclo P.kind (fun x hx hk=>?_) (hi c l F _ _ e fun c₁ src x L₁ R₁ w5_=>x02 w5_ fun hown e₁=>?_)
   ·rcases P.names x hx with ⟨-,q⟩|q|⟨q,-⟩
    ·exact q
    ·rw[hk] at q;injection q
    ·rw[hk] at q;injection q
   refine Y4 O.base R₁ L₁.back fun it W c₂ hs₂ L₂ I₂ hW hfr=>?_
   rw[←hs₂] at e₁
   have L02:=L₁.trans L₂
   refine wpAny_newObj_type (wpAny_newFunctionEnv (fun y hy=>?_) (by intro y hy;exact(List.not_mem_nil hy).elim) (fun h₁ hns₁ hsb₁=>?_) P.kind)
   ·rcases P.names y hy with ⟨q,-⟩|q|⟨q,-⟩<;>rw[q]<;>decide
   dsimp only at hns₁ hsb₁ ⊢
   rw[show (c₂.h.push {cls:=.type "list",data:=.seq ([]:List Value).toArray}).objs.size=c₂.h.objs.size+1 from Heap.size_push ..] at hns₁ hsb₁ ⊢
   have f1:c₂.h.get? c₂.h.objs.size=none:=Jp _
   have f2:c₂.h.get? (c₂.h.objs.size+1)=none:=Q0 _
   have hDC:c₂.h.objs.size≠c₂.h.objs.size+1:=(Nat.succ_ne_self _).symm
   have k1:∀a o,c₂.h.get? a=some o→h₁.get? a=some o:=fun a o e=>hsb₁.extBut a o (fun z=>Jh (z▸e) f2) (keepPush _ _ (keepPush _ _ e))
   have hD1:h₁.get? c₂.h.objs.size=some (listO #[] 0):=hsb₁.extBut _ _ hDC (keepPush _ _ (Heap.get?_push_size c₂.h rfl))
   have ownD:=c₂.off f1
   have ownC:=c₂.off f2
   have F₂:=F.up L02
   have cellN:∀x a,env.cells.lookup x=some a→a≠(c₂.h.objs.size+1):=fun x a hx z=>x11 (F₂.alive x a hx) fun o e=>Jh (z▸e) f2
   have cellD:∀x a,env.cells.lookup x=some a→a≠c₂.h.objs.size:=fun x a hx z=>x11 (F₂.alive x a hx) fun o e=>Jh (z▸e) f1
   have nWD:¬W c₂.h.objs.size:=fun q=>x11 (I₂.there c₂.h.objs.size q) fun o e=>Jh e f1
   have nWN:¬W (c₂.h.objs.size+1):=fun q=>x11 (I₂.there (c₂.h.objs.size+1) q) fun o e=>Jh e f2
   have noCell:∀x,scope.names.lookup x≠some .cell:=fun x q=>by rcases P.names _ (Ql q) with ⟨h,-⟩|h|⟨h,-⟩<;>injection h
   have L4:Le c₂ (c₂.grow h₁ (c₂.s.toks+([]:List (Str×Value)).length) k1):=Cfg.grow_le
   have F4:Frm scope (compEnvC scope cl (c₂.h.objs.size+1) env) (compLoc sc scope l) (c₂.grow h₁ (c₂.s.toks+([]:List (Str×Value)).length) k1):=compFrm P (F₂.up L4) hc1 hc2 ownC hns₁ cellN
   have I4:=I₂.evo L4 (fun b hb=>⟨(hW b hb).1,id⟩)
   have offW:Off (compEnvC scope cl (c₂.h.objs.size+1) env) W:=⟨nWN,fun x a hx q=>(Off.of F hfr).2 x a (hc1 x a hx) q⟩
   have onlyN:∀b,wOf scope (compEnvC scope cl (c₂.h.objs.size+1) env) b→b=(c₂.h.objs.size+1):=fun b h=>h.elim id fun w0_=>x12 w0_ fun x hx _=>absurd hx (noCell x)
   have offD:Off (compEnvC scope cl (c₂.h.objs.size+1) env) (fun b=>b=c₂.h.objs.size):=⟨fun h=>hDC h.symm,fun x a hx=>cellD x a (hc1 x a hx)⟩
   have own0:Own (c₂.grow h₁ (c₂.s.toks+([]:List (Str×Value)).length) k1) (fun b=>b=c₂.h.objs.size∨b=(c₂.h.objs.size+1)∨W b):=fun b hb=>hb.elim (fun z=>z▸ownD) fun hb=>hb.elim (fun z=>z▸ownC) (hW b)
   have loop:=Jih (pos:=pos) (iter:=iter) (elt:=elt) O ht T He P hown hDC nWD nWN onlyN offW offD ownD.2 ownC.2 (L02.back _ f1) (L02.back _ f2) hfr (L02.trans L4) F4 I4 own0 hD1 e₁ k
   exact codeAny_compStart_list loop (I4.self hown loop)
end Mine
namespace Mine
variable {Z:Fix} {A:Around} {sc:Scope} {env:Env} {nm:Str→Option Value} {C:Cx} {d:Nat} {f:Expr→X}
structure FnK (Z:Fix) (f:Fn) (a:Addr) (fd:FuncData):Prop where
 look:∃oc od osl,Z.K.lookup a=some ⟨oc,od,.func fd,osl⟩
 code:codeIn Z.K fd.code fd.qualname=true
 body:fd.body=.stmts f.body
 scope:fd.scope=f.scope
 glob:fd.globals=mainGlobals
 blt:fd.builtins=builtinsNs
 bind:∀vals,vals.length=f.params.length→bindArgs fd ⟨vals,[]⟩=pure (f.params.zip vals)
 co:fd.scope.isCoroutine=false
 gen:fd.scope.isGenerator=false
 kind:fd.scope.kind=.function
 nodup:f.params.Nodup
 own:∀x∈f.params,ownVar f.scope x
structure SupK (Z:Fix) (fd:FuncData) (f:Fn) (C m q:Str):Prop where
 code:∃cda vs file tf ccl cdd ccs,fd.code=.ref cda∧Z.K.lookup cda=some ⟨ccl,cdd,.fields vs,ccs⟩∧vs[2]?=some (.str file tf)∧((Z.prog.main.file:Str)==file)=true
 cls:∃cc D cl cld csl cdD,fd.closure.lookup ("__class__":Str)=some cc∧Z.K.lookup cc=some ⟨cl,cld,.cell (some (.ref D)),csl⟩∧clsIn Z.K D=some cdD∧
  ∀Ca,Z.cad C=some Ca→mroIn Z.K Ca (.ref D)=some true∧∃f',Z.fad q=some f'∧ks_superIn Z.K Ca D m=some (some (.ref f'))∧typeIn Z.K (.ref f')=some (.type "function")∧fnIn Z.K f'=true
 arg:∃ar,(fd.params.posonlyargs++fd.params.args).head?=some ar∧f.params.head?=some ar.arg
 name:(m==("__class__":Str))=false
 top:(Z.prog.main.scope.names.lookup ("super":Str)).isSome=false
 opaq:nsIn Z.K cStatics "thirdparty.any"=some none
noncomputable def DefK (Z:Fix):Prop:=∀q f a,Z.tab.fn q=some f→Z.fad q=some a→∃fd,FnK Z f a fd∧
 ((fd.closure=[]∧f.scope.names.lookup ("__class__":Str)≠some .free)∨
  ((∀x∈fd.scope.names,x.2≠.cell)∧(∀x c,fd.closure.lookup x=some c→∃o,Z.K.lookup c=some o)∧∀C m q',Z.tab.sup q C m=some q'→SupK Z fd f C m q'))
theorem Jfm:∀{xs:List Str} {vs:List V} {l:Loc} {Q:Loc→Prop},l.length=sc.names.length→(∀x∈xs,∃k,sc.names.lookup x=some k)→xs.Nodup→bindN sc xs vs l Q→
  ∃l',Q l'∧l'.length=sc.names.length∧∀y v,lget sc l' y=some v→(y,v)∈xs.zip vs∨lget sc l y=some v:=by
 intro l_
 induction l_ with
 |nil=>
  intro w1_
  cases w1_ with
  |nil=>
   intro l _ hl _ _ e
   exact⟨l,e,hl,fun _ _ h=>.inr h⟩
  |cons x_ xs_=>
   intro _ _ _ _ _ e
   exact e.elim
 |cons x xs ih_=>
  intro w1_
  cases w1_ with
  |nil=>
   intro _ _ _ _ _ e
   exact e.elim
  |cons v vs=>
   intro l Q hl hk nd e
   refine x11 (hk x (.head _)) fun k hx=>?_
   rw[List.nodup_cons] at nd
   refine x13 (ih_ ((List.length_set ..).trans hl) (fun y hy=>hk y (.tail _ hy)) nd.2 e) fun l' h1 h2 h3=>?_
   refine⟨l',h1,h2,fun y w hw=>(h3 y w hw).elim (fun h=>.inl (.tail _ h)) fun h=>?_⟩
   refine x02 (Ww (v:=v) hl hx) fun g1 g2=>?_
   by_cases z:y=x
   ·subst z;obtain rfl:=Option.some.inj (g1.symm.trans h);exact .inl (.head _)
   ·exact .inr ((g2 y z).symm.trans h)
theorem VRs.zip:∀{xs:List Str} {vs:List V} {rs:List Value},VRs ι h vs rs→∀x v,(x,v)∈xs.zip vs→∃r,(x,r)∈xs.zip rs∧VR ι h v r:=by
 intro l_
 induction l_ with
 |nil=>
  intro _ _ _ _ _ q
  exact(List.not_mem_nil q).elim
 |cons y xs ih_=>
  intro w1_
  cases w1_ with
  |nil=>
   intro _ _ _ _ q
   exact(List.not_mem_nil q).elim
  |cons w vs=>
   intro rs R x v q
   refine x23 R.cons_of fun r rs' q1_ R1 R2=>?_
   subst q1_
   rw[List.zip_cons_cons] at q ⊢
   refine(List.mem_cons.mp q).elim (fun e=>?_) fun q=>x12 ((ih_ R2) x v q) fun r' h1 h2=>⟨r',.tail _ h1,h2⟩
   injection e with e1 e2
   subst e1 e2
   exact⟨r,.head _,R1⟩
theorem Jdr {β:Type}:∀{xs:List Str} {rs:List β},xs.Nodup→((xs.zip rs).map (·.1)).Nodup:=by
 intro l_
 induction l_ with
 |nil=>
  intro _ _
  exact List.nodup_nil
 |cons x xs ih_=>
  intro w1_
  cases w1_ with
  |nil=>
   intro _
   exact List.nodup_nil
  |cons r rs=>
   intro nd
   rw[List.nodup_cons] at nd
   exact List.nodup_cons.mpr ⟨fun h=>x12 (List.mem_map.mp h) fun p hp e=>nd.1 (by have e:p.1=x:=e;rw[←e];exact(List.of_mem_zip hp).1),ih_ nd.2⟩
theorem Jdm:∀{bs:List (Str×Value)} {m:Str→Option Value} {x:Str},x∉bs.map (·.1)→bindL k bs m x=m x:=by
 intro l_
 induction l_ with
 |nil=>
  intro _ _ _
  exact rfl
 |cons x_ r ih_=>
  obtain ⟨n,v⟩:=x_
  intro m x h
  rw[List.map_cons,List.mem_cons,not_or] at h
  unfold bindL
  rw[ih_ h.2]
  split
  ·exact if_neg h.1
  ·rfl
theorem Jdn:∀{bs:List (Str×Value)} {m:Str→Option Value} {x:Str},x∉bs.map (·.1)→bindC k bs m x=m x:=by
 intro l_
 induction l_ with
 |nil=>
  intro _ _ _
  exact rfl
 |cons x_ r ih_=>
  obtain ⟨n,v⟩:=x_
  intro m x h
  rw[List.map_cons,List.mem_cons,not_or] at h
  unfold bindC
  rw[ih_ h.2]
  split
  ·rfl
  ·exact if_neg h.1
theorem Jln:∀{bs:List (Str×Value)} {m:Str→Option Value} {x:Str} {r:Value},(bs.map (·.1)).Nodup→(x,r)∈bs→k x=some .local→bindL k bs m x=some r:=by
 intro l_
 induction l_ with
 |nil=>exact fun _ h=>(List.not_mem_nil h).elim
 |cons p bs ih=>
  intro m x r nd h hk
  rw[List.map_cons,List.nodup_cons] at nd
  unfold bindL
  refine(List.mem_cons.mp h).elim (fun e=>?_) fun h=>ih nd.2 h hk
  subst e
  rw[Jdm nd.1,if_pos hk];exact if_pos rfl
theorem Jlo:∀{bs:List (Str×Value)} {m:Str→Option Value} {x:Str} {r:Value},(bs.map (·.1)).Nodup→(x,r)∈bs→k x=some .cell→bindC k bs m x=some r:=by
 intro l_
 induction l_ with
 |nil=>exact fun _ h=>(List.not_mem_nil h).elim
 |cons p bs ih=>
  intro m x r nd h hk
  rw[List.map_cons,List.nodup_cons] at nd
  unfold bindC
  refine(List.mem_cons.mp h).elim (fun e=>?_) fun h=>ih nd.2 h hk
  subst e
  rw[Jdn nd.1,if_neg (by rw[hk];exact fun e=>nomatch e)];exact if_pos rfl
theorem Jht:∀{bs:List (Str×β)} {x:Str} {r:β},(bs.map (·.1)).Nodup→(x,r)∈bs→bs.lookup x=some r:=by
 intro l_
 induction l_ with
 |nil=>exact fun _ h=>(List.not_mem_nil h).elim
 |cons p bs ih=>
  intro x r nd h
  rw[List.map_cons,List.nodup_cons] at nd
  rw[List.lookup_cons]
  refine(List.mem_cons.mp h).elim (fun e=>?_) fun h=>?_
  ·subst e
   rw[beq_self_eq_true]
  ·rw[beq_eq_false_iff_ne.mpr fun e:x=p.1=>nd.1 (by rw[←e];exact List.mem_map_of_mem (f:=Prod.fst) (a:=(x,r)) h)]
   exact ih nd.2 h
theorem Jch:∀{names:List (Str×NameKind)} {n:Nat} {acc:List (Str×Addr)},((acc.lookup x).isSome=true∨(x,NameKind.cell)∈names)→((cellsFrom n names acc).lookup x).isSome=true:=by
 intro l_
 induction l_ with
 |nil=>
  intro n acc h
  exact h.elim id fun h=>(List.not_mem_nil h).elim
 |cons x_ names ih_=>
  obtain ⟨y,k⟩:=x_
  intro n acc h
  unfold cellsFrom
  split
  ·refine ih_ ?_
   rw[X8]
   by_cases z:x=y
   ·rw[if_pos z];exact .inl rfl
   ·rw[if_neg z];exact h.imp id fun h=>(List.mem_cons.mp h).resolve_left fun e=>z (congrArg Prod.fst e)
  ·rename_i hk
   exact ih_ (h.imp id fun h=>(List.mem_cons.mp h).resolve_left fun e=>hk (by have e:NameKind.cell=k:=congrArg Prod.snd e;rw[←e];rfl))
theorem noFree (K:FnK Z fn a fd) (hy:fn.scope.names.lookup y=some .free) (h:(y,v)∈fn.params.zip vs):False:=by
 rcases K.own y (List.of_mem_zip h).1 with q|q<;>(rw[hy] at q;cases q)
theorem Jh4 (K:FnK Z fn a fd) (R:VRs c.ι c.h vs rs) (hlen:l.length=fn.scope.names.length) (hl:∀y v,lget fn.scope l y=some v→(y,v)∈fn.params.zip vs)
  (x:InCallC c.s (callEnvC fd c.h.objs.size a).locals (bindL (callEnvC fd c.h.objs.size a).kindOf (fn.params.zip rs) fun _=>none) (callEnvC fd c.h.objs.size a).cells (bindC (callEnvC fd c.h.objs.size a).kindOf (fn.params.zip rs) fun _=>none) s₁) :
  ∃c₁:Cfg Z,c₁.s=s₁∧c₁.st=c.st∧Le c c₁∧Frm fn.scope (callEnvC fd c.h.objs.size a) l c₁∧∀b,wOf fn.scope (callEnvC fd c.h.objs.size a) b→c.h.get? b=none:=by
 refine x21 x.toInCall.same fun h tk q1_=>?_
 subst q1_
 have L₁:Le c (c.grow h tk x.toInCall.keep):=Cfg.grow_le
 have kind:∀y,(callEnvC fd c.h.objs.size a).kindOf y=fn.scope.names.lookup y:=fun y=>by rw[←K.scope];rfl
 have cellUp:∀n b,(callEnvC fd c.h.objs.size a).cells.lookup n=some b→c.h.objs.size<b:=fun n b h=>x.above n b (PySem.mem_of_lookup h)
 have nd:=Jdr (rs:=rs) K.nodup
 have val:∀y v,lget fn.scope l y=some v→∃r,(y,r)∈fn.params.zip rs∧VR c.ι h v r:=fun y v hv=>x12 (R.zip y v (hl y v hv)) fun r h1 h2=>⟨r,h1,h2.up L₁.up⟩
 refine⟨c.grow h tk x.toInCall.keep,rfl,rfl,L₁,⟨K.kind,K.glob,K.blt,hlen,fun y hy=>(kind y).trans hy,fun y hy=>(kind y).trans hy,fun y hy=>(kind y).trans hy,c.off (Jp _),⟨_,x.toInCall.ns,fun y v hy hv=>?_⟩,fun y hy=>?_,fun y v hy hv=>(noFree K hy (hl y v hv)).elim,fun y z b hy hz h1 h2=>?_,fun y z b v hy hz hv=>(noFree K hz (hl z v hv)).elim,fun y b hc=>?_⟩,fun b hb=>?_⟩
 ·exact x12 (val y v hv) fun r h1 h2=>⟨r,Jln nd h1 ((kind y).trans hy),h2⟩
 ·have hmem:(y,NameKind.cell)∈fd.scope.names:=by rw[K.scope];exact Ql hy
  refine x11 (Option.isSome_iff_exists.mp (Jch (n:=c.h.objs.size+1) (acc:=[]) (.inr hmem))) fun b hc=>?_
  have hc:(callEnvC fd c.h.objs.size a).cells.lookup y=some b:=hc
  have hlt:=cellUp y b hc
  have off:=c.off (Heap.get?_none_of_le (Nat.le_of_lt hlt))
  exact⟨b,_,hc,x.cell y b hc,off.1,off.2,Nat.ne_of_gt hlt,fun v hv=>x12 (val y v hv) fun r h1 h2=>⟨r,Jlo nd h1 ((kind y).trans hy),h2⟩⟩
 ·exact PySem.name_of_addr x.apart (PySem.mem_of_lookup h1) (PySem.mem_of_lookup h2)
 ·exact x12 (x.cell y b hc) fun o e _=>⟨o,e⟩
 ·exact hb.elim (fun z=>z▸Jp _) fun w0_=>x12 w0_ fun y _ hy=>Heap.get?_none_of_le (Nat.le_of_lt (cellUp y b hy))
theorem Jh3 {fn:Fn} {a:Addr} {fd:FuncData} (B:Base Z nm) (K:FnK Z fn a fd) (noCell:∀x∈fd.scope.names,x.2≠.cell) (clo:∀x c,fd.closure.lookup x=some c→∃o,Z.K.lookup c=some o) {c:Cfg Z} {h₁:Heap} {vs:List V} {rs:List Value} {l:Loc} (R:VRs c.ι c.h vs rs) (hlen:l.length=fn.scope.names.length) (hl:∀y v,lget fn.scope l y=some v→(y,v)∈fn.params.zip vs)
  (hn:h₁.Ns c.h.objs.size (fun x=>(fn.params.zip rs).reverse.lookup x)) (k:∀b o,c.h.get? b=some o→h₁.get? b=some o) (tk:Nat) :
  Le c (c.grow h₁ tk k)∧Frm fn.scope (callEnv fd c.h.objs.size a) l (c.grow h₁ tk k)∧∀b,wOf fn.scope (callEnv fd c.h.objs.size a) b→c.h.get? b=none:=by
 have L₁:Le c (c.grow h₁ tk k):=Cfg.grow_le
 have kind:∀y,(callEnv fd c.h.objs.size a).kindOf y=fn.scope.names.lookup y:=fun y=>by rw[←K.scope];rfl
 have nd:=Jdr (rs:=rs) K.nodup
 have nc:∀y,fn.scope.names.lookup y≠some .cell:=fun y q=>by
  rw[←K.scope] at q
  exact noCell _ (Ql q) rfl
 refine⟨L₁,⟨K.kind,K.glob,K.blt,hlen,fun y hy=>(kind y).trans hy,fun y hy=>(kind y).trans hy,fun y hy=>(kind y).trans hy,c.off (Jp _),⟨_,hn,fun y v hy hv=>?_⟩,fun y hy=>absurd hy (nc y),fun y v hy hv=>(noFree K hy (hl y v hv)).elim,fun y z c hy=>absurd hy (nc y),fun y z c v hy=>absurd hy (nc y),fun y b hc=>?_⟩,fun b hb=>?_⟩
 ·refine x12 (R.zip y v (hl y v hv)) fun r h1 h2=>?_
  refine⟨r,Jht ?_ (List.mem_reverse.mpr h1),h2.up L₁.up⟩
  rw[List.map_reverse]
  unfold List.Nodup at nd ⊢
  rw[List.pairwise_reverse]
  exact nd.imp fun h=>h.symm
 ·exact x11 (clo y b hc) fun o ho=>⟨o,k _ _ (c.K B _ _ ho)⟩
 ·exact hb.elim (fun z=>z▸Jp _) fun w0_=>x12 w0_ fun y hy _=>absurd hy (nc y)
theorem Zo (hl:(apos.endLine==pos.line)=true) (hn:args.length≤20)
  (hp:(backTo pos (starEach args env)).all (fun x=>!x.1)=true)
  (h:PySem.wpAt (model Z.prog Z.w) A bd (attributeBase o name env (eval o env)) (fun ov s₁=>∀pl,wpAny (model Z.prog Z.w) A (getMethod ov name pl) (fun fm s₂=>wpAny (model Z.prog Z.w) A (callWith pos fm.1 fm.2 (backTo pos (starEach args env)) []) Q E s₂) E s₁) E s) :
  PySem.wpAt (model Z.prog Z.w) A bd (eval (.Call (.Attribute o name apos) args [] pos) env) Q E s:=by
 rw[arm_eval_Call]
 refine PySem.wpAt_bind (PySem.wpAt_mono h (fun ov s₁ h₁=>wpAt_of_wpAny (wpAny_bind (wpAny_standAt ?_))) fun _ _ e=>e)
 have hform:methodCallForm (args.length+([]:List Keyword).length) (backTo pos (starEach args env)) (backToKw pos (keywordEach [] env))=true:=by
  unfold methodCallForm
  rw[hp]
  exact Bool.and_eq_true_iff.mpr ⟨rfl,decide_eq_true (show args.length+0+(if true=true then 0 else 1)<30 by rw[if_pos rfl];exact Nat.le_succ_of_le (ltK hn))⟩
 unfold methodCall
 rw[hform]
 exact wpAny_bind (wpAny_holding (wpAny_mono (h₁ _) (fun fm s₂ h₂=>wpAny_bind (wpAny_of_eq (by unfold methodCallPos;rw[hl];rfl) h₂)) fun _ _ e=>e))
theorem Jfh {K:Frag} {cd:ClassData} (h:clsIn K D=some cd):∃oD,K.lookup D=some oD∧oD.data=.cls cd:=by
 unfold clsIn at h
 cases q:K.lookup D with
 |none=>rw[q] at h;exact absurd (show none=some cd from h) (Option.some_ne_none _).symm
 |some o=>
  obtain ⟨c,d,dt,sl⟩:=o
  rw[q] at h
  cases dt<;>first|exact absurd (show none=some cd from h) (Option.some_ne_none _).symm|exact⟨_,rfl,congrArg _ (Option.some.inj h)⟩
theorem Jj5 {fn:Fn} {a L:Addr} {fd:FuncData} {body:List Stmt} (O:CxOk Z nm A fn.scope C d) (K:FnK Z fn a fd) (hf:C.tab.fn C.key=some fn)
  (S:∀cl m q,Z.tab.sup C.key cl m=some q→SupK Z fd fn cl m q) {m:Str} {p0 p1 apos pos:Pos} {es:List Expr} (hl:(apos.endLine==pos.line)=true) (hn:es.length≤20) (hb:es.all goodE=true) (H:SimF Z A fn.scope (callEnv fd L a) f)
  {c:Cfg Z} {l:Loc} {Q:KV} {KK:Value→Shared→Prop} (F:Frm fn.scope (callEnv fd L a) l c) (e:cSuper C m (es.map f) l c.st Q) (k:Kon c Q KK) :
  PySem.wpAt (model Z.prog Z.w) A (.func body (callEnv fd L a)) (eval (.Call (.Attribute (.Call (.Name "super" p0) [] [] p1) m apos) es [] pos) (callEnv fd L a)) KK Er c.s:=by
 have B:=O.base
 refine x03 (Qu e) fun _ hgs e=>?_
 rw[O.sc] at hgs e
 cases hgc:fn.scope.names.lookup ("__class__":Str) with
 |none=>rw[hgc] at e;exact e.elim
 |some kk=>
  rw[hgc] at e
  cases kk<;>first|exact e.elim|skip
  refine x12 (J9 e) fun fn' hf' e=>?_
  obtain rfl:=Option.some.inj (hf.symm.trans hf')
  refine x12 (J9 e) fun self hself e=>?_
  cases hloc:isL fn.scope self with
  |false=>rw[hloc] at e;exact e.elim
  |true=>
   rw[hloc] at e
   have hloc:=Jdc hloc
   obtain ⟨ov,hov,i,cl,fs,q,rfl,hi,hq,e'⟩:=J9 e
   rw[O.tab] at hq
   have SK:=S cl m q hq
   refine x74 SK.code fun cda vv file tf ccl cdd ccs hcode hcda hvv hfile=>?_
   refine x64 SK.cls fun cc D ccl' cld csl cdD hclo hcc hD hall=>?_
   refine x12 SK.arg fun ar har har2=>?_
   obtain rfl:=Option.some.inj (hself.symm.trans har2)
   refine x12 F.ns fun mm hns hmm=>?_
   refine x12 (hmm _ _ hloc hov) fun sv hsv Rs=>?_
   refine x57 (c.inst Rs hi) fun x dx Ca ents n ix q1_ hne hc g g' kf=>?_
   subst q1_
   obtain ⟨hmro,f2,hf2,hsm,hty,hfn⟩:=hall Ca hc
   refine x31 K.look fun oc od osl hlook=>?_
   have X:=c.K B
   have kind:∀y,(callEnv fd L a).kindOf y=fn.scope.names.lookup y:=fun y=>by rw[←K.scope];rfl
   have I:=instAt g g'
   refine x12 (Jfh hD) fun oD hD1 hD2=>?_
   refine Zo hl hn (W9 hb).2 ?_
   refine ks_wpAt_super_base (env:=callEnv fd L a) ((kind _).trans hgs) ((kind _).trans hgc) SK.name rfl (X _ _ hlook) rfl har hcode (X _ _ hcda) rfl hvv hfile SK.top ?_
   refine B.name _ _ O.nSuper c.s _ A _ _ c.base F.glob F.blt F.kind ((kind _).trans hgs) ⟨rfl,?_⟩
   refine wpAny_loadName_free F.kind ((kind _).trans hgc) hclo ⟨_,X _ _ hcc,rfl⟩ (wpAny_loadName_local F.kind ((kind _).trans hloc) hns hsv ?_)
   refine ks_wpAny_isType_cls (X _ _ hD1) hD2 ⟨rfl,?_⟩
   refine ks_wpAny_call_super (h:=c.h) (g:=c.s.gens) (d:=c.s.drawn) (t:=c.s.toks) (os:=c.s.os) (X _ _ hD1) hD2 g rfl (fun c e=>by injection e) (looks_mroIn X hmro) (fun h' hso kp=>?_)
   intro pl
   have L1:Le c (c.grow h' c.s.toks kp):=Cfg.grow_le
   have X1:Z.K.In h':=(c.grow h' c.s.toks kp).K B
   cases hcl:clsIn Z.K Ca with
   |none=>unfold ks_superIn at hsm;rw[hcl] at hsm;exact Jc hsm
   |some cd=>
    unfold ks_superIn at hsm
    rw[hcl] at hsm
    obtain ⟨of,hof,hofc⟩:∃of,Z.K.lookup f2=some of∧of.cls=.type "function":=Option.map_eq_some_iff.mp hty
    refine ks_wpAny_getMethod_super hso (looks_opaque X1 SK.opaq) (l₀:=cd.mro) ((looks_clsIn X1 hcl).andThen .now) rfl X1 hsm (X1 _ _ hof) hofc (ks_ne X I hcl) SK.name ?_
    have L2:Le (c.grow h' c.s.toks kp) ((c.grow h' c.s.toks kp).grow (h'.push (methodObj (.ref f2) (.ref x))) (c.s.toks+1) keepPush):=Cfg.grow_le
    have L12:=L1.trans L2
    have hb0:(h'.push (methodObj (.ref f2) (.ref x))).get? h'.objs.size=some (methodObj (.ref f2) (.ref x)):=Heap.get?_push_size _ rfl
    have nf:¬foot c.ι h'.objs.size:=((c.grow h' c.s.toks kp).off (Jp h')).1
    refine callWith_of (P:=fun h=>MethP Z.K h'.objs.size f2 (.ref x) h) (by rw[(W9 hb).1];rfl) (keeps_M hfn) (Ja8 (c:=(c.grow h' c.s.toks kp).grow (h'.push (methodObj (.ref f2) (.ref x))) (c.s.toks+1) keepPush) H hb (F.up L12) e' fun c₃ vs rs L₃ R₃ e₃=>?_)
    have hb3:=L₃.keep _ _ hb0 nf id
    refine⟨⟨hb3,c₃.K B⟩,wpAny_call (ks_codeAny_call_bound hb3 (codeAny_mono (O.call A O.room.call q (.ref i::vs) c₃ (.ref x::rs) _ KK e₃ ⟨_,_,rfl,Rs.up (L12.trans L₃).up,R₃⟩ f2 hf2 (k.le (L12.trans L₃))) fun r s w2_=>x12 w2_ fun o h q=>by subst h;exact q))⟩
end Mine
namespace Mine
variable {Z:Fix} {A:Around} {sc:Scope} {env:Env} {nm:Str→Option Value} {C:Cx} {d:Nat}
noncomputable def SetOk (Z:Fix):Prop:=∀(A:Around) (c:Cfg Z) (v:V) (r:Value) (Q:KV) (K:Value→Shared→Prop),A.handled=none→A.units+80<cLine→VR c.ι c.h v r→sortedSetV v c.st Q→Kon c Q K→
 wpAny (model Z.prog Z.w) A (call (.type "set") [r]) (fun u s=>wpAny (model Z.prog Z.w) A (call (.builtin "sorted") [u]) K Er s) Er c.s
theorem Jai (S:SetOk Z) (O:CxOk Z nm A sc C d) (H:SimF Z A sc env f) (hb:goodE e=true) :
  Sim Z A sc env (eval (.Call (.Name "sorted" np) [.Call (.Name "set" np2) [e] [] p2] [] pos) env) (cSortedSet C (f e)):=fun c l F Q K q k=>by
 refine x03 (Qu q) fun hd hk q=>?_
 refine x03 (Qu q) fun hd2 hk2 q=>?_
 rw[O.sc] at hk hk2
 refine wpAny_Call_ofName (Qt O.base F hk O.nSorted hd ?_)
 refine callWith_builtin (first:=[]) rfl (evalArgs_plain (Calls.spliced_cons ?_))
 show wpAny _ _ (if false=true then _ else eval (.Call (.Name "set" np2) [e] [] p2) env) _ _ _
 rw[if_neg Bool.false_ne_true]
 refine wpAny_Call_ofName (Qt O.base F hk2 O.nSet hd2 ?_)
 refine PyProof.Rows.callWith_type (first:=[]) (by rw[Qr hb];rfl) ?_
 rw[Qr hb]
 refine evalArgs_plain (Calls.spliced_cons ?_)
 show wpAny _ _ (if false=true then _ else eval e env) _ _ _
 rw[if_neg Bool.false_ne_true]
 refine H e c l F _ _ q fun c₁ v r L R q₁=>Calls.spliced_nil ?_
 exact wpAny_mono (S A c₁ v r Q K O.room.1 O.room.small R q₁ (k.le L)) (fun u s h=>Calls.spliced_nil h) fun _ _ e=>e
noncomputable def EvOk (Z:Fix) (nm:Str→Option Value) (A:Around) (d:Nat) (r:Cx→EvF):Prop:=∀(sc:Scope) (C:Cx),CxOk Z nm A sc C d→∀env,(∀e,Sim Z A sc env (eval e env) ((r C).e e))∧∀e,SimB Z A sc env (isTrue e env (eval e env)) ((r C).t e)
theorem CxOk.comp (O:CxOk Z nm A sc C d):CxOk Z nm A scope {C with sc:=scope} d:=⟨O.base,O.fns,O.tab,rfl,O.room,O.call,O.nRange,O.nEnum,O.nList,O.nSuper,O.nSet,O.nSorted⟩
theorem Sim.bad:Sim Z A sc env t badX:=fun _ _ _ _ _ e=>e.elim
theorem Sim.chk (h:b=true→Sim Z A sc env t x):Sim Z A sc env t (chk b x):=by
 cases b with
 |true=>exact h rfl
 |false=>exact Sim.bad
theorem SimB.bad:SimB Z A sc env t (fun _ _ _=>False):=fun _ _ _ _ _ e=>e.elim
theorem Zm:∀{ks:List (Option Expr)} {es:List Expr},allSome ks=some es→ks=es.map some
 |[],_,h=>by obtain rfl:=Option.some.inj h;rfl
 |none::_,_,h=>nomatch h
 |some e::ks,_,h=>by
  refine x12 (Option.map_eq_some_iff.mp h) fun r h1 h2=>?_
  subst h2
  rw[Zm h1];rfl
theorem Jaa (h:goodE e=true):∀x,foldedSetIterable e env x=pure x:=by
 intro x
 cases e<;>first|rfl|exact Bool.noConfusion h
set_option tactic.hygienic true in
theorem Jh1 (h:isCall a=some (g,bs)):∃q p,a=.Call (.Name g q) bs [] p:=by
 cases a<;>try exact Jc h
 rename_i f as ks p
 cases ks with
 |cons=>exact Jc h
 |nil=>
  cases f<;>try exact Jc h
  cases Option.some.inj (show some (_,as)=some (g,bs) from h)
  exact⟨_,_,rfl⟩
variable {r:Cx→EvF}
theorem Jl1 (O:CxOk Z nm A sc C d) (H:SimF Z A sc env (r C).e) (e:Expr):goodE e=true→SimI Z A sc env (eval e env) (stI C (r C) e):=fun hg=>by
 have plain:SimI Z A sc env (eval e env) (iPlain ((r C).e e)):=Jev (H e)
 cases e with
 |Call fn as ks p=>
  cases ks with
  |cons _ _=>exact plain
  |nil=>
   cases fn with
   |Name g q=>
    show SimI Z A sc env _ (match as.all goodE with
     |true=>if g=="range" then iRange C (as.map (r C).e) else if g=="enumerate" then iEnum C (as.map (r C).e) else iPlain ((r C).e _)
     |false=>fun _ _ _=>False)
    cases hb:as.all goodE with
    |false=>exact fun _ _ _ _ _ e=>e.elim
    |true=>
     dsimp only
     split
     ·rename_i h;obtain rfl:=eq_of_beq h;exact Jeu O H hb
     ·split
      ·rename_i h;obtain rfl:=eq_of_beq h;exact Jhg O H hb
      ·exact plain
   |_=>exact plain
 |«Set»=>exact Bool.noConfusion hg
 |_=>exact plain
theorem Jg7 (S:SetOk Z) (O:CxOk Z nm A sc C d) (H:SimF Z A sc env (r C).e) (as:List Expr):Sim Z A sc env (eval (.Call (.Name g q) as [] pos) env) (stName C (r C) g as):=by
 match as with
 |[]=>exact Q3 O H (es:=[]) rfl
 |a::b::as=>exact Sim.chk fun hb=>Q3 O H hb
 |[a]=>
  show Sim Z A sc env _ (match isCall a with
   |some (g',bs)=>if g=="list"&&g'=="range" then chk (bs.all goodE) (cListRange C (bs.map (r C).e))
    else if g=="sorted"&&g'=="set" then (match bs with
     |[b]=>chk (goodE b) (cSortedSet C ((r C).e b))
     |_=>badX)
    else cCallName C g [(r C).e a]
   |none=>chk (goodE a) (cCallName C g [(r C).e a]))
  cases hc:isCall a with
  |none=>exact Sim.chk fun hb=>Q3 O H (es:=[a]) (Bool.and_eq_true_iff.mpr ⟨hb,rfl⟩)
  |some gb=>
   obtain ⟨g',bs⟩:=gb
   refine x21 (Jh1 hc) fun q' p' q1_=>?_
   subst q1_
   dsimp only
   split
   ·rename_i h
    refine x02 (Bool.and_eq_true_iff.mp h) fun h1 h2=>?_
    obtain rfl:=eq_of_beq h1
    obtain rfl:=eq_of_beq h2
    exact Sim.chk fun hb=>Jaj O H hb
   ·split
    ·rename_i h
     refine x02 (Bool.and_eq_true_iff.mp h) fun h1 h2=>?_
     obtain rfl:=eq_of_beq h1
     obtain rfl:=eq_of_beq h2
     match bs with
     |[]=>exact Sim.bad
     |_::_::_=>exact Sim.bad
     |[b]=>exact Sim.chk fun hb=>Jai S O H hb
    ·exact Q3 O H (es:=[_]) rfl
theorem Jkb (O:CxOk Z nm A sc C d) (H:SimF Z A sc env (r C).e) (v i:Expr) (p:Pos):Sim Z A sc env (eval (.Subscript v i p) env) (stSub (r C) v i):=by
 cases i with
 |Slice lo up step q=>
  cases lo with
  |some a=>cases up with
   |some _=>exact Sim.bad
   |none=>cases step with
    |some _=>exact Sim.bad
    |none=>exact Jkh H
  |none=>cases up with
   |some b=>cases step with
    |some _=>exact Sim.bad
    |none=>exact Jke H
   |none=>cases step with
    |none=>exact Sim.bad
    |some s=>cases s with
     |UnaryOp op k q2=>cases op with
      |USub=>cases k with
       |Constant k n q3=>cases k with
        |int i=>exact Sim.chk fun h=>by obtain rfl:=of_decide_eq_true h;exact sim_rev H
        |_=>exact Sim.bad
       |_=>exact Sim.bad
      |_=>exact Sim.bad
     |_=>exact Sim.bad
 |_=>exact sim_sub O.base O.room.small H
theorem stE_ok (S:SetOk Z) (I:EvOk Z nm A d r) (O:CxOk Z nm A sc C d) (e:Expr):Sim Z A sc env (eval e env) (stE r C e):=by
 refine x02 (I sc C O env) fun H T=>?_
 cases e with
 |Constant k n p=>exact Jha
 |Name x p=>exact Jkf O.base O.tab O.sc
 |BinOp a op b p=>exact sim_bin H
 |UnaryOp op a p=>exact sim_un H
 |BoolOp op vs p=>exact Jhb H
 |Compare a ops bs p=>exact Sim.chk fun hb=>Jkk O.base O.room.small hb H
 |IfExp t a b p=>exact sim_ifE H T
 |Tuple es k p=>exact Sim.chk fun hb=>sim_tup H hb
 |List es p=>exact Sim.chk fun hb=>Jkg H hb
 |Dict ks vs p=>
  show Sim Z A sc env _ (match allSome ks with
   |some ks=>cDict (ks.map (r C).e) (vs.map (r C).e)
   |none=>badX)
  cases hk:allSome ks with
  |none=>exact Sim.bad
  |some es=>obtain rfl:=Zm hk;exact Jki O.room.small H
 |Subscript v i p=>exact Jkb O H v i p
 |Attribute o a p=>exact Sim.chk fun hn=>Jkl O.base O.tab hn H
 |Call fn as ks p=>
  cases ks with
  |cons _ _=>exact Sim.bad
  |nil=>
   cases fn with
   |Attribute o m apos=>exact Sim.chk fun hc=>Jbk O hc H
   |Name g q=>exact Jg7 S O H as
   |_=>exact Sim.bad
 |ListComp elt gens scope p=>
  match gens with
  |[]=>exact Sim.bad
  |_::_::_=>exact Sim.bad
  |[⟨t,iter,ifs,k⟩]=>
   refine Sim.chk fun hk=>?_
   refine x02 (Bool.and_eq_true_iff.mp hk) fun hk hg=>?_
   obtain rfl:=of_decide_eq_true hk
   have Oc:CxOk Z nm A scope {C with sc:=scope} d:=O.comp
   exact Jkj O (Jaa hg) (Jl1 O H iter hg) (fun env' e=>(I scope _ Oc env').2 e) (fun env'=>(I scope _ Oc env').1 elt)
 |_=>exact Sim.bad
theorem stT_ok (O:CxOk Z nm A sc C d) (H:SimF Z A sc env (r C).e) (T:∀e,SimB Z A sc env (isTrue e env (eval e env)) ((r C).t e)) (e:Expr):SimB Z A sc env (isTrue e env (eval e env)) (stT (r C) e):=by
 cases e with
 |UnaryOp op a p=>
  cases op with
  |Not=>exact Jkp T
  |_=>exact Zz rfl (H _)
 |BoolOp op vs p=>exact Jhh T
 |Compare a ops bs p=>
  show SimB Z A sc env _ (match bs.all goodE with
   |true=>cCmpT ops ((r C).e a) (bs.map (r C).e)
   |false=>fun _ _ _=>False)
  cases hb:bs.all goodE with
  |false=>exact SimB.bad
  |true=>exact Jkq O.base O.room.small hb H
 |IfExp t a b p=>exact SimB.bad
 |_=>exact Zz rfl (H _)
theorem ev_ok (S:SetOk Z):∀n,EvOk Z nm A d (ev n):=by
 intro l_
 induction l_ with
 |zero=>
  exact fun sc C O env=>⟨fun e=>Sim.bad,fun e=>SimB.bad⟩
 |succ n ih_=>
  exact fun sc C O env=>⟨stE_ok S (ih_) O,stT_ok O (ih_ sc C O env).1 (ih_ sc C O env).2⟩
theorem SimS.bad:SimS Z A sc env t badS:=fun _ _ _ _ _ _ e=>e.elim
theorem SimS.chk (h:b=true→SimS Z A sc env t x):SimS Z A sc env t (chkS b x):=by
 cases b with
 |true=>exact h rfl
 |false=>exact SimS.bad
theorem Jg2 (h:tgOf t=some g) (r:EvF) (v:Expr):stAssign C r t v=match tgOf t with
  |some g=>chkS (valueOk C t v) (cAssign C g (r.e v))
  |none=>badS:=by
 rcases Xn h with ⟨x,q,rfl,rfl⟩|⟨es,k,q,xs,rfl,-,rfl⟩<;>rfl
theorem Jc4 (O:CxOk Z nm A sc C d) (H:SimF Z A sc env (r C).e) (t v:Expr) (p:Pos):SimS Z A sc env (exec (.Assign [t] v p) env) (stAssign C (r C) t v):=by
 cases ht:tgOf t with
 |some g=>
  rw[Jg2 ht,ht]
  exact SimS.chk fun hv=>Jc7 O ht hv H
 |none=>
  cases t with
  |Attribute o a q=>exact Jbm O H
  |Subscript o i q=>exact Jbl O.room.small O.base H
  |Name x q=>injection ht
  |Tuple es k q=>
   show SimS Z A sc env _ (match tgOf (.Tuple es k q) with
    |some g=>chkS (valueOk C (.Tuple es k q) v) (cAssign C g ((r C).e v))
    |none=>badS)
   rw[ht]
   exact SimS.bad
  |_=>exact SimS.bad
theorem Jkc (O:CxOk Z nm A sc C d) (H:SimF Z A sc env (r C).e) (t:Expr) (p:Pos):SimS Z A sc env (exec (.Delete [t] p) env) (stDel (r C) t):=by
 cases t with
 |Subscript o i q=>
  cases i with
  |Slice a b s q2=>
   cases a with
   |none=>exact SimS.bad
   |some a=>cases b with
    |some _=>exact SimS.bad
    |none=>cases s with
     |some _=>exact SimS.bad
     |none=>exact Jak H
  |_=>exact Jko O.room.small O.base H
 |_=>exact SimS.bad
theorem Jg6 (S:SetOk Z) (O:CxOk Z nm A sc C d) (I:∀ss,SimS Z A sc env (execs ss env) (rec ss)) (s:Stmt):SimS Z A sc env (exec s env) (stS rec C s):=by
 refine x02 (ev_ok S deep sc C O env) fun H T=>?_
 cases s with
 |Assign ts v p=>
  match ts with
  |[]=>exact SimS.bad
  |_::_::_=>exact SimS.bad
  |[t]=>exact Jc4 (r:=ev deep) O H t v p
 |Expr e p=>exact SimS.chk fun hc=>Jhe ((Bool.not_eq_true' _).mp hc) (H e)
 |If t a b p=>exact simS_if (T t) (I a) (I b)
 |While t a o p=>
  cases o with
  |nil=>exact Jet (T t) (I a)
  |cons _ _=>exact SimS.bad
 |For t i a o p=>
  cases o with
  |nil=>exact SimS.chk fun hg=>Jkn O (Jaa hg) (Jl1 (r:=ev deep) O H i hg) (I a)
  |cons _ _=>exact SimS.bad
 |Return v p=>
  cases v with
  |some e=>exact Jkm (H e)
  |none=>exact Jhc
 |Delete ts p=>
  match ts with
  |[]=>exact SimS.bad
  |_::_::_=>exact SimS.bad
  |[t]=>exact Jkc (r:=ev deep) O H t p
 |Pass p=>exact Jhd
 |_=>exact SimS.bad
theorem Jhj (I:∀s,SimS Z A sc env (exec s env) (g s)):∀ss,SimS Z A sc env (execs ss env) (seqS g ss):=by
 intro l_
 induction l_ with
 |nil=>
  exact Jdy
 |cons s ss ih_=>
  exact Jhf (I s) (ih_)
theorem Jl9 (S:SetOk Z) (O:CxOk Z nm A sc C d):∀n ss,SimS Z A sc env (execs ss env) (evS C n ss):=by
 intro l_
 induction l_ with
 |zero=>
  intro ss
  exact SimS.bad
 |succ n ih_=>
  intro ss
  exact Jhj (Jg6 S O (ih_)) ss
noncomputable def SimAt (Z:Fix) (A:Around) (sc:Scope) (env:Env) (bd:Code) (t:Sem Flow) (x:XS):Prop:=
 ∀(c:Cfg Z) l,Frm sc env l c→∀kn kr K,x l c.st kn kr→KonS sc env c kn kr K→PySem.wpAt (model Z.prog Z.w) A bd t K Er c.s
theorem SimAt.of (h:SimS Z A sc env t x):SimAt Z A sc env bd t x:=fun c l F kn kr K e k=>wpAt_of_wpAny (h c l F kn kr K e k)
set_option tactic.hygienic true in
theorem Zx (h:superOf e=some (m,as,b)):∃g q p0 p1 apos pos,e=.Call (.Attribute (.Call (.Name g q) [] [] p1) m apos) as [] pos∧b=(g=="super"&&(apos.endLine==pos.line)&&decide (as.length≤20)&&as.all goodE)∧p0=q:=by
 cases e<;>try exact Jc h
 rename_i f as' ks pos
 cases ks with
 |cons=>exact Jc h
 |nil=>
  cases f<;>try exact Jc h
  rename_i o m' apos
  cases o<;>try exact Jc h
  rename_i g bs ks' p1
  cases ks' with
  |cons=>exact Jc h
  |nil=>cases bs with
   |cons=>exact Jc h
   |nil=>
    cases g<;>try exact Jc h
    cases Option.some.inj (show some (m',as',_)=some (m,as,b) from h)
    exact⟨_,_,_,_,_,_,rfl,rfl,rfl⟩
theorem topS_at (S:SetOk Z) (O:CxOk Z nm A fn.scope C d) (K:FnK Z fn a fd) (hf:C.tab.fn C.key=some fn) (SU:∀cl m q,Z.tab.sup C.key cl m=some q→SupK Z fd fn cl m q) (s:Stmt) :
  SimAt Z A fn.scope (callEnv fd L a) (.func body (callEnv fd L a)) (exec s (callEnv fd L a)) (topS C s):=by
 refine x02 (ev_ok S deep fn.scope C O (callEnv fd L a)) fun H T=>?_
 have plain:=SimAt.of (bd:=.func body (callEnv fd L a)) (Jg6 S O (Jl9 S O deep) (env:=callEnv fd L a) s)
 have sup:∀e m as b,superOf e=some (m,as,b)→b=true→∀(c:Cfg Z) l Q KK,Frm fn.scope (callEnv fd L a) l c→cSuper C m (as.map (ev deep C).e) l c.st Q→Kon c Q KK→PySem.wpAt (model Z.prog Z.w) A (.func body (callEnv fd L a)) (eval e (callEnv fd L a)) KK Er c.s:=fun e m as b hs hb c l Q KK F q k=>by
  refine x63 (Zx hs) fun g q' _ p1 apos pos q1_ q2_ _=>?_
  subst q1_
  subst q2_
  refine x02 (Bool.and_eq_true_iff.mp hb) fun hb hg=>?_
  refine x02 (Bool.and_eq_true_iff.mp hb) fun hb hn=>?_
  refine x02 (Bool.and_eq_true_iff.mp hb) fun hb hl=>?_
  obtain rfl:=eq_of_beq hb
  exact Jj5 O K hf SU hl (of_decide_eq_true hn) hg H F q k
 cases s with
 |Expr e p=>
  show SimAt Z A _ _ _ _ (match superOf e with
   |some (m,as,b)=>chkS b (cExpr (cSuper C m (as.map (ev deep C).e)))
   |none=>stS (evS C deep) C (.Expr e p))
  cases hs:superOf e with
  |none=>exact plain
  |some z=>
   obtain ⟨m,as,b⟩:=z
   cases b with
   |false=>exact fun _ _ _ _ _ _ e=>e.elim
   |true=>
    intro c l F kn kr KK q k
    refine x63 (Zx hs) fun g q' _ p1 apos pos q1_ _ _=>?_
    subst q1_
    exact ks_wpAt_Expr_any (sup _ m as true hs rfl c l _ _ F q fun c' v r L R q=>k.1 c' l L.toW (F.up L) q) (notInter F) rfl
 |Return v p=>
  cases v with
  |none=>exact plain
  |some e=>
   show SimAt Z A _ _ _ _ (match superOf e with
    |some (m,as,b)=>chkS b (cRet (cSuper C m (as.map (ev deep C).e)))
    |none=>stS (evS C deep) C (.Return (some e) p))
   cases hs:superOf e with
   |none=>exact plain
   |some z=>
    obtain ⟨m,as,b⟩:=z
    cases b with
    |false=>exact fun _ _ _ _ _ _ e=>e.elim
    |true=>exact fun c l F kn kr KK q k=>ks_wpAt_Return_some (sup _ m as true hs rfl c l _ _ F q fun c' v r L R q=>k.2 c' v r L.toW R q)
 |_=>exact plain
theorem Jj2 (S:SetOk Z) (O:CxOk Z nm A sc C d) (hc:sc.names.lookup ("__class__":Str)≠some .free) (s:Stmt):SimS Z A sc env (exec s env) (topS C s):=by
 have plain:=Jg6 S O (Jl9 S O deep) (env:=env) s
 have no:∀m as l st Q,¬cSuper C m as l st Q:=fun m as l st Q q=>by
  refine x03 (Qu q) fun _ _ q=>?_
  rw[O.sc] at q
  split at q
  ·exact hc (by assumption)
  ·exact q
 cases s with
 |Expr e p=>
  show SimS Z A _ _ _ (match superOf e with
   |some (m,as,b)=>chkS b (cExpr (cSuper C m (as.map (ev deep C).e)))
   |none=>stS (evS C deep) C (.Expr e p))
  cases superOf e with
  |none=>exact plain
  |some z=>exact SimS.chk fun _ c l F kn kr KK q k=>(no _ _ _ _ _ q).elim
 |Return v p=>
  cases v with
  |none=>exact plain
  |some e=>
   show SimS Z A _ _ _ (match superOf e with
    |some (m,as,b)=>chkS b (cRet (cSuper C m (as.map (ev deep C).e)))
    |none=>stS (evS C deep) C (.Return (some e) p))
   cases superOf e with
   |none=>exact plain
   |some z=>exact SimS.chk fun _ c l F kn kr KK q k=>(no _ _ _ _ _ q).elim
 |_=>exact plain
theorem seq_at (I:∀s,SimAt Z A sc env bd (exec s env) (g s)):∀ss,SimAt Z A sc env bd (execs ss env) (seqS g ss):=by
 intro l_
 induction l_ with
 |nil=>
  exact SimAt.of Jdy
 |cons s ss ih_=>
  exact fun c l F kn kr K e k=>ks_wpAt_execs_cons (I s c l F _ _ _ e ⟨fun c' l' E F' e'=>ih_ c' l' F' _ _ _ e' (k.le E),fun c' v r E R q=>k.2 c' v r E R q⟩)
structure World' (Z:Fix) (nm:Str→Option Value):Prop where
 base:Base Z nm
 fns:Fns Z
 defs:DefK Z
 nRange:nm "range"=some (.type "range")
 nEnum:nm "enumerate"=some (.type "enumerate")
 nList:nm "list"=some (.type "list")
 nSuper:nm "super"=some (.type "super")
 nSet:nm "set"=some (.type "set")
 nSorted:nm "sorted"=some (.builtin "sorted")
theorem Jej (S:SetOk Z) (W:World' Z nm):∀d:Nat,CallOk Z d (callN Z.tab d)
 |0=>fun A _ q vs c rs Q K e=>e.elim
 |d+1=>fun A room q vs c rs Q K e R a ha k=>by
  refine x12 (J9 e) fun fn hf e=>?_
  refine x12 (W.defs q fn a hf ha) fun fd FK mode=>?_
  have kn:∀x∈fn.params,∃k,fn.scope.names.lookup x=some k:=fun x hx=>(FK.own x hx).elim (fun h=>⟨_,h⟩) fun h=>⟨_,h⟩
  have l0:(fn.scope.names.map fun _=>(none:Option V)).length=fn.scope.names.length:=List.length_map ..
  have hlen:rs.length=fn.params.length:=by rw[←R.length];exact(Zj e).symm
  refine x13 (Jfm l0 kn FK.nodup e) fun l e hl hv=>?_
  have hv:∀y v,lget fn.scope l y=some v→(y,v)∈fn.params.zip vs:=fun y v h=>(hv y v h).elim id fun z=>by
   unfold lget at z
   rw[List.getElem?_map] at z
   cases q:fn.scope.names[ix fn.scope y]?<;>(rw[q] at z;exact Jc z)
  refine x31 FK.look fun oc od osl hlook=>?_
  have X:=c.K W.base
  have hroom:A.depth<recursionLimit:=by have:=room.2.1;exact Nat.lt_of_add_right_lt this
  have inner:∀env,Room (A.deeper env) d:=fun env=>⟨room.1,by have:=room.2.1;show A.depth+1+5 * d+3<recursionLimit;omega,by have:=room.2.2;show A.units+3+200 * d+150<cLine;omega⟩
  have lim:c.h.NoLimit:=W.base.lim.keeps c.base
  have cx:∀env,CxOk Z nm (A.deeper env) fn.scope {tab:=Z.tab,key:=q,sc:=fn.scope,call:=callN Z.tab d} d:=fun env=>⟨W.base,W.fns,rfl,rfl,inner env,Jej S W d,W.nRange,W.nEnum,W.nList,W.nSuper,W.nSet,W.nSorted⟩
  have fin:∀{env:Env} {c₁:Cfg Z},Le c c₁→(∀b,wOf fn.scope env b→c.h.get? b=none)→KonS fn.scope env c₁ (fun _ st=>Q .none st) Q fun fr s=>∃o,(Except.ok (.ret (match fr with|.ret v=>v|_=>.none)):Result)=.ok (.ret o)∧K o s:=fun L hw=>
   ⟨fun c' l' E _ q=>⟨_,rfl,k c' .none _ ((L.toW.trans E).fresh fun b hb=>.inr (hw b hb)) rfl q⟩,fun c' v r E R q=>⟨_,rfl,k c' v r ((L.toW.trans E).fresh fun b hb=>.inr (hw b hb)) R q⟩⟩
  refine Or.elim mode (fun r0_=>?_) (fun r1_=>?_)
  ·refine x02 r0_ fun hclo hnf=>?_
   refine codeAny_call_cells (fd:=fd) (body:=fn.body) (binds:=fn.params.zip rs) hroom (X _ _ hlook) rfl lim (codeRec_of X FK.code) FK.body (FK.bind rs hlen) hclo (fun x hx=>?_) (fun s₁ x=>?_) FK.co FK.gen FK.kind
   ·have hx1:=(List.of_mem_zip hx).1
    rw[FK.scope]
    exact(FK.own _ hx1).elim .inl fun h=>.inr ⟨h,Jch (.inr (Ql h))⟩
   ·refine x15 (Jh4 FK R hl hv x) fun c₁ q1_ hs L₁ F₁ hw=>?_
    subst q1_
    exact wpAny_mono (Jhj (Jj2 S (cx (callEnvC fd c.h.objs.size a)) hnf) fn.body c₁ l F₁ _ _ _ (hs▸e) (fin L₁ hw)) (fun _ _ h=>h) fun _ _ f=>f.elim
  ·refine x03 r1_ fun hnc hcl SU=>?_
   refine ks_codeAny_call_defAt (fd:=fd) (body:=fn.body) (binds:=fn.params.zip rs) hroom (X _ _ hlook) rfl lim (codeRec_of X FK.code) FK.body (.of_eq (FK.bind rs hlen)) hnc (fun x hx=>?_) (fun h₁ hns hk=>?_) FK.co FK.gen FK.kind
   ·have hx1:=(List.of_mem_zip hx).1
    rw[FK.scope]
    refine(FK.own _ hx1).resolve_right fun h=>?_
    rw[←FK.scope] at h
    exact hnc _ (Ql h) rfl
   ·refine x03 (Jh3 W.base FK hnc hcl R hl hv hns hk (c.s.toks+(fn.params.zip rs).length)) fun L₁ F₁ hw=>?_
    exact PySem.wpAt_mono (seq_at (topS_at S (cx (callEnv fd c.h.objs.size a)) FK hf SU) fn.body (c.grow h₁ (c.s.toks+(fn.params.zip rs).length) hk) l F₁ _ _ _ e (fin L₁ hw)) (fun _ _ h=>h) fun _ _ f=>f.elim
end Mine
namespace Mine
theorem mid_in {lo hi:Nat} (h:lo<hi):lo≤(lo+hi) / 2∧(lo+hi) / 2<hi:=⟨by omega,by omega⟩
theorem rise {xs:Array Nat} (hr:xs.toList.Pairwise (·<·)) (a b:Nat) (ha:a<xs.size) (hb:b<xs.size) (hab:a<b):xs[a]<xs[b]:=
 List.pairwise_iff_getElem.mp hr a b ha hb hab
theorem Jlq (xs:Array Nat) (j:Nat) (hr:xs.toList.Pairwise (·<·)):∀(fuel lo hi:Nat),hi - lo≤fuel→lo≤hi→hi≤xs.size→(∀i (h:i<xs.size),i<lo→xs[i]<j)→(∀i (h:i<xs.size),hi≤i→j≤xs[i])→
  let p:=SetTable.below.go xs j fuel lo hi
  p≤xs.size∧(∀i (h:i<xs.size),i<p→xs[i]<j)∧∀i (h:i<xs.size),p≤i→j≤xs[i]:=by
 intro l_
 induction l_ with
 |zero=>
  intro lo hi hf hl hs h1 h2
  obtain rfl:=Nat.le_antisymm hl (Nat.le_of_sub_eq_zero (Nat.le_zero.mp hf))
  unfold SetTable.below.go
  exact⟨hs,h1,h2⟩
 |succ fuel ih_=>
  intro lo hi hf hl hs h1 h2
  have mono:=rise hr
  unfold SetTable.below.go
  by_cases hlt:lo<hi
  ·rw[if_pos hlt]
   refine x02 (mid_in hlt) fun m1 m2=>?_
   dsimp only
   generalize (lo+hi) / 2=m at m1 m2
   have hm:m<xs.size:=Nat.lt_of_lt_of_le m2 hs
   have hg:xs.getD m j=xs[m]:=by rw[Array.getD_eq_getD_getElem?,Array.getElem?_eq_getElem hm];rfl
   rw[hg]
   by_cases hc:xs[m]<j
   ·rw[if_pos hc]
    refine ih_ _ hi (Nat.le_of_lt_succ (Nat.lt_of_lt_of_le (Nat.sub_lt_sub_left hlt (Nat.lt_succ_of_le m1)) hf)) m2 hs (fun i h hi'=>?_) h2
    rcases Nat.lt_or_eq_of_le (Nat.le_of_lt_succ hi') with q|q
    ·exact Nat.lt_trans (mono i m h hm q) hc
    ·subst q;exact hc
   ·rw[if_neg hc]
    refine ih_ lo m (Nat.le_of_lt_succ (Nat.lt_of_lt_of_le (Nat.sub_lt_sub_right m1 m2) hf)) m1 (Nat.le_of_lt hm) h1 (fun i h hi'=>?_)
    rcases Nat.lt_or_eq_of_le hi' with q|q
    ·exact Nat.le_of_lt (Nat.lt_of_le_of_lt (Nat.le_of_not_lt hc) (mono m i hm h q))
    ·subst q;exact Nat.le_of_not_lt hc
  ·rw[if_neg hlt]
   obtain rfl:=Nat.le_antisymm hl (Nat.le_of_not_lt hlt)
   exact⟨hs,h1,h2⟩
theorem Jae (xs:Array Nat) (j:Nat) (hr:xs.toList.Pairwise (·<·)) :
  SetTable.below xs j≤xs.size∧(∀i (h:i<xs.size),i<SetTable.below xs j→xs[i]<j)∧∀i (h:i<xs.size),SetTable.below xs j≤i→j≤xs[i]:=
 Jlq xs j hr xs.size 0 xs.size (Nat.le_refl _) (Nat.zero_le _) (Nat.le_refl _) (fun i h hi=>absurd hi (Nat.not_lt_of_le (Nat.zero_le _))) (fun i h hi=>absurd h (Nat.not_lt_of_le hi))
noncomputable def TOk (t:SetTable):Prop:=t.place.toList.Pairwise (·<·)∧t.dummies=#[]
theorem Jeq (T:TOk t) (h:t.slot j=.empty):t.place[SetTable.below t.place j]?≠some j:=by
 unfold SetTable.slot at h
 intro e
 simp only [e,beq_self_eq_true,if_true] at h
 injection h
theorem Jbi (T:TOk t):t.slot j≠.dummy:=by
 unfold SetTable.slot SetTable.has
 rw[T.2]
 intro h
 dsimp only at h
 split at h
 ·injection h
 ·simp at h
theorem Jkw (T:TOk t) {hashAt:Nat→Int}:∀(fuel:Nat) (p:SetTable.Probe) {j:Nat} {dm:Option Nat},p.dummy=none→SetTable.probe.go t hashAt h fuel p=some (.empty j dm)→t.slot j=.empty∧dm=none:=by
 intro l_
 induction l_ with
 |zero=>
  intro p j dm hp e
  exact Jc e
 |succ fuel ih_=>
  intro p j dm hp e
  have adv:∀q:SetTable.Probe,q.dummy=none→(t.advance q).dummy=none:=fun q hq=>by
   unfold SetTable.advance
   split
   ·exact hq
   ·exact hq
  unfold SetTable.probe.go at e
  split at e
  ·rename_i hs
   cases e
   exact⟨hs,hp⟩
  ·rename_i hs
   exact absurd hs (Jbi T)
  ·split at e
   ·cases e
   ·exact ih_ _ (adv p hp) e
set_option tactic.hygienic true in
theorem Jdf (T:TOk t) (e:t.freeSlot h=some (j,d)):t.slot j=.empty:=by
 unfold SetTable.freeSlot at e
 split at e
 ·rename_i j' dm hp
  refine x02 (Jkw T _ _ rfl hp) fun h1 h2=>?_
  subst h2
  cases e
  exact h1
 ·exact Jc e
theorem TOk.put (T:TOk t) (h:t.slot j=.empty):TOk (t.put j).1:=by
 refine x03 (Jae t.place j T.1) fun s1 s2 s3=>?_
 have ne:=Jeq T h
 refine⟨?_,?_⟩
 ·show (SetTable.insertAt t.place (SetTable.below t.place j) j).toList.Pairwise (·<·)
  rw[SetTable.toList_insertAt]
  have hd:(t.place.toList.take (SetTable.below t.place j)++t.place.toList.drop (SetTable.below t.place j)).Pairwise (·<·):=by rw[List.take_append_drop];exact T.1
  rw[List.pairwise_append] at hd ⊢
  refine⟨hd.1,List.pairwise_cons.mpr ⟨fun b hb=>?_,hd.2.1⟩,fun a ha b hb=>?_⟩
  ·obtain ⟨i,hi,rfl⟩:=List.mem_iff_getElem.mp hb
   rw[List.getElem_drop]
   have hlt:SetTable.below t.place j+i<t.place.size:=by simp at hi;exact Nat.add_lt_of_lt_sub' hi
   have h1:=s3 _ hlt (Nat.le_add_right _ _)
   have h2:t.place.toList[SetTable.below t.place j+i]=t.place[SetTable.below t.place j+i]:=by simp
   rw[h2]
   by_cases e:t.place[SetTable.below t.place j+i]=j
   ·exfalso
    by_cases i0:i=0
    ·subst i0
     exact ne (by rw[Array.getElem?_eq_getElem (by exact hlt)];exact congrArg some e)
    ·have h3:=s3 (SetTable.below t.place j) (Nat.lt_of_add_right_lt hlt) (Nat.le_refl _)
     have:=List.pairwise_iff_getElem.mp T.1 (SetTable.below t.place j) (SetTable.below t.place j+i) (by simp;exact Nat.lt_of_add_right_lt hlt) (by simpa using hlt) (by omega)
     simp at this
     omega
   ·omega
  ·have haj:a<j:=by
    obtain ⟨i,hi,rfl⟩:=List.mem_iff_getElem.mp ha
    rw[List.getElem_take]
    have:i<SetTable.below t.place j:=by simp at hi;exact Nat.lt_of_lt_of_le hi (Nat.min_le_left _ _)
    have h2:=s2 i (Nat.lt_of_lt_of_le this s1) this
    simpa using h2
   refine(List.mem_cons.mp hb).elim (fun e_=>?_) fun hb=>?_
   ·subst e_
    exact haj
   ·exact hd.2.2 a ha b hb
 ·show (if SetTable.has t.dummies j then _ else t.dummies)=#[]
  rw[T.2]
  split
  ·rename_i q;simp [SetTable.has] at q
  ·rfl
theorem TOk.standIn (t:SetTable) (n:Nat):TOk (t.standIn n):=by
 refine⟨?_,rfl⟩
 show (Array.range n).toList.Pairwise (·<·)
 rw[Array.toList_range]
 exact List.pairwise_lt_range
theorem TOk.orStandIn (T:TOk t) (n:Nat):TOk (t.orStandIn n):=by
 unfold SetTable.orStandIn
 split
 ·exact T
 ·exact .standIn _ _
set_option tactic.hygienic true in
theorem TOk.layNew (T:TOk t) (es:Array (Int×Value)) (h:Int) (x:Value):TOk (layNew t es h x).2.1∧(layNew t es h x).2.1.led=t.led:=by
 unfold PySem.layNew
 split
 ·rename_i slot d hs
  have:=T.put (Jdf T hs)
  refine⟨this.orStandIn _,?_⟩
  show ((t.put slot).1.orStandIn _).led=t.led
  unfold SetTable.orStandIn
  split<;>rfl
 ·exact⟨.standIn _ _,rfl⟩
theorem Zg {f:Nat→Option Nat}:∀(l:List Nat),l.Pairwise (·<·)→((l.filterMap fun j=>(f j).map (j,·)).map (·.1)).Pairwise (·<·):=by
 intro l_
 induction l_ with
 |nil=>
  intro _
  simp
 |cons a l ih_=>
  intro h
  rw[List.pairwise_cons] at h
  rw[List.filterMap_cons]
  have ih:=ih_ h.2
  cases hf:f a with
  |none=>simpa [hf] using ih
  |some k=>
   simp only [Option.map_some,List.map_cons,List.pairwise_cons]
   refine⟨fun b hb=>?_,ih⟩
   refine x12 (List.mem_map.mp hb) fun p hp q1_=>?_
   subst q1_
   refine x12 (List.mem_filterMap.mp hp) fun c hc e=>?_
   refine x12 (Option.map_eq_some_iff.mp e) fun q _ q1_=>?_
   subst q1_
   exact h.1 c hc
theorem TOk.laid {led plain:Bool} {hashes:Array Int} {t':SetTable} {order:Array Nat} (e:SetTable.laid mask finger moves led plain hashes=some (t',order)):TOk t'∧t'.led=led:=by
 unfold SetTable.laid at e
 refine x12 (Option.bind_eq_some_iff.mp e) fun owner h1 e=>?_
 cases e
 refine⟨⟨?_,rfl⟩,rfl⟩
 exact Zg (List.range (mask+1)) List.pairwise_lt_range
set_option tactic.hygienic true in
theorem TOk.relayAll (es:Array (Int×Value)) (w:Nat):TOk (relayAll t es w).2.1∧(relayAll t es w).2.1.led=t.led:=by
 unfold PySem.relayAll
 split
 ·rename_i t' order h
  unfold SetTable.relaid at h
  have:=TOk.laid h
  dsimp only
  split
  ·exact this
  ·exact⟨.standIn _ _,rfl⟩
 ·exact⟨.standIn _ _,rfl⟩
end Mine
namespace Mine
variable {Z:Fix} {A:Around} {E:Value→Shared→Prop} {s:Shared}
noncomputable abbrev setO (es:Array (Int×Value)) (ep:Nat) (t:SetTable):Obj:={cls:=.type "set",data:=.set es ep t}
noncomputable def iv:Value→Int
 |.int i _=>i
 |_=>0
noncomputable def dstep (ks:List Int) (k:Int):List Int:=if ks.any (fun j=>k==j) then ks else k::ks
theorem Jiu {ks:List Int}:ks.any (fun j=>k==j)=true↔k∈ks:=by
 rw[List.any_eq_true]
 exact⟨fun w0_=>x12 w0_ fun j hj e=>eq_of_beq e▸hj,fun h=>⟨k,h,beq_self_eq_true k⟩⟩
noncomputable def byText (Z:Fix):Bool:=Z.w.params.followText "set-order"
structure SI (Z:Fix) (h:Heap) (a:Addr) (ks:List Int) (es:Array (Int×Value)) (ep:Nat) (t:SetTable):Prop where
 get:h.get? a=some (setO es ep t)
 el:ElemsOf (intKind Z.prog Z.w) es.toList
 vals:(es.toList.map fun e=>iv e.2).Perm ks
 fits:t.fits es.size=true
 tok:TOk t
 led:t.led=!byText Z
noncomputable def SIn (Z:Fix) (h:Heap) (a:Addr) (ks:List Int):Prop:=∃es ep t,SI Z h a ks es ep t
variable {a:Addr} {ks:List Int} {es:Array (Int×Value)} {ep:Nat} {t:SetTable}
theorem SI.size (I:SI Z h a ks es ep t):es.size=ks.length:=by
 rw[←I.vals.length_eq,List.length_map,Array.length_toList]
theorem SI.mem (I:SI Z h a ks es ep t) (k:Int):k∈ks↔∃e∈es.toList,(intKind Z.prog Z.w).is k e.2=true:=by
 rw[←I.vals.mem_iff,List.mem_map]
 constructor
 ·rintro ⟨e,he,rfl⟩
  refine x02 (I.el e he) fun q1_ _=>?_
  refine x12 q1_ fun k' hk _=>?_
  refine⟨e,he,?_⟩
  refine x11 (Value.isInt_shape hk) fun u hu=>?_
  rw[hu] at hk ⊢
  exact hk
 ·rintro ⟨e,he,hk⟩
  refine x11 (Value.isInt_shape hk) fun u hu=>?_
  exact⟨e,he,by rw[hu];rfl⟩
theorem SI.put (I:SI Z h a ks es ep t) (el:ElemsOf (intKind Z.prog Z.w) es'.toList) (vals:(es'.toList.map fun e=>iv e.2).Perm ks') (fits:t'.fits es'.size=true) (tok:TOk t') (led:t'.led=t.led) :
  SI Z (h.update a (Obj.putSet es' t')) a ks' es' (ep+1) t':=
 ⟨Heap.get?_update_self (Obj.putSet es' t') I.get rfl,el,vals,fits,tok,led.trans I.led⟩
theorem gw_ok (b:Bool) (h:Q () s):wpAny (model Z.prog Z.w) A (match b with|true=>rule tag|false=>pure ()) Q E s:=by
 cases b with
 |true=>exact wpAny_rule h
 |false=>exact wpAny_pure h
theorem Jel {g:Bool→Sem Unit} (hg:∀(b:Bool) (s₁:Shared) (Q':Unit→Shared→Prop),Q' () s₁→wpAny (model Z.prog Z.w) A (g b) Q' E s₁) {Q:Option Bool→Shared→Prop} (I:SI Z s.heap a ks es ep t)
  (el:ElemsOf (intKind Z.prog Z.w) es'.toList) (vals:(es'.toList.map fun e=>iv e.2).Perm ks') (fits:t'.fits es'.size=true) (tok:TOk t') (led:t'.led=t.led) (hz:es'.size≤sizeLine)
  (h:∀h',Heap.SameBut a s.heap h'→SIn Z h' a ks'→Q (some true) {s with heap:=h'}) :
  wpAny (model Z.prog Z.w) A (do
    storeSet a es' t'
    if (!wd&&t'.tooFull)=true then do
      g (relayAll t' es' (SetTable.grown es'.size)).2.2
      storeSet a (relayAll t' es' (SetTable.grown es'.size)).1 (relayAll t' es' (SetTable.grown es'.size)).2.1
      pure (some true)
     else pure (some true)) Q E s:=by
 refine wpAny_bind (wpAny_storeSet_of I.get rfl ?_ hz)
 have J:=I.put el vals fits tok led
 have k1:=Heap.SameBut.update s.heap a (Obj.putSet es' t')
 split
 ·have hp:=relayAll_perm t' es' (SetTable.grown es'.size)
  refine wpAny_bind (hg _ _ _ (wpAny_bind (wpAny_storeSet_of J.get rfl ?_ ?_)))
  ·have ht:=TOk.relayAll (t:=t') es' (SetTable.grown es'.size)
   exact wpAny_pure (h _ (k1.trans (Heap.SameBut.update _ a _)) ⟨_,_,_,J.put (el.perm hp) ((hp.map _).trans vals) (relayAll_fits ..) ht.1 ht.2⟩)
  ·rw[←Array.length_toList,hp.length_eq,Array.length_toList];exact hz
 ·exact wpAny_pure (h _ k1 ⟨_,_,_,J⟩)
theorem add_ok {u:Tok} {Q:Bool→Shared→Prop} (hS:SIn Z s.heap a ks) (hb:ks.length<4000)
  (h:∀b h',Heap.SameBut a s.heap h'→SIn Z h' a (dstep ks k)→Q b {s with heap:=h'}) :
  wpAny (model Z.prog Z.w) A (setAddHashed a (.int k u) ((intKind Z.prog Z.w).hash k)) Q E s:=by
 refine x31 hS fun es ep t I=>?_
 have hsz:=I.size
 unfold setAddHashed setAddHashedIn
 refine wpAny_holding (wpAny_bind (wpAny_setState_of I.get rfl I.fits ?_))
 dsimp only
 rw[byScan_of (knd:=intKind Z.prog Z.w) rfl (by unfold scanBound;exact Nat.lt_of_le_of_lt (Nat.le_of_eq hsz) (Nat.lt_of_lt_of_le hb (by decide))) I.el]
 simp only [↓reduceIte]
 unfold setAddByScan
 refine wpAny_bind (wpAny_bind (wpAny_rule (wpAny_bind (wpAny_setScan_of (intKind_is _ _ _ _) I.get rfl I.fits I.el ?_))))
 cases hr:List.findIdx? (fun e=>(intKind Z.prog Z.w).is k e.2) es.toList with
 |some j=>
  dsimp only
  obtain ⟨hj,hpj,_⟩:=List.findIdx?_eq_some_iff_getElem.mp hr
  refine wpAny_pure (wpAny_pure (h false s.heap (Heap.SameBut.refl a s.heap) ⟨es,ep,t,?_⟩))
  unfold dstep
  rw[if_pos (Jiu.mpr ((I.mem k).mpr ⟨_,List.getElem_mem hj,hpj⟩))]
  exact I
 |none=>
  dsimp only
  have hk:dstep ks k=k::ks:=if_neg fun q=>by
   refine x12 ((I.mem k).mp (Jiu.mp q)) fun e he hp=>?_
   rw[List.findIdx?_eq_none_iff.mp hr e he] at hp
   exact Bool.noConfusion hp
  rw[hk] at h
  have hperm:=layNew_perm t es ((intKind Z.prog Z.w).hash k) (.int k u)
  have hfits:=layNew_fits t es ((intKind Z.prog Z.w).hash k) (.int k u)
  have htok:=TOk.layNew I.tok es ((intKind Z.prog Z.w).hash k) (.int k u)
  generalize layNew t es ((intKind Z.prog Z.w).hash k) (.int k u)=L at hperm hfits htok ⊢
  obtain ⟨es1,t1,wd,gave⟩:=L
  dsimp only at hperm hfits htok ⊢
  rw[Array.toList_push] at hperm
  have el1:ElemsOf (intKind Z.prog Z.w) es1.toList:=(I.el.push (intKind_is _ _ _ _) rfl).perm hperm
  have v1:(es1.toList.map fun e=>iv e.2).Perm (k::ks):=by
   refine(hperm.map _).trans ?_
   rw[List.map_append]
   exact(List.perm_append_singleton k _).trans (I.vals.cons k)
  have z1:es1.size≤sizeLine:=by
   rw[←Array.length_toList,hperm.length_eq,List.length_append,Array.length_toList,sizeLine_eq,List.length_singleton];exact Nat.lt_of_le_of_lt (Nat.le_of_eq hsz) (Nat.lt_of_lt_of_le hb (by decide))
  have hend:∀h',Heap.SameBut a s.heap h'→SIn Z h' a (k::ks)→wpAny (model Z.prog Z.w) A (match some true with|some added=>pure added|none=>setAddHashedIn a (.int k u) ((intKind Z.prog Z.w).hash k) 99999) Q E {s with heap:=h'}:=fun h' x y=>wpAny_pure (h true h' x y)
  refine wpAny_bind (gw_ok _ ?_)
  split
  ·refine wpAny_bind (wpAny_pure ?_)
   simp only [↓reduceIte]
   exact Jel (fun b _ _ q=>gw_ok b q) I el1 v1 hfits htok.1 htok.2 z1 hend
  ·refine wpAny_bind (wpAny_pure ?_)
   simp only [↓reduceIte]
   exact Jel (fun b _ _ q=>gw_ok b q) I el1 v1 hfits htok.1 htok.2 z1 hend
end Mine
namespace Mine
set_option maxRecDepth 100000
variable {Z:Fix} {A:Around} {E:Value→Shared→Prop} {s:Shared} {a:Addr} {ks:List Int}
theorem SIn.keep (S:SIn Z h a ks) (k:∀o,h.get? a=some o→h'.get? a=some o):SIn Z h' a ks:=
 x31 S fun es ep t I=>⟨es,ep,t,k _ I.get,I.el,I.vals,I.fits,I.tok,I.led⟩
theorem Jj0 {R:Result→Shared→Prop} {G:Array GenState→Array GenState→Prop} {P:Nat→Value→Prop} {St:Nat→Shared→Prop}
  (W:WalksS Z.prog Z.w A.in1 I fp wr G n P St) (hSf:a∉fp) (ns:List Int) (hn:ns.length=n) (hb:n<4000) (hval:∀i v,P i v→∃t,v=.int (ns.getD i 0) t) :
  ∀(k i:Nat) (s:Shared) (ks:List Int),n - i=k→i≤n→St i s→SIn Z s.heap a ks→ks.length≤i→List.eraseDupsBy.loop (·==·) (ns.drop i) ks=ns.eraseDups→
   (∀s' ks',Moved (a::wr) G s s'→SIn Z s'.heap a ks'→ks'.reverse=ns.eraseDups→R (.ok (.ret .none)) s')→
   codeAny (model Z.prog Z.w) A (.builtin "set.update.loop" ⟨[.ref a,.ref I],[]⟩) R s:=by
 have hSw:a∉wr:=fun h=>hSf (W.sub _ h)
 have hsub:∀b∈wr,b∈a::wr:=fun b hb=>List.mem_cons_of_mem _ hb
 intro k
 induction k with
 |zero=>
  intro i s ks hk hi hst hS hl hd hR
  have hin:i=n:=by exact Nat.le_antisymm hi (Nat.le_of_sub_eq_zero hk)
  subst hin
  refine codeAny_builtin PyProof.Rows.F.entry_set_update_loop ?_
  rw[Around.under_plainId PyProof.Rows.F.plain_set_update_loop _]
  refine wpAny_bind (m:=pyNext (.ref I)) (W.done s _ _ hst fun s' hm=>?_)
  rw[List.drop_of_length_le (Nat.le_of_eq hn)] at hd
  exact wpAny_pure (hR s' ks (hm.mono hsub) (hS.keep fun o e=>hm.heap a o hSw e) hd)
 |succ k ih=>
  intro i s ks hk hi hst hS hl hd hR
  have hlt:i<n:=by exact Nat.lt_of_sub_eq_succ hk
  refine codeAny_builtin PyProof.Rows.F.entry_set_update_loop ?_
  rw[Around.under_plainId PyProof.Rows.F.plain_set_update_loop _]
  refine wpAny_bind (m:=pyNext (.ref I)) (W.item i s _ _ hlt hst fun v s' hP hst' hm=>?_)
  refine x11 (hval i v hP) fun t q1_=>?_
  subst q1_
  refine wpAny_bind (m:=holding [Value.int (ns.getD i 0) t] (setAdd a (.int (ns.getD i 0) t))) (wpAny_holding ?_)
  unfold setAdd
  refine wpAny_holding (wpAny_bind ((intKind Z.prog Z.w).pyHash (k:=ns.getD i 0) (intKind_is _ _ _ _) ?_))
  refine add_ok (s:={s' with toks:=s'.toks+1}) (hS.keep fun o e=>hm.heap a o hSw e) (Nat.lt_of_le_of_lt hl (Nat.lt_trans hlt hb)) fun b h' hsb hS2=>?_
  refine wpAny_pure ⟨plainId_quiet PyProof.Rows.F.plain_set_update_loop _,ih (i+1) _ (dstep ks (ns.getD i 0)) (by exact congrArg Nat.pred hk) hlt (W.frame _ s' _ _ hst' (Nat.le_succ _) fun b hb o e=>?_) hS2 ?_ ?_ fun s'' ks' hm'' hS''=>?_⟩
  ·rw[hsb.2 b (fun h:b=a=>hSf (by rw[←h];exact hb))];exact e
  ·unfold dstep
   split
   ·exact Nat.le_succ_of_le hl
   ·rw[List.length_cons];exact Nat.succ_le_succ hl
  ·rw[←hd]
   have hlt':i<ns.length:=Nat.lt_of_lt_of_le hlt (Nat.le_of_eq (Eq.symm hn))
   rw[List.drop_eq_getElem_cons hlt',List.getD_eq_getElem?_getD,List.getElem?_eq_getElem hlt']
   conv=>rhs;unfold List.eraseDupsBy.loop
   unfold dstep
   show List.eraseDupsBy.loop _ _ (if (ks.any fun j=>ns[i]==j)=true then ks else ns[i]::ks)=_
   cases ks.any fun j=>ns[i]==j<;>rfl
  ·refine hR s'' ks' (Moved.trans W.gtrans ((hm.mono hsub).then_heap (Nat.le_succ _) fun b o hb e=>?_) hm'') hS''
   rw[hsb.2 b (fun h:b=a=>hb (by rw[h];exact List.mem_cons_self))];exact e
theorem Jcf (x:Value)
  (h:Q₁ (.ref s.heap.objs.size) {s with heap:=s.heap.push (setO #[] 0 (.fresh 0 0 (!byText Z)))}) :
  codeAny (model Z.prog Z.w) A (.call (.builtin "set.__new__") ⟨[.type "set",x],[]⟩) (wants Q₁ E) s:=by
 refine codeAny_of_tree ?_
 show wpAny _ A.in1 (do checkBuiltinCall "set.__new__" ⟨[.type "set",x],[]⟩;again (.builtin "set.__new__" ⟨[.type "set",x],[]⟩)) _ _ s
 refine wpAny_bind (wpAny_of_eq (F.newCall_set_1 x) (wpAny_pure ⟨plainId_quiet F.plain_set_new _,codeAny_builtin F.entry_set_new ?_⟩))
 rw[Around.under_plainId F.plain_set_new _]
 unfold Builtin.«set.__new__» Builtin.Frozenset.newClass
 have hsub:=sub_set_self
 obtain ⟨hp,g,d,tk,os⟩:=s
 dsimp only
 wp_walk
 refine wpAny_askSetting (wpAny_pure ?_)
 dsimp only
 simp only [newObj]
 refine wpAny_bind (wpAny_alloc (wpAny_pure ?_))
 exact wpAny_pure h
set_option maxHeartbeats 3200000 in
theorem Jll
  (hh:A.handled=none) (hl:s.heap.get? l=some (listO items c)) (hi:PyProof.Rows.IntsAre items.toList ns) (hb:items.size<4000)
  (h:∀(h':Heap) (tk:Nat) ks,SIn Z h' s.heap.objs.size ks→ks.reverse=ns.eraseDups→(∀b o,s.heap.get? b=some o→h'.get? b=some o)→Q (.ref s.heap.objs.size) {s with heap:=h',toks:=tk}) :
  wpAny (model Z.prog Z.w) A (call (.type "set") [.ref l]) Q E s:=by
 refine x21 F.called_set.mro fun c tl hmro=>?_
 have hmade:=F.called_set.made
 have hsub:=F.called_set.sub
 refine wpAny_call (codeAny_of_tree ?_)
 show wpAny _ _ (callAny (.type "set") _) _ _ _
 refine wpAny_pure ⟨Code.quiet_builtin _ (by decide +kernel),codeAny_builtin F.entry_type_call ?_⟩
 rw[Around.under_plain (weight_type_call_type "set" [.ref l] []) rfl]
 have h1:=F.called_set.notType
 have h2:=F.called_set.canCreate
 have hct:=F.typeCall_set_1 (.ref l)
 repeat (any_goals (first|assumption|wp_step))
 refine codeAny_mono (Jcf (.ref l) (E:=E) (Q₁:=fun obj s₁=>obj=.ref s.heap.objs.size∧s₁={s with heap:=s.heap.push (setO #[] 0 (.fresh 0 0 (!byText Z)))}) ⟨rfl,rfl⟩) fun r s₁ hr=>?_
 cases r with
 |error e=>exact hr
 |ok fl=>
  cases fl with
  |ret obj=>
   obtain ⟨rfl,rfl⟩:=hr
   have hS:(s.heap.push (setO #[] 0 (.fresh 0 0 (!byText Z)))).get? s.heap.objs.size=some (setO #[] 0 (.fresh 0 0 (!byText Z))):=Heap.get?_push_size _ rfl
   have hT:Shared.TypeIs {s with heap:=s.heap.push (setO #[] 0 (.fresh 0 0 (!byText Z)))} (.ref s.heap.objs.size) "set":=⟨_,hS,rfl⟩
   have hli:=F.called_set.init.lookup
   have hbi:=F.called_set.init.bind (.ref s.heap.objs.size)
   repeat (any_goals (first|assumption|wp_step))
   refine codeAny_mono (codeAny_call_builtin (R:=wants (fun r s₂=>r=.none∧∃h' tk ks,s₂={s with heap:=h',toks:=tk}∧SIn Z h' s.heap.objs.size ks∧ks.reverse=ns.eraseDups∧
     (∀b o,s.heap.get? b=some o→h'.get? b=some o)) E) F.called_set.init.plain F.entry_set_init (check_set_init_1 hT ?_)) fun r₂ s₂ hr₂=>?_
   ·have hl1:(s.heap.push (setO #[] 0 (.fresh 0 0 (!byText Z)))).IsList l items:=⟨_,Heap.get?_push_of_some _ hl,rfl,_,rfl⟩
    have hol':=Heap.get?_push_of_some (setO #[] 0 (.fresh 0 0 (!byText Z))) hl
    have hsls:=F.sub_list_set
    have hslf:=F.sub_list_frozenset
    have hne:(Value.type "list"==Value.type "dict")=false:=by decide
    unfold Builtin.«set.__init__» noKeywords Builtin.Frozenset.updateFrom
    generalize hPI:pyIter=PI
    wp_walk
    subst hPI
    refine wpAny_pyIter_list hl1 ?_
    refine wpAny_bind (wpAny_runValue ?_)
    have hlS:l<s.heap.objs.size:=Heap.lt_size hl
    have hh3:A.in1.in1.in1.handled=none:=hh
    have z1:=Heap.size_push s.heap (setO #[] 0 (.fresh 0 0 (!byText Z)))
    have hneI:l≠(s.heap.push (setO #[] 0 (.fresh 0 0 (!byText Z)))).objs.size:=by
     rw[z1];exact Nat.ne_of_lt (Nat.lt_succ_of_lt hlS)
    have hSf:s.heap.objs.size∉[(s.heap.push (setO #[] 0 (.fresh 0 0 (!byText Z)))).objs.size,l]:=fun q=>by
     rw[z1] at q
     exact(List.mem_cons.mp q).elim (fun q=>Nat.succ_ne_self _ q.symm) fun q=>Nat.ne_of_gt hlS (List.mem_singleton.mp q)
    have hval:∀(i:Nat) (v:Value),items[i]?=some v→∃t,v=.int (ns.getD i 0) t:=fun i v hv=>
     PyProof.Rows.IntsAre.int_at hi i v (by rw[Array.getElem?_toList];exact hv)
    have hln:ns.length=items.size:=by rw[←IntsAre.length hi,Array.length_toList]
    refine Jj0 ((Walks.list hh3 _ l hneI items).toS) hSf ns hln hb hval (items.size - 0) 0 _ [] rfl (Nat.zero_le _)
     ⟨⟨_,Heap.get?_push_size _ rfl,rfl,rfl⟩,(hl1.push _)⟩ ⟨#[],0,_,Heap.get?_push_of_some _ hS,fun e he=>(List.not_mem_nil he).elim,.nil,rfl,⟨.nil,rfl⟩,rfl⟩ (Nat.zero_le _) rfl fun s' ks hm hS' hd=>?_
    obtain ⟨h',g',d',tk',os'⟩:=s'
    have eg:g'=s.gens:=hm.gens
    have ed:d'=s.drawn:=hm.drawn
    have eo:os'=s.os:=hm.os
    subst eg;subst ed;subst eo
    refine wpAny_pure (wpAny_pure ⟨rfl,h',tk',ks,rfl,hS',hd,fun b o e=>?_⟩)
    have hb':=Heap.lt_size e
    refine hm.heap b o (fun q=>?_) (Heap.get?_push_of_some _ (Heap.get?_push_of_some _ e))
    rw[z1] at q
    exact(List.mem_cons.mp q).elim (Nat.ne_of_lt hb') fun q=>Nat.ne_of_lt (Nat.lt_succ_of_lt hb') (List.mem_singleton.mp q)
   ·cases r₂ with
    |error e=>exact hr₂
    |ok fl₂=>
     cases fl₂ with
     |ret r=>
      obtain ⟨rfl,h',tk,ks,rfl,hS',hd,hk'⟩:=hr₂
      repeat (any_goals (first|assumption|wp_step))
      exact h _ _ ks hS' hd hk'
     |_=>exact hr₂.elim
  |_=>exact hr.elim
end Mine
namespace Mine
set_option maxRecDepth 100000
variable {Z:Fix} {A:Around} {E:Value→Shared→Prop} {s:Shared} {a I d:Addr} {ks:List Int} {es:Array (Int×Value)} {ep:Nat} {t:SetTable}
theorem Qs:Slot "set_iterator" "__next__" "set_iterator.__next__":=
 .of (owner:="set_iterator") (n:="__next__") (by rw[typeLookup_type,builtinLookup_eq_fast];kernel_rfl) (by decide +kernel) (by decide +kernel) (by decide +kernel)
  (by first|exact .inl (by decide +kernel)|exact .inr (by decide +kernel)) (by rw[isSubtype_type];kernel_rfl)
theorem Ja0:entryFor table "set_iterator.__next__"=some Builtin.«set_iterator.__next__»:=entryFor_of_tree (by kernel_rfl)
theorem Jcm (x:Value):argsOk "set_iterator.__next__" ⟨[x],[]⟩:=by unfold argsOk;kernel_rfl
theorem Jb8:entryFor table "set.__iter__"=some Builtin.«frozenset.__iter__»:=
 entryFor_alias (id':="frozenset.__iter__") (by kernel_rfl) rfl (by decide +kernel) (by kernel_rfl)
noncomputable abbrev itO (f:Value) (i:Nat) (a:Addr) (n ep:Nat):Obj:={cls:=.type "set_iterator",data:=.fields #[f,.int i 0,.ref a,.int n 0,.int ep 0]}
theorem Jek (hr:xs.toList.Pairwise (·<·)) (hi:i≤xs.size) (h1:∀k (h:k<xs.size),k<i→xs[k]<j) (h2:∀h:i<xs.size,j≤xs[i]):SetTable.below xs j=i:=by
 refine x03 (Jae xs j hr) fun p1 p2 p3=>?_
 rcases Nat.lt_trichotomy (SetTable.below xs j) i with h|h|h
 ·have:=h1 _ (Nat.lt_of_lt_of_le h hi) h
  have:=p3 _ (Nat.lt_of_lt_of_le h hi) (Nat.le_refl _)
  omega
 ·exact h
 ·have:=p2 i (Nat.lt_of_lt_of_le h p1) h
  have:=h2 (Nat.lt_of_lt_of_le h p1)
  omega
noncomputable def slAt (t:SetTable):Nat→Nat
 |0=>0
 |i+1=>t.place.getD i 0+1
theorem Jbj (h:i<t.place.size):slAt t (i+1)=t.place[i]+1:=by
 show t.place.getD i 0+1=_
 rw[Array.getD_eq_getD_getElem?,Array.getElem?_eq_getElem h];rfl
theorem Jlp (T:TOk t) (hi:i≤t.place.size):SetTable.below t.place (slAt t i)=i:=by
 have mono:=rise T.1
 cases i with
 |zero=>exact Jek T.1 hi (fun k _ hk=>(Nat.not_lt_zero _ hk).elim) fun _=>Nat.zero_le _
 |succ i=>
  rw[Jbj hi]
  refine Jek T.1 hi (fun k hk hki=>?_) fun h=>mono i (i+1) hi h (Nat.lt_succ_self _)
  rcases Nat.lt_or_ge k i with h|h
  ·exact Nat.lt_succ_of_lt (mono k i hk hi h)
  ·have:k=i:=Nat.le_antisymm (Nat.le_of_lt_succ hki) h
   subst this
   exact Nat.lt_succ_self _
theorem Je4 (S:SI Z s.heap a ks es ep t) (hb:byText Z=false) (hp:(!t.plain&&decide (es.size>1))=false) (hi:i≤es.size) (h:Q ((es[i]?).map fun e=>(e.2,slAt t (i+1))) s) :
  wpAny (model Z.prog Z.w) A (setNext a (slAt t i) i ep) Q E s:=by
 unfold setNext
 refine wpAny_bind (wpAny_setState_of S.get rfl S.fits ?_)
 refine wpAny_bind (m:=setsByText) (wpAny_bind (wpAny_askSetting (wpAny_pure ?_)))
 refine wpAny_ite_split (fun q=>absurd (hb.symm.trans q) Bool.false_ne_true) fun _=>?_
 refine wpAny_ite_split (fun q=>absurd (hp.symm.trans q) Bool.false_ne_true) fun _=>?_
 refine wpAny_bind ?_
 refine wpAny_ite_split (fun q=>absurd q ?_) fun _=>wpAny_pure ?_
 ·rw[S.led,hb];exact Bool.false_ne_true
 have hsz:t.place.size=es.size:=by
  have:=S.fits
  unfold SetTable.fits at this
  exact eq_of_beq (Bool.and_eq_true_iff.mp this).1
 dsimp only
 rw[Jlp S.tok (by rw[hsz];exact hi)]
 refine wpAny_pure ?_
 by_cases q:i<es.size
 ·rw[Array.getElem?_eq_getElem q] at h ⊢
  rw[Array.getElem?_eq_getElem (by rw[hsz];exact q)]
  rw[Jbj (by rw[hsz];exact q)] at h
  exact h
 ·rw[Array.getElem?_eq_none (Nat.le_of_not_lt q)] at h ⊢
  exact h
theorem Jhn (S:SI Z s.heap a ks es ep t) (hb:byText Z=true) (h:Q (((pickOrder (Z.w.params.setOrder a ep) es)[i]?).map fun e=>(e.2,0)) s) :
  wpAny (model Z.prog Z.w) A (setNext a 0 i ep) Q E s:=by
 unfold setNext
 refine wpAny_bind (wpAny_setState_of S.get rfl S.fits ?_)
 refine wpAny_bind (m:=setsByText) (wpAny_bind (wpAny_askSetting (wpAny_pure ?_)))
 refine wpAny_ite_split (fun _=>?_) fun q=>absurd hb q
 refine wpAny_ite_split (fun q=>absurd (bne_self_eq_false (a:=ep)▸q) Bool.false_ne_true) fun _=>?_
 unfold setWalk
 refine wpAny_bind (wpAny_bind (wpAny_setState_of S.get rfl S.fits ?_))
 refine wpAny_bind (m:=setsByText) (wpAny_bind (wpAny_askSetting (wpAny_pure ?_)))
 refine wpAny_ite_split (fun _=>?_) fun q=>absurd hb q
 exact wpAny_bind (wpAny_askSetting (wpAny_pure (wpAny_pure h)))
theorem Z2 (hh:A.handled=none) (h:∀h' p,(∀b o,s.heap.get? b=some o→h'.get? b=some o)→Shared.TypeIs {s with heap:=h'} (.ref p) "StopIteration"→E (.ref p) {s with heap:=h'}) :
  wpAny (model Z.prog Z.w) A (newExc (.type "StopIteration") [] >>= fun e=>raiseNew e) Q E s:=by
 refine wpAny_bind ?_
 simp only [newExc,newTuple]
 refine wpAny_bind (wpAny_newObj_type ?_ (by size_fits))
 refine wpAny_bind (m:=firstArgMember _ _) (wpAny_of_eq (a:=Value.none) (by first|rfl|(simp only [firstArgMember];rfl)) ?_)
 refine wpAny_newObj_type ?_ (by size_fits)
 simp only [raiseNew]
 refine wpAny_bind (wpAny_handled ?_)
 rw[hh]
 refine wpAny_bind (wpAny_pure (wpAny_throw (h _ _ (fun b o e=>Heap.get?_push_of_some _ (Heap.get?_push_of_some _ e)) ⟨_,Heap.get?_push_size _ rfl,rfl⟩)))
end Mine
namespace Mine
set_option maxRecDepth 100000
variable {Z:Fix} {A:Around} {E:Value→Shared→Prop} {s:Shared} {a I d:Addr} {ks:List Int} {es:Array (Int×Value)} {ep:Nat} {t:SetTable}
theorem Yg:Slot "set_iterator" "__iter__" "set_iterator.__iter__":=
 .of (owner:="set_iterator") (n:="__iter__") (by rw[typeLookup_type,builtinLookup_eq_fast];kernel_rfl) (by decide +kernel) (by decide +kernel) (by decide +kernel)
  (by first|exact .inl (by decide +kernel)|exact .inr (by decide +kernel)) (by rw[isSubtype_type];kernel_rfl)
theorem Ja1:entryFor table "set_iterator.__iter__"=some Builtin.«dict_keyiterator.__iter__»:=
 entryFor_alias (id':="dict_keyiterator.__iter__") (by kernel_rfl) rfl (by decide +kernel) (by kernel_rfl)
theorem Jcn (x:Value):argsOk "set_iterator.__iter__" ⟨[x],[]⟩:=by unfold argsOk;kernel_rfl
theorem Jhi (ho:s.heap.get? I=some (itO f i a n ep)) (h:Q (.ref I) s):wpAny (model Z.prog Z.w) A (pyIter (.ref I)) Q E s:=by
 have hT:s.TypeIs (.ref I) "set_iterator":=⟨_,ho,rfl⟩
 refine wpAny_pyIter_slot hT Yg (wpAny_call_entry Yg hT Ja1 ?_ (Jcn _))
 show wpAny _ _ (ret (Value.ref I)) _ _ s
 exact wpAny_pure ⟨_,rfl,_,_,hT,Qs.lookup,h⟩
theorem SI.keep (S:SI Z h a ks es ep t) (k:∀o,h.get? a=some o→h'.get? a=some o):SI Z h' a ks es ep t:=⟨k _ S.get,S.el,S.vals,S.fits,S.tok,S.led⟩
theorem Jam (ho:s.heap.get? I=some (itO f i a es.size ep))
  (h:wpAny (model Z.prog Z.w) A.in1 (Builtin.«set_iterator.__next__» ⟨[.ref I],[]⟩) (fun fin s'=>∃r,fin=.done (.ret r)∧Q (some r) s') (fun e s'=>∃p,e=.ref p∧s'.TypeIs (.ref p) "StopIteration"∧Q none s') s) :
  wpAny (model Z.prog Z.w) A (pyNext (.ref I)) Q E s:=by
 have hT:s.TypeIs (.ref I) "set_iterator":=⟨_,ho,rfl⟩
 unfold pyNext
 refine wpAny_bind (wpAny_attempt (wpAny_callSpecial?_slot (name:=Str.ofString "__next__") hT Qs
  (wpAny_call_entry Qs hT Ja0 (wpAny_mono h ?_ ?_) (Jcm _))))
 ·rintro fin s' ⟨r,rfl,q⟩
  exact⟨r,rfl,wpAny_pure q⟩
 ·rintro e s' ⟨p,rfl,hp,q⟩
  exact wpAny_bind (wpAny_isInstance (T:="StopIteration") (b:=true) hp isSubtype_stop (wpAny_pure q))
theorem Jfq (hh:A.handled=none) (hne:a≠I) {sl:Nat→Nat} {vals:List Value} (hn:vals.length=es.size)
  (nx:∀(A:Around) (s:Shared) (Q:Option (Value×Nat)→Shared→Prop) (E:Value→Shared→Prop) i,i≤es.size→SI Z s.heap a ks es ep t→Q ((vals[i]?).map (·,sl (i+1))) s→wpAny (model Z.prog Z.w) A (setNext a (sl i) i ep) Q E s) :
  WalksS Z.prog Z.w A I [I,a] [I] (fun x y=>y=x) es.size (fun i v=>vals[i]?=some v) (fun i s=>SI Z s.heap a ks es ep t∧s.heap.get? I=some (itO (.int (sl i) 0) i a es.size ep)) where
 sub b hb:=List.mem_cons.mpr (.inl (List.mem_singleton.mp hb))
 grefl _:=rfl
 gtrans _ _ _ h1 h2:=h2.trans h1
 frame i s h' tk st _ hk:=⟨st.1.keep fun o e=>hk a (.tail _ (.head _)) o e,hk I (.head _) _ st.2⟩
 self i s Q E st h:=Jhi st.2 h
 item i s Q E hi st hQ:=by
  refine x02 st fun S ho=>?_
  refine Jam ho ?_
  unfold Builtin.«set_iterator.__next__»
  refine wpAny_bind (m:=slotArgs "__next__" 0 _) (wpAny_pure ?_)
  refine wpAny_bind (wpAny_fieldsOf ho rfl ?_)
  show wpAny _ _ (setEntries a >>= _) _ _ s
  refine wpAny_bind (wpAny_setEntries_of S.get rfl S.fits ?_)
  refine wpAny_ite_split (fun q=>absurd q (by simp)) fun _=>?_
  show wpAny _ _ (setNext a (sl i) i ep >>= _) _ _ s
  refine wpAny_bind (nx _ s _ _ i (Nat.le_of_lt hi) S ?_)
  have hi':i<vals.length:=hn.symm▸hi
  rw[List.getElem?_eq_getElem hi']
  show wpAny _ _ (setField (.ref I) 0 (rawInt (sl (i+1))) >>= _) _ _ s
  refine wpAny_bind (wpAny_setField_rec ho (by simp) fun h₁ g₁ k₁=>?_)
  show wpAny _ _ (setField (.ref I) 1 (rawInt ((i:Int)+1)) >>= _) _ _ _
  refine wpAny_bind (wpAny_setField_rec g₁ (by simp) fun h₂ g₂ k₂=>wpAny_pure ⟨_,rfl,?_⟩)
  have k:=k₁.trans k₂
  exact hQ _ {s with heap:=h₂} (List.getElem?_eq_getElem hi') ⟨S.keep fun o e=>(k.2 a hne).trans e,g₂⟩ ⟨fun b o hb e=>(k.2 b fun q=>hb (List.mem_singleton.mpr q)).trans e,rfl,rfl,rfl,Nat.le_refl _⟩
 done s Q E st hQ:=by
  refine x02 st fun S ho=>?_
  refine Jam ho ?_
  unfold Builtin.«set_iterator.__next__»
  refine wpAny_bind (m:=slotArgs "__next__" 0 _) (wpAny_pure ?_)
  refine wpAny_bind (wpAny_fieldsOf ho rfl ?_)
  show wpAny _ _ (setEntries a >>= _) _ _ s
  refine wpAny_bind (wpAny_setEntries_of S.get rfl S.fits ?_)
  refine wpAny_ite_split (fun q=>absurd q (by simp)) fun _=>?_
  show wpAny _ _ (setNext a (sl es.size) es.size ep >>= _) _ _ s
  refine wpAny_bind (nx _ s _ _ es.size (Nat.le_refl _) S ?_)
  rw[List.getElem?_eq_none (Nat.le_of_eq hn)]
  show wpAny _ _ (setField (.ref I) 2 .none >>= _) _ _ s
  refine wpAny_bind (wpAny_setField_rec ho (by simp) fun h₁ g₁ k₁=>?_)
  refine Z2 hh fun h₂ p k₂ hp=>⟨p,rfl,hp,?_⟩
  exact hQ {s with heap:=h₂} ⟨fun b o hb e=>k₂ b o ((k₁.2 b fun q=>hb (List.mem_singleton.mpr q)).trans e),rfl,rfl,rfl,Nat.le_refl _⟩
theorem Jem (hh:A.handled=none) (hne:a≠I) (hd:d≠I) {ps:List Nat} {n:Nat} {vals:List Value} (hps:ps.length=es.size) (hv:∀(i:Nat) v,vals[i]?=some v→∃(p:Nat) (x:Int),ps[i]?=some p∧es[p]?=some (x,v)) (hn:vals.length=es.size) :
  WalksS Z.prog Z.w A I [I,a,d] [I] (fun x y=>y=x) es.size (fun i v=>vals[i]?=some v) (fun i s=>SI Z s.heap a ks es ep t∧s.heap.get? I=some (itO (.ref d) i a es.size ep)∧s.heap.get? d=some (tupO (ps.map fun (i:Nat)=>rawInt i).toArray n)) where
 sub b hb:=List.mem_cons.mpr (.inl (List.mem_singleton.mp hb))
 grefl _:=rfl
 gtrans _ _ _ h1 h2:=h2.trans h1
 frame i s h' tk st _ hk:=⟨st.1.keep fun o e=>hk a (.tail _ (.head _)) o e,hk I (.head _) _ st.2.1,hk d (.tail _ (.tail _ (.head _))) _ st.2.2⟩
 self i s Q E st h:=Jhi st.2.1 h
 item i s Q E hi st hQ:=by
  refine x03 st fun S ho hdr=>?_
  refine Jam ho ?_
  unfold Builtin.«set_iterator.__next__»
  refine wpAny_bind (m:=slotArgs "__next__" 0 _) (wpAny_pure ?_)
  refine wpAny_bind (wpAny_fieldsOf ho rfl ?_)
  show wpAny _ _ (setEntries a >>= _) _ _ s
  refine wpAny_bind (wpAny_setEntries_of S.get rfl S.fits ?_)
  refine wpAny_ite_split (fun q=>absurd q (by simp)) fun _=>?_
  show wpAny _ _ (seqItems? (.ref d) >>= _) _ _ s
  refine wpAny_bind (wpAny_seqItems hdr rfl ?_)
  have hi':i<vals.length:=hn.symm▸hi
  refine x22 (hv i _ (List.getElem?_eq_getElem hi')) fun p x e1 e2=>?_
  have e3:(ps.map fun (i:Nat)=>rawInt i).toArray[i]?=some (.int p 0):=by
   rw[List.getElem?_toArray,List.getElem?_map,e1];rfl
  show wpAny _ _ (match (ps.map fun (i:Nat)=>rawInt i).toArray[i]? with|some (.int place _)=>_|some _=>_|none=>_) _ _ s
  rw[e3]
  show wpAny _ _ (setNextDrawn a p ep >>= _) _ _ s
  unfold setNextDrawn
  refine wpAny_bind (wpAny_bind (wpAny_setState_of S.get rfl S.fits ?_))
  refine wpAny_ite_split (fun q=>absurd (bne_self_eq_false (a:=ep)▸q) Bool.false_ne_true) fun _=>?_
  rw[e2]
  refine wpAny_pure ?_
  show wpAny _ _ (setField (.ref I) 1 (rawInt ((i:Int)+1)) >>= _) _ _ _
  refine wpAny_bind (wpAny_setField_rec ho (by simp) fun h₁ g₁ k=>wpAny_pure ⟨_,rfl,?_⟩)
  exact hQ _ {s with heap:=h₁} (List.getElem?_eq_getElem hi') ⟨S.keep fun o e=>(k.2 a hne).trans e,g₁,(k.2 d hd).trans hdr⟩ ⟨fun b o hb e=>(k.2 b fun q=>hb (List.mem_singleton.mpr q)).trans e,rfl,rfl,rfl,Nat.le_refl _⟩
 done s Q E st hQ:=by
  refine x03 st fun S ho hdr=>?_
  refine Jam ho ?_
  unfold Builtin.«set_iterator.__next__»
  refine wpAny_bind (m:=slotArgs "__next__" 0 _) (wpAny_pure ?_)
  refine wpAny_bind (wpAny_fieldsOf ho rfl ?_)
  show wpAny _ _ (setEntries a >>= _) _ _ s
  refine wpAny_bind (wpAny_setEntries_of S.get rfl S.fits ?_)
  refine wpAny_ite_split (fun q=>absurd q (by simp)) fun _=>?_
  show wpAny _ _ (seqItems? (.ref d) >>= _) _ _ s
  refine wpAny_bind (wpAny_seqItems hdr rfl ?_)
  have e3:(ps.map fun (i:Nat)=>rawInt i).toArray[es.size]?=none:=by
   rw[List.getElem?_toArray]
   exact List.getElem?_eq_none (by rw[List.length_map,hps];exact Nat.le_refl _)
  show wpAny _ _ (match (ps.map fun (i:Nat)=>rawInt i).toArray[es.size]? with|some (.int place _)=>_|some _=>_|none=>_) _ _ s
  rw[e3]
  show wpAny _ _ (setField (.ref I) 0 (rawInt 0) >>= _) _ _ s
  refine wpAny_bind (wpAny_setField_rec ho (by simp) fun h₁ g₁ k₁=>?_)
  show wpAny _ _ (setField (.ref I) 2 .none >>= _) _ _ _
  refine wpAny_bind (wpAny_setField_rec g₁ (by simp) fun h₂ g₂ k₂=>?_)
  have k:=k₁.trans k₂
  refine Z2 hh fun h₃ p k₃ hp=>⟨p,rfl,hp,?_⟩
  exact hQ {s with heap:=h₃} ⟨fun b o hb e=>k₃ b o ((k.2 b fun q=>hb (List.mem_singleton.mpr q)).trans e),rfl,rfl,rfl,Nat.le_refl _⟩
end Mine
namespace Mine
set_option maxRecDepth 100000
variable {Z:Fix} {A:Around} {E:Value→Shared→Prop} {s:Shared} {a I d:Addr} {ks:List Int} {es:Array (Int×Value)} {ep:Nat} {t:SetTable}
theorem Jdw (h:xs[i]?=some x):(x::xs.eraseIdx i).Perm xs:=by
 obtain ⟨hi,rfl⟩:=List.getElem?_eq_some_iff.mp h
 rw[List.eraseIdx_eq_take_drop_succ]
 refine List.perm_middle.symm.trans ?_
 rw[←List.drop_eq_getElem_cons hi,List.take_append_drop]
theorem pick_go (next:Nat→Nat):∀(f k:Nat) (l:List α) (out:Array α),l.length=f→(pickOrder.go next f k l out).toList.Perm (out.toList++l):=by
 intro l_
 induction l_ with
 |zero=>
  intro k l out h
  obtain rfl:=List.eq_nil_of_length_eq_zero h
  exact .of_eq (List.append_nil _).symm
 |succ f ih_=>
  intro k l out h
  have hi:next k % l.length<l.length:=Nat.mod_lt _ (h▸Nat.succ_pos f)
  have e:=List.getElem?_eq_getElem hi
  show (match l[next k % l.length]? with|some x=>pickOrder.go next f (k+1) (l.eraseIdx (next k % l.length)) (out.push x)|none=>out).toList.Perm _
  rw[e]
  refine(ih_ (k+1) _ _ (by rw[List.length_eraseIdx_of_lt hi,h];rfl)).trans ?_
  rw[Array.toList_push,List.append_assoc]
  exact(Jdw e).append_left _
theorem Jhm (next:Nat→Nat) (xs:Array α):(pickOrder next xs).toList.Perm xs.toList:=pick_go next xs.size 0 xs.toList #[] Array.length_toList
theorem Jik (hn:n≠0) (h:∀i dr,i<n→Q i {s with drawn:=dr}):wpAny (model Z.prog Z.w) A (choose src n) Q E s:=fun Γ p _=>by
 unfold choose
 rw[Sem.wp_choose]
 exact⟨hn,h _ _ (Nat.mod_lt _ (Nat.pos_of_ne_zero hn))⟩
theorem drawOrd:∀(n:Nat) (xs:List α) {s:Shared} {Q:List α→Shared→Prop},xs.length=n→(∀dr ys,ys.Perm xs→Q ys {s with drawn:=dr})→wpAny (model Z.prog Z.w) A (drawOrder n xs) Q E s:=by
 intro l_
 induction l_ with
 |zero=>
  intro xs s Q h hQ
  obtain rfl:=List.eq_nil_of_length_eq_zero h
  exact wpAny_pure (hQ s.drawn [] .nil)
 |succ n ih_=>
  intro w1_
  cases w1_ with
  |nil=>
   intro s Q h hQ
   injection h
  |cons x xs=>
   intro s Q h hQ
   refine wpAny_bind (m:=choose .order (x::xs).length) (Jik (Nat.succ_ne_zero _) fun i dr hi=>?_)
   have e:=List.getElem?_eq_getElem hi
   rw[e]
   refine wpAny_bind (ih_ _ (s:={s with drawn:=dr}) (by rw[List.length_eraseIdx_of_lt hi,h];rfl) fun dr ys hy=>wpAny_pure (hQ dr _ ?_))
   exact(hy.cons _).trans (Jdw e)
theorem Jks (hT:s.TypeIs (.ref a) "set") (h:Q false s):wpAny (model Z.prog Z.w) A (Builtin.List.listLengthHint (.ref a)) Q E s:=by
 unfold Builtin.List.listLengthHint
 refine wpAny_bind (wpAny_specialOf hT F.slot_set_len.lookup ?_)
 generalize hid:("set.__len__":String)=id0
 wp_delta
 rw[show splitId id0=some ("set","__len__") from by subst hid;decide +kernel]
 subst hid
 refine wpAny_bind (wpAny_isInstance (T:="set") (b:=true) hT (by rw[isSubtype_type];kernel_rfl) ?_)
 refine wpAny_ite_split (fun hab=>absurd hab (by decide)) (fun _=>?_)
 refine wpAny_ite_split (fun _=>?_) (fun hab=>absurd (by decide +kernel) hab)
 exact wpAny_bind (wpAny_typeOf hT (wpAny_pure h))
theorem iter_ok (S:SI Z s.heap a ks es ep t) (hz:es.size<100)
  (h1:byText Z=true∨(!t.plain&&decide (es.size>1))=false→Q (.ref s.heap.objs.size) {s with heap:=s.heap.push (itO (.int 0 0) 0 a es.size ep)})
  (h2:∀dr (ps:List Nat) h' d p,ps.Perm (List.range es.size)→(∀b o,s.heap.get? b=some o→h'.get? b=some o)→h'.get? d=some (tupO (ps.map fun (i:Nat)=>rawInt i).toArray 0)→h'.get? p=some (itO (.ref d) 0 a es.size ep)→s.heap.get? p=none→d≠p→Q (.ref p) {s with heap:=h',drawn:=dr}) :
  wpAny (model Z.prog Z.w) A (pyIter (.ref a)) Q E s:=by
 have hT:s.TypeIs (.ref a) "set":=⟨_,S.get,rfl⟩
 refine wpAny_pyIter_slot hT F.slot_set_iter (wpAny_call_entry F.slot_set_iter hT Jb8 ?_ (F.args_set_iter_1 _))
 unfold Builtin.«frozenset.__iter__»
 refine wpAny_bind (m:=Builtin.Frozenset.slot0 "__iter__" _) (wpAny_pure ?_)
 refine wpAny_bind (m:=Builtin.Frozenset.sizeOf a) (wpAny_bind (wpAny_setEntries_of S.get rfl S.fits (wpAny_pure ?_)))
 refine wpAny_bind (m:=setDrawn a) (wpAny_bind (wpAny_setState_of S.get rfl S.fits (wpAny_bind (m:=setsByText) (wpAny_bind (wpAny_askSetting (wpAny_pure (wpAny_pure ?_)))))))
 refine wpAny_ite_split (fun q=>?_) fun q=>?_
 ·refine wpAny_bind (m:=drawOrder es.size (List.range es.size)) (drawOrd _ _ List.length_range fun dr ps hp=>?_)
  refine wpAny_bind (m:=newTuple _) (wpAny_newObj_type ?_ ?_)
  ·refine wpAny_bind (m:=setEpoch a) (wpAny_setEpoch_of (Heap.get?_push_of_some _ S.get) rfl S.fits ?_)
   refine wpAny_bind (m:=newFields _ _) (wpAny_newObj_type (wpAny_pure ⟨_,rfl,"set_iterator",_,⟨_,Heap.get?_push_size _ rfl,rfl⟩,Qs.lookup,?_⟩))
   refine h2 dr ps _ s.heap.objs.size _ hp (fun b o e=>Heap.get?_push_of_some _ (Heap.get?_push_of_some _ e)) (Heap.get?_push_of_some _ (Heap.get?_push_size _ rfl)) (Heap.get?_push_size _ rfl) ?_ ?_
   ·rw[Heap.size_push];exact Q0 _
   ·rw[Heap.size_push];exact Nat.ne_of_lt (Nat.lt_succ_self _)
  ·show (ps.map fun (i:Nat)=>rawInt i).toArray.size≤sizeLine
   rw[List.size_toArray,List.length_map,hp.length_eq,List.length_range,sizeLine_eq];exact leK (Nat.le_of_lt hz)
 ·refine wpAny_bind (m:=pure (rawInt 0)) (wpAny_pure ?_)
  refine wpAny_bind (m:=setEpoch a) (wpAny_setEpoch_of S.get rfl S.fits ?_)
  refine wpAny_bind (m:=newFields _ _) (wpAny_newObj_type (wpAny_pure ⟨_,rfl,"set_iterator",_,⟨_,Heap.get?_push_size _ rfl,rfl⟩,Qs.lookup,?_⟩))
  refine h1 ?_
  cases hb:byText Z with
  |true=>exact .inl rfl
  |false=>
   refine .inr (Bool.eq_false_iff.mpr fun z=>q ?_)
   show (!byText Z&&(!t.plain&&decide (es.size>1)))=true
   rw[hb,z];rfl
end Mine
namespace Mine
set_option maxRecDepth 100000
variable {Z:Fix} {A:Around} {E:Value→Shared→Prop} {s:Shared} {a L:Addr} {ks:List Int} {es:Array (Int×Value)} {ep:Nat} {t:SetTable}
inductive Itd (Z:Fix) (A:Around) (L a:Addr) (R:Result→Shared→Prop):Value→Shared→Prop
 |mk {I fp n P St s₁} (W:WalksS Z.prog Z.w A.in1 I fp [I] (fun x y=>y=x) n P St) (hT:s₁.TypeIs (.ref a) "set") (hst:St 0 s₁) (hL:s₁.heap.get? L=some (listO #[] 0)) (hf:L∉fp) (hn:n≤sizeLine)
   (hR:∀s' acc' c',Moved [L,I] (fun x y=>y=x) s₁ s'→s'.heap.get? L=some (listO acc' c')→ItemsOf P acc' n→R (.ok (.ret (.ref L))) s'):Itd Z A L a R (.ref I) s₁
theorem ext_ok (hT:s.TypeIs (.ref a) "set") (hne:L≠a) (h:wpAny (model Z.prog Z.w) A.in1 (pyIter (.ref a)) (Itd Z A L a R) E s) :
  wpAny (model Z.prog Z.w) A.in1 (Builtin.List.listExtendWith (.ref L) (.ref a) (.ref L)) (fun fin s'=>match fin with|.done f=>R (.ok f) s'|.again c'=>c'.quiet=true∧codeAny (model Z.prog Z.w) A c' R s') E s:=by
 unfold Builtin.List.listExtendWith
 refine wpAny_bind (wpAny_typeOf hT ?_)
 refine wpAny_ite_split (fun q=>?_) fun _=>?_
 ·have h1:Builtin.List.listSameRef (.ref L) (.ref a)=false:=beq_eq_false_iff_ne.mpr hne
  rw[h1] at q
  exact absurd q (by decide)
 refine wpAny_bind (wpAny_mono h ?_ fun _ _ e=>e)
 rintro _ s₁ ⟨W,hT₁,hst,hL,hf,hn,hR⟩
 refine wpAny_bind (wpAny_holding (Jks hT₁ ?_))
 refine wpAny_ite_split (fun _=>?_) fun q=>absurd (by decide) q
 refine wpAny_bind (wpAny_rule (wpAny_bind ?_))
 show wpAny _ _ (updateSeq L (·.push .none) >>= fun _=>updateSeq L (·.pop)) _ _ _
 refine wpAny_bind (wpAny_updateSeq hL rfl ?_)
 have hS₂:=Heap.get?_update_self (Obj.mapSeq (·.push Value.none)) hL rfl
 refine wpAny_updateSeq (hz:=by seq_fits) hS₂ rfl ?_
 have hS₃:=Heap.get?_update_self (Obj.mapSeq (·.pop)) hS₂ rfl
 have oth:∀b,b≠L→((s₁.heap.update L (Obj.mapSeq (·.push Value.none))).update L (Obj.mapSeq (·.pop))).get? b=s₁.heap.get? b:=fun b hb=>(Heap.get?_update_other _ _ (Ne.symm hb)).trans (Heap.get?_update_other _ _ (Ne.symm hb))
 refine wpAny_pure ⟨plainId_quiet F.plain_extend_loop _,codeAny_extend_loopS W hn L hf (.ref L) _ 0 _ #[] _ rfl (Nat.zero_le _) (W.frame 0 s₁ _ s₁.toks hst (Nat.le_refl _) fun b hb o e=>(oth b fun q=>hf (q▸hb)).trans e) hS₃ (ItemsOf.nil _) fun s' acc' c' hm hS' hacc=>?_⟩
 exact hR s' acc' c' ⟨fun b o hb e=>hm.heap b o hb ((oth b fun q=>hb (q▸.head _)).trans e),hm.gens,hm.drawn,hm.os,hm.toks⟩ hS' hacc
theorem Jd9 (h:ItemsOf (fun i v=>vals[i]?=some v) acc n) (hn:vals.length=n):acc.toList=vals:=by
 refine List.ext_getElem? fun i=>?_
 rw[Array.getElem?_toList]
 cases e:acc[i]? with
 |some v=>exact(h.2 i v e).symm
 |none=>
  refine(List.getElem?_eq_none ?_).symm
  rw[hn,←h.1]
  exact Array.getElem?_eq_none_iff.mp e
theorem ints_iv:∀{vals:List Value},(∀v∈vals,∃i u,v=.int i u)→PyProof.Rows.IntsAre vals (vals.map iv):=by
 intro l_
 induction l_ with
 |nil=>
  intro _
  exact .nil
 |cons v vals ih_=>
  intro h
  refine x21 (h v (.head _)) fun i u q1_=>?_
  subst q1_
  exact .cons i u (ih_ fun v hv=>h v (.tail _ hv))
theorem SI.ints (S:SI Z h a ks es ep t) {vals:List Value} (hp:vals.Perm (es.toList.map (·.2))):PyProof.Rows.IntsAre vals (vals.map iv)∧(vals.map iv).Perm ks:=by
 refine⟨ints_iv fun v hv=>?_,(hp.map iv).trans (by rw[List.map_map];exact S.vals)⟩
 refine x12 (List.mem_map.mp (hp.mem_iff.mp hv)) fun e he q1_=>?_
 subst q1_
 refine x02 (S.el e he) fun q1_ _=>?_
 refine x12 q1_ fun k hk _=>?_
 refine x11 (Value.isInt_shape hk) fun u hu=>?_
 exact⟨k,u,hu⟩
theorem Jc9 {ps:List Nat} (hp:ps.Perm (List.range es.size)):(ps.map fun p=>(es.getD p (0,.none)).2).Perm (es.toList.map (·.2)):=by
 refine(hp.map _).trans (List.Perm.of_eq (List.ext_getElem? fun i=>?_))
 rw[List.getElem?_map,List.getElem?_map]
 by_cases h:i<es.size
 ·rw[List.getElem?_range h,Array.getElem?_toList,Array.getElem?_eq_getElem h,Option.map_some,Option.map_some,Array.getD_eq_getD_getElem?,Array.getElem?_eq_getElem h];rfl
 ·rw[List.getElem?_eq_none (l:=List.range es.size) (by rw[List.length_range];exact Nat.le_of_not_lt h),List.getElem?_eq_none (l:=es.toList) (Nat.le_of_not_lt h)];rfl
inductive Got (Z:Fix) (s:Shared) (ks:List Int):Result→Shared→Prop
 |mk {vs:Array Value} {is c h' tk dr} (hg:h'.get? s.heap.objs.size=some (listO vs c)) (hi:PyProof.Rows.IntsAre vs.toList is) (hp:is.Perm ks) (hk:∀b o,s.heap.get? b=some o→h'.get? b=some o):Got Z s ks (.ok (.ret (.ref s.heap.objs.size))) {s with heap:=h',toks:=tk,drawn:=dr}
theorem Jfg (hh:A.handled=none) (S:SIn Z s.heap a ks) (hb:ks.length<60) {Q:List Value→Shared→Prop}
  (h:∀vs is h' tk dr,PyProof.Rows.IntsAre vs is→is.Perm ks→(∀b o,s.heap.get? b=some o→h'.get? b=some o)→Q vs {s with heap:=h',toks:=tk,drawn:=dr}):wpAny (model Z.prog Z.w) A (collect (.ref a)) Q E s:=by
 refine x31 S fun es ep t S=>?_
 have hsz:=S.size
 have ha:=Heap.lt_size S.get
 unfold collect
 refine wpAny_bind (wpAny_runValue (codeAny_builtin F.entry_proto_collect ?_))
 rw[Around.under_plainId F.plain_proto_collect _]
 show wpAny _ A.in1 (newList [] >>= fun l=>again (.builtin "list.__iadd__" ⟨[l,.ref a],[]⟩)) _ _ s
 refine wpAny_bind (wpAny_newObj_type ?_)
 refine wpAny_pure ⟨plainId_quiet F.plain_list_iadd _,codeAny_builtin F.entry_list_iadd ?_⟩
 rw[Around.under_plainId F.plain_list_iadd _]
 have S₁:SI Z (s.heap.push (listO #[] 0)) a ks es ep t:=S.keep fun o e=>Heap.get?_push_of_some _ e
 have hL:(s.heap.push (listO #[] 0)).get? s.heap.objs.size=some (listO #[] 0):=Heap.get?_push_size _ rfl
 refine wpAny_mono (E:=Er) (Q:=fun fin s'=>match fin with|.done f=>Got Z s ks (.ok f) s'|.again c'=>c'.quiet=true∧codeAny (model Z.prog Z.w) A c' (Got Z s ks) s') (ext_ok (s:={s with heap:=s.heap.push (listO #[] 0)}) ⟨_,S₁.get,rfl⟩ (Nat.ne_of_gt ha) (iter_ok S₁ (Nat.lt_of_le_of_lt (Nat.le_of_eq hsz) (Nat.lt_of_lt_of_le hb (by decide))) (fun hc=>?_) fun dr ps h' d p hp hk hd hI hno hdp=>?_)) (fun fin s' x=>?_) fun _ _ e=>e.elim
 rotate_left 2
 ·cases fin with
  |done f=>
   cases x with|mk hg hi hp hk=>
   exact wpAny_bind (wpAny_load hg (wpAny_pure (h _ _ _ _ _ hi hp hk)))
  |again c'=>
   refine⟨x.1,codeAny_mono x.2 fun q s₂ y=>?_⟩
   cases y with|mk hg hi hp hk=>
   exact wpAny_bind (wpAny_load hg (wpAny_pure (h _ _ _ _ _ hi hp hk)))
 ·have hne:a≠(s.heap.push (listO #[] 0)).objs.size:=by rw[Heap.size_push];omega
  have hf:s.heap.objs.size∉[(s.heap.push (listO #[] 0)).objs.size,a]:=fun q=>by
   rw[Heap.size_push] at q
   exact(List.mem_cons.mp q).elim (fun q=>by exact absurd q (Nat.ne_of_lt (Nat.lt_succ_self _))) fun q=>Nat.ne_of_gt ha (List.mem_singleton.mp q)
  have key:∀(sl:Nat→Nat) (vals:List Value),sl 0=0→vals.Perm (es.toList.map (·.2))→(∀(A:Around) (s:Shared) (Q:Option (Value×Nat)→Shared→Prop) (E:Value→Shared→Prop) i,i≤es.size→SI Z s.heap a ks es ep t→Q ((vals[i]?).map (·,sl (i+1))) s→wpAny (model Z.prog Z.w) A (setNext a (sl i) i ep) Q E s)→
    Itd Z A s.heap.objs.size a (Got Z s ks) (.ref (s.heap.push (listO #[] 0)).objs.size) {s with heap:=(s.heap.push (listO #[] 0)).push (itO (.int 0 0) 0 a es.size ep)}:=fun sl vals h0 hp nx=>by
   have hlen:vals.length=es.size:=by rw[hp.length_eq,List.length_map,Array.length_toList]
   have g1:((s.heap.push (listO #[] 0)).push (itO (.int 0 0) 0 a es.size ep)).get? (s.heap.push (listO #[] 0)).objs.size=some (itO (.int 0 0) 0 a es.size ep):=Heap.get?_push_size _ rfl
   refine .mk (Jfq (A:=A.in1) hh hne hlen nx) ⟨_,Heap.get?_push_of_some _ S₁.get,rfl⟩ ⟨S₁.keep fun o e=>Heap.get?_push_of_some _ e,by rw[h0];exact g1⟩ (Heap.get?_push_of_some _ hL) hf (by rw[sizeLine_eq];exact Nat.le_of_lt (Nat.lt_of_le_of_lt (Nat.le_of_eq hsz) (Nat.lt_of_lt_of_le hb (by decide)))) fun s' acc' c' hm hS' hacc=>?_
   have e:=Jd9 hacc hlen
   have q:=S.ints hp
   obtain ⟨h₁,g₁,d₁,t₁,o₁⟩:=s'
   obtain rfl:=(show g₁=s.gens from hm.gens)
   obtain rfl:=(show o₁=s.os from hm.os)
   refine .mk (vs:=acc') hS' (e▸q.1) q.2 fun b o eb=>hm.heap b o (fun q=>?_) (Heap.get?_push_of_some _ (Heap.get?_push_of_some _ eb))
   have:=Heap.lt_size eb
   rw[Heap.size_push] at q
   exact(List.mem_cons.mp q).elim (fun q=>by omega) fun q=>by have:=List.mem_singleton.mp q;omega
  cases hb:byText Z with
  |true=>
   refine key (fun _=>0) ((pickOrder (Z.w.params.setOrder a ep) es).toList.map (·.2)) rfl ((Jhm _ _).map _) fun A s Q E i hi S hq=>Jhn S hb ?_
   rw[List.getElem?_map,Array.getElem?_toList,Option.map_map] at hq
   exact hq
  |false=>
   refine key (slAt t) (es.toList.map (·.2)) rfl (.refl _) fun A s Q E i hi S hq=>Je4 S hb (hc.elim (fun z=>by rw[hb] at z;exact Bool.noConfusion z) id) hi ?_
   rw[List.getElem?_map,Array.getElem?_toList,Option.map_map] at hq
   exact hq
 ·have hlen:(ps.map fun p=>(es.getD p (0,.none)).2).length=es.size:=by rw[List.length_map,hp.length_eq,List.length_range]
  have hv:∀(i:Nat) v,(ps.map fun p=>(es.getD p (0,.none)).2)[i]?=some v→∃(p:Nat) (x:Int),ps[i]?=some p∧es[p]?=some (x,v):=fun i v e=>by
   rw[List.getElem?_map] at e
   refine x12 (Option.map_eq_some_iff.mp e) fun p e1 q1_=>?_
   subst q1_
   have hlt:p<es.size:=List.mem_range.mp (hp.mem_iff.mp (List.mem_of_getElem? e1))
   refine⟨p,es[p].1,e1,?_⟩
   rw[Array.getD_eq_getD_getElem?,Array.getElem?_eq_getElem hlt];rfl
  have nn:∀b o,(s.heap.push (listO #[] 0)).get? b=some o→b≠p:=fun b o e q=>Jh (q▸e) hno
  have S₂:=S₁.keep fun o e=>hk a o e
  have hf:s.heap.objs.size∉[p,a,d]:=fun q=>by
   rcases List.mem_cons.mp q with q|q
   ·exact nn _ _ hL q
   ·rcases List.mem_cons.mp q with q|q
    ·exact Nat.ne_of_gt ha q
    ·have:=hk _ _ hL
     rw[List.mem_singleton.mp q,hd] at this
     exact Jc0 (a:="tuple") (b:="list") (by decide) (congrArg (fun z=>(z.map Obj.cls).getD .none) this)
  refine .mk (Jem (A:=A.in1) hh (nn _ _ S₁.get) hdp (by rw[hp.length_eq,List.length_range]) hv hlen) ⟨_,S₂.get,rfl⟩ ⟨S₂,hI,hd⟩ (hk _ _ hL) hf (by rw[sizeLine_eq];exact Nat.le_of_lt (Nat.lt_of_le_of_lt (Nat.le_of_eq hsz) (Nat.lt_of_lt_of_le hb (by decide)))) fun s' acc' c' hm hS' hacc=>?_
  have e:=Jd9 hacc hlen
  have q:=S.ints (Jc9 hp)
  obtain ⟨h₁,g₁,d₁,t₁,o₁⟩:=s'
  obtain rfl:=(show g₁=s.gens from hm.gens)
  obtain rfl:=(show o₁=s.os from hm.os)
  refine .mk (vs:=acc') hS' (e▸q.1) q.2 fun b o eb=>hm.heap b o (fun q=>?_) (hk _ _ (Heap.get?_push_of_some _ eb))
  have:=Heap.lt_size eb
  exact(List.mem_cons.mp q).elim (fun q=>by omega) fun q=>nn b o (Heap.get?_push_of_some _ eb) (List.mem_singleton.mp q)
end Mine
namespace Mine
theorem setOk (Z:Fix):SetOk Z:=fun A c v r Q K hh _ R q k=>by
 refine x24 q fun x is q1_ hx q2_ qa=>?_
 subst q1_
 obtain ⟨hl,_⟩:=q2_
 refine x34 (c.list R hx) fun a its n _ q1_ g kk=>?_
 subst q1_
 have hI:=Z8 kk
 have hsz:its.size=is.length:=by rw[←IntsAre.length hI,Array.length_toList]
 refine Jll hh g hI (Nat.lt_of_le_of_lt (Nat.le_of_eq hsz) (Nat.lt_of_lt_of_le hl (by decide))) fun h' tk ks S hks keep=>?_
 have hpk:ks.Perm is.eraseDups:=hks▸(List.reverse_perm ks).symm
 have hkl:ks.length<60:=by
  rw[hpk.length_eq]
  exact Nat.lt_of_le_of_lt (Yj _ is (Nat.le_refl _)) hl
 refine Yz (s:={c.s with heap:=h',toks:=tk}) (is:=is.eraseDups) (by rw[←hpk.length_eq];exact Nat.lt_of_lt_of_le hkl (by decide)) ?_ fun h₂ t₂ d a its n hk ha g hi=>?_
 ·refine Jfg (A:=A.in1) (s:={c.s with heap:=h',toks:=tk}) hh S hkl fun vs js h₂ t₂ d hv hp hk=>⟨hk,⟨t₂,d,rfl⟩,js,hv,hp.trans hpk⟩
 ·refine k.sortd qa h₂ t₂ d a its n (fun b o e=>hk b o (keep b o e)) ?_ g hi
  cases z:c.h.get? a with
  |none=>rfl
  |some o=>exact Jh (keep a o z) ha
end Mine
namespace Mine
set_option backward.match.sparseCases false
noncomputable def K (n:Nat):Str:=⟨#[n]⟩
noncomputable def topBody:List Stmt:=PySem.Challenge.pw_sa0050_01.main.body
noncomputable def fnOf:Option Stmt→Option Fn
 |some (.FunctionDef _ a b _ _ _ sc _ _ _)=>some ⟨a.args.map (·.arg),b,sc⟩
 |_=>none
noncomputable def clsBody:Option Stmt→List Stmt
 |some (.ClassDef _ _ _ b _ _ _ _ _ _ _)=>b
 |_=>[]
noncomputable def codeFn (n:Nat):Option Fn:=if n<100 then fnOf (topBody[n]?) else fnOf ((clsBody topBody[n / 100]?)[n % 100]?)
noncomputable def num (l:List (String×Nat)) (x:Str):Option Str:=(l.find? fun p=>decide (Str.ofString p.1=x)).map fun p=>K p.2
noncomputable def topT:List (String×Nat):=[("followed",6),("is_op",9),("parts",10),("_law_cast",19),("_law_term",20),("_law_homes",21),("_law_more",22),("_law_held",23),("_law_assumed",24),("_law_deed",25),("_law_forgotten",26),("_law_are_right",27)]
noncomputable def clsT:List (String×Nat):=[("Layers",7),("Bank",11),("Unions",13),("Levels",17)]
noncomputable def mLayers:List (String×Nat):=[("want",701),("assume",702),("way_down",703),("over",704),("find",705),("are_like",706),("join",707),("close_once",708),("nodes_within",709),("stands",710),("renew",711),("settle",712),("merge",713),("classes",715)]
noncomputable def mBank:List (String×Nat):=[("size",1101),("take",1102),("require",1103),("cut",1106),("op",1107),("kids",1108),("node",1109)]
noncomputable def mUnions:List (String×Nat):=[("make",1301),("size",1302),("find",1303),("merge",1304),("members",1305),("classes",1306),("back",1308),("cut",1309)]
noncomputable def mLevels:List (String×Nat):=[("size",1501),("node",1502),("add",1503),("put",1504),("look_at",1704),("find",1506),("merge",1508),("join",1705),("settle",1510),("classes",1512),("depth",1701),("push",1702),("pop",1703),("unmake",1706),("unjoin",1707)]
noncomputable def fLayers:List String:=["heap","beneath","told","ways","backs","many","turns"]
noncomputable def fBank:List String:=["nodes","numbers","weights","depths"]
noncomputable def fUnions:List String:=["above","lots","merged"]
noncomputable def fLevels:List String:=["bank","unions","edges","forest","known","above","waiting","backs","changes","marks","made"]
noncomputable def supT:List (String×Nat):=[("__init__",1500),("look_at",1505),("join",1509)]
noncomputable def cN (C:Str):Nat:=match C.cps.toList with
 |[n]=>n
 |_=>0
noncomputable def T:Tab where
 fn q:=match q.cps.toList with
  |[n]=>codeFn n
  |_=>none
 gfn:=num topT
 gcls:=num clsT
 gconst x:=if Str.ofString "BASE"=x then some (.int (-1)) else none
 meth C m:=match cN C with
  |7=>num mLayers m
  |11=>num mBank m
  |13=>num mUnions m
  |17=>num mLevels m
  |_=>none
 sup k C m:=if k=K 1700∨k=K 1704∨k=K 1705 then (if C=K 17 then num supT m else none) else none
 fld C a:=match cN C with
  |7=>fLayers.any fun x=>decide (Str.ofString x=a)
  |11=>fBank.any fun x=>decide (Str.ofString x=a)
  |13=>fUnions.any fun x=>decide (Str.ofString x=a)
  |17=>fLevels.any fun x=>decide (Str.ofString x=a)
  |_=>false
 init C:=match cN C with
  |7=>some (K 700)
  |11=>some (K 1100)
  |13=>some (K 1300)
  |17=>some (K 1700)
  |_=>none
end Mine
namespace Mine
set_option backward.match.sparseCases false
noncomputable def fnBody (n:Nat):List Stmt:=match codeFn n with
 |some f=>f.body
 |none=>[]
noncomputable def fnSc (n:Nat):Scope:=match codeFn n with
 |some f=>f.scope
 |none=>⟨.function,[],false,false,[]⟩
noncomputable def cx (d n:Nat):Cx:={tab:=T,key:=K n,sc:=fnSc n,call:=callN T d}
noncomputable def cxS (d n:Nat) (sc:Scope):Cx:={tab:=T,key:=K n,sc,call:=callN T d}
noncomputable def subB (s:Option Stmt) (b:Nat):List Stmt:=match s with
 |some (.For _ _ a _ _)=>a
 |some (.While _ a _ _)=>a
 |some (.If _ a o _)=>if b=0 then a else o
 |_=>[]
noncomputable def stmtsAt (n:Nat) (p:List Nat):List Stmt:=p.foldl (fun ss i=>subB (ss[i / 2]?) (i % 2)) (fnBody n)
noncomputable def code (d n:Nat) (p:List Nat) (i:Nat):XS:=match p with
 |[]=>seqS (topS (cx d n)) ((fnBody n).drop i)
 |p=>seqS (stS (evS (cx d n) (24 - p.length)) (cx d n)) ((stmtsAt n p).drop i)
noncomputable def testE (s:Option Stmt):Expr:=match s with
 |some (.While t _ _ _)=>t
 |_=>.Constant .none 0 ⟨0,0,0,0⟩
noncomputable def test (d n:Nat) (p:List Nat) (i:Nat):XB:=(ev deep (cx d n)).t (testE ((stmtsAt n p)[i]?))
mutual
noncomputable def cpsE:Nat→Expr→List Expr
 |0,_=>[]
 |k+1,e=>match e with
  |.BinOp a _ b _=>cpsE k a++cpsE k b
  |.UnaryOp _ a _=>cpsE k a
  |.BoolOp _ vs _=>cpsL k vs
  |.Compare a _ bs _=>cpsE k a++cpsL k bs
  |.IfExp t a b _=>cpsE k t++cpsE k a++cpsE k b
  |.Tuple es _ _=>cpsL k es
  |.List es _=>cpsL k es
  |.Dict _ vs _=>cpsL k vs
  |.Subscript a b _=>cpsE k a++cpsE k b
  |.Attribute a _ _=>cpsE k a
  |.Call f as _ _=>cpsE k f++cpsL k as
  |.ListComp elt gens sc _=>e::(cpsG k gens++cpsE k elt)
  |_=>[]
noncomputable def cpsL:Nat→List Expr→List Expr
 |0,_=>[]
 |_,[]=>[]
 |k+1,e::r=>cpsE k e++cpsL k r
noncomputable def cpsG:Nat→List Comprehension→List Expr
 |0,_=>[]
 |_,[]=>[]
 |k+1,g::r=>cpsE k g.iter++cpsL k g.ifs++cpsG k r
end
noncomputable def cpsS:Nat→List Stmt→List Expr
 |0,_=>[]
 |_,[]=>[]
 |k+1,s::r=>(match s with
  |.Assign ts v _=>cpsE 100 v++cpsL 100 ts
  |.Expr e _=>cpsE 100 e
  |.If t a b _=>cpsE 100 t++cpsS k a++cpsS k b
  |.While t a _ _=>cpsE 100 t++cpsS k a
  |.For t i a _ _=>cpsE 100 i++cpsS k a
  |.Return v _=>(match v with|some e=>cpsE 100 e|none=>[])
  |.Delete ts _=>cpsL 100 ts
  |_=>[])++cpsS k r
noncomputable def cps (n:Nat):List Expr:=cpsS 100 (fnBody n)
noncomputable def scAt (n j:Nat):Scope:=match (cps n)[j]? with
 |some (.ListComp _ _ sc _)=>sc
 |_=>⟨.function,[],false,false,[]⟩
noncomputable def eltAt (n j:Nat):Expr:=match (cps n)[j]? with
 |some (.ListComp e _ _ _)=>e
 |_=>.Constant .none 0 ⟨0,0,0,0⟩
noncomputable def ifsAt (n j:Nat):List Expr:=match (cps n)[j]? with
 |some (.ListComp _ [g] _ _)=>g.ifs
 |_=>[]
noncomputable def elt (d n j f:Nat):X:=(ev f (cxS d n (scAt n j))).e (eltAt n j)
noncomputable def ifs (d n j f:Nat):XB:=cAllT .And ((ifsAt n j).map (ev f (cxS d n (scAt n j))).t)
noncomputable def methQ (d:Nat) (v:V) (m:Str) (st:St) (A:(List V→St→Prop)→Prop) (Q:KV):Prop:=
 (∃i C fs q,v=.ref i∧st.get i=some (.inst C fs)∧fget fs m=none∧T.meth C m=some q∧A fun vs st=>callN T d q (v::vs) st Q)∨
 ∃B b id,mfOf m=some b∧mid B b=some id∧typeV B v st∧A fun vs st=>methV B b v vs st Q
noncomputable def superQ (d n:Nat) (v:V) (m:Str) (st:St) (A:(List V→St→Prop)→Prop) (Q:KV):Prop:=
 ∃i C fs q,v=.ref i∧st.get i=some (.inst C fs)∧T.sup (K n) C m=some q∧A fun vs st=>callN T d q (v::vs) st Q
noncomputable def dropV (o k:V) (st:St) (Q:KV):Prop:=∃vs n,o=.tup vs∧k=.int n∧(1≤n∧n≤vs.length∧vs.length<cap)∧Q (.tup (vs.drop n.toNat)) st
noncomputable def takeV (o k:V) (st:St) (Q:KV):Prop:=∃x vs n,o=.ref x∧k=.int n∧st.get x=some (.list vs)∧(0≤n∧vs.length<cap)∧alloc (.list (vs.take n.toNat)) st Q
noncomputable def revV (o:V) (st:St) (Q:KV):Prop:=∃x vs,o=.ref x∧st.get x=some (.list vs)∧vs.length<cap∧alloc (.list vs.reverse) st Q
noncomputable def enumV (vs:List V) (st:St) (Q:Src→Prop):Prop:=∃x ws,vs=[.ref x]∧st.get x=some (.list ws)∧Q (.enum x ws)
noncomputable def newC (d:Nat) (q C:Str) (vs:List V) (st:St) (Q:KV):Prop:=callN T d q (.ref st.size::vs) (st.push (.inst C [])) fun r st'=>r=.none∧Q (.ref st.size) st'
end Mine
namespace Mine
variable {d:Nat} {st:St} {kn:Loc→St→Prop} {kr Q:KV}
theorem w6:callN T (d+1) (K 6) [xa,xb] st Q=code d 6 [] 0 [some xa,some xb] st (fun _ st=>Q .none st) Q:=by kernel_rfl
theorem w6_0:code d 6 [] 0 [some xa,some xb] st kn kr=(cWhile (test d 6 [] 0) (code d 6 [0] 0) [some xa,some xb] st (fun l s=>code d 6 [] 1 l s kn kr) kr):=by kernel_rfl
theorem w6_0_t {Q:Bool→St→Prop}:test d 6 [] 0 [some xa,some xb] st Q=(cmpV .In xb xa st fun b1=>Q b1 st):=by kernel_rfl
theorem w6_0_0:code d 6 [0] 0 [some xa,some xb] st kn kr=(subV xa xb st fun v1 s2=>kn [some xa,some v1] s2):=by kernel_rfl
theorem w6_1:code d 6 [] 1 [some xa,some xb] st kn kr=(kr xb st):=by kernel_rfl
theorem w9:callN T (d+1) (K 9) [xa] st Q=code d 9 [] 0 [some xa] st (fun _ st=>Q .none st) Q:=by kernel_rfl
theorem w9_0:code d 9 [] 0 [some xa] st kn kr=(cmpV .NotEq xa (.str "") st fun b1=>boolP (.bool b1) fun b2=>bothP b2 (srcV xa st fun r3=>(r3).own=false∧compL (scAt 9 0) (r3) (.one "sign") (ifs d 9 0 21) (elt d 9 0 21) [none,none] (r3).all [] st fun l4 s5=>alloc (.list l4) s5 fun v6 s7=>0≤60∧alloc (.list []) s7 fun v8 s9=>cmpV .Eq v6 v8 s9 fun b10=>kr (.bool b10) s9) (kr (.bool b1) st)):=by kernel_rfl
theorem w9_i0 {Q:Bool→St→Prop}:ifs d 9 0 21 [xa,some xb] st Q=(methQ d xb "isspace" st (fun k1=>k1 [] st) fun v2 s3=>boolP v2 fun b4=>bothP b4 (Q true s3) (cmpV .In xb (.str "()[]{},:") s3 fun b5=>bothP b5 (Q true s3) (Q false s3))):=by kernel_rfl
theorem w9_b0 {v:V} {Q:Loc→Prop}:bindT (scAt 9 0) (.one "sign") v [xa,xb] st Q=Q [xa,some v]:=by kernel_rfl
theorem w19:callN T (d+1) (K 19) [xa,xb] st Q=code d 19 [] 0 [some xa,some xb,none,none] st (fun _ st=>Q .none st) Q:=by kernel_rfl
theorem w19_0:code d 19 [] 0 [some xa,some xb,xc,xd] st kn kr=(subV xa (.str "at") st fun v1 s2=>binV .Add v1 (.int 1) s2 fun v3 s4=>setItemV xa (.str "at") v3 s4 fun s5=>subV xa (.str "row") s5 fun v6 s7=>fnV .len [v6] s7 fun v8 s9=>cmpV .Lt v1 v8 s9 fun b10=>bothP b10 (subV xa (.str "row") s9 fun v11 s12=>subV v11 v1 s12 fun v13 s14=>binV .Mod v13 xb s14 fun v15 s16=>kr v15 s16) (binV .Mult (.int 5) v1 s9 fun v17 s18=>binV .Mult v17 v1 s18 fun v19 s20=>binV .Mult (.int 4) v1 s20 fun v21 s22=>binV .Add v19 v21 s22 fun v23 s24=>binV .FloorDiv v23 (.int 3) s24 fun v25 s26=>binV .Add v25 (.int 2) s26 fun v27 s28=>binV .Mod v27 xb s28 fun v29 s30=>kr v29 s30)):=by kernel_rfl
theorem w20:callN T (d+1) (K 20) [xa,xb] st Q=code d 20 [] 0 [some xa,some xb,none] st (fun _ st=>Q .none st) Q:=by kernel_rfl
theorem w20_0:code d 20 [] 0 [some xa,some xb,xc] st kn kr=(1≤60∧subV xa xb st fun v1 s2=>subV v1 (.int 0) s2 fun v3 s4=>subV xa xb s4 fun v5 s6=>dropV v5 (.int 1) s6 fun v7 s8=>srcV v7 s8 fun r9=>(r9).own=false∧compL (scAt 20 0) (r9) (.one "kid") (ifs d 20 0 21) (elt d 20 0 21) [none,none,none,some xa] (r9).all [] s8 fun l10 s11=>alloc (.list l10) s11 fun v12 s13=>fnV .tuple [v12] s13 fun v14 s15=>binV .Add (.tup [v3]) v14 s15 fun v16 s17=>kr v16 s17):=by kernel_rfl
theorem w20_e0:elt d 20 0 21 [xa,some xb,xc,some xd] st Q=(callN T d (K 20) [xd,xb] st fun v1 s2=>Q v1 s2):=by kernel_rfl
theorem w20_i0 {l:Loc} {Q:Bool→St→Prop}:ifs d 20 0 21 l st Q=(Q true st):=by kernel_rfl
theorem w20_b0 {y_nodes:V} {v:V} {Q:Loc→Prop}:bindT (scAt 20 0) (.one "kid") v [xa,xb,xc,some y_nodes] st Q=Q [xa,some v,xc,some y_nodes]:=by kernel_rfl
theorem w21:callN T (d+1) (K 21) [xa,xb] st Q=code d 21 [] 0 [some xa,some xb,none,none,none,none,none,none,none,none,none,none,none,none,none,none,none,none] st (fun _ st=>Q .none st) Q:=by kernel_rfl
theorem w21_0:code d 21 [] 0 [some xa,some xb,xc,xd,xe,xf,xg,xh,xi,xj,xk,xl,xm,xn,xo,xp,xq,xr] st kn kr=(2≤60∧fnV .len [xa] st fun v1 s2=>rangeV [v1] fun a3 b4=>alloc (.list (intL (rangeL a3 b4))) s2 fun v5 s6=>fnV .list [xb] s6 fun v7 s8=>cWhile (test d 21 [] 1) (code d 21 [2] 0) [some xa,some xb,some v5,some v7,xe,xf,xg,xh,xi,xj,xk,xl,xm,xn,xo,xp,xq,xr] s8 (fun l s=>code d 21 [] 2 l s kn kr) kr):=by kernel_rfl
theorem w21_1_t {Q:Bool→St→Prop}:test d 21 [] 1 [some xa,some xb,some xc,some xd,xe,xf,xg,xh,xi,xj,xk,xl,xm,xn,xo,xp,xq,xr] st Q=(0≤60∧alloc (.list []) st fun v1 s2=>cmpV .NotEq xd v1 s2 fun b3=>Q b3 s2):=by kernel_rfl
theorem w21_2_0:code d 21 [2] 0 [some xa,some xb,some xc,some xd,xe,xf,xg,xh,xi,xj,xk,xl,xm,xn,xo,xp,xq,xr] st kn kr=(srcV xd st fun r1=>pairOk (r1) (.many ["a","b"])∧cForL (fnSc 21) (r1) (.many ["a","b"]) (code d 21 [2,0] 0) (r1).all [some xa,some xb,some xc,some xd,xe,xf,xg,xh,xi,xj,xk,xl,xm,xn,xo,xp,xq,xr] st (fun l s=>code d 21 [2] 1 l s kn kr) kr):=by kernel_rfl
theorem Jf3:code d 21 [2,0] 0 [some xa,some xb,some xc,some xd,some xe,some xf,xg,xh,xi,xj,xk,xl,xm,xn,xo,xp,xq,xr] st kn kr=(2≤60∧subV xc xe st fun v1 s2=>subV xc xf s2 fun v3 s4=>alloc (.list [v1,v3]) s4 fun v5 s6=>fnV .sorted [v5] s6 fun v7 s8=>itemsV v7 s8 fun l9=>bindN (fnSc 21) ["low","high"] l9 [some xa,some xb,some xc,some xd,some xe,some xf,xg,xh,xi,xj,xk,xl,xm,xn,xo,xp,xq,xr] fun l10=>code d 21 [2,0] 1 l10 s8 kn kr):=by kernel_rfl
theorem Jf2:code d 21 [2,0] 1 [some xa,some xb,some xc,some xd,some xe,some xf,some xg,some xh,xi,xj,xk,xl,xm,xn,xo,xp,xq,xr] st kn kr=(srcV xc st fun r1=>(r1).own=false∧compL (scAt 21 0) (r1) (.one "home") (ifs d 21 0 23) (elt d 21 0 23) [none,none,some xh,some xg] (r1).all [] st fun l2 s3=>alloc (.list l2) s3 fun v4 s5=>kn [some xa,some xb,some v4,some xd,some xe,some xf,some xg,some xh,xi,xj,xk,xl,xm,xn,xo,xp,xq,xr] s5):=by kernel_rfl
theorem w21_2_1:code d 21 [2] 1 [some xa,some xb,some xc,some xd,xe,xf,xg,xh,xi,xj,xk,xl,xm,xn,xo,xp,xq,xr] st kn kr=(2≤60∧(0≤8∧0=0)∧dmake [] 0 [] fun o3=>alloc o3 st fun v1 s2=>0≤60∧alloc (.list []) s2 fun v4 s5=>enumV [xa] s5 fun r6=>pairOk (r6) (.many ["n","node"])∧cForL (fnSc 21) (r6) (.many ["n","node"]) (code d 21 [2,4] 0) (r6).all [some xa,some xb,some xc,some v4,xe,xf,xg,xh,some v1,xj,xk,xl,xm,xn,xo,xp,xq,xr] s5 (fun l s=>code d 21 [2] 3 l s kn kr) kr):=by kernel_rfl
theorem Jfz:code d 21 [2,4] 0 [some xa,some xb,some xc,some xd,xe,xf,xg,xh,some xi,some xj,some xk,xl,xm,xn,xo,xp,xq,xr] st kn kr=(methQ d xi "setdefault" st (fun k1=>1≤60∧subV xk (.int 0) st fun v4 s5=>dropV xk (.int 1) s5 fun v6 s7=>srcV v6 s7 fun r8=>(r8).own=false∧compL (scAt 21 1) (r8) (.one "kid") (ifs d 21 1 20) (elt d 21 1 20) [none,none,some xc] (r8).all [] s7 fun l9 s10=>alloc (.list l9) s10 fun v11 s12=>fnV .tuple [v11] s12 fun v13 s14=>binV .Add (.tup [v4]) v13 s14 fun v15 s16=>k1 [v15,xj] s16) fun v2 s3=>subV xc v2 s3 fun v17 s18=>subV xc xj s18 fun v19 s20=>cmpV .NotEq v17 v19 s20 fun b21=>bothP b21 (methQ d xd "append" s20 (fun k22=>2≤60∧k22 [(.tup [v2,xj])] s20) fun v23 s24=>kn [some xa,some xb,some xc,some xd,xe,xf,xg,xh,some xi,some xj,some xk,some v2,xm,xn,xo,xp,xq,xr] s24) (kn [some xa,some xb,some xc,some xd,xe,xf,xg,xh,some xi,some xj,some xk,some v2,xm,xn,xo,xp,xq,xr] s20)):=by kernel_rfl
theorem w21_2_3:code d 21 [2] 3 [some xa,some xb,some xc,some xd,xe,xf,xg,xh,some xi,xj,xk,xl,xm,xn,xo,xp,xq,xr] st kn kr=(kn [some xa,some xb,some xc,some xd,xe,xf,xg,xh,some xi,xj,xk,xl,xm,xn,xo,xp,xq,xr] st):=by kernel_rfl
theorem w21_2:code d 21 [] 2 [some xa,some xb,some xc,some xd,xe,xf,xg,xh,xi,xj,xk,xl,xm,xn,xo,xp,xq,xr] st kn kr=(kr xc st):=by kernel_rfl
theorem w21_e0:elt d 21 0 23 [xa,some xb,some xc,some xd] st Q=(cmpV .Eq xb xc st fun b1=>bothP b1 (Q xd st) (Q xb st)):=by kernel_rfl
theorem w21_i0 {l:Loc} {Q:Bool→St→Prop}:ifs d 21 0 23 l st Q=(Q true st):=by kernel_rfl
theorem w21_b0 {y_high:V} {y_low:V} {v:V} {Q:Loc→Prop}:bindT (scAt 21 0) (.one "home") v [xa,xb,some y_high,some y_low] st Q=Q [xa,some v,some y_high,some y_low]:=by kernel_rfl
theorem w21_e1:elt d 21 1 20 [xa,some xb,some xc] st Q=(subV xc xb st fun v1 s2=>Q v1 s2):=by kernel_rfl
theorem w21_i1 {l:Loc} {Q:Bool→St→Prop}:ifs d 21 1 20 l st Q=(Q true st):=by kernel_rfl
theorem w21_b1 {y_homes:V} {v:V} {Q:Loc→Prop}:bindT (scAt 21 1) (.one "kid") v [xa,xb,some y_homes] st Q=Q [xa,some v,some y_homes]:=by kernel_rfl
theorem Jf1 {v0:V} {v1:V} {Q:Loc→Prop}:bindT (fnSc 21) (.many ["a","b"]) (.tup [v0,v1]) [xa,xb,xc,xd,xe,xf,xg,xh,xi,xj,xk,xl,xm,xn,xo,xp,xq,xr] st Q=Q [xa,xb,xc,xd,some v0,some v1,xg,xh,xi,xj,xk,xl,xm,xn,xo,xp,xq,xr]:=by kernel_rfl
theorem Jcx {v0:V} {v1:V} {Q:Loc→Prop}:bindN (fnSc 21) ["low","high"] [v0,v1] [xa,xb,xc,xd,xe,xf,xg,xh,xi,xj,xk,xl,xm,xn,xo,xp,xq,xr] Q=Q [xa,xb,xc,xd,xe,xf,some v0,some v1,xi,xj,xk,xl,xm,xn,xo,xp,xq,xr]:=by kernel_rfl
theorem Jf0 {v0:V} {v1:V} {Q:Loc→Prop}:bindT (fnSc 21) (.many ["n","node"]) (.tup [v0,v1]) [xa,xb,xc,xd,xe,xf,xg,xh,xi,xj,xk,xl,xm,xn,xo,xp,xq,xr] st Q=Q [xa,xb,xc,xd,xe,xf,xg,xh,xi,some v0,some v1,xl,xm,xn,xo,xp,xq,xr]:=by kernel_rfl
theorem w22:callN T (d+1) (K 22) [xa,xb,xc] st Q=code d 22 [] 0 [some xa,some xb,some xc,none,none,none,none,none] st (fun _ st=>Q .none st) Q:=by kernel_rfl
theorem w22_0:code d 22 [] 0 [some xa,some xb,some xc,xd,xe,xf,xg,xh] st kn kr=(callN T d (K 19) [xa,(.int 4)] st fun v1 s2=>subV (.str "cdfg") v1 s2 fun v3 s4=>1≤60∧(2≤8∧2=2)∧dmake [] 0 [((.str "f"),(.int 1)),((.str "g"),(.int 2))] fun o7=>alloc o7 s4 fun v5 s6=>methQ d v5 "get" s6 (fun k8=>k8 [v3,(.int 0)] s6) fun v9 s10=>rangeV [v9] fun a11 b12=>(Src.items (intL (rangeL a11 b12))).own=false∧compL (scAt 22 0) (Src.items (intL (rangeL a11 b12))) (.one "k") (ifs d 22 0 21) (elt d 22 0 21) [none,none,none,none,none,some xa,some xc] (Src.items (intL (rangeL a11 b12))).all [] s10 fun l13 s14=>alloc (.list l13) s14 fun v15 s16=>fnV .tuple [v15] s16 fun v17 s18=>binV .Add (.tup [v3]) v17 s18 fun v19 s20=>methQ d xb "add" s20 (fun k21=>dropV v19 (.int 1) s20 fun v24 s25=>k21 [v3,v24] s25) fun v22 s23=>cmpV .In v19 xc s23 fun b26=>bothP b26 (kr xc s23) (1≤60∧alloc (.list [v19]) s23 fun v27 s28=>binV .Add xc v27 s28 fun v29 s30=>kr v29 s30)):=by kernel_rfl
theorem w22_e0:elt d 22 0 21 [xa,some xb,xc,xd,xe,some xf,some xg] st Q=(fnV .len [xg] st fun v1 s2=>fnV .min [v1,(.int 3)] s2 fun v3 s4=>callN T d (K 19) [xf,v3] s4 fun v5 s6=>Q v5 s6):=by kernel_rfl
theorem w22_i0 {l:Loc} {Q:Bool→St→Prop}:ifs d 22 0 21 l st Q=(Q true st):=by kernel_rfl
theorem w22_b0 {y_die:V} {y_nodes:V} {v:V} {Q:Loc→Prop}:bindT (scAt 22 0) (.one "k") v [xa,xb,xc,xd,xe,some y_die,some y_nodes] st Q=Q [xa,some v,xc,xd,xe,some y_die,some y_nodes]:=by kernel_rfl
theorem w23:callN T (d+1) (K 23) [xa,xb] st Q=code d 23 [] 0 [some xa,some xb,none,none] st (fun _ st=>Q .none st) Q:=by kernel_rfl
theorem w23_0:code d 23 [] 0 [some xa,some xb,xc,xd] st kn kr=(cmpV .Eq xb (.int (-1)) st fun b1=>bothP b1 (0≤60∧alloc (.list []) st fun v2 s3=>cmpV .Eq xb (.int 1) s3 fun b4=>bothP b4 (subV xa (.str "is_high") s3 fun v5 s6=>boolP v5 fun b7=>bothP b7 (subV xa (.str "assumed") s6 fun v8 s9=>subV v8 (.int 0) s9 fun v10 s11=>binV .Add v10 v2 s11 fun v12 s13=>subV xa (.str "states") s13 fun v14 s15=>unV .USub (.int 1) s15 fun v16 s17=>subV v14 v16 s17 fun v18 s19=>subV v18 (.int 1) s19 fun v20 s21=>srcV v12 s21 fun r22=>(r22).own=false∧compL (scAt 23 0) (r22) (.many ["one","other"]) (ifs d 23 0 22) (elt d 23 0 22) [none,none,none] (r22).all [] s21 fun l23 s24=>alloc (.list l23) s24 fun v25 s26=>binV .Add v20 v25 s26 fun v27 s28=>kr v27 s28) (subV xa (.str "states") s6 fun v65 s66=>unV .USub (.int 1) s66 fun v67 s68=>subV v65 v67 s68 fun v69 s70=>subV v69 (.int 1) s70 fun v71 s72=>srcV v2 s72 fun r73=>(r73).own=false∧compL (scAt 23 0) (r73) (.many ["one","other"]) (ifs d 23 0 22) (elt d 23 0 22) [none,none,none] (r73).all [] s72 fun l74 s75=>alloc (.list l74) s75 fun v76 s77=>binV .Add v71 v76 s77 fun v78 s79=>kr v78 s79)) (subV xa (.str "states") s3 fun v101 s102=>unV .USub (.int 1) s102 fun v103 s104=>subV v101 v103 s104 fun v105 s106=>subV v105 (.int 1) s106 fun v107 s108=>srcV v2 s108 fun r109=>(r109).own=false∧compL (scAt 23 0) (r109) (.many ["one","other"]) (ifs d 23 0 22) (elt d 23 0 22) [none,none,none] (r109).all [] s108 fun l110 s111=>alloc (.list l110) s111 fun v112 s113=>binV .Add v107 v112 s113 fun v114 s115=>kr v114 s115)) (subV xa (.str "assumed") st fun v116 s117=>subV v116 xb s117 fun v118 s119=>cmpV .Eq xb (.int 1) s119 fun b120=>bothP b120 (subV xa (.str "is_high") s119 fun v121 s122=>boolP v121 fun b123=>bothP b123 (subV xa (.str "assumed") s122 fun v124 s125=>subV v124 (.int 0) s125 fun v126 s127=>binV .Add v126 v118 s127 fun v128 s129=>subV xa (.str "states") s129 fun v130 s131=>unV .USub (.int 1) s131 fun v132 s133=>subV v130 v132 s133 fun v134 s135=>subV v134 (.int 1) s135 fun v136 s137=>srcV v128 s137 fun r138=>(r138).own=false∧compL (scAt 23 0) (r138) (.many ["one","other"]) (ifs d 23 0 22) (elt d 23 0 22) [none,none,none] (r138).all [] s137 fun l139 s140=>alloc (.list l139) s140 fun v141 s142=>binV .Add v136 v141 s142 fun v143 s144=>kr v143 s144) (subV xa (.str "states") s122 fun v181 s182=>unV .USub (.int 1) s182 fun v183 s184=>subV v181 v183 s184 fun v185 s186=>subV v185 (.int 1) s186 fun v187 s188=>srcV v118 s188 fun r189=>(r189).own=false∧compL (scAt 23 0) (r189) (.many ["one","other"]) (ifs d 23 0 22) (elt d 23 0 22) [none,none,none] (r189).all [] s188 fun l190 s191=>alloc (.list l190) s191 fun v192 s193=>binV .Add v187 v192 s193 fun v194 s195=>kr v194 s195)) (subV xa (.str "states") s119 fun v217 s218=>unV .USub (.int 1) s218 fun v219 s220=>subV v217 v219 s220 fun v221 s222=>subV v221 (.int 1) s222 fun v223 s224=>srcV v118 s224 fun r225=>(r225).own=false∧compL (scAt 23 0) (r225) (.many ["one","other"]) (ifs d 23 0 22) (elt d 23 0 22) [none,none,none] (r225).all [] s224 fun l226 s227=>alloc (.list l226) s227 fun v228 s229=>binV .Add v223 v228 s229 fun v230 s231=>kr v230 s231))):=by kernel_rfl
theorem w23_e0:elt d 23 0 22 [xa,some xb,some xc] st Q=(2≤60∧subV xb (.int 0) st fun v1 s2=>subV xc (.int 0) s2 fun v3 s4=>Q (.tup [v1,v3]) s4):=by kernel_rfl
theorem w23_i0 {l:Loc} {Q:Bool→St→Prop}:ifs d 23 0 22 l st Q=(Q true st):=by kernel_rfl
theorem w23_b0 {v0:V} {v1:V} {Q:Loc→Prop}:bindT (scAt 23 0) (.many ["one","other"]) (.tup [v0,v1]) [xa,xb,xc] st Q=Q [xa,some v0,some v1]:=by kernel_rfl
theorem w24:callN T (d+1) (K 24) [xa,xb] st Q=code d 24 [] 0 [some xa,some xb,none,none,none,none,none,none,none,none,none,none] st (fun _ st=>Q .none st) Q:=by kernel_rfl
theorem w24_0:code d 24 [] 0 [some xa,some xb,xc,xd,xe,xf,xg,xh,xi,xj,xk,xl] st kn kr=(2≤60∧subV xb (.str "states") st fun v1 s2=>unV .USub (.int 1) s2 fun v3 s4=>subV v1 v3 s4 fun v5 s6=>subV v5 (.int 0) s6 fun v7 s8=>callN T d (K 19) [xa,(.int 2)] s8 fun v9 s10=>fnV .len [v7] s10 fun v11 s12=>binV .Sub v11 (.int 1) s12 fun v13 s14=>callN T d (K 19) [xa,(.int 2)] s14 fun v15 s16=>binV .Sub v13 v15 s16 fun v17 s18=>fnV .len [v7] s18 fun v19 s20=>callN T d (K 19) [xa,v19] s20 fun v21 s22=>callN T d (K 23) [xb,v9] s22 fun v23 s24=>callN T d (K 21) [v7,v23] s24 fun v25 s26=>subV xb (.str "assumed") s26 fun v27 s28=>subV v27 v9 s28 fun v29 s30=>methQ d v29 "append" s30 (fun k31=>2≤60∧2≤60∧callN T d (K 20) [v7,v17] s30 fun v34 s35=>2≤60∧callN T d (K 20) [v7,v21] s35 fun v36 s37=>k31 [(.tup [(.tup [v17,v34]),(.tup [v21,v36])])] s37) fun v32 s33=>subV xb (.str "layers") s33 fun v38 s39=>methQ d v38 "merge" s39 (fun k40=>k40 [v9,v17,v21] s39) fun v41 s42=>subV v25 v17 s42 fun v43 s44=>subV v25 v21 s44 fun v45 s46=>cmpV .NotEq v43 v45 s46 fun b47=>cmpV .Eq v41 (.bool b47) s46 fun b48=>kr (.bool b48) s46):=by kernel_rfl
theorem w25:callN T (d+1) (K 25) [xa,xb,xc] st Q=code d 25 [] 0 [some xa,some xb,some xc,none,none,none,none,none,none,none,none,none,none,none,none] st (fun _ st=>Q .none st) Q:=by kernel_rfl
theorem w25_0:code d 25 [] 0 [some xa,some xb,some xc,xd,xe,xf,xg,xh,xi,xj,xk,xl,xm,xn,xo] st kn kr=(2≤60∧subV xb (.str "layers") st fun v1 s2=>attrV T v1 "heap" s2 fun v3 s4=>subV xb (.str "states") s4 fun v5 s6=>unV .USub (.int 1) s6 fun v7 s8=>subV v5 v7 s8 fun v9 s10=>itemsV v9 s10 fun l11=>bindN (fnSc 25) ["nodes","told"] l11 [some xa,some xb,some xc,some v3,some v5,xf,xg,xh,xi,xj,xk,xl,xm,xn,xo] fun l12=>code d 25 [] 2 l12 s10 kn kr):=by kernel_rfl
theorem w25_2:code d 25 [] 2 [some xa,some xb,some xc,some xd,some xe,some xf,some xg,xh,xi,xj,xk,xl,xm,xn,xo] st kn kr=(cmpV .Eq xc (.int 0) st fun b1=>bothP b1 (methQ d xd "push" st (fun k2=>k2 [] st) fun v3 s4=>methQ d xe "append" s4 (fun k5=>2≤60∧callN T d (K 22) [xa,xd,xf] s4 fun v8 s9=>k5 [(.tup [v8,xg])] s9) fun v6 s7=>kr (.bool true) s7) (cmpV .Eq xc (.int 1) st fun b10=>bothP b10 (fnV .len [xe] st fun v11 s12=>cmpV .Gt v11 (.int 1) s12 fun b13=>bothP b13 (methQ d xd "pop" s12 (fun k14=>k14 [] s12) fun v15 s16=>methQ d xe "pop" s16 (fun k17=>k17 [] s16) fun v18 s19=>callN T d (K 19) [xa,(.int 3)] s19 fun v20 s21=>rangeV [v20] fun a22 b23=>pairOk (Src.items (intL (rangeL a22 b23))) (.one "turn")∧cForL (fnSc 25) (Src.items (intL (rangeL a22 b23))) (.one "turn") (code d 25 [5,0,4] 0) (Src.items (intL (rangeL a22 b23))).all [some xa,some xb,some xc,some xd,some xe,some xf,some xg,xh,xi,xj,xk,xl,xm,xn,xo] s21 (fun l s=>code d 25 [5,0] 3 l s (fun l s=>code d 25 [5] 1 l s (fun l s=>code d 25 [] 3 l s kn kr) kr) kr) kr) (cmpV .Eq xc (.int 2) s12 fun b55=>bothP b55 (2≤60∧fnV .len [xf] s12 fun v56 s57=>callN T d (K 19) [xa,v56] s57 fun v58 s59=>fnV .len [xf] s59 fun v60 s61=>callN T d (K 19) [xa,v60] s61 fun v62 s63=>methQ d xd "merge" s63 (fun k64=>2≤60∧k64 [v58,v62,(.tup [(.str "told"),(.str "t")])] s63) fun v65 s66=>2≤60∧1≤60∧2≤60∧alloc (.list [(.tup [v58,v62])]) s66 fun v67 s68=>binV .Add xg v67 s68 fun v69 s70=>unV .USub (.int 1) s70 fun v71 s72=>setItemV xe v71 (.tup [xf,v69]) s72 fun s73=>kr (.bool true) s73) (callN T d (K 24) [xa,xb] s12 fun v74 s75=>kr v74 s75))) (cmpV .Eq xc (.int 2) st fun b86=>bothP b86 (2≤60∧fnV .len [xf] st fun v87 s88=>callN T d (K 19) [xa,v87] s88 fun v89 s90=>fnV .len [xf] s90 fun v91 s92=>callN T d (K 19) [xa,v91] s92 fun v93 s94=>methQ d xd "merge" s94 (fun k95=>2≤60∧k95 [v89,v93,(.tup [(.str "told"),(.str "t")])] s94) fun v96 s97=>2≤60∧1≤60∧2≤60∧alloc (.list [(.tup [v89,v93])]) s97 fun v98 s99=>binV .Add xg v98 s99 fun v100 s101=>unV .USub (.int 1) s101 fun v102 s103=>setItemV xe v102 (.tup [xf,v100]) s103 fun s104=>kr (.bool true) s104) (callN T d (K 24) [xa,xb] st fun v105 s106=>kr v105 s106)))):=by kernel_rfl
theorem Jcv:code d 25 [5,0,4] 0 [some xa,some xb,some xc,some xd,some xe,some xf,some xg,some xh,xi,xj,xk,xl,xm,xn,xo] st kn kr=(2≤60∧unV .USub (.int 1) st fun v1 s2=>subV xe v1 s2 fun v3 s4=>subV v3 (.int 0) s4 fun v5 s6=>callN T d (K 22) [xa,xd,v5] s6 fun v7 s8=>unV .USub (.int 1) s8 fun v9 s10=>subV xe v9 s10 fun v11 s12=>subV v11 (.int 1) s12 fun v13 s14=>unV .USub (.int 1) s14 fun v15 s16=>setItemV xe v15 (.tup [v7,v13]) s16 fun s17=>kn [some xa,some xb,some xc,some xd,some xe,some xf,some xg,some xh,xi,xj,xk,xl,xm,xn,xo] s17):=by kernel_rfl
theorem Jfy:code d 25 [5,0] 3 [some xa,some xb,some xc,some xd,some xe,some xf,some xg,xh,xi,xj,xk,xl,xm,xn,xo] st kn kr=(kn [some xa,some xb,some xc,some xd,some xe,some xf,some xg,xh,xi,xj,xk,xl,xm,xn,xo] st):=by kernel_rfl
theorem w25_1_u {v0:V} {v1:V} {Q:Loc→Prop}:bindN (fnSc 25) ["nodes","told"] [v0,v1] [xa,xb,xc,xd,xe,xf,xg,xh,xi,xj,xk,xl,xm,xn,xo] Q=Q [xa,xb,xc,xd,xe,some v0,some v1,xh,xi,xj,xk,xl,xm,xn,xo]:=by kernel_rfl
theorem Jcw {v:V} {Q:Loc→Prop}:bindT (fnSc 25) (.one "turn") v [xa,xb,xc,xd,xe,xf,xg,xh,xi,xj,xk,xl,xm,xn,xo] st Q=Q [xa,xb,xc,xd,xe,xf,xg,some v,xi,xj,xk,xl,xm,xn,xo]:=by kernel_rfl
theorem w26:callN T (d+1) (K 26) [xa] st Q=code d 26 [] 0 [some xa,none,none,none,none] st (fun _ st=>Q .none st) Q:=by kernel_rfl
theorem w26_0:code d 26 [] 0 [some xa,xb,xc,xd,xe] st kn kr=(subV xa (.str "states") st fun v1 s2=>unV .USub (.int 1) s2 fun v3 s4=>subV v1 v3 s4 fun v5 s6=>subV v5 (.int 0) s6 fun v7 s8=>2≤60∧srcV (.tup [(.int 0),(.int 1)]) s8 fun r9=>pairOk (r9) (.one "layer")∧cForL (fnSc 26) (r9) (.one "layer") (code d 26 [2] 0) (r9).all [some xa,some v7,xc,xd,xe] s8 (fun l s=>code d 26 [] 2 l s kn kr) kr):=by kernel_rfl
theorem w26_2_0:code d 26 [2] 0 [some xa,some xb,some xc,xd,xe] st kn kr=(0≤60∧alloc (.list []) st fun v1 s2=>subV xa (.str "assumed") s2 fun v3 s4=>subV v3 xc s4 fun v5 s6=>srcV v5 s6 fun r7=>pairOk (r7) (.one "pair")∧cForL (fnSc 26) (r7) (.one "pair") (code d 26 [2,2] 0) (r7).all [some xa,some xb,some xc,some v1,xe] s6 (fun l s=>code d 26 [2] 2 l s kn kr) kr):=by kernel_rfl
theorem Jfv:code d 26 [2,2] 0 [some xa,some xb,some xc,some xd,some xe] st kn kr=(srcV xe st fun r1=>(r1).own=false∧compL (scAt 26 0) (r1) (.many ["n","term"]) (ifs d 26 0 22) (elt d 26 0 22) [none,none,none,none,none,some xb] (r1).all [] st fun l2 s3=>alloc (.list l2) s3 fun v4 s5=>0≤60∧alloc (.list []) s5 fun v6 s7=>cmpV .Eq v4 v6 s7 fun b8=>bothP b8 (methQ d xd "append" s7 (fun k9=>k9 [xe] s7) fun v10 s11=>kn [some xa,some xb,some xc,some xd,some xe] s11) (kn [some xa,some xb,some xc,some xd,some xe] s7)):=by kernel_rfl
theorem w26_2_2:code d 26 [2] 2 [some xa,some xb,some xc,some xd,xe] st kn kr=(subV xa (.str "assumed") st fun v1 s2=>setItemV v1 xc xd s2 fun s3=>kn [some xa,some xb,some xc,some xd,xe] s3):=by kernel_rfl
theorem w26_2:code d 26 [] 2 [some xa,some xb,xc,xd,xe] st kn kr=(kn [some xa,some xb,xc,xd,xe] st):=by kernel_rfl
theorem Jly:elt d 26 0 22 [xa,some xb,some xc,xd,xe,some xf] st Q=(Q xb st):=by kernel_rfl
theorem w26_i0 {Q:Bool→St→Prop}:ifs d 26 0 22 [xa,some xb,some xc,xd,xe,some xf] st Q=(fnV .len [xf] st fun v1 s2=>cmpV .GtE xb v1 s2 fun b3=>bothP b3 (Q true s2) (callN T d (K 20) [xf,xb] s2 fun v4 s5=>cmpV .NotEq v4 xc s5 fun b6=>bothP b6 (Q true s5) (Q false s5))):=by kernel_rfl
theorem w26_b0 {y_nodes:V} {v0:V} {v1:V} {Q:Loc→Prop}:bindT (scAt 26 0) (.many ["n","term"]) (.tup [v0,v1]) [xa,xb,xc,xd,xe,some y_nodes] st Q=Q [xa,some v0,some v1,xd,xe,some y_nodes]:=by kernel_rfl
theorem Jfx {v:V} {Q:Loc→Prop}:bindT (fnSc 26) (.one "layer") v [xa,xb,xc,xd,xe] st Q=Q [xa,xb,some v,xd,xe]:=by kernel_rfl
theorem Jfw {v:V} {Q:Loc→Prop}:bindT (fnSc 26) (.one "pair") v [xa,xb,xc,xd,xe] st Q=Q [xa,xb,xc,xd,some v]:=by kernel_rfl
theorem w27:callN T (d+1) (K 27) [xa,xb] st Q=code d 27 [] 0 [some xa,some xb,none,none,none,none,none,none,none] st (fun _ st=>Q .none st) Q:=by kernel_rfl
theorem w27_0:code d 27 [] 0 [some xa,some xb,xc,xd,xe,xf,xg,xh,xi] st kn kr=(subV xb (.str "states") st fun v1 s2=>unV .USub (.int 1) s2 fun v3 s4=>subV v1 v3 s4 fun v5 s6=>subV v5 (.int 0) s6 fun v7 s8=>3≤60∧srcV (.tup [(.int (-1)),(.int 0),(.int 1)]) s8 fun r9=>pairOk (r9) (.one "layer")∧cForL (fnSc 27) (r9) (.one "layer") (code d 27 [2] 0) (r9).all [some xa,some xb,some v7,xd,xe,xf,xg,xh,xi] s8 (fun l s=>code d 27 [] 2 l s kn kr) kr):=by kernel_rfl
theorem w27_2_0:code d 27 [2] 0 [some xa,some xb,some xc,some xd,xe,xf,xg,xh,xi] st kn kr=(fnV .len [xc] st fun v1 s2=>rangeV [v1] fun a3 b4=>(Src.items (intL (rangeL a3 b4))).own=false∧compL (scAt 27 0) (Src.items (intL (rangeL a3 b4))) (.one "n") (ifs d 27 0 22) (elt d 27 0 22) [none,none,some xd,some xa] (Src.items (intL (rangeL a3 b4))).all [] s2 fun l5 s6=>alloc (.list l5) s6 fun v7 s8=>callN T d (K 23) [xb,xd] s8 fun v9 s10=>callN T d (K 21) [xc,v9] s10 fun v11 s12=>cmpV .NotEq v7 v11 s12 fun b13=>bothP b13 (kr (.bool false) s12) (kn [some xa,some xb,some xc,some xd,xe,xf,xg,xh,xi] s12)):=by kernel_rfl
theorem w27_2:code d 27 [] 2 [some xa,some xb,some xc,xd,xe,xf,xg,xh,xi] st kn kr=(attrV T xa "heap" st fun v1 s2=>methQ d v1 "size" s2 (fun k3=>k3 [] s2) fun v4 s5=>fnV .len [xc] s5 fun v6 s7=>cmpV .Eq v4 v6 s7 fun b8=>boolP (.bool b8) fun b9=>bothP b9 (attrV T xa "heap" s7 fun v10 s11=>methQ d v10 "depth" s11 (fun k12=>k12 [] s11) fun v13 s14=>subV xb (.str "states") s14 fun v15 s16=>fnV .len [v15] s16 fun v17 s18=>binV .Sub v17 (.int 1) s18 fun v19 s20=>cmpV .Eq v13 v19 s20 fun b21=>kr (.bool b21) s20) (kr (.bool b8) s7)):=by kernel_rfl
theorem w27_e0:elt d 27 0 22 [xa,some xb,some xc,some xd] st Q=(methQ d xd "find" st (fun k1=>k1 [xc,xb] st) fun v2 s3=>Q v2 s3):=by kernel_rfl
theorem w27_i0 {l:Loc} {Q:Bool→St→Prop}:ifs d 27 0 22 l st Q=(Q true st):=by kernel_rfl
theorem w27_b0 {y_layer:V} {y_layers:V} {v:V} {Q:Loc→Prop}:bindT (scAt 27 0) (.one "n") v [xa,xb,some y_layer,some y_layers] st Q=Q [xa,some v,some y_layer,some y_layers]:=by kernel_rfl
theorem Jcu {v:V} {Q:Loc→Prop}:bindT (fnSc 27) (.one "layer") v [xa,xb,xc,xd,xe,xf,xg,xh,xi] st Q=Q [xa,xb,xc,some v,xe,xf,xg,xh,xi]:=by kernel_rfl
theorem w28:callN T (d+1) (K 28) [xa] st Q=code d 28 [] 0 [some xa,none,none,none,none,none,none,none,none,none,none,none,none,none,none,none,none,none,none,none] st (fun _ st=>Q .none st) Q:=by kernel_rfl
theorem w28_0:code d 28 [] 0 [some xa,xb,xc,xd,xe,xf,xg,xh,xi,xj,xk,xl,xm,xn,xo,xp,xq,xr,xs,xt] st kn kr=(2≤60∧(2≤8∧2=2)∧takeV xa (.int 50) st fun v1 s2=>srcV v1 s2 fun r3=>(r3).own=false∧compL (scAt 28 0) (r3) (.one "cell") (ifs d 28 0 21) (elt d 28 0 21) [none,none,none] (r3).all [] s2 fun l4 s5=>alloc (.list l4) s5 fun v6 s7=>dmake [] 0 [((.str "row"),v6),((.str "at"),(.int 0))] fun o10=>alloc o10 s7 fun v8 s9=>newC d (K 1700) (K 17) [] s9 fun v11 s12=>2≤60∧srcV (.tup [(.str "a"),(.str "b")]) s12 fun r13=>pairOk (r13) (.one "op")∧cForL (fnSc 28) (r13) (.one "op") (code d 28 [2] 0) (r13).all [some xa,some v8,some v11,xd,xe,xf,xg,xh,xi,xj,xk,xl,xm,xn,xo,xp,xq,xr,xs,xt] s12 (fun l s=>code d 28 [] 2 l s kn kr) kr):=by kernel_rfl
theorem Jft:code d 28 [2] 0 [some xa,some xb,some xc,some xd,xe,xf,xg,xh,xi,xj,xk,xl,xm,xn,xo,xp,xq,xr,xs,xt] st kn kr=(methQ d xc "put" st (fun k1=>1≤60∧k1 [(.tup [xd])] st) fun v2 s3=>kn [some xa,some xb,some xc,some xd,xe,xf,xg,xh,xi,xj,xk,xl,xm,xn,xo,xp,xq,xr,xs,xt] s3):=by kernel_rfl
theorem w28_2:code d 28 [] 2 [some xa,some xb,some xc,xd,xe,xf,xg,xh,xi,xj,xk,xl,xm,xn,xo,xp,xq,xr,xs,xt] st kn kr=(2≤60∧newC d (K 700) (K 7) [xc] st fun v1 s2=>callN T d (K 19) [xb,(.int 2)] s2 fun v3 s4=>cmpV .Eq v3 (.int 0) s4 fun b5=>methQ d v1 "assume" s4 (fun k6=>k6 [(.int (-1))] s4) fun v7 s8=>cmpV .NotEq v7 (.int 0) s8 fun b9=>bothP b9 (kr (.bool false) s8) (methQ d v1 "assume" s8 (fun k32=>boolP (.bool b5) fun b35=>bothP b35 (k32 [(.int 0)] s8) (k32 [(.int (-1))] s8)) fun v33 s34=>cmpV .NotEq v33 (.int 1) s34 fun b36=>bothP b36 (kr (.bool false) s34) ((4≤8∧4=4)∧(2≤8∧2=2)∧0≤60∧alloc (.list []) s34 fun v59 s60=>0≤60∧alloc (.list []) s60 fun v61 s62=>dmake [] 0 [((.int 0),v59),((.int 1),v61)] fun o65=>alloc o65 s62 fun v63 s64=>1≤60∧2≤60∧2≤60∧1≤60∧1≤60∧alloc (.list [(.tup [(.str "a")]),(.tup [(.str "b")])]) s64 fun v66 s67=>0≤60∧alloc (.list []) s67 fun v68 s69=>alloc (.list [(.tup [v66,v68])]) s69 fun v70 s71=>dmake [] 0 [((.str "layers"),v1),((.str "is_high"),(.bool b5)),((.str "assumed"),v63),((.str "states"),v70)] fun o74=>alloc o74 s71 fun v72 s73=>callN T d (K 19) [xb,(.int 3)] s73 fun v75 s76=>binV .Add (.int 4) v75 s76 fun v77 s78=>rangeV [v77] fun a79 b80=>pairOk (Src.items (intL (rangeL a79 b80))) (.one "lap")∧cForL (fnSc 28) (Src.items (intL (rangeL a79 b80))) (.one "lap") (code d 28 [10] 0) (Src.items (intL (rangeL a79 b80))).all [some xa,some xb,some xc,xd,some v1,some (.bool b5),some v72,xh,xi,xj,xk,xl,xm,xn,xo,xp,xq,xr,xs,xt] s78 (fun l s=>code d 28 [] 6 l s kn kr) kr))):=by kernel_rfl
theorem Jje:code d 28 [10] 0 [some xa,some xb,some xc,xd,some xe,some xf,some xg,some xh,xi,xj,xk,xl,xm,xn,xo,xp,xq,xr,xs,xt] st kn kr=(cmpV .Lt xh (.int 4) st fun b1=>bothP b1 (4≤60∧subV (.tup [(.int 0),(.int 3),(.int 3),(.int 1)]) xh st fun v2 s3=>callN T d (K 25) [xb,xg,v2] s3 fun v4 s5=>boolP v4 fun b6=>bothP (!b6) (kr (.bool false) s5) (methQ d xe "settle" s5 (fun k7=>k7 [] s5) fun v8 s9=>callN T d (K 26) [xg] s9 fun v10 s11=>callN T d (K 27) [xe,xg] s11 fun v12 s13=>boolP v12 fun b14=>bothP (!b14) (kr (.bool false) s13) (kn [some xa,some xb,some xc,xd,some xe,some xf,some xg,some xh,xi,xj,xk,xl,xm,xn,xo,xp,xq,xr,xs,xt] s13))) (callN T d (K 19) [xb,(.int 5)] st fun v15 s16=>callN T d (K 25) [xb,xg,v15] s16 fun v17 s18=>boolP v17 fun b19=>bothP (!b19) (kr (.bool false) s18) (methQ d xe "settle" s18 (fun k20=>k20 [] s18) fun v21 s22=>callN T d (K 26) [xg] s22 fun v23 s24=>callN T d (K 27) [xe,xg] s24 fun v25 s26=>boolP v25 fun b27=>bothP (!b27) (kr (.bool false) s26) (kn [some xa,some xb,some xc,xd,some xe,some xf,some xg,some xh,xi,xj,xk,xl,xm,xn,xo,xp,xq,xr,xs,xt] s26)))):=by kernel_rfl
theorem w28_6:code d 28 [] 6 [some xa,some xb,some xc,xd,some xe,some xf,some xg,xh,xi,xj,xk,xl,xm,xn,xo,xp,xq,xr,xs,xt] st kn kr=(methQ d xe "classes" st (fun k1=>k1 [(.int 1)] st) fun v2 s3=>subV xg (.str "states") s3 fun v4 s5=>unV .USub (.int 1) s5 fun v6 s7=>subV v4 v6 s7 fun v8 s9=>subV v8 (.int 0) s9 fun v10 s11=>callN T d (K 23) [xg,(.int 1)] s11 fun v12 s13=>callN T d (K 21) [v10,v12] s13 fun v14 s15=>sortedSetV v14 s15 fun v16 s17=>cmpV .Eq v2 v16 s17 fun b18=>kr (.bool b18) s17):=by kernel_rfl
theorem w28_e0:elt d 28 0 21 [xa,some xb,xc] st Q=(fnV .int [xb] st fun v1 s2=>binV .Mod v1 (.int 1000003) s2 fun v3 s4=>Q v3 s4):=by kernel_rfl
theorem w28_i0 {l:Loc} {Q:Bool→St→Prop}:ifs d 28 0 21 l st Q=(Q true st):=by kernel_rfl
theorem w28_b0 {v:V} {Q:Loc→Prop}:bindT (scAt 28 0) (.one "cell") v [xa,xb,xc] st Q=Q [xa,some v,xc]:=by kernel_rfl
theorem Jfu {v:V} {Q:Loc→Prop}:bindT (fnSc 28) (.one "op") v [xa,xb,xc,xd,xe,xf,xg,xh,xi,xj,xk,xl,xm,xn,xo,xp,xq,xr,xs,xt] st Q=Q [xa,xb,xc,some v,xe,xf,xg,xh,xi,xj,xk,xl,xm,xn,xo,xp,xq,xr,xs,xt]:=by kernel_rfl
theorem w28_5_b {v:V} {Q:Loc→Prop}:bindT (fnSc 28) (.one "lap") v [xa,xb,xc,xd,xe,xf,xg,xh,xi,xj,xk,xl,xm,xn,xo,xp,xq,xr,xs,xt] st Q=Q [xa,xb,xc,xd,xe,xf,xg,some v,xi,xj,xk,xl,xm,xn,xo,xp,xq,xr,xs,xt]:=by kernel_rfl
theorem w700:callN T (d+1) (K 700) [xa,xb] st Q=code d 700 [] 0 [some xa,some xb] st (fun _ st=>Q .none st) Q:=by kernel_rfl
theorem w700_0:code d 700 [] 0 [some xa,some xb] st kn kr=(setAttrV T xa "heap" xb st fun s1=>(0≤8∧0=0)∧dmake [] 0 [] fun o4=>alloc o4 s1 fun v2 s3=>setAttrV T xa "beneath" v2 s3 fun s5=>(0≤8∧0=0)∧dmake [] 0 [] fun o8=>alloc o8 s5 fun v6 s7=>setAttrV T xa "told" v6 s7 fun s9=>(0≤8∧0=0)∧dmake [] 0 [] fun o12=>alloc o12 s9 fun v10 s11=>setAttrV T xa "ways" v10 s11 fun s13=>(0≤8∧0=0)∧dmake [] 0 [] fun o16=>alloc o16 s13 fun v14 s15=>setAttrV T xa "backs" v14 s15 fun s17=>setAttrV T xa "many" (.int 0) s17 fun s18=>setAttrV T xa "turns" (.int 0) s18 fun s19=>kn [some xa,some xb] s19):=by kernel_rfl
theorem w701:callN T (d+1) (K 701) [xa,xb] st Q=code d 701 [] 0 [some xa,some xb,none,none] st (fun _ st=>Q .none st) Q:=by kernel_rfl
theorem Jlx:code d 701 [] 0 [some xa,some xb,xc,xd] st kn kr=(cmpV .NotEq xb (.int (-1)) st fun b1=>bothP b1 (attrV T xa "beneath" st fun v2 s3=>cmpV .NotIn xb v2 s3 fun b4=>bothP b4 (False) (kn [some xa,some xb,xc,xd] s3)) (kn [some xa,some xb,xc,xd] st)):=by kernel_rfl
theorem w702:callN T (d+1) (K 702) [xa,xb] st Q=code d 702 [] 0 [some xa,some xb,none] st (fun _ st=>Q .none st) Q:=by kernel_rfl
theorem w702_0:code d 702 [] 0 [some xa,some xb,xc] st kn kr=(methQ d xa "want" st (fun k1=>k1 [xb] st) fun v2 s3=>attrV T xa "many" s3 fun v4 s5=>binV .Add v4 (.int 1) s5 fun v6 s7=>setAttrV T xa "many" v6 s7 fun s8=>attrV T xa "beneath" s8 fun v9 s10=>setItemV v9 v4 xb s10 fun s11=>0≤60∧alloc (.list []) s11 fun v12 s13=>attrV T xa "told" s13 fun v14 s15=>setItemV v14 v4 v12 s15 fun s16=>(0≤8∧0=0)∧dmake [] 0 [] fun o19=>alloc o19 s16 fun v17 s18=>attrV T xa "ways" s18 fun v20 s21=>setItemV v20 v4 v17 s21 fun s22=>attrV T xa "heap" s22 fun v23 s24=>attrV T v23 "backs" s24 fun v25 s26=>attrV T xa "backs" s26 fun v27 s28=>setItemV v27 v4 v25 s28 fun s29=>kr v4 s29):=by kernel_rfl
theorem w703:callN T (d+1) (K 703) [xa,xb] st Q=code d 703 [] 0 [some xa,some xb,none,none] st (fun _ st=>Q .none st) Q:=by kernel_rfl
theorem w703_0:code d 703 [] 0 [some xa,some xb,xc,xd] st kn kr=(methQ d xa "want" st (fun k1=>k1 [xb] st) fun v2 s3=>0≤60∧alloc (.list []) s3 fun v4 s5=>cWhile (test d 703 [] 2) (code d 703 [4] 0) [some xa,some xb,some v4,xd] s5 (fun l s=>code d 703 [] 3 l s kn kr) kr):=by kernel_rfl
theorem Jjd {Q:Bool→St→Prop}:test d 703 [] 2 [some xa,some xb,some xc,xd] st Q=(cmpV .NotEq xb (.int (-1)) st fun b1=>Q b1 st):=by kernel_rfl
theorem Jjc:code d 703 [4] 0 [some xa,some xb,some xc,xd] st kn kr=(methQ d xc "append" st (fun k1=>k1 [xb] st) fun v2 s3=>attrV T xa "beneath" s3 fun v4 s5=>subV v4 xb s5 fun v6 s7=>kn [some xa,some v6,some xc,xd] s7):=by kernel_rfl
theorem w703_3:code d 703 [] 3 [some xa,some xb,some xc,xd] st kn kr=(revV xc st fun v1 s2=>kr v1 s2):=by kernel_rfl
theorem w704:callN T (d+1) (K 704) [xa,xb] st Q=code d 704 [] 0 [some xa,some xb,none] st (fun _ st=>Q .none st) Q:=by kernel_rfl
theorem w704_0:code d 704 [] 0 [some xa,some xb,xc] st kn kr=(attrV T xa "beneath" st fun v1 s2=>fnV .sorted [v1] s2 fun v3 s4=>srcV v3 s4 fun r5=>(r5).own=false∧compL (scAt 704 0) (r5) (.one "one") (ifs d 704 0 23) (elt d 704 0 23) [none,none,none,some xb,some xa] (r5).all [] s4 fun l6 s7=>alloc (.list l6) s7 fun v8 s9=>kr v8 s9):=by kernel_rfl
theorem w704_e0:elt d 704 0 23 [xa,some xb,xc,some xd,some xe] st Q=(Q xb st):=by kernel_rfl
theorem w704_i0 {Q:Bool→St→Prop}:ifs d 704 0 23 [xa,some xb,xc,some xd,some xe] st Q=(cmpV .Eq xd (.int (-1)) st fun b1=>bothP b1 (Q true st) (methQ d xe "way_down" st (fun k2=>k2 [xb] st) fun v3 s4=>cmpV .In xd v3 s4 fun b5=>bothP b5 (Q true s4) (Q false s4))):=by kernel_rfl
theorem w704_b0 {y_layer:V} {y_self:V} {v:V} {Q:Loc→Prop}:bindT (scAt 704 0) (.one "one") v [xa,xb,xc,some y_layer,some y_self] st Q=Q [xa,some v,xc,some y_layer,some y_self]:=by kernel_rfl
theorem w705:callN T (d+1) (K 705) [xa,xb,xc] st Q=code d 705 [] 0 [some xa,some xb,some xc,none,none,none] st (fun _ st=>Q .none st) Q:=by kernel_rfl
theorem w705_0:code d 705 [] 0 [some xa,some xb,some xc,xd,xe,xf] st kn kr=(attrV T xa "heap" st fun v1 s2=>methQ d v1 "find" s2 (fun k3=>k3 [xc] s2) fun v4 s5=>methQ d xa "way_down" s5 (fun k6=>k6 [xb] s5) fun v7 s8=>srcV v7 s8 fun r9=>pairOk (r9) (.one "one")∧cForL (fnSc 705) (r9) (.one "one") (code d 705 [2] 0) (r9).all [some xa,some xb,some xc,some v4,xe,xf] s8 (fun l s=>code d 705 [] 2 l s kn kr) kr):=by kernel_rfl
theorem Jja:code d 705 [2] 0 [some xa,some xb,some xc,some xd,some xe,xf] st kn kr=(attrV T xa "ways" st fun v1 s2=>subV v1 xe s2 fun v3 s4=>callN T d (K 6) [v3,xd] s4 fun v5 s6=>kn [some xa,some xb,some xc,some v5,some xe,xf] s6):=by kernel_rfl
theorem w705_2:code d 705 [] 2 [some xa,some xb,some xc,some xd,xe,xf] st kn kr=(kr xd st):=by kernel_rfl
theorem Jjb {v:V} {Q:Loc→Prop}:bindT (fnSc 705) (.one "one") v [xa,xb,xc,xd,xe,xf] st Q=Q [xa,xb,xc,xd,some v,xf]:=by kernel_rfl
theorem w706:callN T (d+1) (K 706) [xa,xb,xc,xd] st Q=code d 706 [] 0 [some xa,some xb,some xc,some xd] st (fun _ st=>Q .none st) Q:=by kernel_rfl
theorem w706_0:code d 706 [] 0 [some xa,some xb,some xc,some xd] st kn kr=(methQ d xa "find" st (fun k1=>k1 [xb,xc] st) fun v2 s3=>methQ d xa "find" s3 (fun k4=>k4 [xb,xd] s3) fun v5 s6=>cmpV .Eq v2 v5 s6 fun b7=>kr (.bool b7) s6):=by kernel_rfl
theorem w707:callN T (d+1) (K 707) [xa,xb,xc,xd] st Q=code d 707 [] 0 [some xa,some xb,some xc,some xd,none,none] st (fun _ st=>Q .none st) Q:=by kernel_rfl
theorem w707_0:code d 707 [] 0 [some xa,some xb,some xc,some xd,xe,xf] st kn kr=(2≤60∧methQ d xa "find" st (fun k1=>k1 [xb,xc] st) fun v2 s3=>methQ d xa "find" s3 (fun k4=>k4 [xb,xd] s3) fun v5 s6=>cmpV .NotEq v2 v5 s6 fun b7=>bothP b7 (fnV .min [v2,v5] s6 fun v8 s9=>attrV T xa "ways" s9 fun v10 s11=>subV v10 xb s11 fun v12 s13=>fnV .max [v2,v5] s13 fun v14 s15=>setItemV v12 v14 v8 s15 fun s16=>cmpV .NotEq v2 v5 s16 fun b17=>kr (.bool b17) s16) (cmpV .NotEq v2 v5 s6 fun b18=>kr (.bool b18) s6)):=by kernel_rfl
theorem w708:callN T (d+1) (K 708) [xa,xb] st Q=code d 708 [] 0 [some xa,some xb,none,none,none,none,none,none] st (fun _ st=>Q .none st) Q:=by kernel_rfl
theorem w708_0:code d 708 [] 0 [some xa,some xb,xc,xd,xe,xf,xg,xh] st kn kr=(2≤60∧(0≤8∧0=0)∧dmake [] 0 [] fun o3=>alloc o3 st fun v1 s2=>attrV T xa "heap" s2 fun v4 s5=>methQ d v4 "size" s5 (fun k6=>k6 [] s5) fun v7 s8=>rangeV [v7] fun a9 b10=>pairOk (Src.items (intL (rangeL a9 b10))) (.one "n")∧cForL (fnSc 708) (Src.items (intL (rangeL a9 b10))) (.one "n") (code d 708 [2] 0) (Src.items (intL (rangeL a9 b10))).all [some xa,some xb,some v1,some (.bool false),xe,xf,xg,xh] s8 (fun l s=>code d 708 [] 2 l s kn kr) kr):=by kernel_rfl
theorem Ji8:code d 708 [2] 0 [some xa,some xb,some xc,some xd,some xe,xf,xg,xh] st kn kr=(1≤60∧attrV T xa "heap" st fun v1 s2=>attrV T v1 "bank" s2 fun v3 s4=>methQ d v3 "op" s4 (fun k5=>k5 [xe] s4) fun v6 s7=>attrV T xa "heap" s7 fun v8 s9=>attrV T v8 "bank" s9 fun v10 s11=>methQ d v10 "kids" s11 (fun k12=>k12 [xe] s11) fun v13 s14=>srcV v13 s14 fun r15=>(r15).own=false∧compL (scAt 708 0) (r15) (.one "kid") (ifs d 708 0 21) (elt d 708 0 21) [none,none,some xb,some xa] (r15).all [] s14 fun l16 s17=>alloc (.list l16) s17 fun v18 s19=>fnV .tuple [v18] s19 fun v20 s21=>binV .Add (.tup [v6]) v20 s21 fun v22 s23=>methQ d xa "join" s23 (fun k24=>methQ d xc "setdefault" s23 (fun k27=>k27 [v22,xe] s23) fun v28 s29=>k24 [xb,v28,xe] s29) fun v25 s26=>boolP v25 fun b30=>bothP b30 (kn [some xa,some xb,some xc,some (.bool true),some xe,some v22,xg,xh] s26) (kn [some xa,some xb,some xc,some xd,some xe,some v22,xg,xh] s26)):=by kernel_rfl
theorem w708_2:code d 708 [] 2 [some xa,some xb,some xc,some xd,xe,xf,xg,xh] st kn kr=(kr xd st):=by kernel_rfl
theorem w708_e0:elt d 708 0 21 [xa,some xb,some xc,some xd] st Q=(methQ d xd "find" st (fun k1=>k1 [xc,xb] st) fun v2 s3=>Q v2 s3):=by kernel_rfl
theorem w708_i0 {l:Loc} {Q:Bool→St→Prop}:ifs d 708 0 21 l st Q=(Q true st):=by kernel_rfl
theorem w708_b0 {y_layer:V} {y_self:V} {v:V} {Q:Loc→Prop}:bindT (scAt 708 0) (.one "kid") v [xa,xb,some y_layer,some y_self] st Q=Q [xa,some v,some y_layer,some y_self]:=by kernel_rfl
theorem Ji9 {v:V} {Q:Loc→Prop}:bindT (fnSc 708) (.one "n") v [xa,xb,xc,xd,xe,xf,xg,xh] st Q=Q [xa,xb,xc,xd,some v,xf,xg,xh]:=by kernel_rfl
theorem w709:callN T (d+1) (K 709) [xa,xb] st Q=code d 709 [] 0 [some xa,some xb,none,none,none,none] st (fun _ st=>Q .none st) Q:=by kernel_rfl
theorem w709_0:code d 709 [] 0 [some xa,some xb,xc,xd,xe,xf] st kn kr=(2≤60∧(1≤8∧1=1)∧attrV T xa "heap" st fun v1 s2=>attrV T v1 "bank" s2 fun v3 s4=>methQ d v3 "node" s4 (fun k5=>k5 [xb] s4) fun v6 s7=>dmake [] 0 [(xb,v6)] fun o10=>alloc o10 s7 fun v8 s9=>1≤60∧alloc (.list [xb]) s9 fun v11 s12=>cWhile (test d 709 [] 1) (code d 709 [2] 0) [some xa,some xb,some v8,some v11,xe,xf] s12 (fun l s=>code d 709 [] 2 l s kn kr) kr):=by kernel_rfl
theorem Ji7 {Q:Bool→St→Prop}:test d 709 [] 1 [some xa,some xb,some xc,some xd,xe,xf] st Q=(fnV .len [xd] st fun v1 s2=>cmpV .Gt v1 (.int 0) s2 fun b3=>Q b3 s2):=by kernel_rfl
theorem Ji6:code d 709 [2] 0 [some xa,some xb,some xc,some xd,xe,xf] st kn kr=(attrV T xa "heap" st fun v1 s2=>attrV T v1 "bank" s2 fun v3 s4=>methQ d v3 "kids" s4 (fun k5=>methQ d xd "pop" s4 (fun k8=>k8 [] s4) fun v9 s10=>k5 [v9] s10) fun v6 s7=>srcV v6 s7 fun r11=>pairOk (r11) (.one "kid")∧cForL (fnSc 709) (r11) (.one "kid") (code d 709 [2,0] 0) (r11).all [some xa,some xb,some xc,some xd,xe,xf] s7 (fun l s=>code d 709 [2] 1 l s kn kr) kr):=by kernel_rfl
theorem Jeo:code d 709 [2,0] 0 [some xa,some xb,some xc,some xd,some xe,xf] st kn kr=(cmpV .NotIn xe xc st fun b1=>bothP b1 (attrV T xa "heap" st fun v2 s3=>attrV T v2 "bank" s3 fun v4 s5=>methQ d v4 "node" s5 (fun k6=>k6 [xe] s5) fun v7 s8=>setItemV xc xe v7 s8 fun s9=>methQ d xd "append" s9 (fun k10=>k10 [xe] s9) fun v11 s12=>kn [some xa,some xb,some xc,some xd,some xe,xf] s12) (kn [some xa,some xb,some xc,some xd,some xe,xf] st)):=by kernel_rfl
theorem Ji5:code d 709 [2] 1 [some xa,some xb,some xc,some xd,xe,xf] st kn kr=(kn [some xa,some xb,some xc,some xd,xe,xf] st):=by kernel_rfl
theorem w709_2:code d 709 [] 2 [some xa,some xb,some xc,some xd,xe,xf] st kn kr=(kr xc st):=by kernel_rfl
theorem Jen {v:V} {Q:Loc→Prop}:bindT (fnSc 709) (.one "kid") v [xa,xb,xc,xd,xe,xf] st Q=Q [xa,xb,xc,xd,some v,xf]:=by kernel_rfl
theorem w710:callN T (d+1) (K 710) [xa,xb] st Q=code d 710 [] 0 [some xa,some xb] st (fun _ st=>Q .none st) Q:=by kernel_rfl
theorem w710_0:code d 710 [] 0 [some xa,some xb] st kn kr=(srcV xb st fun r1=>(r1).own=false∧compL (scAt 710 0) (r1) (.one "n") (ifs d 710 0 22) (elt d 710 0 22) [none,none,some xb,some xa] (r1).all [] st fun l2 s3=>alloc (.list l2) s3 fun v4 s5=>0≤60∧alloc (.list []) s5 fun v6 s7=>cmpV .Eq v4 v6 s7 fun b8=>kr (.bool b8) s7):=by kernel_rfl
theorem Jfs:elt d 710 0 22 [xa,some xb,some xc,some xd] st Q=(Q xb st):=by kernel_rfl
theorem w710_i0 {Q:Bool→St→Prop}:ifs d 710 0 22 [xa,some xb,some xc,some xd] st Q=(attrV T xd "heap" st fun v1 s2=>methQ d v1 "size" s2 (fun k3=>k3 [] s2) fun v4 s5=>cmpV .GtE xb v4 s5 fun b6=>bothP b6 (Q true s5) (attrV T xd "heap" s5 fun v7 s8=>attrV T v7 "bank" s8 fun v9 s10=>methQ d v9 "node" s10 (fun k11=>k11 [xb] s10) fun v12 s13=>subV xc xb s13 fun v14 s15=>cmpV .NotEq v12 v14 s15 fun b16=>bothP b16 (Q true s15) (Q false s15))):=by kernel_rfl
theorem w710_b0 {y_nodes:V} {y_self:V} {v:V} {Q:Loc→Prop}:bindT (scAt 710 0) (.one "n") v [xa,xb,some y_nodes,some y_self] st Q=Q [xa,some v,some y_nodes,some y_self]:=by kernel_rfl
theorem w711:callN T (d+1) (K 711) [xa,xb] st Q=code d 711 [] 0 [some xa,some xb,none,none] st (fun _ st=>Q .none st) Q:=by kernel_rfl
theorem w711_0:code d 711 [] 0 [some xa,some xb,xc,xd] st kn kr=(attrV T xa "turns" st fun v1 s2=>binV .Add v1 (.int 1) s2 fun v3 s4=>setAttrV T xa "turns" v3 s4 fun s5=>(0≤8∧0=0)∧dmake [] 0 [] fun o8=>alloc o8 s5 fun v6 s7=>attrV T xa "ways" s7 fun v9 s10=>setItemV v9 xb v6 s10 fun s11=>attrV T xa "backs" s11 fun v12 s13=>subV v12 xb s13 fun v14 s15=>attrV T xa "heap" s15 fun v16 s17=>attrV T v16 "backs" s17 fun v18 s19=>cmpV .NotEq v14 v18 s19 fun b20=>bothP b20 (attrV T xa "heap" s19 fun v21 s22=>attrV T v21 "backs" s22 fun v23 s24=>attrV T xa "backs" s24 fun v25 s26=>setItemV v25 xb v23 s26 fun s27=>attrV T xa "told" s27 fun v28 s29=>subV v28 xb s29 fun v30 s31=>srcV v30 s31 fun r32=>(r32).own=false∧compL (scAt 711 0) (r32) (.one "row") (ifs d 711 0 23) (elt d 711 0 23) [none,none,some xa] (r32).all [] s31 fun l33 s34=>alloc (.list l33) s34 fun v35 s36=>attrV T xa "told" s36 fun v37 s38=>setItemV v37 xb v35 s38 fun s39=>attrV T xa "told" s39 fun v40 s41=>subV v40 xb s41 fun v42 s43=>srcV v42 s43 fun r44=>pairOk (r44) (.one "row")∧cForL (fnSc 711) (r44) (.one "row") (code d 711 [6] 0) (r44).all [some xa,some xb,some v30,xd] s43 (fun l s=>code d 711 [] 4 l s kn kr) kr) (attrV T xa "told" s19 fun v45 s46=>subV v45 xb s46 fun v47 s48=>srcV v47 s48 fun r49=>pairOk (r49) (.one "row")∧cForL (fnSc 711) (r49) (.one "row") (code d 711 [6] 0) (r49).all [some xa,some xb,xc,xd] s48 (fun l s=>code d 711 [] 4 l s kn kr) kr)):=by kernel_rfl
theorem Ji2:code d 711 [6] 0 [some xa,some xb,xc,some xd] st kn kr=(methQ d xa "join" st (fun k1=>subV xd (.int 0) st fun v4 s5=>subV xd (.int 1) s5 fun v6 s7=>k1 [xb,v4,v6] s7) fun v2 s3=>kn [some xa,some xb,xc,some xd] s3):=by kernel_rfl
theorem w711_4:code d 711 [] 4 [some xa,some xb,xc,xd] st kn kr=(cWhile (test d 711 [] 4) (code d 711 [8] 0) [some xa,some xb,xc,xd] st (fun l s=>code d 711 [] 5 l s kn kr) kr):=by kernel_rfl
theorem Ji3 {Q:Bool→St→Prop}:test d 711 [] 4 [some xa,some xb,xc,xd] st Q=(methQ d xa "close_once" st (fun k1=>k1 [xb] st) fun v2 s3=>boolP v2 fun b4=>Q b4 s3):=by kernel_rfl
theorem Ji1:code d 711 [8] 0 [some xa,some xb,xc,xd] st kn kr=(kn [some xa,some xb,xc,xd] st):=by kernel_rfl
theorem w711_5:code d 711 [] 5 [some xa,some xb,xc,xd] st kn kr=(kn [some xa,some xb,xc,xd] st):=by kernel_rfl
theorem w711_e0:elt d 711 0 23 [xa,some xb,some xc] st Q=(Q xb st):=by kernel_rfl
theorem w711_i0 {Q:Bool→St→Prop}:ifs d 711 0 23 [xa,some xb,some xc] st Q=(methQ d xc "stands" st (fun k1=>subV xb (.int 2) st fun v4 s5=>k1 [v4] s5) fun v2 s3=>boolP v2 fun b6=>bothP b6 (methQ d xc "stands" s3 (fun k7=>subV xb (.int 3) s3 fun v10 s11=>k7 [v10] s11) fun v8 s9=>boolP v8 fun b12=>bothP b12 (Q true s9) (Q false s9)) (Q false s3)):=by kernel_rfl
theorem w711_b0 {y_self:V} {v:V} {Q:Loc→Prop}:bindT (scAt 711 0) (.one "row") v [xa,xb,some y_self] st Q=Q [xa,some v,some y_self]:=by kernel_rfl
theorem Ji4 {v:V} {Q:Loc→Prop}:bindT (fnSc 711) (.one "row") v [xa,xb,xc,xd] st Q=Q [xa,xb,xc,some v]:=by kernel_rfl
theorem w712:callN T (d+1) (K 712) [xa] st Q=code d 712 [] 0 [some xa,none,none] st (fun _ st=>Q .none st) Q:=by kernel_rfl
theorem w712_0:code d 712 [] 0 [some xa,xb,xc] st kn kr=(attrV T xa "heap" st fun v1 s2=>methQ d v1 "settle" s2 (fun k3=>k3 [] s2) fun v4 s5=>attrV T xa "beneath" s5 fun v6 s7=>fnV .sorted [v6] s7 fun v8 s9=>srcV v8 s9 fun r10=>pairOk (r10) (.one "layer")∧cForL (fnSc 712) (r10) (.one "layer") (code d 712 [2] 0) (r10).all [some xa,xb,xc] s9 (fun l s=>code d 712 [] 2 l s kn kr) kr):=by kernel_rfl
theorem Jds:code d 712 [2] 0 [some xa,some xb,xc] st kn kr=(methQ d xa "renew" st (fun k1=>k1 [xb] st) fun v2 s3=>kn [some xa,some xb,xc] s3):=by kernel_rfl
theorem w712_2:code d 712 [] 2 [some xa,xb,xc] st kn kr=(kn [some xa,xb,xc] st):=by kernel_rfl
theorem Jdt {v:V} {Q:Loc→Prop}:bindT (fnSc 712) (.one "layer") v [xa,xb,xc] st Q=Q [xa,some v,xc]:=by kernel_rfl
theorem w713:callN T (d+1) (K 713) [xa,xb,xc,xd] st Q=code d 713 [] 0 [some xa,some xb,some xc,some xd,none,none,none,none] st (fun _ st=>Q .none st) Q:=by kernel_rfl
theorem w713_0:code d 713 [] 0 [some xa,some xb,some xc,some xd,xe,xf,xg,xh] st kn kr=(cmpV .Eq xb (.int (-1)) st fun b1=>bothP b1 (False) (methQ d xa "are_like" st (fun k2=>k2 [xb,xc,xd] st) fun v3 s4=>unV .Not v3 s4 fun v5 s6=>attrV T xa "told" s6 fun v7 s8=>subV v7 xb s8 fun v9 s10=>methQ d v9 "append" s10 (fun k11=>4≤60∧methQ d xa "nodes_within" s10 (fun k14=>k14 [xc] s10) fun v15 s16=>methQ d xa "nodes_within" s16 (fun k17=>k17 [xd] s16) fun v18 s19=>k11 [(.tup [xc,xd,v15,v18])] s19) fun v12 s13=>boolP v5 fun b20=>bothP b20 (methQ d xa "over" s13 (fun k21=>k21 [xb] s13) fun v22 s23=>srcV v22 s23 fun r24=>pairOk (r24) (.one "one")∧cForL (fnSc 713) (r24) (.one "one") (code d 713 [6] 0) (r24).all [some xa,some xb,some xc,some xd,some v5,xf,xg,xh] s23 (fun l s=>code d 713 [] 4 l s kn kr) kr) (0≤60∧alloc (.list []) s13 fun v25 s26=>srcV v25 s26 fun r27=>pairOk (r27) (.one "one")∧cForL (fnSc 713) (r27) (.one "one") (code d 713 [6] 0) (r27).all [some xa,some xb,some xc,some xd,some v5,xf,xg,xh] s26 (fun l s=>code d 713 [] 4 l s kn kr) kr))):=by kernel_rfl
theorem Yq:code d 713 [6] 0 [some xa,some xb,some xc,some xd,some xe,some xf,xg,xh] st kn kr=(methQ d xa "renew" st (fun k1=>k1 [xf] st) fun v2 s3=>kn [some xa,some xb,some xc,some xd,some xe,some xf,xg,xh] s3):=by kernel_rfl
theorem Jlw:code d 713 [] 4 [some xa,some xb,some xc,some xd,some xe,xf,xg,xh] st kn kr=(kr xe st):=by kernel_rfl
theorem Yr {v:V} {Q:Loc→Prop}:bindT (fnSc 713) (.one "one") v [xa,xb,xc,xd,xe,xf,xg,xh] st Q=Q [xa,xb,xc,xd,xe,some v,xg,xh]:=by kernel_rfl
theorem w715:callN T (d+1) (K 715) [xa,xb] st Q=code d 715 [] 0 [some xa,some xb,none,none] st (fun _ st=>Q .none st) Q:=by kernel_rfl
theorem w715_0:code d 715 [] 0 [some xa,some xb,xc,xd] st kn kr=(attrV T xa "heap" st fun v1 s2=>methQ d v1 "classes" s2 (fun k3=>k3 [] s2) fun v4 s5=>srcV v4 s5 fun r6=>(r6).own=false∧compL (scAt 715 0) (r6) (.one "c") (ifs d 715 0 22) (elt d 715 0 22) [none,none,some xb,some xa] (r6).all [] s5 fun l7 s8=>alloc (.list l7) s8 fun v9 s10=>sortedSetV v9 s10 fun v11 s12=>kr v11 s12):=by kernel_rfl
theorem w715_e0:elt d 715 0 22 [xa,some xb,some xc,some xd] st Q=(methQ d xd "find" st (fun k1=>k1 [xc,xb] st) fun v2 s3=>Q v2 s3):=by kernel_rfl
theorem w715_i0 {l:Loc} {Q:Bool→St→Prop}:ifs d 715 0 22 l st Q=(Q true st):=by kernel_rfl
theorem w715_b0 {y_layer:V} {y_self:V} {v:V} {Q:Loc→Prop}:bindT (scAt 715 0) (.one "c") v [xa,xb,some y_layer,some y_self] st Q=Q [xa,some v,some y_layer,some y_self]:=by kernel_rfl
theorem w1100:callN T (d+1) (K 1100) [xa] st Q=code d 1100 [] 0 [some xa] st (fun _ st=>Q .none st) Q:=by kernel_rfl
theorem w1100_0:code d 1100 [] 0 [some xa] st kn kr=(0≤60∧alloc (.list []) st fun v1 s2=>setAttrV T xa "nodes" v1 s2 fun s3=>(0≤8∧0=0)∧dmake [] 0 [] fun o6=>alloc o6 s3 fun v4 s5=>setAttrV T xa "numbers" v4 s5 fun s7=>0≤60∧alloc (.list []) s7 fun v8 s9=>setAttrV T xa "weights" v8 s9 fun s10=>0≤60∧alloc (.list []) s10 fun v11 s12=>setAttrV T xa "depths" v11 s12 fun s13=>kn [some xa] s13):=by kernel_rfl
theorem w1101:callN T (d+1) (K 1101) [xa] st Q=code d 1101 [] 0 [some xa,none] st (fun _ st=>Q .none st) Q:=by kernel_rfl
theorem w1101_0:code d 1101 [] 0 [some xa,xb] st kn kr=(attrV T xa "nodes" st fun v1 s2=>fnV .len [v1] s2 fun v3 s4=>kr v3 s4):=by kernel_rfl
theorem w1102:callN T (d+1) (K 1102) [xa,xb,xc] st Q=code d 1102 [] 0 [some xa,some xb,some xc,none,none,none,none,none,none,none] st (fun _ st=>Q .none st) Q:=by kernel_rfl
theorem Jgv:code d 1102 [] 0 [some xa,some xb,some xc,xd,xe,xf,xg,xh,xi,xj] st kn kr=(1≤60∧fnV .tuple [xc] st fun v1 s2=>binV .Add (.tup [xb]) v1 s2 fun v3 s4=>attrV T xa "numbers" s4 fun v5 s6=>cmpV .In v3 v5 s6 fun b7=>bothP b7 (attrV T xa "numbers" s6 fun v8 s9=>subV v8 v3 s9 fun v10 s11=>kr v10 s11) (methQ d xa "require" s6 (fun k12=>k12 [xb] s6) fun v13 s14=>dropV v3 (.int 1) s14 fun v15 s16=>srcV v15 s16 fun r17=>pairOk (r17) (.one "kid")∧cForL (fnSc 1102) (r17) (.one "kid") (code d 1102 [6] 0) (r17).all [some xa,some xb,some xc,some v3,xe,xf,xg,xh,xi,xj] s16 (fun l s=>code d 1102 [] 4 l s kn kr) kr)):=by kernel_rfl
theorem Jgt:code d 1102 [6] 0 [some xa,some xb,some xc,some xd,some xe,xf,xg,xh,xi,xj] st kn kr=(cmpV .LtE (.int 0) xe st fun b1=>bothP b1 (attrV T xa "nodes" st fun v2 s3=>fnV .len [v2] s3 fun v4 s5=>cmpV .Lt xe v4 s5 fun b6=>bothP (!b6) (False) (kn [some xa,some xb,some xc,some xd,some xe,xf,xg,xh,xi,xj] s5)) (False)):=by kernel_rfl
theorem w1102_4:code d 1102 [] 4 [some xa,some xb,some xc,some xd,xe,xf,xg,xh,xi,xj] st kn kr=(attrV T xa "nodes" st fun v1 s2=>fnV .len [v1] s2 fun v3 s4=>attrV T xa "numbers" s4 fun v5 s6=>setItemV v5 xd v3 s6 fun s7=>attrV T xa "nodes" s7 fun v8 s9=>methQ d v8 "append" s9 (fun k10=>k10 [xd] s9) fun v11 s12=>attrV T xa "weights" s12 fun v13 s14=>methQ d v13 "append" s14 (fun k15=>dropV xd (.int 1) s14 fun v18 s19=>srcV v18 s19 fun r20=>(r20).own=false∧compL (scAt 1102 0) (r20) (.one "kid") (ifs d 1102 0 20) (elt d 1102 0 20) [none,none,some xa] (r20).all [] s19 fun l21 s22=>alloc (.list l21) s22 fun v23 s24=>fnV .sum [v23] s24 fun v25 s26=>binV .Add (.int 1) v25 s26 fun v27 s28=>k15 [v27] s28) fun v16 s17=>attrV T xa "depths" s17 fun v29 s30=>methQ d v29 "append" s30 (fun k31=>dropV xd (.int 1) s30 fun v34 s35=>srcV v34 s35 fun r36=>(r36).own=false∧compL (scAt 1102 1) (r36) (.one "kid") (ifs d 1102 1 19) (elt d 1102 1 19) [none,none,some xa] (r36).all [] s35 fun l37 s38=>alloc (.list l37) s38 fun v39 s40=>1≤60∧alloc (.list [(.int 0)]) s40 fun v41 s42=>binV .Add v39 v41 s42 fun v43 s44=>fnV .max [v43] s44 fun v45 s46=>binV .Add (.int 1) v45 s46 fun v47 s48=>k31 [v47] s48) fun v32 s33=>attrV T xa "nodes" s33 fun v49 s50=>fnV .len [v49] s50 fun v51 s52=>binV .Sub v51 (.int 1) s52 fun v53 s54=>kr v53 s54):=by kernel_rfl
theorem Jju:elt d 1102 1 19 [xa,some xb,some xc] st Q=(attrV T xc "depths" st fun v1 s2=>subV v1 xb s2 fun v3 s4=>Q v3 s4):=by kernel_rfl
theorem Jjs {l:Loc} {Q:Bool→St→Prop}:ifs d 1102 1 19 l st Q=(Q true st):=by kernel_rfl
theorem Jjw {y_self:V} {v:V} {Q:Loc→Prop}:bindT (scAt 1102 1) (.one "kid") v [xa,xb,some y_self] st Q=Q [xa,some v,some y_self]:=by kernel_rfl
theorem Jjv:elt d 1102 0 20 [xa,some xb,some xc] st Q=(attrV T xc "weights" st fun v1 s2=>subV v1 xb s2 fun v3 s4=>Q v3 s4):=by kernel_rfl
theorem Jjt {l:Loc} {Q:Bool→St→Prop}:ifs d 1102 0 20 l st Q=(Q true st):=by kernel_rfl
theorem Jjx {y_self:V} {v:V} {Q:Loc→Prop}:bindT (scAt 1102 0) (.one "kid") v [xa,xb,some y_self] st Q=Q [xa,some v,some y_self]:=by kernel_rfl
theorem Jgu {v:V} {Q:Loc→Prop}:bindT (fnSc 1102) (.one "kid") v [xa,xb,xc,xd,xe,xf,xg,xh,xi,xj] st Q=Q [xa,xb,xc,xd,some v,xf,xg,xh,xi,xj]:=by kernel_rfl
theorem w1103:callN T (d+1) (K 1103) [xa,xb] st Q=code d 1103 [] 0 [some xa,some xb,none,none] st (fun _ st=>Q .none st) Q:=by kernel_rfl
theorem w1103_0:code d 1103 [] 0 [some xa,some xb,xc,xd] st kn kr=(callN T d (K 9) [xb] st fun v1 s2=>boolP v1 fun b3=>bothP (!b3) (False) (subV xb (.int 0) s2 fun v4 s5=>cmpV .Eq v4 (.str "?") s5 fun b6=>bothP b6 (False) (kn [some xa,some xb,xc,xd] s5))):=by kernel_rfl
theorem w1106:callN T (d+1) (K 1106) [xa,xb] st Q=code d 1106 [] 0 [some xa,some xb,none,none] st (fun _ st=>Q .none st) Q:=by kernel_rfl
theorem w1106_0:code d 1106 [] 0 [some xa,some xb,xc,xd] st kn kr=(cWhile (test d 1106 [] 0) (code d 1106 [0] 0) [some xa,some xb,xc,xd] st (fun l s=>code d 1106 [] 1 l s kn kr) kr):=by kernel_rfl
theorem Jgr {Q:Bool→St→Prop}:test d 1106 [] 0 [some xa,some xb,xc,xd] st Q=(attrV T xa "nodes" st fun v1 s2=>fnV .len [v1] s2 fun v3 s4=>fnV .max [xb,(.int 0)] s4 fun v5 s6=>cmpV .Gt v3 v5 s6 fun b7=>Q b7 s6):=by kernel_rfl
theorem Jgs:code d 1106 [0] 0 [some xa,some xb,xc,xd] st kn kr=(attrV T xa "numbers" st fun v1 s2=>methQ d v1 "pop" s2 (fun k3=>attrV T xa "nodes" s2 fun v6 s7=>methQ d v6 "pop" s7 (fun k8=>k8 [] s7) fun v9 s10=>k3 [v9] s10) fun v4 s5=>attrV T xa "weights" s5 fun v11 s12=>methQ d v11 "pop" s12 (fun k13=>k13 [] s12) fun v14 s15=>attrV T xa "depths" s15 fun v16 s17=>methQ d v16 "pop" s17 (fun k18=>k18 [] s17) fun v19 s20=>kn [some xa,some xb,xc,xd] s20):=by kernel_rfl
theorem w1106_1:code d 1106 [] 1 [some xa,some xb,xc,xd] st kn kr=(kn [some xa,some xb,xc,xd] st):=by kernel_rfl
theorem w1107:callN T (d+1) (K 1107) [xa,xb] st Q=code d 1107 [] 0 [some xa,some xb] st (fun _ st=>Q .none st) Q:=by kernel_rfl
theorem w1107_0:code d 1107 [] 0 [some xa,some xb] st kn kr=(attrV T xa "nodes" st fun v1 s2=>subV v1 xb s2 fun v3 s4=>subV v3 (.int 0) s4 fun v5 s6=>kr v5 s6):=by kernel_rfl
theorem w1108:callN T (d+1) (K 1108) [xa,xb] st Q=code d 1108 [] 0 [some xa,some xb] st (fun _ st=>Q .none st) Q:=by kernel_rfl
theorem w1108_0:code d 1108 [] 0 [some xa,some xb] st kn kr=(attrV T xa "nodes" st fun v1 s2=>subV v1 xb s2 fun v3 s4=>dropV v3 (.int 1) s4 fun v5 s6=>kr v5 s6):=by kernel_rfl
theorem w1109:callN T (d+1) (K 1109) [xa,xb] st Q=code d 1109 [] 0 [some xa,some xb] st (fun _ st=>Q .none st) Q:=by kernel_rfl
theorem w1109_0:code d 1109 [] 0 [some xa,some xb] st kn kr=(attrV T xa "nodes" st fun v1 s2=>subV v1 xb s2 fun v3 s4=>kr v3 s4):=by kernel_rfl
theorem w1300:callN T (d+1) (K 1300) [xa] st Q=code d 1300 [] 0 [some xa] st (fun _ st=>Q .none st) Q:=by kernel_rfl
theorem w1300_0:code d 1300 [] 0 [some xa] st kn kr=(0≤60∧alloc (.list []) st fun v1 s2=>setAttrV T xa "above" v1 s2 fun s3=>0≤60∧alloc (.list []) s3 fun v4 s5=>setAttrV T xa "lots" v4 s5 fun s6=>0≤60∧alloc (.list []) s6 fun v7 s8=>setAttrV T xa "merged" v7 s8 fun s9=>kn [some xa] s9):=by kernel_rfl
theorem w1301:callN T (d+1) (K 1301) [xa] st Q=code d 1301 [] 0 [some xa,none] st (fun _ st=>Q .none st) Q:=by kernel_rfl
theorem w1301_0:code d 1301 [] 0 [some xa,xb] st kn kr=(attrV T xa "above" st fun v1 s2=>methQ d v1 "append" s2 (fun k3=>attrV T xa "above" s2 fun v6 s7=>fnV .len [v6] s7 fun v8 s9=>k3 [v8] s9) fun v4 s5=>attrV T xa "lots" s5 fun v10 s11=>methQ d v10 "append" s11 (fun k12=>1≤60∧attrV T xa "lots" s11 fun v15 s16=>fnV .len [v15] s16 fun v17 s18=>alloc (.list [v17]) s18 fun v19 s20=>k12 [v19] s20) fun v13 s14=>attrV T xa "above" s14 fun v21 s22=>fnV .len [v21] s22 fun v23 s24=>binV .Sub v23 (.int 1) s24 fun v25 s26=>kr v25 s26):=by kernel_rfl
theorem w1302:callN T (d+1) (K 1302) [xa] st Q=code d 1302 [] 0 [some xa,none] st (fun _ st=>Q .none st) Q:=by kernel_rfl
theorem w1302_0:code d 1302 [] 0 [some xa,xb] st kn kr=(attrV T xa "above" st fun v1 s2=>fnV .len [v1] s2 fun v3 s4=>kr v3 s4):=by kernel_rfl
theorem w1303:callN T (d+1) (K 1303) [xa,xb] st Q=code d 1303 [] 0 [some xa,some xb] st (fun _ st=>Q .none st) Q:=by kernel_rfl
theorem w1303_0:code d 1303 [] 0 [some xa,some xb] st kn kr=(cWhile (test d 1303 [] 0) (code d 1303 [0] 0) [some xa,some xb] st (fun l s=>code d 1303 [] 1 l s kn kr) kr):=by kernel_rfl
theorem Jgp {Q:Bool→St→Prop}:test d 1303 [] 0 [some xa,some xb] st Q=(attrV T xa "above" st fun v1 s2=>subV v1 xb s2 fun v3 s4=>cmpV .NotEq v3 xb s4 fun b5=>Q b5 s4):=by kernel_rfl
theorem Jgq:code d 1303 [0] 0 [some xa,some xb] st kn kr=(attrV T xa "above" st fun v1 s2=>subV v1 xb s2 fun v3 s4=>kn [some xa,some v3] s4):=by kernel_rfl
theorem w1303_1:code d 1303 [] 1 [some xa,some xb] st kn kr=(kr xb st):=by kernel_rfl
theorem w1304:callN T (d+1) (K 1304) [xa,xb,xc] st Q=code d 1304 [] 0 [some xa,some xb,some xc,none,none,none] st (fun _ st=>Q .none st) Q:=by kernel_rfl
theorem w1304_0:code d 1304 [] 0 [some xa,some xb,some xc,xd,xe,xf] st kn kr=(2≤60∧methQ d xa "find" st (fun k1=>k1 [xb] st) fun v2 s3=>methQ d xa "find" s3 (fun k4=>k4 [xc] s3) fun v5 s6=>alloc (.list [v2,v5]) s6 fun v7 s8=>fnV .sorted [v7] s8 fun v9 s10=>itemsV v9 s10 fun l11=>bindN (fnSc 1304) ["kept","gone"] l11 [some xa,some xb,some xc,xd,xe,xf] fun l12=>code d 1304 [] 1 l12 s10 kn kr):=by kernel_rfl
theorem w1304_1:code d 1304 [] 1 [some xa,some xb,some xc,some xd,some xe,xf] st kn kr=(cmpV .Eq xd xe st fun b1=>bothP b1 (kr .none st) (attrV T xa "above" st fun v2 s3=>setItemV v2 xe xd s3 fun s4=>attrV T xa "lots" s4 fun v5 s6=>subV v5 xd s6 fun v7 s8=>methQ d v7 "extend" s8 (fun k9=>attrV T xa "lots" s8 fun v12 s13=>subV v12 xe s13 fun v14 s15=>k9 [v14] s15) fun v10 s11=>attrV T xa "merged" s11 fun v16 s17=>methQ d v16 "append" s17 (fun k18=>2≤60∧k18 [(.tup [xd,xe])] s17) fun v19 s20=>2≤60∧kr (.tup [xd,xe]) s20)):=by kernel_rfl
theorem Jgo {v0:V} {v1:V} {Q:Loc→Prop}:bindN (fnSc 1304) ["kept","gone"] [v0,v1] [xa,xb,xc,xd,xe,xf] Q=Q [xa,xb,xc,some v0,some v1,xf]:=by kernel_rfl
theorem w1305:callN T (d+1) (K 1305) [xa,xb] st Q=code d 1305 [] 0 [some xa,some xb,none] st (fun _ st=>Q .none st) Q:=by kernel_rfl
theorem w1305_0:code d 1305 [] 0 [some xa,some xb,xc] st kn kr=(attrV T xa "lots" st fun v1 s2=>methQ d xa "find" s2 (fun k3=>k3 [xb] s2) fun v4 s5=>subV v1 v4 s5 fun v6 s7=>fnV .sorted [v6] s7 fun v8 s9=>kr v8 s9):=by kernel_rfl
theorem w1306:callN T (d+1) (K 1306) [xa] st Q=code d 1306 [] 0 [some xa,none,none] st (fun _ st=>Q .none st) Q:=by kernel_rfl
theorem w1306_0:code d 1306 [] 0 [some xa,xb,xc] st kn kr=(attrV T xa "above" st fun v1 s2=>fnV .len [v1] s2 fun v3 s4=>rangeV [v3] fun a5 b6=>(Src.items (intL (rangeL a5 b6))).own=false∧compL (scAt 1306 0) (Src.items (intL (rangeL a5 b6))) (.one "a") (ifs d 1306 0 23) (elt d 1306 0 23) [none,none,some xa] (Src.items (intL (rangeL a5 b6))).all [] s4 fun l7 s8=>alloc (.list l7) s8 fun v9 s10=>kr v9 s10):=by kernel_rfl
theorem Jjq:elt d 1306 0 23 [xa,some xb,some xc] st Q=(Q xb st):=by kernel_rfl
theorem Jjp {Q:Bool→St→Prop}:ifs d 1306 0 23 [xa,some xb,some xc] st Q=(attrV T xc "above" st fun v1 s2=>subV v1 xb s2 fun v3 s4=>cmpV .Eq v3 xb s4 fun b5=>bothP b5 (Q true s4) (Q false s4)):=by kernel_rfl
theorem Jjr {y_self:V} {v:V} {Q:Loc→Prop}:bindT (scAt 1306 0) (.one "a") v [xa,xb,some y_self] st Q=Q [xa,some v,some y_self]:=by kernel_rfl
theorem w1308:callN T (d+1) (K 1308) [xa,xb] st Q=code d 1308 [] 0 [some xa,some xb,none,none,none,none] st (fun _ st=>Q .none st) Q:=by kernel_rfl
theorem w1308_0:code d 1308 [] 0 [some xa,some xb,xc,xd,xe,xf] st kn kr=(cWhile (test d 1308 [] 0) (code d 1308 [0] 0) [some xa,some xb,xc,xd,xe,xf] st (fun l s=>code d 1308 [] 1 l s kn kr) kr):=by kernel_rfl
theorem Jgl {Q:Bool→St→Prop}:test d 1308 [] 0 [some xa,some xb,xc,xd,xe,xf] st Q=(attrV T xa "merged" st fun v1 s2=>fnV .len [v1] s2 fun v3 s4=>fnV .max [xb,(.int 0)] s4 fun v5 s6=>cmpV .Gt v3 v5 s6 fun b7=>Q b7 s6):=by kernel_rfl
theorem Jgn:code d 1308 [0] 0 [some xa,some xb,xc,xd,xe,xf] st kn kr=(attrV T xa "merged" st fun v1 s2=>methQ d v1 "pop" s2 (fun k3=>k3 [] s2) fun v4 s5=>itemsV v4 s5 fun l6=>bindN (fnSc 1308) ["kept","gone"] l6 [some xa,some xb,xc,xd,xe,xf] fun l7=>code d 1308 [0] 1 l7 s5 kn kr):=by kernel_rfl
theorem Jgm:code d 1308 [0] 1 [some xa,some xb,some xc,some xd,xe,xf] st kn kr=(attrV T xa "above" st fun v1 s2=>setItemV v1 xd xd s2 fun s3=>attrV T xa "lots" s3 fun v4 s5=>subV v4 xc s5 fun v6 s7=>attrV T xa "lots" s7 fun v8 s9=>subV v8 xc s9 fun v10 s11=>fnV .len [v10] s11 fun v12 s13=>attrV T xa "lots" s13 fun v14 s15=>subV v14 xd s15 fun v16 s17=>fnV .len [v16] s17 fun v18 s19=>binV .Sub v12 v18 s19 fun v20 s21=>delSliceV v6 v20 s21 fun s22=>kn [some xa,some xb,some xc,some xd,xe,xf] s22):=by kernel_rfl
theorem w1308_1:code d 1308 [] 1 [some xa,some xb,xc,xd,xe,xf] st kn kr=(kn [some xa,some xb,xc,xd,xe,xf] st):=by kernel_rfl
theorem Jcy {v0:V} {v1:V} {Q:Loc→Prop}:bindN (fnSc 1308) ["kept","gone"] [v0,v1] [xa,xb,xc,xd,xe,xf] Q=Q [xa,xb,some v0,some v1,xe,xf]:=by kernel_rfl
theorem w1309:callN T (d+1) (K 1309) [xa,xb] st Q=code d 1309 [] 0 [some xa,some xb,none,none,none,none,none] st (fun _ st=>Q .none st) Q:=by kernel_rfl
theorem w1309_0:code d 1309 [] 0 [some xa,some xb,xc,xd,xe,xf,xg] st kn kr=(fnV .max [xb,(.int 0)] st fun v1 s2=>attrV T xa "above" s2 fun v3 s4=>fnV .len [v3] s4 fun v5 s6=>rangeV [v1,v5] fun a7 b8=>pairOk (Src.items (intL (rangeL a7 b8))) (.one "a")∧cForL (fnSc 1309) (Src.items (intL (rangeL a7 b8))) (.one "a") (code d 1309 [2] 0) (Src.items (intL (rangeL a7 b8))).all [some xa,some v1,xc,xd,xe,xf,xg] s6 (fun l s=>code d 1309 [] 2 l s kn kr) kr):=by kernel_rfl
theorem Jgj:code d 1309 [2] 0 [some xa,some xb,some xc,xd,xe,xf,xg] st kn kr=(methQ d xa "members" st (fun k1=>k1 [xc] st) fun v2 s3=>1≤60∧alloc (.list [xc]) s3 fun v4 s5=>cmpV .NotEq v2 v4 s5 fun b6=>bothP b6 (False) (kn [some xa,some xb,some xc,xd,xe,xf,xg] s5)):=by kernel_rfl
theorem w1309_2:code d 1309 [] 2 [some xa,some xb,xc,xd,xe,xf,xg] st kn kr=(attrV T xa "above" st fun v1 s2=>delSliceV v1 xb s2 fun s3=>attrV T xa "lots" s3 fun v4 s5=>delSliceV v4 xb s5 fun s6=>kn [some xa,some xb,xc,xd,xe,xf,xg] s6):=by kernel_rfl
theorem Jgk {v:V} {Q:Loc→Prop}:bindT (fnSc 1309) (.one "a") v [xa,xb,xc,xd,xe,xf,xg] st Q=Q [xa,xb,some v,xd,xe,xf,xg]:=by kernel_rfl
theorem w1500:callN T (d+1) (K 1500) [xa] st Q=code d 1500 [] 0 [some xa,none,none] st (fun _ st=>Q .none st) Q:=by kernel_rfl
theorem w1500_0:code d 1500 [] 0 [some xa,xb,xc] st kn kr=(newC d (K 1100) (K 11) [] st fun v1 s2=>setAttrV T xa "bank" v1 s2 fun s3=>newC d (K 1300) (K 13) [] s3 fun v4 s5=>setAttrV T xa "unions" v4 s5 fun s6=>0≤60∧alloc (.list []) s6 fun v7 s8=>setAttrV T xa "edges" v7 s8 fun s9=>0≤60∧alloc (.list []) s9 fun v10 s11=>setAttrV T xa "forest" v10 s11 fun s12=>(0≤8∧0=0)∧dmake [] 0 [] fun o15=>alloc o15 s12 fun v13 s14=>setAttrV T xa "known" v13 s14 fun s16=>(0≤8∧0=0)∧dmake [] 0 [] fun o19=>alloc o19 s16 fun v17 s18=>setAttrV T xa "above" v17 s18 fun s20=>0≤60∧alloc (.list []) s20 fun v21 s22=>setAttrV T xa "waiting" v21 s22 fun s23=>setAttrV T xa "backs" (.int 0) s23 fun s24=>kn [some xa,xb,xc] s24):=by kernel_rfl
theorem w1501:callN T (d+1) (K 1501) [xa] st Q=code d 1501 [] 0 [some xa] st (fun _ st=>Q .none st) Q:=by kernel_rfl
theorem w1501_0:code d 1501 [] 0 [some xa] st kn kr=(attrV T xa "bank" st fun v1 s2=>methQ d v1 "size" s2 (fun k3=>k3 [] s2) fun v4 s5=>kr v4 s5):=by kernel_rfl
theorem w1502:callN T (d+1) (K 1502) [xa,xb] st Q=code d 1502 [] 0 [some xa,some xb,none] st (fun _ st=>Q .none st) Q:=by kernel_rfl
theorem w1502_0:code d 1502 [] 0 [some xa,some xb,xc] st kn kr=(1≤60∧attrV T xa "bank" st fun v1 s2=>methQ d v1 "op" s2 (fun k3=>k3 [xb] s2) fun v4 s5=>attrV T xa "bank" s5 fun v6 s7=>methQ d v6 "kids" s7 (fun k8=>k8 [xb] s7) fun v9 s10=>srcV v9 s10 fun r11=>(r11).own=false∧compL (scAt 1502 0) (r11) (.one "kid") (ifs d 1502 0 21) (elt d 1502 0 21) [none,none,some xa] (r11).all [] s10 fun l12 s13=>alloc (.list l12) s13 fun v14 s15=>fnV .tuple [v14] s15 fun v16 s17=>binV .Add (.tup [v4]) v16 s17 fun v18 s19=>kr v18 s19):=by kernel_rfl
theorem Jjn:elt d 1502 0 21 [xa,some xb,some xc] st Q=(methQ d xc "find" st (fun k1=>k1 [xb] st) fun v2 s3=>Q v2 s3):=by kernel_rfl
theorem Jjm {l:Loc} {Q:Bool→St→Prop}:ifs d 1502 0 21 l st Q=(Q true st):=by kernel_rfl
theorem Jjo {y_self:V} {v:V} {Q:Loc→Prop}:bindT (scAt 1502 0) (.one "kid") v [xa,xb,some y_self] st Q=Q [xa,some v,some y_self]:=by kernel_rfl
theorem w1503:callN T (d+1) (K 1503) [xa,xb,xc] st Q=code d 1503 [] 0 [some xa,some xb,some xc,none,none,none,none] st (fun _ st=>Q .none st) Q:=by kernel_rfl
theorem Jgi:code d 1503 [] 0 [some xa,some xb,some xc,xd,xe,xf,xg] st kn kr=(attrV T xa "bank" st fun v1 s2=>methQ d v1 "take" s2 (fun k3=>k3 [xb,xc] s2) fun v4 s5=>attrV T xa "unions" s5 fun v6 s7=>methQ d v6 "size" s7 (fun k8=>k8 [] s7) fun v9 s10=>cmpV .Lt v4 v9 s10 fun b11=>bothP b11 (kr v4 s10) (attrV T xa "unions" s10 fun v12 s13=>methQ d v12 "make" s13 (fun k14=>k14 [] s13) fun v15 s16=>0≤60∧alloc (.list []) s16 fun v17 s18=>attrV T xa "above" s18 fun v19 s20=>setItemV v19 v4 v17 s20 fun s21=>srcV xc s21 fun r22=>(r22).own=false∧compL (scAt 1503 0) (r22) (.one "kid") (ifs d 1503 0 22) (elt d 1503 0 22) [none,none,some xa] (r22).all [] s21 fun l23 s24=>alloc (.list l23) s24 fun v25 s26=>sortedSetV v25 s26 fun v27 s28=>srcV v27 s28 fun r29=>pairOk (r29) (.one "c")∧cForL (fnSc 1503) (r29) (.one "c") (code d 1503 [8] 0) (r29).all [some xa,some xb,some xc,some v4,xe,xf,xg] s28 (fun l s=>code d 1503 [] 5 l s kn kr) kr)):=by kernel_rfl
theorem Jgg:code d 1503 [8] 0 [some xa,some xb,some xc,some xd,some xe,xf,xg] st kn kr=(attrV T xa "above" st fun v1 s2=>subV v1 xe s2 fun v3 s4=>methQ d v3 "append" s4 (fun k5=>k5 [xd] s4) fun v6 s7=>kn [some xa,some xb,some xc,some xd,some xe,xf,xg] s7):=by kernel_rfl
theorem w1503_5:code d 1503 [] 5 [some xa,some xb,some xc,some xd,xe,xf,xg] st kn kr=(methQ d xa "look_at" st (fun k1=>k1 [xd] st) fun v2 s3=>kr xd s3):=by kernel_rfl
theorem Jjk:elt d 1503 0 22 [xa,some xb,some xc] st Q=(methQ d xc "find" st (fun k1=>k1 [xb] st) fun v2 s3=>Q v2 s3):=by kernel_rfl
theorem Jjj {l:Loc} {Q:Bool→St→Prop}:ifs d 1503 0 22 l st Q=(Q true st):=by kernel_rfl
theorem Jjl {y_self:V} {v:V} {Q:Loc→Prop}:bindT (scAt 1503 0) (.one "kid") v [xa,xb,some y_self] st Q=Q [xa,some v,some y_self]:=by kernel_rfl
theorem Jgh {v:V} {Q:Loc→Prop}:bindT (fnSc 1503) (.one "c") v [xa,xb,xc,xd,xe,xf,xg] st Q=Q [xa,xb,xc,xd,some v,xf,xg]:=by kernel_rfl
theorem w1504:callN T (d+1) (K 1504) [xa,xb] st Q=code d 1504 [] 0 [some xa,some xb,none] st (fun _ st=>Q .none st) Q:=by kernel_rfl
theorem w1504_0:code d 1504 [] 0 [some xa,some xb,xc] st kn kr=(methQ d xa "add" st (fun k1=>subV xb (.int 0) st fun v4 s5=>dropV xb (.int 1) s5 fun v6 s7=>srcV v6 s7 fun r8=>(r8).own=false∧compL (scAt 1504 0) (r8) (.one "part") (ifs d 1504 0 21) (elt d 1504 0 21) [none,none,some xa] (r8).all [] s7 fun l9 s10=>alloc (.list l9) s10 fun v11 s12=>fnV .tuple [v11] s12 fun v13 s14=>k1 [v4,v13] s14) fun v2 s3=>kr v2 s3):=by kernel_rfl
theorem Jji {l:Loc} {Q:Bool→St→Prop}:ifs d 1504 0 21 l st Q=(Q true st):=by kernel_rfl
theorem w1505:callN T (d+1) (K 1505) [xa,xb] st Q=code d 1505 [] 0 [some xa,some xb,none] st (fun _ st=>Q .none st) Q:=by kernel_rfl
theorem w1505_0:code d 1505 [] 0 [some xa,some xb,xc] st kn kr=(attrV T xa "known" st fun v1 s2=>methQ d v1 "setdefault" s2 (fun k3=>methQ d xa "node" s2 (fun k6=>k6 [xb] s2) fun v7 s8=>k3 [v7,xb] s8) fun v4 s5=>methQ d xa "find" s5 (fun k9=>k9 [v4] s5) fun v10 s11=>methQ d xa "find" s11 (fun k12=>k12 [xb] s11) fun v13 s14=>cmpV .NotEq v10 v13 s14 fun b15=>bothP b15 (methQ d xa "join" s14 (fun k16=>1≤60∧k16 [v4,xb,(.tup [(.str "like")])] s14) fun v17 s18=>kn [some xa,some xb,some v4] s18) (kn [some xa,some xb,some v4] s14)):=by kernel_rfl
theorem w1506:callN T (d+1) (K 1506) [xa,xb] st Q=code d 1506 [] 0 [some xa,some xb] st (fun _ st=>Q .none st) Q:=by kernel_rfl
theorem w1506_0:code d 1506 [] 0 [some xa,some xb] st kn kr=(attrV T xa "unions" st fun v1 s2=>methQ d v1 "find" s2 (fun k3=>k3 [xb] s2) fun v4 s5=>kr v4 s5):=by kernel_rfl
theorem w1508:callN T (d+1) (K 1508) [xa,xb,xc,xd] st Q=code d 1508 [] 0 [some xa,some xb,some xc,some xd] st (fun _ st=>Q .none st) Q:=by kernel_rfl
theorem w1508_0:code d 1508 [] 0 [some xa,some xb,some xc,some xd] st kn kr=(methQ d xa "join" st (fun k1=>k1 [xb,xc,xd] st) fun v2 s3=>kr v2 s3):=by kernel_rfl
theorem w1509:callN T (d+1) (K 1509) [xa,xb,xc,xd] st Q=code d 1509 [] 0 [some xa,some xb,some xc,some xd,none,none,none,none] st (fun _ st=>Q .none st) Q:=by kernel_rfl
theorem w1509_0:code d 1509 [] 0 [some xa,some xb,some xc,some xd,xe,xf,xg,xh] st kn kr=(attrV T xa "edges" st fun v1 s2=>methQ d v1 "append" s2 (fun k3=>3≤60∧k3 [(.tup [xb,xc,xd])] s2) fun v4 s5=>attrV T xa "unions" s5 fun v6 s7=>methQ d v6 "merge" s7 (fun k8=>k8 [xb,xc] s7) fun v9 s10=>cmpV .Is v9 .none s10 fun b11=>bothP b11 (kr (.bool false) s10) (itemsV v9 s10 fun l12=>bindN (fnSc 1509) ["kept","gone"] l12 [some xa,some xb,some xc,some xd,some v9,xf,xg,xh] fun l13=>code d 1509 [] 4 l13 s10 kn kr)):=by kernel_rfl
theorem w1509_4:code d 1509 [] 4 [some xa,some xb,some xc,some xd,some xe,some xf,some xg,xh] st kn kr=(attrV T xa "forest" st fun v1 s2=>methQ d v1 "append" s2 (fun k3=>attrV T xa "edges" s2 fun v6 s7=>fnV .len [v6] s7 fun v8 s9=>binV .Sub v8 (.int 1) s9 fun v10 s11=>k3 [v10] s11) fun v4 s5=>attrV T xa "waiting" s5 fun v12 s13=>methQ d v12 "extend" s13 (fun k14=>attrV T xa "above" s13 fun v17 s18=>subV v17 xg s18 fun v19 s20=>k14 [v19] s20) fun v15 s16=>attrV T xa "above" s16 fun v21 s22=>subV v21 xf s22 fun v23 s24=>attrV T xa "above" s24 fun v25 s26=>methQ d v25 "pop" s26 (fun k27=>k27 [xg] s26) fun v28 s29=>binV .Add v23 v28 s29 fun v30 s31=>attrV T xa "above" s31 fun v32 s33=>setItemV v32 xf v30 s33 fun s34=>kr (.bool true) s34):=by kernel_rfl
theorem Jgf {v0:V} {v1:V} {Q:Loc→Prop}:bindN (fnSc 1509) ["kept","gone"] [v0,v1] [xa,xb,xc,xd,xe,xf,xg,xh] Q=Q [xa,xb,xc,xd,xe,some v0,some v1,xh]:=by kernel_rfl
theorem w1510:callN T (d+1) (K 1510) [xa] st Q=code d 1510 [] 0 [some xa,none] st (fun _ st=>Q .none st) Q:=by kernel_rfl
theorem w1510_0:code d 1510 [] 0 [some xa,xb] st kn kr=(cWhile (test d 1510 [] 0) (code d 1510 [0] 0) [some xa,xb] st (fun l s=>code d 1510 [] 1 l s kn kr) kr):=by kernel_rfl
theorem Jgd {Q:Bool→St→Prop}:test d 1510 [] 0 [some xa,xb] st Q=(attrV T xa "waiting" st fun v1 s2=>fnV .len [v1] s2 fun v3 s4=>cmpV .Gt v3 (.int 0) s4 fun b5=>Q b5 s4):=by kernel_rfl
theorem Jge:code d 1510 [0] 0 [some xa,xb] st kn kr=(methQ d xa "look_at" st (fun k1=>attrV T xa "waiting" st fun v4 s5=>methQ d v4 "pop" s5 (fun k6=>k6 [] s5) fun v7 s8=>k1 [v7] s8) fun v2 s3=>kn [some xa,xb] s3):=by kernel_rfl
theorem w1510_1:code d 1510 [] 1 [some xa,xb] st kn kr=(kn [some xa,xb] st):=by kernel_rfl
theorem w1512:callN T (d+1) (K 1512) [xa] st Q=code d 1512 [] 0 [some xa] st (fun _ st=>Q .none st) Q:=by kernel_rfl
theorem w1512_0:code d 1512 [] 0 [some xa] st kn kr=(attrV T xa "unions" st fun v1 s2=>methQ d v1 "classes" s2 (fun k3=>k3 [] s2) fun v4 s5=>kr v4 s5):=by kernel_rfl
theorem w1700:callN T (d+1) (K 1700) [xa] st Q=code d 1700 [] 0 [some xa,none,none] st (fun _ st=>Q .none st) Q:=by kernel_rfl
theorem w1700_0:code d 1700 [] 0 [some xa,xb,xc] st kn kr=(superQ d 1700 xa "__init__" st (fun k1=>k1 [] st) fun v2 s3=>0≤60∧alloc (.list []) s3 fun v4 s5=>setAttrV T xa "changes" v4 s5 fun s6=>0≤60∧alloc (.list []) s6 fun v7 s8=>setAttrV T xa "marks" v7 s8 fun s9=>setAttrV T xa "made" (.int 0) s9 fun s10=>kn [some xa,xb,xc] s10):=by kernel_rfl
theorem w1701:callN T (d+1) (K 1701) [xa] st Q=code d 1701 [] 0 [some xa,none] st (fun _ st=>Q .none st) Q:=by kernel_rfl
theorem w1701_0:code d 1701 [] 0 [some xa,xb] st kn kr=(attrV T xa "marks" st fun v1 s2=>fnV .len [v1] s2 fun v3 s4=>kr v3 s4):=by kernel_rfl
theorem w1702:callN T (d+1) (K 1702) [xa] st Q=code d 1702 [] 0 [some xa,none,none] st (fun _ st=>Q .none st) Q:=by kernel_rfl
theorem w1702_0:code d 1702 [] 0 [some xa,xb,xc] st kn kr=(attrV T xa "marks" st fun v1 s2=>methQ d v1 "append" s2 (fun k3=>2≤60∧attrV T xa "changes" s2 fun v6 s7=>fnV .len [v6] s7 fun v8 s9=>attrV T xa "waiting" s9 fun v10 s11=>fnV .list [v10] s11 fun v12 s13=>k3 [(.tup [v8,v12])] s13) fun v4 s5=>kn [some xa,xb,xc] s5):=by kernel_rfl
theorem w1703:callN T (d+1) (K 1703) [xa] st Q=code d 1703 [] 0 [some xa,none,none,none,none,none] st (fun _ st=>Q .none st) Q:=by kernel_rfl
theorem w1703_0:code d 1703 [] 0 [some xa,xb,xc,xd,xe,xf] st kn kr=(attrV T xa "marks" st fun v1 s2=>fnV .len [v1] s2 fun v3 s4=>cmpV .Eq v3 (.int 0) s4 fun b5=>bothP b5 (False) (attrV T xa "marks" s4 fun v6 s7=>methQ d v6 "pop" s7 (fun k8=>k8 [] s7) fun v9 s10=>itemsV v9 s10 fun l11=>bindN (fnSc 1703) ["many","waiting"] l11 [some xa,xb,xc,xd,xe,xf] fun l12=>code d 1703 [] 2 l12 s10 kn kr)):=by kernel_rfl
theorem w1703_2:code d 1703 [] 2 [some xa,some xb,some xc,xd,xe,xf] st kn kr=(attrV T xa "backs" st fun v1 s2=>binV .Add v1 (.int 1) s2 fun v3 s4=>setAttrV T xa "backs" v3 s4 fun s5=>cWhile (test d 1703 [] 3) (code d 1703 [6] 0) [some xa,some xb,some xc,xd,xe,xf] s5 (fun l s=>code d 1703 [] 4 l s kn kr) kr):=by kernel_rfl
theorem Jgb {Q:Bool→St→Prop}:test d 1703 [] 3 [some xa,some xb,some xc,xd,xe,xf] st Q=(attrV T xa "changes" st fun v1 s2=>fnV .len [v1] s2 fun v3 s4=>cmpV .Gt v3 xb s4 fun b5=>Q b5 s4):=by kernel_rfl
theorem Jga:code d 1703 [6] 0 [some xa,some xb,some xc,xd,xe,xf] st kn kr=(attrV T xa "changes" st fun v1 s2=>methQ d v1 "pop" s2 (fun k3=>k3 [] s2) fun v4 s5=>subV v4 (.int 0) s5 fun v6 s7=>cmpV .Eq v6 (.str "made") s7 fun b8=>bothP b8 (methQ d xa "unmake" s7 (fun k9=>subV v4 (.int 1) s7 fun v12 s13=>k9 [v12] s13) fun v10 s11=>kn [some xa,some xb,some xc,some v4,xe,xf] s11) (subV v4 (.int 0) s7 fun v14 s15=>cmpV .Eq v14 (.str "known") s15 fun b16=>bothP b16 (attrV T xa "known" s15 fun v17 s18=>subV v4 (.int 1) s18 fun v19 s20=>delItemV v17 v19 s20 fun s21=>kn [some xa,some xb,some xc,some v4,xe,xf] s21) (methQ d xa "unjoin" s15 (fun k22=>k22 [v4] s15) fun v23 s24=>kn [some xa,some xb,some xc,some v4,xe,xf] s24))):=by kernel_rfl
theorem w1703_4:code d 1703 [] 4 [some xa,some xb,some xc,xd,xe,xf] st kn kr=(setAttrV T xa "waiting" xc st fun s1=>kn [some xa,some xb,some xc,xd,xe,xf] s1):=by kernel_rfl
theorem Jgc {v0:V} {v1:V} {Q:Loc→Prop}:bindN (fnSc 1703) ["many","waiting"] [v0,v1] [xa,xb,xc,xd,xe,xf] Q=Q [xa,some v0,some v1,xd,xe,xf]:=by kernel_rfl
theorem w1704:callN T (d+1) (K 1704) [xa,xb] st Q=code d 1704 [] 0 [some xa,some xb,none,none,none] st (fun _ st=>Q .none st) Q:=by kernel_rfl
theorem Jf9:code d 1704 [] 0 [some xa,some xb,xc,xd,xe] st kn kr=(attrV T xa "made" st fun v1 s2=>cmpV .Eq xb v1 s2 fun b3=>bothP b3 (attrV T xa "changes" s2 fun v4 s5=>methQ d v4 "append" s5 (fun k6=>2≤60∧k6 [(.tup [(.str "made"),xb])] s5) fun v7 s8=>binV .Add xb (.int 1) s8 fun v9 s10=>setAttrV T xa "made" v9 s10 fun s11=>methQ d xa "node" s11 (fun k12=>k12 [xb] s11) fun v13 s14=>attrV T xa "known" s14 fun v15 s16=>cmpV .NotIn v13 v15 s16 fun b17=>bothP b17 (attrV T xa "changes" s16 fun v18 s19=>methQ d v18 "append" s19 (fun k20=>2≤60∧k20 [(.tup [(.str "known"),v13])] s19) fun v21 s22=>superQ d 1704 xa "look_at" s22 (fun k23=>k23 [xb] s22) fun v24 s25=>kn [some xa,some xb,some v13,xd,xe] s25) (superQ d 1704 xa "look_at" s16 (fun k26=>k26 [xb] s16) fun v27 s28=>kn [some xa,some xb,some v13,xd,xe] s28)) (methQ d xa "node" s2 (fun k29=>k29 [xb] s2) fun v30 s31=>attrV T xa "known" s31 fun v32 s33=>cmpV .NotIn v30 v32 s33 fun b34=>bothP b34 (attrV T xa "changes" s33 fun v35 s36=>methQ d v35 "append" s36 (fun k37=>2≤60∧k37 [(.tup [(.str "known"),v30])] s36) fun v38 s39=>superQ d 1704 xa "look_at" s39 (fun k40=>k40 [xb] s39) fun v41 s42=>kn [some xa,some xb,some v30,xd,xe] s42) (superQ d 1704 xa "look_at" s33 (fun k43=>k43 [xb] s33) fun v44 s45=>kn [some xa,some xb,some v30,xd,xe] s45))):=by kernel_rfl
theorem w1705:callN T (d+1) (K 1705) [xa,xb,xc,xd] st Q=code d 1705 [] 0 [some xa,some xb,some xc,some xd,none,none,none,none,none,none] st (fun _ st=>Q .none st) Q:=by kernel_rfl
theorem w1705_0:code d 1705 [] 0 [some xa,some xb,some xc,some xd,xe,xf,xg,xh,xi,xj] st kn kr=(2≤60∧methQ d xa "find" st (fun k1=>k1 [xb] st) fun v2 s3=>methQ d xa "find" s3 (fun k4=>k4 [xc] s3) fun v5 s6=>alloc (.list [v2,v5]) s6 fun v7 s8=>fnV .sorted [v7] s8 fun v9 s10=>itemsV v9 s10 fun l11=>bindN (fnSc 1705) ["kept","gone"] l11 [some xa,some xb,some xc,some xd,xe,xf,xg,xh,xi,xj] fun l12=>code d 1705 [] 1 l12 s10 kn kr):=by kernel_rfl
theorem w1705_1:code d 1705 [] 1 [some xa,some xb,some xc,some xd,some xe,some xf,xg,xh,xi,xj] st kn kr=(attrV T xa "changes" st fun v1 s2=>methQ d v1 "append" s2 (fun k3=>5≤60∧attrV T xa "above" s2 fun v6 s7=>subV v6 xe s7 fun v8 s9=>fnV .len [v8] s9 fun v10 s11=>attrV T xa "above" s11 fun v12 s13=>subV v12 xf s13 fun v14 s15=>k3 [(.tup [(.str "edge"),xe,v10,xf,v14])] s15) fun v4 s5=>superQ d 1705 xa "join" s5 (fun k16=>k16 [xb,xc,xd] s5) fun v17 s18=>kr v17 s18):=by kernel_rfl
theorem Jf8 {v0:V} {v1:V} {Q:Loc→Prop}:bindN (fnSc 1705) ["kept","gone"] [v0,v1] [xa,xb,xc,xd,xe,xf,xg,xh,xi,xj] Q=Q [xa,xb,xc,xd,some v0,some v1,xg,xh,xi,xj]:=by kernel_rfl
theorem w1706:callN T (d+1) (K 1706) [xa,xb] st Q=code d 1706 [] 0 [some xa,some xb,none,none,none] st (fun _ st=>Q .none st) Q:=by kernel_rfl
theorem w1706_0:code d 1706 [] 0 [some xa,some xb,xc,xd,xe] st kn kr=(attrV T xa "bank" st fun v1 s2=>methQ d v1 "kids" s2 (fun k3=>k3 [xb] s2) fun v4 s5=>srcV v4 s5 fun r6=>(r6).own=false∧compL (scAt 1706 0) (r6) (.one "kid") (ifs d 1706 0 22) (elt d 1706 0 22) [none,none,some xa] (r6).all [] s5 fun l7 s8=>alloc (.list l7) s8 fun v9 s10=>sortedSetV v9 s10 fun v11 s12=>srcV v11 s12 fun r13=>pairOk (r13) (.one "c")∧cForL (fnSc 1706) (r13) (.one "c") (code d 1706 [0] 0) (r13).all [some xa,some xb,xc,xd,xe] s12 (fun l s=>code d 1706 [] 1 l s kn kr) kr):=by kernel_rfl
theorem Jf7:code d 1706 [0] 0 [some xa,some xb,some xc,xd,xe] st kn kr=(attrV T xa "above" st fun v1 s2=>subV v1 xc s2 fun v3 s4=>methQ d v3 "pop" s4 (fun k5=>k5 [] s4) fun v6 s7=>kn [some xa,some xb,some xc,xd,xe] s7):=by kernel_rfl
theorem w1706_1:code d 1706 [] 1 [some xa,some xb,xc,xd,xe] st kn kr=(attrV T xa "above" st fun v1 s2=>delItemV v1 xb s2 fun s3=>attrV T xa "unions" s3 fun v4 s5=>methQ d v4 "cut" s5 (fun k6=>k6 [xb] s5) fun v7 s8=>attrV T xa "bank" s8 fun v9 s10=>methQ d v9 "cut" s10 (fun k11=>k11 [xb] s10) fun v12 s13=>setAttrV T xa "made" xb s13 fun s14=>kn [some xa,some xb,xc,xd,xe] s14):=by kernel_rfl
theorem Jjg:elt d 1706 0 22 [xa,some xb,some xc] st Q=(methQ d xc "find" st (fun k1=>k1 [xb] st) fun v2 s3=>Q v2 s3):=by kernel_rfl
theorem Jjf {l:Loc} {Q:Bool→St→Prop}:ifs d 1706 0 22 l st Q=(Q true st):=by kernel_rfl
theorem Jjh {y_self:V} {v:V} {Q:Loc→Prop}:bindT (scAt 1706 0) (.one "kid") v [xa,xb,some y_self] st Q=Q [xa,some v,some y_self]:=by kernel_rfl
theorem Jf6 {v:V} {Q:Loc→Prop}:bindT (fnSc 1706) (.one "c") v [xa,xb,xc,xd,xe] st Q=Q [xa,xb,some v,xd,xe]:=by kernel_rfl
theorem w1707:callN T (d+1) (K 1707) [xa,xb] st Q=code d 1707 [] 0 [some xa,some xb,none,none,none,none,none,none] st (fun _ st=>Q .none st) Q:=by kernel_rfl
theorem Jf5:code d 1707 [] 0 [some xa,some xb,xc,xd,xe,xf,xg,xh] st kn kr=(itemsV xb st fun l1=>bindN (fnSc 1707) ["kind","kept","many","gone","users"] l1 [some xa,some xb,xc,xd,xe,xf,xg,xh] fun l2=>code d 1707 [] 1 l2 st kn kr):=by kernel_rfl
theorem Jf4:code d 1707 [] 1 [some xa,some xb,some xc,some xd,some xe,some xf,some xg,xh] st kn kr=(attrV T xa "edges" st fun v1 s2=>methQ d v1 "pop" s2 (fun k3=>k3 [] s2) fun v4 s5=>cmpV .NotEq xd xf s5 fun b6=>bothP b6 (attrV T xa "forest" s5 fun v7 s8=>methQ d v7 "pop" s8 (fun k9=>k9 [] s8) fun v10 s11=>attrV T xa "unions" s11 fun v12 s13=>methQ d v12 "back" s13 (fun k14=>attrV T xa "unions" s13 fun v17 s18=>attrV T v17 "merged" s18 fun v19 s20=>fnV .len [v19] s20 fun v21 s22=>binV .Sub v21 (.int 1) s22 fun v23 s24=>k14 [v23] s24) fun v15 s16=>attrV T xa "above" s16 fun v25 s26=>subV v25 xd s26 fun v27 s28=>takeV v27 xe s28 fun v29 s30=>attrV T xa "above" s30 fun v31 s32=>setItemV v31 xd v29 s32 fun s33=>attrV T xa "above" s33 fun v34 s35=>setItemV v34 xf xg s35 fun s36=>kn [some xa,some xb,some xc,some xd,some xe,some xf,some xg,xh] s36) (kn [some xa,some xb,some xc,some xd,some xe,some xf,some xg,xh] s5)):=by kernel_rfl
theorem Jbb {v0:V} {v1:V} {v2:V} {v3:V} {v4:V} {Q:Loc→Prop}:bindN (fnSc 1707) ["kind","kept","many","gone","users"] [v0,v1,v2,v3,v4] [xa,xb,xc,xd,xe,xf,xg,xh] Q=Q [xa,xb,some v0,some v1,some v2,some v3,some v4,xh]:=by kernel_rfl
end Mine
namespace Mine
structure G where
 st:St
 κ:Nat→Nat×Nat
noncomputable def G.push (g:G) (o:O) (q:Nat×Nat):G:=⟨g.st.push o,fun x=>if x=g.st.size then q else g.κ x⟩
noncomputable def G.set (g:G) (x:Nat) (o:O):G:=⟨g.st.set x o,g.κ⟩
noncomputable def At (g:G) (q:Nat×Nat) (x:Nat) (o:O):Prop:=g.κ x=q∧g.st.get x=some o
noncomputable def Fx (g:G) (n:Nat) (o:O):Prop:=At g (n,0) n o
noncomputable def Fr (W:List Nat) (g g':G):Prop:=g.st.size≤g'.st.size∧∀x,x<g.st.size→g'.κ x=g.κ x∧((g.κ x).1∉W→g'.st.get x=g.st.get x)
theorem get_lt {s:St} {x:Nat} {o:O} (h:s.get x=some o):x<s.size:=(Array.getElem?_eq_some_iff.mp h).1
theorem At.lt {g:G} {q:Nat×Nat} {x:Nat} {o:O} (h:At g q x o):x<g.st.size:=get_lt h.2
theorem At.fr (h:At g q x o) (f:Fr W g g') (n:q.1∉W:=by first|decide|(dsimp only;decide)):At g' q x o:=
 have e:=f.2 x h.lt
 ⟨e.1.trans h.1,(e.2 (by rw[h.1];exact n)).trans h.2⟩
theorem Fx.fr (h:Fx g x o) (f:Fr W g g') (n:x∉W:=by decide):Fx g' x o:=At.fr h f n
theorem Fr.refl:Fr W g g:=⟨Nat.le_refl _,fun _ _=>⟨rfl,fun _=>rfl⟩⟩
theorem Fr.trans (f:Fr W a b) (f':Fr W' b c) (s:W' ⊆ W:=by decide):Fr W a c:=
 ⟨Nat.le_trans f.1 f'.1,fun x h=>by
  have e:=f.2 x h
  have e':=f'.2 x (Nat.lt_of_lt_of_le h f.1)
  exact⟨e'.1.trans e.1,fun n=>(e'.2 (fun m=>n (s (e.1▸m)))).trans (e.2 n)⟩⟩
theorem Fr.mono (f:Fr W' a b) (s:W' ⊆ W:=by decide):Fr W a b:=Fr.refl.trans f s
theorem St.get_push {s:St} {o:O} {x:Nat} (h:x<s.size):(s.push o).get x=s.get x:=by
 show (s.objs.push o)[x]?=s.objs[x]?
 rw[Array.getElem?_push];exact if_neg (Nat.ne_of_lt h)
theorem St.get_push_new {s:St} {o:O}:(s.push o).get s.size=some o:=by
 show (s.objs.push o)[s.objs.size]?=some o
 rw[Array.getElem?_push];exact if_pos rfl
theorem St.size_push {s:St} {o:O}:(s.push o).size=s.size+1:=Array.size_push ..
theorem St.size_set {s:St} {x:Nat} {o:O}:(s.set x o).size=s.size:=Array.size_setIfInBounds ..
theorem St.get_set {s:St} {x y:Nat} {o:O} (h:x≠y):(s.set x o).get y=s.get y:=by
 show (s.objs.setIfInBounds x o)[y]?=s.objs[y]?
 rw[Array.getElem?_setIfInBounds,if_neg h]
theorem St.get_set_same {s:St} {x:Nat} {o:O} (h:x<s.size):(s.set x o).get x=some o:=by
 show (s.objs.setIfInBounds x o)[x]?=some o
 rw[Array.getElem?_setIfInBounds,if_pos rfl];exact if_pos h
theorem Fr.push {g:G} {o:O} {q:Nat×Nat}:Fr [] g (g.push o q):=
 ⟨by show g.st.size≤(g.st.push o).size;rw[St.size_push];exact Nat.le_succ _,fun x h=>⟨if_neg (Nat.ne_of_lt h),fun _=>St.get_push h⟩⟩
theorem At.push {g:G} {o:O} {q:Nat×Nat}:At (g.push o q) q g.st.size o:=⟨if_pos rfl,St.get_push_new⟩
theorem At.set {g:G} {x:Nat} {o:O} {q:Nat×Nat} {o':O} (h:At g q x o'):At (g.set x o) q x o:=⟨h.1,St.get_set_same h.lt⟩
theorem At.ne (h:At g q x o) (h':At g q' y o') (n:q≠q'):x≠y:=fun e=>n (by rw[←h.1,e,h'.1])
noncomputable def natL (l:List Nat):List V:=l.map fun (n:Nat)=>V.int n
noncomputable abbrev N (n:Nat):V:=.int n
structure Node where
 op:Str
 kids:List Nat
deriving DecidableEq
noncomputable def Node.v (x:Node):V:=.tup (.str x.op::natL x.kids)
variable {g:G} {Q:KV} {q:Nat×Nat} {x:Nat} {d:Nat}
theorem Jiv (q:Nat×Nat) (h:Q (.ref g.st.size) (g.push o q).st):alloc o g.st Q:=h
theorem Js (h:At g q x (.inst C fs)) (h1:T.fld C a=true) (h2:fget fs a=some v) (k:Q v g.st):attrV T (.ref x) a g.st Q:=
 ⟨x,C,fs,v,rfl,h.2,h1,h2,k⟩
theorem Wt (h:At g q x (.inst C fs)) (h1:fget fs m=none) (h2:T.meth C m=some p)
  (k:A fun vs st=>callN T d p (.ref x::vs) st Q):methQ d (.ref x) m g.st A Q:=.inl ⟨x,C,fs,p,rfl,h.2,h1,h2,k⟩
theorem methL (h:At g q x (.list xs)) (h1:mfOf m=some b) (h2:mid .list b=some s)
  (k:A fun vs st=>methV .list b (.ref x) vs st Q):methQ d (.ref x) m g.st A Q:=.inr ⟨.list,b,s,h1,h2,⟨x,xs,rfl,h.2⟩,k⟩
theorem methD (h:At g q x (.dict es n)) (h1:mfOf m=some b) (h2:mid .dict b=some s)
  (k:A fun vs st=>methV .dict b (.ref x) vs st Q):methQ d (.ref x) m g.st A Q:=.inr ⟨.dict,b,s,h1,h2,⟨x,es,n,rfl,h.2⟩,k⟩
theorem methS (h1:mfOf m=some b) (h2:mid .str b=some s)
  (k:A fun vs st=>methV .str b (.str t) vs st Q):methQ d (.str t) m g.st A Q:=.inr ⟨.str,b,s,h1,h2,⟨t,rfl⟩,k⟩
theorem Qp {s:St} {x:Nat} {o:O} (h:s.get x=some o) (n:x≠0):s.getM x=some o:=by
 cases x with
 |zero=>exact absurd rfl n
 |succ x=>exact h
theorem Jco (h:At g q x (.list xs)) (n:x≠0) (hl:xs.length<cap) (k:Q .none (g.set x (.list (xs++[v]))).st):methV .list .append (.ref x) [v] g.st Q:=
 ⟨x,xs,rfl,Qp h.2 n,hl,v,rfl,k⟩
theorem pop_at (h:At g q x (.list xs)) (n:x≠0) (hl:xs.length<cap) (e:xs=ys++[v]) (k:Q v (g.set x (.list ys)).st):methV .list .pop (.ref x) [] g.st Q:=
 ⟨x,xs,rfl,Qp h.2 n,hl,v,ys,rfl,e,k⟩
theorem Jh7 (h:At g q x (.list xs)) (h':At g q' y (.list ys)) (n:x≠0) (hl:xs.length+ys.length<cap)
  (k:Q .none (g.set x (.list (xs++ys))).st):methV .list .extend (.ref x) [.ref y] g.st Q:=
 ⟨x,xs,rfl,Qp h.2 n,by exact Nat.lt_of_add_right_lt hl,y,ys,rfl,h'.2,hl,k⟩
theorem Jfd (h:At g q x (.dict es n)) (hn:x≠0) (hl:es.length<cap) (hk:keysOk a es) (k:Q ((dget es a).getD b) g.st) :
  methV .dict .get (.ref x) [a,b] g.st Q:=⟨x,es,n,a,rfl,Qp h.2 hn,hl,hk,b,rfl,k⟩
theorem Jfc (h:At g q x (.dict es n)) (hn:x≠0) (hl:es.length<cap) (hk:keysOk a es) (hv:dget es a=some v)
  (k:Q v (g.set x (.dict (ddel es a) (n+1))).st):methV .dict .pop (.ref x) [a] g.st Q:=⟨x,es,n,a,rfl,Qp h.2 hn,hl,hk,v,rfl,hv,k⟩
theorem X5 (h:At g q x (.dict es n)) (hn:x≠0) (hl:es.length<cap) (hk:keysOk a es) (hv:dget es a=some v)
  (k:Q v g.st):methV .dict .setdefault (.ref x) [a,b] g.st Q:=⟨x,es,n,a,rfl,Qp h.2 hn,hl,hk,b,rfl,by rw[hv];exact k⟩
theorem Jew (h:At g q x (.dict es n)) (hn:x≠0) (hl:es.length<cap) (hk:keysOk a es) (hv:dget es a=none)
  (k:Q b (g.set x (.dict (es++[(a,b)]) (n+1))).st):methV .dict .setdefault (.ref x) [a,b] g.st Q:=⟨x,es,n,a,rfl,Qp h.2 hn,hl,hk,b,rfl,by rw[hv];exact k⟩
theorem Je0 {Q:St→Prop} (h:At g q x (.inst C fs)) (n:x≠0) (h1:T.fld C a=true) (hl:fs.length<64) (k:Q (g.set x (.inst C (fput fs a v))).st) :
  setAttrV T (.ref x) a v g.st Q:=⟨x,C,fs,rfl,Qp h.2 n,h1,hl,k⟩
theorem Zd {Q:Nat→Prop} (h:i<n) (hn:n≤2 ^ 40) (k:Q i):idx n (i:Int) Q:=by
 refine⟨by omega,i,?_,k⟩
 have e:¬((i:Int)<0):=by omega
 have e':(0:Int)≤i∧(i:Int)<n:=by omega
 simp [seqIndex?,e,e',h]
theorem Jm (h:At g q x (.list xs)) (hi:xs[i]?=some v) (hl:xs.length<cap) (k:Q v g.st):subV (.ref x) (N i) g.st Q:=
 .inl ⟨xs,h.2,Zd (List.getElem?_eq_some_iff.mp hi).1 (by unfold cap at hl;exact leK (Nat.le_of_lt hl)) ⟨v,hi,k⟩⟩
theorem Jq {xs:List V} {i:Nat} {v:V} {st:St} (hi:xs[i]?=some v) (hl:xs.length<cap) (k:Q v st):subV (.tup xs) (N i) st Q:=
 Zd (List.getElem?_eq_some_iff.mp hi).1 (by unfold cap at hl;exact leK (Nat.le_of_lt hl)) ⟨v,hi,k⟩
theorem Jn (h:At g q x (.dict es n)) (hk:keysOk a es) (hv:dget es a=some v) (k:Q v g.st):subV (.ref x) a g.st Q:=
 .inr ⟨es,n,v,h.2,hk,hv,k⟩
theorem Jbn {Q:St→Prop} (h:At g q x (.list xs)) (n:x≠0) (hi:i<xs.length) (hl:xs.length<cap) (k:Q (g.set x (.list (xs.set i v))).st) :
  setItemV (.ref x) (N i) v g.st Q:=.inl ⟨x,xs,i,rfl,Qp h.2 n,rfl,Zd hi (by unfold cap at hl;exact leK (Nat.le_of_lt hl)) k⟩
theorem Jbo {Q:St→Prop} (h:At g q x (.dict es n)) (hn:x≠0) (hk:keysOk a es) (hl:es.length<cap)
  (k:Q (g.set x (.dict (dput es a v) (dep es a n))).st):setItemV (.ref x) a v g.st Q:=.inr ⟨x,es,n,rfl,Qp h.2 hn,⟨hk,hl⟩,k⟩
theorem Jcc {Q:St→Prop} (h:At g q x (.dict es n)) (hn:x≠0) (hk:keysOk a es) (hl:es.length<cap) (hv:dget es a=some v)
  (k:Q (g.set x (.dict (ddel es a) (n+1))).st):delItemV (.ref x) a g.st Q:=⟨x,es,n,v,rfl,Qp h.2 hn,⟨hk,hl⟩,hv,k⟩
theorem Jdk {Q:St→Prop} (h:At g q x (.list xs)) (n:x≠0) (hl:xs.length<cap) (k:Q (g.set x (.list (xs.take i))).st) :
  delSliceV (.ref x) (N i) g.st Q:=⟨x,xs,i,rfl,Qp h.2 n,rfl,⟨by exact Int.natCast_nonneg _,hl⟩,k⟩
theorem Je (h:At g q x (.list xs)) (hl:xs.length<cap) (k:Q (N xs.length) g.st):fnV .len [.ref x] g.st Q:=⟨_,rfl,xs,h.2,hl,k⟩
theorem Qz (h:At g q x (.list xs)) (hl:xs.length<cap) (k:Q (.tup xs) g.st):fnV .tuple [.ref x] g.st Q:=⟨_,rfl,xs,h.2,hl,k⟩
theorem Jbz (h:At g q x (.list xs)) (hl:xs.length<cap) (k:alloc (.list xs) g.st Q):fnV .list [.ref x] g.st Q:=⟨x,xs,rfl,h.2,hl,k⟩
theorem Xf (h:At g q x (.list (intL is))) (hl:is.length<60) (k:alloc (.list (intL (sortInts is))) g.st Q):fnV .sorted [.ref x] g.st Q:=⟨x,is,rfl,.inl h.2,hl,k⟩
theorem Y0 (h:At g q x (.dict es n)) (e:es.map (·.1)=intL is) (hl:is.length<60) (k:alloc (.list (intL (sortInts is))) g.st Q) :
  fnV .sorted [.ref x] g.st Q:=⟨x,is,rfl,.inr ⟨es,n,h.2,e⟩,hl,k⟩
theorem Wz {xs:List V} {n:Nat} {st:St} (h:1≤n∧n≤xs.length∧xs.length<cap) (k:Q (.tup (xs.drop n)) st):dropV (.tup xs) (N n) st Q:=
 ⟨xs,n,rfl,rfl,⟨by exact iK' h.1,by omega,h.2.2⟩,k⟩
theorem Jg3 (h:At g q x (.list xs)) (hl:xs.length<cap) (k:alloc (.list (xs.take n)) g.st Q):takeV (.ref x) (N n) g.st Q:=
 ⟨x,xs,n,rfl,rfl,h.2,⟨by exact Int.natCast_nonneg _,hl⟩,k⟩
theorem rev_at (h:At g q x (.list xs)) (hl:xs.length<cap) (k:alloc (.list xs.reverse) g.st Q):revV (.ref x) g.st Q:=⟨x,xs,rfl,h.2,hl,k⟩
theorem addT {a b:List V} {st:St} (hl:a.length+b.length<cap) (k:Q (.tup (a++b)) st):binV .Add (.tup a) (.tup b) st Q:=⟨hl,k⟩
theorem addN {a b:Nat} {st:St} (hl:a+b<2 ^ 60) (k:Q (N (a+b)) st):binV .Add (N a) (N b) st Q:=⟨by unfold small;exact Nat.lt_of_lt_of_le (show Int.natAbs ((a:Int)+b)<2 ^ 60 by rw[←Int.natCast_add];exact hl) (by decide),by rw[←Int.natCast_add];exact k⟩
theorem addL (h:At g q x (.list xs)) (h':At g q' y (.list ys)) (hl:xs.length+ys.length<cap)
  (k:alloc (.list (xs++ys)) g.st Q):binV .Add (.ref x) (.ref y) g.st Q:=⟨xs,ys,h.2,h'.2,hl,k⟩
theorem subN {a b:Nat} {st:St} (hl:b≤a) (k:Q (N (a - b)) st):binV .Sub (N a) (N b) st Q:=by
 show Q (.int ((a:Int) - b)) st
 rw[show (a:Int) - b=((a - b:Nat):Int) by exact(Int.ofNat_sub hl).symm]
 exact k
theorem eqI {a b:Int} {st:St} {Q:Bool→Prop} (k:Q (decide (a=b))):cmpV .Eq (.int a) (.int b) st Q:=by
 refine⟨⟨rfl,rfl⟩,?_⟩
 rw[show decide (V.int a=V.int b)=decide (a=b) from decide_eq_decide.mpr ⟨fun e=>by injection e,fun e=>by rw[e]⟩]
 exact k
theorem neI {a b:Int} {st:St} {Q:Bool→Prop} (k:Q (!decide (a=b))):cmpV .NotEq (.int a) (.int b) st Q:=eqI (Q:=fun r=>Q (!r)) k
theorem eqN {a b:Nat} {st:St} {Q:Bool→Prop} (k:Q (decide (a=b))):cmpV .Eq (N a) (N b) st Q:=
 eqI (by rw[show decide ((a:Int)=b)=decide (a=b) from decide_eq_decide.mpr (by omega)];exact k)
theorem neN {a b:Nat} {st:St} {Q:Bool→Prop} (k:Q (!decide (a=b))):cmpV .NotEq (N a) (N b) st Q:=eqN (Q:=fun r=>Q (!r)) k
theorem ltN {a b:Nat} {st:St} {Q:Bool→Prop} (k:Q (decide (a<b))):cmpV .Lt (N a) (N b) st Q:=by
 show Q (decide ((a:Int)<b))
 rw[show decide ((a:Int)<b)=decide (a<b) from decide_eq_decide.mpr (by omega)];exact k
theorem gtN {a b:Nat} {st:St} {Q:Bool→Prop} (k:Q (decide (b<a))):cmpV .Gt (N a) (N b) st Q:=by
 show Q (decide ((a:Int)>b))
 rw[show decide ((a:Int)>b)=decide (b<a) from decide_eq_decide.mpr (by omega)];exact k
theorem geN {a b:Nat} {st:St} {Q:Bool→Prop} (k:Q (decide (b≤a))):cmpV .GtE (N a) (N b) st Q:=by
 show Q (decide ((a:Int)≥b))
 rw[show decide ((a:Int)≥b)=decide (b≤a) from decide_eq_decide.mpr (by omega)];exact k
theorem leN {a b:Nat} {st:St} {Q:Bool→Prop} (k:Q (decide (a≤b))):cmpV .LtE (N a) (N b) st Q:=by
 show Q (decide ((a:Int)≤b))
 rw[show decide ((a:Int)≤b)=decide (a≤b) from decide_eq_decide.mpr (by omega)];exact k
theorem Jdd {Q:Bool→Prop} (h:At g q x (.dict es n)) (hk:keysOk a es) (k:Q (dget es a).isSome):cmpV .In a (.ref x) g.st Q:=
 .inr ⟨es,n,h.2,hk,k⟩
theorem Z4 {Q:Bool→Prop} (h:At g q x (.dict es n)) (hk:keysOk a es) (k:Q !(dget es a).isSome):cmpV .NotIn a (.ref x) g.st Q:=
 Jdd (Q:=fun r=>Q (!r)) h hk k
theorem in_t {Q:Bool→Prop} (h:At g q x (.dict es n)) (hk:keysOk a es) (hv:dget es a=some v) (k:Q true):cmpV .In a (.ref x) g.st Q:=
 Jdd h hk (by rw[hv];exact k)
theorem in_f {Q:Bool→Prop} (h:At g q x (.dict es n)) (hk:keysOk a es) (hv:dget es a=none) (k:Q false):cmpV .In a (.ref x) g.st Q:=
 Jdd h hk (by rw[hv];exact k)
theorem Jk2 {Q:Bool→Prop} (h:At g q x (.dict es n)) (hk:keysOk a es) (hv:dget es a=some v) (k:Q false):cmpV .NotIn a (.ref x) g.st Q:=
 Z4 h hk (by rw[hv];exact k)
theorem nin_f {Q:Bool→Prop} (h:At g q x (.dict es n)) (hk:keysOk a es) (hv:dget es a=none) (k:Q true):cmpV .NotIn a (.ref x) g.st Q:=
 Z4 h hk (by rw[hv];exact k)
theorem bT (h:P):bothP true P R:=h
theorem bF (h:R):bothP false P R:=h
theorem bD [Decidable c] (hP:c→P) (hR:¬c→R):bothP (decide c) P R:=by
 by_cases h:c
 ·rw[decide_eq_true h];exact hP h
 ·rw[decide_eq_false h];exact hR h
theorem bDn [Decidable c] (hP:¬c→P) (hR:c→R):bothP (!decide c) P R:=by
 by_cases h:c
 ·rw[decide_eq_true h];exact hR h
 ·rw[decide_eq_false h];exact hP h
theorem bothT (hP:b=true→P) (hR:b=false→R):bothP b P R:=by
 cases b with
 |true=>exact hP rfl
 |false=>exact hR rfl
theorem rangeN {Q:Int→Int→Prop} (h:n<cap) (k:Q 0 n):rangeV [N n] Q:=.inl ⟨n,rfl,⟨by unfold cap at *;exact iK' h,by unfold cap;exact iN⟩,k⟩
theorem enum_at {Q:Src→Prop} (h:At g q x (.list xs)) (k:Q (.enum x xs)):enumV [.ref x] g.st Q:=⟨x,xs,rfl,h.2,k⟩
theorem Jy {Q:Src→Prop} (h:At g q x (.list xs)) (k:Q (.list x xs)):srcV (.ref x) g.st Q:=.inl ⟨xs,h.2,k⟩
theorem Jkd {Q:Src→Prop} (h:At g q x (.dict es n)) (e:es.map (·.1)=intL is) (k:Q (.dict x es n)):srcV (.ref x) g.st Q:=.inr ⟨es,n,is,h.2,e,k⟩
theorem Yb {Q:List V→Prop} (h:At g q x (.list xs)) (k:Q xs):itemsV (.ref x) g.st Q:=⟨xs,h.2,k⟩
structure Ch (x:Nat) (g g':G):Prop where
 κ:g'.κ=g.κ
 size:g'.st.size=g.st.size
 get:∀y,y≠x→g'.st.get y=g.st.get y
theorem Ch.set:Ch x g (g.set x o):=⟨rfl,St.size_set,fun _ n=>St.get_set n.symm⟩
theorem Ch.fr (c:Ch x g g') (h:At g q x o):Fr [q.1] g g':=
 ⟨Nat.le_of_eq c.size.symm,fun y _=>⟨by rw[c.κ],fun n=>c.get y fun e=>n (by rw[e,h.1];exact List.mem_singleton.mpr rfl)⟩⟩
theorem Ch.own (c:Ch x g g') (f:Fr W g₀ g) (n:g₀.st.size≤x):Fr W g₀ g':=
 ⟨c.size▸f.1,fun y h=>⟨by rw[c.κ];exact(f.2 y h).1,fun m=>(c.get y (Nat.ne_of_lt (Nat.lt_of_lt_of_le h n))).trans ((f.2 y h).2 m)⟩⟩
theorem At.ch (h:At g q y o) (c:Ch x g g') (n:y≠x):At g' q y o:=⟨by rw[c.κ];exact h.1,(c.get y n).trans h.2⟩
theorem Jj (q:Nat×Nat) (k:∀g' y,y=g.st.size→Fr [] g g'→At g' q y o→Q (.ref y) g'.st):alloc o g.st Q:=k (g.push o q) _ rfl Fr.push At.push
theorem X4 (h:At g q x (.list xs)) (n:x≠0) (hl:xs.length<cap) (k:∀g',Ch x g g'→At g' q x (.list (xs++[v]))→Q .none g'.st) :
  methQ d (.ref x) "append" g.st (fun k=>k [v] g.st) Q:=methL h (b:=.append) (s:="list.append") (by kernel_rfl) rfl (Jco h n hl (k _ Ch.set (At.set h)))
theorem Jz (h:At g q x (.list xs)) (n:x≠0) (hl:xs.length<cap) (k:∀g',Ch x g g'→At g' q x (.list (xs++[v]))→Q .none g'.st) :
  methV .list .append (.ref x) [v] g.st Q:=Jco h n hl (k _ Ch.set (At.set h))
theorem methA (h:At g q x (.list xs)) (k:A fun vs st=>methV .list .append (.ref x) vs st Q):methQ d (.ref x) "append" g.st A Q:=
 methL h (b:=.append) (s:="list.append") (by kernel_rfl) rfl k
theorem X7 (h:At g q x (.list xs)) (n:x≠0) (hl:xs.length<cap) (e:xs=ys++[v]) (k:∀g',Ch x g g'→At g' q x (.list ys)→Q v g'.st) :
  methQ d (.ref x) "pop" g.st (fun k=>k [] g.st) Q:=methL h (b:=.pop) (s:="list.pop") (by kernel_rfl) rfl (pop_at h n hl e (k _ Ch.set (At.set h)))
theorem methE (h:At g q x (.list xs)) (k:A fun vs st=>methV .list .extend (.ref x) vs st Q):methQ d (.ref x) "extend" g.st A Q:=
 methL h (b:=.extend) (s:="list.extend") (by kernel_rfl) rfl k
theorem Jef (h:At g q x (.list xs)) (h':At g q' y (.list ys)) (n:x≠0) (hl:xs.length+ys.length<cap)
  (k:∀g',Ch x g g'→At g' q x (.list (xs++ys))→Q .none g'.st):methV .list .extend (.ref x) [.ref y] g.st Q:=Jh7 h h' n hl (k _ Ch.set (At.set h))
theorem Jl6 (h:At g q x (.dict es n)) (k:A fun vs st=>methV .dict .pop (.ref x) vs st Q):methQ d (.ref x) "pop" g.st A Q:=
 methD h (b:=.pop) (s:="dict.pop") (by kernel_rfl) rfl k
theorem methG (h:At g q x (.dict es n)) (k:A fun vs st=>methV .dict .get (.ref x) vs st Q):methQ d (.ref x) "get" g.st A Q:=
 methD h (b:=.get) (s:="dict.get") (by kernel_rfl) rfl k
theorem methSd (h:At g q x (.dict es n)) (k:A fun vs st=>methV .dict .setdefault (.ref x) vs st Q):methQ d (.ref x) "setdefault" g.st A Q:=
 methD h (b:=.setdefault) (s:="dict.setdefault") (by kernel_rfl) rfl k
theorem Jb9 (h:At g q x (.dict es n)) (hn:x≠0) (hl:es.length<cap) (hk:keysOk a es) (hv:dget es a=some v)
  (k:∀g',Ch x g g'→At g' q x (.dict (ddel es a) (n+1))→Q v g'.st):methV .dict .pop (.ref x) [a] g.st Q:=Jfc h hn hl hk hv (k _ Ch.set (At.set h))
theorem Jan (h:At g q x (.dict es n)) (hn:x≠0) (hl:es.length<cap) (hk:keysOk a es) (hv:dget es a=none)
  (k:∀g',Ch x g g'→At g' q x (.dict (es++[(a,b)]) (n+1))→Q b g'.st):methV .dict .setdefault (.ref x) [a,b] g.st Q:=Jew h hn hl hk hv (k _ Ch.set (At.set h))
theorem Q7 {Q:St→Prop} (h:At g q x (.inst C fs)) (n:x≠0) (h1:T.fld C a=true) (hl:fs.length<64)
  (k:∀g',Ch x g g'→At g' q x (.inst C (fput fs a v))→Q g'.st):setAttrV T (.ref x) a v g.st Q:=Je0 h n h1 hl (k _ Ch.set (At.set h))
theorem Z0 {Q:St→Prop} (h:At g q x (.list xs)) (n:x≠0) (hi:i<xs.length) (hl:xs.length<cap)
  (k:∀g',Ch x g g'→At g' q x (.list (xs.set i v))→Q g'.st):setItemV (.ref x) (N i) v g.st Q:=Jbn h n hi hl (k _ Ch.set (At.set h))
theorem J2 {Q:St→Prop} (h:At g q x (.dict es n)) (hn:x≠0) (hk:keysOk a es) (hl:es.length<cap)
  (k:∀g',Ch x g g'→At g' q x (.dict (dput es a v) (dep es a n))→Q g'.st):setItemV (.ref x) a v g.st Q:=Jbo h hn hk hl (k _ Ch.set (At.set h))
theorem Jcb {Q:St→Prop} (h:At g q x (.dict es n)) (hn:x≠0) (hk:keysOk a es) (hl:es.length<cap) (hv:dget es a=some v)
  (k:∀g',Ch x g g'→At g' q x (.dict (ddel es a) (n+1))→Q g'.st):delItemV (.ref x) a g.st Q:=Jcc h hn hk hl hv (k _ Ch.set (At.set h))
theorem Yd {Q:St→Prop} (h:At g q x (.list xs)) (n:x≠0) (hl:xs.length<cap)
  (k:∀g',Ch x g g'→At g' q x (.list (xs.take i))→Q g'.st):delSliceV (.ref x) (N i) g.st Q:=Jdk h n hl (k _ Ch.set (At.set h))
theorem J1 {t:XB} {a:XS} {l:Loc} {st:St} {kn:Loc→St→Prop} {kr:KV} (I:Nat→Loc→St→Prop) (n:Nat) (h0:I n l st)
  (h:∀n l st,I n l st→t l st fun q st=>bothP q (a l st (fun l st=>∃m,m<n∧I m l st) kr) (kn l st)):cWhile t a l st kn kr:=⟨I,⟨n,h0⟩,h⟩
theorem J7 (I:List V→Loc→St→Prop)
  (hs:∀v vs l st,I (v::vs) l st→∀kn':Loc→St→Prop,(∀l st,I vs l st→kn' l st)→src.ok st∧bindT sc t v l st fun l=>body l st kn' kr)
  (he:∀l st,I [] l st→src.ok st∧kn l st):∀vs l st,I vs l st→cForL sc src t body vs l st kn kr:=by
 intro l_
 induction l_ with
 |nil=>
  intro l st h
  exact he l st h
 |cons v vs ih_=>
  intro l st h
  exact hs v vs l st h _ fun l st h=>ih_ l st h
theorem X3 {sc:Scope} {src:Src} {t:Tg} {ifs:XB} {elt:X} {lo:Loc} {K:List V→St→Prop} (I:List V→List V→St→Prop)
  (hs:∀v vs acc st,I (v::vs) acc st→∀k:List V→St→Prop,(∀acc st,I vs acc st→k acc st)→src.ok st∧bindT sc t v lo st fun l=>ifs l st fun b st=>bothP b
   (elt l st fun y st=>acc.length<cap∧k (acc++[y]) st) (k acc st))
  (he:∀acc st,I [] acc st→src.ok st∧K acc st):∀vs acc st,I vs acc st→compL sc src t ifs elt lo vs acc st K:=by
 intro l_
 induction l_ with
 |nil=>
  intro acc st h
  exact he acc st h
 |cons v vs ih_=>
  intro acc st h
  exact hs v vs acc st h (fun acc st=>compL sc src t ifs elt lo vs acc st K) fun acc st h=>ih_ acc st h
end Mine
namespace Mine
theorem Ja3 {sc:Scope} {src:Src} {t:Tg} {ifs:XB} {elt:X} {lo:Loc} {K:List V→St→Prop} {W:List Nat} {g:G} (p:V→Bool) (f:V→V) (vs:List V) (hl:vs.length<cap)
  (ok:∀g',Fr W g g'→src.ok g'.st)
  (he:∀v∈vs,∀g',Fr W g g'→∀R:Bool→V→St→Prop,(∀g'',Fr W g g''→R (p v) (f v) g''.st)→
   bindT sc t v lo g'.st fun l=>ifs l g'.st fun b st=>bothP b (elt l st fun y st=>R true y st) (R false (f v) st))
  (k:∀g',Fr W g g'→K ((vs.filter p).map f) g'.st):compL sc src t ifs elt lo vs [] g.st K:=by
 refine X3 (fun r acc st=>∃a g',vs=a++r∧acc=(a.filter p).map f∧Fr W g g'∧st=g'.st) ?_ ?_ vs [] g.st ⟨[],g,rfl,rfl,Fr.refl,rfl⟩
 ·rintro v r acc _ ⟨a,g',e,rfl,fr,rfl⟩ k' hk
  refine⟨ok g' fr,?_⟩
  have hv:v∈vs:=by rw[e];simp
  have h:=he v hv g' fr (fun b y st=>bothP b (((a.filter p).map f).length<cap∧k' ((a.filter p).map f++[y]) st) (k' ((a.filter p).map f) st)) (fun g'' fr'=>by
   have hn:=hk ((a++[v]).filter p |>.map f) g''.st ⟨a++[v],g'',by rw[e];simp,rfl,fr',rfl⟩
   rw[List.filter_append,List.map_append] at hn
   cases hp:p v with
   |true=>
    refine⟨?_,?_⟩
    ·have:=List.length_filter_le p a
     have:a.length≤vs.length:=by rw[e,List.length_append];exact Nat.le_add_right _ _
     rw[List.length_map];omega
    ·simpa [hp] using hn
   |false=>simpa [bothP,hp] using hn)
  exact h
 ·rintro acc _ ⟨a,g',e,rfl,fr,rfl⟩
  rw[List.append_nil] at e
  exact⟨ok g' fr,e▸k g' fr⟩
theorem Wo {sc:Scope} {src:Src} {t:Tg} {ifs:XB} {elt:X} {lo:Loc} {K:List V→St→Prop} {W:List Nat} {g:G} (f:V→V) (vs:List V) (hl:vs.length<cap)
  (hi:∀l st (Q:Bool→St→Prop),ifs l st Q=Q true st)
  (ok:∀g',Fr W g g'→src.ok g'.st)
  (he:∀v∈vs,∀g',Fr W g g'→∀R:V→St→Prop,(∀g'',Fr W g g''→R (f v) g''.st)→bindT sc t v lo g'.st fun l=>elt l g'.st fun y st=>R y st)
  (k:∀g',Fr W g g'→K (vs.map f) g'.st):compL sc src t ifs elt lo vs [] g.st K:=by
 refine Ja3 (W:=W) (fun _=>true) f vs hl ok (fun v hv g' fr R hR=>?_) (fun g' fr=>by rw[List.filter_eq_self.mpr fun _ _=>rfl];exact k g' fr)
 have h:=he v hv g' fr (R true) hR
 have:(fun l=>ifs l g'.st fun b st=>bothP b (elt l st fun y st=>R true y st) (R false (f v) st))=fun l=>elt l g'.st fun y st=>R true y st:=by
  funext l;rw[hi];rfl
 rw[this]
 exact h
theorem Wi (l:List Nat):natL l=intL (l.map fun (n:Nat)=>(n:Int)):=(List.map_map (f:=fun (n:Nat)=>(n:Int)) (g:=V.int) (l:=l)).symm
theorem Ja:(natL l).length=l.length:=List.length_map ..
theorem Jf:natL (a++b)=natL a++natL b:=List.map_append
theorem J3 {l:List Nat} {i n:Nat} (h:l[i]?=some n):(natL l)[i]?=some (N n):=by unfold natL;rw[List.getElem?_map,h];rfl
theorem Jlh (h:intL a=intL b):a=b:=by
 induction a generalizing b with
 |nil=>cases b with|nil=>rfl|cons _ _=>injection h
 |cons x a ih=>cases b with
  |nil=>injection h
  |cons y b=>
   have h:=List.cons.inj h
   rw[ih h.2,show x=y from by injection h.1]
theorem Jk3 (h:natL a=natL b):a=b:=by
 rw[Wi,Wi] at h
 have:=Jlh h
 exact(List.map_inj_right (fun x y e=>Int.ofNat.inj e)).mp this
theorem Node.v_inj {x y:Node} (h:x.v=y.v):x=y:=by
 cases x with|mk o k=>cases y with|mk o' k'=>
 have h:V.str o::natL k=V.str o'::natL k':=by injection h
 have h:=List.cons.inj h
 rw[Jk3 h.2,show o=o' from by injection h.1]
noncomputable def OpOk (s:Str):Prop:=s∈(["a","b","c","d","f","g"]:List Str)
structure NsOk (ns:List Node):Prop where
 nodup:ns.Nodup
 kid:∀i x,ns[i]?=some x→∀k∈x.kids,k<i∧k<3
 two:∀x∈ns,x.kids.length≤2
 op:∀x∈ns,OpOk x.op
 len:ns.length≤24
noncomputable def numFrom:Nat→List Node→List (V×V)
 |_,[]=>[]
 |i,x::r=>(x.v,N i)::numFrom (i+1) r
noncomputable def numD (ns:List Node):List (V×V):=numFrom 0 ns
theorem Zr:∀i (a b:List Node),numFrom i (a++b)=numFrom i a++numFrom (i+a.length) b:=by
 intro i l_
 induction l_ generalizing i with
 |nil=>
  intro b
  exact rfl
 |cons x a ih_=>
  intro b
  show (x.v,N i)::numFrom (i+1) (a++b)=_
  rw[ih_ (i+1) b,show i+1+a.length=i+(x::a).length from by rw[List.length_cons];exact Nat.add_right_comm _ _ _]
  rfl
theorem Zq:∀i (a:List Node),(numFrom i a).length=a.length:=by
 intro i l_
 induction l_ generalizing i with
 |nil=>
  exact rfl
 |cons x a ih_=>
  exact congrArg (·+1) (ih_ (i+1))
theorem Y5:numD (ns++[x])=numD ns++[(x.v,N ns.length)]:=by
 rw[numD,Zr,Nat.zero_add];rfl
theorem Y6:(numD ns).length=ns.length:=Zq 0 ns
theorem Ji:dget (e::es) k=if e.1=k then some e.2 else dget es k:=by
 unfold dget
 rw[List.find?_cons]
 by_cases h:e.1=k
 ·rw[if_pos h,decide_eq_true h];rfl
 ·rw[if_neg h,decide_eq_false h]
theorem Wd:∀i (ns:List Node) (x:Node),x∉ns→dget (numFrom i ns) x.v=none:=by
 intro i l_
 induction l_ generalizing i with
 |nil=>
  intro _ _
  exact rfl
 |cons y ns ih_=>
  intro x h
  show dget ((y.v,N i)::numFrom (i+1) ns) x.v=none
  rw[Ji,if_neg fun e=>h (by rw[←Node.v_inj e];exact .head _)]
  exact ih_ (i+1) x fun m=>h (.tail _ m)
theorem Jca:∀i (ns:List Node) (x:Node) (j:Nat),ns.Nodup→ns[j]?=some x→dget (numFrom i ns) x.v=some (N (i+j)):=by
 intro i l_
 induction l_ generalizing i with
 |nil=>
  intro _ _ _ h
  exact Jc h
 |cons y ns ih_=>
  intro x w3_
  cases w3_ with
  |zero=>
   intro _ h
   show dget ((y.v,N i)::numFrom (i+1) ns) x.v=_
   rw[Ji,if_pos (by rw[Option.some.inj h])];rfl
  |succ j=>
   intro n h
   have n:=List.nodup_cons.mp n
   have h:ns[j]?=some x:=h
   show dget ((y.v,N i)::numFrom (i+1) ns) x.v=_
   rw[Ji,if_neg fun e=>n.1 (by rw[Node.v_inj e];exact List.mem_of_getElem? h),ih_ (i+1) x j n.2 h,show i+1+j=i+(j+1) from by exact Nat.add_right_comm _ _ _]
theorem Q4 {x:Node}:keyKind x.v=some .tup:=by
 show (if (V.str x.op::natL x.kids).all V.atom then some KK.tup else none)=_
 rw[if_pos]
 rw[List.all_cons,Bool.and_eq_true]
 exact⟨rfl,List.all_eq_true.mpr fun v h=>by obtain ⟨n,_,rfl⟩:=List.mem_map.mp h;rfl⟩
theorem Zc:∀i (ns:List Node),∀e∈numFrom i ns,keyKind e.1=some .tup:=by
 intro i l_
 induction l_ generalizing i with
 |nil=>
  intro _ h
  cases h
 |cons x ns ih_=>
  intro e h
  refine(List.mem_cons.mp h).elim (fun e_=>?_) fun h=>?_
  ·subst e_
   exact Q4
  ·exact ih_ (i+1) e h
theorem Wb {ns:List Node} {x:Node}:keysOk x.v (numD ns):=⟨.tup,Q4,Zc 0 ns⟩
theorem W0 (h:dget es k=none):dput es k v=es++[(k,v)]:=by
 induction es with
 |nil=>rfl
 |cons e es ih=>
  rw[Ji] at h
  by_cases c:e.1=k
  ·rw[if_pos c] at h;injection h
  ·rw[if_neg c] at h
   show (if e.1=k then (e.1,v)::es else e::dput es k v)=_
   rw[if_neg c,ih h];rfl
theorem Jcd (h:dget es k=none):ddel (es++[(k,v)]) k=es:=by
 induction es with
 |nil=>show List.eraseP _ [(k,v)]=[];rw[List.eraseP_cons_of_pos (by simp)]
 |cons e es ih=>
  rw[Ji] at h
  by_cases c:e.1=k
  ·rw[if_pos c] at h;injection h
  ·rw[if_neg c] at h
   show List.eraseP _ (e::(es++[(k,v)]))=_
   rw[List.eraseP_cons_of_neg (by simpa using c)]
   exact congrArg _ (ih h)
theorem Zi:dget (a++b) k=(dget a k).or (dget b k):=by
 unfold dget;rw[List.find?_append];cases List.find? _ a<;>rfl
noncomputable def bankO:O:=.inst (K 11) [("nodes",.ref 6),("numbers",.ref 7),("weights",.ref 8),("depths",.ref 9)]
structure BankB (g:G) (ns:List Node):Prop where
 o:Fx g 5 bankO
 nd:Fx g 6 (.list (ns.map Node.v))
 nu:∃n,Fx g 7 (.dict (numD ns) n)
 ws:∃ws,Fx g 8 (.list (natL ws))∧ws.length=ns.length∧∀i w,ws[i]?=some w→w<2 ^ (i+1)
 ds:∃ds,Fx g 9 (.list (natL ds))∧ds.length=ns.length∧∀i w,ds[i]?=some w→w≤i+1
theorem BankB.fr (b:BankB g ns) (f:Fr W g g') (h:5∉W∧6∉W∧7∉W∧8∉W∧9∉W:=by decide):BankB g' ns:=
 ⟨b.o.fr f h.1,b.nd.fr f h.2.1,b.nu.imp fun _ x=>x.fr f h.2.2.1,b.ws.imp fun _ x=>⟨x.1.fr f h.2.2.2.1,x.2⟩,b.ds.imp fun _ x=>⟨x.1.fr f h.2.2.2.2,x.2⟩⟩
theorem Jw {o:Fx g 5 bankO} (k:Q (.ref 6) g.st):attrV T (.ref 5) "nodes" g.st Q:=Js o (by kernel_rfl) (by kernel_rfl) k
theorem Qv {o:Fx g 5 bankO} (k:Q (.ref 7) g.st):attrV T (.ref 5) "numbers" g.st Q:=Js o (by kernel_rfl) (by kernel_rfl) k
theorem W3 {o:Fx g 5 bankO} (k:Q (.ref 8) g.st):attrV T (.ref 5) "weights" g.st Q:=Js o (by kernel_rfl) (by kernel_rfl) k
theorem Xm {o:Fx g 5 bankO} (k:Q (.ref 9) g.st):attrV T (.ref 5) "depths" g.st Q:=Js o (by kernel_rfl) (by kernel_rfl) k
theorem Jb (h:n≤1000):n<cap:=by unfold cap;exact ltK h
theorem c1101 {ns:List Node} (b:BankB g ns) (hl:ns.length≤1000) (k:Q (N ns.length) g.st):callN T (d+1) (K 1101) [.ref 5] g.st Q:=by
 refine w1101.mpr (w1101_0.mpr ?_)
 refine Jw (o:=b.o) ?_
 refine Je b.nd (by rw[List.length_map];exact Jb hl) ?_
 rw[List.length_map];exact k
theorem Ws {ns:List Node} {n:Nat} {x:Node} (h:ns[n]?=some x):(ns.map Node.v)[n]?=some x.v:=by rw[List.getElem?_map,h];rfl
theorem c1109 {g:G} {d n:Nat} {ns:List Node} {x:Node} {Q:KV} (b:BankB g ns) (hl:ns.length≤1000) (h:ns[n]?=some x) (k:Q x.v g.st):callN T (d+1) (K 1109) [.ref 5,N n] g.st Q:=by
 refine w1109.mpr (w1109_0.mpr ?_)
 refine Jw (o:=b.o) ?_
 exact Jm b.nd (Ws h) (by rw[List.length_map];exact Jb hl) k
theorem c1107 {g:G} {d n:Nat} {ns:List Node} {x:Node} {Q:KV} (b:BankB g ns) (o:NsOk ns) (h:ns[n]?=some x) (k:Q (.str x.op) g.st):callN T (d+1) (K 1107) [.ref 5,N n] g.st Q:=by
 refine w1107.mpr (w1107_0.mpr ?_)
 have:=o.len
 refine Jw (o:=b.o) ?_
 refine Jm b.nd (Ws h) (by rw[List.length_map];exact Jb (leK this)) ?_
 have:=o.two x (List.mem_of_getElem? h)
 exact Jq (i:=0) (v:=.str x.op) rfl (by rw[List.length_cons,Ja];exact Jb (ltK this)) k
theorem c1108 {g:G} {d n:Nat} {ns:List Node} {x:Node} {Q:KV} (b:BankB g ns) (o:NsOk ns) (h:ns[n]?=some x) (k:Q (.tup (natL x.kids)) g.st):callN T (d+1) (K 1108) [.ref 5,N n] g.st Q:=by
 refine w1108.mpr (w1108_0.mpr ?_)
 have:=o.len
 refine Jw (o:=b.o) ?_
 refine Jm b.nd (Ws h) (by rw[List.length_map];exact Jb (leK this)) ?_
 have:=o.two x (List.mem_of_getElem? h)
 exact Wz (n:=1) ⟨by decide,by rw[List.length_cons];exact Nat.succ_pos _,by rw[List.length_cons,Ja];exact Jb (ltK this)⟩ k
theorem Jd1 {P:Str→Prop} (h:OpOk s) (ha:P "a") (hb:P "b") (hc:P "c") (hd:P "d") (hf:P "f") (hg:P "g"):P s:=by
 rcases List.mem_cons.mp h with rfl|h
 ·exact ha
 rcases List.mem_cons.mp h with rfl|h
 ·exact hb
 rcases List.mem_cons.mp h with rfl|h
 ·exact hc
 rcases List.mem_cons.mp h with rfl|h
 ·exact hd
 rcases List.mem_cons.mp h with rfl|h
 ·exact hf
 rcases List.mem_cons.mp h with rfl|h
 ·exact hg
 ·cases h
structure OpF (s:Str):Prop where
 data:(V.str s).data=true
 ne:decide (V.str s=V.str "")=false
 ascii:s.cps.all (fun x=>decide (x<128))=true
 items:s.cps.toList.map (fun ch=>V.str ⟨#[ch]⟩)=[.str s]
 space:Txt.isspace s=false
 occ:(Builtin.Str.occurrences ("()[]{},:":Str) s 0 ("()[]{},:":Str).length 1).isEmpty=true
 len:0<s.length
 len':s.length≤2 ^ 40
 ch:s.cps[0]?=some (s.cps[0]?.getD 0)∧decide (V.str ⟨#[s.cps[0]?.getD 0]⟩=V.str "?")=false∧(V.str ⟨#[s.cps[0]?.getD 0]⟩).data=true
theorem opF (h:OpOk s):OpF s:=by
 refine Jd1 h ?_ ?_ ?_ ?_ ?_ ?_
 all_goals exact⟨by kernel_rfl,by kernel_rfl,by kernel_rfl,by kernel_rfl,by kernel_rfl,by kernel_rfl,by decide +kernel,by decide +kernel,by kernel_rfl,by kernel_rfl,by kernel_rfl⟩
theorem Xy (h:At g q x (.list xs)) (h':At g q' y (.list ys)) (hd:V.datas xs=true) (hd':V.datas ys=true)
  (k:Q (decide (xs=ys))):cmpV .Eq (.ref x) (.ref y) g.st Q:=⟨xs,ys,h.2,h'.2,⟨hd,hd'⟩,k⟩
theorem Jas (h:At g q x (.list xs)) (h':At g q' y (.list ys)) (hd:V.datas xs=true) (hd':V.datas ys=true)
  (k:Q (!decide (xs=ys))):cmpV .NotEq (.ref x) (.ref y) g.st Q:=Xy (Q:=fun r=>Q (!r)) h h' hd hd' k
theorem c9 (h:OpOk s) (k:∀g',Fr [] g g'→Q (.bool true) g'.st):callN T (d+1) (K 9) [.str s] g.st Q:=by
 have f:=opF h
 refine w9.mpr (w9_0.mpr ?_)
 show (_∧_)∧boolP _ _
 refine⟨⟨f.data,by kernel_rfl⟩,?_⟩
 rw[f.ne]
 show _∧_
 refine⟨f.ascii,rfl,?_⟩
 rw[show (Src.items (s.cps.toList.map fun ch=>V.str ⟨#[ch]⟩)).all=[V.str s] from f.items]
 refine Ja3 (W:=[]) (fun _=>false) id _ (Jb (by rw[List.length_singleton];decide)) (fun _ _=>trivial) (fun v hv g' _ R hR=>?_) (fun g' fr=>?_)
 ·refine w9_b0.mpr (w9_i0.mpr ?_)
  obtain rfl:=List.mem_singleton.mp hv
  refine methS (b:=.isspace) (s:="str.isspace") (by kernel_rfl) rfl ⟨s,rfl,rfl,?_⟩
  rw[f.space]
  dsimp only [boolP,bothP,cmpV,inV]
  rw[f.occ]
  exact hR g' ‹_›
 ·rw[show (List.filter (fun _=>false) [V.str s]).map id=[] from rfl]
  refine Jiv (0,0) ⟨by decide,Jiv (0,0) ?_⟩
  have f1:Fr [] g' _:=Fr.push (o:=.list []) (q:=(0,0))
  have f2:Fr [] (g'.push (.list []) (0,0)) _:=Fr.push (o:=.list []) (q:=(0,0))
  exact Xy ((At.push).fr f2) At.push rfl rfl (k _ ((fr.trans f1).trans f2))
theorem c1103 (b:BankB g ns) (h:OpOk s) (k:∀g',Fr [] g g'→Q .none g'.st):callN T (d+2) (K 1103) [.ref 5,.str s] g.st Q:=by
 have f:=opF h
 refine w1103.mpr (w1103_0.mpr ?_)
 refine c9 h fun g' fr=>?_
 refine Zd (i:=0) f.len f.len' ⟨_,f.ch.1,?_⟩
 refine⟨⟨f.ch.2.2,by kernel_rfl⟩,?_⟩
 rw[f.ch.2.1]
 exact k g' fr
theorem w_bound {ks:List Nat} {n:Nat} (hl:ks.length≤2) (h:∀w∈ks,w<2 ^ n):1+ks.sum<2 ^ (n+1):=by
 match ks,hl,h with
 |[],_,_=>have:0<2 ^ n:=Nat.two_pow_pos n;rw[Nat.pow_succ];simp;omega
 |[a],_,h=>have:=h a (.head _);rw[Nat.pow_succ];simp;omega
 |[a,b],_,h=>have:=h a (.head _);have:=h b (.tail _ (.head _));rw[Nat.pow_succ];simp;omega
theorem Jbd {xs:List V} {st:St} {Q:KV} (hl:xs.length<cap) (k:Q (.tup xs) st):fnV .tuple [.tup xs] st Q:=⟨_,rfl,hl,k⟩
theorem Jio {g:G} {d n:Nat} {ns:List Node} {x:Node} {Q:KV} (b:BankB g ns) (o:NsOk ns) (h:ns[n]?=some x) (k:Q (N n) g.st) :
  callN T (d+1) (K 1102) [.ref 5,.str x.op,.tup (natL x.kids)] g.st Q:=by
 have hx:=o.two x (List.mem_of_getElem? h)
 refine x11 b.nu fun m nu=>?_
 have hg:dget (numD ns) x.v=some (N n):=(Jca 0 ns x n o.nodup h).trans (by rw[Nat.zero_add])
 refine w1102.mpr (Jgv.mpr ?_)
 refine⟨by decide,Jbd (by rw[Ja];exact Jb (leK hx)) (addT (by rw[Ja];exact Jb (by simp;exact l1K hx)) (Qv (o:=b.o) ?_))⟩
 refine in_t nu (Wb (x:=x)) hg (bT (Qv (o:=b.o) ?_))
 exact Jn nu Wb hg k
theorem Qc {xs:List V} {st:St} {Q:Src→Prop} (k:Q (.items xs)):srcV (.tup xs) st Q:=k
theorem Yh {ks ws:List Nat} {f:V→V} (h:∀k∈ks,f (N k)=N (ws.getD k 0)):(natL ks).map f=natL (ks.map fun k=>ws.getD k 0):=by
 unfold natL
 rw[List.map_map,List.map_map]
 exact List.map_congr_left h
theorem Jh5 (h:At g q x (.list (natL ws))) (hl:ws.length≤1000) (hk:k<ws.length) (c:Q (N (ws.getD k 0)) g.st):subV (.ref x) (N k) g.st Q:=by
 have e:ws[k]?=some (ws.getD k 0):=by rw[List.getD_eq_getElem?_getD,List.getElem?_eq_getElem hk];rfl
 exact Jm h (J3 e) (by rw[Ja];exact Jb hl) c
theorem Jk5:∀(l:List Nat) (m:Nat),∃r:Nat,maxL (m:Int) (l.map fun (n:Nat)=>(n:Int))=r∧∀b,m≤b→(∀n∈l,n≤b)→r≤b:=by
 intro l_
 induction l_ with
 |nil=>
  intro m
  exact⟨m,rfl,fun b h _=>h⟩
 |cons a l ih_=>
  intro m
  refine x12 (ih_ (if a>m then a else m)) fun r e h=>?_
  refine⟨r,?_,fun b hm hl=>h b ?_ fun n hn=>hl n (.tail _ hn)⟩
  ·rw[←e]
   show List.foldl _ (if (a:Int)>m then (a:Int) else m) _=List.foldl _ _ _
   congr 1
   by_cases c:a>m
   ·rw[if_pos c,if_pos (iK' c)]
   ·rw[if_neg c,if_neg (by omega)]
  ·have:=hl a (.head _)
   split<;>omega
theorem sum_nat (h:At g q y (.list (natL l))) (hb:∀n∈l,n<4294967296) (hl:l.length<cap) (k:Q (N l.sum) g.st):fnV .sum [.ref y] g.st Q:=by
 refine⟨y,l.map fun (n:Nat)=>(n:Int),rfl,by rw[←Wi];exact h.2,⟨fun i hi=>?_,by rw[List.length_map];exact hl⟩,?_⟩
 ·refine x12 (List.mem_map.mp hi) fun n hn q1_=>?_
  subst q1_
  have:=hb n hn
  omega
 ·have e:∀l:List Nat,(l.map fun (n:Nat)=>(n:Int)).sum=(l.sum:Int):=fun l=>by
   induction l with
   |nil=>rfl
   |cons a l ih=>rw[List.map_cons,List.sum_cons,List.sum_cons,ih];omega
  rw[e];exact k
theorem max_nat (h:At g q y (.list (natL l))) (hl:l≠[]) (k:∀m:Nat,(∀b,(∀n∈l,n≤b)→m≤b)→Q (N m) g.st):fnV .max [.ref y] g.st Q:=by
 cases l with
 |nil=>exact absurd rfl hl
 |cons a l=>
  refine x12 (Jk5 l a) fun r e hr=>?_
  refine .inr ⟨y,a,l.map fun (n:Nat)=>(n:Int),rfl,by rw[Wi] at h;exact h.2,?_⟩
  rw[e]
  exact k r fun b hb=>hr b (hb a (.head _)) fun n hn=>hb n (.tail _ hn)
inductive Jcr (x:Node) (g1:G) (r:List V) (l:Loc) (st:St):Prop
 |mk (h1_:(∃a,natL x.kids=a++r)) (h2_:st=g1.st) (x_kid) (x_tuple) (x_len) (x_TermFault) (x_sum) (x_max) (h3_:l=[some (.ref 5),some (.str x.op),some (.tup (natL x.kids)),some x.v,x_kid,x_tuple,x_len,x_TermFault,x_sum,x_max])
theorem Jip {g:G} {d:Nat} {ns:List Node} {x:Node} {Q:KV} (b:BankB g ns) (o:NsOk ns) (h:x∉ns) (o':NsOk (ns++[x]))
  (k:∀g',Fr [6,7,8,9] g g'→BankB g' (ns++[x])→Q (N ns.length) g'.st) :
  callN T (d+3) (K 1102) [.ref 5,.str x.op,.tup (natL x.kids)] g.st Q:=by
 have hm:x∈ns++[x]:=by simp
 have hx:=o'.two x hm
 have hop:=o'.op x hm
 have hn:=o.len
 have hkid:∀i∈x.kids,i<ns.length:=fun i hi=>(o'.kid ns.length x (by simp) i hi).1
 refine x11 b.nu fun m nu=>?_
 refine x13 b.ws fun ws hws lws bws=>?_
 refine x13 b.ds fun ds hds lds bds=>?_
 have hg:dget (numD ns) x.v=none:=Wd 0 ns x h
 refine w1102.mpr (Jgv.mpr ?_)
 refine⟨by decide,Jbd (by rw[Ja];exact Jb (leK hx)) (addT (by rw[Ja];exact Jb (by simp;exact l1K hx)) (Qv (o:=b.o) ?_))⟩
 refine in_f nu (Wb (x:=x)) hg (bF ?_)
 refine Wt b.o (p:=K 1103) (by kernel_rfl) (by kernel_rfl) (c1103 b hop fun g1 f1=>?_)
 have b1:=b.fr f1
 refine Wz (n:=1) ⟨by decide,by simp,by simp [Ja];exact Jb (ltK hx)⟩ (Qc ⟨trivial,?_⟩)
 refine J7 (Jcr x g1) ?_ ?_ _ _ _
  ⟨⟨[],rfl⟩,rfl,_,_,_,_,_,_,rfl⟩
 ·rintro v r _ _ ⟨⟨a,e⟩,rfl,_,_,_,_,_,_,rfl⟩ kn' hk'
  have hv:v∈natL x.kids:=by rw[e];simp
  refine x12 (List.mem_map.mp hv) fun i hi q1_=>?_
  subst q1_
  refine⟨trivial,?_⟩
  refine Jgu.mpr (Jgt.mpr ?_)
  refine leN (a:=0) ?_
  rw[decide_eq_true (Nat.zero_le i)]
  refine bT (Jw (o:=b1.o) (Je b1.nd (by rw[List.length_map];exact Jb (leK hn)) (ltN ?_)))
  rw[List.length_map,decide_eq_true (hkid i hi)]
  refine bF ?_
  exact hk' _ _ ⟨⟨a++[N i],by rw[e];simp⟩,rfl,_,_,_,_,_,_,rfl⟩
 rintro _ _ ⟨_,rfl,_,_,_,_,_,_,rfl⟩
 refine⟨trivial,?_⟩
 refine w1102_4.mpr ?_
 refine Jw (o:=b1.o) (Je b1.nd (by rw[List.length_map];exact Jb (leK hn)) (Qv (o:=b1.o) ?_))
 rw[List.length_map]
 have nu1:=nu.fr f1
 refine J2 nu1 (by decide) Wb (by rw[Y6];exact Jb (leK hn)) fun g2 c2 nu2=>?_
 rw[W0 hg,←Y5] at nu2
 have f2:Fr [6,7,8,9] g g2:=(f1.mono (by decide)).trans (c2.fr nu1)
 have f12:=c2.fr nu1
 have o2:Fx g2 5 bankO:=b.o.fr f2
 have nd2:Fx g2 6 _:=b1.nd.fr f12
 have ws2:Fx g2 8 _:=(hws.fr f1).fr f12
 have ds2:Fx g2 9 _:=(hds.fr f1).fr f12
 refine Jw (o:=o2) (X4 nd2 (by decide) (by rw[List.length_map];exact Jb (leK hn)) fun g3 c3 nd3=>?_)
 have f23:=c3.fr nd2
 have f3:=f2.trans f23
 rw[show ns.map Node.v++[x.v]=(ns++[x]).map Node.v by simp] at nd3
 have nu3:Fx g3 7 _:=At.fr nu2 f23
 have o3:Fx g3 5 bankO:=b.o.fr f3
 have ws3:=ws2.fr f23
 have ds3:=ds2.fr f23
 refine W3 (o:=o3) (methA ws3 ?_)
 refine Wz (n:=1) ⟨by decide,by simp,by simp [Ja];exact Jb (ltK hx)⟩ (Qc ⟨rfl,?_⟩)
 refine Wo (W:=[]) (fun v=>match v with|.int i=>N (ws.getD i.toNat 0)|v=>v) _ (by show (natL x.kids).length<cap;rw[Ja];exact Jb (leK hx)) (fun _ _ _=>Jjt) (fun _ _=>trivial) (fun v hv g' fr R hR=>?_) fun g4 f34=>?_
 ·refine x12 (List.mem_map.mp hv) fun i hi q1_=>?_
  subst q1_
  refine Jjx.mpr (Jjv.mpr ?_)
  exact W3 (o:=o3.fr fr) (Jh5 (ws3.fr fr) (Nat.le_trans (Nat.le_of_eq lws) (leK hn)) (by rw[lws];exact hkid i hi) (hR g' fr))
 rw[show (Src.items ((V.str x.op::natL x.kids).drop 1)).all=natL x.kids from rfl,Yh (ws:=ws) fun _ _=>rfl]
 refine Jj (0,0) fun g5 y _ f45 hy=>?_
 have hw32:∀n∈x.kids.map (fun k=>ws.getD k 0),n<2 ^ ns.length:=fun n hn=>by
  refine x12 (List.mem_map.mp hn) fun i hi q1_=>?_
  subst q1_
  have hi:=hkid i hi
  have:=bws i (ws.getD i 0) (by rw[List.getD_eq_getElem?_getD,List.getElem?_eq_getElem (Nat.lt_of_lt_of_le hi (Nat.le_of_eq (Eq.symm lws)))];rfl)
  exact Nat.lt_of_lt_of_le this (Nat.pow_le_pow_right (by decide) hi)
 have hp:2 ^ ns.length≤2 ^ 24:=Nat.pow_le_pow_right (by decide) hn
 have hb:=w_bound (n:=ns.length) (by rw[List.length_map];exact hx) hw32
 have hp':2 ^ (ns.length+1)≤2 ^ 25:=Nat.pow_le_pow_right (by decide) (ltK hn)
 refine sum_nat hy (fun n hn=>by have:=hw32 n hn;exact Nat.lt_of_lt_of_le this (leK hp)) (by rw[List.length_map];exact Jb (leK hx)) (addN (a:=1) (by omega) ?_)
 have ws5:=(ws3.fr f34).fr f45
 refine Jz ws5 (by decide) (by rw[Ja];exact Jb (Nat.le_trans (Nat.le_of_eq lws) (leK hn))) fun g6 c6 ws6=>?_
 have f6:=(f3.trans (f34.trans f45)).trans (c6.fr ws5)
 have o6:Fx g6 5 bankO:=b.o.fr f6
 have ds6:Fx g6 9 _:=((ds3.fr f34).fr f45).fr (c6.fr ws5)
 refine Xm (o:=o6) (methA ds6 ?_)
 refine Wz (n:=1) ⟨by decide,by simp,by simp [Ja];exact Jb (ltK hx)⟩ (Qc ⟨rfl,?_⟩)
 refine Wo (W:=[]) (fun v=>match v with|.int i=>N (ds.getD i.toNat 0)|v=>v) _ (by show (natL x.kids).length<cap;rw[Ja];exact Jb (leK hx)) (fun _ _ _=>Jjs) (fun _ _=>trivial) (fun v hv g' fr R hR=>?_) fun g7 f67=>?_
 ·refine x12 (List.mem_map.mp hv) fun i hi q1_=>?_
  subst q1_
  refine Jjw.mpr (Jju.mpr ?_)
  exact Xm (o:=o6.fr fr) (Jh5 (ds6.fr fr) (Nat.le_trans (Nat.le_of_eq lds) (leK hn)) (by rw[lds];exact hkid i hi) (hR g' fr))
 rw[show (Src.items ((V.str x.op::natL x.kids).drop 1)).all=natL x.kids from rfl,Yh (ws:=ds) fun _ _=>rfl]
 refine Jj (0,0) fun g8 y8 _ f78 hy8=>⟨by decide,Jj (0,0) fun g9 y9 _ f89 hy9=>?_⟩
 refine addL (hy8.fr f89) hy9 (by rw[Ja,List.length_map];exact Jb (by simp;exact leK hx)) (Jj (0,0) fun g10 y10 _ f910 hy10=>?_)
 refine max_nat (l:=x.kids.map (fun k=>ds.getD k 0)++[0]) (by rw[Jf];exact hy10) (by simp) fun m hm=>?_
 have hds:m≤ns.length:=hm _ fun n hn=>by
  rcases List.mem_append.mp hn with h|h
  ·refine x12 (List.mem_map.mp h) fun i hi q1_=>?_
   subst q1_
   have hi:=hkid i hi
   have:=bds i (ds.getD i 0) (by rw[List.getD_eq_getElem?_getD,List.getElem?_eq_getElem (Nat.lt_of_lt_of_le hi (Nat.le_of_eq (Eq.symm lds)))];rfl)
   exact Nat.le_trans this hi
  ·obtain rfl:=List.mem_singleton.mp h;exact Nat.zero_le _
 refine addN (a:=1) (by omega) ?_
 have f610:=((f67.trans f78).trans f89).trans f910
 have ds10:=ds6.fr f610
 refine Jz ds10 (by decide) (by rw[Ja];exact Jb (Nat.le_trans (Nat.le_of_eq lds) (leK hn))) fun g11 c11 ds11=>?_
 have f1011:=c11.fr ds10
 have f11:=(f6.trans f610).trans f1011
 have nd11:Fx g11 6 _:=((((At.fr nd3 f34).fr f45).fr (c6.fr ws5)).fr f610).fr f1011
 have nu11:Fx g11 7 _:=((((At.fr nu3 f34).fr f45).fr (c6.fr ws5)).fr f610).fr f1011
 have ws11:Fx g11 8 _:=((At.fr ws6 f610).fr f1011)
 have o11:Fx g11 5 bankO:=b.o.fr f11
 refine Jw (o:=o11) (Je nd11 (by rw[List.length_map,List.length_append];exact Jb (by simp;exact leK hn)) ?_)
 rw[List.length_map,List.length_append,List.length_singleton]
 refine subN (b:=1) (Nat.succ_pos _) ?_
 refine k g11 f11 ⟨o11,nd11,⟨_,nu11⟩,⟨ws++[_],by rw[Jf];exact ws11,by simp [lws],?_⟩,⟨ds++[_],by rw[Jf];exact ds11,by simp [lds],?_⟩⟩
 ·intro i w hw
  rw[List.getElem?_append] at hw
  split at hw
  ·exact bws i w hw
  ·rename_i hi
   have:i=ws.length:=by
    have:=(List.getElem?_eq_some_iff.mp hw).1
    rw[List.length_singleton] at this;exact sub1 hi this
   subst this
   rw[Nat.sub_self] at hw
   obtain rfl:=Option.some.inj hw
   rw[lws];exact hb
 ·intro i w hw
  rw[List.getElem?_append] at hw
  split at hw
  ·exact bds i w hw
  ·rename_i hi
   have:i=ds.length:=by
    have:=(List.getElem?_eq_some_iff.mp hw).1
    rw[List.length_singleton] at this;exact sub1 hi this
   subst this
   rw[Nat.sub_self] at hw
   obtain rfl:=Option.some.inj hw
   omega
theorem max2 {a b:Nat} {st:St} {Q:KV} (k:Q (N (max a b)) st):fnV .max [N a,N b] st Q:=by
 refine .inl ⟨a,b,rfl,?_⟩
 rw[show (if (b:Int)>a then (b:Int) else a)=((max a b:Nat):Int) by split<;>omega]
 exact k
theorem min2 {a b:Nat} {st:St} {Q:KV} (k:Q (N (min a b)) st):fnV .min [N a,N b] st Q:=by
 refine⟨a,b,rfl,?_⟩
 rw[show (if (b:Int)<a then (b:Int) else a)=((min a b:Nat):Int) by split<;>omega]
 exact k
theorem Wg (h:l.length=n+1):∃r x,l=r++[x]∧r.length=n:=by
 refine⟨l.dropLast,l.getLast (by intro e;rw[e] at h;injection h),(List.dropLast_concat_getLast _).symm,by rw[List.length_dropLast];exact congrArg Nat.pred h⟩
theorem c1106 (b:BankB g (ms++[x])) (o:NsOk (ms++[x])) (k:∀g',Fr [6,7,8,9] g g'→BankB g' ms→Q .none g'.st) :
  callN T (d+1) (K 1106) [.ref 5,N ms.length] g.st Q:=by
 have hn:=o.len
 rw[List.length_append,List.length_singleton] at hn
 refine w1106.mpr (w1106_0.mpr ?_)
 refine J1 (fun n l st=>(∃x_len x_max,l=[some (.ref 5),some (N ms.length),x_len,x_max])∧(n=1∧st=g.st∨n=0∧∃g',st=g'.st∧Fr [6,7,8,9] g g'∧BankB g' ms)) 1
  ⟨⟨_,_,rfl⟩,.inl ⟨rfl,rfl⟩⟩ ?_
 rintro n l st ⟨⟨x_len,x_max,rfl⟩,h⟩
 refine Jgr.mpr ?_
 rcases h with ⟨rfl,rfl⟩|⟨rfl,g',rfl,fr,b'⟩
 ·refine Jw (o:=b.o) (Je b.nd (by rw[List.length_map,List.length_append];exact Jb (by simp;exact Nat.le_of_lt (leK hn))) (max2 (b:=0) (gtN ?_)))
  rw[decide_eq_true (by simp),Jgs]
  refine x11 b.nu fun m nu=>?_
  refine x13 b.ws fun ws hws lws bws=>?_
  refine x13 b.ds fun ds hds lds bds=>?_
  refine x22 (Wg (lws.trans List.length_append)) fun ws' w q1_ lw=>?_
  subst q1_
  refine x22 (Wg (lds.trans List.length_append)) fun ds' e q1_ ld=>?_
  subst q1_
  have hx:x∉ms:=fun h=>by
   have:=o.nodup
   rw[List.nodup_append] at this
   exact this.2.2 x h x (.head _) rfl
  have hg:dget (numD ms) x.v=none:=Wd 0 ms x hx
  refine bT (Qv (o:=b.o) (Jl6 nu (Jw (o:=b.o) (X7 b.nd (by decide) (by rw[List.length_map,List.length_append];exact Jb (by simp;exact Nat.le_of_lt (leK hn))) (ys:=ms.map Node.v) (v:=x.v) (by simp) fun g1 c1 nd1=>?_))))
  have f1:Fr [6] g g1:=c1.fr b.nd
  have nu1:Fx g1 7 _:=nu.fr f1
  refine Jb9 nu1 (by decide) (by rw[Y6,List.length_append];exact Jb (by simp;exact Nat.le_of_lt (leK hn))) Wb (by rw[Y5,Zi,hg,Option.none_or,Ji,if_pos rfl]) fun g2 c2 nu2=>?_
  rw[Y5,Jcd hg] at nu2
  have f2:=(f1.mono (W:=[6,7,8,9])).trans (c2.fr nu1)
  have ws2:Fx g2 8 _:=hws.fr ((f1.mono (W:=[6,7])).trans (c2.fr nu1))
  have ds2:Fx g2 9 _:=hds.fr ((f1.mono (W:=[6,7])).trans (c2.fr nu1))
  refine W3 (o:=b.o.fr f2) (X7 ws2 (by decide) (by rw[Ja,lws,List.length_append];exact Jb (by simp;exact Nat.le_of_lt (leK hn))) (ys:=natL ws') (v:=N w) Jf fun g3 c3 ws3=>?_)
  have f3:=f2.trans (c3.fr ws2)
  have ds3:Fx g3 9 _:=ds2.fr (c3.fr ws2)
  refine Xm (o:=b.o.fr f3) (X7 ds3 (by decide) (by rw[Ja,lds,List.length_append];exact Jb (by simp;exact Nat.le_of_lt (leK hn))) (ys:=natL ds') (v:=N e) Jf fun g4 c4 ds4=>?_)
  have f4:=f3.trans (c4.fr ds3)
  refine⟨0,by decide,⟨_,_,rfl⟩,.inr ⟨rfl,g4,rfl,f4,b.o.fr f4,?_,⟨m+1,?_⟩,⟨ws',?_,lw,?_⟩,⟨ds',ds4,ld,?_⟩⟩⟩
  ·exact((At.fr nd1 (c2.fr nu1)).fr (c3.fr ws2)).fr (c4.fr ds3)
  ·exact(At.fr nu2 (c3.fr ws2)).fr (c4.fr ds3)
  ·exact At.fr ws3 (c4.fr ds3)
  ·exact fun i w h=>bws i w (by rw[List.getElem?_append_left (List.getElem?_eq_some_iff.mp h).1];exact h)
  ·exact fun i w h=>bds i w (by rw[List.getElem?_append_left (List.getElem?_eq_some_iff.mp h).1];exact h)
 ·refine Jw (o:=b'.o) (Je b'.nd (by rw[List.length_map];exact Jb (Nat.le_of_lt (leK hn))) (max2 (b:=0) (gtN ?_)))
  rw[decide_eq_false (by simp),w1106_1]
  exact bF (k g' fr b')
structure Uni where
 par:List Nat
 F:Nat→Nat
 lots:List (List Nat)
 merged:List (Nat×Nat)
structure UOk (u:Uni) (n:Nat):Prop where
 len:u.par.length=n
 llen:u.lots.length=n
 cap:n≤24
 uf:∀a p,u.par[a]?=some p→(p=a∧u.F a=a)∨(p<a∧u.F p=u.F a)
 out:∀a,n≤a→u.F a=a
 lot:∀r l,u.par[r]?=some r→u.lots[r]?=some l→l.Nodup∧∀a∈l,a<n∧u.F a=r
 mnd:(u.merged.map (·.2)).Nodup
 mgone:∀x∈u.merged.map (·.2),x<n∧u.F x≠x
theorem Qx:∀(n:Nat) (l:List Nat),l.Nodup→(∀x∈l,x<n)→l.length≤n
 |0,l,_,h=>by cases l with
  |nil=>exact Nat.le_refl _
  |cons a l=>exact absurd (h a (.head _)) (Nat.not_lt_zero _)
 |n+1,l,nd,h=>by
  have h1:=Qx n (l.erase n) (nd.erase n) fun x hx=>by
   have:=(List.Nodup.mem_erase_iff nd).mp hx
   have:=h x this.2
   omega
  have:=List.length_erase (l:=l) (a:=n)
  split at this<;>omega
theorem UOk.root (o:UOk u n):∀a,a<n→u.F a≤a∧u.F a<n∧u.F (u.F a)=u.F a∧u.par[u.F a]?=some (u.F a):=by
 intro a
 induction a using Nat.strongRecOn with
 |ind a ih=>
  intro h
  have e:u.par[a]?=some (u.par[a]'(by rw[o.len];exact h)):=List.getElem?_eq_getElem (by rw[o.len];exact h)
  rcases o.uf a _ e with ⟨h1,h2⟩|⟨h1,h2⟩
  ·rw[h2,h2]
   exact⟨Nat.le_refl _,h,rfl,by rw[e,h1]⟩
  ·have:=ih _ h1 (Nat.lt_trans h1 h)
   rw[h2] at this
   exact⟨by exact Nat.le_of_lt (Nat.lt_of_le_of_lt this.1 h1),this.2.1,this.2.2.1,this.2.2.2⟩
theorem UOk.rep (o:UOk u n) (a:Nat):u.F a≤a∧u.F (u.F a)=u.F a:=by
 by_cases h:a<n
 ·exact⟨(o.root a h).1,(o.root a h).2.2.1⟩
 ·rw[o.out a (Nat.le_of_not_lt h),o.out a (Nat.le_of_not_lt h)];exact⟨Nat.le_refl _,rfl⟩
theorem UOk.mlen (o:UOk u n):u.merged.length≤n:=by
 have:=Qx n _ o.mnd fun x h=>(o.mgone x h).1
 rwa [List.length_map] at this
noncomputable def uniO:O:=.inst (K 13) [("above",.ref 11),("lots",.ref 12),("merged",.ref 13)]
noncomputable def pairV (p:Nat×Nat):V:=.tup [N p.1,N p.2]
noncomputable def LotB (g:G) (ls:List (List Nat)) (A:List Nat):Prop:=
 Fx g 12 (.list (A.map .ref))∧A.length=ls.length∧∀i l,ls[i]?=some l→∃x,A[i]?=some x∧x≠0∧At g (100,i) x (.list (natL l))
structure UniB (g:G) (u:Uni):Prop where
 o:Fx g 10 uniO
 par:Fx g 11 (.list (natL u.par))
 lot:∃A,LotB g u.lots A
 mg:Fx g 13 (.list (u.merged.map pairV))
theorem LotB.fr (b:LotB g ls A) (f:Fr W g g') (h:12∉W∧100∉W:=by decide):LotB g' ls A:=
 ⟨b.1.fr f h.1,b.2.1,fun i l e=>(b.2.2 i l e).imp fun _ x=>⟨x.1,x.2.1,x.2.2.fr f h.2⟩⟩
theorem UniB.fr (b:UniB g u) (f:Fr W g g') (h:10∉W∧11∉W∧12∉W∧13∉W∧100∉W:=by decide):UniB g' u:=
 ⟨b.o.fr f h.1,b.par.fr f h.2.1,b.lot.imp fun _ x=>x.fr f ⟨h.2.2.1,h.2.2.2.2⟩,b.mg.fr f h.2.2.2.1⟩
theorem J0 (o:Fx g 10 uniO) (k:Q (.ref 11) g.st):attrV T (.ref 10) "above" g.st Q:=Js o (by kernel_rfl) (by kernel_rfl) k
theorem Qw (o:Fx g 10 uniO) (k:Q (.ref 12) g.st):attrV T (.ref 10) "lots" g.st Q:=Js o (by kernel_rfl) (by kernel_rfl) k
theorem Q5 (o:Fx g 10 uniO) (k:Q (.ref 13) g.st):attrV T (.ref 10) "merged" g.st Q:=Js o (by kernel_rfl) (by kernel_rfl) k
theorem Xq {A:List Nat} {i x:Nat} (h:A[i]?=some x):(A.map V.ref)[i]?=some (.ref x):=by rw[List.getElem?_map,h];rfl
theorem c1302 (b:UniB g u) (o:UOk u n) (k:Q (N n) g.st):callN T (d+1) (K 1302) [.ref 10] g.st Q:=by
 have:=o.cap
 refine w1302.mpr (w1302_0.mpr ?_)
 refine J0 b.o (Je b.par (by rw[Ja,o.len];exact Jb (leK this)) ?_)
 rw[Ja,o.len];exact k
theorem c1303 (b:UniB g u) (o:UOk u n) (h:a<n) (k:Q (N (u.F a)) g.st):callN T (d+1) (K 1303) [.ref 10,N a] g.st Q:=by
 have hc:=o.cap
 refine w1303.mpr (w1303_0.mpr ?_)
 refine J1 (fun m l st=>st=g.st∧∃c,m=c∧c<n∧u.F c=u.F a∧l=[some (.ref 10),some (N c)]) a ⟨rfl,a,rfl,h,rfl,rfl⟩ ?_
 rintro m l st ⟨rfl,c,rfl,hc',hF,rfl⟩
 have e:u.par[m]?=some (u.par[m]'(by rw[o.len];exact hc')):=List.getElem?_eq_getElem (by rw[o.len];exact hc')
 refine Jgp.mpr ?_
 refine J0 b.o (Jm b.par (J3 e) (by rw[Ja,o.len];exact Jb (leK hc)) (neN (bDn (fun ne=>?_) fun eq=>?_)))
 ·refine Jgq.mpr ?_
  refine J0 b.o (Jm b.par (J3 e) (by rw[Ja,o.len];exact Jb (leK hc)) ?_)
  rcases o.uf m _ e with ⟨h1,h2⟩|⟨h1,h2⟩
  ·exact absurd h1 ne
  ·exact⟨_,h1,rfl,_,rfl,by exact Nat.lt_trans h1 hc',h2.trans hF,rfl⟩
 ·refine w1303_1.mpr ?_
  rcases o.uf m _ e with ⟨h1,h2⟩|⟨h1,h2⟩
  ·rw[←hF,h2] at k;exact k
  ·exact absurd eq (Nat.ne_of_lt h1)
noncomputable def Uni.make (u:Uni):Uni:=⟨u.par++[u.par.length],u.F,u.lots++[[u.lots.length]],u.merged⟩
theorem c1301 (b:UniB g u) (o:UOk u n) (k:∀g',Fr [11,12,100] g g'→UniB g' u.make→Q (N n) g'.st):callN T (d+1) (K 1301) [.ref 10] g.st Q:=by
 have hc:=o.cap
 refine x13 b.lot fun A lo la ll=>?_
 have lA:=la.trans o.llen
 refine w1301.mpr (w1301_0.mpr ?_)
 refine J0 b.o (methA b.par (J0 b.o (Je b.par (by rw[Ja,o.len];exact Jb (leK hc)) ?_)))
 refine Jz b.par (by decide) (by rw[Ja,o.len];exact Jb (leK hc)) fun g1 c1 par1=>?_
 have f1:Fr [11] g g1:=c1.fr b.par
 have lo1:Fx g1 12 _:=lo.fr f1
 refine Qw (b.o.fr f1) (methA lo1 ⟨by decide,Qw (b.o.fr f1) (Je lo1 (by rw[List.length_map];exact Jb (Nat.le_trans (Nat.le_of_eq lA) (leK hc))) ?_)⟩)
 refine Jj (100,n) fun g2 y hy f2 hy2=>?_
 have lo2:=lo1.fr f2
 have f2':Fr [11,12,100] g g2:=(f1.mono).trans f2
 refine Jz lo2 (by decide) (by rw[List.length_map];exact Jb (Nat.le_trans (Nat.le_of_eq lA) (leK hc))) fun g3 c3 lo3=>?_
 have f23:=c3.fr lo2
 have f3:=f2'.trans f23
 have par3:Fx g3 11 _:=(At.fr par1 f2).fr f23
 refine J0 (b.o.fr f3) (Je par3 (by rw[List.length_append,Ja,o.len];exact Jb (by simp;exact leK hc)) ?_)
 rw[List.length_append,Ja,o.len,List.length_singleton]
 refine subN (b:=1) (Nat.succ_pos _) ?_
 rw[Nat.add_sub_cancel]
 refine k g3 f3 ⟨b.o.fr f3,?_,⟨A++[y],?_,?_,?_⟩,b.mg.fr f3⟩
 ·rw[show natL u.make.par=natL u.par++[N (natL u.par).length] by rw[Ja];exact Jf];exact par3
 ·rw[List.map_append];exact lo3
 ·show (A++[y]).length=(u.lots++[_]).length
  rw[List.length_append,List.length_append,la];rfl
 ·intro i l e
  have e:(u.lots++[[u.lots.length]])[i]?=some l:=e
  rw[List.getElem?_append] at e
  split at e
  ·rename_i hi
   refine x13 (ll i l e) fun x ex x0 hx=>?_
   exact⟨x,by rw[List.getElem?_append_left (Nat.lt_of_lt_of_le hi (Nat.le_of_eq (Eq.symm la)))];exact ex,x0,((hx.fr f1).fr f2).fr f23⟩
  ·have hi:=(List.getElem?_eq_some_iff.mp e).1
   rw[List.length_singleton] at hi
   have:i=u.lots.length:=by exact sub1 (by assumption) hi
   subst this
   rw[Nat.sub_self] at e
   obtain rfl:=Option.some.inj e
   refine⟨y,by rw[←la];simp,?_,?_⟩
   ·have:=lo1.lt;exact n0 hy this
   ·have:=At.fr hy2 f23
    rw[o.llen]
    rw[List.length_map,lA] at this
    exact this
theorem UOk.make (o:UOk u n) (h:n<24):UOk u.make (n+1):=by
 refine⟨?_,?_,h,?_,fun a h=>o.out a (Nat.le_of_lt h),?_,o.mnd,fun x h=>⟨Nat.lt_succ_of_lt (o.mgone x h).1,(o.mgone x h).2⟩⟩
 ·show (u.par++[_]).length=_
  rw[List.length_append,o.len];rfl
 ·show (u.lots++[_]).length=_
  rw[List.length_append,o.llen];rfl
 ·intro a p e
  have e:(u.par++[u.par.length])[a]?=some p:=e
  rw[List.getElem?_append] at e
  split at e
  ·exact o.uf a p e
  ·have hi:=(List.getElem?_eq_some_iff.mp e).1
   rw[List.length_singleton] at hi
   have:a=u.par.length:=by exact sub1 (by assumption) hi
   subst this
   rw[Nat.sub_self] at e
   obtain rfl:=Option.some.inj e
   exact .inl ⟨rfl,o.out _ (by rw[o.len];exact Nat.le_refl _)⟩
 ·intro r l e e'
  have e:(u.par++[u.par.length])[r]?=some r:=e
  have e':(u.lots++[[u.lots.length]])[r]?=some l:=e'
  rw[List.getElem?_append] at e e'
  rw[o.llen] at e'
  rw[o.len] at e
  split at e'
  ·rename_i hr
   rw[if_pos hr] at e
   have:=o.lot r l e e'
   exact⟨this.1,fun a ha=>⟨Nat.lt_succ_of_lt (this.2 a ha).1,(this.2 a ha).2⟩⟩
  ·have hi:=(List.getElem?_eq_some_iff.mp e').1
   rw[List.length_singleton] at hi
   have:r=n:=by exact sub1 (by assumption) hi
   subst this
   rw[Nat.sub_self] at e'
   obtain rfl:=Option.some.inj e'
   refine⟨by simp,fun a ha=>?_⟩
   cases List.mem_singleton.mp ha
   exact⟨by exact Nat.lt_succ_self _,o.out _ (Nat.le_refl _)⟩
theorem sort2 (a b:Nat):sortInts [(a:Int),(b:Int)]=[((min a b:Nat):Int),((max a b:Nat):Int)]:=by
 show insertInt a [(b:Int)]=_
 show (if (a:Int)≤b then [(a:Int),(b:Int)] else [(b:Int),(a:Int)])=_
 by_cases h:a≤b
 ·rw[if_pos (by omega),Nat.min_eq_left h,Nat.max_eq_right h]
 ·rw[if_neg (by omega),Nat.min_eq_right (Nat.le_of_lt (Nat.lt_of_not_le h)),Nat.max_eq_left (Nat.le_of_lt (Nat.lt_of_not_le h))]
theorem sorted2 (h:At g q y (.list [N a,N b]))
  (k:∀g' y',Fr [] g g'→At g' (0,0) y' (.list [N (min a b),N (max a b)])→Q (.ref y') g'.st):fnV .sorted [.ref y] g.st Q:=by
 refine Xf (is:=[a,b]) h (by show 2<60;decide) (Jj (0,0) fun g' y' _ f hy=>k g' y' f ?_)
 rw[sort2] at hy;exact hy
noncomputable def jF (F:Nat→Nat) (k g:Nat):Nat→Nat:=fun x=>if F x=g then k else F x
noncomputable def Uni.merge (u:Uni) (k g:Nat):Uni:=⟨u.par.set g k,jF u.F k g,u.lots.set k (u.lots.getD k []++u.lots.getD g []),u.merged++[(k,g)]⟩
theorem Qb (o:Fx g 10 uniO) (h1:fget [("above",V.ref 11),("lots",.ref 12),("merged",.ref 13)] m=none) (h2:T.meth (K 13) m=some p)
  (k:A fun vs st=>callN T d p (.ref 10::vs) st Q):methQ d (.ref 10) m g.st A Q:=Wt o h1 h2 k
theorem Jd4:natL (l.set i n)=(natL l).set i (N n):=List.map_set
theorem getD_some {l:List (List Nat)} (h:i<l.length):l[i]?=some (l.getD i d):=by rw[List.getD_eq_getElem?_getD,List.getElem?_eq_getElem h];rfl
theorem UOk.lots2 {u:Uni} {n k c:Nat} (o:UOk u n) (hk:u.par[k]?=some k) (hc:u.par[c]?=some c) (ne:k≠c) {l l':List Nat} (hl:u.lots[k]?=some l) (hl':u.lots[c]?=some l') :
  (l++l').Nodup∧(l++l').length≤n:=by
 have h1:=o.lot k l hk hl
 have h2:=o.lot c l' hc hl'
 have h:(l++l').Nodup:=List.nodup_append.mpr ⟨h1.1,h2.1,fun a ha b hb e=>ne (by rw[←(h1.2 a ha).2,←(h2.2 b hb).2,e])⟩
 exact⟨h,Qx n _ h fun x hx=>(List.mem_append.mp hx).elim (fun h=>(h1.2 x h).1) fun h=>(h2.2 x h).1⟩
theorem c1304 {g:G} {d n a c:Nat} {u:Uni} {Q:KV} (b:UniB g u) (o:UOk u n) (ha:a<n) (hc:c<n) (k0:u.F a=u.F c→∀g',Fr [] g g'→Q .none g'.st)
  (k1:u.F a≠u.F c→∀g',Fr [11,13,100] g g'→UniB g' (u.merge (min (u.F a) (u.F c)) (max (u.F a) (u.F c)))→Q (.tup [N (min (u.F a) (u.F c)),N (max (u.F a) (u.F c))]) g'.st) :
  callN T (d+2) (K 1304) [.ref 10,N a,N c] g.st Q:=by
 have hn:=o.cap
 have ra:=o.root a ha
 have rc:=o.root c hc
 refine w1304.mpr (w1304_0.mpr ?_)
 refine⟨by decide,Qb b.o (p:=K 1303) (by kernel_rfl) (by kernel_rfl) (c1303 b o ha (Qb b.o (p:=K 1303) (by kernel_rfl) (by kernel_rfl) (c1303 b o hc (Jj (0,0) fun g1 y1 _ f1 h1=>sorted2 h1 fun g2 y2 f2 h2=>Yb h2 ?_))))⟩
 refine Jgo.mpr (w1304_1.mpr ?_)
 have f12:=f1.trans f2
 refine eqN (bD (fun e=>k0 (by omega) g2 f12) fun ne=>?_)
 have ne:u.F a≠u.F c:=fun e=>ne (by omega)
 have k1:=k1 ne
 have hmin:u.par[min (u.F a) (u.F c)]?=some (min (u.F a) (u.F c)):=by
  rcases Nat.le_total (u.F a) (u.F c) with h|h
  ·rw[Nat.min_eq_left h];exact ra.2.2.2
  ·rw[Nat.min_eq_right h];exact rc.2.2.2
 have hmax:u.par[max (u.F a) (u.F c)]?=some (max (u.F a) (u.F c)):=by
  rcases Nat.le_total (u.F a) (u.F c) with h|h
  ·rw[Nat.max_eq_right h];exact rc.2.2.2
  ·rw[Nat.max_eq_left h];exact ra.2.2.2
 have mk:min (u.F a) (u.F c)<n:=by exact Nat.lt_of_le_of_lt (Nat.min_le_left _ _) ra.2.1
 have mg:max (u.F a) (u.F c)<n:=by exact Nat.max_lt.mpr ⟨ra.2.1,rc.2.1⟩
 have mne:min (u.F a) (u.F c)≠max (u.F a) (u.F c):=by omega
 revert k1 hmin hmax mk mg mne
 generalize min (u.F a) (u.F c)=kept
 generalize max (u.F a) (u.F c)=gone
 intro k1 hmin hmax mk mg mne
 refine x13 b.lot fun A lo la ll=>?_
 have b2:=b.fr f12
 refine J0 b2.o (Z0 b2.par (by decide) (by rw[Ja,o.len];exact mg) (by rw[Ja,o.len];exact Jb (leK hn)) fun g3 c3 par3=>?_)
 have f23:=c3.fr b2.par
 have f3:Fr [11,13,100] g g3:=(f12.mono).trans f23
 have lk:=getD_some (d:=[]) (show kept<u.lots.length by rw[o.llen];exact mk)
 have lg:=getD_some (d:=[]) (show gone<u.lots.length by rw[o.llen];exact mg)
 refine x13 (ll kept _ lk) fun x hx x0 ax=>?_
 refine x13 (ll gone _ lg) fun z hz z0 az=>?_
 have lo3:Fx g3 12 _:=(lo.fr f12).fr f23
 have ax3:=(ax.fr f12).fr f23
 have az3:=(az.fr f12).fr f23
 have hA:A.length≤1000:=by rw[la,o.llen];exact leK hn
 refine Qw (b.o.fr f3) (Jm lo3 (Xq hx) (by rw[List.length_map];exact Jb hA) (methE ax3 (Qw (b.o.fr f3) (Jm lo3 (Xq hz) (by rw[List.length_map];exact Jb hA) ?_))))
 have l2:=o.lots2 hmin hmax mne lk lg
 refine Jef ax3 az3 x0 (by rw[Ja,Ja,←List.length_append];exact Jb (Nat.le_trans l2.2 (leK hn))) fun g4 c4 ax4=>?_
 have f34:Fr [100] g3 g4:=c4.fr ax3
 have f4:=f3.trans f34
 have mg4:Fx g4 13 _:=(b2.mg.fr f23).fr f34
 have hm:=o.mlen
 refine Q5 (b.o.fr f4) (methA mg4 ⟨by decide,Jz mg4 (by decide) (by rw[List.length_map];exact Jb (Nat.le_trans hm (leK hn))) fun g5 c5 mg5=>⟨by decide,?_⟩⟩)
 have f45:=c5.fr mg4
 have f5:=f4.trans f45
 refine k1 g5 f5 ⟨b.o.fr f5,?_,⟨A,(lo3.fr f34).fr f45,?_,?_⟩,?_⟩
 ·rw[show (u.merge kept gone).par=u.par.set gone kept from rfl,Jd4]
  exact(At.fr par3 f34).fr f45
 ·rw[la];exact(List.length_set ..).symm
 ·intro i l e
  have e:(u.lots.set kept (u.lots.getD kept []++u.lots.getD gone []))[i]?=some l:=e
  by_cases h:kept=i
  ·subst h
   rw[List.getElem?_set_self (by rw[o.llen];exact mk)] at e
   obtain rfl:=Option.some.inj e
   refine⟨x,hx,x0,?_⟩
   rw[Jf]
   exact ax4.fr f45
  ·rw[List.getElem?_set_ne h] at e
   refine x13 (ll i l e) fun w hw w0 aw=>?_
   have aw3:=(aw.fr f12).fr f23
   exact⟨w,hw,w0,(aw3.ch c4 (aw3.ne ax3 (by simp;exact fun e=>h e.symm))).fr f45⟩
 ·rw[show (u.merge kept gone).merged.map pairV=u.merged.map pairV++[pairV (kept,gone)] from List.map_append]
  exact mg5
theorem UOk.merge {u:Uni} {n k c:Nat} (o:UOk u n) (hk:u.F k=k) (hc:u.F c=c) (lt:k<c) (h:c<n):UOk (u.merge k c) n:=by
 have rk:=o.root k (Nat.lt_trans lt h)
 have rc:=o.root c h
 rw[hk] at rk
 rw[hc] at rc
 refine⟨(List.length_set ..).trans o.len,(List.length_set ..).trans o.llen,o.cap,?_,?_,?_,?_,?_⟩
 ·intro a p e
  have e:(u.par.set c k)[a]?=some p:=e
  show (p=a∧jF u.F k c a=a)∨(p<a∧jF u.F k c p=jF u.F k c a)
  unfold jF
  by_cases ca:c=a
  ·subst ca
   rw[List.getElem?_set_self (by rw[o.len];exact h)] at e
   obtain rfl:=Option.some.inj e
   refine .inr ⟨lt,?_⟩
   rw[if_neg (neE lt (Eq.symm hk)),if_pos hc,hk]
  ·rw[List.getElem?_set_ne ca] at e
   rcases o.uf a p e with ⟨h1,h2⟩|⟨h1,h2⟩
   ·exact .inl ⟨h1,by rw[if_neg (by omega)];exact h2⟩
   ·exact .inr ⟨h1,by rw[h2]⟩
 ·intro a ha
  show jF u.F k c a=a
  unfold jF
  rw[o.out a ha,if_neg (Nat.ne_of_gt (Nat.lt_of_lt_of_le h ha))]
 ·intro r l e e'
  have e:(u.par.set c k)[r]?=some r:=e
  have e':(u.lots.set k (u.lots.getD k []++u.lots.getD c []))[r]?=some l:=e'
  have cr:c≠r:=by
   intro ca
   subst ca
   rw[List.getElem?_set_self (by rw[o.len];exact h)] at e
   obtain rfl:=Option.some.inj e;exact absurd lt (Nat.lt_irrefl _)
  rw[List.getElem?_set_ne cr] at e
  have lk:=getD_some (d:=[]) (show k<u.lots.length by rw[o.llen];exact Nat.lt_trans lt h)
  have lc:=getD_some (d:=[]) (show c<u.lots.length by rw[o.llen];exact h)
  by_cases kr:k=r
  ·subst kr
   rw[List.getElem?_set_self (by rw[o.llen];exact Nat.lt_trans lt h)] at e'
   obtain rfl:=Option.some.inj e'
   refine⟨(o.lots2 rk.2.2.2 rc.2.2.2 (Nat.ne_of_lt lt) lk lc).1,fun a ha=>?_⟩
   show a<n∧jF u.F k c a=k
   unfold jF
   rcases List.mem_append.mp ha with ha|ha
   ·have:=(o.lot k _ rk.2.2.2 lk).2 a ha
    exact⟨this.1,by rw[this.2,if_neg (Nat.ne_of_lt lt)]⟩
   ·have:=(o.lot c _ rc.2.2.2 lc).2 a ha
    exact⟨this.1,by rw[this.2,if_pos rfl]⟩
  ·rw[List.getElem?_set_ne kr] at e'
   have:=o.lot r l e e'
   refine⟨this.1,fun a ha=>⟨(this.2 a ha).1,?_⟩⟩
   show jF u.F k c a=r
   unfold jF
   rw[(this.2 a ha).2,if_neg (fun e=>cr e.symm)]
 ·show ((u.merged++[(k,c)]).map (·.2)).Nodup
  rw[List.map_append]
  refine List.nodup_append.mpr ⟨o.mnd,by simp,fun a ha b hb e=>?_⟩
  cases List.mem_singleton.mp hb
  exact(o.mgone a ha).2 (by rw[e];exact hc)
 ·intro x hx
  have hx:x∈(u.merged++[(k,c)]).map (·.2):=hx
  rw[List.map_append] at hx
  show x<n∧jF u.F k c x≠x
  unfold jF
  rcases List.mem_append.mp hx with hx|hx
  ·have:=o.mgone x hx
   refine⟨this.1,?_⟩
   split
   ·rename_i e
    intro e'
    have:=(o.root x this.1)
    rw[e] at this
    omega
   ·exact this.2
  ·cases List.mem_singleton.mp hx
   exact⟨h,by show (if u.F c=c then k else u.F c)≠c;rw[if_pos hc];exact Nat.ne_of_lt lt⟩
theorem c1305 (b:UniB g u) (o:UOk u n) (h:a<n) (e:u.F a=a) (hl:u.lots[a]?=some [a])
  (k:∀g' y,Fr [] g g'→At g' (0,0) y (.list [N a])→Q (.ref y) g'.st):callN T (d+2) (K 1305) [.ref 10,N a] g.st Q:=by
 have hn:=o.cap
 refine x13 b.lot fun A lo la ll=>?_
 refine x13 (ll a _ hl) fun x hx x0 ax=>?_
 refine w1305.mpr (w1305_0.mpr ?_)
 refine Qw b.o (Qb b.o (p:=K 1303) (by kernel_rfl) (by kernel_rfl) (c1303 b o h ?_))
 rw[e]
 refine Jm lo (Xq hx) (by rw[List.length_map,la,o.llen];exact Jb (leK hn)) ?_
 exact Xf (is:=[a]) ax (by show 1<60;decide) (Jj (0,0) fun g' y _ f hy=>k g' y f hy)
theorem rangeNN (h:n<cap) (h':m<cap) (k:Q n m):rangeV [N n,N m] Q:=by
 refine .inr ⟨n,m,rfl,⟨?_,?_,?_,?_⟩,k⟩<;>unfold cap at *<;>omega
theorem X6 (n m:Nat):intL (rangeL n m)=(List.range (m - n)).map fun i=>N (n+i):=by
 unfold rangeL intL
 rw[List.map_map,show ((m:Int) - n).toNat=m - n by exact Int.toNat_sub m n]
 rfl
theorem Jbf:(l++[x]).take l.length=l:=by rw[List.take_append_of_le_length (Nat.le_refl _),List.take_length]
theorem c1309 (b:UniB g u.make) (o:UOk u n) (hn:n<24) (k:∀g',Fr [11,12] g g'→UniB g' u→Q .none g'.st):callN T (d+3) (K 1309) [.ref 10,N n] g.st Q:=by
 have o':=o.make hn
 have lp:u.make.par.length=n+1:=o'.len
 refine w1309.mpr (w1309_0.mpr ?_)
 refine max2 (b:=0) (J0 b.o (Je b.par (by rw[Ja,lp];exact Jb (Nat.lt_of_lt_of_le hn (by decide))) ?_))
 rw[Ja,lp,Nat.max_eq_left (Nat.zero_le n)]
 refine rangeNN (Jb (leK (Nat.le_of_lt hn))) (Jb (Nat.lt_of_lt_of_le hn (by decide))) ⟨trivial,?_⟩
 rw[show (Src.items (intL (rangeL (n:Int) ((n+1:Nat):Int)))).all=[N n] by show intL _=_;rw[X6,show n+1 - n=1 by omega];rfl]
 refine J7 (fun r l st=>(r=[N n]∨r=[])∧∃g',st=g'.st∧Fr [] g g'∧∃a b c e f,l=[some (.ref 10),some (N n),a,b,c,e,f]) ?_ ?_ _ _ _ ⟨.inl rfl,g,rfl,Fr.refl,_,_,_,_,_,rfl⟩
 ·rintro v r l _ ⟨h,g1,rfl,f1,_,_,_,_,_,rfl⟩ kn' hk'
  rcases h with h|h
  ·cases h
   refine⟨trivial,?_⟩
   refine Jgk.mpr (Jgj.mpr ?_)
   have b1:=b.fr f1
   refine Qb b1.o (p:=K 1305) (by kernel_rfl) (by kernel_rfl) (c1305 b1 o' (Nat.lt_succ_self _) (o.out n (Nat.le_refl _)) (by show (u.lots++[_])[n]?=_;rw[←o.llen];simp) fun g2 y2 f2 h2=>⟨by decide,Jj (0,0) fun g3 y3 _ f3 h3=>?_⟩)
   refine Jas (h2.fr f3) h3 rfl rfl ?_
   rw[decide_eq_true rfl]
   exact bF (hk' _ _ ⟨.inr rfl,g3,rfl,(f1.trans f2).trans f3,_,_,_,_,_,rfl⟩)
  ·injection h
 ·rintro _ _ ⟨_,g1,rfl,f1,_,_,_,_,_,rfl⟩
  refine⟨trivial,?_⟩
  have b1:=b.fr f1
  refine x13 b1.lot fun A lo la ll=>?_
  have lA:A.length=n+1:=la.trans o'.llen
  refine x22 (Wg lA) fun A y q1_ lA'=>?_
  subst q1_
  refine w1309_2.mpr ?_
  refine J0 b1.o (Yd b1.par (by decide) (by rw[Ja,lp];exact Jb (Nat.lt_of_lt_of_le hn (by decide))) fun g2 c2 par2=>?_)
  have f2:=c2.fr b1.par
  have lo2:Fx g2 12 _:=lo.fr f2
  refine Qw (b1.o.fr f2) (Yd lo2 (by decide) (by rw[List.length_map,lA];exact Jb (Nat.lt_of_lt_of_le hn (by decide))) fun g3 c3 lo3=>?_)
  have f3:=c3.fr lo2
  have f13:Fr [11,12] g g3:=((f1.mono).trans f2).trans f3
  refine k g3 f13 ⟨b.o.fr f13,?_,⟨A,?_,by rw[lA',o.llen],?_⟩,b.mg.fr f13⟩
  ·rw[show natL u.make.par=natL u.par++[N u.par.length] from Jf,show n=(natL u.par).length by rw[Ja,o.len],Jbf] at par2
   exact At.fr par2 f3
  ·rw[List.map_append,show n=(A.map V.ref).length by rw[List.length_map,lA'],List.map_singleton,Jbf] at lo3
   exact lo3
  ·intro i l e
   have hi:i<u.lots.length:=(List.getElem?_eq_some_iff.mp e).1
   refine x13 (ll i l (by show (u.lots++[_])[i]?=_;rw[List.getElem?_append_left hi];exact e)) fun x hx x0 ax=>?_
   rw[List.getElem?_append_left (by rw[lA',←o.llen];exact hi)] at hx
   exact⟨x,hx,x0,(ax.fr f2).fr f3⟩
theorem Jkt {α:Type} {l:List α} {x y:α} (h:l[i]?=some x):(l.set i y).set i x=l:=by
 rw[List.set_set]
 exact List.ext_getElem? fun j=>by
  by_cases e:i=j
  ·subst e
   rw[List.getElem?_set_self (List.getElem?_eq_some_iff.mp h).1,h]
  ·rw[List.getElem?_set_ne e]
theorem c1308 {u:Uni} (o:UOk u n) (hk:u.F k=k) (hc:u.F c=c) (lt:k<c) (h:c<n) (b:UniB g (u.merge k c))
  (kk:∀g',Fr [11,13,100] g g'→UniB g' u→Q .none g'.st):callN T (d+1) (K 1308) [.ref 10,N u.merged.length] g.st Q:=by
 have hn:=o.cap
 have o':=o.merge hk hc lt h
 have hm:=o'.mlen
 rw[show (u.merge k c).merged.length=u.merged.length+1 from List.length_append] at hm
 have rk:=o.root k (Nat.lt_trans lt h)
 have rc:=o.root c h
 rw[hk] at rk
 rw[hc] at rc
 have lk:=getD_some (d:=[]) (show k<u.lots.length by rw[o.llen];exact Nat.lt_trans lt h)
 have lc:=getD_some (d:=[]) (show c<u.lots.length by rw[o.llen];exact h)
 have l2:=o.lots2 rk.2.2.2 rc.2.2.2 (Nat.ne_of_lt lt) lk lc
 refine w1308.mpr (w1308_0.mpr ?_)
 refine J1 (fun m l st=>(∃a b e f,l=[some (.ref 10),some (N u.merged.length),a,b,e,f])∧(m=1∧st=g.st∨m=0∧∃g',st=g'.st∧Fr [11,13,100] g g'∧UniB g' u)) 1
  ⟨⟨_,_,_,_,rfl⟩,.inl ⟨rfl,rfl⟩⟩ ?_
 rintro m l st ⟨⟨_,_,_,_,rfl⟩,hh⟩
 refine Jgl.mpr ?_
 have lm:(u.merge k c).merged.map pairV=u.merged.map pairV++[pairV (k,c)]:=List.map_append
 rcases hh with ⟨rfl,rfl⟩|⟨rfl,g',rfl,fr,b'⟩
 ·have mg:=b.mg
  rw[lm] at mg
  refine Q5 b.o (Je mg (by rw[List.length_append,List.length_map];exact Jb (by simp;exact Nat.le_of_lt (Nat.le_trans hm (leK hn)))) (max2 (b:=0) (gtN ?_)))
  rw[decide_eq_true (by simp),Jgn]
  refine bT (Q5 b.o (X7 mg (by decide) (by rw[List.length_append,List.length_map];exact Jb (by simp;exact Nat.le_of_lt (Nat.le_trans hm (leK hn)))) rfl fun g1 c1 mg1=>?_))
  have f1:Fr [13] g g1:=c1.fr mg
  show bindN _ _ [N k,N c] _ _
  refine Jcy.mpr (Jgm.mpr ?_)
  have par1:=b.par.fr f1
  refine x13 b.lot fun A lo la ll=>?_
  have hA:A.length≤1000:=by rw[la,show (u.merge k c).lots.length=u.lots.length from List.length_set ..,o.llen];exact leK hn
  refine J0 (b.o.fr f1) (Z0 par1 (by decide) (by rw[Ja,show (u.merge k c).par.length=u.par.length from List.length_set ..,o.len];exact h) (by rw[Ja,show (u.merge k c).par.length=u.par.length from List.length_set ..,o.len];exact Jb (leK hn)) fun g2 c2 par2=>?_)
  have f12:=c2.fr par1
  have f2:Fr [11,13,100] g g2:=(f1.mono).trans f12
  refine x13 (ll k (u.lots.getD k []++u.lots.getD c []) (List.getElem?_set_self (by rw[o.llen];exact Nat.lt_trans lt h))) fun x hx x0 ax=>?_
  refine x13 (ll c (u.lots.getD c []) ((List.getElem?_set_ne (Nat.ne_of_lt lt)).trans lc)) fun z hz z0 az=>?_
  have lo2:Fx g2 12 _:=(lo.fr f1).fr f12
  have ax2:=(ax.fr f1).fr f12
  have az2:=(az.fr f1).fr f12
  have hl:(natL (u.lots.getD k []++u.lots.getD c [])).length<cap:=by rw[Ja];exact Jb (Nat.le_trans l2.2 (leK hn))
  have o2:=b.o.fr f2
  have sk {Q:KV} (k:Q (.ref x) g2.st):subV (.ref 12) (N _) g2.st Q:=Jm lo2 (Xq hx) (by rw[List.length_map];exact Jb hA) k
  have l2':=l2.2
  rw[List.length_append] at l2'
  refine Qw o2 (sk (Qw o2 (sk (Je ax2 hl (Qw o2 (Jm lo2 (Xq hz) (by rw[List.length_map];exact Jb hA) (Je az2 (by rw[Ja];exact Jb (by omega)) (subN ?_ ?_))))))))
  ·rw[Ja,Ja,List.length_append];exact Nat.le_add_left _ _
  rw[Ja,Ja,List.length_append,Nat.add_sub_cancel]
  refine Yd ax2 x0 hl fun g3 c3 ax3=>?_
  have f23:Fr [100] g2 g3:=c3.fr ax2
  have f3:=f2.trans f23
  refine⟨0,by decide,⟨_,_,_,_,rfl⟩,.inr ⟨rfl,g3,rfl,f3,b.o.fr f3,?_,⟨A,lo2.fr f23,by rw[la];exact List.length_set ..,?_⟩,?_⟩⟩
  ·have e:(u.merge k c).par.set c c=u.par:=Jkt rc.2.2.2
   rw[←Jd4,e] at par2
   exact At.fr par2 f23
  ·intro i l e
   by_cases hi:k=i
   ·subst hi
    rw[lk] at e
    obtain rfl:=Option.some.inj e
    rw[Jf,show (u.lots.getD k []).length=(natL (u.lots.getD k [])).length from Ja.symm,List.take_append_of_le_length (Nat.le_refl _),List.take_length] at ax3
    exact⟨x,hx,x0,ax3⟩
   ·refine x13 (ll i l ((List.getElem?_set_ne hi).trans e)) fun w hw w0 aw=>?_
    have aw2:=(aw.fr f1).fr f12
    exact⟨w,hw,w0,aw2.ch c3 (aw2.ne ax2 (by simp;exact fun e=>hi e.symm))⟩
  ·exact(At.fr mg1 f12).fr f23
 ·refine Q5 b'.o (Je b'.mg (by rw[List.length_map];exact Jb (Nat.le_of_lt (Nat.le_trans hm (leK hn)))) (max2 (b:=0) (gtN ?_)))
  rw[decide_eq_false (by simp),w1308_1]
  exact bF (kk g' fr b')
noncomputable def Uni.roots (u:Uni) (n:Nat):List Nat:=(List.range n).filter fun a=>decide (u.F a=a)
theorem c1306 (b:UniB g u) (o:UOk u n) (k:∀g' y,Fr [] g g'→At g' (0,0) y (.list (natL (u.roots n)))→Q (.ref y) g'.st) :
  callN T (d+1) (K 1306) [.ref 10] g.st Q:=by
 have hn:=o.cap
 refine w1306.mpr (w1306_0.mpr ?_)
 refine J0 b.o (Je b.par (by rw[Ja,o.len];exact Jb (leK hn)) (rangeN (by rw[Ja,o.len];exact Jb (leK hn)) ⟨rfl,?_⟩))
 rw[Ja,o.len,show (Src.items (intL (rangeL 0 (n:Int)))).all=natL (List.range n) by
  show intL _=_;rw[show (0:Int)=((0:Nat):Int) from rfl,X6,Nat.sub_zero];exact List.map_congr_left fun i _=>by rw[Nat.zero_add]]
 refine Ja3 (W:=[]) (fun v=>match v with|.int i=>decide (u.F i.toNat=i.toNat)|_=>false) id _ (by rw[Ja,List.length_range];exact Jb (leK hn)) (fun _ _=>trivial) (fun v hv g' fr R hR=>?_) (fun g' fr=>?_)
 ·refine x12 (List.mem_map.mp hv) fun i hi q1_=>?_
  subst q1_
  have hi:=List.mem_range.mp hi
  have e:u.par[i]?=some (u.par[i]'(by rw[o.len];exact hi)):=List.getElem?_eq_getElem (by rw[o.len];exact hi)
  refine Jjr.mpr (Jjp.mpr ?_)
  have hR:=hR g' fr
  refine J0 (b.o.fr fr) (Jm (b.par.fr fr) (J3 e) (by rw[Ja,o.len];exact Jb (leK hn)) (eqN (bD (fun h=>?_) fun h=>?_)))
  ·refine bT ?_
   refine Jjq.mpr ?_
   have:u.F i=i:=by
    rcases o.uf i _ e with h'|h'
    ·exact h'.2
    ·exact absurd h (Nat.ne_of_lt h'.1)
   rw[show (match N i with|.int i=>decide (u.F i.toNat=i.toNat)|_=>false)=true from decide_eq_true this] at hR
   exact hR
  ·refine bF ?_
   have:u.F i≠i:=by
    rcases o.uf i _ e with h'|h'
    ·exact absurd h'.1 h
    ·have:=(o.root _ (Nat.lt_trans h'.1 hi)).1
     rw[h'.2] at this;exact Nat.ne_of_lt (Nat.lt_of_le_of_lt this h'.1)
   rw[show (match N i with|.int i=>decide (u.F i.toNat=i.toNat)|_=>false)=false from decide_eq_false this] at hR
   exact hR
 ·refine Jj (0,0) fun g2 y _ f2 h2=>k g2 y (fr.trans f2) ?_
  rw[List.map_id] at h2
  have:(natL (List.range n)).filter (fun v=>match v with|.int i=>decide (u.F i.toNat=i.toNat)|_=>false)=natL (u.roots n):=by
   unfold natL Uni.roots
   rw[List.filter_map]
   rfl
  rw[this] at h2
  exact h2
theorem Jcp (h:N a=N b):a=b:=by
 have:(a:Int)=b:=by injection h
 omega
theorem Jic:dget (dput es k v) k'=if k=k' then some v else dget es k':=by
 induction es with
 |nil=>show dget [(k,v)] k'=_;rw[Ji]
 |cons e es ih=>
  show dget (if e.1=k then (e.1,v)::es else e::dput es k v) k'=_
  by_cases h:e.1=k
  ·rw[if_pos h,Ji,Ji]
   by_cases h':k=k'
   ·rw[if_pos h',if_pos (h.trans h')]
   ·rw[if_neg h',if_neg (h▸h'),if_neg (h▸h')]
  ·rw[if_neg h,Ji,ih,Ji]
   by_cases h':e.1=k'
   ·rw[if_pos h',if_pos h',if_neg fun e=>h (h'.trans e.symm)]
   ·rw[if_neg h',if_neg h']
theorem X0:dget es k=none↔k∉es.map (·.1):=by
 induction es with
 |nil=>exact⟨fun _ h=>(by cases h),fun _=>rfl⟩
 |cons e es ih=>
  rw[Ji,List.map_cons,List.mem_cons]
  by_cases h:e.1=k
  ·rw[if_pos h]
   exact⟨fun c=>(by injection c),fun c=>absurd (.inl h.symm) c⟩
  ·rw[if_neg h,ih]
   exact⟨fun a b=>b.elim (fun e=>h e.symm) a,fun a b=>a (.inr b)⟩
theorem Jhv (h:k∈es.map (·.1)):(dput es k v).map (·.1)=es.map (·.1):=by
 induction es with
 |nil=>cases h
 |cons e es ih=>
  show (if e.1=k then (e.1,v)::es else e::dput es k v).map (·.1)=_
  by_cases c:e.1=k
  ·rw[if_pos c];rfl
  ·rw[if_neg c,List.map_cons,List.map_cons,ih ((List.mem_cons.mp h).resolve_left fun e=>c e.symm)]
theorem Jhw (h:es.map (·.1)=natL ks):(ddel es (N c)).map (·.1)=natL (ks.erase c):=by
 induction es generalizing ks with
 |nil=>cases ks with
  |nil=>rfl
  |cons _ _=>injection h
 |cons e es ih=>cases ks with
  |nil=>injection h
  |cons k ks=>
   have h:=List.cons.inj h
   have h1:e.1=N k:=h.1
   show (List.eraseP _ (e::es)).map _=_
   by_cases q:k=c
   ·subst q
    rw[List.eraseP_cons_of_pos (by rw[h1];exact decide_eq_true rfl),List.erase_cons_head];exact h.2
   ·rw[List.eraseP_cons_of_neg (by rw[h1];exact fun e=>q (Jcp (of_decide_eq_true e))),List.erase_cons_tail (by simpa using q),List.map_cons,h1]
    exact congrArg (N k::·) (ih h.2)
theorem Jid (ne:k≠k'):dget (ddel es k) k'=dget es k':=by
 induction es with
 |nil=>rfl
 |cons e es ih=>
  show dget (List.eraseP _ (e::es)) k'=_
  by_cases h:e.1=k
  ·rw[List.eraseP_cons_of_pos (p:=fun (e:V×V)=>decide (e.1=k)) (a:=e) (l:=es) (decide_eq_true h),Ji,if_neg (h▸ne)]
  ·rw[List.eraseP_cons_of_neg (p:=fun (e:V×V)=>decide (e.1=k)) (a:=e) (l:=es) (by simpa using h),Ji,Ji]
   show (if _ then _ else dget (ddel es k) k')=_
   rw[ih]
theorem W5:N n∈natL l↔n∈l:=by
 unfold natL
 rw[List.mem_map]
 exact⟨fun w0_=>x12 w0_ fun m h e=>Jcp e▸h,fun h=>⟨n,h,rfl⟩⟩
theorem Jt (h:es.map (·.1)=natL ks):keysOk (N c) es:=by
 refine⟨.int,rfl,fun e he=>?_⟩
 have:e.1∈natL ks:=h▸List.mem_map_of_mem he
 refine x12 (List.mem_map.mp this) fun n _ e'=>?_
 rw[←e'];rfl
theorem Wk {es:List (V×V)} (h:es.map (·.1)=natL ks):es.length=ks.length:=by
 rw[←Ja,←h,List.length_map]
noncomputable def upd (f:Nat→α) (i:Nat) (x:α):Nat→α:=fun j=>if j=i then x else f j
theorem Jd:upd f i x i=x:=if_pos rfl
theorem Jk (h:j≠i):upd f i x j=f j:=if_neg h
noncomputable def AbB (g:G) (S:Nat→Prop) (ab:Nat→List Nat):Prop:=
 ∃es e,Fx g 17 (.dict es e)∧(∃ks:List Nat,es.map (·.1)=natL ks∧ks.Nodup∧(∀c,c∈ks↔S c)∧∀c∈ks,c<24)∧
  ∀c,S c→∃x,dget es (N c)=some (.ref x)∧x≠0∧At g (101,c) x (.list (natL (ab c)))
theorem AbB.fr (b:AbB g S ab) (f:Fr W g g') (h:17∉W∧101∉W:=by decide):AbB g' S ab:=by
 refine x23 b fun es e h1 h2 h3=>?_
 exact⟨es,e,h1.fr f h.1,h2,fun c hc=>(h3 c hc).imp fun x h'=>⟨h'.1,h'.2.1,h'.2.2.fr f h.2⟩⟩
theorem AbB.same (b:AbB g S ab) (h:∀c,S c↔S' c) (h':∀c,S c→ab c=ab' c):AbB g S' ab':=by
 refine x23 b fun es e h1 q1_ h3=>?_
 refine x14 q1_ fun ks k1 k2 k3 k4=>?_
 exact⟨es,e,h1,⟨ks,k1,k2,fun c=>(k3 c).trans (h c),k4⟩,fun c hc=>h' c ((h c).mpr hc)▸h3 c ((h c).mpr hc)⟩
theorem AbB.get (b:AbB g S ab) (h:S c) (k:∀x,x≠0→At g (101,c) x (.list (natL (ab c)))→Q (.ref x) g.st) :
  subV (.ref 17) (N c) g.st Q:=by
 refine x23 b fun es e h1 q1_ h3=>?_
 refine x12 q1_ fun ks k1 _=>?_
 refine x13 (h3 c h) fun x e1 x0 ax=>?_
 exact Jn h1 (Jt k1) e1 (k x x0 ax)
theorem AbB.get' (b:AbB g S ab) (h:S c)
  (k:∀x,x≠0→At g (101,c) x (.list (natL (ab c)))→(∀g' l',Ch x g g'→At g' (101,c) x (.list (natL l'))→AbB g' S (upd ab c l'))→Q (.ref x) g.st) :
  subV (.ref 17) (N c) g.st Q:=by
 refine x23 b fun es e h1 q1_ h3=>?_
 refine x12 q1_ fun ks k1 h2=>?_
 refine x13 (h3 c h) fun x e1 x0 ax=>?_
 refine Jn h1 (Jt k1) e1 (k x x0 ax fun g' l' cc ax'=>⟨es,e,h1.ch cc (h1.ne ax (by simp)),⟨ks,k1,h2⟩,fun c' hc'=>?_⟩)
 refine x13 (h3 c' hc') fun y e2 y0 ay=>?_
 by_cases q:c'=c
 ·subst q
  have:y=x:=by
   have:V.ref y=V.ref x:=Option.some.inj (e2.symm.trans e1)
   injection this
  subst this
  exact⟨y,e2,y0,by rw[Jd];exact ax'⟩
 ·exact⟨y,e2,y0,by rw[Jk q];exact ay.ch cc (ay.ne ax (by simp;exact q))⟩
theorem AbB.put {S:Nat→Prop} {ab:Nat→List Nat} {Q:St→Prop} (b:AbB g S ab) (hc:c<24) (x0:x≠0) (ax:At g (101,c) x (.list (natL l)))
  (k:∀g',Fr [17] g g'→AbB g' (fun i=>S i∨i=c) (upd ab c l)→Q g'.st):setItemV (.ref 17) (N c) (.ref x) g.st Q:=by
 refine x23 b fun es e h1 q1_ h3=>?_
 refine x14 q1_ fun ks k1 k2 k3 k4=>?_
 have hl:=Qx 24 ks k2 k4
 refine J2 h1 (by decide) (Jt k1) (by rw[Wk k1];exact Jb (leK hl)) fun g' cc h1'=>k g' (cc.fr h1) ⟨_,_,h1',?_,fun i hi=>?_⟩
 ·by_cases hm:c∈ks
  ·exact⟨ks,by rw[Jhv (by rw[k1];exact W5.mpr hm)];exact k1,k2,fun i=>⟨fun h=>.inl ((k3 i).mp h),fun h=>h.elim (k3 i).mpr fun e=>e▸hm⟩,k4⟩
  ·refine⟨ks++[c],?_,?_,fun i=>?_,fun i hi=>?_⟩
   ·rw[W0 (X0.mpr (by rw[k1];exact fun h=>hm (W5.mp h))),List.map_append,k1,Jf];rfl
   ·exact List.nodup_append.mpr ⟨k2,by simp,fun a ha b hb e=>hm (by rw[←List.mem_singleton.mp hb,←e];exact ha)⟩
   ·rw[List.mem_append,List.mem_singleton,k3]
   ·rcases List.mem_append.mp hi with h|h
    ·exact k4 i h
    ·rw[List.mem_singleton.mp h];exact hc
 ·rw[Jic]
  by_cases q:i=c
  ·subst q
   exact⟨x,if_pos rfl,x0,by rw[Jd];exact ax.fr (cc.fr h1)⟩
  ·refine x13 (h3 i (hi.resolve_right q)) fun y e1 y0 ay=>?_
   exact⟨y,by rw[if_neg fun e=>q (Jcp e.symm)];exact e1,y0,by rw[Jk q];exact ay.fr (cc.fr h1)⟩
theorem AbB.erase {S:Nat→Prop} {ab:Nat→List Nat} (k1:es.map (·.1)=natL ks) (k2:ks.Nodup) (k3:∀c,c∈ks↔S c) (k4:∀c∈ks,c<24)
  (h3:∀c,S c→∃x,dget es (N c)=some (.ref x)∧x≠0∧At g (101,c) x (.list (natL (ab c)))) (f:Fr [17] g g') (h1:Fx g' 17 (.dict (ddel es (N c)) e')) :
  AbB g' (fun i=>S i∧i≠c) ab:=by
 refine⟨_,_,h1,⟨ks.erase c,Jhw k1,k2.erase c,fun i=>?_,fun i hi=>k4 i (List.mem_of_mem_erase hi)⟩,fun i hi=>?_⟩
 ·rw[List.Nodup.mem_erase_iff k2,k3];exact And.comm
 ·refine x13 (h3 i hi.1) fun y e1 y0 ay=>?_
  exact⟨y,by rw[Jid fun e=>hi.2 (Jcp e.symm)];exact e1,y0,ay.fr f⟩
theorem AbB.pop {S:Nat→Prop} {ab:Nat→List Nat} (b:AbB g S ab) (hc:S c)
  (k:∀g' x,x≠0→Fr [17] g g'→At g' (101,c) x (.list (natL (ab c)))→AbB g' (fun i=>S i∧i≠c) ab→Q (.ref x) g'.st):methQ d (.ref 17) "pop" g.st (fun k=>k [N c] g.st) Q:=by
 refine x23 b fun es e h1 q1_ h3=>?_
 refine x14 q1_ fun ks k1 k2 k3 k4=>?_
 refine x13 (h3 c hc) fun x e1 x0 ax=>?_
 have hl:=Qx 24 ks k2 k4
 refine Jl6 h1 (Jb9 h1 (by decide) (by rw[Wk k1];exact Jb (leK hl)) (Jt k1) e1 fun g' cc h1'=>k g' x x0 (cc.fr h1) (ax.fr (cc.fr h1)) (AbB.erase k1 k2 k3 k4 h3 (cc.fr h1) h1'))
theorem AbB.del {S:Nat→Prop} {ab:Nat→List Nat} {Q:St→Prop} (b:AbB g S ab) (hc:S c)
  (k:∀g',Fr [17] g g'→AbB g' (fun i=>S i∧i≠c) ab→Q g'.st):delItemV (.ref 17) (N c) g.st Q:=by
 refine x23 b fun es e h1 q1_ h3=>?_
 refine x14 q1_ fun ks k1 k2 k3 k4=>?_
 refine x13 (h3 c hc) fun x e1 x0 ax=>?_
 have hl:=Qx 24 ks k2 k4
 exact Jcb h1 (by decide) (Jt k1) (by rw[Wk k1];exact Jb (leK hl)) e1 fun g' cc h1'=>k g' (cc.fr h1) (AbB.erase k1 k2 k3 k4 h3 (cc.fr h1) h1')
end Mine
namespace Mine
set_option genCtorIdx true in
inductive Chg where
 |made (n:Nat)
 |known (x:Node)
 |edge (k many c a:Nat) (us:List Nat)
noncomputable def Chg.v:Chg→V
 |.made n=>.tup [.str "made",N n]
 |.known x=>.tup [.str "known",x.v]
 |.edge k m c a _=>.tup [.str "edge",N k,N m,N c,.ref a]
structure Core where
 ns:List Node
 u:Uni
 edges:Nat
 known:List (Node×Nat)
 ab:Nat→List Nat
structure Dyn where
 w:List Nat
 bk:Nat
 chs:List Chg
 mks:List (Nat×Nat)
 md:Nat
noncomputable def levF (w bk md:Nat):List (Str×V):=[("bank",.ref 5),("unions",.ref 10),("edges",.ref 14),("forest",.ref 15),("known",.ref 16),("above",.ref 17),("waiting",.ref w),("backs",N bk),("changes",.ref 19),("marks",.ref 20),("made",N md)]
noncomputable def levO (w bk md:Nat):O:=.inst (K 17) (levF w bk md)
noncomputable def markV (m:Nat×Nat):V:=.tup [N m.1,.ref m.2]
noncomputable def knD (l:List (Node×Nat)):List (V×V):=l.map fun e=>(e.1.v,N e.2)
noncomputable def kget (l:List (Node×Nat)) (x:Node):Option Nat:=(l.find? fun e=>decide (e.1=x)).map (·.2)
theorem Qy:dget (knD l) x.v=(kget l x).map N:=by
 induction l with
 |nil=>rfl
 |cons e l ih=>
  show dget ((e.1.v,N e.2)::knD l) x.v=_
  rw[Ji]
  unfold kget
  rw[List.find?_cons]
  by_cases h:e.1=x
  ·rw[if_pos (by rw[h]),decide_eq_true h];rfl
  ·rw[if_neg fun c=>h (Node.v_inj c),decide_eq_false h];exact ih
theorem Qh {l:List (Node×Nat)} {x:Node}:keysOk x.v (knD l):=⟨.tup,Q4,fun e h=>by
 refine x12 (List.mem_map.mp h) fun p _ q1_=>?_;subst q1_;exact Q4⟩
theorem Wa:(knD l).length=l.length:=List.length_map ..
noncomputable def RootS (n:Nat) (F:Nat→Nat):Nat→Prop:=fun i=>i<n∧F i=i
structure TopB (g:G) (y:Dyn) (wA:Nat):Prop where
 o:Fx g 4 (levO wA y.bk y.md)
 w0:wA≠0
 w:At g (102,0) wA (.list (natL y.w))
 mr:Fx g 20 (.list (y.mks.map markV))
 wn:wA∉y.mks.map (·.2)
 nd:(y.mks.map (·.2)).Nodup
 ms:∀m∈y.mks,m.2≠0∧At g (102,0) m.2 (.list [])
structure ChB (g:G) (chs:List Chg):Prop where
 l:Fx g 19 (.list (chs.map Chg.v))
 us:∀k m c a us,Chg.edge k m c a us∈chs→k≠c→a≠0∧At g (101,c) a (.list (natL us))
structure LvB (g:G) (c:Core) (y:Dyn):Prop where
 bank:BankB g c.ns
 uni:UniB g c.u
 ed:∃l,Fx g 14 (.list l)∧l.length=c.edges
 fo:∃l,Fx g 15 (.list l)∧l.length=c.u.merged.length
 kn:∃e,Fx g 16 (.dict (knD c.known) e)
 ab:AbB g (RootS c.ns.length c.u.F) c.ab
 ch:ChB g y.chs
 top:∃wA,TopB g y wA
noncomputable def WH:List Nat:=[4,5,6,7,8,9,10,11,12,13,14,15,16,17,19,20,100,101,102]
theorem TopB.fr (b:TopB g y wA) (f:Fr W g g') (h:4∉W∧20∉W∧102∉W:=by decide):TopB g' y wA:=
 ⟨b.o.fr f h.1,b.w0,b.w.fr f h.2.2,b.mr.fr f h.2.1,b.wn,b.nd,fun m hm=>⟨(b.ms m hm).1,(b.ms m hm).2.fr f h.2.2⟩⟩
theorem ChB.fr (b:ChB g chs) (f:Fr W g g') (h:19∉W∧101∉W:=by decide):ChB g' chs:=
 ⟨b.l.fr f h.1,fun k m c a us e n=>⟨(b.us k m c a us e n).1,(b.us k m c a us e n).2.fr f h.2⟩⟩
theorem LvB.fr (b:LvB g c y) (f:Fr W g g') (h:∀k∈WH,k∉W:=by decide):LvB g' c y:=by
 have m {k:Nat} (e:k∈WH:=by decide):k∉W:=h k e
 exact⟨b.bank.fr f ⟨m,m,m,m,m⟩,b.uni.fr f ⟨m,m,m,m,m⟩,b.ed.imp fun _ x=>⟨x.1.fr f m,x.2⟩,b.fo.imp fun _ x=>⟨x.1.fr f m,x.2⟩,b.kn.imp fun _ x=>x.fr f m,b.ab.fr f ⟨m,m⟩,b.ch.fr f ⟨m,m⟩,b.top.imp fun _ x=>x.fr f ⟨m,m,m⟩⟩
section
variable {g:G} {w bk md d:Nat} {Q:KV}
theorem J6 (o:Fx g 4 (levO w bk md)) (k:Q (.ref 5) g.st):attrV T (.ref 4) "bank" g.st Q:=Js o (by kernel_rfl) (by kernel_rfl) k
theorem J5 (o:Fx g 4 (levO w bk md)) (k:Q (.ref 10) g.st):attrV T (.ref 4) "unions" g.st Q:=Js o (by kernel_rfl) (by kernel_rfl) k
theorem Xv (o:Fx g 4 (levO w bk md)) (k:Q (.ref 14) g.st):attrV T (.ref 4) "edges" g.st Q:=Js o (by kernel_rfl) (by kernel_rfl) k
theorem Z7 (o:Fx g 4 (levO w bk md)) (k:Q (.ref 15) g.st):attrV T (.ref 4) "forest" g.st Q:=Js o (by kernel_rfl) (by kernel_rfl) k
theorem Zb (o:Fx g 4 (levO w bk md)) (k:Q (.ref 16) g.st):attrV T (.ref 4) "known" g.st Q:=Js o (by kernel_rfl) (by kernel_rfl) k
theorem Jv (o:Fx g 4 (levO w bk md)) (k:Q (.ref 17) g.st):attrV T (.ref 4) "above" g.st Q:=Js o (by kernel_rfl) (by kernel_rfl) k
theorem Wj (o:Fx g 4 (levO w bk md)) (k:Q (.ref w) g.st):attrV T (.ref 4) "waiting" g.st Q:=Js o (by kernel_rfl) (by kernel_rfl) k
theorem Xw (o:Fx g 4 (levO w bk md)) (k:Q (N bk) g.st):attrV T (.ref 4) "backs" g.st Q:=Js o (by kernel_rfl) (by kernel_rfl) k
theorem Qm (o:Fx g 4 (levO w bk md)) (k:Q (.ref 19) g.st):attrV T (.ref 4) "changes" g.st Q:=Js o (by kernel_rfl) (by kernel_rfl) k
theorem Xu (o:Fx g 4 (levO w bk md)) (k:Q (.ref 20) g.st):attrV T (.ref 4) "marks" g.st Q:=Js o (by kernel_rfl) (by kernel_rfl) k
theorem Jd8 (o:Fx g 4 (levO w bk md)) (k:Q (N md) g.st):attrV T (.ref 4) "made" g.st Q:=Js o (by kernel_rfl) (by kernel_rfl) k
theorem Jg (o:Fx g 4 (levO w bk md)) (h1:fget (levF w bk md) m=none) (h2:T.meth (K 17) m=some p)
  (k:A fun vs st=>callN T d p (.ref 4::vs) st Q):methQ d (.ref 4) m g.st A Q:=Wt o h1 h2 k
theorem Za (o:Fx g 4 (levO w bk md)) (h2:T.sup (K n) (K 17) m=some p)
  (k:A fun vs st=>callN T d p (.ref 4::vs) st Q):superQ d n (.ref 4) m g.st A Q:=⟨4,K 17,_,p,rfl,o.2,h2,k⟩
theorem Jx (o:Fx g 5 bankO) (h1:fget [("nodes",V.ref 6),("numbers",.ref 7),("weights",.ref 8),("depths",.ref 9)] m=none) (h2:T.meth (K 11) m=some p)
  (k:A fun vs st=>callN T d p (.ref 5::vs) st Q):methQ d (.ref 5) m g.st A Q:=Wt o h1 h2 k
end
theorem c1506 (h4:Fx g 4 (levO w bk md)) (b:UniB g u) (o:UOk u n) (h:a<n) (k:Q (N (u.F a)) g.st):callN T (d+2) (K 1506) [.ref 4,N a] g.st Q:=by
 refine w1506.mpr (w1506_0.mpr ?_)
 exact J5 h4 (Qb b.o (p:=K 1303) (by kernel_rfl) (by kernel_rfl) (c1303 b o h k))
theorem c1501 (h4:Fx g 4 (levO w bk md)) (b:BankB g ns) (hl:ns.length≤1000) (k:Q (N ns.length) g.st):callN T (d+2) (K 1501) [.ref 4] g.st Q:=by
 refine w1501.mpr (w1501_0.mpr ?_)
 exact J6 h4 (Jx b.o (p:=K 1101) (by kernel_rfl) (by kernel_rfl) (c1101 b hl k))
theorem c1512 (h4:Fx g 4 (levO w bk md)) (b:UniB g u) (o:UOk u n) (k:∀g' y,Fr [] g g'→At g' (0,0) y (.list (natL (u.roots n)))→Q (.ref y) g'.st) :
  callN T (d+2) (K 1512) [.ref 4] g.st Q:=by
 refine w1512.mpr (w1512_0.mpr ?_)
 exact J5 h4 (Qb b.o (p:=K 1306) (by kernel_rfl) (by kernel_rfl) (c1306 b o k))
noncomputable def sig (F:Nat→Nat) (x:Node):Node:=⟨x.op,x.kids.map F⟩
theorem Yu (h:∀k∈ks,f (N k)=N (F k)):(natL ks).map f=natL (ks.map F):=by
 unfold natL
 rw[List.map_map,List.map_map]
 exact List.map_congr_left h
theorem c1502 (h4:Fx g 4 (levO w bk md)) (bb:BankB g ns) (b:UniB g u) (on:NsOk ns) (o:UOk u ns.length) (h:ns[n]?=some x)
  (k:∀g',Fr [] g g'→Q (sig u.F x).v g'.st):callN T (d+3) (K 1502) [.ref 4,N n] g.st Q:=by
 have hn:=on.len
 have hx:=on.two x (List.mem_of_getElem? h)
 have hk:=on.kid n x h
 have hi:=(List.getElem?_eq_some_iff.mp h).1
 refine w1502.mpr (w1502_0.mpr ?_)
 refine⟨by decide,J6 h4 (Jx bb.o (p:=K 1107) (by kernel_rfl) (by kernel_rfl) (c1107 bb on h (J6 h4 (Jx bb.o (p:=K 1108) (by kernel_rfl) (by kernel_rfl) (c1108 bb on h (Qc ⟨rfl,?_⟩))))))⟩
 refine Wo (W:=[]) (fun v=>match v with|.int i=>N (u.F i.toNat)|v=>v) _ (by show (natL x.kids).length<cap;rw[Ja];exact Jb (leK hx)) (fun _ _ _=>Jjm) (fun _ _=>trivial) (fun v hv g' fr R hR=>?_) fun g1 f1=>?_
 ·refine x12 (List.mem_map.mp hv) fun i hi' q1_=>?_
  subst q1_
  refine Jjo.mpr (Jjn.mpr ?_)
  exact Jg (h4.fr fr) (p:=K 1506) (by kernel_rfl) (by kernel_rfl) (c1506 (h4.fr fr) (b.fr fr) o (by have:=hk i hi';exact Nat.lt_trans this.1 hi) (hR g' fr))
 rw[show (Src.items (natL x.kids)).all=natL x.kids from rfl,Yu (F:=u.F) fun _ _=>rfl]
 refine Jj (0,0) fun g2 y _ f2 h2=>?_
 refine Qz h2 (by rw[Ja,List.length_map];exact Jb (leK hx)) (addT (by rw[Ja,List.length_map];exact Jb (by simp;exact l1K hx)) ?_)
 exact k g2 (f1.trans f2)
theorem c1701 (h4:Fx g 4 (levO w bk md)) (h:Fx g 20 (.list l)) (hl:l.length≤1000) (k:Q (N l.length) g.st):callN T (d+1) (K 1701) [.ref 4] g.st Q:=by
 refine w1701.mpr (w1701_0.mpr ?_)
 exact Xu h4 (Je h (Jb hl) k)
end Mine
namespace Mine
noncomputable def Core.merge (c:Core) (k m:Nat):Core:=⟨c.ns,c.u.merge k m,c.edges+1,c.known,upd c.ab k (c.ab k++c.ab m)⟩
noncomputable def Core.edge (c:Core):Core:={c with edges:=c.edges+1}
structure COk (c:Core):Prop where
 ns:NsOk c.ns
 u:UOk c.u c.ns.length
 ab:∀i,RootS c.ns.length c.u.F i→(c.ab i).length≤48
 ed:c.edges≤100000
 kn:c.known.length≤100000
structure YOk (y:Dyn):Prop where
 w:y.w.length≤10000
 chs:y.chs.length≤100000
 mks:y.mks.length≤100
theorem isNone {st:St} {Q:Bool→Prop} (k:Q true):cmpV .Is .none .none st Q:=k
theorem isTup {xs:List V} {st:St} {Q:Bool→Prop} (k:Q false):cmpV .Is (.tup xs) .none st Q:=k
theorem cap5 (h:n≤1000000):n<cap:=by unfold cap;exact ltK h
theorem Wh (hk:F k=k) (ne:k≠m) (hn:k<n) (i:Nat):((RootS n F i∧i≠m)∨i=k)↔RootS n (jF F k m) i:=by
 unfold RootS jF
 constructor
 ·rintro (⟨⟨h1,h2⟩,h3⟩|rfl)
  ·exact⟨h1,by rw[h2,if_neg h3]⟩
  ·exact⟨hn,by rw[hk,if_neg ne]⟩
 ·rintro ⟨h1,h2⟩
  split at h2
  ·exact .inr h2.symm
  ·rename_i h
   exact .inl ⟨⟨h1,h2⟩,fun e=>h (by rw[h2,e])⟩
theorem Jd5 (o:UOk u n) (ha:a<n) (hc:c<n):min (u.F a) (u.F c)<n∧u.F (min (u.F a) (u.F c))=min (u.F a) (u.F c):=by
 have ra:=o.root a ha
 have rc:=o.root c hc
 rcases Nat.le_total (u.F a) (u.F c) with h|h
 ·rw[Nat.min_eq_left h];exact⟨ra.2.1,ra.2.2.1⟩
 ·rw[Nat.min_eq_right h];exact⟨rc.2.1,rc.2.2.1⟩
theorem Jd6 (o:UOk u n) (ha:a<n) (hc:c<n):max (u.F a) (u.F c)<n∧u.F (max (u.F a) (u.F c))=max (u.F a) (u.F c):=by
 have ra:=o.root a ha
 have rc:=o.root c hc
 rcases Nat.le_total (u.F a) (u.F c) with h|h
 ·rw[Nat.max_eq_right h];exact⟨rc.2.1,rc.2.2.1⟩
 ·rw[Nat.max_eq_left h];exact⟨ra.2.1,ra.2.2.1⟩
theorem c1509 (b:LvB g c y) (o:COk c) (yw:y.w.length≤10000) (ha:a<c.ns.length) (he:e<c.ns.length)
  (k0:c.u.F a=c.u.F e→∀g',Fr [14] g g'→LvB g' c.edge y→Q (.bool false) g'.st)
  (k1:c.u.F a≠c.u.F e→∀g',Fr [11,13,14,15,17,100,102] g g'→LvB g' (c.merge (min (c.u.F a) (c.u.F e)) (max (c.u.F a) (c.u.F e))) {y with w:=y.w++c.ab (max (c.u.F a) (c.u.F e))}→Q (.bool true) g'.st) :
  callN T (d+3) (K 1509) [.ref 4,N a,N e,r] g.st Q:=by
 have hn:=o.ns.len
 refine x11 b.top fun wA t=>?_
 refine x12 b.ed fun el he1 le=>?_
 have:=o.ed
 refine w1509.mpr (w1509_0.mpr ?_)
 refine Xv t.o (methA he1 ⟨by decide,Jz he1 (by decide) (cap5 (Nat.le_trans (Nat.le_of_eq le) (leK this))) fun g1 c1 ed1=>?_⟩)
 have f1:Fr [14] g g1:=c1.fr he1
 have h41:=t.o.fr f1
 have u1:=b.uni.fr f1
 refine J5 h41 (Qb u1.o (p:=K 1304) (by kernel_rfl) (by kernel_rfl) (c1304 u1 o.u ha he (fun eq g2 f2=>?_) fun ne g2 f2 u2=>?_))
 ·refine isNone (bT ?_)
  refine k0 eq g2 (f1.trans f2) ⟨(b.bank.fr f1).fr f2,u1.fr f2,⟨_,At.fr ed1 f2,by rw[List.length_append,le];rfl⟩,b.fo.imp fun _ x=>⟨(x.1.fr f1).fr f2,x.2⟩,b.kn.imp fun _ x=>(x.fr f1).fr f2,(b.ab.fr f1).fr f2,(b.ch.fr f1).fr f2,⟨wA,(t.fr f1).fr f2⟩⟩
 ·have k1:=k1 ne
  have hk:=Jd5 o.u ha he
  have hm:=Jd6 o.u ha he
  have lt:min (c.u.F a) (c.u.F e)<max (c.u.F a) (c.u.F e):=by exact mmx ne
  revert k1 hk hm lt u2
  generalize min (c.u.F a) (c.u.F e)=kept
  generalize max (c.u.F a) (c.u.F e)=gone
  intro u2 k1 hk hm lt
  refine isTup (bF ?_)
  show bindN _ _ [N kept,N gone] _ _
  refine Jgf.mpr (w1509_4.mpr ?_)
  have f02:Fr [11,13,14,15,17,100,102] g g2:=(f1.mono).trans f2
  have h42:=h41.fr f2
  refine x12 b.fo fun fl fo lf=>?_
  have fo2:Fx g2 15 _:=(fo.fr f1).fr f2
  have ed2:Fx g2 14 _:=At.fr ed1 f2
  have hml:=o.u.mlen
  refine Z7 h42 (methA fo2 (Xv h42 (Je ed2 (cap5 (by rw[List.length_append,le];simp;exact leK this)) (subN (b:=1) (by rw[List.length_append];simp) ?_))))
  refine Jz fo2 (by decide) (cap5 (Nat.le_trans (Nat.le_of_eq lf) (Nat.le_trans hml (leK hn)))) fun g3 c3 fo3=>?_
  have f23:Fr [15] g2 g3:=c3.fr fo2
  have h43:=h42.fr f23
  have ab3:=((b.ab.fr f1).fr f2).fr f23
  have w3:=((t.w.fr f1).fr f2).fr f23
  have sg:RootS c.ns.length c.u.F gone:=hm
  have sk:RootS c.ns.length c.u.F kept:=hk
  refine Wj h43 (methE w3 (Jv h43 (ab3.get sg fun x x0 ax=>?_)))
  have hg48:=o.ab gone sg
  have hk48:=o.ab kept sk
  refine Jef w3 ax t.w0 (cap5 (by rw[Ja,Ja];exact aK yw hg48)) fun g4 c4 w4=>?_
  have f34:Fr [102] g3 g4:=c4.fr w3
  have h44:=h43.fr f34
  have ab4:=ab3.fr f34
  refine Jv h44 (ab4.get sk fun z z0 az=>Jv h44 (ab4.pop sg fun g5 x' x'0 f45 ax' ab5=>?_))
  have az5:=az.fr f45
  refine addL az5 ax' (cap5 (by rw[Ja,Ja];exact aK hk48 hg48)) (Jj (101,kept) fun g6 q hq f56 hq6=>?_)
  rw[←Jf] at hq6
  have h46:=(h44.fr f45).fr f56
  refine Jv h46 ((ab5.fr f56).put (Nat.lt_of_lt_of_le hk.1 hn) (by have:=h44.fr f45;have:=At.lt this;exact n0 hq this) hq6 fun g7 f67 ab7=>?_)
  have f27:Fr [15,17,102] g2 g7:=((((f23.mono).trans f34).trans f45).trans f56).trans f67
  have f07:=f02.trans f27
  refine k1 g7 f07 ⟨b.bank.fr f07,u2.fr f27,⟨_,ed2.fr f27,by rw[List.length_append,le];rfl⟩,⟨_,((((At.fr fo3 f34).fr f45).fr f56).fr f67),by rw[List.length_append,lf];exact(List.length_append (as:=c.u.merged) (bs:=[(kept,gone)])).symm⟩,
   b.kn.imp fun _ x=>x.fr f07,?_,b.ch.fr f07,⟨wA,h46.fr f67,t.w0,?_,t.mr.fr f07,t.wn,t.nd,fun m hm'=>⟨(t.ms m hm').1,?_⟩⟩⟩
  ·exact ab7.same (Wh hk.2 (Nat.ne_of_lt lt) hk.1) fun i _=>rfl
  ·rw[Jf];exact((At.fr w4 f45).fr f56).fr f67
  ·have m3:=(((t.ms m hm').2.fr f1).fr f2).fr f23
   exact(((m3.ch c4 (fun e=>t.wn (e▸List.mem_map_of_mem hm'))).fr f45).fr f56).fr f67
noncomputable def WJ:List Nat:=[11,13,14,15,17,19,100,102]
theorem TopB.chs (t:TopB g y wA) (l:List Chg):TopB g {y with chs:=l} wA:=⟨t.o,t.w0,t.w,t.mr,t.wn,t.nd,t.ms⟩
theorem c1705 (b:LvB g c y) (o:COk c) (yo:YOk y) (ha:a<c.ns.length) (he:e<c.ns.length)
  (k0:c.u.F a=c.u.F e→∀m x us g',Fr WJ g g'→LvB g' c.edge {y with chs:=y.chs++[.edge (c.u.F a) m (c.u.F a) x us]}→Q (.bool false) g'.st)
  (k1:∀k m x,k=min (c.u.F a) (c.u.F e)→m=max (c.u.F a) (c.u.F e)→k<m→m<c.ns.length→c.u.F k=k→c.u.F m=m→∀g',Fr WJ g g'→
   LvB g' (c.merge k m) {y with chs:=y.chs++[.edge k (c.ab k).length m x (c.ab m)],w:=y.w++c.ab m}→Q (.bool true) g'.st) :
  callN T (d+4) (K 1705) [.ref 4,N a,N e,r] g.st Q:=by
 have hn:=o.ns.len
 refine x11 b.top fun wA t=>?_
 have hk:=Jd5 o.u ha he
 have hm:=Jd6 o.u ha he
 refine w1705.mpr (w1705_0.mpr ?_)
 refine⟨by decide,Jg t.o (p:=K 1506) (by kernel_rfl) (by kernel_rfl) (c1506 t.o b.uni o.u ha (Jg t.o (p:=K 1506) (by kernel_rfl) (by kernel_rfl) (c1506 t.o b.uni o.u he (Jj (0,0) fun g1 y1 _ f1 h1=>sorted2 h1 fun g2 y2 f2 h2=>Yb h2 ?_))))⟩
 refine Jf8.mpr (w1705_1.mpr ?_)
 have f12:=f1.trans f2
 have b2:=b.fr f12
 have t2:=t.fr f12
 refine Qm t2.o (methA b2.ch.l ⟨by decide,Jv t2.o (b2.ab.get hk fun x x0 ax=>Je ax (cap5 (by rw[Ja];have:=o.ab _ hk;exact leK this)) (Jv t2.o (b2.ab.get hm fun z z0 az=>?_)))⟩)
 rw[Ja]
 have:=yo.chs
 refine Jz b2.ch.l (by decide) (cap5 (by rw[List.length_map];exact leK this)) fun g3 c3 ch3=>?_
 have f23:Fr [19] g2 g3:=c3.fr b2.ch.l
 have t3:=t2.fr f23
 have f03:Fr WJ g g3:=(f12.mono).trans f23
 have chB:∀(g':G),Fr [11,13,14,15,17,100,102] g3 g'→∀us,(min (c.u.F a) (c.u.F e)≠max (c.u.F a) (c.u.F e)→us=c.ab (max (c.u.F a) (c.u.F e)))→
   ChB g' (y.chs++[.edge (min (c.u.F a) (c.u.F e)) (c.ab (min (c.u.F a) (c.u.F e))).length (max (c.u.F a) (c.u.F e)) z us]):=fun g' f us hu=>by
  refine⟨?_,fun k m c' a' us' hmem ne=>?_⟩
  ·rw[List.map_append];exact At.fr ch3 f
  ·rcases List.mem_append.mp hmem with h|h
   ·have:=b2.ch.us k m c' a' us' h ne
    exact⟨this.1,(this.2.fr f23).fr f⟩
   ·cases List.mem_singleton.mp h
    rw[hu ne]
    exact⟨z0,(az.fr f23).fr f⟩
 have b3:LvB g3 c {y with chs:=y.chs++[.edge (min (c.u.F a) (c.u.F e)) (c.ab (min (c.u.F a) (c.u.F e))).length (max (c.u.F a) (c.u.F e)) z (c.ab (max (c.u.F a) (c.u.F e)))]}:=
  ⟨b2.bank.fr f23,b2.uni.fr f23,b2.ed.imp fun _ x=>⟨x.1.fr f23,x.2⟩,b2.fo.imp fun _ x=>⟨x.1.fr f23,x.2⟩,b2.kn.imp fun _ x=>x.fr f23,b2.ab.fr f23,chB g3 Fr.refl _ fun _=>rfl,⟨wA,t3.chs _⟩⟩
 refine Za t3.o (p:=K 1509) (by kernel_rfl) ?_
 refine c1509 b3 o yo.w ha he (fun eq g4 f4 b4=>?_) fun ne g4 f4 b4=>?_
 ·rw[←eq,Nat.min_self,Nat.max_self] at b4
  exact k0 eq _ _ _ g4 (f03.trans f4) b4
 ·exact k1 _ _ _ rfl rfl (by exact mmx ne) hm.1 hk.2 hm.2 g4 (f03.trans f4) b4
noncomputable def Core.know (c:Core) (s:Node) (n:Nat):Core:={c with known:=c.known++[(s,n)]}
theorem Yv:knD (l++[(s,n)])=knD l++[(s.v,N n)]:=List.map_append
noncomputable def LookP (c:Core) (y:Dyn) (n:Nat) (s:Node) (add:List Chg) (P:Core→Dyn→Prop):Prop:=
 (∀m,kget c.known s=some m→c.u.F m=c.u.F n→P c y)∧
 (∀m,kget c.known s=some m→c.u.F m≠c.u.F n→∀k j x,k=min (c.u.F m) (c.u.F n)→j=max (c.u.F m) (c.u.F n)→k<j→j<c.ns.length→c.u.F k=k→c.u.F j=j→
  P (c.merge k j) {y with chs:=y.chs++[.edge k (c.ab k).length j x (c.ab j)],w:=y.w++c.ab j})∧
 (kget c.known s=none→P (c.know s n) {y with chs:=y.chs++add})
noncomputable def WL:List Nat:=[4,11,13,14,15,16,17,19,100,102]
theorem LvB.kn' (b:LvB g c y) (f:Fr [16] g g') (h:Fx g' 16 (.dict (knD l) e)):LvB g' {c with known:=l} y:=
 ⟨b.bank.fr f,b.uni.fr f,b.ed.imp fun _ x=>⟨x.1.fr f,x.2⟩,b.fo.imp fun _ x=>⟨x.1.fr f,x.2⟩,⟨e,h⟩,b.ab.fr f,b.ch.fr f,b.top.imp fun _ x=>x.fr f⟩
theorem c1505 (b:LvB g c y) (o:COk c) (yo:YOk y) (hx:c.ns[n]?=some x) (hm:∀m,kget c.known (sig c.u.F x)=some m→m<c.ns.length)
  (k:LookP c y n (sig c.u.F x) [] fun c' y'=>∀g',Fr WL g g'→LvB g' c' y'→Q .none g'.st) :
  callN T (d+5) (K 1505) [.ref 4,N n] g.st Q:=by
 have hn:=o.ns.len
 have hnl:=(List.getElem?_eq_some_iff.mp hx).1
 refine x11 b.top fun wA t=>?_
 refine x11 b.kn fun e kn=>?_
 have:=o.kn
 have fin:∀(g1:G) (m:Nat),Fr [] g g1→m<c.ns.length→kget c.known (sig c.u.F x)=some m→
   callN T (d+4) (K 1506) [.ref 4,N m] g1.st fun v10 s11=>methQ (d+4) (.ref 4) "find" s11 (fun k12=>k12 [N n] s11) fun v13 s14=>cmpV .NotEq v10 v13 s14 fun b15=>
    bothP b15 (methQ (d+4) (.ref 4) "join" s14 (fun k16=>1≤60∧k16 [N m,N n,(.tup [(.str "like")])] s14) fun _ s18=>Q .none s18) (Q .none s14):=fun g1 m f1 hml hk=>by
  have b1:=b.fr f1
  have t1:=t.fr f1
  refine c1506 t1.o b1.uni o.u hml (Jg t1.o (p:=K 1506) (by kernel_rfl) (by kernel_rfl) (c1506 t1.o b1.uni o.u hnl (neN (bDn (fun ne=>?_) fun eq=>?_))))
  ·refine Jg t1.o (p:=K 1705) (by kernel_rfl) (by kernel_rfl) ⟨by decide,c1705 b1 o yo hml hnl (fun eq=>absurd eq ne) fun a j z ea ej lt hj ra rj g2 f2 b2=>?_⟩
   exact k.2.1 m hk ne a j z ea ej lt hj ra rj g2 ((f1.mono).trans f2) b2
  ·exact k.1 m hk eq g1 f1.mono b1
 refine w1505.mpr (w1505_0.mpr ?_)
 refine Zb t.o (methSd kn (Jg t.o (p:=K 1502) (by kernel_rfl) (by kernel_rfl) (c1502 t.o b.bank b.uni o.ns o.u hx fun g1 f1=>?_)))
 have kn1:=kn.fr f1
 cases hk:kget c.known (sig c.u.F x) with
 |some m=>
  refine X5 kn1 (by decide) (by rw[Wa];exact cap5 (leK this)) Qh (v:=N m) (by rw[Qy,hk];rfl) ?_
  exact Jg (t.fr f1).o (p:=K 1506) (by kernel_rfl) (by kernel_rfl) (fin g1 m f1 (hm m hk) hk)
 |none=>
  refine Jan kn1 (by decide) (by rw[Wa];exact cap5 (leK this)) Qh (by rw[Qy,hk];rfl) fun g2 c2 kn2=>?_
  have f12:Fr [16] g1 g2:=c2.fr kn1
  rw[←Yv] at kn2
  have b2:=(b.fr f1).kn' f12 kn2
  have t2:=(t.fr f1).fr f12
  refine Jg t2.o (p:=K 1506) (by kernel_rfl) (by kernel_rfl) (c1506 t2.o b2.uni o.u hnl (Jg t2.o (p:=K 1506) (by kernel_rfl) (by kernel_rfl) (c1506 t2.o b2.uni o.u hnl (neN ?_))))
  rw[decide_eq_true rfl]
  refine bF (k.2.2 hk g2 ((f1.mono).trans f12) ?_)
  rw[List.append_nil];exact b2
theorem Jma {a b:Str} {st:St} {Q:Bool→Prop} (h:(V.str a).data=true) (h':(V.str b).data=true) (k:Q (decide (V.str a=V.str b))):cmpV .Eq (.str a) (.str b) st Q:=⟨⟨h,h'⟩,k⟩
theorem LvB.ch' (b:LvB g c y) (f:Fr [19] g g') (h:ChB g' l):LvB g' c {y with chs:=l}:=
 ⟨b.bank.fr f,b.uni.fr f,b.ed.imp fun _ x=>⟨x.1.fr f,x.2⟩,b.fo.imp fun _ x=>⟨x.1.fr f,x.2⟩,b.kn.imp fun _ x=>x.fr f,b.ab.fr f,h,b.top.imp fun _ x=>(x.fr f).chs _⟩
theorem ChB.snoc {l:List Chg} {h:Chg} (b:ChB g l) (f:Fr [19] g g') (h':Fx g' 19 (.list (l.map Chg.v++[h.v]))) (n:∀k m c a us,h≠.edge k m c a us):ChB g' (l++[h]):=
 ⟨by rw[List.map_append];exact h',fun k m c a us e ne=>by
  rcases List.mem_append.mp e with e|e
  ·have:=b.us k m c a us e ne
   exact⟨this.1,this.2.fr f⟩
  ·exact absurd (List.mem_singleton.mp e).symm (n k m c a us)⟩
theorem Jby {g:G} {d n:Nat} {c:Core} {y:Dyn} {x:Node} {Q:KV} (b:LvB g c y) (o:COk c) (yo:YOk y) (hc:y.chs.length<100000) (hx:c.ns[n]?=some x) (hm:∀m,kget c.known (sig c.u.F x)=some m→m<c.ns.length)
  (k:LookP c y n (sig c.u.F x) [.known (sig c.u.F x)] fun c' y'=>∀g',Fr WL g g'→LvB g' c' y'→Q .none g'.st) :
  methQ (d+5) (.ref 4) "node" g.st (fun k29=>k29 [N n] g.st) fun v30 s31=>attrV T (.ref 4) "known" s31 fun v32 s33=>cmpV .NotIn v30 v32 s33 fun b34=>
   bothP b34 (attrV T (.ref 4) "changes" s33 fun v35 s36=>methQ (d+5) v35 "append" s36 (fun k37=>2≤60∧k37 [(.tup [(.str "known"),v30])] s36) fun _ s39=>
    superQ (d+5) 1704 (.ref 4) "look_at" s39 (fun k40=>k40 [N n] s39) fun _ s42=>Q .none s42)
   (superQ (d+5) 1704 (.ref 4) "look_at" s33 (fun k43=>k43 [N n] s33) fun _ s45=>Q .none s45):=by
 refine x11 b.top fun wA t=>?_
 refine x11 b.kn fun e kn=>?_
 refine Jg t.o (p:=K 1502) (by kernel_rfl) (by kernel_rfl) (c1502 t.o b.bank b.uni o.ns o.u hx fun g1 f1=>?_)
 have b1:=b.fr f1
 have t1:=t.fr f1
 have kn1:=kn.fr f1
 refine Zb t1.o ?_
 cases hk:kget c.known (sig c.u.F x) with
 |some m=>
  refine Jk2 kn1 Qh (v:=N m) (by rw[Qy,hk];rfl) (bF (Za t1.o (p:=K 1505) (by kernel_rfl) (c1505 b1 o yo hx hm ⟨fun m hk e g' f b'=>?_,fun m hk ne a j z ea ej lt hj ra rj g' f b'=>?_,fun hk'=>?_⟩)))
  ·exact k.1 m hk e g' ((f1.mono).trans f) b'
  ·exact k.2.1 m hk ne a j z ea ej lt hj ra rj g' ((f1.mono).trans f) b'
  ·rw[hk] at hk';injection hk'
 |none=>
  refine nin_f kn1 Qh (by rw[Qy,hk];rfl) (bT (Qm t1.o (methA b1.ch.l ⟨by decide,Jz b1.ch.l (by decide) (cap5 (by rw[List.length_map];exact leK (Nat.le_of_lt hc))) fun g2 c2 ch2=>?_⟩)))
  have f12:Fr [19] g1 g2:=c2.fr b1.ch.l
  have b2:=b1.ch' f12 (b1.ch.snoc (h:=.known (sig c.u.F x)) f12 ch2 (by intros;simp))
  refine Za (t1.fr f12).o (p:=K 1505) (by kernel_rfl) (c1505 b2 o ⟨yo.w,by rw[List.length_append];exact hc,yo.mks⟩ hx hm ⟨fun m hk'=>?_,fun m hk'=>?_,fun _ g' f b'=>?_⟩)
  ·rw[hk] at hk';exact Jc hk'
  ·rw[hk] at hk';exact Jc hk'
  ·refine k.2.2 hk g' ((f1.mono).trans ((f12.mono (W:=WL)).trans f)) ?_
   rw[List.append_nil] at b'
   exact b'
theorem c1704 {g:G} {d n:Nat} {c:Core} {y:Dyn} {x:Node} {Q:KV} (b:LvB g c y) (o:COk c) (yo:YOk y) (hc:y.chs.length<100000) (hx:c.ns[n]?=some x) (hmd:n≠y.md)
  (hm:∀m,kget c.known (sig c.u.F x)=some m→m<c.ns.length)
  (k:LookP c y n (sig c.u.F x) [.known (sig c.u.F x)] fun c' y'=>∀g',Fr WL g g'→LvB g' c' y'→Q .none g'.st) :
  callN T (d+6) (K 1704) [.ref 4,N n] g.st Q:=by
 refine x11 b.top fun wA t=>?_
 refine w1704.mpr (Jf9.mpr ?_)
 refine Jd8 t.o (eqN ?_)
 rw[decide_eq_false hmd]
 exact bF (Jby b o yo hc hx hm k)
noncomputable def Closed (ns:List Node) (G:Nat→Nat):Prop:=∀(i j:Nat) (x y:Node),ns[i]?=some x→ns[j]?=some y→x.op=y.op→x.kids.map G=y.kids.map G→G i=G j
noncomputable def Told (P:List (Nat×Nat)) (G:Nat→Nat):Prop:=∀p∈P,G p.1=G p.2
noncomputable def Below (ns:List Node) (P:List (Nat×Nat)) (F:Nat→Nat):Prop:=∀G,Closed ns G→Told P G→∀a b,F a=F b→G a=G b
noncomputable def Rep (F:Nat→Nat):Prop:=∀a,F a≤a∧F (F a)=F a
structure IsCl (ns:List Node) (P:List (Nat×Nat)) (F:Nat→Nat):Prop where
 rep:Rep F
 closed:Closed ns F
 told:Told P F
 below:Below ns P F
theorem IsCl.unique (h:IsCl ns P F) (h':IsCl ns P F') (a:Nat):F a=F' a:=by
 have e1:F' (F a)=F' a:=h.below F' h'.closed h'.told _ _ (h.rep a).2
 have e2:F (F' a)=F a:=h'.below F h.closed h.told _ _ (h'.rep a).2
 have h1:=(h'.rep (F a)).1
 have h2:=(h.rep (F' a)).1
 rw[e1] at h1
 rw[e2] at h2
 exact Nat.le_antisymm h2 h1
theorem rep_j (h:Rep F) (hk:F k=k) (lt:k<j):Rep (jF F k j):=fun a=>by
 unfold jF
 have:=h a
 by_cases c:F a=j
 ·rw[if_pos c,hk,if_neg (Nat.ne_of_lt lt)];omega
 ·rw[if_neg c,this.2,if_neg c];exact⟨this.1,rfl⟩
theorem Jb1 (h:F a=F b):jF F k j a=jF F k j b:=by unfold jF;rw[h]
theorem Jl8 {F:Nat→Nat} {k j:Nat} {l l':List Nat} (h:l.map F=l'.map F):l.map (jF F k j)=l'.map (jF F k j):=by
 have e:∀l:List Nat,l.map (jF F k j)=(l.map F).map fun v=>if v=j then k else v:=fun l=>by rw[List.map_map];rfl
 rw[e,e,h]
theorem Wv {F G:Nat→Nat} (h:∀a b,F a=F b→G a=G b):∀{l l':List Nat},l.map F=l'.map F→l.map G=l'.map G:=by
 intro l_
 induction l_ with
 |nil=>
  intro w1_
  cases w1_ with
  |nil=>
   intro _
   exact rfl
  |cons x_ xs_=>
   intro e
   injection e
 |cons a l ih_=>
  intro w1_
  cases w1_ with
  |nil=>
   intro e
   injection e
  |cons b l'=>
   intro e
   have e:=List.cons.inj e
   rw[List.map_cons,List.map_cons,h a b e.1,ih_ e.2]
theorem Ja7 (hr:Rep F) (h:Below ns P F) (hj:F j=j) (e:∀G,Closed ns G→Told P G→G k=G j):Below ns P (jF F k j):=fun G hc ht a b hab=>by
 have hb:=h G hc ht
 have c:∀a,G (jF F k j a)=G a:=fun a=>by
  unfold jF
  by_cases q:F a=j
  ·rw[if_pos q,e G hc ht];exact(hb a j (by rw[q,hj])).symm
  ·rw[if_neg q];exact hb _ _ (hr a).2
 rw[←c a,←c b,hab]
noncomputable def kcount (ns:List Node) (F:Nat→Nat) (r n:Nat):Nat:=match ns[n]? with
 |some x=>x.kids.countP fun q=>decide (F q=r)
 |none=>0
theorem Qd (h:ns[n]?=none):kcount ns F r n=0:=by unfold kcount;rw[h]
theorem Qo (h:ns[n]?=some x):kcount ns F r n=x.kids.countP fun q=>decide (F q=r):=by unfold kcount;rw[h]
theorem Jlk (ne:k≠j):∀l:List Nat,l.countP (fun q=>decide (F q=k))+l.countP (fun q=>decide (F q=j))=l.countP (fun q=>decide (jF F k j q=k)):=by
 intro l_
 induction l_ with
 |nil=>
  exact rfl
 |cons z l ih_=>
  rw[List.countP_cons,List.countP_cons,List.countP_cons,←ih_]
  unfold jF
  by_cases q:F z=j
  ·rw[if_pos q,q];simp [ne.symm];exact Nat.le_antisymm (Nat.lt_succ_self _) (Nat.lt_succ_self _)
  ·rw[if_neg q];simp [q];exact Nat.add_right_comm _ _ _
structure CI (c:Core) (w:List Nat):Prop where
 users:∀n x,c.ns[n]?=some x→∀q∈x.kids,n∈c.ab (c.u.F q)
 cnt:∀r,RootS c.ns.length c.u.F r→∀n,(c.ab r).count n≤kcount c.ns c.u.F r n
 wlt:∀n∈w,n<c.ns.length
 full:∀n x,c.ns[n]?=some x→n∈w∨∃m,kget c.known (sig c.u.F x)=some m∧c.u.F m=c.u.F n
 ks:∀s m,(s,m)∈c.known→∃x,c.ns[m]?=some x∧s.op=x.op∧s.kids.map c.u.F=x.kids.map c.u.F
theorem Yw (h:kget l s=some m):(s,m)∈l:=by
 unfold kget at h
 cases e:l.find? (fun e=>decide (e.1=s)) with
 |none=>rw[e] at h;exact Jc h
 |some p=>
  rw[e] at h
  have h1:=List.find?_some e
  have h2:=List.mem_of_find?_eq_some e
  cases p with|mk a b=>
  have h1:a=s:=of_decide_eq_true h1
  obtain rfl:=Option.some.inj h
  rw[←h1];exact h2
theorem CI.kget_lt (h:CI c w) (e:kget c.known s=some m):m<c.ns.length:=by
 refine x12 (h.ks s m (Yw e)) fun x hx _=>?_
 exact(List.getElem?_eq_some_iff.mp hx).1
theorem CI.ab_lt (h:CI c w) (hr:RootS c.ns.length c.u.F r) (hn:n∈c.ab r):n<c.ns.length:=by
 have h1:=h.cnt r hr n
 have h2:=List.count_pos_iff.mpr hn
 cases e:c.ns[n]? with
 |none=>rw[Qd e] at h1;exact absurd h2 (Nat.not_lt_of_le h1)
 |some x=>exact(List.getElem?_eq_some_iff.mp e).1
theorem Jb0:∀(n b:Nat) (l:List Nat),(∀x∈l,x<n)→(∀x,l.count x≤b)→l.length≤n * b
 |0,_,l,h,_=>by cases l with
  |nil=>simp
  |cons a l=>exact absurd (h a (.head _)) (Nat.not_lt_zero _)
 |n+1,b,l,h,hb=>by
  have h1:=Jb0 n b (l.filter fun x=>!(x==n)) (fun x hx=>by
   have hx:=List.mem_filter.mp hx
   have:=h x hx.1
   have:x≠n:=by simpa using hx.2
   omega) fun x=>by
    have:(l.filter fun x=>!(x==n)).count x≤l.count x:=List.Sublist.count_le x List.filter_sublist
    have:=hb x;omega
  have h2:(l.filter fun x=>!(x==n)).length+l.count n=l.length:=by
   have:=List.length_eq_countP_add_countP (fun x=>x==n) (l:=l)
   rw[List.countP_eq_length_filter (p:=fun x=>¬(x==n)=true)] at this
   unfold List.count
   have e:(l.filter fun x=>!(x==n))=l.filter fun x=>decide (¬(x==n)=true):=by
    congr 1;funext x;cases x==n<;>rfl
   rw[e];exact(Nat.add_comm _ _).trans this.symm
  have:=hb n
  rw[Nat.succ_mul];exact Nat.le_trans (Nat.le_of_eq (Eq.symm h2)) (Nat.add_le_add h1 this)
theorem CI.ab_len (h:CI c w) (on:NsOk c.ns) (hr:RootS c.ns.length c.u.F r):(c.ab r).length≤48:=by
 have:=Jb0 c.ns.length 2 (c.ab r) (fun x hx=>h.ab_lt hr hx) fun x=>by
  have h1:=h.cnt r hr x
  cases e:c.ns[x]? with
  |none=>rw[Qd e] at h1;exact leK h1
  |some y=>
   rw[Qo e] at h1
   have:=on.two y (List.mem_of_getElem? e)
   have:=List.countP_le_length (p:=fun q=>decide (c.u.F q=r)) (l:=y.kids)
   omega
 have:=on.len
 omega
theorem CI.fine (h:CI c (w++[n])) (hx:c.ns[n]?=some x) (hk:kget c.known (sig c.u.F x)=some m) (e:c.u.F m=c.u.F n):CI c w:=by
 refine⟨h.users,h.cnt,fun i hi=>h.wlt i (List.mem_append_left _ hi),fun i z hz=>?_,h.ks⟩
 rcases h.full i z hz with hi|hi
 ·refine Or.elim (List.mem_append.mp hi) (fun hi=>?_) (fun hi=>?_)
  ·exact .inl hi
  ·obtain rfl:=List.mem_singleton.mp hi
   rw[hx] at hz;obtain rfl:=Option.some.inj hz
   exact .inr ⟨m,hk,e⟩
 ·exact .inr hi
theorem Qn:kget (l++l') s=(kget l s).or (kget l' s):=by
 unfold kget
 rw[List.find?_append]
 cases l.find? _<;>rfl
theorem CI.know (h:CI c (w++[n])) (hr:Rep c.u.F) (hx:c.ns[n]?=some x) (hk:kget c.known (sig c.u.F x)=none):CI (c.know (sig c.u.F x) n) w:=by
 refine⟨h.users,h.cnt,fun i hi=>h.wlt i (List.mem_append_left _ hi),fun i z hz=>?_,fun s m hm=>?_⟩
 ·show i∈w∨∃m,kget (c.known++[(sig c.u.F x,n)]) (sig c.u.F z)=some m∧c.u.F m=c.u.F i
  refine Or.elim (h.full i z hz) (fun hi=>?_) (fun r1_=>?_)
  ·rcases List.mem_append.mp hi with hi|hi
   ·exact .inl hi
   ·cases List.mem_singleton.mp hi
    have hz:c.ns[n]?=some z:=hz
    rw[hx] at hz;obtain rfl:=Option.some.inj hz
    refine .inr ⟨n,?_,rfl⟩
    rw[Qn,hk]
    unfold kget
    rw[List.find?_cons,decide_eq_true rfl];rfl
  ·refine x12 r1_ fun m hi e=>?_
   exact .inr ⟨m,by rw[Qn,hi];rfl,e⟩
 ·refine Or.elim (List.mem_append.mp hm) (fun hm=>?_) (fun hm=>?_)
  ·exact h.ks s m hm
  ·cases List.mem_singleton.mp hm
   refine⟨x,hx,rfl,?_⟩
   show (x.kids.map c.u.F).map c.u.F=_
   rw[List.map_map]
   exact List.map_congr_left fun q _=>(hr q).2
theorem CI.merge {c:Core} {w:List Nat} {k j:Nat} (h:CI c w) (lt:k<j) (hj:j<c.ns.length) (rk:c.u.F k=k) (rj:c.u.F j=j):CI (c.merge k j) (w++c.ab j):=by
 have sj:RootS c.ns.length c.u.F j:=⟨hj,rj⟩
 have sk:RootS c.ns.length c.u.F k:=⟨by exact Nat.lt_trans lt hj,rk⟩
 refine⟨fun n x hx q hq=>?_,fun r hr n=>?_,fun n hn=>?_,fun n x hx=>?_,fun s m hm=>?_⟩
 ·show n∈upd c.ab k (c.ab k++c.ab j) (jF c.u.F k j q)
  have hu:=h.users n x hx q hq
  unfold jF
  by_cases e:c.u.F q=j
  ·rw[if_pos e,Jd,←e];exact List.mem_append_right _ hu
  ·rw[if_neg e]
   by_cases e':c.u.F q=k
   ·rw[e',Jd,←e'];exact List.mem_append_left _ hu
   ·rw[Jk e'];exact hu
 ·have hr:RootS c.ns.length (jF c.u.F k j) r:=hr
  show (upd c.ab k (c.ab k++c.ab j) r).count n≤kcount c.ns (jF c.u.F k j) r n
  have two:(c.ab k).count n+(c.ab j).count n≤kcount c.ns (jF c.u.F k j) k n:=by
   have a:=h.cnt k sk n
   have b:=h.cnt j sj n
   cases q:c.ns[n]? with
   |none=>rw[Qd q] at a b ⊢;exact aK a b
   |some x=>
    rw[Qo q] at a b ⊢
    exact Nat.le_trans (Nat.add_le_add a b) (Nat.le_of_eq (Jlk (Nat.ne_of_lt lt) _))
  by_cases e:r=k
  ·subst e
   rw[Jd,List.count_append];exact two
  ·rcases (Wh rk (Nat.ne_of_lt lt) (Nat.lt_trans lt hj) r).mpr hr with ⟨h1,h2⟩|h1
   ·rw[Jk e]
    have a:=h.cnt r h1 n
    cases q:c.ns[n]? with
    |none=>rw[Qd q] at a ⊢;exact a
    |some x=>
     rw[Qo q] at a ⊢
     refine Nat.le_trans a (List.countP_mono_left fun z _ hz=>?_)
     have hz:c.u.F z=r:=of_decide_eq_true hz
     refine decide_eq_true ?_
     unfold jF
     rw[hz,if_neg h2]
   ·exact absurd h1 e
 ·refine Or.elim (List.mem_append.mp hn) (fun hn=>?_) (fun hn=>?_)
  ·exact h.wlt n hn
  ·exact h.ab_lt sj hn
 ·show n∈w++c.ab j∨∃m,kget c.known (sig (jF c.u.F k j) x)=some m∧jF c.u.F k j m=jF c.u.F k j n
  by_cases hn:n∈c.ab j
  ·exact .inl (List.mem_append_right _ hn)
  refine Or.elim (h.full n x hx) (fun hi=>?_) (fun r1_=>?_)
  ·exact .inl (List.mem_append_left _ hi)
  ·refine x12 r1_ fun m hi e=>?_
   refine .inr ⟨m,?_,Jb1 e⟩
   rw[show sig (jF c.u.F k j) x=sig c.u.F x from ?_]
   ·exact hi
   ·unfold sig
    congr 1
    refine List.map_congr_left fun q hq=>?_
    unfold jF
    exact if_neg fun (e:c.u.F q=j)=>hn (by rw[←e];exact h.users n x hx q hq)
 ·refine x13 (h.ks s m hm) fun x hx e1 e2=>?_
  exact⟨x,hx,e1,Jl8 e2⟩
theorem CI.joined (h:CI c (w++[n])) (hx:c.ns[n]?=some x) (hk:kget c.known (sig c.u.F x)=some m) (ek:k=min (c.u.F m) (c.u.F n)) (ej:j=max (c.u.F m) (c.u.F n))
  (lt:k<j) (hj:j<c.ns.length) (rk:c.u.F k=k) (rj:c.u.F j=j):CI (c.merge k j) (w++c.ab j):=by
 have hm:=h.merge lt hj rk rj
 have fmn:jF c.u.F k j m=jF c.u.F k j n:=by
  unfold jF
  rcases Nat.le_total (c.u.F m) (c.u.F n) with q|q
  ·rw[Nat.min_eq_left q] at ek
   rw[Nat.max_eq_right q] at ej
   rw[if_neg (neE lt ek),if_pos ej.symm,ek]
  ·rw[Nat.min_eq_right q] at ek
   rw[Nat.max_eq_left q] at ej
   rw[if_pos ej.symm,if_neg (neE lt ek),ek]
 refine⟨hm.users,hm.cnt,fun i hi=>hm.wlt i ?_,fun i z hz=>?_,hm.ks⟩
 ·refine Or.elim (List.mem_append.mp hi) (fun hi=>?_) (fun hi=>?_)
  ·exact List.mem_append_left _ (List.mem_append_left _ hi)
  ·exact List.mem_append_right _ hi
 ·by_cases hn:i∈c.ab j
  ·exact .inl (List.mem_append_right _ hn)
  refine Or.elim (hm.full i z hz) (fun hi=>?_) (fun hi=>?_)
  ·rcases List.mem_append.mp hi with hi|hi
   ·refine Or.elim (List.mem_append.mp hi) (fun hi=>?_) (fun hi=>?_)
    ·exact .inl (List.mem_append_left _ hi)
    ·cases List.mem_singleton.mp hi
     have hz:c.ns[n]?=some z:=hz
     rw[hx] at hz;obtain rfl:=Option.some.inj hz
     refine .inr ⟨m,?_,fmn⟩
     show kget c.known (sig (jF c.u.F k j) x)=some m
     rw[show sig (jF c.u.F k j) x=sig c.u.F x from ?_]
     ·exact hk
     ·unfold sig
      congr 1
      refine List.map_congr_left fun q hq=>?_
      unfold jF
      exact if_neg fun (e:c.u.F q=j)=>hn (by rw[←e];exact h.users n x hx q hq)
   ·exact absurd hi hn
  ·exact .inr hi
noncomputable def RecsOk (chs:List Chg) (c:Core):Prop:=∀k m j a us,Chg.edge k m j a us∈chs→k≠j→j<c.ns.length∧c.u.F j≠j
structure HI (c:Core) (w:List Nat) (chs:List Chg) (P:List (Nat×Nat)):Prop where
 ns:NsOk c.ns
 u:UOk c.u c.ns.length
 ci:CI c w
 below:Below c.ns P c.u.F
 told:Told P c.u.F
 rc:RecsOk chs c
theorem HI.rep (h:HI c w chs P):Rep c.u.F:=fun a=>h.u.rep a
theorem HI.cok (h:HI c w chs P) (he:c.edges≤100000) (hk:c.known.length≤100000):COk c:=
 ⟨h.ns,h.u,fun _ hi=>h.ci.ab_len h.ns hi,he,hk⟩
noncomputable def Core.make (c:Core) (x:Node):Core:=
 ⟨c.ns++[x],c.u.make,c.edges,c.known,fun i=>if i=c.ns.length then [] else if i∈x.kids.map c.u.F then c.ab i++[c.ns.length] else c.ab i⟩
inductive Undo:Chg→Core→Core→Prop
 |known (c:Core) (s:Node) (n:Nat):kget c.known s=none→Undo (.known s) (c.know s n) c
 |same (c:Core) (r m x:Nat) (us:List Nat):Undo (.edge r m r x us) c.edge c
 |edge (c:Core) (k j x:Nat):k<j→j<c.ns.length→c.u.F k=k→c.u.F j=j→Undo (.edge k (c.ab k).length j x (c.ab j)) (c.merge k j) c
 |made (c:Core) (x:Node):NsOk (c.ns++[x])→Undo (.made c.ns.length) (c.make x) c
inductive Back (pre:List Chg):List Chg→Core→Core→Prop
 |nil (c:Core):Back pre [] c c
 |snoc {h:Chg} {chs:List Chg} {c c1 c0:Core}:Undo h c c1→COk c1→RecsOk (pre++chs) c1→Back pre chs c1 c0→Back pre (chs++[h]) c c0
inductive Stk:List (Nat×Nat)→List Chg→Core→List (Core×List (Nat×Nat))→Prop
 |nil (chs:List Chg) (c:Core):Stk [] chs c []
 |push {mks:List (Nat×Nat)} {pre chs:List Chg} {c c1:Core} {sv:List (Core×List (Nat×Nat))} {P1:List (Nat×Nat)} {a:Nat} :
  Stk mks pre c1 sv→HI c1 [] pre P1→Back pre chs c c1→Stk (mks++[(pre.length,a)]) (pre++chs) c (sv++[(c1,P1)])
theorem Stk.step (s:Stk mks chs c sv) (u:Undo h c' c) (o:COk c) (r:RecsOk chs c):Stk mks (chs++[h]) c' sv:=by
 cases s with
 |nil=>exact .nil _ _
 |push s hi b=>rw[List.append_assoc];exact .push s hi (.snoc u o r b)
noncomputable def Pot (c:Core) (y:Dyn):Nat:=(24 - c.u.merged.length) * 49+y.w.length
theorem pe0 (h:x+p≤z) (k:q+1≤p):x+q≤z:=Nat.le_trans (Nat.add_le_add_left (Nat.le_of_lt k) x) h
theorem pe1 (h:x+p≤z) (k:q+1≤p):x+1+q≤z:=by rw[Nat.add_assoc,Nat.add_comm 1];exact Nat.le_trans (Nat.add_le_add_left k x) h
theorem RecsOk.merge (r:RecsOk chs c) (lt:k<j) (hj:j<c.ns.length) (rk:c.u.F k=k) (rj:c.u.F j=j) (hrep:Rep c.u.F):RecsOk (chs++[.edge k m j x us]) (c.merge k j):=by
 intro k' m' j' a us' h ne
 show j'<c.ns.length∧jF c.u.F k j j'≠j'
 unfold jF
 rcases List.mem_append.mp h with h|h
 ·have:=r k' m' j' a us' h ne
  refine⟨this.1,?_⟩
  have hr:=hrep j'
  split
  ·rename_i e
   intro e'
   omega
  ·exact this.2
 ·cases List.mem_singleton.mp h
  exact⟨hj,by rw[if_pos rj];exact Nat.ne_of_lt lt⟩
theorem RecsOk.snoc (r:RecsOk chs c) (n:∀k m j a us,h=.edge k m j a us→k=j):RecsOk (chs++[h]) c:=by
 intro k m j a us e ne
 rcases List.mem_append.mp e with e|e
 ·exact r k m j a us e ne
 ·exact absurd (n k m j a us (List.mem_singleton.mp e).symm) ne
theorem HI.look (h:HI c (w++[n]) chs P) (hx:c.ns[n]?=some x) :
  (∀m,kget c.known (sig c.u.F x)=some m→c.u.F m=c.u.F n→HI c w chs P)∧
  (∀m,kget c.known (sig c.u.F x)=some m→∀k j a,k=min (c.u.F m) (c.u.F n)→j=max (c.u.F m) (c.u.F n)→k<j→j<c.ns.length→c.u.F k=k→c.u.F j=j→
   HI (c.merge k j) (w++c.ab j) (chs++[.edge k (c.ab k).length j a (c.ab j)]) P)∧
  (kget c.known (sig c.u.F x)=none→HI (c.know (sig c.u.F x) n) w (chs++[.known (sig c.u.F x)]) P):=by
 refine⟨fun m hk e=>⟨h.ns,h.u,h.ci.fine hx hk e,h.below,h.told,h.rc⟩,fun m hk k j a ek ej lt hj rk rj=>?_,fun hk=>⟨h.ns,h.u,h.ci.know h.rep hx hk,h.below,h.told,h.rc.snoc (by intros;contradiction)⟩⟩
 refine⟨h.ns,h.u.merge rk rj lt hj,h.ci.joined hx hk ek ej lt hj rk rj,Ja7 h.rep h.below rj fun G hc ht=>?_,fun p hp=>Jb1 (h.told p hp),h.rc.merge lt hj rk rj h.rep⟩
 refine x13 (h.ci.ks _ _ (Yw hk)) fun z hz e1 e2=>?_
 have hb:=h.below G hc ht
 have e3:x.kids.map c.u.F=z.kids.map c.u.F:=by
  rw[←e2]
  show _=(x.kids.map c.u.F).map c.u.F
  rw[List.map_map]
  exact List.map_congr_left fun q _=>(h.rep q).2.symm
 have e4:G n=G m:=hc n m x z hx hz e1 (Wv hb e3)
 have e5:G (c.u.F m)=G m:=hb _ _ (h.rep m).2
 have e6:G (c.u.F n)=G n:=hb _ _ (h.rep n).2
 rcases Nat.le_total (c.u.F m) (c.u.F n) with q|q
 ·rw[Nat.min_eq_left q] at ek
  rw[Nat.max_eq_right q] at ej
  rw[ek,ej,e5,e6,e4]
 ·rw[Nat.min_eq_right q] at ek
  rw[Nat.max_eq_left q] at ej
  rw[ek,ej,e5,e6,e4]
theorem HI.closed (h:HI c [] chs P):IsCl c.ns P c.u.F:=by
 refine⟨h.rep,fun i j x y hx hy eo ek=>?_,h.told,h.below⟩
 rcases h.ci.full i x hx with hi|⟨m,hm,e⟩
 ·cases hi
 rcases h.ci.full j y hy with hi|⟨m',hm',e'⟩
 ·cases hi
 have:sig c.u.F x=sig c.u.F y:=by unfold sig;rw[eo,ek]
 rw[this,hm'] at hm
 obtain rfl:=Option.some.inj hm
 rw[←e,←e']
theorem TopB.w' {g g':G} {y:Dyn} {wA:Nat} {w:List Nat} (t:TopB g y wA) (cc:Ch wA g g') (h:At g' (102,0) wA (.list (natL w))):TopB g' {y with w:=w} wA:=
 ⟨t.o.ch cc (t.o.ne t.w (by simp)),t.w0,h,t.mr.ch cc (t.mr.ne t.w (by simp)),t.wn,t.nd,fun m hm=>⟨(t.ms m hm).1,(t.ms m hm).2.ch cc fun e=>t.wn (e▸List.mem_map_of_mem hm)⟩⟩
theorem LvB.w' (b:LvB g c y) (t:TopB g y wA) (cc:Ch wA g g') (h:At g' (102,0) wA (.list (natL w))):LvB g' c {y with w:=w}:=
 have f:Fr [102] g g':=cc.fr t.w
 ⟨b.bank.fr f,b.uni.fr f,b.ed.imp fun _ x=>⟨x.1.fr f,x.2⟩,b.fo.imp fun _ x=>⟨x.1.fr f,x.2⟩,b.kn.imp fun _ x=>x.fr f,b.ab.fr f,b.ch.fr f,⟨wA,t.w' cc h⟩⟩
inductive Jlv (g:G) (c:Core) (y:Dyn) (P:List (Nat×Nat)) (sv:List (Core×List (Nat×Nat))) (n:Nat) (l:Loc) (st:St):Prop
 |mk (h1_:(∃x_len,l=[some (.ref 4),x_len])) (g') (c') (y') (h2_:st=g'.st) (h3_:Fr WL g g') (h4_:LvB g' c' y') (h5_:HI c' y'.w y'.chs P) (h6_:Stk y'.mks y'.chs c' sv) (h7_:y'.bk=y.bk) (h8_:y'.mks=y.mks) (h9_:y'.md=y.md) (h10_:c'.ns=c.ns) (h11_:c'.edges+Pot c' y'≤c.edges+Pot c y) (h12_:c'.known.length+Pot c' y'≤c.known.length+Pot c y) (h13_:y'.chs.length+Pot c' y'≤y.chs.length+Pot c y) (h14_:Pot c' y'≤Pot c y) (h15_:n=Pot c' y')
theorem c1510 (b:LvB g c y) (h:HI c y.w y.chs P) (s:Stk y.mks y.chs c sv) (hmd:y.md=c.ns.length) (hmk:y.mks.length≤100)
  (b1:c.edges+Pot c y≤90000) (b2:c.known.length+Pot c y≤90000) (b3:y.chs.length+Pot c y≤90000) (b4:Pot c y≤9000)
  (k:∀g' c' y',Fr WL g g'→LvB g' c' y'→HI c' [] y'.chs P→Stk y'.mks y'.chs c' sv→y'.w=[]→y'.bk=y.bk→y'.mks=y.mks→y'.md=y.md→c'.ns=c.ns→
   c'.edges≤c.edges+Pot c y→c'.known.length≤c.known.length+Pot c y→y'.chs.length≤y.chs.length+Pot c y→Q .none g'.st):callN T (d+7) (K 1510) [.ref 4] g.st Q:=by
 refine w1510.mpr (w1510_0.mpr ?_)
 refine J1 (Jlv g c y P sv) (Pot c y)
  ⟨⟨_,rfl⟩,g,c,y,rfl,Fr.refl,b,h,s,rfl,rfl,rfl,rfl,Nat.le_refl _,Nat.le_refl _,Nat.le_refl _,Nat.le_refl _,rfl⟩ ?_
 rintro n l st ⟨⟨_,rfl⟩,g',c',y',rfl,fr,b',h',s',ebk,emk,emd,ens,q1,q2,q3,q4,rfl⟩
 refine x11 b'.top fun wA t=>?_
 have hw:y'.w.length≤9000:=Nat.le_trans (Nat.le_add_left _ _) (Nat.le_trans q4 b4)
 refine Jgd.mpr ?_
 refine Wj t.o (Je t.w (by rw[Ja];exact cap5 (leK hw)) (gtN (b:=0) (bD (fun hpos=>?_) fun hz=>?_)))
 ·rw[Ja] at hpos
  refine x22 (Wg (show y'.w.length=(y'.w.length - 1)+1 by exact Eq.symm (Nat.sub_add_cancel hpos))) fun w n ew lw=>?_
  refine Jge.mpr ?_
  have hn:n<c'.ns.length:=h'.ci.wlt n (by rw[ew];simp)
  have hx:c'.ns[n]?=some (c'.ns[n]):=List.getElem?_eq_getElem hn
  refine Jg t.o (p:=K 1704) (by kernel_rfl) (by kernel_rfl) (Wj t.o (X7 t.w t.w0 (by rw[Ja];exact cap5 (leK hw)) (ys:=natL w) (v:=N n) (by rw[ew,Jf];rfl) fun g1 cc w1=>?_))
  have bb:=b'.w' t cc w1
  have f1:Fr WL g g1:=fr.trans (cc.fr t.w)
  have hh:=h'
  rw[ew] at hh
  have hl:=hh.look hx
  have pot:Pot c' y'=(24 - c'.u.merged.length) * 49+(w.length+1):=by unfold Pot;rw[ew,List.length_append];rfl
  have ok:=h'.cok (leK (Nat.le_trans (Nat.le_of_add_right_le q1) b1)) (leK (Nat.le_trans (Nat.le_of_add_right_le q2) b2))
  have hc:=Nat.le_trans (Nat.le_of_add_right_le q3) b3
  have hw1:w.length+1≤9000:=by rw[ew,List.length_append] at hw;exact hw
  refine c1704 bb ok ⟨leK (Nat.le_of_lt hw1),leK hc,by show y'.mks.length≤100;rw[emk];exact hmk⟩ (ltK hc) hx (by show n≠y'.md;rw[emd,hmd,←ens];exact Nat.ne_of_lt hn) (fun m hm=>h'.ci.kget_lt hm)
   ⟨fun m hk e g2 f2 b2=>?_,fun m hk ne a j z ea ej lt hj ra rj g2 f2 b2=>?_,fun hk g2 f2 b2=>?_⟩
  ·have hp:Pot c' {y' with w:=w}+1≤Pot c' y':=Nat.le_of_eq pot.symm
   refine⟨_,?_,⟨_,rfl⟩,g2,c',_,rfl,f1.trans f2,b2,hl.1 m hk e,s',ebk,emk,emd,ens,?_,?_,?_,?_,rfl⟩
   ·exact hp
   ·exact pe0 q1 hp
   ·exact pe0 q2 hp
   ·exact pe0 q3 hp
   ·exact Nat.le_trans (Nat.le_of_lt hp) q4
  ·have hh2:=hl.2.1 m hk a j z ea ej lt hj ra rj
   have ml:=hh2.u.mlen
   have ml:c'.u.merged.length+1≤c'.ns.length:=by
    have e:(c'.merge a j).u.merged.length=c'.u.merged.length+1:=List.length_append
    rw[←e];exact ml
   have:=h'.ns.len
   have hab:=h'.ci.ab_len h'.ns ⟨hj,rj⟩
   have hp:Pot (c'.merge a j) {y' with chs:=y'.chs++[.edge a (c'.ab a).length j z (c'.ab j)],w:=w++c'.ab j}+1≤Pot c' y':=by
    rw[pot]
    unfold Pot
    rw[show (c'.merge a j).u.merged.length=c'.u.merged.length+1 from List.length_append,List.length_append]
    exact potA (Nat.le_trans ml this) hab
   refine⟨_,?_,⟨_,rfl⟩,g2,_,_,rfl,f1.trans f2,b2,hh2,s'.step (.edge c' a j z lt hj ra rj) ok h'.rc,ebk,emk,emd,ens,?_,?_,?_,?_,rfl⟩
   ·exact hp
   ·exact pe1 q1 hp
   ·exact pe0 q2 hp
   ·rw[List.length_append];exact pe1 q3 hp
   ·exact Nat.le_trans (Nat.le_of_lt hp) q4
  ·have hp:Pot (c'.know (sig c'.u.F c'.ns[n]) n) {y' with w:=w,chs:=y'.chs++[.known (sig c'.u.F c'.ns[n])]}+1≤Pot c' y':=Nat.le_of_eq pot.symm
   refine⟨_,?_,⟨_,rfl⟩,g2,_,_,rfl,f1.trans f2,b2,hl.2.2 hk,s'.step (.known c' _ n hk) ok h'.rc,ebk,emk,emd,ens,?_,?_,?_,?_,rfl⟩
   ·exact hp
   ·exact pe0 q1 hp
   ·rw[show (c'.know (sig c'.u.F c'.ns[n]) n).known.length=c'.known.length+1 from List.length_append];exact pe1 q2 hp
   ·rw[List.length_append];exact pe1 q3 hp
   ·exact Nat.le_trans (Nat.le_of_lt hp) q4
 ·rw[Ja] at hz
  have ew:y'.w=[]:=List.eq_nil_of_length_eq_zero (Nat.eq_zero_of_not_pos hz)
  refine w1510_1.mpr ?_
  rw[ew] at h'
  exact k g' c' y' fr b' h' s' ew ebk emk emd ens (Nat.le_of_add_right_le q1) (Nat.le_of_add_right_le q2) (Nat.le_of_add_right_le q3)
theorem Told.snoc {G:Nat→Nat}:Told (P++[(a,b)]) G↔Told P G∧G a=G b:=by
 constructor
 ·exact fun h=>⟨fun p hp=>h p (List.mem_append_left _ hp),h (a,b) (by simp)⟩
 ·rintro ⟨h,e⟩ p hp
  rcases List.mem_append.mp hp with hp|hp
  ·exact h p hp
  ·obtain rfl:=List.mem_singleton.mp hp;exact e
theorem HI.tell (h:HI c w chs P) (a e:Nat) :
  (c.u.F a=c.u.F e→∀m x us,HI c.edge w (chs++[.edge (c.u.F a) m (c.u.F a) x us]) (P++[(a,e)]))∧
  (∀k j x,k=min (c.u.F a) (c.u.F e)→j=max (c.u.F a) (c.u.F e)→k<j→j<c.ns.length→c.u.F k=k→c.u.F j=j→
   HI (c.merge k j) (w++c.ab j) (chs++[.edge k (c.ab k).length j x (c.ab j)]) (P++[(a,e)])):=by
 refine⟨fun eq m x us=>⟨h.ns,h.u,⟨h.ci.users,h.ci.cnt,h.ci.wlt,h.ci.full,h.ci.ks⟩,fun G hc ht=>h.below G hc (Told.snoc.mp ht).1,Told.snoc.mpr ⟨h.told,eq⟩,h.rc.snoc fun k m j a us e=>by cases e;rfl⟩,fun k j x ek ej lt hj rk rj=>?_⟩
 have hb:Below c.ns (P++[(a,e)]) c.u.F:=fun G hc ht=>h.below G hc (Told.snoc.mp ht).1
 refine⟨h.ns,h.u.merge rk rj lt hj,h.ci.merge lt hj rk rj,Ja7 h.rep hb rj fun G hc ht=>?_,Told.snoc.mpr ⟨fun p hp=>Jb1 (h.told p hp),?_⟩,h.rc.merge lt hj rk rj h.rep⟩
 ·have ht:=Told.snoc.mp ht
  have hb:=h.below G hc ht.1
  have e5:G (c.u.F a)=G a:=hb _ _ (h.rep a).2
  have e6:G (c.u.F e)=G e:=hb _ _ (h.rep e).2
  rcases Nat.le_total (c.u.F a) (c.u.F e) with q|q
  ·rw[Nat.min_eq_left q] at ek
   rw[Nat.max_eq_right q] at ej
   rw[ek,ej,e5,e6,ht.2]
  ·rw[Nat.min_eq_right q] at ek
   rw[Nat.max_eq_left q] at ej
   rw[ek,ej,e5,e6,ht.2]
 ·show jF c.u.F k j a=jF c.u.F k j e
  unfold jF
  rcases Nat.le_total (c.u.F a) (c.u.F e) with q|q
  ·rw[Nat.min_eq_left q] at ek
   rw[Nat.max_eq_right q] at ej
   rw[if_neg (neE lt ek),if_pos ej.symm,ek]
  ·rw[Nat.min_eq_right q] at ek
   rw[Nat.max_eq_left q] at ej
   rw[if_pos ej.symm,if_neg (neE lt ek),ek]
theorem c1508 (b:LvB g c y) (h:HI c y.w y.chs P) (s:Stk y.mks y.chs c sv) (o:COk c) (yo:YOk y)
  (ha:a<c.ns.length) (he:e<c.ns.length)
  (k:∀g' c' y' v,Fr WJ g g'→LvB g' c' y'→HI c' y'.w y'.chs (P++[(a,e)])→Stk y'.mks y'.chs c' sv→y'.bk=y.bk→y'.mks=y.mks→y'.md=y.md→c'.ns=c.ns→
   c'.edges≤c.edges+1→c'.known=c.known→y'.chs.length≤y.chs.length+1→Pot c' y'≤Pot c y→Q v g'.st):callN T (d+5) (K 1508) [.ref 4,N a,N e,r] g.st Q:=by
 refine x11 b.top fun wA t=>?_
 have ht:=h.tell a e
 refine w1508.mpr (w1508_0.mpr ?_)
 refine Jg t.o (p:=K 1705) (by kernel_rfl) (by kernel_rfl) (c1705 b o yo ha he (fun eq m x us g' f' b'=>?_) fun kk m x ek em lt hm rk rm g' f' b'=>?_)
 ·exact k g' _ _ _ f' b' (ht.1 eq m x us) (s.step (.same c _ m x us) o h.rc) rfl rfl rfl rfl (Nat.le_refl _) rfl (by rw[List.length_append];exact Nat.le_refl _) (Nat.le_refl _)
 ·have hh:=ht.2 kk m x ek em lt hm rk rm
  have ml:=hh.u.mlen
  have ml:c.u.merged.length+1≤c.ns.length:=by
   have e:(c.merge kk m).u.merged.length=c.u.merged.length+1:=List.length_append
   rw[←e];exact ml
  have:=h.ns.len
  have hab:=h.ci.ab_len h.ns ⟨hm,rm⟩
  refine k g' _ _ _ f' b' hh (s.step (.edge c kk m x lt hm rk rm) o h.rc) rfl rfl rfl rfl (Nat.le_refl _) rfl (by rw[List.length_append];exact Nat.le_refl _) ?_
  unfold Pot
  rw[show (c.merge kk m).u.merged.length=c.u.merged.length+1 from List.length_append,List.length_append]
  exact Nat.le_of_succ_le_succ (potA (Nat.le_trans ml this) hab)
theorem Jb4:fput (levF w bk md) "made" (N m)=levF w bk m:=by kernel_rfl
theorem Jb3:fput (levF w bk md) "waiting" (.ref w')=levF w' bk md:=by kernel_rfl
theorem Jfa:fput (levF w bk md) "backs" (N m)=levF w m md:=by kernel_rfl
theorem LvB.lv (b:LvB g c y) (t:TopB g y wA) (f:Fr [4] g g') (h:Fx g' 4 (levO wA bk md)):LvB g' c {y with bk:=bk,md:=md}:=
 ⟨b.bank.fr f,b.uni.fr f,b.ed.imp fun _ x=>⟨x.1.fr f,x.2⟩,b.fo.imp fun _ x=>⟨x.1.fr f,x.2⟩,b.kn.imp fun _ x=>x.fr f,b.ab.fr f,b.ch.fr f,
  ⟨wA,h,t.w0,t.w.fr f,t.mr.fr f,t.wn,t.nd,fun m hm=>⟨(t.ms m hm).1,(t.ms m hm).2.fr f⟩⟩⟩
theorem c1704m (b:LvB g c y) (o:COk c) (yo:YOk y) (hc:y.chs.length<99999) (hx:c.ns[n]?=some x) (hmd:n=y.md)
  (hm:∀m,kget c.known (sig c.u.F x)=some m→m<c.ns.length)
  (k:LookP c {y with chs:=y.chs++[.made n],md:=n+1} n (sig c.u.F x) [.known (sig c.u.F x)] fun c' y'=>∀g',Fr WL g g'→LvB g' c' y'→Q .none g'.st) :
  callN T (d+6) (K 1704) [.ref 4,N n] g.st Q:=by
 refine x11 b.top fun wA t=>?_
 have hn:=o.ns.len
 have hnl:=(List.getElem?_eq_some_iff.mp hx).1
 refine w1704.mpr (Jf9.mpr ?_)
 refine Jd8 t.o (eqN ?_)
 rw[decide_eq_true hmd]
 refine bT (Qm t.o (methA b.ch.l ⟨by decide,Jz b.ch.l (by decide) (cap5 (by rw[List.length_map];exact leK (Nat.le_of_lt hc))) fun g1 c1 ch1=>?_⟩))
 have f1:Fr [19] g g1:=c1.fr b.ch.l
 have b1:=b.ch' f1 (b.ch.snoc (h:=.made n) f1 ch1 (by intros;simp))
 have t1:=t.fr f1
 refine addN (b:=1) (Nat.succ_le_succ (Nat.lt_of_lt_of_le hnl (leK hn))) (Q7 t1.o (by decide) (by kernel_rfl) (by show 11<64;decide) fun g2 c2 o2=>?_)
 rw[Jb4] at o2
 have f2:Fr [4] g1 g2:=c2.fr t1.o
 have b2:=b1.lv (t1.chs _) f2 o2
 have f02:Fr WL g g2:=(f1.mono).trans f2
 refine Jby b2 o ⟨yo.w,by show (y.chs++[_]).length≤_;rw[List.length_append];show y.chs.length+1≤_;exact Nat.lt_of_lt_of_le hc (by decide),yo.mks⟩ (by show (y.chs++[_]).length<_;rw[List.length_append];show y.chs.length+1<_;exact Nat.succ_le_succ hc) hx hm ⟨fun m hk e g' f b'=>?_,fun m hk ne a j z ea ej lt hj ra rj g' f b'=>?_,fun hk g' f b'=>?_⟩
 ·exact k.1 m hk e g' (f02.trans f) b'
 ·exact k.2.1 m hk ne a j z ea ej lt hj ra rj g' (f02.trans f) b'
 ·exact k.2.2 hk g' (f02.trans f) b'
theorem Jex (l:List Nat) (h:l.length≤2):∃r:List Nat,intL (sortInts (l.map fun (n:Nat)=>(n:Int)).eraseDups)=natL r∧r.Nodup∧∀c,c∈r↔c∈l:=by
 match l,h with
 |[],_=>exact⟨[],rfl,.nil,fun _=>Iff.rfl⟩
 |[a],_=>exact⟨[a],by rw[List.map_singleton,List.eraseDups_cons];simp;rfl,by simp,fun _=>Iff.rfl⟩
 |[a,b],_=>
  by_cases e:a=b
  ·subst e
   refine⟨[a],?_,by simp,fun c=>by simp⟩
   rw[List.map_cons,List.map_singleton,List.eraseDups_cons]
   simp
   rfl
  ·refine⟨[min a b,max a b],?_,?_,fun c=>?_⟩
   ·rw[List.map_cons,List.map_singleton,List.eraseDups_cons]
    rw[show (List.filter (fun b_1=>!b_1==(a:Int)) [(b:Int)])=[(b:Int)] by
     rw[List.filter_cons_of_pos (by simp;omega)];rfl,List.eraseDups_cons]
    rw[show (List.filter (fun b_1=>!b_1==(b:Int)) ([]:List Int))=[] from rfl,List.eraseDups_nil,sort2]
    rfl
   ·simp;omega
   ·simp only [List.mem_cons,List.not_mem_nil,or_false]
    omega
theorem Jaz (h:(ns++[x])[n]?=some y):ns[n]?=some y∨(n=ns.length∧y=x):=by
 rw[List.getElem?_append] at h
 split at h
 ·exact .inl h
 ·have:=(List.getElem?_eq_some_iff.mp h).1
  rw[List.length_singleton] at this
  have e:n - ns.length=0:=Nat.eq_zero_of_not_pos (Nat.not_le_of_lt this)
  rw[e] at h
  obtain rfl:=Option.some.inj h
  exact .inr ⟨by exact sub1 (by assumption) this,rfl⟩
theorem CI.make (h:CI c w) (hu:UOk c.u c.ns.length) (on:NsOk (c.ns++[x])):CI (c.make x) (w++[c.ns.length]):=by
 have kx:∀q∈x.kids,q<c.ns.length:=fun q hq=>(on.kid c.ns.length x (by simp) q hq).1
 have old:∀{n y},c.ns[n]?=some y→n<c.ns.length:=fun e=>(List.getElem?_eq_some_iff.mp e).1
 refine⟨fun n z hz q hq=>?_,fun r hr n=>?_,fun n hn=>?_,fun n z hz=>?_,fun s m hm=>?_⟩
 ·show n∈(if c.u.F q=c.ns.length then [] else if c.u.F q∈x.kids.map c.u.F then c.ab (c.u.F q)++[c.ns.length] else c.ab (c.u.F q))
  rcases Jaz hz with hz|⟨rfl,rfl⟩
  ·have hq':=(on.kid n z (by rw[List.getElem?_append_left (old hz)];exact hz) q hq).1
   have:=(hu.root q (by have:=old hz;exact Nat.lt_trans hq' this)).2.1
   have hu:=h.users n z hz q hq
   rw[if_neg (Nat.ne_of_lt this)]
   split
   ·exact List.mem_append_left _ hu
   ·exact hu
  ·have:=(hu.root q (kx q hq)).2.1
   rw[if_neg (Nat.ne_of_lt this),if_pos (List.mem_map_of_mem hq)]
   simp
 ·have hr:r<(c.ns++[x]).length∧c.u.F r=r:=hr
  rw[List.length_append,List.length_singleton] at hr
  show (if r=c.ns.length then [] else if r∈x.kids.map c.u.F then c.ab r++[c.ns.length] else c.ab r).count n≤kcount (c.ns++[x]) c.u.F r n
  by_cases e:r=c.ns.length
  ·rw[if_pos e];exact Nat.zero_le _
  rw[if_neg e]
  have a:=h.cnt r ⟨by exact Nat.lt_of_le_of_ne (Nat.le_of_lt_succ hr.1) e,hr.2⟩ n
  by_cases hn:n=c.ns.length
  ·subst hn
   rw[Qd (by simp)] at a
   rw[Qo (x:=x) (by simp)]
   split
   ·rename_i hm
    rw[List.count_append]
    refine x12 (List.mem_map.mp hm) fun q hq e=>?_
    have:0<x.kids.countP fun q=>decide (c.u.F q=r):=List.countP_pos_iff.mpr ⟨q,hq,decide_eq_true e⟩
    have:List.count c.ns.length [c.ns.length]=1:=by simp
    omega
   ·exact Nat.le_trans a (Nat.zero_le _)
  ·have e2:kcount (c.ns++[x]) c.u.F r n=kcount c.ns c.u.F r n:=by
    cases q:c.ns[n]? with
    |none=>
     have:=List.getElem?_eq_none_iff.mp q
     rw[Qd q,Qd (List.getElem?_eq_none_iff.mpr (by rw[List.length_append,List.length_singleton];omega))]
    |some z=>rw[Qo q,Qo (x:=z) (by rw[List.getElem?_append_left (old q)];exact q)]
   rw[e2]
   split
   ·rw[List.count_append]
    have:List.count n [c.ns.length]=0:=List.count_eq_zero.mpr (by simpa using hn)
    omega
   ·exact a
 ·show n<(c.ns++[x]).length
  rw[List.length_append,List.length_singleton]
  rcases List.mem_append.mp hn with hn|hn
  ·have:=h.wlt n hn;exact Nat.le_succ_of_le this
  ·rw[List.mem_singleton.mp hn];exact Nat.lt_succ_self _
 ·rcases Jaz hz with hz|⟨rfl,rfl⟩
  ·exact(h.full n z hz).elim (fun h=>.inl (List.mem_append_left _ h)) .inr
  ·exact .inl (by simp)
 ·refine x12 (h.ks s m hm) fun z hz e=>?_
  exact⟨z,by show (c.ns++[x])[m]?=_;rw[List.getElem?_append_left (old hz)];exact hz,e⟩
theorem HI.make (h:HI c w chs P) (on:NsOk (c.ns++[x])):HI (c.make x) (w++[c.ns.length]) (chs++[.made c.ns.length]) P:=by
 have hl:=on.len
 rw[List.length_append,List.length_singleton] at hl
 refine⟨on,by show UOk c.u.make (c.ns++[x]).length;rw[List.length_append];exact h.u.make hl,h.ci.make h.u on,fun G hc ht=>h.below G (fun i j a b ha hb=>?_) ht,h.told,fun k m j a us e ne=>?_⟩
 ·exact hc i j a b (by show (c.ns++[x])[i]?=_;rw[List.getElem?_append_left (List.getElem?_eq_some_iff.mp ha).1];exact ha) (by show (c.ns++[x])[j]?=_;rw[List.getElem?_append_left (List.getElem?_eq_some_iff.mp hb).1];exact hb)
 ·rcases List.mem_append.mp e with e|e
  ·have:=h.rc k m j a us e ne
   exact⟨by show j<(c.ns++[x]).length;rw[List.length_append];exact Nat.lt_of_lt_of_le this.1 (Nat.le_add_right _ _),this.2⟩
  ·injection (List.mem_singleton.mp e)
theorem Jdz (h:At g q y (.list (natL l))) (hl:l.length≤2) (hb:∀n∈l,n<1000)
  (k:∀g' y' r,Fr [] g g'→At g' (0,0) y' (.list (natL r))→r.Nodup→(∀c,c∈r↔c∈l)→Q (.ref y') g'.st):sortedSetV (.ref y) g.st Q:=by
 refine x13 (Jex l hl) fun r e nd hm=>?_
 refine⟨y,l.map fun (n:Nat)=>(n:Int),rfl,by rw[←Wi];exact h.2,⟨by rw[List.length_map];exact ltK hl,fun i hi=>?_⟩,?_⟩
 ·refine x12 (List.mem_map.mp hi) fun n hn q1_=>?_
  subst q1_
  have:=hb n hn
  omega
 ·rw[e]
  exact Jj (0,0) fun g' y' _ f hy=>k g' y' r f hy nd hm
theorem ChB.ch (b:ChB g chs) (r:RecsOk chs c) (hi:c.u.F i=i) (cc:Ch x g g') (ax:At g (101,i) x o):ChB g' chs:=
 ⟨b.l.ch cc (b.l.ne ax (by simp)),fun k m j a us e ne=>by
  have:=b.us k m j a us e ne
  refine⟨this.1,this.2.ch cc (this.2.ne ax fun e'=>?_)⟩
  have e':j=i:=by simpa using e'
  exact(r k m j a us e ne).2 (e'▸hi)⟩
theorem Jin (b:LvB g c y) (on:NsOk c.ns) (ou:UOk c.u c.ns.length) (hx:c.ns[n]?=some x) (k:Q (N n) g.st) :
  callN T (d+2) (K 1503) [.ref 4,.str x.op,.tup (natL x.kids)] g.st Q:=by
 refine x11 b.top fun wA t=>?_
 have hnl:=(List.getElem?_eq_some_iff.mp hx).1
 refine w1503.mpr (Jgi.mpr ?_)
 refine J6 t.o (Jx b.bank.o (p:=K 1102) (by kernel_rfl) (by kernel_rfl) (Jio b.bank on hx (J5 t.o (Qb b.uni.o (p:=K 1302) (by kernel_rfl) (by kernel_rfl) (c1302 b.uni ou (ltN ?_))))))
 rw[decide_eq_true hnl]
 exact bT k
inductive Jcq (c:Core) (y:Dyn) (x:Node) (r:List Nat) (g7:G) (vs:List V) (l:Loc) (st:St):Prop
 |mk (dn) (rs) (g') (h1_:r=dn++rs) (h2_:vs=natL rs) (h3_:st=g'.st) (h4_:Fr [101] g7 g') (h5_:ChB g' y.chs) (h6_:AbB g' (fun i=>RootS c.ns.length c.u.F i∨i=c.ns.length) (fun i=>if i=c.ns.length then [] else if i∈dn then c.ab i++[c.ns.length] else c.ab i)) (a1) (a2) (a3) (h7_:l=[some (.ref 4),some (.str x.op),some (.tup (natL x.kids)),some (N c.ns.length),a1,a2,a3])
theorem Jck (b:LvB g c y) (h:HI c y.w y.chs P) (s:Stk y.mks y.chs c sv) (hmd:y.md=c.ns.length)
  (on:NsOk (c.ns++[x])) (hx:x∉c.ns) (b1:c.edges≤90000) (b2:c.known.length≤90000) (b3:y.chs.length≤90000) (b4:y.w.length≤9000) (b5:y.mks.length≤100)
  (k:∀g' c' y',Fr WH g g'→LvB g' c' y'→HI c' y'.w y'.chs P→Stk y'.mks y'.chs c' sv→y'.bk=y.bk→y'.mks=y.mks→y'.md=c.ns.length+1→c'.ns=c.ns++[x]→
   c'.edges≤c.edges+1→c'.known.length≤c.known.length+1→y'.chs.length≤y.chs.length+2→Pot c' y'≤Pot c y→Q (N c.ns.length) g'.st) :
  callN T (d+7) (K 1503) [.ref 4,.str x.op,.tup (natL x.kids)] g.st Q:=by
 refine x11 b.top fun wA t=>?_
 have hl:=on.len
 rw[List.length_append,List.length_singleton] at hl
 have hxm:x∈c.ns++[x]:=by simp
 have hx2:=on.two x hxm
 have kx:∀q∈x.kids,q<c.ns.length:=fun q hq=>(on.kid c.ns.length x (by simp) q hq).1
 have hm:=h.make on
 have um:UOk c.u.make (c.ns.length+1):=h.u.make hl
 refine w1503.mpr (Jgi.mpr ?_)
 refine J6 t.o (Jx b.bank.o (p:=K 1102) (by kernel_rfl) (by kernel_rfl) (Jip (d:=d+3) b.bank h.ns hx on fun g1 f1 bk1=>?_))
 have t1:=t.fr f1
 have u1:=b.uni.fr f1
 refine J5 t1.o (Qb u1.o (p:=K 1302) (by kernel_rfl) (by kernel_rfl) (c1302 u1 h.u (ltN ?_)))
 rw[decide_eq_false (Nat.lt_irrefl _)]
 refine bF (J5 t1.o (Qb u1.o (p:=K 1301) (by kernel_rfl) (by kernel_rfl) (c1301 u1 h.u fun g2 f2 u2=>⟨by decide,?_⟩)))
 have t2:=t1.fr f2
 refine Jj (101,c.ns.length) fun g3 z hz f3 az=>Jv (t2.fr f3).o ?_
 have f03:Fr [6,7,8,9,11,12,100] g g3:=((f1.mono).trans f2).trans f3
 have ab3:=b.ab.fr f03
 refine ab3.put (l:=[]) hl (by have:=(t2.fr f3).o;have:=t2.o.lt;exact n0 hz this) az fun g4 f34 ab4=>?_
 have f04:Fr [6,7,8,9,11,12,17,100] g g4:=(f03.mono).trans f34
 have u4:=(u2.fr f3).fr f34
 have t4:=((t2.fr f3).fr f34)
 refine Qc ⟨rfl,?_⟩
 refine Wo (W:=[]) (fun v=>match v with|.int i=>N (c.u.F i.toNat)|v=>v) _ (by show (natL x.kids).length<cap;rw[Ja];exact Jb (leK hx2)) (fun _ _ _=>Jjj) (fun _ _=>trivial) (fun v hv g' fr R hR=>?_) fun g5 f45=>?_
 ·refine x12 (List.mem_map.mp hv) fun i hi' q1_=>?_
  subst q1_
  refine Jjl.mpr (Jjk.mpr ?_)
  exact Jg (t4.o.fr fr) (p:=K 1506) (by kernel_rfl) (by kernel_rfl) (c1506 (t4.o.fr fr) (u4.fr fr) um (by have:=kx i hi';exact Nat.le_succ_of_le this) (hR g' fr))
 rw[show (Src.items (natL x.kids)).all=natL x.kids from rfl,Yu (F:=c.u.F) fun _ _=>rfl]
 refine Jj (0,0) fun g6 y6 _ f56 h6=>?_
 refine Jdz h6 (by rw[List.length_map];exact hx2) (fun n hn=>?_) fun g7 y7 r f67 h7 nd hr=>?_
 ·refine x12 (List.mem_map.mp hn) fun q hq q1_=>?_
  subst q1_
  have:=(h.u.root q (kx q hq)).2.1
  exact Nat.lt_of_le_of_lt (Nat.le_of_lt this) (leK hl)
 have f47:Fr [] g4 g7:=(f45.trans f56).trans f67
 have f07:=f04.trans f47
 have rt:∀i∈r,RootS c.ns.length c.u.F i:=fun i hi=>by
  refine x12 (List.mem_map.mp ((hr i).mp hi)) fun q hq q1_=>?_
  subst q1_
  have:=h.u.root q (kx q hq)
  exact⟨this.2.1,this.2.2.1⟩
 refine Jy h7 ⟨trivial,?_⟩
 refine J7 (Jcq c y x r g7) ?_ ?_ _ _ _
  ⟨[],r,g7,rfl,rfl,rfl,Fr.refl,b.ch.fr f07,(ab4.fr f47).same (fun _=>Iff.rfl) (fun i _=>by
   show upd c.ab c.ns.length [] i=_
   unfold upd
   split
   ·rfl
   ·rw[if_neg (by simp)]),_,_,_,rfl⟩
 ·rintro v vs l _ ⟨dn,rs,g',er,ev,rfl,fr,ch,ab,_,_,_,rfl⟩ kn' hk'
  cases rs with
  |nil=>injection ev
  |cons i rs=>
   have ev:=List.cons.inj ev
   refine⟨(h7.fr fr).2,?_⟩
   rw[ev.1,Jgh,Jgg]
   have hi:RootS c.ns.length c.u.F i:=rt i (by rw[er];simp)
   have t':=(t4.fr f47).o.fr fr
   refine Jv t' (ab.get' (.inl hi) fun z z0 az up=>?_)
   have hnd:i∉dn:=fun hd=>by
    rw[er] at nd
    exact(List.nodup_append.mp nd).2.2 i hd i (.head _) rfl
   rw[if_neg (by have:=hi.1;exact Nat.ne_of_lt this),if_neg hnd] at az
   have h48:=h.ci.ab_len h.ns hi
   refine X4 az z0 (cap5 (by rw[Ja];exact leK h48)) fun g'' cc az'=>?_
   rw[show natL (c.ab i)++[N c.ns.length]=natL (c.ab i++[c.ns.length]) from(Jf (a:=c.ab i) (b:=[c.ns.length])).symm] at az'
   refine hk' _ _ ⟨dn++[i],rs,g'',by rw[er];simp,ev.2,rfl,fr.trans (show Fr [101] g' g'' from cc.fr az),ch.ch h.rc hi.2 cc az,(up g'' _ cc az').same (fun _=>Iff.rfl) (fun j _=>?_),_,_,_,rfl⟩
   unfold upd
   by_cases e:j=i
   ·subst e
    rw[if_pos rfl,if_neg (by have:=hi.1;exact Nat.ne_of_lt this),if_pos (by simp)]
   ·rw[if_neg e]
    simp [e]
 ·rintro _ _ ⟨dn,rs,g',er,ev,rfl,fr,ch,ab,_,_,_,rfl⟩
  have:rs=[]:=by cases rs with
   |nil=>rfl
   |cons _ _=>injection ev
  subst this
  rw[List.append_nil] at er
  subst er
  refine⟨(h7.fr fr).2,?_⟩
  have f4':Fr [101] g4 g':=(f47.mono).trans fr
  have f0':Fr [6,7,8,9,11,12,17,100,101] g g':=(f04.mono).trans f4'
  have bm:LvB g' (c.make x) y:=by
   refine⟨((((bk1.fr f2).fr f3).fr f34).fr f4'),u4.fr f4',b.ed.imp fun _ x=>⟨x.1.fr f0',x.2⟩,b.fo.imp fun _ x=>⟨x.1.fr f0',x.2⟩,b.kn.imp fun _ x=>x.fr f0',ab.same (fun i=>?_) (fun i _=>?_),ch,⟨wA,t4.fr f4'⟩⟩
   ·show RootS c.ns.length c.u.F i∨i=c.ns.length↔RootS (c.ns++[x]).length c.u.F i
    unfold RootS
    rw[List.length_append,List.length_singleton]
    have:=h.u.out c.ns.length (Nat.le_refl _)
    constructor
    ·rintro (h|rfl)
     ·exact⟨by exact Nat.le_succ_of_le h.1,h.2⟩
     ·exact⟨by exact Nat.lt_succ_self _,this⟩
    ·rintro ⟨h1,h2⟩
     by_cases e:i=c.ns.length
     ·exact .inr e
     ·exact .inl ⟨by exact Nat.lt_of_le_of_ne (Nat.le_of_lt_succ h1) e,h2⟩
   ·show _=(if i=c.ns.length then [] else if i∈x.kids.map c.u.F then c.ab i++[c.ns.length] else c.ab i)
    simp only [hr]
  refine w1503_5.mpr ?_
  have okm:COk (c.make x):=hm.cok (by show c.edges≤_;exact leK b1) (by show c.known.length≤_;exact leK b2)
  have okc:COk c:=h.cok (leK b1) (leK b2)
  have t':=(t4.fr f4').o
  have hgx:(c.make x).ns[c.ns.length]?=some x:=by show (c.ns++[x])[_]?=_;simp
  have hlk:=hm.look hgx
  have s1:=s.step (.made c x on) okc h.rc
  refine Jg t' (p:=K 1704) (by kernel_rfl) (by kernel_rfl) (c1704m (n:=c.ns.length) bm okm ⟨by exact leK b4,by exact leK b3,b5⟩ (ltK b3) hgx hmd.symm (fun m hm'=>hm.ci.kget_lt hm')
   ⟨fun m hk e g2 f2 b2=>?_,fun m hk ne a j z ea ej lt hj ra rj g2 f2 b2=>?_,fun hk g2 f2 b2=>?_⟩)
  ·exact k g2 _ _ ((f0'.mono).trans f2) b2 (hlk.1 m hk e) s1 rfl rfl rfl rfl (by show c.edges≤_;exact Nat.le_succ _) (by show c.known.length≤_;exact Nat.le_succ _) (by show (y.chs++[_]).length≤_;rw[List.length_append];show y.chs.length+1≤_;exact Nat.le_succ _) (Nat.le_refl _)
  ·have hh:=hlk.2.1 m hk a j z ea ej lt hj ra rj
   have ml:=hh.u.mlen
   have ml:c.u.merged.length+1≤(c.ns++[x]).length:=by
    have e:((c.make x).merge a j).u.merged.length=c.u.merged.length+1:=List.length_append
    rw[←e];exact ml
   rw[List.length_append,List.length_singleton] at ml
   have hab:=hm.ci.ab_len on ⟨hj,rj⟩
   refine k g2 _ _ ((f0'.mono).trans f2) b2 hh (s1.step (.edge (c.make x) a j z lt hj ra rj) okm hm.rc) rfl rfl rfl rfl (Nat.le_refl _) (Nat.le_succ _) (by rw[List.length_append,List.length_append];exact Nat.le_refl _) ?_
   unfold Pot
   rw[show ((c.make x).merge a j).u.merged.length=c.u.merged.length+1 from List.length_append,List.length_append]
   show (24 - (c.u.merged.length+1)) * 49+(y.w.length+((c.make x).ab j).length)≤(24 - c.u.merged.length) * 49+y.w.length
   omega
  ·exact k g2 _ _ ((f0'.mono).trans f2) b2 (hlk.2.2 hk) (s1.step (.known (c.make x) _ c.ns.length hk) okm hm.rc) rfl rfl rfl rfl (Nat.le_succ _) (by show (c.known++[_]).length≤_;rw[List.length_append];exact Nat.le_refl _) (by rw[List.length_append,List.length_append];exact Nat.le_refl _) (Nat.le_refl _)
theorem c1702 (b:LvB g c y) (hw:y.w=[]) (hc:y.chs.length≤100000) (hm:y.mks.length≤100)
  (k:∀g' z,Fr [20] g g'→LvB g' c {y with mks:=y.mks++[(y.chs.length,z)]}→Q .none g'.st):callN T (d+1) (K 1702) [.ref 4] g.st Q:=by
 refine x11 b.top fun wA t=>?_
 have tw:=t.w
 rw[hw] at tw
 refine w1702.mpr (w1702_0.mpr ?_)
 refine Xu t.o (methA t.mr ⟨by decide,Qm t.o (Je b.ch.l (by rw[List.length_map];exact cap5 (leK hc)) (Wj t.o (Jbz tw (by decide) (Jj (102,0) fun g1 z hz f1 az=>?_))))⟩)
 have t1:=t.fr f1
 refine Jz t1.mr (by decide) (cap5 (by rw[List.length_map];exact leK hm)) fun g2 c2 mr2=>?_
 have f2:Fr [20] g1 g2:=c2.fr t1.mr
 have f02:Fr [20] g g2:=(f1.mono).trans f2
 rw[List.length_map] at mr2
 refine k g2 z f02 ⟨b.bank.fr f02,b.uni.fr f02,b.ed.imp fun _ x=>⟨x.1.fr f02,x.2⟩,b.fo.imp fun _ x=>⟨x.1.fr f02,x.2⟩,b.kn.imp fun _ x=>x.fr f02,b.ab.fr f02,b.ch.fr f02,⟨wA,t.o.fr f02,t.w0,t.w.fr f02,?_,?_,?_,fun m hm'=>?_⟩⟩
 ·rw[List.map_append];exact mr2
 ·rw[List.map_append]
  intro h
  rcases List.mem_append.mp h with h|h
  ·exact t.wn h
  ·have:=t.w.lt
   have:wA=z:=List.mem_singleton.mp h
   omega
 ·rw[List.map_append]
  refine List.nodup_append.mpr ⟨t.nd,by simp,fun a ha e he q=>?_⟩
  refine x12 (List.mem_map.mp ha) fun m hm' q1_=>?_
  subst q1_
  have:=(t.ms m hm').2.lt
  have:=List.mem_singleton.mp he
  have:m.2=z:=q.trans this
  omega
 ·rcases List.mem_append.mp hm' with hm'|hm'
  ·exact⟨(t.ms m hm').1,(t.ms m hm').2.fr f02⟩
  ·obtain rfl:=List.mem_singleton.mp hm'
   exact⟨by have:=t.w.lt;show z≠0;exact n0 hz this,az.fr f2⟩
inductive Jlt (c:Core) (y:Dyn) (rr:List Nat) (g7:G) (vs:List V) (l:Loc) (st:St):Prop
 |mk (dn) (rs) (g') (h1_:rr=dn++rs) (h2_:vs=natL rs) (h3_:st=g'.st) (h4_:Fr [101] g7 g') (h5_:ChB g' y.chs) (h6_:AbB g' (fun i=>RootS c.ns.length c.u.F i∨i=c.ns.length) (fun i=>if i=c.ns.length then [] else if i∈rs then c.ab i++[c.ns.length] else c.ab i)) (a1) (a2) (a3) (h7_:l=[some (.ref 4),some (N c.ns.length),a1,a2,a3])
theorem c1706 (b:LvB g (c.make x) y) (o:COk c) (on:NsOk (c.ns++[x])) (r:RecsOk y.chs c)
  (k:∀g',Fr [4,6,7,8,9,11,12,17,101] g g'→LvB g' c {y with md:=c.ns.length}→Q .none g'.st):callN T (d+4) (K 1706) [.ref 4,N c.ns.length] g.st Q:=by
 refine x11 b.top fun wA t=>?_
 have hl:=on.len
 rw[List.length_append,List.length_singleton] at hl
 have hxm:x∈c.ns++[x]:=by simp
 have hx2:=on.two x hxm
 have kx:∀q∈x.kids,q<c.ns.length:=fun q hq=>(on.kid c.ns.length x (by simp) q hq).1
 have um:UOk c.u.make (c.ns.length+1):=o.u.make hl
 have hgx:(c.ns++[x])[c.ns.length]?=some x:=by simp
 refine w1706.mpr (w1706_0.mpr ?_)
 refine J6 t.o (Jx b.bank.o (p:=K 1108) (by kernel_rfl) (by kernel_rfl) (c1108 b.bank on hgx (Qc ⟨rfl,?_⟩)))
 refine Wo (W:=[]) (fun v=>match v with|.int i=>N (c.u.F i.toNat)|v=>v) _ (by show (natL x.kids).length<cap;rw[Ja];exact Jb (leK hx2)) (fun _ _ _=>Jjf) (fun _ _=>trivial) (fun v hv g' fr R hR=>?_) fun g5 f05=>?_
 ·refine x12 (List.mem_map.mp hv) fun i hi' q1_=>?_
  subst q1_
  refine Jjh.mpr (Jjg.mpr ?_)
  exact Jg (t.o.fr fr) (p:=K 1506) (by kernel_rfl) (by kernel_rfl) (c1506 (t.o.fr fr) (b.uni.fr fr) um (by have:=kx i hi';exact Nat.le_succ_of_le this) (hR g' fr))
 rw[show (Src.items (natL x.kids)).all=natL x.kids from rfl,Yu (F:=c.u.F) fun _ _=>rfl]
 refine Jj (0,0) fun g6 y6 _ f56 h6=>?_
 refine Jdz h6 (by rw[List.length_map];exact hx2) (fun n hn=>?_) fun g7 y7 rr f67 h7 nd hr=>?_
 ·refine x12 (List.mem_map.mp hn) fun q hq q1_=>?_
  subst q1_
  have:=(o.u.root q (kx q hq)).2.1
  exact Nat.lt_of_le_of_lt (Nat.le_of_lt this) (leK hl)
 have f07:Fr [] g g7:=(f05.trans f56).trans f67
 have rt:∀i∈rr,RootS c.ns.length c.u.F i:=fun i hi=>by
  refine x12 (List.mem_map.mp ((hr i).mp hi)) fun q hq q1_=>?_
  subst q1_
  have:=o.u.root q (kx q hq)
  exact⟨this.2.1,this.2.2.1⟩
 have sm:∀i,RootS (c.make x).ns.length (c.make x).u.F i↔RootS c.ns.length c.u.F i∨i=c.ns.length:=fun i=>by
  show RootS (c.ns++[x]).length c.u.F i↔_
  unfold RootS
  rw[List.length_append,List.length_singleton]
  have:=o.u.out c.ns.length (Nat.le_refl _)
  constructor
  ·rintro ⟨h1,h2⟩
   by_cases e:i=c.ns.length
   ·exact .inr e
   ·exact .inl ⟨by exact Nat.lt_of_le_of_ne (Nat.le_of_lt_succ h1) e,h2⟩
  ·rintro (h|rfl)
   ·exact⟨by exact Nat.le_succ_of_le h.1,h.2⟩
   ·exact⟨by exact Nat.lt_succ_self _,this⟩
 refine Jy h7 ⟨trivial,?_⟩
 refine J7 (Jlt c y rr g7) ?_ ?_ _ _ _
  ⟨[],rr,g7,rfl,rfl,rfl,Fr.refl,b.ch.fr f07,(b.ab.fr f07).same sm (fun i _=>by
   show (if i=c.ns.length then [] else if i∈x.kids.map c.u.F then c.ab i++[c.ns.length] else c.ab i)=_
   simp only [hr]),_,_,_,rfl⟩
 ·rintro v vs l _ ⟨dn,rs,g',er,ev,rfl,fr,ch,ab,_,_,_,rfl⟩ kn' hk'
  cases rs with
  |nil=>injection ev
  |cons i rs=>
   have ev:=List.cons.inj ev
   refine⟨(h7.fr fr).2,?_⟩
   rw[ev.1,Jf6,Jf7]
   have hi:RootS c.ns.length c.u.F i:=rt i (by rw[er];simp)
   have t':=(t.fr f07).o.fr fr
   refine Jv t' (ab.get' (.inl hi) fun z z0 az up=>?_)
   have hnd:i∉rs:=fun hd=>by
    rw[er] at nd
    have:=(List.nodup_append.mp nd).2.1
    exact(List.nodup_cons.mp this).1 hd
   rw[if_neg (by have:=hi.1;exact Nat.ne_of_lt this),if_pos (.head _)] at az
   have h48:=o.ab i hi
   refine X7 az z0 (cap5 (by rw[Ja,List.length_append];simp;exact leK h48)) (ys:=natL (c.ab i)) (v:=N c.ns.length) Jf fun g'' cc az'=>?_
   refine hk' _ _ ⟨dn++[i],rs,g'',by rw[er];simp,ev.2,rfl,fr.trans (show Fr [101] g' g'' from cc.fr az),ch.ch r hi.2 cc az,(up g'' _ cc az').same (fun _=>Iff.rfl) (fun j _=>?_),_,_,_,rfl⟩
   unfold upd
   by_cases e:j=i
   ·subst e
    rw[if_pos rfl,if_neg (by have:=hi.1;exact Nat.ne_of_lt this),if_neg hnd]
   ·rw[if_neg e]
    simp [e]
 ·rintro _ _ ⟨dn,rs,g',er,ev,rfl,fr,ch,ab,_,_,_,rfl⟩
  have:rs=[]:=by cases rs with
   |nil=>rfl
   |cons _ _=>injection ev
  subst this
  refine⟨(h7.fr fr).2,?_⟩
  have f0':Fr [101] g g':=(f07.mono).trans fr
  refine w1706_1.mpr ?_
  have t':=t.fr f0'
  refine Jv t'.o (ab.del (.inr rfl) fun g8 f8 ab8=>?_)
  have f08:Fr [17,101] g g8:=(f0'.mono).trans f8
  refine J5 (t'.fr f8).o (Qb (b.uni.fr f08).o (p:=K 1309) (by kernel_rfl) (by kernel_rfl) (c1309 (d:=d) (b.uni.fr f08) o.u hl fun g9 f9 u9=>?_))
  have f09:Fr [11,12,17,101] g g9:=(f08.mono).trans f9
  refine J6 ((t'.fr f8).fr f9).o (Jx (b.bank.fr f09).o (p:=K 1106) (by kernel_rfl) (by kernel_rfl) (c1106 (x:=x) (b.bank.fr f09) on fun g10 f10 bk10=>?_))
  have t10:=((t'.fr f8).fr f9).fr f10
  refine Q7 t10.o (by decide) (by kernel_rfl) (by show 11<64;decide) fun g11 c11 o11=>?_
  rw[Jb4] at o11
  have f11:Fr [4] g10 g11:=c11.fr t10.o
  have f8':Fr [4,6,7,8,9,11,12] g8 g11:=((f9.mono).trans f10).trans f11
  have f0:Fr [4,6,7,8,9,11,12,17,101] g g11:=(f08.mono).trans f8'
  refine k g11 f0.mono ⟨bk10.fr f11,(u9.fr f10).fr f11,b.ed.imp fun _ x=>⟨x.1.fr f0,x.2⟩,b.fo.imp fun _ x=>⟨x.1.fr f0,x.2⟩,b.kn.imp fun _ x=>x.fr f0,(ab8.fr f8').same (fun i=>?_) (fun i hi=>?_),(ch.fr f8).fr f8',⟨wA,o11,t.w0,t.w.fr f0,t.mr.fr f0,t.wn,t.nd,fun m hm=>⟨(t.ms m hm).1,(t.ms m hm).2.fr f0⟩⟩⟩
  ·constructor
   ·rintro ⟨h|h,ne⟩
    ·exact h
    ·exact absurd h ne
   ·exact fun h=>⟨.inl h,by have:=h.1;exact Nat.ne_of_lt this⟩
  ·rw[if_neg hi.2,if_neg (by simp)]
theorem Jfk (b:LvB g c.edge y) (he:c.edges≤100000) (k:∀g',Fr [14] g g'→LvB g' c y→Q .none g'.st) :
  callN T (d+1) (K 1707) [.ref 4,(Chg.edge r m r x us).v] g.st Q:=by
 refine x11 b.top fun wA t=>?_
 refine x12 b.ed fun el ed le=>?_
 have le:el.length=c.edges+1:=le
 refine x22 (Wg le) fun el v q1_ le'=>?_
 subst q1_
 refine w1707.mpr (Jf5.mpr ?_)
 show bindN _ _ [.str "edge",N r,N m,N r,.ref x] _ _
 refine Jbb.mpr (Jf4.mpr ?_)
 refine Xv t.o (X7 ed (by decide) (cap5 (Nat.le_trans (Nat.le_of_eq le) (ltK he))) rfl fun g1 c1 ed1=>neN ?_)
 have f1:Fr [14] g g1:=c1.fr ed
 rw[decide_eq_true rfl]
 exact bF (k g1 f1 ⟨b.bank.fr f1,b.uni.fr f1,⟨_,ed1,le'⟩,b.fo.imp fun _ x=>⟨x.1.fr f1,x.2⟩,b.kn.imp fun _ x=>x.fr f1,b.ab.fr f1,b.ch.fr f1,⟨wA,t.fr f1⟩⟩)
theorem c1707 (b:LvB g (c.merge kk j) y) (o:COk c) (lt:kk<j) (hj:j<c.ns.length) (rk:c.u.F kk=kk) (rj:c.u.F j=j) (x0:x≠0) (ax:At g (101,j) x (.list (natL (c.ab j))))
  (k:∀g',Fr [11,13,14,15,17,100] g g'→LvB g' c y→Q .none g'.st) :
  callN T (d+2) (K 1707) [.ref 4,(Chg.edge kk (c.ab kk).length j x (c.ab j)).v] g.st Q:=by
 have hn:=o.ns.len
 have:=o.ed
 refine x11 b.top fun wA t=>?_
 refine x12 b.ed fun el ed le=>?_
 have le:el.length=c.edges+1:=le
 refine x22 (Wg le) fun el v q1_ le'=>?_
 subst q1_
 refine x12 b.fo fun fl fo lf=>?_
 have lf:fl.length=c.u.merged.length+1:=lf.trans List.length_append
 refine x22 (Wg lf) fun fl fv q1_ lf'=>?_
 subst q1_
 have hml:=o.u.mlen
 have hml':=(o.u.merge rk rj lt hj).mlen
 refine w1707.mpr (Jf5.mpr ?_)
 show bindN _ _ [.str "edge",N kk,N (c.ab kk).length,N j,.ref x] _ _
 refine Jbb.mpr (Jf4.mpr ?_)
 refine Xv t.o (X7 ed (by decide) (cap5 (Nat.le_trans (Nat.le_of_eq le) (ltK this))) rfl fun g1 c1 ed1=>neN ?_)
 have f1:Fr [14] g g1:=c1.fr ed
 rw[decide_eq_false (Nat.ne_of_lt lt)]
 have fo1:=fo.fr f1
 refine bT (Z7 (t.fr f1).o (X7 fo1 (by decide) (cap5 (Nat.le_trans (Nat.le_of_eq lf) (Nat.lt_of_le_of_lt hml (ltK hn)))) rfl fun g2 c2 fo2=>?_))
 have f12:Fr [15] g1 g2:=c2.fr fo1
 have t2:=(t.fr f1).fr f12
 have u2:=(b.uni.fr f1).fr f12
 refine J5 t2.o (Qb u2.o (p:=K 1308) (by kernel_rfl) (by kernel_rfl) (J5 t2.o (Q5 u2.o (Je u2.mg (cap5 (by rw[List.length_map];show (c.u.merged++[_]).length≤_;rw[List.length_append];show c.u.merged.length+1≤_;exact Nat.lt_of_le_of_lt hml (ltK hn))) ?_))))
 rw[List.length_map,show (c.merge kk j).u.merged.length=c.u.merged.length+1 from List.length_append]
 refine subN (b:=1) (Nat.succ_pos _) ?_
 rw[Nat.add_sub_cancel]
 refine c1308 o.u rk rj lt hj u2 fun g3 f23 u3=>?_
 have t3:=t2.fr f23
 have f03:Fr [11,13,14,15,17,100] g g3:=((f1.mono).trans f12).trans f23
 have ab3:=b.ab.fr (((f1.mono (W:=[14,15])).trans f12).mono.trans f23 (W:=[11,13,14,15,100]))
 have sk:RootS (c.merge kk j).ns.length (c.merge kk j).u.F kk:=(Wh (n:=c.ns.length) rk (show kk≠j by exact Nat.ne_of_lt lt) (show kk<c.ns.length by exact Nat.lt_trans lt hj) kk).mp (.inr rfl)
 have hab:=o.ab kk ⟨by exact Nat.lt_trans lt hj,rk⟩
 have hab':=o.ab j ⟨hj,rj⟩
 refine Jv t3.o (ab3.get sk fun z z0 az=>Jg3 az (cap5 ?_) (Jj (101,kk) fun g4 w hw f34 aw=>?_))
 ·show (natL (upd c.ab kk (c.ab kk++c.ab j) kk)).length≤_
  rw[Jd,Ja,List.length_append];exact aK hab hab'
 have aw:At g4 (101,kk) w (.list (natL (c.ab kk))):=by
  have e:(natL ((c.merge kk j).ab kk)).take (c.ab kk).length=natL (c.ab kk):=by
   show (natL (upd c.ab kk (c.ab kk++c.ab j) kk)).take _=_
   rw[Jd,Jf,List.take_append_of_le_length (by rw[Ja];exact Nat.le_refl _),show (c.ab kk).length=(natL (c.ab kk)).length from Ja.symm,List.take_length]
  rw[e] at aw;exact aw
 have t4:=t3.fr f34
 refine Jv t4.o ((ab3.fr f34).put (Nat.lt_of_le_of_lt (Nat.le_of_lt lt) (Nat.lt_of_lt_of_le hj hn)) (by have:=t3.o.lt;exact n0 hw this) aw fun g5 f45 ab5=>?_)
 have t5:=t4.fr f45
 have ax5:At g5 (101,j) x (.list (natL (c.ab j))):=(ax.fr (f03.trans f34)).fr f45
 refine Jv t5.o (ab5.put (Nat.lt_of_lt_of_le hj hn) x0 ax5 fun g6 f56 ab6=>?_)
 have f36:Fr [17] g3 g6:=((f34.mono).trans f45).trans f56
 have f06:=f03.trans f36
 refine k g6 f06 ⟨b.bank.fr f06,u3.fr f36,⟨_,((At.fr ed1 f12).fr f23).fr f36,le'⟩,⟨_,(At.fr fo2 f23).fr f36,lf'⟩,b.kn.imp fun _ x=>x.fr f06,ab6.same (fun i=>?_) (fun i _=>?_),b.ch.fr f06,⟨wA,t.fr f06⟩⟩
 ·have e:=Wh (n:=c.ns.length) rk (show kk≠j by exact Nat.ne_of_lt lt) (Nat.lt_trans lt hj) i
  show ((RootS c.ns.length (jF c.u.F kk j) i∨i=kk)∨i=j)↔RootS c.ns.length c.u.F i
  rw[←e]
  constructor
  ·rintro ((⟨⟨h,_⟩⟩|rfl)|rfl)<;>first|assumption|skip
   all_goals first
    |exact⟨by exact Nat.lt_trans lt hj,rk⟩
    |exact⟨hj,rj⟩
    |(rename_i h;first|exact h.1|exact h▸⟨by exact Nat.lt_trans lt hj,rk⟩)
  ·intro h
   by_cases e:i=j
   ·exact .inr e
   ·exact .inl (.inl (.inl ⟨h,e⟩))
 ·show upd (upd (upd c.ab kk (c.ab kk++c.ab j)) kk (c.ab kk)) j (c.ab j) i=c.ab i
  unfold upd
  by_cases e1:i=j
  ·subst e1;rw[if_pos rfl]
  ·by_cases e2:i=kk
   ·subst e2;rw[if_neg e1,if_pos rfl]
   ·rw[if_neg e1,if_neg e2,if_neg e2]
noncomputable def WP:List Nat:=[4,5,6,7,8,9,10,11,12,13,14,15,16,17,19,100,101]
theorem ChB.init {l:List Chg} {h:Chg} (b:ChB g (l++[h])) (f:Fr [19] g g') (h':Fx g' 19 (.list (l.map Chg.v))):ChB g' l:=
 ⟨h',fun k m c a us e ne=>by
  have:=b.us k m c a us (List.mem_append_left _ e) ne
  exact⟨this.1,this.2.fr f⟩⟩
theorem Jl0 {a b:Str} {st:St} {Q:Bool→Prop} (h:(V.str a).data=true) (h':(V.str b).data=true) (e:decide (V.str a=V.str b)=true) (k:Q true):cmpV .Eq (.str a) (.str b) st Q:=Jma h h' (by rw[e];exact k)
theorem Jbg {a b:Str} {st:St} {Q:Bool→Prop} (h:(V.str a).data=true) (h':(V.str b).data=true) (e:decide (V.str a=V.str b)=false) (k:Q false):cmpV .Eq (.str a) (.str b) st Q:=Jma h h' (by rw[e];exact k)
inductive Jlu (c0:Core) (y:Dyn) (pre:List Chg) (chs:List Chg) (mks:List (Nat×Nat)) (a:Nat) (g2:G) (n:Nat) (l:Loc) (st:St):Prop
 |mk (h1_:(∃a1 a2 a3,l=[some (.ref 4),some (N pre.length),some (.ref a),a1,a2,a3])) (g') (c') (chs') (h2_:st=g'.st) (h3_:Fr WP g2 g') (h4_:LvB g' c' {y with chs:=pre++chs',mks:=mks,bk:=y.bk+1,md:=c'.ns.length}) (h5_:Back pre chs' c' c0) (h6_:chs'.length≤chs.length) (h7_:n=chs'.length)
theorem c1703 {pre chs:List Chg} {mks:List (Nat×Nat)} (b:LvB g c y) (hmd:y.md=c.ns.length) (hmk:y.mks=mks++[(pre.length,a)]) (hch:y.chs=pre++chs)
  (bk:Back pre chs c c0) (hc:y.chs.length≤100000) (hm:y.mks.length≤100) (hbk:y.bk≤1000)
  (k:∀g',Fr WH g g'→LvB g' c0 {y with chs:=pre,mks:=mks,w:=[],bk:=y.bk+1,md:=c0.ns.length}→Q .none g'.st):callN T (d+6) (K 1703) [.ref 4] g.st Q:=by
 obtain ⟨wA,t⟩:=b.top
 have tm:=t.mr
 rw[hmk,List.map_append,List.map_singleton] at tm
 refine w1703.mpr (w1703_0.mpr ?_)
 refine Xu t.o (Je tm (cap5 (by rw[List.length_append,List.length_map];rw[hmk,List.length_append] at hm;simp at *;exact leK hm)) (eqN (b:=0) ?_))
 rw[decide_eq_false (by simp)]
 refine bF (Xu t.o (X7 tm (by decide) (cap5 (by rw[List.length_append,List.length_map];rw[hmk,List.length_append] at hm;simp at *;exact leK hm)) rfl fun g1 c1 mr1=>?_))
 have f1:Fr [20] g g1:=c1.fr tm
 show bindN _ _ [N pre.length,.ref a] _ _
 refine Jgc.mpr (w1703_2.mpr ?_)
 have o1:=t.o.fr f1
 refine Xw o1 (addN (b:=1) (Nat.succ_le_succ (ltK hbk)) (Q7 o1 (by decide) (by kernel_rfl) (by show 11<64;decide) fun g2 c2 o2=>?_))
 rw[Jfa] at o2
 have f12:Fr [4] g1 g2:=c2.fr o1
 have f02:Fr WH g g2:=(f1.mono).trans f12
 have hma:(pre.length,a)∈y.mks:=by rw[hmk];simp
 have ha:=t.ms _ hma
 have hnd:=t.nd
 rw[hmk,List.map_append,List.map_singleton] at hnd
 have hnd:=List.nodup_append.mp hnd
 have b2:LvB g2 c {y with mks:=mks,bk:=y.bk+1,md:=c.ns.length}:=by
  refine⟨(b.bank.fr f1).fr f12,(b.uni.fr f1).fr f12,b.ed.imp fun _ x=>⟨(x.1.fr f1).fr f12,x.2⟩,b.fo.imp fun _ x=>⟨(x.1.fr f1).fr f12,x.2⟩,b.kn.imp fun _ x=>(x.fr f1).fr f12,(b.ab.fr f1).fr f12,(b.ch.fr f1).fr f12,⟨wA,?_,t.w0,(t.w.fr f1).fr f12,At.fr mr1 f12,fun h=>t.wn ?_,hnd.1,fun m hm'=>?_⟩⟩
  ·rw[←hmd];exact o2
  ·rw[hmk,List.map_append];exact List.mem_append_left _ h
  ·have:=t.ms m (by rw[hmk];exact List.mem_append_left _ hm')
   exact⟨this.1,(this.2.fr f1).fr f12⟩
 have ha2:At g2 (102,0) a (.list []):=(ha.2.fr f1).fr f12
 refine J1 (Jlu c0 y pre chs mks a g2) chs.length
  ⟨⟨_,_,_,rfl⟩,g2,c,chs,rfl,Fr.refl,by rw[←hch];exact b2,bk,Nat.le_refl _,rfl⟩ ?_
 have hcl:pre.length+chs.length≤100000:=by rw[hch,List.length_append] at hc;exact hc
 rintro n l st ⟨⟨_,_,_,rfl⟩,g',c',chs',rfl,fr,b',bk',hle,rfl⟩
 obtain ⟨wA',t'⟩:=b'.top
 have hcl':((pre++chs').map Chg.v).length≤1000000:=by rw[List.length_map,List.length_append];omega
 refine Jgb.mpr ?_
 refine Qm t'.o (Je b'.ch.l (cap5 hcl') (gtN ?_))
 rw[List.length_map,List.length_append]
 cases bk' with
 |nil=>
  rw[decide_eq_false (by simp),w1703_4]
  refine bF (Q7 t'.o (by decide) (by kernel_rfl) (by show 11<64;decide) fun g3 c3 o3=>?_)
  rw[Jb3] at o3
  have f3:Fr [4] g' g3:=c3.fr t'.o
  have a3:=(ha2.fr fr).fr f3
  refine k g3 (f02.trans (fr.trans f3 (W:=WP)) (by decide)) ⟨b'.bank.fr f3,b'.uni.fr f3,b'.ed.imp fun _ x=>⟨x.1.fr f3,x.2⟩,b'.fo.imp fun _ x=>⟨x.1.fr f3,x.2⟩,b'.kn.imp fun _ x=>x.fr f3,b'.ab.fr f3,?_,⟨a,o3,ha.1,a3,t'.mr.fr f3,fun h=>?_,t'.nd,fun m hm'=>⟨(t'.ms m hm').1,(t'.ms m hm').2.fr f3⟩⟩⟩
  ·have:=b'.ch.fr f3
   rw[List.append_nil] at this
   exact this
  ·exact hnd.2.2 a h a (by simp) rfl
 |@snoc h chs'' _ c1' _ un ok rc bk''=>
  rw[decide_eq_true (by simp),Jga]
  have chl:=b'.ch.l
  have hap:pre++(chs''++[h])=(pre++chs'')++[h]:=(List.append_assoc ..).symm
  have bch:=b'.ch
  rw[hap] at bch
  have chl:=bch.l
  rw[List.map_append,List.map_singleton] at chl
  rw[hap,List.map_append] at hcl'
  refine bT (Qm t'.o (X7 chl (by decide) (cap5 hcl') rfl fun g3 c3 ch3=>?_))
  have f3:Fr [19] g' g3:=c3.fr chl
  have b3:LvB g3 c' {y with chs:=pre++chs'',mks:=mks,bk:=y.bk+1,md:=c'.ns.length}:=b'.ch' f3 (bch.init f3 ch3)
  have t3:=t'.fr f3
  have hle':chs''.length≤chs.length:=by rw[List.length_append,List.length_singleton] at hle;exact Nat.le_of_lt hle
  have hlt:chs''.length<(chs''++[h]).length:=by rw[List.length_append,List.length_singleton];exact Nat.lt_succ_self _
  clear hap chl hcl' ch3 c3 t' b' hle b2 ha b bk tm hch hmk hnd hma t o2 o1 mr1 f1 f12 c1 c2 ha2 hbk hm hc hmd
  cases un with
  |known _ s n hk=>
   refine Jq (i:=0) (v:=.str "known") rfl (by show 2<cap;unfold cap;decide) (Jbg (by kernel_rfl) (by kernel_rfl) (by kernel_rfl) (bF ?_))
   refine Jq (i:=0) (v:=.str "known") rfl (by show 2<cap;unfold cap;decide) (Jl0 (by kernel_rfl) (by kernel_rfl) (by kernel_rfl) (bT (Zb t3.o ?_)))
   obtain ⟨e,kn⟩:=b3.kn
   have okn:=ok.kn
   have hg:dget (knD c1'.known) s.v=none:=by rw[Qy,hk];rfl
   have knD':knD (c1'.know s n).known=knD c1'.known++[(s.v,N n)]:=Yv
   refine Jq (i:=1) (v:=s.v) rfl (by show 2<cap;unfold cap;decide) (Jcb kn (by decide) Qh (by rw[knD',List.length_append,Wa];exact cap5 (by simp;exact leK okn)) (v:=N n) (by rw[knD',Zi,hg,Option.none_or,Ji,if_pos rfl]) fun g4 c4 kn4=>?_)
   have f4:Fr [16] g3 g4:=c4.fr kn
   rw[knD',Jcd hg] at kn4
   exact⟨_,hlt,⟨_,_,_,rfl⟩,g4,c1',chs'',rfl,(fr.trans f3).trans f4,b3.kn' f4 kn4,bk'',hle',rfl⟩
  |same _ r m x us=>
   refine Jq (i:=0) (v:=.str "edge") rfl (by show 5<cap;unfold cap;decide) (Jbg (by kernel_rfl) (by kernel_rfl) (by kernel_rfl) (bF ?_))
   refine Jq (i:=0) (v:=.str "edge") rfl (by show 5<cap;unfold cap;decide) (Jbg (by kernel_rfl) (by kernel_rfl) (by kernel_rfl) (bF ?_))
   refine Jg t3.o (p:=K 1707) (by kernel_rfl) (by kernel_rfl) (Jfk b3 ok.ed fun g4 f4 b4=>?_)
   exact⟨_,hlt,⟨_,_,_,rfl⟩,g4,c1',chs'',rfl,(fr.trans f3).trans f4,b4,bk'',hle',rfl⟩
  |edge _ kk j x lt hj rk rj=>
   refine Jq (i:=0) (v:=.str "edge") rfl (by show 5<cap;unfold cap;decide) (Jbg (by kernel_rfl) (by kernel_rfl) (by kernel_rfl) (bF ?_))
   refine Jq (i:=0) (v:=.str "edge") rfl (by show 5<cap;unfold cap;decide) (Jbg (by kernel_rfl) (by kernel_rfl) (by kernel_rfl) (bF ?_))
   have hx:=bch.us kk (c1'.ab kk).length j x (c1'.ab j) (List.mem_append_right _ (.head _)) (Nat.ne_of_lt lt)
   refine Jg t3.o (p:=K 1707) (by kernel_rfl) (by kernel_rfl) (c1707 b3 ok lt hj rk rj hx.1 (hx.2.fr f3) fun g4 f4 b4=>?_)
   exact⟨_,hlt,⟨_,_,_,rfl⟩,g4,c1',chs'',rfl,(fr.trans f3).trans f4,b4,bk'',hle',rfl⟩
  |made _ x on=>
   refine Jq (i:=0) (v:=.str "made") rfl (by show 2<cap;unfold cap;decide) (Jl0 (by kernel_rfl) (by kernel_rfl) (by kernel_rfl) (bT ?_))
   refine Jg t3.o (p:=K 1706) (by kernel_rfl) (by kernel_rfl) (Jq (i:=1) (v:=N c1'.ns.length) rfl (by show 2<cap;unfold cap;decide) (c1706 b3 ok on rc fun g4 f4 b4=>?_))
   exact⟨_,hlt,⟨_,_,_,rfl⟩,g4,c1',chs'',rfl,(fr.trans f3).trans f4,b4,bk'',hle',rfl⟩
theorem Jcj (b:LvB g c y) (h:HI c y.w y.chs P) (s:Stk y.mks y.chs c sv) (hmd:y.md=c.ns.length)
  (on:NsOk (c.ns++[⟨op,[]⟩])) (hx:⟨op,[]⟩∉c.ns) (b1:c.edges≤90000) (b2:c.known.length≤90000) (b3:y.chs.length≤90000) (b4:y.w.length≤9000) (b5:y.mks.length≤100)
  (k:∀g' c' y',Fr WH g g'→LvB g' c' y'→HI c' y'.w y'.chs P→Stk y'.mks y'.chs c' sv→y'.bk=y.bk→y'.mks=y.mks→y'.md=c.ns.length+1→c'.ns=c.ns++[⟨op,[]⟩]→
   c'.edges≤c.edges+1→c'.known.length≤c.known.length+1→y'.chs.length≤y.chs.length+2→Pot c' y'≤Pot c y→Q (N c.ns.length) g'.st) :
  callN T (d+8) (K 1504) [.ref 4,.tup [.str op]] g.st Q:=by
 refine x11 b.top fun wA t=>?_
 refine w1504.mpr (w1504_0.mpr ?_)
 refine Jg t.o (p:=K 1503) (by kernel_rfl) (by kernel_rfl) ?_
 refine Jq (i:=0) (v:=.str op) rfl (by show 1<cap;unfold cap;decide) (Wz (n:=1) ⟨by decide,by show 1≤1;decide,by show 1<cap;unfold cap;decide⟩ (Qc ⟨rfl,?_⟩))
 refine Wo (W:=[]) id _ (by show 0<cap;unfold cap;decide) (fun _ _ _=>Jji) (fun _ _=>trivial) (fun v hv=>by cases hv) fun g1 f1=>?_
 refine Jj (0,0) fun g2 y2 _ f2 h2=>Qz h2 (by show 0<cap;unfold cap;decide) ?_
 have f02:=f1.trans f2
 exact Jck (x:=⟨op,[]⟩) (b.fr f02) h s hmd on hx b1 b2 b3 b4 b5 fun g' c' y' f=>k g' c' y' ((f02.mono).trans f)
noncomputable def d2 (f:Nat→V):List (V×V):=[(N 0,f 0),(N 1,f 1)]
theorem lt2 (h:l<2):l=0∨l=1:=by omega
theorem Wr (h:l<2):dget (d2 f) (N l)=some (f l):=by
 unfold d2
 rcases lt2 h with rfl|rfl
 ·rw[Ji,if_pos rfl]
 ·rw[Ji,if_neg fun e=>by have:=Jcp e;exact absurd this (by decide),Ji,if_pos rfl]
theorem Jeh (h:l<2):dput (d2 f) (N l) v=d2 (upd f l v):=by
 unfold d2
 rcases lt2 h with rfl|rfl
 ·show (if N 0=N 0 then _ else _)=_
  rw[if_pos rfl,Jd,Jk (by decide)]
 ·show (if N 0=N 1 then _ else _::(if N 1=N 1 then _ else _))=_
  rw[if_neg fun e=>by have:=Jcp e;exact absurd this (by decide),if_pos rfl,Jd,Jk (by decide)]
theorem d2_keys:(d2 f).map (·.1)=natL [0,1]:=rfl
theorem Xb:keysOk (N l) (d2 f):=Jt d2_keys
noncomputable def wD (w:List (Nat×Nat)):List (V×V):=w.map fun e=>(N e.1,N e.2)
noncomputable def wget (w:List (Nat×Nat)) (a:Nat):Option Nat:=(w.find? fun e=>decide (e.1=a)).map (·.2)
theorem Zh:dget (wD w) (N a)=(wget w a).map N:=by
 induction w with
 |nil=>rfl
 |cons e w ih=>
  show dget ((N e.1,N e.2)::wD w) (N a)=_
  rw[Ji]
  unfold wget
  rw[List.find?_cons]
  by_cases h:e.1=a
  ·rw[if_pos (by rw[h]),decide_eq_true h];rfl
  ·rw[if_neg fun c=>h (Jcp c),decide_eq_false h];exact ih
theorem Jfr:(wD w).map (·.1)=natL (w.map (·.1)):=by
 unfold wD natL
 rw[List.map_map,List.map_map];rfl
theorem Ji0:keysOk (N a) (wD w):=Jt Jfr
noncomputable def WF (w:List (Nat×Nat)) (f:Nat→Nat):Prop:=∀a,(wget w a=none∧f a=a)∨∃v,wget w a=some v∧v<a∧f v=f a
theorem WF.rep (h:WF w f):Rep f:=by
 intro a
 induction a using Nat.strongRecOn with
 |ind a ih=>
  refine Or.elim (h a) (fun r0_=>?_) (fun r1_=>?_)
  ·refine x02 r0_ fun _ e=>?_
   rw[e,e];exact⟨Nat.le_refl _,rfl⟩
  ·refine x13 r1_ fun v _ lt e=>?_
   have:=ih v lt
   rw[e] at this
   exact⟨by exact Nat.le_of_lt (Nat.lt_of_le_of_lt this.1 lt),this.2⟩
theorem c6 (b:At g q x (.dict (wD w) e)) (h:WF w f) (k:Q (N (f a)) g.st):callN T (d+1) (K 6) [.ref x,N a] g.st Q:=by
 refine w6.mpr (w6_0.mpr ?_)
 refine J1 (fun n l st=>st=g.st∧f n=f a∧l=[some (.ref x),some (N n)]) a ⟨rfl,rfl,rfl⟩ ?_
 rintro n l _ ⟨rfl,hf,rfl⟩
 refine w6_0_t.mpr ?_
 refine Or.elim (h n) (fun r0_=>?_) (fun r1_=>?_)
 ·refine x02 r0_ fun h1 h2=>?_
  refine in_f b Ji0 (by rw[Zh,h1];rfl) (bF ?_)
  rw[w6_1,←h2,hf];exact k
 ·refine x13 r1_ fun v h1 lt h2=>?_
  refine in_t b Ji0 (v:=N v) (by rw[Zh,h1];rfl) (bT ?_)
  refine w6_0_0.mpr ?_
  exact Jn b Ji0 (v:=N v) (by rw[Zh,h1];rfl) ⟨v,lt,rfl,h2.trans hf,rfl⟩
end Mine
namespace Mine
structure Adr where
 l:Nat
 be:Nat
 to:Nat
 wy:Nat
 ba:Nat
variable {aa:Adr}
structure Row where
 a:Nat
 b:Nat
 da:Nat
 db:Nat
 ea:List (Nat×Node)
 eb:List (Nat×Node)
noncomputable def Row.v (r:Row):V:=.tup [N r.a,N r.b,.ref r.da,.ref r.db]
noncomputable def nD (e:List (Nat×Node)):List (V×V):=e.map fun p=>(N p.1,p.2.v)
structure Ly where
 hi:Bool
 turns:Nat
 bk:Nat→Nat
 w:Nat→List (Nat×Nat)
 told:Nat→List Row
noncomputable def layV:Option Nat→V
 |none=>.int (-1)
 |some l=>N l
noncomputable def nxt (hi:Bool) (l:Nat):Option Nat:=if l=1∧hi=true then some 0 else none
noncomputable def up (hi:Bool):Option Nat→List Nat
 |none=>[]
 |some l=>if l=1∧hi=true then [1,0] else [l]
noncomputable def LayOk:Option Nat→Prop
 |none=>True
 |some l=>l<2
noncomputable def lyF (aa:Adr) (tn:Nat):List (Str×V):=[("heap",.ref 4),("beneath",.ref aa.be),("told",.ref aa.to),("ways",.ref aa.wy),("backs",.ref aa.ba),("many",N 2),("turns",N tn)]
noncomputable def lyO (aa:Adr) (tn:Nat):O:=.inst (K 7) (lyF aa tn)
structure LyB (aa:Adr) (g:G) (ly:Ly):Prop where
 nz:aa.l≠0∧aa.be≠0∧aa.to≠0∧aa.wy≠0∧aa.ba≠0
 o:At g (47,0) aa.l (lyO aa ly.turns)
 be:∃e,At g (48,0) aa.be (.dict (d2 fun l=>layV (nxt ly.hi l)) e)
 to:∃(A:Nat→Nat) (e:Nat),At g (49,0) aa.to (.dict (d2 fun l=>.ref (A l)) e)∧∀l,l<2→A l≠0∧At g (104,l) (A l) (.list ((ly.told l).map Row.v))
 wy:∃(A:Nat→Nat) (e:Nat),At g (50,0) aa.wy (.dict (d2 fun l=>.ref (A l)) e)∧∀l,l<2→A l≠0∧∃e',At g (103,l) (A l) (.dict (wD (ly.w l)) e')
 ba:∃e,At g (51,0) aa.ba (.dict (d2 fun l=>N (ly.bk l)) e)
 rows:∀l,l<2→∀r∈ly.told l,(∃e,At g (0,0) r.da (.dict (nD r.ea) e))∧∃e,At g (0,0) r.db (.dict (nD r.eb) e)
theorem LyB.fr (b:LyB aa g ly) (f:Fr W g g') (h:47∉W∧48∉W∧49∉W∧50∉W∧51∉W∧103∉W∧104∉W∧0∉W:=by decide):LyB aa g' ly:=by
 refine x08 h fun h1 h2 h3 h4 h5 h6 h7 h8=>?_
 refine x22 b.to fun A e t1 t2=>?_
 refine x22 b.wy fun A' e' w1 w2=>?_
 exact⟨b.nz,b.o.fr f h1,b.be.imp fun _ x=>x.fr f h2,⟨A,e,t1.fr f h3,fun l hl=>⟨(t2 l hl).1,(t2 l hl).2.fr f h7⟩⟩,⟨A',e',w1.fr f h4,fun l hl=>⟨(w2 l hl).1,(w2 l hl).2.imp fun _ x=>x.fr f h6⟩⟩,
  b.ba.imp fun _ x=>x.fr f h5,fun l hl r hr=>⟨(b.rows l hl r hr).1.imp fun _ x=>x.fr f h8,(b.rows l hl r hr).2.imp fun _ x=>x.fr f h8⟩⟩
section
variable {g:G} {tn d:Nat} {Q:KV}
theorem J8 (o:At g (47,0) aa.l (lyO aa tn)) (k:Q (.ref 4) g.st):attrV T (.ref aa.l) "heap" g.st Q:=Js o (by kernel_rfl) (by kernel_rfl) k
theorem W6 (o:At g (47,0) aa.l (lyO aa tn)) (k:Q (.ref aa.be) g.st):attrV T (.ref aa.l) "beneath" g.st Q:=Js o (by kernel_rfl) (by kernel_rfl) k
theorem Jaw (o:At g (47,0) aa.l (lyO aa tn)) (k:Q (.ref aa.to) g.st):attrV T (.ref aa.l) "told" g.st Q:=Js o (by kernel_rfl) (by kernel_rfl) k
theorem Jdb (o:At g (47,0) aa.l (lyO aa tn)) (k:Q (.ref aa.wy) g.st):attrV T (.ref aa.l) "ways" g.st Q:=Js o (by kernel_rfl) (by kernel_rfl) k
theorem Jd7 (o:At g (47,0) aa.l (lyO aa tn)) (k:Q (.ref aa.ba) g.st):attrV T (.ref aa.l) "backs" g.st Q:=Js o (by kernel_rfl) (by kernel_rfl) k
theorem Jk7 (o:At g (47,0) aa.l (lyO aa tn)) (k:Q (N tn) g.st):attrV T (.ref aa.l) "turns" g.st Q:=Js o (by kernel_rfl) (by kernel_rfl) k
theorem Jo (o:At g (47,0) aa.l (lyO aa tn)) (h1:fget (lyF aa tn) m=none) (h2:T.meth (K 7) m=some p)
  (k:A fun vs st=>callN T d p (.ref aa.l::vs) st Q):methQ d (.ref aa.l) m g.st A Q:=Wt o h1 h2 k
end
theorem Jcz (h:i<2):up hi (some i)=i::up hi (nxt hi i):=by
 rcases lt2 h with rfl|rfl<;>cases hi<;>rfl
theorem Jl3:LayOk (nxt hi i):=by
 unfold nxt
 by_cases q:i=1∧hi=true
 ·rw[if_pos q];exact(by decide:0<2)
 ·rw[if_neg q];trivial
theorem up_len:(up hi L).length≤2:=by
 cases L with
 |none=>exact Nat.zero_le _
 |some l=>
  unfold up
  by_cases q:l=1∧hi=true
  ·simp [q]
  ·simp [q]
theorem c701 (b:LyB aa g ly) (hL:LayOk L) (k:Q .none g.st):callN T (d+1) (K 701) [.ref aa.l,layV L] g.st Q:=by
 refine w701.mpr (Jlx.mpr ?_)
 cases L with
 |none=>
  refine neI ?_
  rw[decide_eq_true rfl]
  exact bF k
 |some l=>
  refine neI ?_
  rw[decide_eq_false (by omega)]
  refine x11 b.be fun e be=>?_
  exact bT (W6 b.o (Jk2 be Xb (Wr hL) (bF k)))
inductive Ic703_1 (g:G) (ly:Ly) (L:Option Nat) (y:Nat) (n:Nat) (l:Loc) (st:St):Prop
 |mk (cur) (dn) (g') (h1_:LayOk cur) (h2_:dn++up ly.hi cur=up ly.hi L) (h3_:n=(up ly.hi cur).length) (h4_:st=g'.st) (h5_:Fr [] g g') (h6_:At g' (0,0) y (.list (natL dn))) (a) (h7_:l=[some (.ref aa.l),some (layV cur),some (.ref y),a])
theorem c703 (b:LyB aa g ly) (hL:LayOk L) (k:∀g' y,Fr [] g g'→At g' (0,0) y (.list (natL (up ly.hi L).reverse))→Q (.ref y) g'.st) :
  callN T (d+2) (K 703) [.ref aa.l,layV L] g.st Q:=by
 refine w703.mpr (w703_0.mpr ?_)
 refine Jo b.o (p:=K 701) (by kernel_rfl) (by kernel_rfl) (c701 b hL ⟨by decide,Jj (0,0) fun g1 y hy f1 h1=>?_⟩)
 have y0:y≠0:=by have:=b.o.lt;exact n0 hy this
 refine J1 (Ic703_1 g ly L y) (up ly.hi L).length
  ⟨L,[],g1,hL,rfl,rfl,rfl,f1,h1,_,rfl⟩ ?_
 rintro n l _ ⟨cur,dn,g',hc,ed,rfl,rfl,fr,hy',_,rfl⟩
 have hdn:dn.length≤2:=by have:=up_len (hi:=ly.hi) (L:=L);rw[←ed,List.length_append] at this;exact Nat.le_of_add_right_le this
 have b':=b.fr fr
 refine Jjd.mpr ?_
 cases cur with
 |none=>
  refine neI ?_
  rw[decide_eq_true rfl]
  rw[w703_3]
  refine bF (rev_at hy' (by rw[Ja];exact cap5 (leK hdn)) (Jj (0,0) fun g2 y2 _ f2 h2'=>k g2 y2 (fr.trans f2) ?_))
  have ed:dn=up ly.hi L:=by rw[←ed];exact(List.append_nil dn).symm
  rw[←ed]
  have:(natL dn).reverse=natL dn.reverse:=by unfold natL;rw[List.map_reverse]
  rw[←this];exact h2'
 |some i=>
  have hi:i<2:=hc
  refine neI ?_
  rw[decide_eq_false (by omega),Jjc]
  refine bT (X4 hy' y0 (by rw[Ja];exact cap5 (leK hdn)) fun g2 cc h2'=>?_)
  have f2:=cc.own fr (Nat.le_of_eq (Eq.symm hy))
  have b2:=b.fr f2
  refine x11 b2.be fun e be=>?_
  refine W6 b2.o (Jn be Xb (Wr hi) ⟨_,?_,nxt ly.hi i,dn++[i],g2,?_,?_,rfl,rfl,f2,by rw[Jf];exact h2',_,rfl⟩)
  ·rw[Jcz hi];exact Nat.lt_succ_self _
  ·exact Jl3
  ·rw[←ed,Jcz hi,List.append_assoc];rfl
end Mine
namespace Mine
variable {aa:Adr}
noncomputable def FL (F:Nat→Nat) (f:Nat→Nat→Nat) (hi:Bool) (L:Option Nat) (a:Nat):Nat:=(up hi L).reverse.foldl (fun c i=>f i c) (F a)
theorem Jba (h:l<2):FL F f hi (some l) a=f l (FL F f hi (nxt hi l) a):=by
 unfold FL
 rw[Jcz h,List.reverse_cons,List.foldl_append];rfl
theorem up_lt (h:LayOk L):∀i∈up hi L,i<2:=by
 cases L with
 |none=>intro i hi;cases hi
 |some l=>
  have h:l<2:=h
  unfold up
  by_cases q:l=1∧hi=true
  ·simp [q]
  ·simp [q];exact h
inductive Ic705_1 (n:Nat) (c:Core) (ly:Ly) (L:Option Nat) (f:Nat→Nat→Nat) (g1:G) (vs:List V) (l:Loc) (st:St):Prop
 |mk (rs) (cur) (g') (h1_:vs=natL rs) (h2_:(∀i∈rs,i<2)∧rs.foldl (fun c i=>f i c) cur=FL c.u.F f ly.hi L n∧st=g'.st∧Fr [] g1 g'∧∃a1 a2,l=[some (.ref aa.l),some (layV L),some (N n),some (N cur),a1,a2])
theorem c705 (b:LyB aa g ly) (lb:LvB g c y) (ou:UOk c.u c.ns.length) (hL:LayOk L) (hf:∀l,l<2→WF (ly.w l) (f l)) (hn:n<c.ns.length)
  (k:∀g',Fr [] g g'→Q (N (FL c.u.F f ly.hi L n)) g'.st):callN T (d+3) (K 705) [.ref aa.l,layV L,N n] g.st Q:=by
 refine x11 lb.top fun wA t=>?_
 refine w705.mpr (w705_0.mpr ?_)
 refine J8 b.o (Jg t.o (p:=K 1506) (by kernel_rfl) (by kernel_rfl) (c1506 t.o lb.uni ou hn (Jo b.o (p:=K 703) (by kernel_rfl) (by kernel_rfl) (c703 b hL fun g1 z f1 hz=>Jy hz ⟨trivial,?_⟩))))
 refine J7 (Ic705_1 n c ly L f g1) ?_ ?_ _ _ _
  ⟨_,_,g1,rfl,fun i hi=>up_lt hL i (List.mem_reverse.mp hi),rfl,rfl,Fr.refl,_,_,rfl⟩
 ·rintro v vs l _ ⟨rs,cur,g',ev,hlt,ef,rfl,fr,_,_,rfl⟩ kn' hk'
  cases rs with
  |nil=>injection ev
  |cons i rs=>
   have ev:=List.cons.inj ev
   have hi:=hlt i (.head _)
   refine⟨(hz.fr fr).2,?_⟩
   rw[ev.1,Jjb,Jja]
   have b':=(b.fr f1).fr fr
   refine x22 b'.wy fun A e wy ww=>?_
   obtain ⟨A0,e',aw⟩:=ww i hi
   refine Jdb b'.o (Jn wy Xb (Wr hi) (c6 aw (hf i hi) (hk' _ _ ⟨rs,f i cur,g',ev.2,fun i h=>hlt i (.tail _ h),ef,rfl,fr,_,_,rfl⟩)))
 ·rintro _ _ ⟨rs,cur,g',ev,_,ef,rfl,fr,_,_,rfl⟩
  have:rs=[]:=by cases rs with
   |nil=>rfl
   |cons _ _=>injection ev
  subst this
  refine⟨(hz.fr fr).2,?_⟩
  refine w705_2.mpr ?_
  have ef:cur=FL c.u.F f ly.hi L n:=ef
  rw[ef]
  exact k g' (f1.trans fr)
theorem c706 (b:LyB aa g ly) (lb:LvB g c y) (ou:UOk c.u c.ns.length) (hL:LayOk L) (hf:∀l,l<2→WF (ly.w l) (f l)) (ha:a<c.ns.length) (he:e<c.ns.length)
  (k:∀g',Fr [] g g'→Q (.bool (decide (FL c.u.F f ly.hi L a=FL c.u.F f ly.hi L e))) g'.st):callN T (d+4) (K 706) [.ref aa.l,layV L,N a,N e] g.st Q:=by
 refine w706.mpr (w706_0.mpr ?_)
 refine Jo b.o (p:=K 705) (by kernel_rfl) (by kernel_rfl) (c705 b lb ou hL hf ha fun g1 f1=>Jo (b.fr f1).o (p:=K 705) (by kernel_rfl) (by kernel_rfl) (c705 (b.fr f1) (lb.fr f1) ou hL hf he fun g2 f2=>eqN (k g2 (f1.trans f2))))
theorem Jct:wget (w++w') a=(wget w a).or (wget w' a):=by
 unfold wget
 rw[List.find?_append]
 cases w.find? _<;>rfl
theorem WF.none (h:WF w f) (e:f a=a):wget w a=Option.none:=by
 refine Or.elim (h a) (fun r0_=>?_) (fun r1_=>?_)
 ·refine x02 r0_ fun h1 _=>?_
  exact h1
 ·refine x13 r1_ fun v _ lt e'=>?_
  have:=(h.rep v).1
  rw[e',e] at this
  exact absurd lt (Nat.not_lt_of_le this)
theorem WF.join (h:WF w f) (rk:f k=k) (rj:f j=j) (lt:k<j):WF (w++[(j,k)]) (jF f k j):=by
 intro a
 rw[Jct]
 have e:wget [(j,k)] a=if j=a then some k else Option.none:=by
  unfold wget
  rw[List.find?_cons]
  by_cases q:j=a
  ·rw[if_pos q,decide_eq_true q];rfl
  ·rw[if_neg q,decide_eq_false q];rfl
 refine Or.elim (h a) (fun r0_=>?_) (fun r1_=>?_)
 ·refine x02 r0_ fun h1 h2=>?_
  rw[h1,Option.none_or,e]
  by_cases q:j=a
  ·subst q
   refine .inr ⟨k,if_pos rfl,lt,?_⟩
   unfold jF
   rw[rk,if_neg (Nat.ne_of_lt lt),if_pos rj]
  ·refine .inl ⟨if_neg q,?_⟩
   unfold jF
   rw[h2,if_neg (Ne.symm q)]
 ·refine x13 r1_ fun v h1 h2 h3=>?_
  rw[h1]
  exact .inr ⟨v,rfl,h2,Jb1 h3⟩
theorem Jl4 (h:l<2):l∉up hi (nxt hi l):=by
 rcases lt2 h with rfl|rfl<;>cases hi<;>decide
theorem Jb5 {f:Nat→Nat→Nat} {f':Nat→Nat}:∀(r:List Nat) (a:Nat),l∉r→r.foldl (fun c i=>upd f l f' i c) a=r.foldl (fun c i=>f i c) a:=by
 intro l_
 induction l_ with
 |nil=>
  intro _ _
  exact rfl
 |cons i r ih_=>
  intro a h
  show r.foldl _ (upd f l f' i a)=r.foldl _ (f i a)
  rw[Jk fun (e:i=l)=>h (by rw[←e];exact .head _)]
  exact ih_ _ fun m=>h (.tail _ m)
theorem Jiw (h:l<2):FL F (upd f l (jF (f l) k j)) hi (some l) a=jF (FL F f hi (some l)) k j a:=by
 rw[Jba h,Jd]
 unfold jF
 rw[Jba h]
 have e:FL F (upd f l (jF (f l) k j)) hi (nxt hi l) a=FL F f hi (nxt hi l) a:=Jb5 _ _ fun m=>Jl4 h (List.mem_reverse.mp m)
 unfold jF at e
 rw[e]
noncomputable def Ly.join (ly:Ly) (l k j:Nat):Ly:={ly with w:=upd ly.w l (ly.w l++[(j,k)])}
end Mine
namespace Mine
variable {aa:Adr}
theorem Jix (h:l<2) (hf:WF w (f l)):f l (FL F f hi (some l) a)=FL F f hi (some l) a:=by
 rw[Jba h];exact(hf.rep _).2
theorem c707 (b:LyB aa g ly) (lb:LvB g c y) (ou:UOk c.u c.ns.length) (hl:l<2) (hf:∀l,l<2→WF (ly.w l) (f l))
  (hr:Rep (FL c.u.F f ly.hi (some l))) (hw:(ly.w l).length≤1000) (ha:a<c.ns.length) (he:e<c.ns.length)
  (k0:FL c.u.F f ly.hi (some l) a=FL c.u.F f ly.hi (some l) e→∀g',Fr [] g g'→Q (.bool false) g'.st)
  (k1:∀k j,FL c.u.F f ly.hi (some l) a≠FL c.u.F f ly.hi (some l) e→k=min (FL c.u.F f ly.hi (some l) a) (FL c.u.F f ly.hi (some l) e)→j=max (FL c.u.F f ly.hi (some l) a) (FL c.u.F f ly.hi (some l) e)→
   k<j→j<c.ns.length→FL c.u.F f ly.hi (some l) k=k→FL c.u.F f ly.hi (some l) j=j→∀g',Fr [103] g g'→LyB aa g' (ly.join l k j)→WF (ly.w l++[(j,k)]) (jF (f l) k j)→Q (.bool true) g'.st) :
  callN T (d+4) (K 707) [.ref aa.l,N l,N a,N e] g.st Q:=by
 have hL:LayOk (some l):=hl
 refine w707.mpr (w707_0.mpr ?_)
 refine⟨by decide,Jo b.o (p:=K 705) (by kernel_rfl) (by kernel_rfl) (c705 (L:=some l) b lb ou hL hf ha fun g1 f1=>Jo (b.fr f1).o (p:=K 705) (by kernel_rfl) (by kernel_rfl) (c705 (L:=some l) (b.fr f1) (lb.fr f1) ou hL hf he fun g2 f2=>neN ?_))⟩
 have f02:=f1.trans f2
 have b2:=b.fr f02
 have qa:=hr a
 have qe:=hr e
 have xa:f l (FL c.u.F f ly.hi (some l) a)=FL c.u.F f ly.hi (some l) a:=Jix hl (hf l hl)
 have xe:f l (FL c.u.F f ly.hi (some l) e)=FL c.u.F f ly.hi (some l) e:=Jix hl (hf l hl)
 revert k0 k1 qa qe xa xe
 generalize ea:FL c.u.F f ly.hi (some l) a=fa
 generalize ee:FL c.u.F f ly.hi (some l) e=fe
 intro k0 k1 qa qe xa xe
 by_cases q:fa=fe
 ·rw[decide_eq_true q]
  refine bF (neN ?_)
  rw[decide_eq_true q]
  exact k0 q g2 f02
 ·rw[decide_eq_false q]
  have fmin:f l (min fa fe)=min fa fe:=by
   rcases Nat.le_total fa fe with h|h
   ·rw[Nat.min_eq_left h];exact xa
   ·rw[Nat.min_eq_right h];exact xe
  have fmax:f l (max fa fe)=max fa fe:=by
   rcases Nat.le_total fa fe with h|h
   ·rw[Nat.max_eq_right h];exact xe
   ·rw[Nat.max_eq_left h];exact xa
  have gmin:FL c.u.F f ly.hi (some l) (min fa fe)=min fa fe:=by
   rcases Nat.le_total fa fe with h|h
   ·rw[Nat.min_eq_left h];exact qa.2
   ·rw[Nat.min_eq_right h];exact qe.2
  have gmax:FL c.u.F f ly.hi (some l) (max fa fe)=max fa fe:=by
   rcases Nat.le_total fa fe with h|h
   ·rw[Nat.max_eq_right h];exact qe.2
   ·rw[Nat.max_eq_left h];exact qa.2
  refine x22 b2.wy fun A e0 wy ww=>?_
  obtain ⟨A0,e',aw⟩:=ww l hl
  have wn:=(hf l hl).none fmax
  refine bT (min2 (Jdb b2.o (Jn wy Xb (Wr hl) (max2 (J2 aw A0 Ji0 (by unfold wD;rw[List.length_map];exact cap5 (leK hw)) fun g3 c3 aw3=>neN ?_)))))
  rw[decide_eq_false q]
  rw[W0 (by rw[Zh,wn];rfl)] at aw3
  have f3:Fr [103] g2 g3:=c3.fr aw
  refine k1 (min fa fe) (max fa fe) q rfl rfl (by omega) (by omega) gmin gmax g3 ((f02.mono).trans f3) ?_ ((hf l hl).join fmin fmax (by omega))
  refine x22 b2.to fun A1 e1 to tt=>?_
  refine⟨b2.nz,b2.o.fr f3,b2.be.imp fun _ x=>x.fr f3,⟨A1,e1,to.fr f3,fun i hi=>⟨(tt i hi).1,(tt i hi).2.fr f3⟩⟩,⟨A,e0,wy.fr f3,fun i hi=>⟨(ww i hi).1,?_⟩⟩,b2.ba.imp fun _ x=>x.fr f3,fun i hi r hr'=>⟨(b2.rows i hi r hr').1.imp fun _ x=>x.fr f3,(b2.rows i hi r hr').2.imp fun _ x=>x.fr f3⟩⟩
  show ∃e',At g3 (103,i) (A i) (.dict (wD (upd ly.w l (ly.w l++[(max fa fe,min fa fe)]) i)) e')
  by_cases h:i=l
  ·subst h
   rw[Jd]
   have:wD (ly.w i++[(max fa fe,min fa fe)])=wD (ly.w i)++[(N (max fa fe),N (min fa fe))]:=List.map_append
   rw[this]
   exact⟨_,aw3⟩
  ·rw[Jk h]
   refine x11 ((ww i hi).2) fun e2 aw2=>?_
   exact⟨e2,aw2.ch c3 (aw2.ne aw (by simp;exact h))⟩
end Mine
namespace Mine
variable {aa:Adr}
structure LI (c:Core) (ly:Ly) (f:Nat→Nat→Nat) (l:Nat) (P:List (Nat×Nat)):Prop where
 wf:∀i,i<2→WF (ly.w i) (f i)
 rep:Rep (FL c.u.F f ly.hi (some l))
 below:Below c.ns P (FL c.u.F f ly.hi (some l))
 told:Told P (FL c.u.F f ly.hi (some l))
 kd:((ly.w l).map (·.1)).Nodup
 kl:∀x∈(ly.w l).map (·.1),x<c.ns.length
theorem Jiz (h:wget w a=none):a∉w.map (·.1):=by
 have e:dget (wD w) (N a)=none:=by rw[Zh,h];rfl
 have:=X0.mp e
 rw[Jfr] at this
 exact fun m=>this (W5.mpr m)
theorem LI.join (h:LI c ly f l P) (hl:l<2) (lt:k<j) (hj:j<c.ns.length) (rk:FL c.u.F f ly.hi (some l) k=k) (rj:FL c.u.F f ly.hi (some l) j=j)
  (w:WF (ly.w l++[(j,k)]) (jF (f l) k j)) (hP:∀G,Told P' G→Told P G) (e:∀G,Closed c.ns G→Told P' G→G k=G j) (ht:Told P' (jF (FL c.u.F f ly.hi (some l)) k j)):LI c (ly.join l k j) (upd f l (jF (f l) k j)) l P':=by
 have eq:FL c.u.F (upd f l (jF (f l) k j)) ly.hi (some l)=jF (FL c.u.F f ly.hi (some l)) k j:=funext fun a=>Jiw hl
 have fj:f l j=j:=by
  have:=Jix (F:=c.u.F) (hi:=ly.hi) (a:=j) hl (h.wf l hl)
  rwa [rj] at this
 refine⟨fun i hi=>?_,?_,?_,?_,?_,?_⟩
 ·show WF (upd ly.w l (ly.w l++[(j,k)]) i) (upd f l (jF (f l) k j) i)
  by_cases q:i=l
  ·subst q;rw[Jd,Jd];exact w
  ·rw[Jk q,Jk q];exact h.wf i hi
 ·show Rep (FL c.u.F (upd f l (jF (f l) k j)) ly.hi (some l));rw[eq];exact rep_j h.rep rk lt
 ·show Below c.ns P' (FL c.u.F (upd f l (jF (f l) k j)) ly.hi (some l));rw[eq]
  exact Ja7 h.rep (fun G hc ht=>h.below G hc (hP G ht)) rj e
 ·show Told P' (FL c.u.F (upd f l (jF (f l) k j)) ly.hi (some l));rw[eq];exact ht
 ·show ((upd ly.w l (ly.w l++[(j,k)]) l).map (·.1)).Nodup
  rw[Jd,List.map_append]
  exact List.nodup_append.mpr ⟨h.kd,by simp,fun a ha b hb q=>Jiz ((h.wf l hl).none fj) (by have e2:b=j:=List.mem_singleton.mp hb;rw[←e2,←q];exact ha)⟩
 ·show ∀x∈(upd ly.w l (ly.w l++[(j,k)]) l).map (·.1),x<c.ns.length
  rw[Jd,List.map_append]
  intro x hx
  rcases List.mem_append.mp hx with hx|hx
  ·exact h.kl x hx
  ·rw[List.mem_singleton.mp hx];exact hj
theorem LI.wlen (h:LI c ly f l P):(ly.w l).length≤c.ns.length:=by
 have:=Qx _ _ h.kd h.kl
 rwa [List.length_map] at this
structure LSame (l:Nat) (ly ly':Ly) (f f':Nat→Nat→Nat):Prop where
 hi:ly'.hi=ly.hi
 turns:ly'.turns=ly.turns
 bk:ly'.bk=ly.bk
 told:ly'.told=ly.told
 w:∀i,i≠l→ly'.w i=ly.w i
 f:∀i,i≠l→f' i=f i
theorem LSame.refl {f:Nat→Nat→Nat}:LSame l ly ly f f:=⟨rfl,rfl,rfl,rfl,fun _ _=>rfl,fun _ _=>rfl⟩
theorem LSame.trans {f f' f'':Nat→Nat→Nat} (a:LSame l ly ly' f f') (b:LSame l ly' ly'' f' f''):LSame l ly ly'' f f'':=
 ⟨b.hi.trans a.hi,b.turns.trans a.turns,b.bk.trans a.bk,b.told.trans a.told,fun i h=>(b.w i h).trans (a.w i h),fun i h=>(b.f i h).trans (a.f i h)⟩
theorem LSame.join {f:Nat→Nat→Nat} {h:Nat→Nat}:LSame l ly (ly.join l k j) f (upd f l h):=
 ⟨rfl,rfl,rfl,rfl,fun _ h=>Jk h,fun _ h=>Jk h⟩
end Mine
namespace Mine
variable {aa:Adr}
theorem Q8 (n:Nat):(Src.items (intL (rangeL 0 (n:Int)))).all=natL (List.range n):=by
 show intL _=_
 rw[show (0:Int)=((0:Nat):Int) from rfl,X6,Nat.sub_zero]
 exact List.map_congr_left fun i _=>by rw[Nat.zero_add]
theorem Jbv (q:Nat×Nat) (k:∀g' y,y=g.st.size→Fr [] g g'→At g' q y (.dict [] 0)→Q (.ref y) g'.st):dmake [] 0 [] fun o=>alloc o g.st Q:=Jj q k
theorem blP (k:Q b):boolP (.bool b) Q:=k
noncomputable def KnS (c:Core) (F:Nat→Nat) (kn:List (Node×Nat)):Prop:=∀s m,(s,m)∈kn→∃x,c.ns[m]?=some x∧s.op=x.op∧s.kids.map F=x.kids.map F
inductive Ic708_1 (g:G) (l:Nat) (c:Core) (ly:Ly) (f:Nat→Nat→Nat) (P:List (Nat×Nat)) (z:Nat) (vs:List V) (loc:Loc) (st:St):Prop
 |mk (dn) (rs) (kn) (t) (ly') (f') (g') (e) (h1_:List.range c.ns.length=dn++rs) (h2_:vs=natL rs) (h3_:st=g'.st) (h4_:Fr [103] g g') (h5_:LyB aa g' ly') (h6_:LI c ly' f' l P) (h7_:LSame l ly ly' f f') (h8_:At g' (1,0) z (.dict (knD kn) e)) (h9_:kn.length≤dn.length) (h10_:KnS c (FL c.u.F f' ly'.hi (some l)) kn) (h11_:(t=false→∀i∈dn,∀x,c.ns[i]?=some x→∃m,kget kn (sig (FL c.u.F f' ly'.hi (some l)) x)=some m∧FL c.u.F f' ly'.hi (some l) m=FL c.u.F f' ly'.hi (some l) i)) (h12_:(t=true→(ly.w l).length<(ly'.w l).length)) (h13_:(ly.w l).length≤(ly'.w l).length) (a1) (a2) (a3) (a4) (h14_:loc=[some (.ref aa.l),some (N l),some (.ref z),some (.bool t),a1,a2,a3,a4])
theorem c708 (b:LyB aa g ly) (lb:LvB g c y) (on:NsOk c.ns) (ou:UOk c.u c.ns.length) (hl:l<2) (li:LI c ly f l P)
  (k:∀g' ly' f' t,Fr [103] g g'→LyB aa g' ly'→LI c ly' f' l P→LSame l ly ly' f f'→(t=false→Closed c.ns (FL c.u.F f' ly'.hi (some l)))→(t=true→(ly.w l).length<(ly'.w l).length)→(ly.w l).length≤(ly'.w l).length→Q (.bool t) g'.st) :
  callN T (d+5) (K 708) [.ref aa.l,N l] g.st Q:=by
 have hn:=on.len
 refine x11 lb.top fun wA t4=>?_
 refine w708.mpr (w708_0.mpr ?_)
 refine⟨by decide,⟨by decide,rfl⟩,Jbv (1,0) fun g1 z hz f1 h1=>?_⟩
 have z0:z≠0:=by have:=b.o.lt;exact n0 hz this
 refine J8 (b.fr f1).o (Jg (t4.fr f1).o (p:=K 1501) (by kernel_rfl) (by kernel_rfl) (c1501 (t4.fr f1).o (lb.fr f1).bank (leK hn) (rangeN (cap5 (leK hn)) ⟨trivial,?_⟩)))
 rw[Q8]
 refine J7 (Ic708_1 g l c ly f P z) ?_ ?_ _ _ _
  ⟨[],_,[],false,ly,f,g1,0,rfl,rfl,rfl,f1.mono,b.fr f1,li,LSame.refl,h1,Nat.le_refl _,fun _ _ h=>(by cases h),fun _ i hi=>(by cases hi),fun h=>(by exact Bool.noConfusion h),Nat.le_refl _,_,_,_,_,rfl⟩
 ·rintro v vs loc _ ⟨dn,rs,kn,t,ly',f',g',e,er,ev,rfl,fr,b',li',ls,hk,hkl,ks,ht,ht2,ht3,_,_,_,_,rfl⟩ kn' hk'
  cases rs with
  |nil=>injection ev
  |cons n rs=>
   have ev:=List.cons.inj ev
   have hn':n<c.ns.length:=List.mem_range.mp (by rw[er];simp)
   have hdl:dn.length≤24:=by
    have:=congrArg List.length er
    rw[List.length_range,List.length_append,List.length_cons] at this;omega
   have hx:c.ns[n]?=some (c.ns[n]):=List.getElem?_eq_getElem hn'
   revert hx
   generalize c.ns[n]=x
   intro hx
   have kx:=on.kid n x hx
   have hx2:=on.two x (List.mem_of_getElem? hx)
   have lb':=lb.fr fr
   have t':=t4.fr fr
   refine⟨trivial,?_⟩
   rw[ev.1,Ji9,Ji8]
   refine⟨by decide,J8 b'.o (J6 t'.o (Jx lb'.bank.o (p:=K 1107) (by kernel_rfl) (by kernel_rfl) (c1107 lb'.bank on hx (J8 b'.o (J6 t'.o (Jx lb'.bank.o (p:=K 1108) (by kernel_rfl) (by kernel_rfl) (c1108 lb'.bank on hx (Qc ⟨rfl,?_⟩))))))))⟩
   refine Wo (W:=[]) (fun v=>match v with|.int i=>N (FL c.u.F f' ly'.hi (some l) i.toNat)|v=>v) _ (by show (natL x.kids).length<cap;rw[Ja];exact Jb (leK hx2)) (fun _ _ _=>w708_i0) (fun _ _=>trivial) (fun v hv g2 fr2 R hR=>?_) fun g2 f2=>?_
   ·refine x12 (List.mem_map.mp hv) fun i hi q1_=>?_
    subst q1_
    refine w708_b0.mpr (w708_e0.mpr ?_)
    exact Jo (b'.fr fr2).o (p:=K 705) (by kernel_rfl) (by kernel_rfl) (c705 (L:=some l) (b'.fr fr2) (lb'.fr fr2) ou hl li'.wf (by have:=kx i hi;exact Nat.lt_trans this.1 hn') fun g3 f3=>hR g3 (fr2.trans f3))
   rw[show (Src.items (natL x.kids)).all=natL x.kids from rfl,Yu (F:=FL c.u.F f' ly'.hi (some l)) fun _ _=>rfl]
   refine Jj (0,0) fun g3 y3 _ f3 h3=>?_
   refine Qz h3 (by rw[Ja,List.length_map];exact Jb (leK hx2)) (addT (by rw[Ja,List.length_map];exact Jb (by simp;exact l1K hx2)) ?_)
   have f23:=f2.trans f3
   have b3:=b'.fr f23
   have lb3:=lb'.fr f23
   have hk3:=hk.fr f23
   have fr3:Fr [103] g g3:=fr.trans f23
   have wl:=li'.wlen
   refine Jo b3.o (p:=K 707) (by kernel_rfl) (by kernel_rfl) (methSd hk3 ?_)
   have hl':(knD kn).length<cap:=by rw[Wa];exact cap5 (Nat.le_trans hkl (leK hdl))
   cases hq:kget kn (sig (FL c.u.F f' ly'.hi (some l)) x) with
   |some m=>
    have hm:=Yw hq
    refine x13 (ks _ _ hm) fun xm hxm eo ek=>?_
    have hml:=(List.getElem?_eq_some_iff.mp hxm).1
    refine X5 hk3 z0 hl' Qh (a:=(sig (FL c.u.F f' ly'.hi (some l)) x).v) (v:=N m) (by rw[Qy,hq];rfl) ?_
    refine c707 b3 lb3 ou hl li'.wf li'.rep (Nat.le_trans wl (leK hn)) hml hn' (fun eq g4 f4=>?_) fun kk j ne ekk ejj lt hj rk rj g4 f4 b4 wf4=>?_
    ·refine blP (bF (hk' _ _ ⟨dn++[n],rs,kn,t,ly',f',g4,e,by rw[er];simp,ev.2,rfl,fr3.trans f4,b3.fr f4,li',ls,hk3.fr f4,by rw[List.length_append];exact Nat.le_trans hkl (Nat.le_add_right _ _),ks,fun h i hi x' hx'=>?_,ht2,ht3,_,_,_,_,rfl⟩))
     rcases List.mem_append.mp hi with hi|hi
     ·exact ht h i hi x' hx'
     ·cases List.mem_singleton.mp hi
      rw[hx] at hx';obtain rfl:=Option.some.inj hx'
      exact⟨m,hq,eq⟩
    ·have tl:Told P (jF (FL c.u.F f' ly'.hi (some l)) kk j):=fun p hp=>Jb1 (li'.told p hp)
     have li2:=li'.join hl lt hj rk rj wf4 (fun _ h=>h) (fun G hc hG=>?_) tl
     ·refine blP (bT (hk' _ _ ⟨dn++[n],rs,kn,true,_,_,g4,e,by rw[er];simp,ev.2,rfl,fr3.trans f4,b4,li2,ls.trans LSame.join,hk3.fr f4,by rw[List.length_append];exact Nat.le_trans hkl (Nat.le_add_right _ _),fun s m' hm'=>?_,fun h=>(by exact Bool.noConfusion h),fun _=>?_,?_,_,_,_,_,rfl⟩))
      ·refine x13 (ks s m' hm') fun x' hx' e1 e2=>?_
       refine⟨x',hx',e1,?_⟩
       have eq:FL c.u.F (upd f' l (jF (f' l) kk j)) ly'.hi (some l)=jF (FL c.u.F f' ly'.hi (some l)) kk j:=funext fun a=>Jiw hl
       show s.kids.map (FL c.u.F (upd f' l (jF (f' l) kk j)) ly'.hi (some l))=_
       rw[show (ly'.join l kk j).hi=ly'.hi from rfl,eq]
       exact Jl8 e2
      ·show _<(upd ly'.w l (ly'.w l++[(j,kk)]) l).length
       rw[Jd,List.length_append,List.length_singleton];exact Nat.succ_le_succ ht3
      ·show _≤(upd ly'.w l (ly'.w l++[(j,kk)]) l).length
       rw[Jd,List.length_append,List.length_singleton];exact Nat.le_succ_of_le ht3
     ·have hb:=li'.below G hc hG
      have e3:x.kids.map (FL c.u.F f' ly'.hi (some l))=xm.kids.map (FL c.u.F f' ly'.hi (some l)):=by
       rw[←ek]
       show _=(x.kids.map (FL c.u.F f' ly'.hi (some l))).map (FL c.u.F f' ly'.hi (some l))
       rw[List.map_map]
       exact List.map_congr_left fun q _=>(li'.rep q).2.symm
      have e4:G n=G m:=hc n m x xm hx hxm eo (Wv hb e3)
      have e5:G (FL c.u.F f' ly'.hi (some l) m)=G m:=hb _ _ (li'.rep m).2
      have e6:G (FL c.u.F f' ly'.hi (some l) n)=G n:=hb _ _ (li'.rep n).2
      rcases Nat.le_total (FL c.u.F f' ly'.hi (some l) m) (FL c.u.F f' ly'.hi (some l) n) with q|q
      ·rw[Nat.min_eq_left q] at ekk
       rw[Nat.max_eq_right q] at ejj
       rw[ekk,ejj,e5,e6,e4]
      ·rw[Nat.min_eq_right q] at ekk
       rw[Nat.max_eq_left q] at ejj
       rw[ekk,ejj,e5,e6,e4]
   |none=>
    refine Jan hk3 z0 hl' Qh (a:=(sig (FL c.u.F f' ly'.hi (some l)) x).v) (by rw[Qy,hq];rfl) fun g4 c4 hk4=>?_
    rw[←Yv] at hk4
    have fr4:=c4.own fr3 (Nat.le_of_eq (Eq.symm hz))
    have f34:Fr [1] g3 g4:=c4.fr hk3
    have b4:=b3.fr f34
    have lb4:=lb.fr fr4
    refine c707 b4 lb4 ou hl li'.wf li'.rep (Nat.le_trans wl (leK hn)) hn' hn' (fun _ g5 f5=>?_) fun kk j ne _ _ _ _ _ _ _ _ _ _=>absurd rfl ne
    refine blP (bF (hk' _ _ ⟨dn++[n],rs,kn++[(sig (FL c.u.F f' ly'.hi (some l)) x,n)],t,ly',f',g5,_,by rw[er];simp,ev.2,rfl,fr4.trans f5,b4.fr f5,li',ls,hk4.fr f5,by rw[List.length_append,List.length_append];exact Nat.succ_le_succ hkl,fun s m' hm'=>?_,fun h i hi x' hx'=>?_,ht2,ht3,_,_,_,_,rfl⟩))
    ·rcases List.mem_append.mp hm' with hm'|hm'
     ·exact ks s m' hm'
     ·cases List.mem_singleton.mp hm'
      refine⟨x,hx,rfl,?_⟩
      show (x.kids.map (FL c.u.F f' ly'.hi (some l))).map _=_
      rw[List.map_map]
      exact List.map_congr_left fun q _=>(li'.rep q).2
    ·rcases List.mem_append.mp hi with hi|hi
     ·refine x12 (ht h i hi x' hx') fun m e1 e2=>?_
      exact⟨m,by rw[Qn,e1];rfl,e2⟩
     ·cases List.mem_singleton.mp hi
      rw[hx] at hx';obtain rfl:=Option.some.inj hx'
      refine⟨n,?_,rfl⟩
      rw[Qn,hq]
      unfold kget
      rw[List.find?_cons,decide_eq_true rfl];rfl
 ·rintro _ _ ⟨dn,rs,kn,t,ly',f',g',e,er,ev,rfl,fr,b',li',ls,hk,hkl,ks,ht,ht2,ht3,_,_,_,_,rfl⟩
  have:rs=[]:=by cases rs with
   |nil=>rfl
   |cons _ _=>injection ev
  subst this
  rw[List.append_nil] at er
  refine⟨trivial,?_⟩
  refine w708_2.mpr ?_
  refine k g' ly' f' t fr b' li' ls (fun h i j x y hx hy eo ek=>?_) ht2 ht3
  have mem:∀{i x},c.ns[i]?=some x→i∈dn:=fun hx=>by rw[←er];exact List.mem_range.mpr (List.getElem?_eq_some_iff.mp hx).1
  refine x12 (ht h i (mem hx) x hx) fun m e1 e2=>?_
  refine x12 (ht h j (mem hy) y hy) fun m' e3 e4=>?_
  have:sig (FL c.u.F f' ly'.hi (some l)) x=sig (FL c.u.F f' ly'.hi (some l)) y:=by unfold sig;rw[eo,ek]
  rw[this,e3] at e1
  obtain rfl:=Option.some.inj e1
  rw[←e2,←e4]
end Mine
namespace Mine
variable {aa:Adr}
inductive Zv (g:G) (l:Nat) (c:Core) (ly:Ly) (f:Nat→Nat→Nat) (P:List (Nat×Nat)) (rows:Option V) (row:Option V) (n:Nat) (loc:Loc) (st:St):Prop
 |mk (ly') (f') (g') (h1_:st=g'.st) (h2_:Fr [103] g g') (h3_:LyB aa g' ly') (h4_:LI c ly' f' l P) (h5_:LSame l ly ly' f f') (h6_:n=24 - (ly'.w l).length) (h7_:loc=[some (.ref aa.l),some (N l),rows,row])
theorem Jc8 (b:LyB aa g ly) (lb:LvB g c y) (on:NsOk c.ns) (ou:UOk c.u c.ns.length) (hl:l<2) (li:LI c ly f l P)
  (k:∀g' ly' f',Fr [103] g g'→LyB aa g' ly'→LI c ly' f' l P→LSame l ly ly' f f'→Closed c.ns (FL c.u.F f' ly'.hi (some l))→Q .none g'.st) :
  code (d+5) 711 [] 4 [some (.ref aa.l),some (N l),rows,row] g.st (fun _ st=>Q .none st) Q:=by
 have hn:=on.len
 refine w711_4.mpr ?_
 refine J1 (Zv g l c ly f P rows row) _
  ⟨ly,f,g,rfl,Fr.refl,b,li,LSame.refl,rfl,rfl⟩ ?_
 rintro n loc _ ⟨ly',f',g',rfl,fr,b',li',ls,rfl,rfl⟩
 refine Ji3.mpr ?_
 refine Jo b'.o (p:=K 708) (by kernel_rfl) (by kernel_rfl) (c708 b' (lb.fr fr) on ou hl li' fun g2 ly2 f2 t fr2 b2 li2 ls2 hc hw hw'=>blP ?_)
 cases t with
 |true=>
  refine bT ?_
  refine Ji1.mpr ?_
  have:=li2.wlen
  have:=hw rfl
  exact⟨_,by omega,ly2,f2,g2,rfl,fr.trans fr2,b2,li2,ls.trans ls2,rfl,rfl⟩
 |false=>
  refine bF ?_
  refine w711_5.mpr ?_
  exact k g2 ly2 f2 (fr.trans fr2) b2 li2 (ls.trans ls2) (hc rfl)
end Mine
namespace Mine
variable {aa:Adr}
noncomputable def Row.pair (r:Row):Nat×Nat:=(r.a,r.b)
theorem Jka {r:Row} {st:St} {Q:KV} (k:Q (N r.a) st):subV r.v (.int 0) st Q:=Jq (i:=0) (v:=N r.a) rfl (by show 4<cap;unfold cap;decide) k
theorem Jg5 {r:Row} {st:St} {Q:KV} (k:Q (N r.b) st):subV r.v (.int 1) st Q:=Jq (i:=1) (v:=N r.b) rfl (by show 4<cap;unfold cap;decide) k
theorem LI.more (h:LI c ly f l P) (eq:FL c.u.F f ly.hi (some l) a=FL c.u.F f ly.hi (some l) e):LI c ly f l (P++[(a,e)]):=
 ⟨h.wf,h.rep,fun G hc ht=>h.below G hc (Told.snoc.mp ht).1,Told.snoc.mpr ⟨h.told,eq⟩,h.kd,h.kl⟩
inductive Ja9 (g:G) (l:Nat) (c:Core) (ly:Ly) (f:Nat→Nat→Nat) (P:List (Nat×Nat)) (rows:Option V) (vs:List V) (loc:Loc) (st:St):Prop
 |mk (dn) (rs) (ly') (f') (g') (rw') (h1_:ly.told l=dn++rs) (h2_:vs=rs.map Row.v) (h3_:st=g'.st) (h4_:Fr [103] g g') (h5_:LyB aa g' ly') (h6_:LI c ly' f' l (P++dn.map Row.pair)) (h7_:LSame l ly ly' f f') (h8_:loc=[some (.ref aa.l),some (N l),rows,rw'])
theorem Je1 (b:LyB aa g ly) (lb:LvB g c y) (on:NsOk c.ns) (ou:UOk c.u c.ns.length) (hl:l<2) (li:LI c ly f l P)
  (hx:At g (104,l) x (.list ((ly.told l).map Row.v))) (hr:∀r∈ly.told l,r.a<c.ns.length∧r.b<c.ns.length)
  (k:∀g' ly' f',Fr [103] g g'→LyB aa g' ly'→LI c ly' f' l (P++(ly.told l).map Row.pair)→LSame l ly ly' f f'→Closed c.ns (FL c.u.F f' ly'.hi (some l))→Q .none g'.st) :
  cForL (fnSc 711) (.list x ((ly.told l).map Row.v)) (.one "row") (code (d+5) 711 [6] 0) ((ly.told l).map Row.v) [some (.ref aa.l),some (N l),rows,row] g.st (fun l s=>code (d+5) 711 [] 4 l s (fun _ st=>Q .none st) Q) Q:=by
 have hn:=on.len
 refine J7 (Ja9 g l c ly f P rows) ?_ ?_ _ _ _
  ⟨[],_,ly,f,g,row,rfl,rfl,rfl,Fr.refl,b,by rw[List.map_nil,List.append_nil];exact li,LSame.refl,rfl⟩
 ·rintro v vs loc _ ⟨dn,rs,ly',f',g',rw',er,ev,rfl,fr,b',li',ls,rfl⟩ kn' hk'
  cases rs with
  |nil=>injection ev
  |cons r rs=>
   have ev:=List.cons.inj ev
   refine⟨(hx.fr fr).2,?_⟩
   have hrr:=hr r (by rw[er];simp)
   have wl:=li'.wlen
   have pe:P++(dn++[r]).map Row.pair=(P++dn.map Row.pair)++[(r.a,r.b)]:=by rw[List.map_append,←List.append_assoc];rfl
   rw[ev.1,Ji4,Ji2]
   refine Jo b'.o (p:=K 707) (by kernel_rfl) (by kernel_rfl) (Jka (Jg5 (c707 (d:=d+1) b' (lb.fr fr) ou hl li'.wf li'.rep (Nat.le_trans wl (leK hn)) hrr.1 hrr.2 (fun eq g2 f2=>?_) fun kk j ne ekk ejj lt hj rk rj g2 f2 b2 wf2=>?_)))
   ·exact hk' _ _ ⟨dn++[r],rs,ly',f',g2,_,by rw[er];simp,ev.2,rfl,fr.trans f2,b'.fr f2,by rw[pe];exact li'.more eq,ls,rfl⟩
   ·refine hk' _ _ ⟨dn++[r],rs,_,upd f' l (jF (f' l) kk j),g2,_,by rw[er];simp,ev.2,rfl,fr.trans f2,b2,?_,ls.trans LSame.join,rfl⟩
    rw[pe]
    refine li'.join hl lt hj rk rj wf2 (fun G h=>(Told.snoc.mp h).1) (fun G hc hG=>?_) (Told.snoc.mpr ⟨fun p hp=>Jb1 (li'.told p hp),?_⟩)
    ·have hG:=Told.snoc.mp hG
     have hb:=li'.below G hc hG.1
     have e5:G (FL c.u.F f' ly'.hi (some l) r.a)=G r.a:=hb _ _ (li'.rep r.a).2
     have e6:G (FL c.u.F f' ly'.hi (some l) r.b)=G r.b:=hb _ _ (li'.rep r.b).2
     have e7:G r.a=G r.b:=hG.2
     rcases Nat.le_total (FL c.u.F f' ly'.hi (some l) r.a) (FL c.u.F f' ly'.hi (some l) r.b) with q|q
     ·rw[Nat.min_eq_left q] at ekk
      rw[Nat.max_eq_right q] at ejj
      rw[ekk,ejj,e5,e6,e7]
     ·rw[Nat.min_eq_right q] at ekk
      rw[Nat.max_eq_left q] at ejj
      rw[ekk,ejj,e5,e6,e7]
    ·show jF _ kk j r.a=jF _ kk j r.b
     unfold jF
     rcases Nat.le_total (FL c.u.F f' ly'.hi (some l) r.a) (FL c.u.F f' ly'.hi (some l) r.b) with q|q
     ·rw[Nat.min_eq_left q] at ekk
      rw[Nat.max_eq_right q] at ejj
      rw[if_neg (neE lt ekk),if_pos ejj.symm,ekk]
     ·rw[Nat.min_eq_right q] at ekk
      rw[Nat.max_eq_left q] at ejj
      rw[if_pos ejj.symm,if_neg (neE lt ekk),ekk]
 ·rintro _ _ ⟨dn,rs,ly',f',g',rw',er,ev,rfl,fr,b',li',ls,rfl⟩
  have:rs=[]:=by cases rs with
   |nil=>rfl
   |cons _ _=>injection ev
  subst this
  rw[List.append_nil] at er
  refine⟨(hx.fr fr).2,?_⟩
  refine Jc8 b' (lb.fr fr) on ou hl li' fun g2 ly2 f2 fr2 b2 li2 ls2 hc=>k g2 ly2 f2 (fr.trans fr2) b2 ?_ (ls.trans ls2) hc
  rw[er];exact li2
end Mine
namespace Mine
variable {aa:Adr}
theorem Z3:∀l:List Nat,V.plains (natL l)=true:=by
 intro l_
 induction l_ with
 |nil=>
  exact rfl
 |cons x_ l ih_=>
  exact ih_
theorem Jac:∀l:List Nat,V.depths (natL l)=0:=by
 intro l_
 induction l_ with
 |nil=>
  exact rfl
 |cons x_ l ih_=>
  show max 0 (V.depths (natL l))=0;rw[ih_];rfl
theorem W1:V.datas (natL l)=true:=by
 unfold V.datas
 rw[Z3,Jac];rfl
theorem Jl2 (h:OpOk s):(V.str s).plain=true:=by
 refine Jd1 (P:=fun s=>(V.str s).plain=true) h ?_ ?_ ?_ ?_ ?_ ?_<;>kernel_rfl
theorem Z5 {x:Node} (h:OpOk x.op):x.v.plain=true:=by
 show V.plains (.str x.op::natL x.kids)=true
 show ((V.str x.op).plain&&V.plains (natL x.kids))=true
 rw[Jl2 h,Z3];rfl
theorem Z6 {x:Node}:x.v.depth=1:=by
 show V.depths (.str x.op::natL x.kids)+1=1
 show max 0 (V.depths (natL x.kids))+1=1
 rw[Jac];rfl
theorem Y7 {x:Node} (h:OpOk x.op):x.v.data=true:=by
 unfold V.data
 rw[Z5 h,Z6];rfl
theorem ne_node {x y:Node} {st:St} {Q:Bool→Prop} (hx:OpOk x.op) (hy:OpOk y.op) (k:Q (!decide (x=y))):cmpV .NotEq x.v y.v st Q:=by
 refine⟨⟨Y7 hx,Y7 hy⟩,?_⟩
 show Q (!decide (x.v=y.v))
 rw[show decide (x.v=y.v)=decide (x=y) from decide_eq_decide.mpr ⟨fun e=>Node.v_inj e,fun e=>by rw[e]⟩]
 exact k
noncomputable def nget (e:List (Nat×Node)) (a:Nat):Option Node:=(e.find? fun p=>decide (p.1=a)).map (·.2)
theorem dget_nD:dget (nD e) (N a)=(nget e a).map Node.v:=by
 induction e with
 |nil=>rfl
 |cons p e ih=>
  show dget ((N p.1,p.2.v)::nD e) (N a)=_
  rw[Ji]
  unfold nget
  rw[List.find?_cons]
  by_cases h:p.1=a
  ·rw[if_pos (by rw[h]),decide_eq_true h];rfl
  ·rw[if_neg fun c=>h (Jcp c),decide_eq_false h];exact ih
theorem Xj:(nD e).map (·.1)=natL (e.map (·.1)):=by
 unfold nD natL
 rw[List.map_map,List.map_map];rfl
theorem Q9 (h:a∈e.map (·.1)):∃x,nget e a=some x∧(a,x)∈e:=by
 cases q:e.find? (fun p=>decide (p.1=a)) with
 |none=>
  refine x12 (List.mem_map.mp h) fun p hp e1=>?_
  have:=List.find?_eq_none.mp q p hp
  exact absurd (decide_eq_true e1) this
 |some p=>
  have h1:p.1=a:=by have:=List.find?_some q;exact of_decide_eq_true this
  refine⟨p.2,by unfold nget;rw[q];rfl,?_⟩
  rw[←h1];exact List.mem_of_find?_eq_some q
noncomputable def standsB (ns:List Node) (e:List (Nat×Node)):Bool:=decide ((e.map (·.1)).filter (fun a=>!decide (ns[a]?=nget e a))=[])
end Mine
namespace Mine
variable {aa:Adr}
noncomputable def notStand (ns:List Node) (e:List (Nat×Node)):V→Bool
 |.int i=>!decide (ns[i.toNat]?=nget e i.toNat)
 |_=>false
theorem c710 (b:LyB aa g ly) (lb:LvB g c y) (on:NsOk c.ns) (hx:At g (0,0) x (.dict (nD e) n)) (he:e.length≤1000) (ho:∀p∈e,OpOk p.2.op)
  (k:∀g',Fr [] g g'→Q (.bool (standsB c.ns e)) g'.st):callN T (d+3) (K 710) [.ref aa.l,.ref x] g.st Q:=by
 have hn:=on.len
 refine x11 lb.top fun wA t=>?_
 refine w710.mpr (w710_0.mpr ?_)
 refine Jkd hx (is:=(e.map (·.1)).map fun (n:Nat)=>(n:Int)) (by rw[Xj,Wi]) ⟨rfl,?_⟩
 rw[show (Src.dict x (nD e) n).all=natL (e.map (·.1)) from Xj]
 refine Ja3 (W:=[]) (notStand c.ns e) id _ (by rw[Ja,List.length_map];exact cap5 (leK he)) (fun g' fr=>(hx.fr fr).2) (fun v hv g' fr R hR=>?_) fun g1 f1=>?_
 ·refine x12 (List.mem_map.mp hv) fun i hi q1_=>?_
  subst q1_
  refine x12 (Q9 hi) fun z hz hm=>?_
  have hR:=hR g' fr
  have t':=t.fr fr
  have bk:=lb.bank.fr fr
  have nn:notStand c.ns e (N i)=!decide (c.ns[i]?=some z):=by
   show (!decide (c.ns[i]?=nget e i))=_
   rw[hz]
  rw[nn] at hR
  refine w710_b0.mpr (w710_i0.mpr ?_)
  refine J8 (b.fr fr).o (Jg t'.o (p:=K 1501) (by kernel_rfl) (by kernel_rfl) (c1501 t'.o bk (leK hn) (geN (bD (fun hge=>?_) fun hlt=>?_))))
  ·refine bT ?_
   rw[decide_eq_false (by rw[List.getElem?_eq_none_iff.mpr hge];simp)] at hR
   refine Jfs.mpr ?_;exact hR
  ·have hlt:i<c.ns.length:=Nat.lt_of_not_le hlt
   have hq:c.ns[i]?=some c.ns[i]:=List.getElem?_eq_getElem hlt
   revert hq
   generalize c.ns[i]=w
   intro hq
   refine J8 (b.fr fr).o (J6 t'.o (Jx bk.o (p:=K 1109) (by kernel_rfl) (by kernel_rfl) (c1109 bk (leK hn) hq (Jn (hx.fr fr) (Jt Xj) (v:=z.v) (by rw[dget_nD,hz];rfl) (ne_node (on.op w (List.mem_of_getElem? hq)) (ho _ hm) ?_)))))
   rw[hq] at hR
   by_cases e1:w=z
   ·subst e1
    rw[decide_eq_true rfl] at hR ⊢
    exact bF (bF hR)
   ·rw[decide_eq_false (by intro h;exact e1 (Option.some.inj h))] at hR
    rw[decide_eq_false e1]
    refine bT (bT ?_)
    refine Jfs.mpr ?_;exact hR
 ·rw[List.map_id]
  have fe:(natL (e.map (·.1))).filter (notStand c.ns e)=natL ((e.map (·.1)).filter fun a=>!decide (c.ns[a]?=nget e a)):=by
   unfold natL
   rw[List.filter_map];rfl
  rw[fe]
  refine Jj (0,0) fun g2 y2 _ f2 h2=>⟨by decide,Jj (0,0) fun g3 y3 _ f3 h3=>Xy (h2.fr f3) h3 W1 rfl ?_⟩
  have:=k g3 ((f1.trans f2).trans f3)
  unfold standsB at this
  rw[show decide (natL ((e.map (·.1)).filter fun a=>!decide (c.ns[a]?=nget e a))=[])=decide (((e.map (·.1)).filter fun a=>!decide (c.ns[a]?=nget e a))=[]) from decide_eq_decide.mpr (by unfold natL;exact List.map_eq_nil_iff)]
  exact this
end Mine
namespace Mine
variable {aa:Adr}
structure Within (ns:List Node) (n:Nat) (e:List (Nat×Node)):Prop where
 at_:∀p∈e,ns[p.1]?=some p.2
 nd:(e.map (·.1)).Nodup
 root:n∈e.map (·.1)
 kids:∀p∈e,∀q∈p.2.kids,q∈e.map (·.1)
 reach:∀R:Nat→Prop,R n→(∀a x,ns[a]?=some x→R a→∀q∈x.kids,R q)→∀a∈e.map (·.1),R a
theorem Within.len (h:Within ns n e):e.length≤ns.length:=by
 have:=Qx ns.length _ h.nd fun a ha=>by
  refine x12 (List.mem_map.mp ha) fun p hp q1_=>?_
  subst q1_
  exact(List.getElem?_eq_some_iff.mp (h.at_ p hp)).1
 rwa [List.length_map] at this
structure WSt (ns:List Node) (n:Nat) (e:List (Nat×Node)) (w ks:List Nat):Prop where
 at_:∀p∈e,ns[p.1]?=some p.2
 nd:(e.map (·.1)).Nodup
 root:n∈e.map (·.1)
 wm:∀a∈w,a∈e.map (·.1)
 kids:∀p∈e,p.1∈w∨∀q∈p.2.kids,q∈e.map (·.1)∨q∈ks
 reach:∀R:Nat→Prop,R n→(∀a x,ns[a]?=some x→R a→∀q∈x.kids,R q)→(∀a∈e.map (·.1),R a)∧∀a∈ks,R a
theorem WSt.len (h:WSt ns n e w ks):e.length≤ns.length:=by
 have:=Qx ns.length _ h.nd fun a ha=>by
  refine x12 (List.mem_map.mp ha) fun p hp q1_=>?_
  subst q1_
  exact(List.getElem?_eq_some_iff.mp (h.at_ p hp)).1
 rwa [List.length_map] at this
theorem WSt.init (h:ns[n]?=some x):WSt ns n [(n,x)] [n] []:=by
 refine⟨fun p hp=>?_,by simp,by simp,fun a ha=>by simpa using ha,fun p hp=>?_,fun R hn _=>⟨fun a ha=>?_,fun a ha=>by cases ha⟩⟩
 ·obtain rfl:=List.mem_singleton.mp hp;exact h
 ·obtain rfl:=List.mem_singleton.mp hp;exact .inl (by simp)
 ·have:a=n:=by simpa using ha
  rw[this];exact hn
theorem WSt.done (h:WSt ns n e [] []):Within ns n e:=by
 refine⟨h.at_,h.nd,h.root,fun p hp q hq=>?_,fun R hn hR=>(h.reach R hn hR).1⟩
 rcases h.kids p hp with h1|h1
 ·cases h1
 ·rcases h1 q hq with h2|h2
  ·exact h2
  ·cases h2
theorem WSt.pop (h:WSt ns n e (w++[a]) []) (hx:ns[a]?=some x):WSt ns n e w x.kids:=by
 have ha:a∈e.map (·.1):=h.wm a (by simp)
 refine⟨h.at_,h.nd,h.root,fun b hb=>h.wm b (List.mem_append_left _ hb),fun p hp=>?_,fun R hn hR=>⟨(h.reach R hn hR).1,fun q hq=>hR a x hx ((h.reach R hn hR).1 a ha) q hq⟩⟩
 rcases h.kids p hp with h1|h1
 ·rcases List.mem_append.mp h1 with h1|h1
  ·exact .inl h1
  ·have e1:p.1=a:=List.mem_singleton.mp h1
   have e2:=h.at_ p hp
   rw[e1,hx] at e2
   obtain rfl:=Option.some.inj e2
   exact .inr fun q hq=>.inr hq
 ·exact .inr fun q hq=>(h1 q hq).elim .inl fun h=>by cases h
theorem WSt.skip (h:WSt ns n e w (q::ks)) (hq:q∈e.map (·.1)):WSt ns n e w ks:=by
 refine⟨h.at_,h.nd,h.root,h.wm,fun p hp=>?_,fun R hn hR=>⟨(h.reach R hn hR).1,fun a ha=>(h.reach R hn hR).2 a (.tail _ ha)⟩⟩
 rcases h.kids p hp with h1|h1
 ·exact .inl h1
 ·refine .inr fun r hr=>?_
  rcases h1 r hr with h2|h2
  ·exact .inl h2
  ·refine(List.mem_cons.mp h2).elim (fun e_=>?_) fun h2=>?_
   ·subst e_
    exact .inl hq
   ·exact .inr h2
theorem WSt.push (h:WSt ns n e w (q::ks)) (hq:q∉e.map (·.1)) (hx:ns[q]?=some x):WSt ns n (e++[(q,x)]) (w++[q]) ks:=by
 have mm:∀{a},a∈e.map (·.1)→a∈(e++[(q,x)]).map (·.1):=fun h=>by rw[List.map_append];exact List.mem_append_left _ h
 have mq:q∈(e++[(q,x)]).map (·.1):=by simp
 refine⟨fun p hp=>?_,?_,mm h.root,fun a ha=>?_,fun p hp=>?_,fun R hn hR=>⟨fun a ha=>?_,fun a ha=>(h.reach R hn hR).2 a (.tail _ ha)⟩⟩
 ·rcases List.mem_append.mp hp with hp|hp
  ·exact h.at_ p hp
  ·obtain rfl:=List.mem_singleton.mp hp;exact hx
 ·rw[List.map_append]
  exact List.nodup_append.mpr ⟨h.nd,by simp,fun a ha b hb e1=>by
   have e2:b=q:=by simpa using hb
   exact hq (by rw[←e2,←e1];exact ha)⟩
 ·rcases List.mem_append.mp ha with ha|ha
  ·exact mm (h.wm a ha)
  ·rw[List.mem_singleton.mp ha];exact mq
 ·rcases List.mem_append.mp hp with hp|hp
  ·rcases h.kids p hp with h1|h1
   ·exact .inl (List.mem_append_left _ h1)
   ·refine .inr fun r hr=>?_
    rcases h1 r hr with h2|h2
    ·exact .inl (mm h2)
    ·refine(List.mem_cons.mp h2).elim (fun e_=>?_) fun h2=>?_
     ·subst e_
      exact .inl mq
     ·exact .inr h2
  ·obtain rfl:=List.mem_singleton.mp hp
   exact .inl (by simp)
 ·have hr:=h.reach R hn hR
  rw[List.map_append] at ha
  rcases List.mem_append.mp ha with ha|ha
  ·exact hr.1 a ha
  ·have e2:a=q:=by simpa using ha
   rw[e2];exact hr.2 q (.head _)
end Mine
namespace Mine
variable {aa:Adr}
theorem nD_snoc:nD (e++[(a,x)])=nD e++[(N a,x.v)]:=List.map_append
theorem Jbu:dget (nD e) (N a)=none↔a∉e.map (·.1):=by
 rw[X0,Xj,W5]
theorem new_d1 {st:St} {Q:KV} {a v:V} (h:keysOk a []) (k:alloc (.dict [(a,v)] 1) st Q):dmake [] 0 [(a,v)] fun o=>alloc o st Q:=⟨h,k⟩
inductive Ic709_1 (g:G) (n:Nat) (c:Core) (z:Nat) (w:Nat) (m:Nat) (loc:Loc) (st:St):Prop
 |mk (e) (ws) (g') (ee) (a1) (a2) (h1_:st=g'.st) (h2_:Fr [] g g') (h3_:At g' (0,0) z (.dict (nD e) ee)) (h4_:At g' (0,0) w (.list (natL ws))) (h5_:WSt c.ns n e ws []) (h6_:3 * (24 - e.length)+ws.length≤73) (h7_:m=3 * (24 - e.length)+ws.length) (h8_:loc=[some (.ref aa.l),some (N n),some (.ref z),some (.ref w),a1,a2])
inductive Ic709_2 (g:G) (n:Nat) (c:Core) (z:Nat) (w:Nat) (xa:Node) (e:List (Nat×Node)) (ws:List Nat) (vs:List V) (loc:Loc) (st:St):Prop
 |mk (ks) (e2) (w2) (g4) (e4) (a1) (a2) (h1_:vs=natL ks) (h2_:(∀q∈ks,q∈xa.kids)∧st=g4.st∧Fr [] g g4∧At g4 (0,0) z (.dict (nD e2) e4)∧At g4 (0,0) w (.list (natL w2))∧WSt c.ns n e2 w2 ks∧3 * (24 - e2.length)+w2.length≤3 * (24 - e.length)+ws.length∧3 * (24 - e2.length)+w2.length≤73∧loc=[some (.ref aa.l),some (N n),some (.ref z),some (.ref w),a1,a2])
theorem c709 {g:G} {d n:Nat} {c:Core} {y:Dyn} {ly:Ly} {Q:KV} (b:LyB aa g ly) (lb:LvB g c y) (on:NsOk c.ns) (hn:n<c.ns.length)
  (k:∀g' z e m,Fr [] g g'→z≠0→At g' (0,0) z (.dict (nD e) m)→Within c.ns n e→Q (.ref z) g'.st):callN T (d+2) (K 709) [.ref aa.l,N n] g.st Q:=by
 have hl:=on.len
 refine x11 lb.top fun wA t=>?_
 have hx:c.ns[n]?=some c.ns[n]:=List.getElem?_eq_getElem hn
 revert hx
 generalize c.ns[n]=x
 intro hx
 refine w709.mpr (w709_0.mpr ?_)
 refine⟨by decide,⟨by decide,rfl⟩,J8 b.o (J6 t.o (Jx lb.bank.o (p:=K 1109) (by kernel_rfl) (by kernel_rfl) (c1109 lb.bank (leK hl) hx ?_)))⟩
 refine new_d1 ⟨.int,rfl,fun _ h=>by cases h⟩ (Jj (0,0) fun g1 z hz f1 h1=>⟨by decide,Jj (0,0) fun g2 w hw f2 h2=>?_⟩)
 have z0:z≠0:=by have:=b.o.lt;exact n0 hz this
 have zw:z≠w:=by have:=h1.lt;omega
 have wz:w≥g.st.size:=by have:=f1.1;exact Nat.le_trans this (Nat.le_of_eq (Eq.symm hw))
 refine J1 (Ic709_1 g n c z w) _ ⟨[(n,x)],[n],g2,1,_,_,rfl,f1.trans f2,h1.fr f2,h2,WSt.init hx,by simp,rfl,rfl⟩ ?_
 rintro m loc _ ⟨e,ws,g',ee,_,_,rfl,fr,hz',hw',ws',hwl,rfl,rfl⟩
 refine Ji7.mpr ?_
 refine Je hw' (cap5 (by rw[Ja];omega)) (gtN (b:=0) (bD (fun hpos=>?_) fun hze=>?_))
 ·rw[Ja] at hpos
  refine x22 (Wg (show ws.length=(ws.length - 1)+1 by exact Eq.symm (Nat.sub_add_cancel hpos))) fun ws a q1_ lw=>?_
  subst q1_
  have ha:a<c.ns.length:=by
   refine x12 (List.mem_map.mp (ws'.wm a (by simp))) fun p hp e1=>?_
   rw[←e1];exact(List.getElem?_eq_some_iff.mp (ws'.at_ p hp)).1
  have hxa:c.ns[a]?=some c.ns[a]:=List.getElem?_eq_getElem ha
  revert hxa
  generalize c.ns[a]=xa
  intro hxa
  refine Ji6.mpr ?_
  have lb':=lb.fr fr
  refine J8 (b.fr fr).o (J6 (t.fr fr).o (Jx lb'.bank.o (p:=K 1108) (by kernel_rfl) (by kernel_rfl) (X7 hw' (by omega) (cap5 (by rw[Ja];omega)) (ys:=natL ws) (v:=N a) Jf fun g3 c3 hw3=>?_)))
  have f3:=c3.own fr wz
  refine c1108 (lb.fr f3).bank on hxa (Qc ⟨trivial,?_⟩)
  have kx:=on.kid a xa hxa
  have wp:=ws'.pop hxa
  refine J7 (Ic709_2 g n c z w xa e ws) ?_ ?_ _ _ _ ⟨xa.kids,e,ws,g3,ee,_,_,rfl,fun _ h=>h,rfl,f3,hz'.ch c3 zw,hw3,wp,Nat.le_refl _,by rw[List.length_append] at hwl;omega,rfl⟩
  ·rintro v vs loc _ ⟨ks,e2,w2,g4,e4,_,_,ev,hks,rfl,fr4,hz4,hw4,st4,hle,hw100,rfl⟩ kn' hk'
   cases ks with
   |nil=>injection ev
   |cons q ks=>
    have ev:=List.cons.inj ev
    have hel:=st4.len
    refine⟨trivial,?_⟩
    rw[ev.1,Jen,Jeo]
    cases hq:dget (nD e2) (N q) with
    |some v0=>
     have hm:q∈e2.map (·.1):=by
      apply Classical.byContradiction
      intro h
      rw[Jbu.mpr h] at hq;exact Jc hq
     refine Jk2 hz4 (Jt Xj) hq (bF (hk' _ _ ⟨ks,e2,w2,g4,e4,_,_,ev.2,fun r h=>hks r (.tail _ h),rfl,fr4,hz4,hw4,st4.skip hm,hle,hw100,rfl⟩))
    |none=>
     have hm:=Jbu.mp hq
     have hqn:q<c.ns.length:=by have:=kx q (hks q (.head _));exact Nat.lt_trans this.1 ha
     have hxq:c.ns[q]?=some c.ns[q]:=List.getElem?_eq_getElem hqn
     revert hxq
     generalize c.ns[q]=xq
     intro hxq
     have lb4:=lb.fr fr4
     refine nin_f hz4 (Jt Xj) hq (bT (J8 (b.fr fr4).o (J6 (t.fr fr4).o (Jx lb4.bank.o (p:=K 1109) (by kernel_rfl) (by kernel_rfl) (c1109 lb4.bank (leK hl) hxq ?_)))))
     refine J2 hz4 z0 (Jt Xj) (by unfold nD;rw[List.length_map];exact cap5 (Nat.le_trans hel (leK hl))) fun g5 c5 hz5=>?_
     rw[W0 hq,←nD_snoc] at hz5
     have hw5:=hw4.ch c5 (Ne.symm zw)
     have fr5:=c5.own fr4 (Nat.le_of_eq (Eq.symm hz))
     refine X4 hw5 (by omega) (by rw[Ja];exact cap5 (by omega)) fun g6 c6 hw6=>?_
     rw[show natL w2++[N q]=natL (w2++[q]) from(Jf (a:=w2) (b:=[q])).symm] at hw6
     have sp:=st4.push hm hxq
     have hel2:=sp.len
     rw[List.length_append,List.length_singleton] at hel2
     refine hk' _ _ ⟨ks,_,_,g6,_,_,_,ev.2,fun r h=>hks r (.tail _ h),rfl,c6.own fr5 wz,hz5.ch c6 zw,hw6,sp,?_,?_,rfl⟩
     ·rw[List.length_append,List.length_append,List.length_singleton,List.length_singleton];omega
     ·rw[List.length_append,List.length_append,List.length_singleton,List.length_singleton];omega
  ·rintro _ _ ⟨ks,e2,w2,g4,e4,_,_,ev,hks,rfl,fr4,hz4,hw4,st4,hle,hw100,rfl⟩
   have:ks=[]:=by cases ks with
    |nil=>rfl
    |cons _ _=>injection ev
   subst this
   refine⟨trivial,?_⟩
   refine Ji5.mpr ?_
   exact⟨_,by rw[List.length_append,List.length_singleton];exact Nat.succ_le_succ hle,e2,w2,g4,e4,_,_,rfl,fr4,hz4,hw4,st4,hw100,rfl,rfl⟩
 ·rw[Ja] at hze
  have:ws=[]:=List.eq_nil_of_length_eq_zero (Nat.eq_zero_of_not_pos hze)
  subst this
  refine w709_2.mpr ?_
  exact k g' z e ee fr z0 hz' ws'.done
end Mine
namespace Mine
variable {aa:Adr}
theorem WF.nil:WF [] id:=fun _=>.inl ⟨rfl,rfl⟩
theorem FL_new (h:l<2):FL F (upd f l id) hi (some l) a=FL F f hi (nxt hi l) a:=by
 rw[Jba h,Jd]
 exact Jb5 _ _ fun m=>Jl4 h (List.mem_reverse.mp m)
theorem LI.start {ly:Ly} {f:Nat→Nat→Nat} {P:List (Nat×Nat)} (hl:l<2) (hf:∀i,i<2→WF (ly.w i) (f i)) (h:IsCl c.ns P (FL c.u.F f ly.hi (nxt ly.hi l))) :
  LI c {ly with w:=upd ly.w l []} (upd f l id) l P:=by
 have eq:FL c.u.F (upd f l id) ly.hi (some l)=FL c.u.F f ly.hi (nxt ly.hi l):=funext fun a=>FL_new hl
 refine⟨fun i hi=>?_,?_,?_,?_,?_,?_⟩
 ·show WF (upd ly.w l [] i) (upd f l id i)
  by_cases q:i=l
  ·subst q;rw[Jd,Jd];exact WF.nil
  ·rw[Jk q,Jk q];exact hf i hi
 ·show Rep (FL c.u.F (upd f l id) ly.hi (some l));rw[eq];exact h.rep
 ·show Below c.ns P (FL c.u.F (upd f l id) ly.hi (some l));rw[eq];exact h.below
 ·show Told P (FL c.u.F (upd f l id) ly.hi (some l));rw[eq];exact h.told
 ·show ((upd ly.w l [] l).map (·.1)).Nodup;rw[Jd];exact .nil
 ·show ∀x∈(upd ly.w l [] l).map (·.1),x<c.ns.length;rw[Jd];intro x hx;cases hx
theorem LI.isCl (h:LI c ly f l P) (hc:Closed c.ns (FL c.u.F f ly.hi (some l))):IsCl c.ns P (FL c.u.F f ly.hi (some l)):=
 ⟨h.rep,hc,h.told,h.below⟩
end Mine
namespace Mine
variable {aa:Adr}
theorem Wp {α:Type} {sc:Scope} {src:Src} {t:Tg} {ifs:XB} {elt:X} {lo:Loc} {K:List V→St→Prop} {W:List Nat} {g:G} (p:α→Bool) (v f:α→V) (as:List α) (hl:as.length<cap)
  (ok:∀g',Fr W g g'→src.ok g'.st)
  (he:∀a∈as,∀g',Fr W g g'→∀R:Bool→V→St→Prop,(∀g'',Fr W g g''→R (p a) (f a) g''.st)→
   bindT sc t (v a) lo g'.st fun l=>ifs l g'.st fun b st=>bothP b (elt l st fun y st=>R true y st) (R false (f a) st))
  (k:∀g',Fr W g g'→K ((as.filter p).map f) g'.st):compL sc src t ifs elt lo (as.map v) [] g.st K:=by
 refine X3 (fun r acc st=>∃a b g',as=a++b∧r=b.map v∧acc=(a.filter p).map f∧Fr W g g'∧st=g'.st) ?_ ?_ _ [] g.st ⟨[],as,g,rfl,rfl,rfl,Fr.refl,rfl⟩
 ·rintro w r acc _ ⟨a,b,g',e,er,rfl,fr,rfl⟩ k' hk
  cases b with
  |nil=>injection er
  |cons x b=>
   have er:=List.cons.inj er
   have hx:x∈as:=by rw[e];simp
   refine⟨ok g' fr,?_⟩
   have h:=he x hx g' fr (fun b y st=>bothP b (((a.filter p).map f).length<cap∧k' ((a.filter p).map f++[y]) st) (k' ((a.filter p).map f) st)) (fun g'' fr'=>by
    have hn:=hk ((a++[x]).filter p |>.map f) g''.st ⟨a++[x],b,g'',by rw[e];simp,er.2,rfl,fr',rfl⟩
    rw[List.filter_append,List.map_append] at hn
    cases hp:p x with
    |true=>
     refine⟨?_,?_⟩
     ·have:=List.length_filter_le p a
      have:a.length≤as.length:=by rw[e,List.length_append];exact Nat.le_add_right _ _
      rw[List.length_map];omega
     ·simpa [hp] using hn
    |false=>simpa [bothP,hp] using hn)
   rw[er.1];exact h
 ·rintro acc _ ⟨a,b,g',e,er,rfl,fr,rfl⟩
  have:b=[]:=by cases b with
   |nil=>rfl
   |cons _ _=>injection er
  subst this
  rw[List.append_nil] at e
  exact⟨ok g' fr,e▸k g' fr⟩
structure RowI (r:Row):Prop where
 ka:r.a∈r.ea.map (·.1)
 kb:r.b∈r.eb.map (·.1)
 la:r.ea.length≤1000
 lb:r.eb.length≤1000
 oa:∀p∈r.ea,OpOk p.2.op
 ob:∀p∈r.eb,OpOk p.2.op
noncomputable def rowSt (ns:List Node) (r:Row):Bool:=standsB ns r.ea&&standsB ns r.eb
theorem Q6 (h:standsB ns e=true) (ha:a∈e.map (·.1)):∃x,ns[a]?=some x∧(a,x)∈e:=by
 have h:(e.map (·.1)).filter (fun a=>!decide (ns[a]?=nget e a))=[]:=of_decide_eq_true h
 have h2:=List.filter_eq_nil_iff.mp h a ha
 refine x12 (Q9 ha) fun x hx hm=>?_
 have h3:ns[a]?=nget e a:=by simpa using h2
 exact⟨x,h3.trans hx,hm⟩
theorem Jao (i:RowI r) (h:rowSt ns r=true):r.a<ns.length∧r.b<ns.length:=by
 have h:=Bool.and_eq_true_iff.mp h
 refine x12 (Q6 h.1 i.ka) fun _ h1 _=>?_
 refine x12 (Q6 h.2 i.kb) fun _ h2 _=>?_
 exact⟨(List.getElem?_eq_some_iff.mp h1).1,(List.getElem?_eq_some_iff.mp h2).1⟩
noncomputable def Ly.tn (ly:Ly) (n:Nat):Ly:={ly with turns:=n}
noncomputable def Ly.wy (ly:Ly) (l:Nat):Ly:={ly with w:=upd ly.w l []}
noncomputable def Ly.bks (ly:Ly) (l n:Nat):Ly:={ly with bk:=upd ly.bk l n}
noncomputable def Ly.tl (ly:Ly) (l:Nat) (rs:List Row):Ly:={ly with told:=upd ly.told l rs}
theorem Je9:fput (lyF aa n) "turns" (N m)=lyF aa m:=by kernel_rfl
theorem LyB.tn (b:LyB aa g ly) (f:Fr [47] g g') (o:At g' (47,0) aa.l (lyO aa n)):LyB aa g' (ly.tn n):=by
 obtain ⟨nz,_,be,⟨A,e,t1,t2⟩,⟨A',e',w1,w2⟩,ba,rows⟩:=b
 exact⟨nz,o,be.imp fun _ x=>x.fr f,⟨A,e,t1.fr f,fun l hl=>⟨(t2 l hl).1,(t2 l hl).2.fr f⟩⟩,⟨A',e',w1.fr f,fun l hl=>⟨(w2 l hl).1,(w2 l hl).2.imp fun _ x=>x.fr f⟩⟩,ba.imp fun _ x=>x.fr f,
  fun l hl r hr=>⟨(rows l hl r hr).1.imp fun _ x=>x.fr f,(rows l hl r hr).2.imp fun _ x=>x.fr f⟩⟩
theorem Jif:upd (fun i=>V.ref (A i)) l (.ref z)=fun i=>V.ref (upd A l z i):=by
 funext i;unfold upd;split<;>rfl
theorem d2_nat:upd (fun i=>N (A i)) l (N z)=fun i=>N (upd A l z i):=by
 funext i;unfold upd;split<;>rfl
theorem LyB.way (b:LyB aa g ly) (hl:l<2) (z0:z≠0) (az:At g (103,l) z (.dict [] e0)) (k:∀g',Fr [50] g g'→LyB aa g' (ly.wy l)→Q g'.st) :
  setItemV (.ref aa.wy) (N l) (.ref z) g.st Q:=by
 obtain ⟨nz,o,be,⟨A,e,t1,t2⟩,⟨A',e',w1,w2⟩,ba,rows⟩:=b
 refine J2 w1 nz.2.2.2.1 Xb (by show 2<cap;unfold cap;decide) fun g' cc h=>?_
 rw[Jeh hl,Jif] at h
 have f:Fr [50] g g':=cc.fr w1
 refine k g' f ⟨nz,o.fr f,be.imp fun _ x=>x.fr f,⟨A,e,t1.fr f,fun l hl=>⟨(t2 l hl).1,(t2 l hl).2.fr f⟩⟩,⟨_,_,h,fun i hi=>?_⟩,ba.imp fun _ x=>x.fr f,
  fun l hl r hr=>⟨(rows l hl r hr).1.imp fun _ x=>x.fr f,(rows l hl r hr).2.imp fun _ x=>x.fr f⟩⟩
 show upd A' l z i≠0∧∃e',At g' (103,i) (upd A' l z i) (.dict (wD (upd ly.w l [] i)) e')
 by_cases q:i=l
 ·subst q
  rw[Jd,Jd]
  exact⟨z0,_,az.fr f⟩
 ·rw[Jk q,Jk q]
  exact⟨(w2 i hi).1,(w2 i hi).2.imp fun _ x=>x.fr f⟩
theorem LyB.bks (b:LyB aa g ly) (hl:l<2) (k:∀g',Fr [51] g g'→LyB aa g' (ly.bks l n)→Q g'.st) :
  setItemV (.ref aa.ba) (N l) (N n) g.st Q:=by
 obtain ⟨nz,o,be,⟨A,e,t1,t2⟩,⟨A',e',w1,w2⟩,⟨e2,ba⟩,rows⟩:=b
 refine J2 ba nz.2.2.2.2 Xb (by show 2<cap;unfold cap;decide) fun g' cc h=>?_
 rw[Jeh hl,d2_nat] at h
 have f:Fr [51] g g':=cc.fr ba
 exact k g' f ⟨nz,o.fr f,be.imp fun _ x=>x.fr f,⟨A,e,t1.fr f,fun l hl=>⟨(t2 l hl).1,(t2 l hl).2.fr f⟩⟩,⟨A',e',w1.fr f,fun l hl=>⟨(w2 l hl).1,(w2 l hl).2.imp fun _ x=>x.fr f⟩⟩,⟨_,h⟩,
  fun l hl r hr=>⟨(rows l hl r hr).1.imp fun _ x=>x.fr f,(rows l hl r hr).2.imp fun _ x=>x.fr f⟩⟩
theorem LyB.tolds (b:LyB aa g ly) (hl:l<2) (z0:z≠0) (az:At g (104,l) z (.list (rs.map Row.v))) (hs:∀r∈rs,r∈ly.told l)
  (k:∀g',Fr [49] g g'→LyB aa g' (ly.tl l rs)→Q g'.st):setItemV (.ref aa.to) (N l) (.ref z) g.st Q:=by
 obtain ⟨nz,o,be,⟨A,e,t1,t2⟩,⟨A',e',w1,w2⟩,ba,rows⟩:=b
 refine J2 t1 nz.2.2.1 Xb (by show 2<cap;unfold cap;decide) fun g' cc h=>?_
 rw[Jeh hl,Jif] at h
 have f:Fr [49] g g':=cc.fr t1
 refine k g' f ⟨nz,o.fr f,be.imp fun _ x=>x.fr f,⟨_,_,h,fun i hi=>?_⟩,⟨A',e',w1.fr f,fun l hl=>⟨(w2 l hl).1,(w2 l hl).2.imp fun _ x=>x.fr f⟩⟩,ba.imp fun _ x=>x.fr f,fun i hi r hr=>?_⟩
 ·show upd A l z i≠0∧At g' (104,i) (upd A l z i) (.list ((upd ly.told l rs i).map Row.v))
  by_cases q:i=l
  ·subst q
   rw[Jd,Jd]
   exact⟨z0,az.fr f⟩
  ·rw[Jk q,Jk q]
   exact⟨(t2 i hi).1,(t2 i hi).2.fr f⟩
 ·have hr:r∈upd ly.told l rs i:=hr
  have hr:r∈ly.told i:=by
   by_cases q:i=l
   ·subst q
    rw[Jd] at hr;exact hs r hr
   ·rw[Jk q] at hr;exact hr
  exact⟨(rows i hi r hr).1.imp fun _ x=>x.fr f,(rows i hi r hr).2.imp fun _ x=>x.fr f⟩
end Mine
namespace Mine
variable {aa:Adr}
noncomputable def WR:List Nat:=[47,49,50,51,103]
structure Renewed (ns:List Node) (bk l:Nat) (ly ly':Ly) (f f':Nat→Nat→Nat):Prop where
 hi:ly'.hi=ly.hi
 turns:ly'.turns=ly.turns+1
 bk:ly'.bk=upd ly.bk l bk
 told:ly'.told=upd ly.told l ((ly.told l).filter (rowSt ns))
 w:∀i,i≠l→ly'.w i=ly.w i
 f:∀i,i≠l→f' i=f i
theorem Jgx (h:f i=x):upd f i x=f:=by
 funext j;unfold upd;split
 ·rename_i e;rw[e,h]
 ·rfl
theorem Z1 (b:LyB aa g ly) (lb:LvB g c y) (on:NsOk c.ns) (ou:UOk c.u c.ns.length) (hl:l<2) (li:LI c ly f l P)
  (hr:∀r∈ly.told l,r.a<c.ns.length∧r.b<c.ns.length)
  (k:∀g' ly' f',Fr [103] g g'→LyB aa g' ly'→LI c ly' f' l (P++(ly.told l).map Row.pair)→LSame l ly ly' f f'→Closed c.ns (FL c.u.F f' ly'.hi (some l))→Q .none g'.st) :
  attrV T (.ref aa.l) "told" g.st fun v st=>subV v (N l) st fun v st=>srcV v st fun r=>pairOk r (.one "row")∧cForL (fnSc 711) r (.one "row") (code (d+5) 711 [6] 0) r.all [some (.ref aa.l),some (N l),rows,row] st (fun l s=>code (d+5) 711 [] 4 l s (fun _ st=>Q .none st) Q) Q:=by
 refine x22 b.to fun A e t1 t2=>?_
 have:=(t2 l hl).2
 exact Jaw b.o (Jn t1 Xb (Wr hl) (Jy this ⟨trivial,Je1 b lb on ou hl li this hr k⟩))
theorem LI.as (h:LI c ly f l P) (hi:ly'.hi=ly.hi) (w:ly'.w=ly.w):LI c ly' f l P:=by
 cases ly;cases ly';subst hi;subst w;exact⟨h.wf,h.rep,h.below,h.told,h.kd,h.kl⟩
theorem Jj9 {r:Row} {st:St} {Q:KV} (k:Q (.ref r.da) st):subV r.v (.int 2) st Q:=Jq (i:=2) (v:=.ref r.da) rfl (by show 4<cap;unfold cap;decide) k
theorem Jj8 {r:Row} {st:St} {Q:KV} (k:Q (.ref r.db) st):subV r.v (.int 3) st Q:=Jq (i:=3) (v:=.ref r.db) rfl (by show 4<cap;unfold cap;decide) k
theorem Jbp (b:LyB aa g ly) (lb:LvB g c y) (on:NsOk c.ns) (hl:l<2) (hx:At g (104,l) x (.list ((ly.told l).map Row.v)))
  (ri:∀r∈ly.told l,RowI r) (htl:(ly.told l).length≤1000) (k:∀g',Fr [] g g'→Kk (((ly.told l).filter (rowSt c.ns)).map Row.v) g'.st) :
  compL (scAt 711 0) (.list x ((ly.told l).map Row.v)) (.one "row") (ifs (d+5) 711 0 23) (elt (d+5) 711 0 23) [none,none,some (.ref aa.l)] ((ly.told l).map Row.v) [] g.st Kk:=by
 refine Wp (W:=[]) (rowSt c.ns) Row.v Row.v (ly.told l) (Jb htl) (fun g' fr=>(hx.fr fr).2) (fun r hr g' fr R hR=>?_) k
 refine x02 (b.rows l hl r hr) fun q1_ q2_=>?_
 obtain ⟨e1,h1⟩:=q1_
 obtain ⟨e2,h2⟩:=q2_
 have i:=ri r hr
 have b':=b.fr fr
 refine w711_b0.mpr (w711_i0.mpr ?_)
 refine Jo b'.o (p:=K 710) (by kernel_rfl) (by kernel_rfl) (Jj9 (c710 (d:=d+2) b' (lb.fr fr) on (h1.fr fr) i.la i.oa fun g2 f2=>blP ?_))
 have fr2:=fr.trans f2
 have b2:=b.fr fr2
 unfold rowSt at hR
 cases q1:standsB c.ns r.ea with
 |false=>rw[q1] at hR;exact bF (bF (hR g2 fr2))
 |true=>
  refine bT (Jo b2.o (p:=K 710) (by kernel_rfl) (by kernel_rfl) (Jj8 (c710 (d:=d+2) b2 (lb.fr fr2) on (h2.fr fr2) i.lb i.ob fun g3 f3=>blP ?_)))
  have fr3:=fr2.trans f3
  cases q2:standsB c.ns r.eb with
  |false=>rw[q1,q2] at hR;exact bF (bF (hR g3 fr3))
  |true=>
   refine bT (bT ?_)
   rw[q1,q2] at hR
   refine w711_e0.mpr ?_
   exact hR g3 fr3
theorem c711 (b:LyB aa g ly) (lb:LvB g c y) (on:NsOk c.ns) (ou:UOk c.u c.ns.length) (hl:l<2) (hf:∀i,i<2→WF (ly.w i) (f i))
  (hb:IsCl c.ns P (FL c.u.F f ly.hi (nxt ly.hi l))) (ri:∀r∈ly.told l,RowI r) (fs:ly.bk l=y.bk→∀r∈ly.told l,rowSt c.ns r=true) (ht:ly.turns≤100000) (htl:(ly.told l).length≤1000)
  (k:∀g' ly' f',Fr WR g g'→LyB aa g' ly'→Renewed c.ns y.bk l ly ly' f f'→(∀i,i<2→WF (ly'.w i) (f' i))→IsCl c.ns (P++((ly.told l).filter (rowSt c.ns)).map Row.pair) (FL c.u.F f' ly.hi (some l))→Q .none g'.st) :
  callN T (d+6) (K 711) [.ref aa.l,N l] g.st Q:=by
 refine x11 lb.top fun wA t=>?_
 have hn:=on.len
 have li:=LI.start hl hf hb
 refine w711.mpr (w711_0.mpr ?_)
 refine Jk7 b.o (addN (b:=1) (Nat.succ_le_succ (ltK ht)) (Q7 b.o b.nz.1 (by kernel_rfl) (by show 7<64;decide) fun g1 c1 o1=>?_))
 rw[Je9] at o1
 have f1:Fr [47] g g1:=c1.fr b.o
 have b1:=b.tn f1 o1
 refine⟨⟨by decide,rfl⟩,Jbv (103,l) fun g2 z hz f2 h2=>?_⟩
 have b2:=b1.fr f2
 refine Jdb b2.o (b2.way hl (by have:=b1.o.lt;exact n0 hz this) h2 fun g3 f3 b3=>?_)
 have f03:Fr WR g g3:=((f1.mono).trans f2).trans f3
 have t3:=t.fr f03
 refine x11 b3.ba fun e3 ba=>?_
 refine Jd7 b3.o (Jn ba Xb (Wr hl) (J8 b3.o (Xw t3.o (neN (a:=ly.bk l) (bDn (fun q=>?_) fun q=>?_)))))
 ·refine(J8 b3.o (Xw t3.o (Jd7 b3.o (b3.bks hl fun g4 f4 b4=>?_))))
  have f04:Fr WR g g4:=f03.trans f4
  refine x22 b4.to fun A e t1 t2=>?_
  have lb4:=lb.fr f04
  refine Jaw b4.o (Jn t1 Xb (Wr hl) (Jy (t2 l hl).2 ⟨rfl,Jbp b4 lb4 on hl (t2 l hl).2 ri htl fun g5 f5=>Jj (104,l) fun g6 z2 hz2 f6 h6=>?_⟩))
  have b6:=(b4.fr f5).fr f6
  refine Jaw b6.o (b6.tolds hl (by have:=(b4.fr f5).o.lt;exact n0 hz2 this) h6 (fun r hr=>(List.mem_filter.mp hr).1) fun g7 f7 b7=>?_)
  have f07:Fr WR g g7:=((f04.trans f5).trans f6).trans f7
  have et:upd ly.told l ((ly.told l).filter (rowSt c.ns)) l=(ly.told l).filter (rowSt c.ns):=Jd
  refine Z1 b7 (lb.fr f07) on ou hl (li.as rfl rfl) (fun r hr=>?_) fun g' ly' f' fr b' li' ls hc=>k g' ly' f' (f07.trans fr) b' ⟨ls.hi,ls.turns,ls.bk,ls.told,fun i ne=>(ls.w i ne).trans (Jk ne),fun i ne=>(ls.f i ne).trans (Jk ne)⟩ li'.wf ?_
  ·have hr:r∈upd ly.told l ((ly.told l).filter (rowSt c.ns)) l:=hr
   rw[et] at hr
   have hr:=List.mem_filter.mp hr
   exact Jao (ri r hr.1) hr.2
  ·have:=li'.isCl hc
   rw[ls.hi] at this
   rw[←et]
   exact this
 ·have fs':=fs q
  have ef:(ly.told l).filter (rowSt c.ns)=ly.told l:=List.filter_eq_self.mpr fs'
  refine(Z1 b3 (lb.fr f03) on ou hl (li.as rfl rfl) (fun r hr=>Jao (ri r hr) (fs' r hr)) fun g' ly' f' fr b' li' ls hc=>k g' ly' f' (f03.trans fr) b' ⟨ls.hi,ls.turns,?_,?_,fun i ne=>(ls.w i ne).trans (Jk ne),fun i ne=>(ls.f i ne).trans (Jk ne)⟩ li'.wf ?_)
  ·rw[Jgx q];exact ls.bk
  ·rw[ef,Jgx rfl];exact ls.told
  ·rw[ef]
   have:=li'.isCl hc
   rw[ls.hi] at this
   exact this
end Mine
namespace Mine
variable {aa:Adr}
noncomputable def PL (P:List (Nat×Nat)) (ly:Ly):Option Nat→List (Nat×Nat)
 |none=>P
 |some l=>(if l=1∧ly.hi=true then P++(ly.told 0).map Row.pair else P)++(ly.told l).map Row.pair
theorem PL_some:PL P ly (some l)=PL P ly (nxt ly.hi l)++(ly.told l).map Row.pair:=by
 show (if l=1∧ly.hi=true then P++(ly.told 0).map Row.pair else P)++(ly.told l).map Row.pair=_
 unfold nxt
 by_cases q:l=1∧ly.hi=true
 ·rw[if_pos q,if_pos q]
  show _=((if 0=1∧ly.hi=true then P++(ly.told 0).map Row.pair else P)++(ly.told 0).map Row.pair)++(ly.told l).map Row.pair
  rw[if_neg (by simp)]
 ·rw[if_neg q,if_neg q];rfl
structure LyO (m t:Nat) (ns:List Node) (bk:Nat) (ly:Ly) (f:Nat→Nat→Nat):Prop where
 wf:∀i,i<2→WF (ly.w i) (f i)
 ri:∀i,i<2→∀r∈ly.told i,RowI r
 fs:∀i,i<2→ly.bk i=bk→∀r∈ly.told i,rowSt ns r=true
 bk:∀i,i<2→ly.bk i≤bk
 ln:∀i,i<2→(ly.told i).length≤m
 tn:ly.turns≤t
theorem LyO.renew {m t bk l:Nat} {ns:List Node} {ly ly':Ly} {f f':Nat→Nat→Nat} (h:LyO m t ns bk ly f) (r:Renewed ns bk l ly ly' f f') (wf:∀i,i<2→WF (ly'.w i) (f' i)):LyO m (t+1) ns bk ly' f':=by
 have tl:∀i,∀r∈ly'.told i,r∈ly.told i:=fun i x hx=>by
  rw[r.told] at hx
  by_cases q:i=l
  ·subst q;rw[Jd] at hx;exact(List.mem_filter.mp hx).1
  ·rw[Jk q] at hx;exact hx
 refine⟨wf,fun i hi x hx=>h.ri i hi x (tl i x hx),fun i hi e x hx=>?_,fun i hi=>?_,fun i hi=>?_,by rw[r.turns];exact Nat.succ_le_succ h.tn⟩
 ·by_cases q:i=l
  ·subst q;rw[r.told,Jd] at hx;exact(List.mem_filter.mp hx).2
  ·rw[r.told,Jk q] at hx
   rw[r.bk,Jk q] at e
   exact h.fs i hi e x hx
 ·rw[r.bk]
  by_cases q:i=l
  ·subst q;rw[Jd];exact Nat.le_refl _
  ·rw[Jk q];exact h.bk i hi
 ·rw[r.told]
  by_cases q:i=l
  ·subst q;rw[Jd];exact Nat.le_trans (List.length_filter_le _ _) (h.ln i hi)
  ·rw[Jk q];exact h.ln i hi
structure LyS (m t:Nat) (c:Core) (bk:Nat) (P:List (Nat×Nat)) (ly:Ly) (f:Nat→Nat→Nat):Prop where
 o:LyO m t c.ns bk ly f
 bq:∀i,i<2→ly.bk i=bk
 cl:∀L,LayOk L→IsCl c.ns (PL P ly L) (FL c.u.F f ly.hi L)
theorem c711o (b:LyB aa g ly) (lb:LvB g c y) (on:NsOk c.ns) (ou:UOk c.u c.ns.length) (hl:l<2) (o:LyO m t c.ns y.bk ly f)
  (hb:IsCl c.ns P (FL c.u.F f ly.hi (nxt ly.hi l))) (ht:t≤100000) (hm:m≤1000)
  (k:∀g' ly' f',Fr WR g g'→LyB aa g' ly'→Renewed c.ns y.bk l ly ly' f f'→LyO m (t+1) c.ns y.bk ly' f'→IsCl c.ns (P++(ly'.told l).map Row.pair) (FL c.u.F f' ly'.hi (some l))→Q .none g'.st) :
  callN T (d+6) (K 711) [.ref aa.l,N l] g.st Q:=
 c711 b lb on ou hl o.wf hb (o.ri l hl) (o.fs l hl) (Nat.le_trans o.tn ht) (Nat.le_trans (o.ln l hl) hm) fun g' ly' f' fr b' rn wf cl=>k g' ly' f' fr b' rn (o.renew rn wf) (by rw[rn.told,Jd,rn.hi];exact cl)
noncomputable def WSe:List Nat:=WL++WR
theorem c712 (b:LyB aa g ly) (lb:LvB g c y) (h:HI c y.w y.chs P) (s:Stk y.mks y.chs c sv) (hmd:y.md=c.ns.length) (hmk:y.mks.length≤100)
  (b1:c.edges+Pot c y≤90000) (b2:c.known.length+Pot c y≤90000) (b3:y.chs.length+Pot c y≤90000) (b4:Pot c y≤9000) (o:LyO m t c.ns y.bk ly f) (hm:m≤1000) (ht:t≤50000)
  (k:∀g' c' y' ly' f',Fr WSe g g'→LyB aa g' ly'→LvB g' c' y'→HI c' [] y'.chs P→Stk y'.mks y'.chs c' sv→y'.w=[]→y'.bk=y.bk→y'.mks=y.mks→y'.md=y.md→c'.ns=c.ns→
   c'.edges≤c.edges+Pot c y→c'.known.length≤c.known.length+Pot c y→y'.chs.length≤y.chs.length+Pot c y→ly'.hi=ly.hi→(∀i,i<2→ly'.told i=(ly.told i).filter (rowSt c.ns))→LyS m (t+2) c' y.bk P ly' f'→Q .none g'.st) :
  callN T (d+8) (K 712) [.ref aa.l] g.st Q:=by
 refine x11 lb.top fun wA t0=>?_
 refine w712.mpr (w712_0.mpr ?_)
 refine J8 b.o (Jg t0.o (p:=K 1510) (by kernel_rfl) (by kernel_rfl) (c1510 lb h s hmd hmk b1 b2 b3 b4 fun g1 c1 y1 f1 lb1 h1 s1 ew ebk emk emd ens q1 q2 q3=>?_))
 have b':=b.fr f1
 refine x11 b'.be fun e be=>?_
 refine W6 b'.o (Y0 be (is:=[0,1]) rfl (by decide) (Jj (0,0) fun g2 z hz f2 h2=>Jy h2 ⟨trivial,?_⟩))
 have b2:=b'.fr f2
 have lb2:=lb1.fr f2
 have o1:LyO m t c1.ns y1.bk ly f:=by rw[ens,ebk];exact o
 have cl1:=h1.closed
 refine⟨h2.2,?_⟩
 refine Jdt.mpr (Jds.mpr ?_)
 refine Jo b2.o (p:=K 711) (by kernel_rfl) (by kernel_rfl) (c711o (d:=d+1) (l:=0) b2 lb2 h1.ns h1.u (by decide) o1 (by rw[show nxt ly.hi 0=none from rfl];exact cl1) (leK ht) hm fun g3 ly3 f3 fr3 b3 rn3 o3 cl3=>⟨(h2.fr fr3).2,?_⟩)
 refine Jdt.mpr (Jds.mpr ?_)
 have hb:IsCl c1.ns (PL P ly3 (nxt ly3.hi 1)) (FL c1.u.F f3 ly3.hi (nxt ly3.hi 1)):=by
  unfold nxt
  by_cases q:1=1∧ly3.hi=true
  ·rw[if_pos q];exact cl3
  ·rw[if_neg q];exact cl1
 refine Jo b3.o (p:=K 711) (by kernel_rfl) (by kernel_rfl) (c711o (d:=d+1) (l:=1) b3 (lb2.fr fr3) h1.ns h1.u (by decide) o3 hb (ltK ht) hm fun g4 ly4 f4 fr4 b4 rn4 o4 cl4=>⟨((h2.fr fr3).fr fr4).2,?_⟩)
 show code _ 712 [] 2 _ _ _ _
 refine w712_2.mpr ?_
 have fz:f4 0=f3 0:=rn4.f 0 (by decide)
 have tz:ly4.told 0=ly3.told 0:=by rw[rn4.told,Jk (by decide)]
 refine k g4 c1 y1 ly4 f4 ((((f1.mono).trans f2).trans fr3).trans fr4) b4 ((lb2.fr fr3).fr fr4) h1 s1 ew ebk emk emd ens q1 q2 q3 (rn4.hi.trans rn3.hi) (fun i hi=>?_) ⟨by rw[←ebk];exact o4,fun i hi=>?_,fun L hL=>?_⟩
 ·rcases lt2 hi with rfl|rfl
  ·rw[tz,rn3.told,Jd,ens]
  ·rw[rn4.told,Jd,rn3.told,Jk (by decide),ens]
 ·rw[rn4.bk,rn3.bk,ebk]
  rcases lt2 hi with rfl|rfl
  ·rw[Jk (by decide),Jd]
  ·rw[Jd]
 ·match L,hL with
  |none,_=>exact cl1
  |some 0,_=>
   have:FL c1.u.F f4 ly4.hi (some 0)=FL c1.u.F f3 ly3.hi (some 0):=by
    funext a;show f4 0 (c1.u.F a)=f3 0 (c1.u.F a);rw[fz]
   rw[this]
   show IsCl _ ((if 0=1∧ly4.hi=true then P++(ly4.told 0).map Row.pair else P)++(ly4.told 0).map Row.pair) _
   rw[if_neg (by simp),tz]
   exact cl3
  |some 1,_=>
   rw[PL_some]
   have:PL P ly4 (nxt ly4.hi 1)=PL P ly3 (nxt ly3.hi 1):=by
    rw[rn4.hi]
    unfold nxt
    by_cases q:1=1∧ly3.hi=true
    ·rw[if_pos q]
     show (if 0=1∧ly4.hi=true then P++(ly4.told 0).map Row.pair else P)++(ly4.told 0).map Row.pair=(if 0=1∧ly3.hi=true then P++(ly3.told 0).map Row.pair else P)++(ly3.told 0).map Row.pair
     rw[if_neg (by simp),if_neg (by simp),tz]
    ·rw[if_neg q];rfl
   rw[this];exact cl4
  |some (n+2),h=>exact absurd h (by show ¬(n+2<2);exact Nat.not_lt_of_le (Nat.le_add_left _ _))
end Mine
namespace Mine
variable {aa:Adr}
theorem in_nats (h:At g q z (.list (natL l))) (k:Q (decide (n∈l))):cmpV .In (N n) (.ref z) g.st Q:=by
 refine .inl ⟨_,h.2,⟨rfl,W1⟩,?_⟩
 rw[show decide (N n∈natL l)=decide (n∈l) from decide_eq_decide.mpr W5];exact k
noncomputable def ovr (hi:Bool) (l:Nat):List Nat:=[0,1].filter fun i=>decide (l∈(up hi (some i)).reverse)
theorem c704 (b:LyB aa g ly) (k:∀g' z,Fr [] g g'→At g' (0,0) z (.list (natL (ovr ly.hi l)))→Q (.ref z) g'.st):callN T (d+3) (K 704) [.ref aa.l,N l] g.st Q:=by
 refine x11 b.be fun e be=>?_
 refine w704.mpr (w704_0.mpr ?_)
 refine W6 b.o (Y0 be (is:=[0,1]) rfl (by decide) (Jj (0,0) fun g2 z hz f2 h2=>Jy h2 ⟨rfl,?_⟩))
 refine Wp (W:=[]) (g:=g2) (fun i=>decide (l∈(up ly.hi (some i)).reverse)) N N [0,1] (by show 2<cap;unfold cap;decide) (fun g' fr=>(h2.fr fr).2) (fun i hi g' fr R hR=>?_) fun g3 f3=>Jj (0,0) fun g4 z4 _ f4 h4=>k g4 z4 ((f2.trans f3).trans f4) h4
 have b':=(b.fr f2).fr fr
 have hi:i<2:=by simp at hi;omega
 refine w704_b0.mpr (w704_i0.mpr ?_)
 refine eqI (bD (fun h=>absurd h (by omega)) fun _=>Jo b'.o (p:=K 703) (by kernel_rfl) (by kernel_rfl) (c703 (L:=some i) b' hi fun g5 z5 f5 h5=>in_nats h5 ?_))
 have hR:=hR g5 (fr.trans f5)
 cases q:decide (l∈(up ly.hi (some i)).reverse) with
 |true=>rw[q] at hR;exact bT (bT (by refine w704_e0.mpr ?_;exact hR))
 |false=>rw[q] at hR;exact bF (bF hR)
theorem LyB.tell {A:Nat→Nat} (b:LyB aa g ly) (hl:l<2) (t1:At g (49,0) aa.to (.dict (d2 fun l=>.ref (A l)) e)) (t2:∀l,l<2→A l≠0∧At g (104,l) (A l) (.list ((ly.told l).map Row.v)))
  (cc:Ch (A l) g g') (h:At g' (104,l) (A l) (.list ((ly.told l++[r]).map Row.v))) (ra:∃e,At g (0,0) r.da (.dict (nD r.ea) e)) (rb:∃e,At g (0,0) r.db (.dict (nD r.eb) e)):LyB aa g' (ly.tl l (ly.told l++[r])):=by
 obtain ⟨nz,o,be,_,⟨A',e',w1,w2⟩,ba,rows⟩:=b
 have f:Fr [104] g g':=cc.fr (t2 l hl).2
 refine⟨nz,o.fr f,be.imp fun _ x=>x.fr f,⟨A,e,t1.fr f,fun i hi=>?_⟩,⟨A',e',w1.fr f,fun l hl=>⟨(w2 l hl).1,(w2 l hl).2.imp fun _ x=>x.fr f⟩⟩,ba.imp fun _ x=>x.fr f,fun i hi x hx=>?_⟩
 ·refine⟨(t2 i hi).1,?_⟩
  show At g' (104,i) (A i) (.list ((upd ly.told l (ly.told l++[r]) i).map Row.v))
  by_cases q:i=l
  ·subst q;rw[Jd];exact h
  ·rw[Jk q]
   exact(t2 i hi).2.ch cc ((t2 i hi).2.ne (t2 l hl).2 (by simp;exact q))
 ·have hx:x∈upd ly.told l (ly.told l++[r]) i:=hx
  have:x∈ly.told i∨x=r:=by
   by_cases q:i=l
   ·subst q;rw[Jd] at hx
    rcases List.mem_append.mp hx with h|h
    ·exact .inl h
    ·exact .inr (List.mem_singleton.mp h)
   ·rw[Jk q] at hx;exact .inl hx
  rcases this with h|rfl
  ·exact⟨(rows i hi x h).1.imp fun _ x=>x.fr f,(rows i hi x h).2.imp fun _ x=>x.fr f⟩
  ·exact⟨ra.imp fun _ x=>x.fr f,rb.imp fun _ x=>x.fr f⟩
theorem notB {b:Bool} {st:St} {Q:KV} (k:Q (.bool (!b)) st):unV .Not (.bool b) st Q:=k
theorem Within.stands (h:Within ns n e):standsB ns e=true:=by
 refine decide_eq_true (List.filter_eq_nil_iff.mpr fun a ha=>?_)
 refine x12 (Q9 ha) fun x hx hm=>?_
 rw[hx,h.at_ (a,x) hm];simp
theorem Within.row (on:NsOk ns) (ha:Within ns a ea) (hb:Within ns b eb):RowI ⟨a,b,da,db,ea,eb⟩:=
 ⟨ha.root,hb.root,by have:=ha.len;have:=on.len;show ea.length≤1000;omega,by have:=hb.len;have:=on.len;show eb.length≤1000;omega,fun p hp=>on.op _ (List.mem_of_getElem? (ha.at_ p hp)),fun p hp=>on.op _ (List.mem_of_getElem? (hb.at_ p hp))⟩
theorem LyO.tell {m t bk l:Nat} {ns:List Node} {ly:Ly} {f:Nat→Nat→Nat} {r:Row} (h:LyO m t ns bk ly f) (i:RowI r) (s:rowSt ns r=true):LyO (m+1) t ns bk (ly.tl l (ly.told l++[r])) f:=by
 have mem:∀i,∀x∈(ly.tl l (ly.told l++[r])).told i,x∈ly.told i∨x=r:=fun i x hx=>by
  have hx:x∈upd ly.told l (ly.told l++[r]) i:=hx
  by_cases q:i=l
  ·subst q;rw[Jd] at hx
   rcases List.mem_append.mp hx with h|h
   ·exact .inl h
   ·exact .inr (List.mem_singleton.mp h)
  ·rw[Jk q] at hx;exact .inl hx
 refine⟨h.wf,fun j hj x hx=>?_,fun j hj e x hx=>?_,h.bk,fun j hj=>?_,h.tn⟩
 ·rcases mem j x hx with hx|rfl
  ·exact h.ri j hj x hx
  ·exact i
 ·rcases mem j x hx with hx|rfl
  ·exact h.fs j hj e x hx
  ·exact s
 ·show (upd ly.told l (ly.told l++[r]) j).length≤m+1
  have:=h.ln j hj
  by_cases q:j=l
  ·subst q;rw[Jd,List.length_append,List.length_singleton];exact Nat.succ_le_succ this
  ·rw[Jk q];exact Nat.le_succ_of_le this
end Mine
namespace Mine
variable {aa:Adr}
theorem LyO.keep {m t bk l:Nat} {ns:List Node} {ly ly':Ly} {f f':Nat→Nat→Nat} (o:LyO m t ns bk ly f) (rn:Renewed ns bk l ly ly' f f') (hl:l<2) (bq:∀i,i<2→ly.bk i=bk):ly'.told=ly.told∧∀i,i<2→ly'.bk i=bk:=by
 refine⟨?_,fun i hi=>?_⟩
 ·rw[rn.told]
  exact Jgx (List.filter_eq_self.mpr (o.fs l hl (bq l hl))).symm
 ·rw[rn.bk]
  by_cases q:i=l
  ·subst q;exact Jd
  ·rw[Jk q];exact bq i hi
theorem Je6 (b:LyB aa g ly) (lb:LvB g c y) (on:NsOk c.ns) (ou:UOk c.u c.ns.length) (hl:l<2)
  (o:LyO m t c.ns y.bk ly f) (bq:∀i,i<2→ly.bk i=y.bk) (hb:IsCl c.ns P (FL c.u.F f ly.hi (nxt ly.hi l))) (ht:t≤50000) (hm:m≤1000) (hz:At g (0,0) z (.list (natL (ovr ly.hi l))))
  (k:∀g' ly' f' x1,Fr WR g g'→LyB aa g' ly'→ly'.hi=ly.hi→ly'.told=ly.told→LyO m (t+2) c.ns y.bk ly' f'→kn [some (.ref aa.l),some (N l),some va,some vb,some vn,x1,x2,x3] g'.st) :
  cForL (fnSc 713) (.list z (natL (ovr ly.hi l))) (.one "one") (code (d+6) 713 [6] 0) (natL (ovr ly.hi l)) [some (.ref aa.l),some (N l),some va,some vb,some vn,x1,x2,x3] g.st kn kr:=by
 have ok:∀g',Fr WR g g'→Src.ok (.list z (natL (ovr ly.hi l))) g'.st:=fun g' fr=>(hz.fr fr).2
 revert ok
 generalize Src.list z (natL (ovr ly.hi l))=src
 intro ok
 rcases lt2 hl with rfl|rfl
 ·cases q:ly.hi with
  |true=>
   refine⟨ok g Fr.refl,?_⟩
   refine Yr.mpr (Yq.mpr ?_)
   refine Jo b.o (p:=K 711) (by kernel_rfl) (by kernel_rfl) (c711o (l:=0) b lb on ou hl o hb (leK ht) hm fun g3 ly3 f3 fr3 b3 rn3 o3 cl3=>⟨ok g3 fr3,?_⟩)
   have kp:=o.keep rn3 hl bq
   refine Yr.mpr (Yq.mpr ?_)
   refine Jo b3.o (p:=K 711) (by kernel_rfl) (by kernel_rfl) (c711o (l:=1) b3 (lb.fr fr3) on ou (by decide) o3 (P:=P++(ly3.told 0).map Row.pair) ?_ (ltK ht) hm fun g4 ly4 f4 fr4 b4 rn4 o4 cl4=>⟨ok g4 (fr3.trans fr4),?_⟩)
   ·rw[rn3.hi,q]
    rw[rn3.hi,q] at cl3
    exact cl3
   ·have kp2:=o3.keep rn4 (by decide) kp.2
    exact k g4 ly4 f4 _ (fr3.trans fr4) b4 (rn4.hi.trans rn3.hi) (kp2.1.trans kp.1) o4
  |false=>
   refine⟨ok g Fr.refl,?_⟩
   refine Yr.mpr (Yq.mpr ?_)
   refine Jo b.o (p:=K 711) (by kernel_rfl) (by kernel_rfl) (c711o (l:=0) b lb on ou hl o hb (leK ht) hm fun g3 ly3 f3 fr3 b3 rn3 o3 cl3=>⟨ok g3 fr3,?_⟩)
   exact k g3 ly3 f3 _ fr3 b3 rn3.hi (o.keep rn3 hl bq).1 ⟨o3.wf,o3.ri,o3.fs,o3.bk,o3.ln,by have:=o3.tn;exact Nat.le_succ_of_le this⟩
 ·have e:ovr ly.hi 1=[1]:=by cases ly.hi<;>rfl
  rw[e]
  refine⟨ok g Fr.refl,?_⟩
  refine Yr.mpr (Yq.mpr ?_)
  refine Jo b.o (p:=K 711) (by kernel_rfl) (by kernel_rfl) (c711o (l:=1) b lb on ou hl o hb (leK ht) hm fun g3 ly3 f3 fr3 b3 rn3 o3 cl3=>⟨ok g3 fr3,?_⟩)
  exact k g3 ly3 f3 _ fr3 b3 rn3.hi (o.keep rn3 hl bq).1 ⟨o3.wf,o3.ri,o3.fs,o3.bk,o3.ln,by have:=o3.tn;exact Nat.le_succ_of_le this⟩
noncomputable def WM:List Nat:=104::WR
theorem c713 (b:LyB aa g ly) (lb:LvB g c y) (on:NsOk c.ns) (ou:UOk c.u c.ns.length) (hl:l<2) (s:LyS m t c y.bk P ly f) (ha:a<c.ns.length) (he:e<c.ns.length)
  (ht:t≤40000) (hm:m≤900)
  (k:∀g' ly' f' r,Fr WM g g'→LyB aa g' ly'→ly'.hi=ly.hi→ly'.told=upd ly.told l (ly.told l++[r])→r.a=a→r.b=e→Within c.ns a r.ea→Within c.ns e r.eb→LyO (m+1) (t+2) c.ns y.bk ly' f'→
   Q (.bool (!decide (FL c.u.F f ly.hi (some l) a=FL c.u.F f ly.hi (some l) e))) g'.st):callN T (d+7) (K 713) [.ref aa.l,N l,N a,N e] g.st Q:=by
 have hw:=s.o.wf
 refine w713.mpr (w713_0.mpr ?_)
 refine eqI (bD (fun h=>absurd h (by omega)) fun _=>Jo b.o (p:=K 706) (by kernel_rfl) (by kernel_rfl) (c706 (L:=some l) (d:=d+2) b lb ou hl hw ha he fun g1 f1=>notB ?_))
 have b1:=b.fr f1
 refine x22 b1.to fun A ee t1 t2=>?_
 have hA:=(t2 l hl).2
 have hln:=s.o.ln l hl
 refine Jaw b1.o (Jn t1 Xb (Wr hl) ?_)
 refine methA hA ⟨by decide,Jo b1.o (p:=K 709) (by kernel_rfl) (by kernel_rfl) (c709 (d:=d+4) b1 (lb.fr f1) on ha fun g2 da ea na f2 za h2 wa=>?_)⟩
 refine Jo (b1.fr f2).o (p:=K 709) (by kernel_rfl) (by kernel_rfl) (c709 (d:=d+4) (b1.fr f2) ((lb.fr f1).fr f2) on he fun g3 db eb nb f3 zb h3 wb=>?_)
 have f13:=f2.trans f3
 have h2:=h2.fr f3
 have b3:=b1.fr f13
 refine Jz (hA.fr f13) (t2 l hl).1 (by rw[List.length_map];exact cap5 (Nat.le_trans hln (leK hm))) fun g4 c4 h4=>?_
 rw[show (ly.told l).map Row.v++[V.tup [N a,N e,.ref da,.ref db]]=(ly.told l++[Row.mk a e da db ea eb]).map Row.v from by rw[List.map_append];rfl] at h4
 have b4:=b3.tell hl (t1.fr f13) (fun i hi=>⟨(t2 i hi).1,(t2 i hi).2.fr f13⟩) c4 h4 ⟨na,h2⟩ ⟨nb,h3⟩
 have f4:Fr [104] g3 g4:=c4.fr (hA.fr f13)
 have f04:Fr [104] g g4:=((f1.trans f13).mono).trans f4
 have o4:=s.o.tell (l:=l) (r:=⟨a,e,da,db,ea,eb⟩) (wa.row on wb) (by unfold rowSt;rw[wa.stands,wb.stands];rfl)
 have lb4:=lb.fr f04
 refine blP (bDn (fun _=>?_) fun _=>?_)
 ·refine Jo b4.o (p:=K 704) (by kernel_rfl) (by kernel_rfl) (c704 (d:=d+3) b4 fun g5 z f5 h5=>Jy h5 ⟨trivial,?_⟩)
  refine Je6 (b4.fr f5) (lb4.fr f5) on ou hl o4 s.bq (P:=PL P ly (nxt ly.hi l)) ?_ (leK ht) (ltK hm) h5 fun g6 ly6 f6 x1 fr6 b6 hi6 to6 o6=>?_
  ·exact s.cl _ Jl3
  ·show code _ 713 [] 4 _ _ _ _
   refine Jlw.mpr ?_
   exact k g6 ly6 f6 _ (((f04.mono).trans f5).trans fr6) b6 hi6 to6 rfl rfl wa wb o6
 ·refine⟨by decide,Jj (0,0) fun g5 z _ f5 h5=>Jy h5 ⟨trivial,h5.2,?_⟩⟩
  show code _ 713 [] 4 _ _ _ _
  refine Jlw.mpr ?_
  exact k g5 _ f _ ((f04.mono).trans f5) (b4.fr f5) rfl rfl rfl rfl wa wb ⟨o4.wf,o4.ri,o4.fs,o4.bk,o4.ln,by have:=o4.tn;exact Nat.le_trans this (Nat.le_add_right _ _)⟩
theorem c715 (b:LyB aa g ly) (lb:LvB g c y) (on:NsOk c.ns) (ou:UOk c.u c.ns.length) (hl:l<2) (hf:∀i,i<2→WF (ly.w i) (f i)) (hr:Rep (FL c.u.F f ly.hi (some l)))
  (k:∀g' z,Fr [] g g'→At g' (0,0) z (.list (intL (sortInts (((c.u.roots c.ns.length).map fun a=>((FL c.u.F f ly.hi (some l) a:Nat):Int))).eraseDups)))→Q (.ref z) g'.st):callN T (d+4) (K 715) [.ref aa.l,N l] g.st Q:=by
 refine x11 lb.top fun wA t=>?_
 have hn:=on.len
 have hrl:(c.u.roots c.ns.length).length≤24:=by
  have:=List.length_filter_le (fun a=>decide (c.u.F a=a)) (List.range c.ns.length)
  rw[List.length_range] at this
  exact Nat.le_trans this hn
 refine w715.mpr (w715_0.mpr ?_)
 refine J8 b.o (Jg t.o (p:=K 1512) (by kernel_rfl) (by kernel_rfl) (c1512 (d:=d+1) t.o lb.uni ou fun g1 z f1 h1=>Jy h1 ⟨rfl,?_⟩))
 refine Wp (W:=[]) (g:=g1) (fun _=>true) N (fun a=>N (FL c.u.F f ly.hi (some l) a)) (c.u.roots c.ns.length) (cap5 (leK hrl)) (fun g' fr=>(h1.fr fr).2) (fun a ha g' fr R hR=>?_) fun g2 f2=>?_
 ·have b':=(b.fr f1).fr fr
  refine w715_b0.mpr (w715_i0.mpr ?_)
  refine bT ?_
  refine w715_e0.mpr ?_
  refine Jo b'.o (p:=K 705) (by kernel_rfl) (by kernel_rfl) (c705 (L:=some l) b' ((lb.fr f1).fr fr) ou hl hf ?_ fun g3 f3=>hR g3 (fr.trans f3))
  exact List.mem_range.mp (List.mem_filter.mp ha).1
 ·rw[List.filter_eq_self.mpr fun _ _=>rfl]
  refine Jj (0,0) fun g3 z3 _ f3 h3=>⟨z3,(c.u.roots c.ns.length).map fun a=>((FL c.u.F f ly.hi (some l) a:Nat):Int),rfl,?_,⟨by rw[List.length_map];exact ltK hrl,fun i hi=>?_⟩,Jj (0,0) fun g4 z4 _ f4 h4=>k g4 z4 (((f1.trans f2).trans f3).trans f4) h4⟩
  ·have:=h3.2
   unfold intL
   rw[List.map_map];exact this
  ·refine x12 (List.mem_map.mp hi) fun a ha q1_=>?_
   subst q1_
   have:=(hr a).1
   have:=List.mem_range.mp (List.mem_filter.mp ha).1
   omega
end Mine
namespace Mine
noncomputable def dieD (at_:Nat):List (V×V):=[(.str "row",.ref 2),(.str "at",N at_)]
structure DieB (g:G) (at_:Nat):Prop where
 d:∃n,Fx g 3 (.dict (dieD at_) n)
 r:∃row,Fx g 2 (.list (natL row))∧row.length≤50
theorem DieB.fr (b:DieB g a) (f:Fr W g g') (h:3∉W∧2∉W:=by decide):DieB g' a:=
 ⟨b.d.imp fun _ x=>x.fr f h.1,b.r.imp fun _ x=>⟨x.1.fr f h.2,x.2⟩⟩
noncomputable def strK (es:List (V×V)):Prop:=∀e∈es,keyKind e.1=some .str
theorem strKeys (h:strK es):keysOk (.str s) es:=⟨.str,rfl,h⟩
theorem Jli:strK (dieD a):=fun e h=>by
 rcases List.mem_cons.mp h with rfl|h
 ·rfl
 ·rcases List.mem_cons.mp h with rfl|h
  ·rfl
  ·cases h
theorem modN {a b:Nat} {st:St} {Q:KV} (h:0<b) (k:∀r,r<b→Q (N r) st):binV .Mod (N a) (N b) st Q:=by
 refine⟨by exact iK' h,?_⟩
 have:Int.fmod (a:Int) (b:Int)=((a % b:Nat):Int):=by
  rw[Int.fmod_eq_emod_of_nonneg _ (Int.natCast_nonneg _)];rfl
 rw[this]
 exact k _ (Nat.mod_lt _ h)
theorem mulN {a b:Nat} {st:St} {Q:KV} (ha:a<2 ^ 60) (hb:b<2 ^ 60) (k:Q (N (a * b)) st):binV .Mult (N a) (N b) st Q:=by
 refine⟨⟨by unfold small;omega,by unfold small;omega⟩,?_⟩
 rw[←Int.natCast_mul];exact k
theorem divN {a b:Nat} {st:St} {Q:KV} (h:0<b) (hb:b<1000) (k:Q (N (a / b)) st):binV .FloorDiv (N a) (N b) st Q:=by
 refine⟨⟨by exact iK' h,by omega⟩,?_⟩
 have:Int.fdiv (a:Int) (b:Int)=((a / b:Nat):Int):=by
  rw[Int.fdiv_eq_ediv_of_nonneg _ (Int.natCast_nonneg _)];rfl
 rw[this];exact k
theorem c19 (b:DieB g a) (ha:a≤10000) (hm:0<m) (k:∀g' r,r<m→Fr [3] g g'→DieB g' (a+1)→Q (N r) g'.st):callN T (d+1) (K 19) [.ref 3,N m] g.st Q:=by
 obtain ⟨⟨n,dd⟩,⟨row,rr,rl⟩⟩:=b
 refine w19.mpr (w19_0.mpr ?_)
 refine Jn dd (strKeys Jli) (v:=N a) (by kernel_rfl) (addN (b:=1) (Nat.succ_le_succ (ltK ha)) (J2 dd (by decide) (strKeys Jli) (by show 2<cap;unfold cap;decide) fun g' cc d'=>?_))
 rw[show dput (dieD a) (.str "at") (N (a+1))=dieD (a+1) by kernel_rfl] at d'
 have f:Fr [3] g g':=cc.fr dd
 have rr':=rr.fr f
 have db:DieB g' (a+1):=⟨⟨_,d'⟩,⟨row,rr',rl⟩⟩
 refine Jn d' (strKeys Jli) (v:=.ref 2) (by kernel_rfl) (Je rr' (by rw[Ja];exact Jb (leK rl)) (ltN (bD (fun h=>?_) fun _=>?_)))
 ·rw[Ja] at h
  refine Jn d' (strKeys Jli) (v:=.ref 2) (by kernel_rfl) (Jm rr' (J3 (List.getElem?_eq_getElem h)) (by rw[Ja];exact Jb (leK rl)) (modN hm fun r hr=>k g' r hr f db))
 ·have ha2:5 * a<2 ^ 60:=by omega
  refine mulN (a:=5) (by decide) (ltK ha) (mulN ha2 (ltK ha) (mulN (a:=4) (by decide) (ltK ha) (addN ?_ (divN (b:=3) (by decide) (by decide) (addN (b:=2) ?_ (modN hm fun r hr=>k g' r hr f db))))))
  ·have:5 * a * a≤50000 * 10000:=Nat.mul_le_mul (by omega) ha
   omega
  ·have:5 * a * a≤50000 * 10000:=Nat.mul_le_mul (by omega) ha
   have:(5 * a * a+4 * a) / 3≤5 * a * a+4 * a:=Nat.div_le_self _ _
   omega
noncomputable def tmL (lk:Nat→Option Node):Nat→Nat→V
 |0,_=>.none
 |k+1,n=>match lk n with
  |some x=>.tup (.str x.op::x.kids.map (tmL lk k))
  |none=>.none
noncomputable def ndL (ns:List Node) (i:Nat):Option Node:=ns[i]?
theorem Wf (h:lk n=some x):tmL lk (k+1) n=.tup (.str x.op::x.kids.map (tmL lk k)):=by
 show (match lk n with|some x=>_|none=>_)=_
 rw[h]
theorem c20 (on:NsOk ns):∀(j n:Nat) {g:G} {Q:KV},At g (0,0) z (.list (ns.map Node.v))→n<ns.length→min n 3+1≤j→
  (∀g',Fr [] g g'→Q (tmL (ndL ns) j n) g'.st)→callN T (d+j) (K 20) [.ref z,N n] g.st Q:=by
 intro l_
 induction l_ with
 |zero=>
  intro n _ _ _ _ h _
  exact absurd h (Nat.not_lt_of_le (Nat.zero_le _))
 |succ j ih_=>
  intro n g Q hz hn h k
  have hl:=on.len
  have hx:ns[n]?=some ns[n]:=List.getElem?_eq_getElem hn
  revert hx
  generalize ns[n]=x
  intro hx
  have kx:=on.kid n x hx
  have hx2:=on.two x (List.mem_of_getElem? hx)
  have hml:(ns.map Node.v).length<cap:=by rw[List.length_map];exact Jb (leK hl)
  show callN T (d+j+1) _ _ _ _
  refine w20.mpr (w20_0.mpr ?_)
  refine⟨by decide,Jm hz (Ws hx) hml (Jq (i:=0) (v:=.str x.op) rfl (by rw[List.length_cons,Ja];exact Jb (ltK hx2)) (Jm hz (Ws hx) hml (Wz (n:=1) ⟨by decide,by rw[List.length_cons];exact Nat.succ_pos _,by rw[List.length_cons,Ja];exact Jb (ltK hx2)⟩ (Qc ⟨rfl,?_⟩))))⟩
  refine Wp (W:=[]) (fun _=>true) N (tmL (ndL ns) j) x.kids (Jb (leK hx2)) (fun _ _=>trivial) (fun q hq g' fr R hR=>?_) fun g2 f2=>?_
  ·refine w20_b0.mpr (w20_i0.mpr ?_)
   refine bT ?_
   refine w20_e0.mpr ?_
   have:=kx q hq
   exact ih_ q (hz.fr fr) (Nat.lt_trans this.1 hn) (by omega) fun g3 f3=>hR g3 (fr.trans f3)
  ·rw[List.filter_eq_self.mpr fun _ _=>rfl]
   refine Jj (0,0) fun g3 z3 _ f3 h3=>Qz h3 (by rw[List.length_map];exact Jb (leK hx2)) (addT (by rw[List.length_map];exact Jb (by simp;exact l1K hx2)) ?_)
   have:=k g3 (f2.trans f3)
   rw[Wf (lk:=ndL ns) hx] at this
   exact this
theorem Jhl:∀l:List V,(∀v∈l,v.plain=true)→V.plains l=true:=by
 intro l_
 induction l_ with
 |nil=>
  intro _
  exact rfl
 |cons a l ih_=>
  intro h
  exact Bool.and_eq_true_iff.mpr ⟨h a (.head _),ih_ fun v hv=>h v (.tail _ hv)⟩
theorem Jie:∀l:List V,(∀v∈l,v.depth≤b)→V.depths l≤b:=by
 intro l_
 induction l_ with
 |nil=>
  intro _
  exact Nat.zero_le _
 |cons a l ih_=>
  intro h
  exact Nat.max_le.mpr ⟨h a (.head _),ih_ fun v hv=>h v (.tail _ hv)⟩
theorem tm_data (on:NsOk ns):∀(j n:Nat),n<ns.length→min n 3+1≤j→(tmL (ndL ns) j n).plain=true∧(tmL (ndL ns) j n).depth≤j:=by
 intro l_
 induction l_ with
 |zero=>
  intro _ _ h
  exact absurd h (Nat.not_lt_of_le (Nat.zero_le _))
 |succ j ih_=>
  intro n hn h
  have hx:ndL ns n=some ns[n]:=List.getElem?_eq_getElem hn
  revert hx
  generalize ns[n]=x
  intro hx
  have kx:=on.kid n x hx
  have ih:∀v∈x.kids.map (tmL (ndL ns) j),v.plain=true∧v.depth≤j:=fun v hv=>by
   refine x12 (List.mem_map.mp hv) fun q hq q1_=>?_
   subst q1_
   have:=kx q hq
   exact ih_ q (Nat.lt_trans this.1 hn) (by omega)
  rw[Wf hx]
  refine⟨?_,?_⟩
  ·exact Bool.and_eq_true_iff.mpr ⟨Jl2 (on.op x (List.mem_of_getElem? hx)),Jhl _ fun v hv=>(ih v hv).1⟩
  ·show max 0 (V.depths (x.kids.map (tmL (ndL ns) j)))+1≤j+1
   have:=Jie _ fun v hv=>(ih v hv).2
   exact Nat.succ_le_succ this
theorem Jg1 (on:NsOk ns) (hn:n<ns.length):(tmL (ndL ns) 4 n).data=true:=by
 have h:=tm_data on 4 n hn (Nat.succ_le_succ (Nat.min_le_right _ _))
 exact Bool.and_eq_true_iff.mpr ⟨h.1,decide_eq_true (leK h.2)⟩
theorem Jdv {lk lk':Nat→Option Node} {S:Nat→Prop} (h:∀i,S i→lk i=lk' i) (hk:∀i x,S i→lk i=some x→∀q∈x.kids,S q):∀(j i:Nat),S i→tmL lk j i=tmL lk' j i:=by
 intro l_
 induction l_ with
 |zero=>
  intro _ _
  exact rfl
 |succ j ih_=>
  intro i hi
  show (match lk i with|some x=>_|none=>_)=(match lk' i with|some x=>_|none=>_)
  rw[←h i hi]
  cases q:lk i with
  |none=>rfl
  |some x=>exact congrArg V.tup (congrArg (V.str x.op::·) (List.map_congr_left fun r hr=>ih_ r (hk i x hi q r hr)))
theorem Within.get (h:Within ns n e) (ha:a∈e.map (·.1)):nget e a=ndL ns a:=by
 refine x12 (Q9 ha) fun x hx hm=>?_
 rw[hx];exact(h.at_ (a,x) hm).symm
theorem Within.kid (h:Within ns n e) (ha:a∈e.map (·.1)) (hx:ndL ns a=some x):∀q∈x.kids,q∈e.map (·.1):=by
 refine x12 (Q9 ha) fun y hy hm=>?_
 have:=h.at_ (a,y) hm
 have e1:some x=some y:=hx.symm.trans this
 obtain rfl:=Option.some.inj e1
 exact h.kids (a,x) hm
theorem Within.tm (h:Within ns n e) (j:Nat):tmL (nget e) j n=tmL (ndL ns) j n:=
 Jdv (S:=fun a=>a∈e.map (·.1)) (fun _ ha=>h.get ha) (fun _ _ ha hx=>h.kid ha ((h.get ha).symm.trans hx)) j n h.root
theorem Jbe (on:NsOk ns):∀(j j' n:Nat),n<ns.length→min n 3+1≤j→min n 3+1≤j'→tmL (ndL ns) j n=tmL (ndL ns) j' n:=by
 intro l_
 induction l_ with
 |zero=>
  intro _ _ _ h _
  exact absurd h (Nat.not_lt_of_le (Nat.zero_le _))
 |succ j ih_=>
  intro w1_
  cases w1_ with
  |zero=>
   intro _ _ _ h
   exact absurd h (Nat.not_lt_of_le (Nat.zero_le _))
  |succ j'=>
   intro n hn h h'
   have hx:ndL ns n=some ns[n]:=List.getElem?_eq_getElem hn
   revert hx
   generalize ns[n]=x
   intro hx
   have kx:=on.kid n x hx
   rw[Wf hx,Wf hx]
   exact congrArg V.tup (congrArg (V.str x.op::·) (List.map_congr_left fun q hq=>by
    have:=kx q hq
    exact ih_ j' q (Nat.lt_trans this.1 hn) (by omega) (by omega)))
structure Two (ns:List Node):Prop where
 a:ndL ns 0=some ⟨"a",[]⟩
 b:ndL ns 1=some ⟨"b",[]⟩
theorem Jjy (h:V.tup a=V.tup b):a=b:=by injection h
theorem Jjz (h:V.str a=V.str b):a=b:=by injection h
theorem tm_eq (hx:lk n=some x) (hy:lk' n'=some y) (h:tmL lk (j+1) n=tmL lk' (j'+1) n'):x.op=y.op∧x.kids.map (tmL lk j)=y.kids.map (tmL lk' j'):=by
 rw[Wf hx,Wf hy] at h
 have h:=List.cons.inj (Jjy h)
 exact⟨Jjz h.1,h.2⟩
theorem Jg0 (on:NsOk ns) (t:Two ns) (t0:Two ns0) (hq:q<ns.length) (h3:q<3):(tmL (ndL ns) 3 q=tmL (ndL ns0) 3 0→q=0)∧(tmL (ndL ns) 3 q=tmL (ndL ns0) 3 1→q=1):=by
 have hx:ndL ns q=some ns[q]:=List.getElem?_eq_getElem hq
 revert hx
 generalize ns[q]=x
 intro hx
 have key:∀(i:Nat) (o:Str),ndL ns i=some ⟨o,[]⟩→ndL ns0 i=some ⟨o,[]⟩→tmL (ndL ns) 3 q=tmL (ndL ns0) 3 i→q=i:=fun i o h1 h2 e=>by
  have e:=tm_eq hx h2 e
  have ek:x.kids=[]:=List.map_eq_nil_iff.mp e.2
  have:x=⟨o,[]⟩:=by cases x;obtain rfl:=e.1;subst ek;rfl
  rw[this] at hx
  have hi:=(List.getElem?_eq_some_iff.mp h1).1
  exact(List.getElem?_inj hq on.nodup).mp (hx.trans h1.symm)
 exact⟨key 0 "a" t.a t0.a,key 1 "b" t.b t0.b⟩
theorem tm_inj3 (on:NsOk ns) (on0:NsOk ns0) (t:Two ns) (t0:Two ns0) (hq:q<ns.length) (h3:q<3) (hq0:q0<ns0.length) (h30:q0<3) (e:tmL (ndL ns) 3 q=tmL (ndL ns0) 3 q0):q=q0:=by
 have h1:=Jg0 on t t0 hq h3
 have h2:=Jg0 on0 t0 t hq0 h30
 match q0,h30,e with
 |0,_,e=>exact h1.1 e
 |1,_,e=>exact h1.2 e
 |2,_,e=>
  match q,h3,e with
  |0,_,e=>exact(h2.1 e.symm).symm
  |1,_,e=>exact(h2.2 e.symm).symm
  |2,_,_=>rfl
theorem Jk6:∀(l l':List Nat),l.map f=l'.map g→(∀a∈l,∀b∈l',f a=g b→a=b)→l=l'∧∀a∈l,f a=g a:=by
 intro l_
 induction l_ with
 |nil=>
  intro w1_
  cases w1_ with
  |nil=>
   intro _ _
   exact⟨rfl,fun _ h=>by cases h⟩
  |cons x_ xs_=>
   intro e _
   injection e
 |cons a l ih_=>
  intro w1_
  cases w1_ with
  |nil=>
   intro e _
   injection e
  |cons b l'=>
   intro e h
   have e:=List.cons.inj e
   have ih:=ih_ l' e.2 fun x hx y hy=>h x (.tail _ hx) y (.tail _ hy)
   have e1:=h a (.head _) b (.head _) e.1
   subst e1
   refine⟨by rw[ih.1],fun x hx=>?_⟩
   refine(List.mem_cons.mp hx).elim (fun e_=>?_) fun hx=>?_
   ·subst e_
    exact e.1
   ·exact ih.2 x hx
theorem Zy (on:NsOk ns) (on0:NsOk ns0) (t:Two ns) (t0:Two ns0) (h:Within ns0 a e) :
  standsB ns e=true↔a<ns.length∧tmL (ndL ns) 4 a=tmL (nget e) 4 a:=by
 constructor
 ·intro s
  have sg:∀i,i∈e.map (·.1)→ndL ns i=nget e i:=fun i hi=>by
   refine x12 (Q6 s hi) fun x hx hm=>?_
   have:nget e i=some x:=by rw[h.get hi];exact h.at_ (i,x) hm
   rw[this];exact hx
  refine x12 (Q6 s h.root) fun x hx _=>?_
  exact⟨(List.getElem?_eq_some_iff.mp hx).1,Jdv (S:=fun a=>a∈e.map (·.1)) sg (fun i x hi hx=>h.kid hi ((h.get hi).symm.trans ((sg i hi).symm.trans hx))) 4 a h.root⟩
 ·rintro ⟨ha,et⟩
  rw[h.tm 4] at et
  have step:∀i,(i<ns.length∧tmL (ndL ns) 4 i=tmL (ndL ns0) 4 i)→∀x,ndL ns0 i=some x→ndL ns i=some x∧∀q∈x.kids,q<ns.length∧tmL (ndL ns) 4 q=tmL (ndL ns0) 4 q:=fun i hi x hx=>by
   have hy:ndL ns i=some ns[i]:=List.getElem?_eq_getElem hi.1
   revert hy
   generalize ns[i]=y
   intro hy
   have e:=tm_eq hy hx hi.2
   have ky:=on.kid i y hy
   have kx:=on0.kid i x hx
   have hi0:=(List.getElem?_eq_some_iff.mp hx).1
   have m:=Jk6 _ _ e.2 fun q hq q0 hq0 e=>tm_inj3 on on0 t t0 (by have:=ky q hq;exact Nat.lt_trans this.1 hi.1) (ky q hq).2 (by have:=kx q0 hq0;exact Nat.lt_trans this.1 hi0) (kx q0 hq0).2 e
   have:y=x:=by cases x;cases y;obtain rfl:=e.1;obtain rfl:=m.1;rfl
   subst this
   refine⟨hy,fun q hq=>⟨by have:=ky q hq;exact Nat.lt_trans this.1 hi.1,?_⟩⟩
   have h1:=ky q hq
   have h2:=kx q hq
   rw[Jbe on 4 3 q (Nat.lt_trans h1.1 hi.1) (Nat.succ_le_succ (Nat.min_le_right _ _)) (by omega),Jbe on0 4 3 q (Nat.lt_trans h1.1 hi0) (Nat.succ_le_succ (Nat.min_le_right _ _)) (by omega)]
   exact m.2 q hq
  have R:=h.reach (fun i=>i<ns.length∧tmL (ndL ns) 4 i=tmL (ndL ns0) 4 i) ⟨ha,et⟩ fun i x hx hi q hq=>(step i hi x hx).2 q hq
  refine decide_eq_true (List.filter_eq_nil_iff.mpr fun i hi=>?_)
  refine x12 (Q9 hi) fun x hx hm=>?_
  have h0:=h.at_ (i,x) hm
  have:=(step i (R i hi) x h0).1
  rw[hx,show ns[i]?=some x from this];simp
structure RowW (r:Row):Prop where
 w:∃ns,NsOk ns∧Two ns∧Within ns r.a r.ea∧Within ns r.b r.eb
theorem RowW.iff (w:RowW r) (on:NsOk ns) (t:Two ns) :
  rowSt ns r=true↔(r.a<ns.length∧tmL (ndL ns) 4 r.a=tmL (nget r.ea) 4 r.a)∧r.b<ns.length∧tmL (ndL ns) 4 r.b=tmL (nget r.eb) 4 r.b:=by
 refine x14 w.w fun ns0 on0 t0 wa wb=>?_
 unfold rowSt
 rw[Bool.and_eq_true,Zy on on0 t t0 wa,Zy on on0 t t0 wb]
theorem RowW.dat (w:RowW r):(tmL (nget r.ea) 4 r.a).data=true∧(tmL (nget r.eb) 4 r.b).data=true:=by
 refine x14 w.w fun ns0 on0 t0 wa wb=>?_
 rw[wa.tm,wb.tm]
 have lt:∀{a e},Within ns0 a e→a<ns0.length:=fun {a e} h=>by
  refine x12 (List.mem_map.mp h.root) fun p hp e1=>?_
  rw[←e1];exact(List.getElem?_eq_some_iff.mp (h.at_ p hp)).1
 exact⟨Jg1 on0 (lt wa),Jg1 on0 (lt wb)⟩
noncomputable def pV (p:Nat×Nat):V:=.tup [N p.1,N p.2]
theorem pV_data:∀l:List (Nat×Nat),V.plains (l.map pV)=true∧V.depths (l.map pV)≤1:=by
 intro l_
 induction l_ with
 |nil=>
  exact⟨rfl,Nat.zero_le _⟩
 |cons p l ih_=>
  exact⟨(ih_).1,by show max 1 (V.depths (l.map pV))≤1;have:=(ih_).2;omega⟩
theorem Jk0 {l:List (Nat×Nat)}:V.datas (l.map pV)=true:=by
 have:=pV_data l
 exact Bool.and_eq_true_iff.mpr ⟨this.1,decide_eq_true (leK this.2)⟩
noncomputable def rc (F:Nat→Nat) (n:Nat):Nat:=(List.range n).countP fun a=>decide (F a=a)
theorem Jig:∀l:List Nat,(∀a∈l,q a=true→p a=true)→(∃a∈l,p a=true∧q a=false)→l.countP q<l.countP p:=by
 intro l_
 induction l_ with
 |nil=>
  intro _ v2_
  obtain ⟨_,h,_⟩:=v2_
  cases h
 |cons a l ih_=>
  intro h v2_
  obtain ⟨b,hb,hp,hq⟩:=v2_
  rw[List.countP_cons,List.countP_cons]
  have h1:l.countP q≤l.countP p:=List.countP_mono_left fun x hx=>h x (.tail _ hx)
  refine(List.mem_cons.mp hb).elim (fun e_=>?_) fun hb=>?_
  ·subst e_
   rw[if_pos hp,if_neg (by rw[hq];decide)];exact Nat.succ_le_succ h1
  ·have:=ih_ (fun x hx=>h x (.tail _ hx)) ⟨b,hb,hp,hq⟩
   by_cases c:q a=true
   ·rw[if_pos c,if_pos (h a (.head _) c)];exact Nat.succ_le_succ this
   ·rw[if_neg c];exact Nat.succ_le_of_lt (Nat.lt_of_lt_of_le this (Nat.le_add_right _ _))
theorem rc_j (lt:k<j) (hj:j<n) (rk:F k=k) (rj:F j=j):rc (jF F k j) n<rc F n:=by
 refine Jig _ (fun a _ h=>?_) ⟨j,List.mem_range.mpr hj,decide_eq_true rj,decide_eq_false ?_⟩
 ·have h:jF F k j a=a:=of_decide_eq_true h
  unfold jF at h
  by_cases c:F a=j
  ·rw[if_pos c] at h
   rw[←h] at c
   exact absurd c (neE lt (Eq.symm rk))
  ·rw[if_neg c] at h;exact decide_eq_true h
 ·unfold jF;rw[if_pos rj];exact Nat.ne_of_lt lt
theorem jF_same:jF F k k=F:=by
 funext a;unfold jF;split
 ·rename_i h;exact h.symm
 ·rfl
theorem Qg (h:a<n):((List.range n).map F)[a]?=some (F a):=by
 rw[List.getElem?_map,List.getElem?_range h];rfl
theorem range_j:((List.range n).map F).map (fun h=>N (if h=j then k else h))=natL ((List.range n).map (jF F k j)):=by
 unfold natL
 rw[List.map_map,List.map_map];rfl
structure HomO (n:Nat) (ns:List Node) (P:List (Nat×Nat)) (F:Nat→Nat):Prop where
 rep:Rep F
 below:Below ns P F
theorem HomO.lt (h:HomO n ns P F) (ha:a<n):F a<n:=by have:=(h.rep a).1;exact Nat.lt_of_le_of_lt this ha
theorem HomO.join (h:HomO n ns P F) (ha:a<n) (hb:b<n) (e:∀G,Closed ns G→Told P G→G a=G b) :
  HomO n ns P (jF F (min (F a) (F b)) (max (F a) (F b)))∧rc (jF F (min (F a) (F b)) (max (F a) (F b))) n≤rc F n∧(F a≠F b→rc (jF F (min (F a) (F b)) (max (F a) (F b))) n<rc F n)∧
   jF F (min (F a) (F b)) (max (F a) (F b)) a=jF F (min (F a) (F b)) (max (F a) (F b)) b:=by
 by_cases q:F a=F b
 ·rw[q,Nat.min_self,Nat.max_self,jF_same]
  exact⟨h,Nat.le_refl _,fun c=>absurd rfl c,q⟩
 ·have ra:=h.rep a
  have rb:=h.rep b
  have la:=h.lt ha
  have lb:=h.lt hb
  have ex:∃k j,min (F a) (F b)=k∧max (F a) (F b)=j∧k<j∧j<n∧F k=k∧F j=j∧(∀G,Closed ns G→Told P G→G k=G j)∧jF F k j a=jF F k j b:=by
   have e5:∀G,Closed ns G→Told P G→G (F a)=G (F b):=fun G hc ht=>by
    have hb:=h.below G hc ht
    rw[hb _ _ ra.2,hb _ _ rb.2];exact e G hc ht
   rcases Nat.lt_or_gt_of_ne q with c|c
   ·refine⟨F a,F b,Nat.min_eq_left (Nat.le_of_lt c),Nat.max_eq_right (Nat.le_of_lt c),c,lb,ra.2,rb.2,e5,?_⟩
    unfold jF;rw[if_neg (Nat.ne_of_lt c),if_pos rfl]
   ·refine⟨F b,F a,Nat.min_eq_right (Nat.le_of_lt c),Nat.max_eq_left (Nat.le_of_lt c),c,la,rb.2,ra.2,fun G hc ht=>(e5 G hc ht).symm,?_⟩
    unfold jF;rw[if_pos rfl,if_neg (Nat.ne_of_lt c)]
  refine x28 ex fun k j e1 e2 lt hj rk rj eG eq=>?_
  rw[e1,e2]
  have:=rc_j lt hj rk rj
  exact⟨⟨rep_j h.rep rk lt,Ja7 h.rep h.below rj eG⟩,by exact Nat.le_of_lt this,fun _=>this,eq⟩
noncomputable def KnN (ns:List Node) (F:Nat→Nat) (kn:List (Node×Nat)):Prop:=∀s m,(s,m)∈kn→∃x,ns[m]?=some x∧s.op=x.op∧s.kids.map F=x.kids.map F
noncomputable def WishOk (ns:List Node) (F:Nat→Nat) (p:Nat×Nat):Prop:=F p.1≠F p.2∧∃x y,ns[p.1]?=some x∧ns[p.2]?=some y∧x.op=y.op∧x.kids.map F=y.kids.map F
inductive Ihom (g:G) (ns:List Node) (P:List (Nat×Nat)) (x p:Nat) (m:Nat) (l:Loc) (st:St):Prop
 |mk (F:Nat→Nat) (wl:List (Nat×Nat)) (g':G) (zh zw:Nat) (es:st=g'.st) (fr:Fr [] g g') (hh:At g' (0,0) zh (.list (natL ((List.range ns.length).map F)))) (hw:At g' (1,0) zw (.list (wl.map pV))) (o:HomO ns.length ns P F)
  (wlt:∀p∈wl,p.1<ns.length∧p.2<ns.length) (wim:∀p∈wl,∀G,Closed ns G→Told P G→G p.1=G p.2) (tld:∀p∈P,p∈wl∨F p.1=F p.2) (cls:wl=[]→Closed ns F)
  (ms:rc F ns.length<m∨(rc F ns.length≤m∧∀p∈wl,F p.1≠F p.2)) (wl5:wl.length≤1000)
  (a1 a2 a3 a4 a5 a6 a7 a8 a9 b1 b2 b3 b4 b5:Option V) (el:l=[some (.ref x),some (.ref p),some (.ref zh),some (.ref zw),a1,a2,a3,a4,a5,a6,a7,a8,a9,b1,b2,b3,b4,b5])
inductive Ihom1 (g:G) (ns:List Node) (P:List (Nat×Nat)) (x p:Nat) (F:Nat→Nat) (wl:List (Nat×Nat)) (zw:Nat) (vs:List V) (l:Loc) (st:St):Prop
 |mk (dn rs:List (Nat×Nat)) (F':Nat→Nat) (g':G) (zh:Nat) (er:wl=dn++rs) (ev:vs=rs.map pV) (es:st=g'.st) (fr:Fr [] g g') (hh:At g' (0,0) zh (.list (natL ((List.range ns.length).map F')))) (o:HomO ns.length ns P F')
  (mono:∀a b,F a=F b→F' a=F' b) (done:∀p∈dn,F' p.1=F' p.2) (le:rc F' ns.length≤rc F ns.length) (lt:∀p ps,dn=p::ps→F p.1≠F p.2→rc F' ns.length<rc F ns.length) (z0:dn=[]→F'=F)
  (a1 a2 a3 a4 a5 a6 a7 a8 a9 b1 b2 b3 b4 b5:Option V) (el:l=[some (.ref x),some (.ref p),some (.ref zh),some (.ref zw),a1,a2,a3,a4,a5,a6,a7,a8,a9,b1,b2,b3,b4,b5])
inductive Ihom2 (g₀ g:G) (ns:List Node) (x p:Nat) (F:Nat→Nat) (zh zf zw:Nat) (vs:List V) (l:Loc) (st:St):Prop
 |mk (i:Nat) (kn:List (Node×Nat)) (wl:List (Nat×Nat)) (g':G) (e:Nat) (hi:i≤ns.length) (ev:vs=enumL (i:Int) ((ns.drop i).map Node.v)) (es:st=g'.st) (f₀:Fr [] g₀ g') (fr:Fr [1] g g') (hk:At g' (1,0) zf (.dict (knD kn) e)) (hw:At g' (1,0) zw (.list (wl.map pV)))
  (kl:kn.length≤i) (wll:wl.length≤i) (ks:KnN ns F kn) (ht:∀j,j<i→∀y,ns[j]?=some y→∃m,kget kn (sig F y)=some m∧(F m=F j∨(m,j)∈wl)) (ho:∀p∈wl,WishOk ns F p)
  (a1 a2 a3 a4 a6 a7 a8 a9 b1 b2 b3 b4 b5:Option V) (el:l=[some (.ref x),some (.ref p),some (.ref zh),some (.ref zw),a1,a2,a3,a4,some (.ref zf),a6,a7,a8,a9,b1,b2,b3,b4,b5])
theorem hom1 (hn:ns.length≤24)
  (hh:At g (0,0) zh (.list (natL ((List.range ns.length).map F)))) (hw:At g (1,0) zw (.list (wl.map pV))) (o:HomO ns.length ns P F) (wlt:∀p∈wl,p.1<ns.length∧p.2<ns.length) (wim:∀p∈wl,∀G,Closed ns G→Told P G→G p.1=G p.2)
  (k:∀l st,Ihom1 g ns P x p F wl zw [] l st→kn l st) :
  cForL (fnSc 21) (.list zw (wl.map pV)) (.many ["a","b"]) (code d 21 [2,0] 0) (wl.map pV) [some (.ref x),some (.ref p),some (.ref zh),some (.ref zw),a1,a2,a3,a4,a5,a6,a7,a8,a9,b1,b2,b3,b4,b5] g.st kn kr:=by
 have hlr:∀F:Nat→Nat,(natL ((List.range ns.length).map F)).length<cap:=fun F=>by rw[Ja,List.length_map,List.length_range];exact cap5 (leK hn)
 refine J7 (Ihom1 g ns P x p F wl zw) ?_ ?_ _ _ _ ⟨[],wl,F,g,zh,rfl,rfl,rfl,Fr.refl,hh,o,fun _ _ h=>h,fun _ h=>(by cases h),Nat.le_refl _,fun _ _ h=>(by injection h),fun _=>rfl,_,_,_,_,_,_,_,_,_,_,_,_,_,_,rfl⟩
 ·rintro v vs l _ ⟨dn,rs,F',g',zh',er,ev,rfl,fr,hh',o',mono,done,le,lt,z0,_,_,_,_,_,_,_,_,_,_,_,_,_,_,rfl⟩ kn' hk'
  cases rs with
  |nil=>injection ev
  |cons q rs=>
   have ev:=List.cons.inj ev
   have hq:=wlt q (by rw[er];simp)
   have J:=o'.join hq.1 hq.2 (wim q (by rw[er];simp))
   refine⟨(hw.fr fr).2,?_⟩
   rw[ev.1]
   show bindT _ _ (.tup [N q.1,N q.2]) _ _ _
   refine Jf1.mpr (Jf3.mpr ?_)
   refine⟨by decide,Jm hh' (J3 (Qg hq.1)) (hlr F') (Jm hh' (J3 (Qg hq.2)) (hlr F') (Jj (0,0) fun g2 z2 _ f2 h2=>?_))⟩
   refine Xf (is:=[(F' q.1:Int),(F' q.2:Int)]) h2 (by show 2<60;decide) ?_
   rw[sort2]
   refine Jj (0,0) fun g3 z3 _ f3 h3=>Yb h3 ?_
   show bindN _ _ [N (min (F' q.1) (F' q.2)),N (max (F' q.1) (F' q.2))] _ _
   refine Jcx.mpr (Jf2.mpr ?_)
   have f23:=f2.trans f3
   have hh3:=hh'.fr f23
   have fr3:=fr.trans f23
   refine Jy hh3 ⟨rfl,?_⟩
   revert J
   generalize min (F' q.1) (F' q.2)=lo
   generalize max (F' q.1) (F' q.2)=hi
   intro J
   refine Wp (W:=[]) (g:=g3) (fun _=>true) N (fun h=>N (if h=hi then lo else h)) ((List.range ns.length).map F') (by rw[List.length_map,List.length_range];exact cap5 (leK hn)) (fun g' fr=>(hh3.fr fr).2) (fun h _ g' fr R hR=>?_) fun g4 f4=>?_
   ·refine w21_b0.mpr (w21_i0.mpr ?_)
    refine bT ?_
    refine w21_e0.mpr ?_
    have hR:=hR g' fr
    refine eqN (bD (fun c=>?_) fun c=>?_)
    ·rw[if_pos c] at hR;exact hR
    ·rw[if_neg c] at hR;exact hR
   ·rw[List.filter_eq_self.mpr fun _ _=>rfl,range_j]
    refine Jj (0,0) fun g5 z5 _ f5 h5=>hk' _ _ ⟨dn++[q],rs,_,g5,z5,by rw[er];simp,ev.2,rfl,(fr3.trans f4).trans f5,h5,J.1,fun a b e=>Jb1 (mono a b e),fun r hr=>?_,Nat.le_trans J.2.1 le,fun r ps e ne=>?_,fun h=>(by cases dn<;>injection h),_,_,_,_,_,_,_,_,_,_,_,_,_,_,rfl⟩
    ·rcases List.mem_append.mp hr with hr|hr
     ·exact Jb1 (done r hr)
     ·rw[List.mem_singleton.mp hr];exact J.2.2.2
    ·cases dn with
     |nil=>
      have:q=r:=(List.cons.inj e).1
      subst this
      rw[←z0 rfl] at ne ⊢
      exact J.2.2.1 ne
     |cons r' dn=>
      have:r'=r:=(List.cons.inj e).1
      subst this
      exact Nat.lt_of_le_of_lt J.2.1 (lt r' dn rfl ne)
 ·rintro l _ ⟨dn,rs,F',g',zh',er,ev,rfl,fr,hh',o',mono,done,le,lt,z0,a1,a2,a3,a4,a5,a6,a7,a8,a9,b1,b2,b3,b4,b5,rfl⟩
  exact⟨(hw.fr fr).2,k _ _ ⟨dn,rs,F',g',zh',er,ev,rfl,fr,hh',o',mono,done,le,lt,z0,a1,a2,a3,a4,a5,a6,a7,a8,a9,b1,b2,b3,b4,b5,rfl⟩⟩
theorem KnN.snoc (h:KnN ns F kn) (hr:Rep F) (hx:ns[n]?=some x):KnN ns F (kn++[(sig F x,n)]):=fun s m hm=>by
 rcases List.mem_append.mp hm with hm|hm
 ·exact h s m hm
 ·cases List.mem_singleton.mp hm
  refine⟨x,hx,rfl,?_⟩
  show (x.kids.map F).map F=_
  rw[List.map_map]
  exact List.map_congr_left fun q _=>(hr q).2
theorem Jld:kget [(s,n)] s=some n:=by
 unfold kget
 rw[List.find?_cons,decide_eq_true rfl];rfl
theorem hom2 (on:NsOk ns)
  (hx:At g (0,0) x (.list (ns.map Node.v))) (hh:At g (0,0) zh (.list (natL ((List.range ns.length).map F)))) (hf:At g (1,0) zf (.dict [] 0)) (hw:At g (1,0) zw (.list [])) (o:HomO ns.length ns P F) (f₀:Fr [] g₀ g) (nf:g₀.st.size≤zf∧zf≠0) (nw:g₀.st.size≤zw∧zw≠0) (ne:zf≠zw)
  (k:∀l st,Ihom2 g₀ g ns x p F zh zf zw [] l st→kn l st) :
  cForL (fnSc 21) (.enum x (ns.map Node.v)) (.many ["n","node"]) (code d 21 [2,4] 0) (enumL 0 (ns.map Node.v)) [some (.ref x),some (.ref p),some (.ref zh),some (.ref zw),a1,a2,a3,a4,some (.ref zf),a6,a7,a8,a9,b1,b2,b3,b4,b5] g.st kn kr:=by
 have hn:=on.len
 have hlr:(natL ((List.range ns.length).map F)).length<cap:=by rw[Ja,List.length_map,List.length_range];exact cap5 (leK hn)
 refine J7 (Ihom2 g₀ g ns x p F zh zf zw) ?_ ?_ _ _ _ ⟨0,[],[],g,0,Nat.zero_le _,rfl,rfl,f₀,Fr.refl,hf,hw,Nat.le_refl _,Nat.le_refl _,fun _ _ h=>(by cases h),fun _ h=>(absurd h (Nat.not_lt_of_le (Nat.zero_le _))),fun _ h=>(by cases h),_,_,_,_,_,_,_,_,_,_,_,_,_,rfl⟩
 ·rintro v vs l _ ⟨i,kn,wl,g',e,hi,ev,rfl,f₀',fr,hk,hw',kl,wll,ks,ht,ho,_,_,_,_,_,_,_,_,_,_,_,_,_,rfl⟩ kn' hk'
  have hi':i<ns.length:=by
   apply Classical.byContradiction
   intro c
   rw[List.drop_eq_nil_of_le (Nat.le_of_not_lt c)] at ev
   injection ev
  rw[List.drop_eq_getElem_cons hi'] at ev
  have hy:ns[i]?=some ns[i]:=List.getElem?_eq_getElem hi'
  revert hy ev
  generalize ns[i]=y
  intro ev hy
  have ev:=List.cons.inj ev
  have ky:=on.kid i y hy
  have hy2:=on.two y (List.mem_of_getElem? hy)
  refine⟨(hx.fr fr).2,?_⟩
  rw[ev.1]
  show bindT _ _ (.tup [N i,y.v]) _ _ _
  refine Jf0.mpr (Jfz.mpr ?_)
  refine methSd hk ⟨by decide,Jq (i:=0) (v:=.str y.op) rfl (by rw[List.length_cons,Ja];exact Jb (ltK hy2)) (Wz (n:=1) ⟨by decide,by rw[List.length_cons];exact Nat.succ_pos _,by rw[List.length_cons,Ja];exact Jb (ltK hy2)⟩ (Qc ⟨rfl,?_⟩))⟩
  refine Wp (W:=[]) (fun _=>true) N (fun q=>N (F q)) y.kids (Jb (leK hy2)) (fun _ _=>trivial) (fun q hq g2 f2 R hR=>?_) fun g2 f2=>?_
  ·refine w21_b1.mpr (w21_i1.mpr ?_)
   refine bT ?_
   refine w21_e1.mpr ?_
   exact Jm ((hh.fr fr).fr f2) (J3 (Qg (by have:=ky q hq;exact Nat.lt_trans this.1 hi'))) hlr (hR g2 f2)
  rw[List.filter_eq_self.mpr fun _ _=>rfl]
  refine Jj (0,0) fun g3 z3 _ f3 h3=>Qz h3 (by rw[List.length_map];exact Jb (leK hy2)) (addT (by rw[List.length_map];exact Jb (by simp;exact l1K hy2)) ?_)
  rw[show ([V.str y.op]++y.kids.map fun q=>N (F q))=V.str (sig F y).op::natL (sig F y).kids from by unfold sig natL;rw[List.map_map];rfl]
  show methV .dict .setdefault _ [(sig F y).v,N i] _ _
  have f23:=f2.trans f3
  have f₀3:=f₀'.trans f23
  have fr3:Fr [1] g g3:=fr.trans f23
  have hk3:=hk.fr f23
  have hw3:=hw'.fr f23
  have hh3:=hh.fr fr3
  have hl':(knD kn).length<cap:=by rw[Wa];exact cap5 (Nat.le_trans kl (Nat.le_trans (Nat.le_of_lt hi') (leK hn)))
  have ev2:vs=enumL ((i+1:Nat):Int) ((ns.drop (i+1)).map Node.v):=ev.2
  cases hq:kget kn (sig F y) with
  |some m=>
   refine x13 (ks _ _ (Yw hq)) fun xm hxm eo ek=>?_
   have hml:=(List.getElem?_eq_some_iff.mp hxm).1
   refine X5 hk3 nf.2 hl' Qh (v:=N m) (by rw[Qy,hq];rfl) (Jm hh3 (J3 (Qg hml)) hlr (Jm hh3 (J3 (Qg hi')) hlr (neN (bDn (fun ne'=>?_) fun eq=>?_))))
   ·refine methA hw3 ⟨by decide,Jz hw3 nw.2 (by rw[List.length_map];exact cap5 (Nat.le_trans wll (Nat.le_trans (Nat.le_of_lt hi') (leK hn)))) fun g4 c4 hw4=>?_⟩
    rw[show wl.map pV++[V.tup [N m,N i]]=(wl++[(m,i)]).map pV from by rw[List.map_append];rfl] at hw4
    refine hk' _ _ ⟨i+1,kn,wl++[(m,i)],g4,e,hi',ev2,rfl,c4.own f₀3 nw.1,fr3.trans (c4.fr hw3),hk3.ch c4 ne,hw4,by exact Nat.le_succ_of_le kl,by rw[List.length_append,List.length_singleton];exact Nat.succ_le_succ wll,ks,fun j hj z hz=>?_,fun r hr=>?_,_,_,_,_,_,_,_,_,_,_,_,_,_,rfl⟩
    ·by_cases c:j<i
     ·exact(ht j c z hz).imp fun m' h=>⟨h.1,h.2.imp id fun h=>List.mem_append_left _ h⟩
     ·have:j=i:=Nat.le_antisymm (Nat.le_of_lt_succ hj) (Nat.le_of_not_lt c)
      subst this
      rw[hy] at hz;obtain rfl:=Option.some.inj hz
      exact⟨m,hq,.inr (by simp)⟩
    ·rcases List.mem_append.mp hr with hr|hr
     ·exact ho r hr
     ·obtain rfl:=List.mem_singleton.mp hr
      refine⟨ne',xm,y,hxm,hy,eo.symm,?_⟩
      rw[←ek]
      show (y.kids.map F).map F=_
      rw[List.map_map]
      exact List.map_congr_left fun q _=>(o.rep q).2
   ·refine hk' _ _ ⟨i+1,kn,wl,g3,e,hi',ev2,rfl,f₀3,fr3,hk3,hw3,by exact Nat.le_succ_of_le kl,by exact Nat.le_succ_of_le wll,ks,fun j hj z hz=>?_,ho,_,_,_,_,_,_,_,_,_,_,_,_,_,rfl⟩
    by_cases c:j<i
    ·exact ht j c z hz
    ·have:j=i:=Nat.le_antisymm (Nat.le_of_lt_succ hj) (Nat.le_of_not_lt c)
     subst this
     rw[hy] at hz;obtain rfl:=Option.some.inj hz
     exact⟨m,hq,.inl eq⟩
  |none=>
   refine Jan hk3 nf.2 hl' Qh (by rw[Qy,hq];rfl) fun g4 c4 hk4=>?_
   rw[←Yv] at hk4
   have hh4:=hh3.ch c4 (hh3.ne hk3 (by simp))
   refine Jm hh4 (J3 (Qg hi')) hlr (Jm hh4 (J3 (Qg hi')) hlr (neN (bDn (fun ne'=>absurd rfl ne') fun _=>?_)))
   refine hk' _ _ ⟨i+1,kn++[(sig F y,i)],wl,g4,_,hi',ev2,rfl,c4.own f₀3 nf.1,fr3.trans (c4.fr hk3),hk4,hw3.ch c4 (Ne.symm ne),by rw[List.length_append];exact Nat.succ_le_succ kl,by exact Nat.le_succ_of_le wll,ks.snoc o.rep hy,fun j hj z hz=>?_,ho,_,_,_,_,_,_,_,_,_,_,_,_,_,rfl⟩
   by_cases c:j<i
   ·refine x12 (ht j c z hz) fun m e1 e2=>?_
    exact⟨m,by rw[Qn,e1];rfl,e2⟩
   ·have:j=i:=Nat.le_antisymm (Nat.le_of_lt_succ hj) (Nat.le_of_not_lt c)
    subst this
    rw[hy] at hz;obtain rfl:=Option.some.inj hz
    exact⟨j,by rw[Qn,hq,Jld];rfl,.inl rfl⟩
 ·rintro l _ ⟨i,kn,wl,g',e,hi,ev,rfl,f₀',fr,hk,hw',kl,wll,ks,ht,ho,a1,a2,a3,a4,a6,a7,a8,a9,b1,b2,b3,b4,b5,rfl⟩
  exact⟨(hx.fr fr).2,k _ _ ⟨i,kn,wl,g',e,hi,ev,rfl,f₀',fr,hk,hw',kl,wll,ks,ht,ho,a1,a2,a3,a4,a6,a7,a8,a9,b1,b2,b3,b4,b5,rfl⟩⟩
theorem Jcg (on:NsOk ns):Closed ns id:=fun i j x y hx hy eo ek=>by
 rw[List.map_id,List.map_id] at ek
 have:x=y:=by cases x;cases y;subst eo;subst ek;rfl
 subst this
 exact(List.getElem?_inj (List.getElem?_eq_some_iff.mp hx).1 on.nodup).mp (hx.trans hy.symm)
theorem c21 (hx:At g (0,0) x (.list (ns.map Node.v))) (hp:At g (0,0) p (.list (P.map pV))) (on:NsOk ns) (hP:∀p∈P,p.1<ns.length∧p.2<ns.length) (hl:P.length≤1000)
  (k:∀g' z F,Fr [] g g'→At g' (0,0) z (.list (natL ((List.range ns.length).map F)))→IsCl ns P F→Q (.ref z) g'.st):callN T (d+1) (K 21) [.ref x,.ref p] g.st Q:=by
 have hn:=on.len
 have hml:(ns.map Node.v).length<cap:=by rw[List.length_map];exact Jb (leK hn)
 refine w21.mpr (w21_0.mpr ?_)
 refine⟨by decide,Je hx hml ?_⟩
 rw[List.length_map]
 refine rangeN (Jb (leK hn)) ?_
 show alloc (.list (Src.items (intL (rangeL 0 (ns.length:Int)))).all) _ _
 rw[Q8]
 refine Jj (0,0) fun g1 z1 hz1 f1 h1=>Jbz (hp.fr f1) (by rw[List.length_map];exact Jb hl) (Jj (1,0) fun g2 z2 hz2 f2 h2=>?_)
 have x0:0<g.st.size:=Nat.lt_of_le_of_lt (Nat.zero_le _) hx.lt
 refine J1 (Ihom g ns P x p) (ns.length+1) ⟨id,P,g2,z1,z2,rfl,f1.trans f2,by rw[List.map_id];exact h1.fr f2,h2,⟨fun a=>⟨Nat.le_refl _,rfl⟩,fun G _ _ a b e=>congrArg G e⟩,hP,fun q hq G _ ht=>ht q hq,fun q hq=>.inl hq,fun _=>Jcg on,.inl ?_,hl,_,_,_,_,_,_,_,_,_,_,_,_,_,_,rfl⟩ ?_
 ·have:=List.countP_le_length (p:=fun a=>decide (id a=a)) (l:=List.range ns.length)
  rw[List.length_range] at this
  exact Nat.lt_succ_of_le this
 rintro m l _ ⟨F,wl,g',zh,zw,rfl,fr,hh,hw,o,wlt,wim,tld,cls,ms,wl5,_,_,_,_,_,_,_,_,_,_,_,_,_,_,rfl⟩
 refine w21_1_t.mpr ?_
 refine⟨by decide,Jj (0,0) fun g3 z3 _ f3 h3=>Jas (hw.fr f3) h3 Jk0 rfl (bDn (fun ne=>?_) fun eq=>?_)⟩
 ·have fr3:=fr.trans f3
  refine w21_2_0.mpr ?_
  refine Jy (hw.fr f3) ⟨trivial,hom1 hn (hh.fr f3) (hw.fr f3) o wlt wim ?_⟩
  rintro l _ ⟨dn,rs,F',g4,zh',er,ev,rfl,f4,hh4,o4,mono,done,le,lt,z0,_,_,_,_,_,_,_,_,_,_,_,_,_,_,rfl⟩
  have:rs=[]:=by cases rs with
   |nil=>rfl
   |cons _ _=>injection ev
  subst this
  rw[List.append_nil] at er
  subst er
  show code _ 21 [2] 1 _ _ _ _
  refine w21_2_1.mpr ?_
  have fr4:=fr3.trans f4
  refine⟨by decide,⟨by decide,rfl⟩,Jbv (1,0) fun g5 zf hzf f5 hf5=>⟨by decide,Jj (1,0) fun g6 zn hzn f6 hn6=>?_⟩⟩
  have fr6:=(fr4.trans f5).trans f6
  have hx6:=hx.fr fr6
  have s5:=hf5.lt
  refine enum_at hx6 ⟨trivial,hom2 on hx6 ((hh4.fr f5).fr f6) (hf5.fr f6) hn6 o4 fr6 ⟨by have:=fr4.1;exact Nat.le_trans this (Nat.le_of_eq (Eq.symm hzf)),by have:=fr4.1;exact n0' hzf (Nat.ne_of_gt (Nat.lt_of_lt_of_le x0 this))⟩ ⟨by have:=fr4.1;omega,by exact n0 hzn s5⟩ (by omega) ?_⟩
  rintro l _ ⟨i,kn,w2,g7,e,hi,ev,rfl,f07,f7,hk,hw7,kl,wll,ks,ht,ho,_,_,_,_,_,_,_,_,_,_,_,_,_,rfl⟩
  show code _ 21 [2] 3 _ _ _ _
  refine w21_2_3.mpr ?_
  have hi2:i=ns.length:=by
   apply Classical.byContradiction
   intro c
   rw[List.drop_eq_getElem_cons (Nat.lt_of_le_of_ne hi c)] at ev
   injection ev
  subst hi2
  refine⟨rc F' ns.length,?_,F',w2,g7,zh',zn,rfl,f07,((hh4.fr f5).fr f6).fr f7,hw7,o4,fun q hq=>?_,fun q hq G hc hT=>?_,fun q hq=>.inr ?_,fun e=>?_,.inr ⟨Nat.le_refl _,fun q hq=>(ho q hq).1⟩,by exact Nat.le_trans wll (leK hn),_,_,_,_,_,_,_,_,_,_,_,_,_,_,rfl⟩
  ·rcases ms with ms|⟨ms,all⟩
   ·exact Nat.lt_of_le_of_lt le ms
   ·match wl,ne,all,lt with
    |[],ne,_,_=>exact absurd rfl ne
    |q::qs,_,all,lt=>
     have:=lt q qs rfl (all q (.head _))
     exact Nat.lt_of_lt_of_le this ms
  ·obtain ⟨_,a,b,ha,hb,_⟩:=ho q hq
   exact⟨(List.getElem?_eq_some_iff.mp ha).1,(List.getElem?_eq_some_iff.mp hb).1⟩
  ·obtain ⟨_,a,b,ha,hb,eo,ek⟩:=ho q hq
   exact hc _ _ a b ha hb eo (Wv (o4.below G hc hT) ek)
  ·rcases tld q hq with h|h
   ·exact done q h
   ·exact mono _ _ h
  ·subst e
   intro i j a b ha hb eo ek
   refine x12 (ht i (List.getElem?_eq_some_iff.mp ha).1 a ha) fun m1 e1 e2=>?_
   refine x12 (ht j (List.getElem?_eq_some_iff.mp hb).1 b hb) fun m2 e3 e4=>?_
   have:sig F' a=sig F' b:=by unfold sig;rw[eo,ek]
   rw[this,e3] at e1
   obtain rfl:=Option.some.inj e1
   rcases e2 with e2|h
   ·rcases e4 with e4|h
    ·rw[←e2,←e4]
    ·cases h
   ·cases h
 ·have:wl=[]:=List.map_eq_nil_iff.mp eq
  subst this
  show code _ 21 [] 2 _ _ _ _
  refine w21_2.mpr ?_
  exact k g3 zh F (fr.trans f3) (hh.fr f3) ⟨o.rep,cls rfl,fun q hq=>(tld q hq).resolve_left fun h=>(by cases h),o.below⟩
end Mine
namespace Mine
variable {aa:Adr}
structure WAd where
 w:Nat
 a:Nat
 s:Nat
noncomputable abbrev StE:=Nat×Nat×List Node×List (Nat×Nat)
noncomputable def stV (s:StE):V:=.tup [.ref s.1,.ref s.2.1]
noncomputable def asV (r:Row):V:=.tup [.tup [N r.a,tmL (nget r.ea) 4 r.a],.tup [N r.b,tmL (nget r.eb) 4 r.b]]
noncomputable def woD (aa:Adr) (wa:WAd) (hi:Bool):List (V×V):=[(.str "layers",.ref aa.l),(.str "is_high",.bool hi),(.str "assumed",.ref wa.a),(.str "states",.ref wa.s)]
structure WoB (aa:Adr) (wa:WAd) (g:G) (hi:Bool) (as:Nat→List Row) (ss:List StE):Prop where
 nz:wa.a≠0∧wa.s≠0
 w:∃n,At g (62,0) wa.w (.dict (woD aa wa hi) n)
 as_:∃(A:Nat→Nat) (e:Nat),At g (58,0) wa.a (.dict (d2 fun l=>.ref (A l)) e)∧∀l,l<2→A l≠0∧At g (105,l) (A l) (.list ((as l).map asV))
 st:At g (61,0) wa.s (.list (ss.map stV))
 ok:∀s∈ss,At g (0,0) s.1 (.list (s.2.2.1.map Node.v))∧At g (0,0) s.2.1 (.list (s.2.2.2.map pV))
theorem WoB.fr (b:WoB aa wa g hi as ss) (f:Fr W g g') (h:62∉W∧58∉W∧61∉W∧105∉W∧0∉W:=by decide):WoB aa wa g' hi as ss:=by
 obtain ⟨nz,w,⟨A,e,a1,a2⟩,st,ok⟩:=b
 exact⟨nz,w.imp fun _ x=>x.fr f h.1,⟨A,e,a1.fr f h.2.1,fun l hl=>⟨(a2 l hl).1,(a2 l hl).2.fr f h.2.2.2.1⟩⟩,st.fr f h.2.2.1,fun s hs=>⟨(ok s hs).1.fr f h.2.2.2.2,(ok s hs).2.fr f h.2.2.2.2⟩⟩
theorem wo_k:strK (woD aa wa hi):=fun e h=>by
 rcases List.mem_cons.mp h with rfl|h
 ·rfl
 rcases List.mem_cons.mp h with rfl|h
 ·rfl
 rcases List.mem_cons.mp h with rfl|h
 ·rfl
 rcases List.mem_cons.mp h with rfl|h
 ·rfl
 ·cases h
section
variable {wa:WAd} {g:G} {hi:Bool} {as:Nat→List Row} {ss:List StE} {Q:KV}
theorem Jfn (b:WoB aa wa g hi as ss) (k:Q (.ref aa.l) g.st):subV (.ref wa.w) (.str "layers") g.st Q:=by
 refine x11 b.w fun _ w=>?_
 exact Jn w (strKeys wo_k) (v:=.ref aa.l) (by kernel_rfl) k
theorem wo_high (b:WoB aa wa g hi as ss) (k:Q (.bool hi) g.st):subV (.ref wa.w) (.str "is_high") g.st Q:=by
 refine x11 b.w fun _ w=>?_
 exact Jn w (strKeys wo_k) (v:=.bool hi) (by kernel_rfl) k
theorem Jfo (b:WoB aa wa g hi as ss) (k:Q (.ref wa.a) g.st):subV (.ref wa.w) (.str "assumed") g.st Q:=by
 refine x11 b.w fun _ w=>?_
 exact Jn w (strKeys wo_k) (v:=.ref wa.a) (by kernel_rfl) k
theorem Jcs (b:WoB aa wa g hi as ss) (k:Q (.ref wa.s) g.st):subV (.ref wa.w) (.str "states") g.st Q:=by
 refine x11 b.w fun _ w=>?_
 exact Jn w (strKeys wo_k) (v:=.ref wa.s) (by kernel_rfl) k
end
theorem negI {i:Int} {st:St} {Q:KV} (k:Q (.int (-i)) st):unV .USub (.int i) st Q:=k
theorem Jee (h:0<n) (k:Q (n - 1)):idx n (-1) Q:=by
 refine⟨by decide,n - 1,?_,k⟩
 have e:(0:Int)≤-1+(n:Int)∧-1+(n:Int)<n:=by omega
 have e':(-1+(n:Int)).toNat=n - 1:=by omega
 simp [seqIndex?,e,e']
theorem W4 (h:At g q x (.list (xs++[v]))) (k:Q v g.st):subV (.ref x) (.int (-1)) g.st Q:=
 .inl ⟨_,h.2,Jee (by simp) ⟨v,by simp,k⟩⟩
theorem Jkr (h:At g q x (.list (xs++[v]))) (n:x≠0) (k:∀g',Ch x g g'→At g' q x (.list (xs++[w]))→Q g'.st):setItemV (.ref x) (.int (-1)) w g.st Q:=
 .inl ⟨x,_,-1,rfl,Qp h.2 n,rfl,Jee (by simp) (by
  have:=k _ Ch.set (At.set (o:=.list (xs++[w])) h)
  have e:(xs++[v]).set ((xs++[v]).length - 1) w=xs++[w]:=by
   rw[List.length_append,List.length_singleton,Nat.add_sub_cancel,List.set_append_right _ _ (Nat.le_refl _),Nat.sub_self];rfl
  rw[e];exact this)⟩
end Mine
namespace Mine
variable {aa:Adr}
noncomputable def PLa (P:List (Nat×Nat)) (hi:Bool) (as:Nat→List Row):Option Nat→List (Nat×Nat)
 |none=>P
 |some l=>(if l=1∧hi=true then P++(as 0).map Row.pair else P)++(as l).map Row.pair
noncomputable def heldT (d:Nat) (w z:V) (st:St) (Q:KV):Prop:=
 subV w (.str "states") st fun v1 s=>unV .USub (.int 1) s fun v2 s=>subV v1 v2 s fun v3 s=>subV v3 (.int 1) s fun v4 s=>srcV z s fun r=>r.own=false∧compL (scAt 23 0) r (.many ["one","other"]) (ifs d 23 0 22) (elt d 23 0 22) [none,none,none] r.all [] s fun l s=>
  alloc (.list l) s fun v s=>binV .Add v4 v s Q
theorem Xx {wa:WAd} {hi:Bool} {as:Nat→List Row} {ss:List StE} {q:Nat×Nat} {ns:List Node} {P:List (Nat×Nat)} {rs:List Row} (b:WoB aa wa g hi as (ss++[(x,p,ns,P)])) (hz:At g q z (.list (rs.map asV))) (hP:P.length≤1000) (hr:rs.length≤1000)
  (k:∀g' z,Fr [] g g'→At g' (0,0) z (.list ((P++rs.map Row.pair).map pV))→Q (.ref z) g'.st):heldT d (.ref wa.w) (.ref z) g.st Q:=by
 have st:=b.st
 rw[List.map_append,List.map_singleton] at st
 have hp:At g (0,0) p (.list (P.map pV)):=(b.ok (x,p,ns,P) (by simp)).2
 refine Jcs b (negI (W4 st (Jq (i:=1) (v:=.ref p) rfl (by show 2<cap;unfold cap;decide) (Jy hz ⟨rfl,?_⟩))))
 refine Wp (W:=[]) (fun _=>true) asV (fun r=>pV r.pair) rs (Jb hr) (fun g' fr=>(hz.fr fr (List.not_mem_nil)).2) (fun r hr g' fr R hR=>?_) fun g1 f1=>?_
 ·show bindT _ _ (.tup [.tup [N r.a,_],.tup [N r.b,_]]) _ _ _
  refine w23_b0.mpr (w23_i0.mpr ?_)
  refine bT ?_
  refine w23_e0.mpr ?_
  exact⟨by decide,Jq (i:=0) (v:=N r.a) rfl (by show 2<cap;unfold cap;decide) (Jq (i:=0) (v:=N r.b) rfl (by show 2<cap;unfold cap;decide) (hR g' fr))⟩
 ·rw[List.filter_eq_self.mpr fun _ _=>rfl]
  refine Jj (0,0) fun g2 z2 _ f2 h2=>addL (hp.fr (f1.trans f2)) h2 (by rw[List.length_map,List.length_map];exact cap5 (aK hP hr)) (Jj (0,0) fun g3 z3 _ f3 h3=>k g3 z3 ((f1.trans f2).trans f3) ?_)
  rw[List.map_append,List.map_map];exact h3
theorem c23 {wa:WAd} {hi:Bool} {as:Nat→List Row} {ss:List StE} {ns:List Node} {P:List (Nat×Nat)} {L:Option Nat} (b:WoB aa wa g hi as (ss++[(x,p,ns,P)])) (hL:LayOk L) (hP:P.length≤1000) (hr:∀l,l<2→(as l).length≤400)
  (k:∀g' z,Fr [] g g'→At g' (0,0) z (.list ((PLa P hi as L).map pV))→Q (.ref z) g'.st):callN T (d+1) (K 23) [.ref wa.w,layV L] g.st Q:=by
 refine w23.mpr (w23_0.mpr ?_)
 cases L with
 |none=>
  refine eqI (bD (fun _=>?_) fun h=>absurd rfl h)
  refine⟨by decide,Jj (0,0) fun g1 z _ f1 h1=>eqI (bD (fun h=>absurd h (by decide)) fun _=>?_)⟩
  refine Xx (rs:=[]) (b.fr f1) h1 hP (by simp) fun g2 z2 f2 h2=>k g2 z2 (f1.trans f2) ?_
  rw[List.map_nil,List.append_nil] at h2
  exact h2
 |some l=>
  have hl:l<2:=hL
  refine x22 b.as_ fun A e a1 a2=>?_
  refine eqI (bD (fun h=>absurd h (by omega)) fun _=>Jfo b (Jn a1 Xb (Wr hl) (eqN (a:=l) (b:=1) (bD (fun e1=>?_) fun e1=>?_))))
  ·subst e1
   refine wo_high b (blP ?_)
   cases hi with
   |true=>
    refine bT (Jfo b (Jn a1 Xb (Wr (l:=0) (by decide)) (addL (a2 0 (by decide)).2 (a2 1 (by decide)).2 ?_ (Jj (0,0) fun g1 z _ f1 h1=>?_))))
    ·have h0:=hr 0 (by decide)
     have h1:=hr 1 (by decide)
     rw[List.length_map,List.length_map];exact cap5 (aK h0 h1)
    ·have h0:=hr 0 (by decide)
     have h1':=hr 1 (by decide)
     refine Xx (rs:=as 0++as 1) (b.fr f1) (by rw[List.map_append];exact h1) hP (by rw[List.length_append];exact aK h0 h1') fun g2 z2 f2 h2=>k g2 z2 (f1.trans f2) ?_
     show At _ _ _ (.list (((if 1=1∧true=true then P++(as 0).map Row.pair else P)++(as 1).map Row.pair).map pV))
     rw[if_pos ⟨rfl,rfl⟩,List.append_assoc,←List.map_append]
     exact h2
   |false=>
    refine bF (Xx b (a2 1 (by decide)).2 hP (by have:=hr 1 (by decide);exact leK this) fun g2 z2 f2 h2=>k g2 z2 f2 ?_)
    show At _ _ _ (.list (((if 1=1∧false=true then P++(as 0).map Row.pair else P)++(as 1).map Row.pair).map pV))
    rw[if_neg (by simp)]
    exact h2
  ·refine Xx b (a2 l hl).2 hP (by have:=hr l hl;exact leK this) fun g2 z2 f2 h2=>k g2 z2 f2 ?_
   show At _ _ _ (.list (((if l=1∧hi=true then P++(as 0).map Row.pair else P)++(as l).map Row.pair).map pV))
   rw[if_neg fun h=>e1 h.1]
   exact h2
end Mine
namespace Mine
variable {aa:Adr}
theorem ne_tup {vs:List V} {b:V} {st:St} {Q:Bool→Prop} (ha:(V.tup vs).data=true) (hb:b.data=true) (k:Q (!decide (V.tup vs=b))):cmpV .NotEq (.tup vs) b st Q:=⟨⟨ha,hb⟩,k⟩
theorem tm_tup (h:n<ns.length):∃vs,tmL (ndL ns) 4 n=.tup vs:=⟨_,Wf (List.getElem?_eq_getElem h)⟩
noncomputable def badT (ns:List Node) (q:Nat×V):Bool:=!decide (q.1<ns.length∧tmL (ndL ns) 4 q.1=q.2)
noncomputable def rowQ (r:Row):List (Nat×V):=[(r.a,tmL (nget r.ea) 4 r.a),(r.b,tmL (nget r.eb) 4 r.b)]
theorem Jkv (w:RowW r) (on:NsOk ns) (t:Two ns):((rowQ r).filter (badT ns)).map (fun q=>q.1)=[]↔rowSt ns r=true:=by
 rw[w.iff on t,List.map_eq_nil_iff,List.filter_eq_nil_iff]
 unfold rowQ badT
 constructor
 ·intro h
  have h1:=h _ (.head _)
  have h2:=h _ (.tail _ (.head _))
  simp only [Bool.not_eq_true',decide_eq_false_iff_not,Bool.not_eq_false,decide_eq_true_eq] at h1 h2
  exact⟨Classical.not_not.mp h1,Classical.not_not.mp h2⟩
 ·rintro ⟨h1,h2⟩ q hq
  rcases List.mem_cons.mp hq with rfl|hq
  ·rw[decide_eq_true h1];decide
  ·rcases List.mem_cons.mp hq with rfl|hq
   ·rw[decide_eq_true h2];decide
   ·cases hq
theorem Jfb {g:G} {d x:Nat} {ns:List Node} {r:Row} {Q:Bool→St→Prop} (hx:At g (0,0) x (.list (ns.map Node.v))) (on:NsOk ns) (t:Two ns) (w:RowW r) (k:∀g',Fr [] g g'→Q (rowSt ns r) g'.st) :
  srcV (asV r) g.st fun s=>s.own=false∧compL (scAt 26 0) s (.many ["n","term"]) (ifs (d+4) 26 0 22) (elt (d+4) 26 0 22) [none,none,none,none,none,some (.ref x)] s.all [] g.st fun l s=>alloc (.list l) s fun v4 s=>0≤60∧alloc (.list []) s fun v6 s=>cmpV .Eq v4 v6 s fun b=>Q b s:=by
 have hl:=on.len
 have hml:(ns.map Node.v).length<cap:=by rw[List.length_map];exact Jb (leK hl)
 refine Qc ⟨rfl,?_⟩
 refine Wp (W:=[]) (badT ns) (fun q=>.tup [N q.1,q.2]) (fun q=>N q.1) (rowQ r) (by show 2<cap;unfold cap;decide) (fun _ _=>trivial) (fun q hq g' fr R hR=>?_) fun g1 f1=>?_
 ·have hd:q.2.data=true:=by
   rcases List.mem_cons.mp hq with rfl|hq
   ·exact w.dat.1
   ·rcases List.mem_cons.mp hq with rfl|hq
    ·exact w.dat.2
    ·cases hq
  have hx':=hx.fr fr
  refine w26_b0.mpr (w26_i0.mpr ?_)
  refine Je hx' hml (geN ?_)
  rw[List.length_map]
  unfold badT at hR
  refine bD (fun h=>?_) fun h=>?_
  ·refine bT ?_
   refine Jly.mpr ?_
   have:=hR g' fr
   rw[decide_eq_false (by omega)] at this
   exact this
  ·have hn:q.1<ns.length:=Nat.lt_of_not_le h
   refine c20 on 4 q.1 hx' hn (Nat.succ_le_succ (Nat.min_le_right _ _)) fun g2 f2=>?_
   have hR:=hR g2 (fr.trans f2)
   refine x11 (tm_tup hn) fun vs e=>?_
   have hdd:=Jg1 on hn
   rw[e] at hR hdd ⊢
   refine ne_tup hdd hd (bDn (fun ne=>?_) fun eq=>?_)
   ·refine bT ?_
    refine Jly.mpr ?_
    rw[decide_eq_false (fun h=>ne h.2)] at hR
    exact hR
   ·rw[decide_eq_true ⟨hn,eq⟩] at hR
    exact bF hR
 ·refine Jj (0,0) fun g2 z2 _ f2 h2=>⟨by decide,Jj (0,0) fun g3 z3 _ f3 h3=>?_⟩
  rw[show ((rowQ r).filter (badT ns)).map (fun q=>N q.1)=natL (((rowQ r).filter (badT ns)).map fun q=>q.1) from by unfold natL;rw[List.map_map];rfl] at h2
  refine Xy (h2.fr f3) h3 W1 rfl ?_
  have:=k g3 ((f1.trans f2).trans f3)
  rw[show decide (natL (((rowQ r).filter (badT ns)).map fun q=>q.1)=[])=rowSt ns r from ?_]
  ·exact this
  ·have i:=Jkv w on t
   cases q:rowSt ns r with
   |true=>rw[i.mpr q];rfl
   |false=>
    refine decide_eq_false fun h=>?_
    have:rowSt ns r=true:=i.mp (List.map_eq_nil_iff.mp h)
    rw[q] at this;exact Bool.noConfusion this
inductive I26 (wa:WAd) (g:G) (l:Nat) (al:List Row) (ns:List Node) (x z:Nat) (vs:List V) (loc:Loc) (st:St):Prop
 |mk (dn rs:List Row) (g':G) (er:al=dn++rs) (ev:vs=rs.map asV) (es:st=g'.st) (fr:Fr [] g g') (hk:At g' (105,l) z (.list ((dn.filter (rowSt ns)).map asV))) (x5:Option V) (el:loc=[some (.ref wa.w),some (.ref x),some (N l),some (.ref z),x5])
theorem WoB.forget (b:WoB aa wa g hi as ss) (hl:l<2) (z0:z≠0) (hz:At g (105,l) z (.list (rs.map asV)))
  (k:∀g',Fr [58] g g'→WoB aa wa g' hi (upd as l rs) ss→Q g'.st):setItemV (.ref wa.a) (N l) (.ref z) g.st Q:=by
 obtain ⟨nz,w,⟨A,e,a1,a2⟩,st,ok⟩:=b
 refine J2 a1 nz.1 Xb (by show 2<cap;unfold cap;decide) fun g' cc h=>?_
 rw[Jeh hl,Jif] at h
 have f:Fr [58] g g':=cc.fr a1
 refine k g' f ⟨nz,w.imp fun _ x=>x.fr f,⟨_,_,h,fun i hi=>?_⟩,st.fr f,fun s hs=>⟨(ok s hs).1.fr f,(ok s hs).2.fr f⟩⟩
 by_cases q:i=l
 ·subst q
  rw[Jd,Jd]
  exact⟨z0,hz.fr f⟩
 ·rw[Jk q,Jk q]
  exact⟨(a2 i hi).1,(a2 i hi).2.fr f⟩
theorem Yi {as:Nat→List Row} {kn:Loc→St→Prop} (b:WoB aa wa g hi as ss) (hl:l<2) (hx:At g (0,0) x (.list (ns.map Node.v))) (on:NsOk ns) (t:Two ns)
  (w:∀r∈as l,RowW r) (hr:(as l).length≤400)
  (k:∀g' x4 x5,Fr [58] g g'→WoB aa wa g' hi (upd as l ((as l).filter (rowSt ns))) ss→kn [some (.ref wa.w),some (.ref x),some (N l),x4,x5] g'.st) :
  code (d+4) 26 [2] 0 [some (.ref wa.w),some (.ref x),some (N l),x4,x5] g.st kn kr:=by
 refine w26_2_0.mpr ?_
 refine⟨by decide,Jj (105,l) fun g1 z hz f1 h1=>?_⟩
 have b1:=b.fr f1
 refine x22 b.as_ fun A e a1 a2=>?_
 have hA:=(a2 l hl).2
 have x0:=hx.lt
 refine Jfo b1 (Jn (a1.fr f1) Xb (Wr hl) (Jy (hA.fr f1) ⟨trivial,?_⟩))
 refine J7 (I26 wa g l (as l) ns x z) ?_ ?_ _ _ _ ⟨[],as l,g1,rfl,rfl,rfl,f1,h1,_,rfl⟩
 ·rintro v vs loc _ ⟨dn,rs,g',er,ev,rfl,fr,hk,x5,rfl⟩ kn' hk'
  cases rs with
  |nil=>injection ev
  |cons r rs=>
   have ev:=List.cons.inj ev
   refine⟨(hA.fr fr).2,?_⟩
   rw[ev.1,Jfw,Jfv]
   refine Jfb (Q:=fun b st=>bothP b _ _) (hx.fr fr) on t (w r (by rw[er];simp)) fun g2 f2=>?_
   have fr2:=fr.trans f2
   have hk2:=hk.fr f2
   have hl2:(dn.filter (rowSt ns)).length≤400:=by
    have:=List.length_filter_le (rowSt ns) dn
    have:(as l).length=dn.length+(r::rs).length:=by rw[er,List.length_append]
    omega
   refine bothT (fun e1=>?_) fun e1=>?_
   ·refine X4 hk2 (n0 hz x0) (by rw[List.length_map];exact cap5 (leK hl2)) fun g3 c3 hk3=>?_
    refine hk' _ _ ⟨dn++[r],rs,g3,by rw[er];simp,ev.2,rfl,c3.own fr2 (Nat.le_of_eq (Eq.symm hz)),?_,_,rfl⟩
    rw[List.filter_append,List.map_append,List.filter_cons_of_pos e1];exact hk3
   ·refine hk' _ _ ⟨dn++[r],rs,g2,by rw[er];simp,ev.2,rfl,fr2,?_,_,rfl⟩
    rw[List.filter_append,List.filter_cons_of_neg (by rw[e1];decide),List.filter_nil,List.append_nil];exact hk2
 ·rintro _ _ ⟨dn,rs,g',er,ev,rfl,fr,hk,x5,rfl⟩
  have:rs=[]:=by cases rs with
   |nil=>rfl
   |cons _ _=>injection ev
  subst this
  rw[List.append_nil] at er
  refine⟨(hA.fr fr).2,?_⟩
  show code _ 26 [2] 2 _ _ _ _
  refine w26_2_2.mpr ?_
  have b':=b.fr fr
  exact Jfo b' (b'.forget hl (n0 hz x0) hk fun g2 f2 b2=>k g2 _ _ ((fr.mono).trans f2) (by rw[er];exact b2))
theorem c26 {as:Nat→List Row} (b:WoB aa wa g hi as (ss++[(x,p,ns,P)])) (on:NsOk ns) (t:Two ns)
  (w:∀l,l<2→∀r∈as l,RowW r) (hr:∀l,l<2→(as l).length≤400)
  (k:∀g' as',Fr [58] g g'→WoB aa wa g' hi as' (ss++[(x,p,ns,P)])→(∀l,l<2→as' l=(as l).filter (rowSt ns))→Q .none g'.st):callN T (d+5) (K 26) [.ref wa.w] g.st Q:=by
 have st:=b.st
 rw[List.map_append,List.map_singleton] at st
 have hx:At g (0,0) x (.list (ns.map Node.v)):=(b.ok (x,p,ns,P) (by simp)).1
 refine w26.mpr (w26_0.mpr ?_)
 refine Jcs b (negI (W4 st (Jq (i:=0) (v:=.ref x) rfl (by show 2<cap;unfold cap;decide) ⟨by decide,Qc ⟨trivial,trivial,?_⟩⟩)))
 refine Jfx.mpr ?_
 refine Yi (l:=0) b (by decide) hx on t (w 0 (by decide)) (hr 0 (by decide)) fun g1 x4 x5 f1 b1=>⟨trivial,?_⟩
 refine Jfx.mpr ?_
 have e1:∀rs,upd as 0 rs 1=as 1:=fun rs=>Jk (by decide)
 refine Yi (l:=1) b1 (by decide) (hx.fr f1) on t (by rw[e1];exact w 1 (by decide)) (by rw[e1];exact hr 1 (by decide)) fun g2 x4 x5 f2 b2=>⟨trivial,?_⟩
 show code _ 26 [] 2 _ _ _ _
 refine w26_2.mpr ?_
 refine k g2 _ (f1.trans f2) b2 fun l hl=>?_
 rcases lt2 hl with rfl|rfl
 ·rw[Jk (by decide),Jd]
 ·rw[Jd,e1]
end Mine
namespace Mine
variable {aa:Adr}
theorem minN {a b:Nat} {st:St} {Q:KV} (k:Q (N (min a b)) st):fnV .min [N a,N b] st Q:=by
 refine⟨a,b,rfl,?_⟩
 have:(if (b:Int)<a then (b:Int) else a)=((min a b:Nat):Int):=by split<;>omega
 rw[this];exact k
theorem Je3:∀{l:List Node},(∀x∈l,OpOk x.op)→V.plains (l.map Node.v)=true∧V.depths (l.map Node.v)≤1:=by
 intro l_
 induction l_ with
 |nil=>
  intro _
  exact⟨rfl,Nat.zero_le _⟩
 |cons x l ih_=>
  intro h
  have ih:=ih_ fun y hy=>h y (.tail _ hy)
  refine⟨Bool.and_eq_true_iff.mpr ⟨Z5 (h x (.head _)),ih.1⟩,?_⟩
  show max x.v.depth (V.depths (l.map Node.v))≤1
  rw[Z6];omega
theorem Jed {q:Nat×Nat} {x:Node} {l:List Node} {Q:Bool→Prop} (h:At g q z (.list (l.map Node.v))) (ho:∀x∈l,OpOk x.op) (hx:OpOk x.op) (k:Q (decide (x∈l))):cmpV .In x.v (.ref z) g.st Q:=by
 have hd:=Je3 ho
 refine .inl ⟨_,h.2,⟨Y7 hx,Bool.and_eq_true_iff.mpr ⟨hd.1,decide_eq_true (leK hd.2)⟩⟩,?_⟩
 rw[show decide (x.v∈l.map Node.v)=decide (x∈l) from decide_eq_decide.mpr ⟨fun h=>by obtain ⟨y,hy,e⟩:=List.mem_map.mp h;exact Node.v_inj e▸hy,List.mem_map_of_mem⟩];exact k
noncomputable def arD:List (V×V):=[(.str "f",.int 1),(.str "g",.int 2)]
structure OpR (r:Nat) (op:Str) (ar:Nat):Prop where
 ok:OpOk op
 ar2:ar≤2
 ch:∃ch,("cdfg":Str).cps[r]?=some ch∧(⟨#[ch]⟩:Str)=op
 get:(dget arD (.str op)).getD (.int 0)=N ar
theorem opR:∀r,r<4→∃op ar,OpR r op ar
 |0,_=>⟨"c",0,by simp [OpOk],by decide,⟨99,by kernel_rfl,by kernel_rfl⟩,by kernel_rfl⟩
 |1,_=>⟨"d",0,by simp [OpOk],by decide,⟨100,by kernel_rfl,by kernel_rfl⟩,by kernel_rfl⟩
 |2,_=>⟨"f",1,by simp [OpOk],by decide,⟨102,by kernel_rfl,by kernel_rfl⟩,by kernel_rfl⟩
 |3,_=>⟨"g",2,by simp [OpOk],by decide,⟨103,by kernel_rfl,by kernel_rfl⟩,by kernel_rfl⟩
 |n+4,h=>by exact absurd h (Nat.not_lt_of_le (Nat.le_add_left _ _))
theorem sub_chr {r:Nat} {op:Str} {ar:Nat} {st:St} {Q:KV} (h:OpR r op ar) (hr:r<4) (k:Q (.str op) st):subV (.str "cdfg") (N r) st Q:=by
 refine x12 h.ch fun ch h1 h2=>?_
 refine Zd (n:=("cdfg":Str).length) (by rw[show ("cdfg":Str).length=4 by kernel_rfl];exact hr) (by rw[show ("cdfg":Str).length=4 by kernel_rfl];decide) ⟨ch,h1,?_⟩
 rw[h2];exact k
theorem arD_k:strK arD:=fun e h=>by
 rcases List.mem_cons.mp h with rfl|h
 ·rfl
 rcases List.mem_cons.mp h with rfl|h
 ·rfl
 ·cases h
theorem get_ar (h:OpR r op ar) (hz:At g q z (.dict arD n)) (z0:z≠0) (k:Q (N ar) g.st):methQ d (.ref z) "get" g.st (fun k=>k [.str op,.int 0] g.st) Q:=
 methG hz (Jfd hz z0 (by show 2<cap;unfold cap;decide) (strKeys arD_k) (by rw[h.get];exact k))
theorem new_ar {st:St} {Q:KV} (k:alloc (.dict arD 2) st Q):dmake [] 0 [(.str "f",.int 1),(.str "g",.int 2)] fun o=>alloc o st Q:=by
 refine⟨⟨.str,rfl,fun _ h=>(by cases h)⟩,⟨.str,rfl,fun e h=>by obtain rfl:=List.mem_singleton.mp h;rfl⟩,?_⟩
 show alloc (.dict (dput (dput [] (.str "f") (.int 1)) (.str "g") (.int 2)) (dep (dput [] (.str "f") (.int 1)) (.str "g") (dep [] (.str "f") 0))) st Q
 rw[show dput (dput [] (.str "f") (.int 1)) (.str "g") (.int 2)=arD by kernel_rfl,show dep (dput [] (.str "f") (.int 1)) (.str "g") (dep [] (.str "f") 0)=2 by kernel_rfl]
 exact k
theorem Jia {g:G} {d at_ x ar:Nat} {ns:List Node} {Kk:List V→St→Prop} (db:DieB g at_) (ha:at_≤9500) (hx:At g (0,0) x (.list (ns.map Node.v))) (hl:ns.length≤24) (h2:2≤ns.length) (h3:ar≤2)
  (k:∀g' ks,Fr [3] g g'→DieB g' (at_+ar)→ks.length=ar→(∀q∈ks,q<ns.length∧q<3)→Kk (natL ks) g'.st) :
  compL (scAt 22 0) (.items (intL (rangeL 0 (ar:Int)))) (.one "k") (ifs (d+1) 22 0 21) (elt (d+1) 22 0 21) [none,none,none,none,none,some (.ref 3),some (.ref x)] (Src.items (intL (rangeL 0 (ar:Int)))).all [] g.st Kk:=by
 rw[Q8]
 refine X3 (fun r acc st=>∃g' ks,r.length+ks.length=ar∧acc=natL ks∧(∀q∈ks,q<ns.length∧q<3)∧Fr [3] g g'∧DieB g' (at_+ks.length)∧st=g'.st) ?_ ?_ _ [] g.st ⟨g,[],by rw[Ja,List.length_range];rfl,rfl,fun _ h=>(by cases h),Fr.refl,db,rfl⟩
 ·rintro v vs acc _ ⟨g',ks,e,rfl,hk,fr,db',rfl⟩ k' hk'
  have hx':=hx.fr fr
  rw[List.length_cons] at e
  refine⟨trivial,?_⟩
  refine w22_b0.mpr (w22_i0.mpr ?_)
  refine bT ?_
  refine w22_e0.mpr ?_
  refine Je hx' (by rw[List.length_map];exact cap5 (leK hl)) ?_
  rw[List.length_map]
  refine minN (b:=3) (c19 db' (by omega) (by omega) fun g2 r hr f2 db2=>⟨by rw[Ja];exact cap5 (by omega),?_⟩)
  refine hk' _ _ ⟨g2,ks++[r],by rw[List.length_append,List.length_singleton];exact Eq.symm (Eq.trans (Eq.symm e) (Nat.add_right_comm _ _ _)),(Jf (a:=ks) (b:=[r])).symm,fun q hq=>?_,fr.trans f2,by rw[List.length_append,List.length_singleton,←Nat.add_assoc];exact db2,rfl⟩
  rcases List.mem_append.mp hq with hq|hq
  ·exact hk q hq
  ·rw[List.mem_singleton.mp hq];omega
 ·rintro acc _ ⟨g',ks,e,rfl,hk,fr,db',rfl⟩
  have e:ks.length=ar:=by rw[←e];exact(Nat.zero_add _).symm
  rw[e] at db'
  exact⟨trivial,k g' ks fr db' e hk⟩
theorem Jaf (t:Two ns):2≤ns.length:=(List.getElem?_eq_some_iff.mp t.b).1
theorem NsOk.snoc (o:NsOk ns) (hx:x∉ns) (ho:OpOk x.op) (hk:∀q∈x.kids,q<ns.length∧q<3) (h2:x.kids.length≤2) (hl:ns.length<24):NsOk (ns++[x]):=by
 refine⟨List.nodup_append.mpr ⟨o.nodup,by simp,fun a ha b hb e=>hx (by rw[←List.mem_singleton.mp hb,←e];exact ha)⟩,fun i y hy=>?_,fun y hy=>?_,fun y hy=>?_,by rw[List.length_append,List.length_singleton];exact hl⟩
 ·rcases Jaz hy with hy|⟨rfl,rfl⟩
  ·exact o.kid i y hy
  ·exact hk
 ·rcases List.mem_append.mp hy with hy|hy
  ·exact o.two y hy
  ·rw[List.mem_singleton.mp hy];exact h2
 ·rcases List.mem_append.mp hy with hy|hy
  ·exact o.op y hy
  ·rw[List.mem_singleton.mp hy];exact ho
theorem c22 {g:G} {d at_ x:Nat} {c:Core} {y:Dyn} {P:List (Nat×Nat)} {sv:List (Core×List (Nat×Nat))} {Q:KV} (db:DieB g at_) (ha:at_≤9000) (b:LvB g c y) (h:HI c y.w y.chs P) (s:Stk y.mks y.chs c sv) (hmd:y.md=c.ns.length)
  (hx:At g (0,0) x (.list (c.ns.map Node.v))) (h2:2≤c.ns.length) (h24:c.ns.length<24) (b1:c.edges≤90000) (b2:c.known.length≤90000) (b3:y.chs.length≤90000) (b4:y.w.length≤9000) (b5:y.mks.length≤100)
  (k:∀g' c' y' z at',Fr (3::WH) g g'→DieB g' at'→at'≤at_+3→LvB g' c' y'→HI c' y'.w y'.chs P→Stk y'.mks y'.chs c' sv→y'.bk=y.bk→y'.mks=y.mks→y'.md=c'.ns.length→(∃l,l.length≤1∧c'.ns=c.ns++l)→
   c'.edges≤c.edges+1→c'.known.length≤c.known.length+1→y'.chs.length≤y.chs.length+2→Pot c' y'≤Pot c y→At g' (0,0) z (.list (c'.ns.map Node.v))→Q (.ref z) g'.st) :
  callN T (d+8) (K 22) [.ref 3,.ref 4,.ref x] g.st Q:=by
 refine x11 b.top fun wA t=>?_
 refine w22.mpr (w22_0.mpr ?_)
 refine c19 (m:=4) (d:=d+6) db (leK ha) (by decide) fun g1 r hr f1 db1=>?_
 refine x21 (opR r hr) fun op ar R=>?_
 have ok:=R.ok
 have ar2:=R.ar2
 refine sub_chr R hr ⟨by decide,⟨by decide,rfl⟩,new_ar (Jj (0,0) fun g2 z2 hz2 f2 h2'=>?_)⟩
 have s0:=t.o.lt
 have s1:=f1.1
 refine get_ar R h2' (by omega) (rangeN (cap5 (leK ar2)) ⟨rfl,?_⟩)
 have f02:Fr [3] g g2:=f1.trans f2
 refine Jia (d:=d+6) (db1.fr f2) (ltK ha) (hx.fr f02) (Nat.le_of_lt h24) h2 ar2 fun g3 ks f3 db3 hkl hks=>?_
 refine Jj (0,0) fun g4 z4 _ f4 h4=>Qz h4 (by rw[Ja];exact cap5 (Nat.le_trans (Nat.le_of_eq hkl) (leK ar2))) (addT (by rw[Ja];exact cap5 (by simp;omega)) ?_)
 have f04:Fr [3] g g4:=(f02.trans f3).trans f4
 have ln:(natL ks).length=ks.length:=Ja
 refine Jg (t.fr f04).o (p:=K 1503) (by kernel_rfl) (by kernel_rfl) (Wz (n:=1) ⟨by decide,by simp,by rw[List.length_append,Ja];exact cap5 (by simp;omega)⟩ ?_)
 have b4':=b.fr f04
 have hx4:=hx.fr f04
 have db4:=db3.fr f4
 show callN T _ _ [_,.str (Node.mk op ks).op,.tup (natL (Node.mk op ks).kids)] _ fun v s=>cmpV .In (Node.mk op ks).v _ s _
 revert hkl hks
 generalize en:Node.mk op ks=nd
 intro hkl hks
 have eop:nd.op=op:=by rw[←en]
 have eks:nd.kids=ks:=by rw[←en]
 have okn:OpOk nd.op:=by rw[eop];exact ok
 by_cases m:nd∈c.ns
 ·refine x11 (List.mem_iff_getElem?.mp m) fun n hn=>?_
  refine Jin (d:=d+5) b4' h.ns h.u hn (Jed hx4 h.ns.op okn ?_)
  rw[decide_eq_true m]
  exact bT (k g4 c y x _ f04.mono db4 (by omega) b4' h s rfl rfl hmd ⟨[],by simp,by simp⟩ (Nat.le_succ _) (Nat.le_succ _) (Nat.le_add_right _ _) (Nat.le_refl _) hx4)
 ·have onn:=h.ns.snoc m okn (by rw[eks];exact hks) (by rw[eks,hkl];exact ar2) h24
  refine Jck b4' h s hmd onn m b1 b2 b3 b4 b5 fun g5 c5 y5 f5 lb5 h5 s5 e1 e2 e3 e4 e5 e6 e7 e8=>Jed (hx4.fr f5) h.ns.op okn ?_
  rw[decide_eq_false m]
  refine bF ⟨by decide,Jj (0,0) fun g6 z6 _ f6 h6=>addL ((hx4.fr f5).fr f6) h6 (by rw[List.length_map];exact cap5 (by simp;exact leK (Nat.le_of_lt h24))) (Jj (0,0) fun g7 z7 _ f7 h7=>?_)⟩
  have f57:=(f5.trans f6 (W:=WH)).trans f7
  refine k g7 c5 y5 z7 _ ((f04.mono).trans f57) ((db4.fr f5).fr (f6.trans f7)) (by omega) ((lb5.fr f6).fr f7) h5 s5 e1 e2 (by rw[e3,e4,List.length_append,List.length_singleton]) ⟨[nd],by simp,e4⟩ e5 e6 e7 e8 ?_
  rw[e4,List.map_append,←en];exact h7
end Mine
namespace Mine
variable {aa:Adr} {wa:WAd}
structure CB (E M:Nat) (c:Core) (P:List (Nat×Nat)):Prop where
 e:c.edges≤E
 k:c.known.length≤E
 n:c.ns.length≤M
 p:P.length≤M
 lt:∀q∈P,q.1<c.ns.length∧q.2<c.ns.length
 two:Two c.ns
theorem CB.mono (h:CB E M c P) (a:E≤E') (b:M≤M'):CB E' M' c P:=
 ⟨Nat.le_trans h.e a,Nat.le_trans h.k a,Nat.le_trans h.n b,Nat.le_trans h.p b,h.lt,h.two⟩
structure Op (aa:Adr) (wa:WAd) (g:G) (E M C A B Tn:Nat) (ly:Ly) (f:Nat→Nat→Nat) (c:Core) (y:Dyn) (P:List (Nat×Nat)) (sv:List (Core×List (Nat×Nat))) (si:List StE) (x p:Nat) (as:Nat→List Row):Prop where
 die:∃a,a≤A∧DieB g a
 lb:LyB aa g ly
 lv:LvB g c y
 wo:WoB aa wa g ly.hi as (si++[(x,p,c.ns,P)])
 h:HI c y.w y.chs P
 s:Stk y.mks y.chs c sv
 md:y.md=c.ns.length
 lo:LyO B Tn c.ns y.bk ly f
 ta:∀l,l<2→as l=ly.told l
 rw:∀l,l<2→∀r∈as l,RowW r
 sis:si.map (fun s=>s.2.2)=sv.map fun q=>(q.1.ns,q.2)
 svb:∀q∈sv,CB E M q.1 q.2
 cb:CB E M c P
 chs:y.chs.length≤C
 mks:y.mks.length≤M
 pot:Pot c y≤1176
 bk:y.bk≤A
structure Se (aa:Adr) (wa:WAd) (g:G) (b:Nat) (ly:Ly) (f:Nat→Nat→Nat) (c:Core) (y:Dyn) (P:List (Nat×Nat)) (sv:List (Core×List (Nat×Nat))) (si:List StE) (x p:Nat) (as:Nat→List Row):Prop where
 o:Op aa wa g (2000 * b) (2 * b) (4000 * b) (20 * b+1) b (4 * b) ly f c y P sv si x p as
 w:y.w=[]
 bq:∀i,i<2→ly.bk i=y.bk
 cl:∀L,LayOk L→IsCl c.ns (PL P ly L) (FL c.u.F f ly.hi L)
theorem Se.ls (s:Se aa wa g b ly f c y P sv si x p as):LyS b (4 * b) c y.bk P ly f:=⟨s.o.lo,s.bq,s.cl⟩
theorem Zn (hL:LayOk L) (ta:∀l,l<2→as l=ly.told l):PLa P ly.hi as L=PL P ly L:=by
 cases L with
 |none=>rfl
 |some l=>
  show (if l=1∧ly.hi=true then P++(as 0).map Row.pair else P)++(as l).map Row.pair=_
  rw[ta 0 (by decide),ta l hL];rfl
theorem Op.lt (o:Op aa wa g E M C A B Tn ly f c y P sv si x p as)
  (st:∀l,l<2→∀r∈ly.told l,rowSt c.ns r=true) (hL:LayOk L):(∀q∈PL P ly L,q.1<c.ns.length∧q.2<c.ns.length)∧(PL P ly L).length≤M+B+B:=by
 have key:∀l,l<2→∀q∈(ly.told l).map Row.pair,q.1<c.ns.length∧q.2<c.ns.length:=fun l hl q hq=>by
  refine x12 (List.mem_map.mp hq) fun r hr q1_=>?_
  subst q1_
  exact Jao (o.lo.ri l hl r hr) (st l hl r hr)
 have hp:=o.cb.p
 cases L with
 |none=>exact⟨o.cb.lt,by show P.length≤_;omega⟩
 |some l=>
  have l0:=o.lo.ln 0 (by decide)
  have l1:=o.lo.ln l hL
  constructor
  ·intro q hq
   have hq:q∈(if l=1∧ly.hi=true then P++(ly.told 0).map Row.pair else P)++(ly.told l).map Row.pair:=hq
   rcases List.mem_append.mp hq with hq|hq
   ·split at hq
    ·rcases List.mem_append.mp hq with hq|hq
     ·exact o.cb.lt q hq
     ·exact key 0 (by decide) q hq
    ·exact o.cb.lt q hq
   ·exact key l hL q hq
  ·show ((if l=1∧ly.hi=true then P++(ly.told 0).map Row.pair else P)++(ly.told l).map Row.pair).length≤_
   rw[List.length_append,List.length_map]
   split
   ·rw[List.length_append,List.length_map];exact Nat.add_le_add (Nat.add_le_add hp l0) l1
   ·exact Nat.add_le_add (Nat.le_trans hp (Nat.le_add_right _ _)) l1
theorem WoB.tell {as:Nat→List Row} {A:Nat→Nat} (b:WoB aa wa g hi as ss) (a1:At g (58,0) wa.a (.dict (d2 fun l=>.ref (A l)) e)) (a2:∀l,l<2→A l≠0∧At g (105,l) (A l) (.list ((as l).map asV)))
  (hl:l<2) (cc:Ch (A l) g g') (h:At g' (105,l) (A l) (.list ((as l).map asV++[asV r]))):WoB aa wa g' hi (upd as l (as l++[r])) ss:=by
 obtain ⟨nz,w,_,st,ok⟩:=b
 have f:Fr [105] g g':=cc.fr (a2 l hl).2
 refine⟨nz,w.imp fun _ x=>x.fr f,⟨A,e,a1.fr f,fun i hi=>⟨(a2 i hi).1,?_⟩⟩,st.fr f,fun s hs=>⟨(ok s hs).1.fr f,(ok s hs).2.fr f⟩⟩
 by_cases q:i=l
 ·subst q;rw[Jd,List.map_append];exact h
 ·rw[Jk q]
  exact(a2 i hi).2.ch cc ((a2 i hi).2.ne (a2 l hl).2 (by simp;exact q))
theorem eqB {a b:Bool} {st:St} {Q:Bool→Prop} (k:Q (a==b)):cmpV .Eq (.bool a) (.bool b) st Q:=k
noncomputable def WA:List Nat:=3::105::WM
theorem c24 {f:Nat→Nat→Nat} {as:Nat→List Row} (s:Se aa wa g b ly f c y P sv si x p as) (hb:b≤20)
  (k:∀g' ly' f' as',ly'.hi=ly.hi→Op aa wa g' (2000 * b) (2 * b) (4000 * b) (20 * b+4) (b+1) (4 * b+2) ly' f' c y P sv si x p as'→Q (.bool true) g'.st):callN T (d+8) (K 24) [.ref 3,.ref wa.w] g.st Q:=by
 have on:=s.o.h.ns
 have hn:=on.len
 have n2:=Jaf s.o.cb.two
 refine x12 s.o.die fun a0 ha0 db=>?_
 have wo:=s.o.wo
 have stt:∀l,l<2→∀r∈ly.told l,rowSt c.ns r=true:=fun l hl=>s.o.lo.fs l hl (s.bq l hl)
 have st:=wo.st
 rw[List.map_append,List.map_singleton] at st
 have hx:At g (0,0) x (.list (c.ns.map Node.v)):=(wo.ok (x,p,c.ns,P) (by simp)).1
 have hml:(c.ns.map Node.v).length<cap:=by rw[List.length_map];exact Jb (leK hn)
 have len_x:∀{g':G} {Q:KV},Fr [3] g g'→Q (N c.ns.length) g'.st→fnV .len [.ref x] g'.st Q:=fun fr k=>Je (hx.fr fr) hml (by rw[List.length_map];exact k)
 refine w24.mpr (w24_0.mpr ?_)
 refine⟨by decide,Jcs wo (negI (W4 st (Jq (i:=0) (v:=.ref x) rfl (by show 2<cap;unfold cap;decide) ?_)))⟩
 refine c19 (m:=2) (d:=d+6) db (mK1 ha0 hb) (by decide) fun g1 l hl f1 db1=>len_x f1 (subN (b:=1) (Nat.le_of_lt n2) ?_)
 refine c19 (m:=2) (d:=d+6) db1 (Nat.succ_le_succ (mK1 ha0 hb)) (by decide) fun g2 r hr f2 db2=>subN (by omega) (len_x (f1.trans f2) ?_)
 refine c19 (d:=d+6) db2 (Nat.succ_le_succ (Nat.succ_le_succ (mK1 ha0 hb))) (Nat.le_of_lt n2) fun g3 e he f3 db3=>?_
 have f03:Fr [3] g g3:=(f1.trans f2).trans f3
 have ha:c.ns.length - 1 - r<c.ns.length:=by omega
 revert ha
 generalize c.ns.length - 1 - r=a
 intro ha
 have wo3:=wo.fr f03
 have hL:LayOk (some l):=hl
 have PLe:=Zn (P:=P) (ly:=ly) hL s.o.ta
 have plt:=s.o.lt stt hL
 refine c23 (L:=some l) (d:=d+6) wo3 hl (by have:=s.o.cb.p;exact mK this hb) (fun i hi=>by rw[s.o.ta i hi];have:=s.o.lo.ln i hi;exact Nat.le_trans this (leK hb)) fun g4 z4 f4 h4=>?_
 rw[PLe] at h4
 refine c21 (d:=d+6) ((hx.fr f03).fr f4) h4 on plt.1 (by have:=plt.2;omega) fun g5 z5 F f5 h5 icl=>?_
 have f05:Fr [3] g g5:=(f03.trans f4).trans f5
 have wo5:=wo.fr f05
 have Fe:∀a,FL c.u.F f ly.hi (some l) a=F a:=fun a=>(s.cl _ hL).unique icl a
 refine x22 wo5.as_ fun A ee a1 a2=>?_
 have hA:=(a2 l hl).2
 refine Jfo wo5 (Jn a1 Xb (Wr hl) ?_)
 refine methA hA ⟨by decide,by decide,?_⟩
 refine c20 (d:=d+3) on 4 a (hx.fr f05) ha (Nat.succ_le_succ (Nat.min_le_right _ _)) fun g6 f6=>⟨by decide,?_⟩
 refine c20 (d:=d+3) on 4 e ((hx.fr f05).fr f6) he (Nat.succ_le_succ (Nat.min_le_right _ _)) fun g7 f7=>?_
 have f57:=f6.trans f7
 have ln:=s.o.lo.ln l hl
 refine Jz (hA.fr f57) (a2 l hl).1 (by rw[List.length_map,s.o.ta l hl];exact cap5 (Nat.le_trans ln (leK hb))) fun g8 c8 h8=>?_
 have f8:Fr [105] g7 g8:=c8.fr (hA.fr f57)
 have tell:=fun (r:Row) h=>(wo5.fr f57).tell (a1.fr f57) (fun i hi=>⟨(a2 i hi).1,(a2 i hi).2.fr f57⟩) hl c8 (r:=r) h
 have f08:Fr WA g g8:=((f05.mono).trans f57).trans f8
 have w8:∃n,At g8 (62,0) wa.w (.dict (woD aa wa ly.hi) n):=(wo5.fr f57).w.imp fun _ x=>x.fr f8
 refine x11 w8 fun n8 w8=>?_
 refine Jn w8 (strKeys wo_k) (v:=.ref aa.l) (by kernel_rfl) ?_
 have f58:Fr [105] g5 g8:=(f57.mono).trans f8
 have f38:Fr [105] g3 g8:=((f4.trans f5).mono).trans f58
 have f08':Fr [3,105] g g8:=(f03.mono).trans f38
 have b8:=s.o.lb.fr f08'
 refine Jo b8.o (p:=K 713) (by kernel_rfl) (by kernel_rfl) (c713 b8 (s.o.lv.fr f08') on s.o.h.u hl s.ls ha he (by omega) (leK hb) fun g9 ly9 f9' r9 f9 b9 hi9 to9 ra rb wa' wb' o9=>?_)
 have h9:=(h5.fr f58).fr f9
 have hlr:(natL ((List.range c.ns.length).map F)).length<cap:=by rw[Ja,List.length_map,List.length_range];exact cap5 (leK hn)
 refine Jm h9 (J3 (Qg ha)) hlr (Jm h9 (J3 (Qg he)) hlr (neN (eqB ?_)))
 rw[Fe,Fe,beq_self_eq_true]
 have ev:V.tup [.tup [N a,tmL (ndL c.ns) 4 a],.tup [N e,tmL (ndL c.ns) 4 e]]=asV r9:=by
  unfold asV
  rw[ra,rb,wa'.tm,wb'.tm]
 rw[ev] at h8
 refine k g9 ly9 f9' (upd as l (as l++[r9])) hi9 ⟨⟨a0+3,by exact Nat.add_le_add_right ha0 _,(db3.fr f38).fr f9⟩,b9,(s.o.lv.fr f08').fr f9,?_,s.o.h,s.o.s,s.o.md,⟨o9.wf,o9.ri,o9.fs,o9.bk,o9.ln,o9.tn⟩,fun i hi=>?_,fun i hi r hr=>?_,s.o.sis,s.o.svb,s.o.cb,s.o.chs,s.o.mks,s.o.pot,Nat.le_trans s.o.bk (Nat.add_le_add_left (by decide) _)⟩
 ·rw[hi9];exact(tell r9 h8).fr f9
 ·rw[to9]
  by_cases q:i=l
  ·subst q;rw[Jd,Jd,s.o.ta i hi]
  ·rw[Jk q,Jk q,s.o.ta i hi]
 ·have old:=s.o.rw
  by_cases q:i=l
  ·subst q;rw[Jd] at hr
   rcases List.mem_append.mp hr with hr|hr
   ·exact old i hi r hr
   ·rw[List.mem_singleton.mp hr]
    exact⟨c.ns,on,s.o.cb.two,by rw[ra];exact wa',by rw[rb];exact wb'⟩
  ·rw[Jk q] at hr
   exact old i hi r hr
end Mine
namespace Mine
variable {aa:Adr} {wa:WAd}
theorem LyO.mono {m t m' t' bk:Nat} {ns:List Node} {ly:Ly} {f:Nat→Nat→Nat} (h:LyO m t ns bk ly f) (a:m≤m') (b:t≤t'):LyO m' t' ns bk ly f:=
 ⟨h.wf,h.ri,h.fs,h.bk,fun i hi=>Nat.le_trans (h.ln i hi) a,Nat.le_trans h.tn b⟩
theorem Op.mono (o:Op aa wa g E M C A B Tn ly f c y P sv si x p as)
  (h1:E≤E') (h2:M≤M') (h3:C≤C') (h4:A≤A') (h5:B≤B') (h6:Tn≤Tn'):Op aa wa g E' M' C' A' B' Tn' ly f c y P sv si x p as:=
 ⟨o.die.imp fun _ h=>⟨Nat.le_trans h.1 h4,h.2⟩,o.lb,o.lv,o.wo,o.h,o.s,o.md,o.lo.mono h5 h6,o.ta,o.rw,o.sis,fun q hq=>(o.svb q hq).mono h1 h2,o.cb.mono h1 h2,Nat.le_trans o.chs h3,Nat.le_trans o.mks h2,o.pot,Nat.le_trans o.bk h4⟩
theorem Stk.inv (s:Stk m ch c sv):sv=[]∨∃mks pre chs c1 sv0 P1 a,m=mks++[(pre.length,a)]∧ch=pre++chs∧sv=sv0++[(c1,P1)]∧Stk mks pre c1 sv0∧HI c1 [] pre P1∧Back pre chs c c1:=by
 cases s with
 |nil=>exact .inl rfl
 |push s h b=>exact .inr ⟨_,_,_,_,_,_,_,rfl,rfl,rfl,s,h,b⟩
theorem Ye (h:standsB ns e=true):standsB (ns++l) e=true:=by
 refine decide_eq_true (List.filter_eq_nil_iff.mpr fun a ha=>?_)
 refine x12 (Q6 h ha) fun x hx hm=>?_
 have h:(e.map (·.1)).filter (fun a=>!decide (ns[a]?=nget e a))=[]:=of_decide_eq_true h
 have h2:=List.filter_eq_nil_iff.mp h a ha
 rw[List.getElem?_append_left (List.getElem?_eq_some_iff.mp hx).1]
 exact h2
theorem LyO.more {m t bk:Nat} {ns l:List Node} {ly:Ly} {f:Nat→Nat→Nat} (h:LyO m t ns bk ly f):LyO m t (ns++l) bk ly f:=
 ⟨h.wf,h.ri,fun i hi e r hr=>by
  have:=Bool.and_eq_true_iff.mp (h.fs i hi e r hr)
  exact Bool.and_eq_true_iff.mpr ⟨Ye this.1,Ye this.2⟩,h.bk,h.ln,h.tn⟩
theorem LyO.back {m t bk:Nat} {ns ns':List Node} {ly:Ly} {f:Nat→Nat→Nat} (h:LyO m t ns bk ly f):LyO m t ns' (bk+1) ly f:=
 ⟨h.wf,h.ri,fun i hi e _ _=>by have:=h.bk i hi;exact absurd e (Nat.ne_of_lt (Nat.succ_le_succ this)),fun i hi=>by have:=h.bk i hi;exact Nat.le_succ_of_le this,h.ln,h.tn⟩
theorem Two.more (t:Two ns):Two (ns++l):=by
 have ha:ns[0]?=some ⟨"a",[]⟩:=t.a
 have hb:ns[1]?=some ⟨"b",[]⟩:=t.b
 exact⟨by show (ns++l)[0]?=_;rw[List.getElem?_append_left (List.getElem?_eq_some_iff.mp ha).1];exact ha,by show (ns++l)[1]?=_;rw[List.getElem?_append_left (List.getElem?_eq_some_iff.mp hb).1];exact hb⟩
section
variable {g:G} {hi:Bool} {as:Nat→List Row} {si:List StE} {s s':StE}
theorem WoB.st' (b:WoB aa wa g hi as ss) (f:Fr [61] g g') (h:At g' (61,0) wa.s (.list (ss'.map stV))) (ok:∀s∈ss',At g' (0,0) s.1 (.list (s.2.2.1.map Node.v))∧At g' (0,0) s.2.1 (.list (s.2.2.2.map pV))):WoB aa wa g' hi as ss':=by
 obtain ⟨nz,w,⟨A,e,a1,a2⟩,_,_⟩:=b
 exact⟨nz,w.imp fun _ x=>x.fr f,⟨A,e,a1.fr f,fun l hl=>⟨(a2 l hl).1,(a2 l hl).2.fr f⟩⟩,h,ok⟩
theorem WoB.setLast (b:WoB aa wa g hi as (si++[s])) (h1:At g (0,0) s'.1 (.list (s'.2.2.1.map Node.v))) (h2:At g (0,0) s'.2.1 (.list (s'.2.2.2.map pV)))
  (k:∀g',Fr [61] g g'→WoB aa wa g' hi as (si++[s'])→Q g'.st):setItemV (.ref wa.s) (.int (-1)) (stV s') g.st Q:=by
 have st:=b.st
 rw[List.map_append,List.map_singleton] at st
 refine Jkr st b.nz.2 fun g' cc h=>?_
 have f:Fr [61] g g':=cc.fr st
 refine k g' f (b.st' f (by rw[List.map_append];exact h) fun t ht=>?_)
 rcases List.mem_append.mp ht with ht|ht
 ·have:=b.ok t (List.mem_append_left _ ht)
  exact⟨this.1.fr f,this.2.fr f⟩
 ·rw[List.mem_singleton.mp ht];exact⟨h1.fr f,h2.fr f⟩
theorem WoB.push (b:WoB aa wa g hi as si) (h1:At g (0,0) s'.1 (.list (s'.2.2.1.map Node.v))) (h2:At g (0,0) s'.2.1 (.list (s'.2.2.2.map pV))) (hl:si.length≤1000)
  (k:∀g',Fr [61] g g'→WoB aa wa g' hi as (si++[s'])→Q .none g'.st):methV .list .append (.ref wa.s) [stV s'] g.st Q:=by
 refine Jz b.st b.nz.2 (by rw[List.length_map];exact Jb hl) fun g' cc h=>?_
 have f:Fr [61] g g':=cc.fr b.st
 refine k g' f (b.st' f (by rw[List.map_append];exact h) fun t ht=>?_)
 rcases List.mem_append.mp ht with ht|ht
 ·have:=b.ok t ht
  exact⟨this.1.fr f,this.2.fr f⟩
 ·rw[List.mem_singleton.mp ht];exact⟨h1.fr f,h2.fr f⟩
theorem WoB.pop (b:WoB aa wa g hi as (si++[s])) (hl:si.length≤1000) (k:∀g' v,Fr [61] g g'→WoB aa wa g' hi as si→Q v g'.st):methQ d (.ref wa.s) "pop" g.st (fun k=>k [] g.st) Q:=by
 have st:=b.st
 rw[List.map_append,List.map_singleton] at st
 refine X7 st b.nz.2 (by rw[List.length_append,List.length_map];exact cap5 (by simp;exact leK hl)) rfl fun g' cc h=>?_
 have f:Fr [61] g g':=cc.fr st
 exact k g' _ f (b.st' f h fun t ht=>by
  have:=b.ok t (List.mem_append_left _ ht)
  exact⟨this.1.fr f,this.2.fr f⟩)
end
theorem CB.grow (h:CB E M c P) (hl:l.length≤1) (e:c'.ns=c.ns++l) (h1:c'.edges≤c.edges+1) (h2:c'.known.length≤c.known.length+1):CB (E+1) (M+1) c' P:=by
 have hle:c.ns.length≤c'.ns.length:=by rw[e,List.length_append];exact Nat.le_add_right _ _
 exact⟨Nat.le_trans h1 (Nat.succ_le_succ h.e),Nat.le_trans h2 (Nat.succ_le_succ h.k),by have:=h.n;rw[e,List.length_append];exact Nat.add_le_add this hl,Nat.le_succ_of_le h.p,fun q hq=>by have:=h.lt q hq;omega,by rw[e];exact h.two.more⟩
section
variable {g:G} {d E M C A B Tn:Nat} {ly:Ly} {f:Nat→Nat→Nat} {c:Core} {y:Dyn} {P:List (Nat×Nat)} {sv:List (Core×List (Nat×Nat))} {si:List StE} {x p:Nat} {as:Nat→List Row}
theorem Jkx (h:Pot c y≤1176):y.w.length≤9000:=by unfold Pot at h;omega
theorem Stk.len (s:Stk m ch c sv):m.length=sv.length:=by
 induction s with
 |nil=>rfl
 |push _ _ _ ih=>rw[List.length_append,List.length_append,ih];rfl
theorem Op.silen (o:Op aa wa g E M C A B Tn ly f c y P sv si x p as):si.length=sv.length∧sv.length≤M:=by
 have:=congrArg List.length o.sis
 rw[List.length_map,List.length_map] at this
 exact⟨this,by rw[←o.s.len];exact o.mks⟩
theorem Op.more (o:Op aa wa g E M C A B Tn ly f c y P sv si x p as) (hE:E≤80000) (hM:M≤22) (hC:C≤89000) (hA:A≤5000)
  (k:∀g' c' y' z,Fr (3::WH) g g'→At g' (0,0) z (.list (c'.ns.map Node.v))→(∀g2,Fr [61] g' g2→WoB aa wa g2 ly.hi as (si++[(z,p,c'.ns,P)])→Op aa wa g2 (E+1) (M+1) (C+2) (A+3) B Tn ly f c' y' P sv si z p as)→Q (.ref z) g'.st) :
  callN T (d+8) (K 22) [.ref 3,.ref 4,.ref x] g.st Q:=by
 refine x12 o.die fun a0 ha0 db=>?_
 have hx:At g (0,0) x (.list (c.ns.map Node.v)):=(o.wo.ok (x,p,c.ns,P) (by simp)).1
 have cb:=o.cb
 have h1:=cb.e
 have h2:=cb.k
 have h3:=cb.n
 have h4:=o.chs
 have h5:=o.mks
 refine c22 db (Nat.le_trans ha0 (leK hA)) o.lv o.h o.s o.md hx (Jaf cb.two) (Nat.lt_of_le_of_lt h3 (ltK hM)) (Nat.le_trans h1 (leK hE)) (Nat.le_trans h2 (leK hE)) (Nat.le_trans h4 (leK hC)) (Jkx o.pot) (Nat.le_trans h5 (leK hM)) fun g' c' y' z at' fr db' ha lv' h' s' e1 e2 e3 w14_ e5 e6 e7 e8 hz=>x12 w14_ fun l hl e4=>k g' c' y' z fr hz fun g2 f2 wo2=>?_
 refine⟨⟨at',by exact Nat.le_trans ha (Nat.add_le_add ha0 (by decide)),db'.fr f2⟩,(o.lb.fr fr).fr f2,lv'.fr f2,wo2,h',s',e3,by rw[e4,e1];exact o.lo.more,o.ta,o.rw,o.sis,fun q hq=>(o.svb q hq).mono (Nat.le_succ _) (Nat.le_succ _),cb.grow hl e4 e5 e6,by exact Nat.le_trans e7 (Nat.add_le_add h4 (by decide)),by rw[e2];exact Nat.le_succ_of_le h5,Nat.le_trans e8 o.pot,by rw[e1];exact Nat.le_trans o.bk (Nat.le_add_right _ _)⟩
theorem deed0 (s:Se aa wa g b ly f c y P sv si x p as) (hb:b≤10)
  (k:∀g' c' y' sv' si' z,Op aa wa g' (2000 * b+10) (2 * b+2) (4000 * b+20) (20 * b+10) (b+1) (4 * b+2) ly f c' y' P sv' si' z p as→Q .none g'.st) :
  methQ (d+8) (.ref 4) "push" g.st (fun k=>k [] g.st) fun _ s4=>methQ (d+8) (.ref wa.s) "append" s4 (fun k5=>2≤60∧callN T (d+8) (K 22) [.ref 3,.ref 4,.ref x] s4 fun v8 s9=>k5 [.tup [v8,.ref p]] s9) Q:=by
 have o:=s.o
 have cb:=o.cb
 have h1:=cb.e
 have h2:=cb.k
 have h3:=cb.n
 have h4:=o.chs
 have h5:=o.mks
 have h6:=o.bk
 refine x11 o.lv.top fun wA t=>?_
 refine x12 o.die fun a0 ha0 db=>?_
 have hx:At g (0,0) x (.list (c.ns.map Node.v)):=(o.wo.ok (x,p,c.ns,P) (by simp)).1
 have hp:At g (0,0) p (.list (P.map pV)):=(o.wo.ok (x,p,c.ns,P) (by simp)).2
 have hs:(si++[(x,p,c.ns,P)]).length≤1000:=by
  have:=o.silen
  rw[List.length_append,List.length_singleton];exact Nat.lt_of_le_of_lt (Nat.le_of_eq this.1) (Nat.succ_le_succ (mK this.2 hb))
 refine Jg t.o (p:=K 1702) (by kernel_rfl) (by kernel_rfl) (c1702 (d:=d+7) o.lv s.w (mK h4 hb) (mK h5 hb) fun g1 z1 f1 lv1=>?_)
 have hh:=o.h
 rw[s.w] at hh
 have sk:=Stk.push (a:=z1) o.s hh (Back.nil c)
 rw[List.append_nil] at sk
 have wo1:=o.wo.fr f1
 refine methA wo1.st ⟨by decide,?_⟩
 have lb1:=o.lb.fr f1
 have hx1:=hx.fr f1
 have db1:=db.fr f1
 refine c22 db1 (mK1 ha0 hb) lv1 o.h sk o.md hx1 (Jaf cb.two) (Nat.succ_le_succ (mK h3 hb)) (mK h1 hb) (mK h2 hb) (by show y.chs.length≤_;exact mK h4 hb) (Jkx o.pot) (by show (y.mks++[_]).length≤_;rw[List.length_append,List.length_singleton];exact Nat.succ_le_succ (mK h5 hb)) fun g2 c' y' z at' f2 db2 ha lv2 h' s' e1 e2 e3 w14_ e5 e6 e7 e8 hz=>x12 w14_ fun l hl e4=>?_
 have wo2:=wo1.fr f2
 refine wo2.push (s':=(z,p,c'.ns,P)) hz ((hp.fr f1).fr f2) hs fun g3 f3 wo3=>k g3 c' y' _ _ z ⟨⟨at',by exact Nat.le_trans ha (Nat.add_le_add_right (aC1 ha0) _),db2.fr f3⟩,(lb1.fr f2).fr f3,lv2.fr f3,wo3,h',s',e3,?_,o.ta,o.rw,?_,fun q hq=>?_,(cb.grow hl e4 e5 e6).mono (Nat.add_le_add_left (by decide) _) (Nat.le_succ _),?_,?_,Nat.le_trans e8 o.pot,by rw[e1];show y.bk≤_;exact aC1 h6⟩
 ·rw[e4,e1];exact o.lo.more.mono (Nat.le_succ _) (Nat.le_add_right _ _)
 ·rw[List.map_append,List.map_append,o.sis];rfl
 ·rcases List.mem_append.mp hq with hq|hq
  ·exact(o.svb q hq).mono (Nat.le_add_right _ _) (Nat.le_add_right _ _)
  ·rw[List.mem_singleton.mp hq];exact cb.mono (Nat.le_add_right _ _) (Nat.le_add_right _ _)
 ·have e7:y'.chs.length≤y.chs.length+2:=e7
  omega
 ·rw[e2];show (y.mks++[_]).length≤_;rw[List.length_append,List.length_singleton];exact Nat.add_le_add h5 (by decide)
end
end Mine
namespace Mine
variable {aa:Adr} {wa:WAd}
section
variable {g:G} {d E M C A B Tn:Nat} {ly:Ly} {f:Nat→Nat→Nat} {c:Core} {y:Dyn} {P:List (Nat×Nat)} {sv:List (Core×List (Nat×Nat))} {si:List StE} {x p:Nat} {as:Nat→List Row}
theorem Op.last (o:Op aa wa g E M C A B Tn ly f c y P sv si x p as) (k:Q (stV (x,p,c.ns,P)) g.st):subV (.ref wa.s) (.int (-1)) g.st Q:=by
 have st:=o.wo.st
 rw[List.map_append,List.map_singleton] at st
 exact W4 st k
inductive I25 (aa:Adr) (wa:WAd) (b r:Nat) (ly:Ly) (f:Nat→Nat→Nat) (P:List (Nat×Nat)) (sv:List (Core×List (Nat×Nat))) (si:List StE) (p:Nat) (as:Nat→List Row) (w x0 p0:V) (vs:List V) (loc:Loc) (st:St):Prop
 |mk (j:Nat) (g':G) (c':Core) (y':Dyn) (x':Nat) (hj:vs.length+j=r) (o:Op aa wa g' (2000 * b+j) (2 * b+j) (4000 * b+2 * j) (20 * b+3+3 * j) b (4 * b) ly f c' y' P sv si x' p as) (es:st=g'.st)
  (a1 a2 a3 a4 a5 a6 a7 a8:Option V) (el:loc=[some (.ref 3),some (.ref wa.w),some w,some (.ref 4),some (.ref wa.s),some x0,some p0,a1,a2,a3,a4,a5,a6,a7,a8])
theorem turns (hb:b≤10) (hr:r<3) (o:Op aa wa g (2000 * b) (2 * b) (4000 * b) (20 * b+3) b (4 * b) ly f c y P sv si x p as)
  (k:∀l st,I25 aa wa b r ly f P sv si p as w x0 p0 [] l st→kn l st) :
  cForL (fnSc 25) (.items (intL (rangeL 0 (r:Int)))) (.one "turn") (code (d+8) 25 [5,0,4] 0) (Src.items (intL (rangeL 0 (r:Int)))).all [some (.ref 3),some (.ref wa.w),some w,some (.ref 4),some (.ref wa.s),some x0,some p0,a1,a2,a3,a4,a5,a6,a7,a8] g.st kn kr:=by
 rw[Q8]
 refine J7 (I25 aa wa b r ly f P sv si p as w x0 p0) ?_ ?_ _ _ _ ⟨0,g,c,y,x,by rw[Ja,List.length_range];rfl,o,rfl,_,_,_,_,_,_,_,_,rfl⟩
 ·rintro v vs l _ ⟨j,g',c',y',x',hj,o',rfl,_,_,_,_,_,_,_,_,rfl⟩ kn' hk'
  rw[List.length_cons] at hj
  refine⟨trivial,?_⟩
  refine Jcw.mpr (Jcv.mpr ?_)
  refine⟨by decide,negI (o'.last (Jq (i:=0) (v:=.ref x') rfl (by show 2<cap;unfold cap;decide) ?_))⟩
  refine o'.more (by omega) (by omega) (by omega) (by omega) fun g2 c2 y2 z f2 hz mk=>?_
  have wo2:=o'.wo.fr f2
  have st2:=wo2.st
  rw[List.map_append,List.map_singleton] at st2
  refine negI (W4 st2 (Jq (i:=1) (v:=.ref p) rfl (by show 2<cap;unfold cap;decide) (negI ?_)))
  have hp:At g2 (0,0) p (.list (P.map pV)):=(wo2.ok (x',p,c'.ns,P) (by simp)).2
  exact wo2.setLast (s':=(z,p,c2.ns,P)) hz hp fun g3 f3 wo3=>hk' _ _ ⟨j+1,g3,c2,y2,z,by exact Eq.symm (Eq.trans (Eq.symm hj) (Nat.add_right_comm _ _ _)),mk g3 f3 wo3,rfl,_,_,_,_,_,_,_,_,rfl⟩
 ·rintro l _ ⟨j,g',c',y',x',hj,o',rfl,a1,a2,a3,a4,a5,a6,a7,a8,rfl⟩
  exact⟨trivial,k _ _ ⟨j,g',c',y',x',hj,o',rfl,a1,a2,a3,a4,a5,a6,a7,a8,rfl⟩⟩
theorem deed1 (s:Se aa wa g b ly f c y P sv si x p as) (hb:b≤10) (hs:0<si.length)
  (k:∀g' c' y' P' sv' si' x' p',Op aa wa g' (2000 * b) (2 * b) (4000 * b) (20 * b+2) b (4 * b) ly f c' y' P' sv' si' x' p' as→∀v,Q v g'.st) :
  methQ (d+8) (.ref 4) "pop" g.st (fun k=>k [] g.st) fun _ s=>methQ (d+8) (.ref wa.s) "pop" s (fun k=>k [] s) Q:=by
 have o:=s.o
 have h4:=o.chs
 have h5:=o.mks
 have h6:=o.bk
 have sl:=o.silen
 refine x11 o.lv.top fun wA t=>?_
 rcases o.s.inv with e|⟨mks,pre,chs,c1,sv0,P1,a,em,ec,es,st1,h1,bk1⟩
 ·rw[e] at sl;have:=sl.1;rw[List.length_nil] at this;exact absurd this (Nat.ne_of_gt hs)
 subst es
 rw[List.length_append,List.length_singleton] at sl
 refine x22 (Wg (show si.length=sv0.length+1 from sl.1)) fun si0 e1 q1_ _=>?_
 subst q1_
 have sis:=o.sis
 rw[List.map_append,List.map_append] at sis
 have sis2:=List.append_inj' sis (by simp)
 obtain ⟨x1,p1,ns1,P1'⟩:=e1
 have e3:=List.cons.inj sis2.2
 cases e3.1
 refine Jg t.o (p:=K 1703) (by kernel_rfl) (by kernel_rfl) (c1703 (d:=d+2) o.lv o.md em ec bk1 (mK h4 hb) (mK h5 hb) (mK1 h6 hb) fun g1 f1 lv1=>?_)
 have wo1:=o.wo.fr f1
 refine wo1.pop (by rw[List.length_append,List.length_singleton];omega) fun g2 v f2 wo2=>?_
 have cb1:=o.svb (c1,P1) (by simp)
 have hml:mks.length≤2 * b:=by rw[em,List.length_append,List.length_singleton] at h5;exact Nat.le_of_lt h5
 have hcl:pre.length≤4000 * b:=by rw[ec,List.length_append] at h4;exact Nat.le_of_add_right_le h4
 refine x12 o.die fun a0 ha0 db=>?_
 have hm:=h1.u.mlen
 refine k g2 c1 _ P1 sv0 si0 x1 p1 ⟨⟨a0,by exact aC1 ha0,(db.fr f1).fr f2⟩,(o.lb.fr f1).fr f2,lv1.fr f2,wo2,h1,st1,rfl,o.lo.back,o.ta,o.rw,sis2.1,fun q hq=>o.svb q (List.mem_append_left _ hq),cb1,hcl,hml,?_,by show y.bk+1≤_;exact Nat.succ_le_succ h6⟩ v
 unfold Pot
 show (24 - c1.u.merged.length) * 49+0≤1176
 omega
end
end Mine
namespace Mine
variable {aa:Adr} {wa:WAd}
theorem w25_e {d:Nat} {l:Loc} {st:St} {kn:Loc→St→Prop} {kr:KV}:code d 25 [5] 1 l st (fun l s=>code d 25 [] 3 l s kn kr) kr=kr (.bool true) st:=by kernel_rfl
theorem pot_sub (h:Pot c y≤1176) (h':Pot c' y'≤Pot c y):Pot c' y'≤1176:=Nat.le_trans h' h
section
variable {g:G} {d:Nat} {ly:Ly} {f:Nat→Nat→Nat} {c:Core} {y:Dyn} {P:List (Nat×Nat)} {sv:List (Core×List (Nat×Nat))} {si:List StE} {x p:Nat} {as:Nat→List Row}
theorem c25 (s:Se aa wa g b ly f c y P sv si x p as) (hb:b≤10)
  (k:∀g' ly' f' c' y' P' sv' si' x' p' as',ly'.hi=ly.hi→Op aa wa g' (2000 * b+10) (2 * b+2) (4000 * b+20) (20 * b+10) (b+1) (4 * b+2) ly' f' c' y' P' sv' si' x' p' as'→Q (.bool true) g'.st) :
  callN T (d+9) (K 25) [.ref 3,.ref wa.w,N way] g.st Q:=by
 have o:=s.o
 have cb:=o.cb
 have e1:=cb.e
 have e2:=cb.k
 have e3:=cb.n
 have e4:=o.chs
 have e5:=o.mks
 have sl:=o.silen
 have on:=o.h.ns
 have hn:=on.len
 have n2:=Jaf cb.two
 refine x11 o.lv.top fun wA t=>?_
 refine x12 o.die fun a0 ha0 db=>?_
 have hx:At g (0,0) x (.list (c.ns.map Node.v)):=(o.wo.ok (x,p,c.ns,P) (by simp)).1
 have hp:At g (0,0) p (.list (P.map pV)):=(o.wo.ok (x,p,c.ns,P) (by simp)).2
 have hml:(c.ns.map Node.v).length<cap:=by rw[List.length_map];exact Jb (mK e3 hb)
 have asm:callN T (d+8) (K 24) [.ref 3,.ref wa.w] g.st fun v s=>Q v s:=c24 s (leK hb) fun g' ly' f' as' hi o'=>k g' ly' f' c y P sv si x p as' hi (o'.mono (Nat.le_add_right _ _) (Nat.le_add_right _ _) (Nat.le_add_right _ _) (Nat.add_le_add_left (by decide) _) (Nat.lt_succ_self _) (Nat.lt_succ_self _))
 refine w25.mpr (w25_0.mpr ?_)
 refine⟨by decide,Jfn o.wo (J8 o.lb.o (Jcs o.wo (negI (o.last ?_))))⟩
 show bindN _ _ [.ref x,.ref p] _ _
 refine w25_1_u.mpr (w25_2.mpr ?_)
 refine eqN (b:=0) (bD (fun _=>?_) fun _=>eqN (b:=1) (bD (fun w1=>?_) fun _=>eqN (b:=2) (bD (fun _=>?_) fun _=>asm)))
 ·exact deed0 s hb fun g' c' y' sv' si' z o'=>k g' ly f c' y' P sv' si' z p as rfl o'
 ·refine Je o.wo.st (by rw[List.length_map,List.length_append,List.length_singleton];exact cap5 (Nat.lt_of_le_of_lt (Nat.le_of_eq sl.1) (Nat.succ_le_succ (mK sl.2 hb)))) (gtN (b:=1) ?_)
  rw[List.length_map,List.length_append,List.length_singleton]
  refine bD (fun hs=>?_) fun _=>eqN (b:=2) (bD (fun w2=>absurd (w1.symm.trans w2) (by decide)) fun _=>asm)
  refine deed1 s hb (Nat.le_of_lt_succ hs) fun g1 c1 y1 P1 sv1 si1 x1 p1 o1 v=>?_
  refine x12 o1.die fun a1 ha1 db1=>?_
  refine c19 (m:=3) (d:=d+7) db1 (mK1 ha1 hb) (by decide) fun g2 r hr f2 db2=>rangeN (cap5 (leK (Nat.le_of_lt hr))) ⟨trivial,?_⟩
  have o2:Op aa wa g2 (2000 * b) (2 * b) (4000 * b) (20 * b+3) b (4 * b) ly f c1 y1 P1 sv1 si1 x1 p1 as:=
   ⟨⟨a1+1,by exact Nat.succ_le_succ ha1,db2⟩,o1.lb.fr f2,o1.lv.fr f2,o1.wo.fr f2,o1.h,o1.s,o1.md,o1.lo,o1.ta,o1.rw,o1.sis,o1.svb,o1.cb,o1.chs,o1.mks,o1.pot,Nat.le_succ_of_le o1.bk⟩
  refine turns hb hr o2 ?_
  rintro l _ ⟨j,g3,c3,y3,x3,hj,o3,rfl,_,_,_,_,_,_,_,_,rfl⟩
  show code _ 25 [5,0] 3 _ _ _ _
  refine Jfy.mpr ?_
  show code _ 25 [5] 1 _ _ _ _
  refine w25_e.mpr ?_
  have hj:j=r:=by rw[←hj];exact(Nat.zero_add _).symm
  exact k g3 ly f c3 y3 P1 sv1 si1 x3 p1 as rfl (o3.mono (by omega) (Nat.add_le_add (Nat.le_of_not_lt (Nat.lt_irrefl _)) (Nat.le_trans (Nat.le_of_eq hj) (Nat.le_of_lt_succ hr))) (by omega) (by omega) (Nat.le_succ _) (Nat.le_add_right _ _))
 ·refine⟨by decide,Je hx hml ?_⟩
  rw[List.length_map]
  refine c19 (d:=d+7) db (mK1 ha0 hb) (Nat.le_of_lt n2) fun g1 a ha f1 db1=>Je (hx.fr f1) hml ?_
  rw[List.length_map]
  refine c19 (d:=d+7) db1 (Nat.succ_le_succ (mK1 ha0 hb)) (Nat.le_of_lt n2) fun g2 e he f2 db2=>?_
  have f02:Fr [3] g g2:=f1.trans f2
  refine Jg (t.fr f02).o (p:=K 1508) (by kernel_rfl) (by kernel_rfl) ⟨by decide,?_⟩
  refine c1508 (d:=d+3) (o.lv.fr f02) o.h o.s (o.h.cok (mK e1 hb) (mK e2 hb)) ⟨Nat.le_trans (Jkx o.pot) (by decide),by exact mK e4 hb,by exact mK e5 hb⟩ ha he fun g3 c3 y3 v f3 lv3 h3 s3 q1 q2 q3 q4 q5 q6 q7 q8=>⟨by decide,by decide,by decide,?_⟩
  refine Jj (0,0) fun g4 z _ f4 h4=>?_
  have f03:Fr (3::WJ) g g3:=(f02.mono).trans f3
  have f04:=f03.trans f4
  have hpl:=cb.p
  refine addL (hp.fr f04) h4 (by rw[List.length_map];exact cap5 (by simp;exact mK hpl hb)) (Jj (0,0) fun g5 z5 _ f5 h5=>negI ?_)
  have f05:=f04.trans f5
  rw[show P.map pV++[V.tup [N a,N e]]=(P++[(a,e)]).map pV from by rw[List.map_append];rfl] at h5
  have wo5:=o.wo.fr f05
  refine wo5.setLast (s':=(x,z5,c3.ns,P++[(a,e)])) (by rw[q4];exact hx.fr f05) h5 fun g6 f6 wo6=>?_
  have f36:Fr [61] g3 g6:=((f4.trans f5).mono).trans f6
  refine k g6 ly f c3 y3 (P++[(a,e)]) sv si x z5 as rfl ⟨⟨a0+2,by exact Nat.add_le_add_right (aC1 ha0) _,(db2.fr f3).fr f36⟩,(o.lb.fr f03).fr f36,lv3.fr f36,wo6,h3,s3,by rw[q3,q4];exact o.md,by rw[q1,q4];exact o.lo.mono (Nat.le_succ _) (Nat.le_add_right _ _),o.ta,o.rw,o.sis,fun q hq=>(o.svb q hq).mono (Nat.le_add_right _ _) (Nat.le_add_right _ _),⟨by exact Nat.le_trans q5 (Nat.add_le_add e1 (by decide)),by rw[q6];exact aC e2,by rw[q4];exact aC e3,by rw[List.length_append,List.length_singleton];exact Nat.add_le_add hpl (by decide),fun q hq=>?_,by rw[q4];exact cb.two⟩,by exact Nat.le_trans q7 (Nat.add_le_add e4 (by decide)),by rw[q2];exact aC e5,pot_sub o.pot q8,by rw[q1];have:=o.bk;exact aC1 this⟩
  rw[q4]
  rcases List.mem_append.mp hq with hq|hq
  ·exact cb.lt q hq
  ·rw[List.mem_singleton.mp hq];exact⟨ha,he⟩
end
end Mine
namespace Mine
variable {aa:Adr} {wa:WAd}
section
variable {g:G} {d:Nat} {ly:Ly} {f:Nat→Nat→Nat} {c:Core} {y:Dyn} {P:List (Nat×Nat)} {sv:List (Core×List (Nat×Nat))} {si:List StE} {x p:Nat} {as:Nat→List Row}
theorem Jlc {Q:St→Prop} (o:Op aa wa g (2000 * b+10) (2 * b+2) (4000 * b+20) (20 * b+10) (b+1) (4 * b+2) ly f c y P sv si x p as) (hb:b≤10)
  (k:∀g' ly' f' c' y' as',ly'.hi=ly.hi→Se aa wa g' (b+1) ly' f' c' y' P sv si x p as'→(∃a,a≤20 * (b+1)∧DieB g' a)→Q g'.st) :
  methQ (d+8) (.ref aa.l) "settle" g.st (fun k=>k [] g.st) fun _ s=>callN T (d+8) (K 26) [.ref wa.w] s fun _ s=>Q s:=by
 have cb:=o.cb
 have e1:=cb.e
 have e2:=cb.k
 have e3:=cb.n
 have e4:=o.chs
 have e5:=o.mks
 have e6:=o.pot
 have e7:=cb.p
 refine x12 o.die fun a0 ha0 db=>?_
 refine Jo o.lb.o (p:=K 712) (by kernel_rfl) (by kernel_rfl) (c712 (d:=d) o.lb o.lv o.h o.s o.md (mK1 e5 hb) (by omega) (by omega) (by omega) (leK e6) o.lo (ltK hb) (by omega) fun g1 c1 y1 ly1 f1' f1 lb1 lv1 h1 s1 ew ebk emk emd ens q1 q2 q3 hi1 to1 ls1=>?_)
 have wo1:=o.wo.fr f1
 rw[←hi1,←ens] at wo1
 have t1:Two c1.ns:=by rw[ens];exact cb.two
 refine c26 (d:=d+3) wo1 h1.ns t1 o.rw (fun l hl=>by rw[o.ta l hl];have:=o.lo.ln l hl;exact Nat.le_trans this (ltK hb)) fun g2 as' f2 wo2 ha'=>?_
 have ta':∀l,l<2→as' l=ly1.told l:=fun l hl=>by rw[ha' l hl,to1 l hl,ens,o.ta l hl]
 have pot1:Pot c1 y1≤1176:=by
  unfold Pot;rw[ew,List.length_nil]
  omega
 refine k g2 ly1 f1' c1 y1 as' hi1 ⟨⟨⟨a0,by exact aC (aC1 ha0),(db.fr f1).fr f2⟩,lb1.fr f2,lv1.fr f2,wo2,by rw[ew];exact h1,s1,by rw[emd,ens];exact o.md,by rw[ebk];exact ls1.o.mono (Nat.le_refl _) (Nat.lt_succ_self _),ta',fun l hl r hr=>?_,o.sis,fun q hq=>(o.svb q hq).mono (Nat.add_le_add_left (by decide) _) (Nat.lt_succ_self _),⟨by omega,by omega,by rw[ens];exact e3,by exact e7,by rw[ens];exact cb.lt,t1⟩,by omega,by rw[emk];exact e5,pot1,by rw[ebk];have:=o.bk;exact aC (aC1 this)⟩,ew,by rw[ebk];exact ls1.bq,ls1.cl⟩ ⟨a0,by exact aC1 ha0,(db.fr f1).fr f2⟩
 rw[ha' l hl] at hr
 exact o.rw l hl r (List.mem_filter.mp hr).1
theorem Xh (s:Se aa wa g b ly f c y P sv si x p as) (hb:b≤20) (hL:LayOk L)
  (k:∀g',Fr [] g g'→kn [some (.ref aa.l),some (.ref wa.w),some (.ref x),some (layV L),z0,z1,z2,z3,z4] g'.st) :
  code (d+3) 27 [2] 0 [some (.ref aa.l),some (.ref wa.w),some (.ref x),some (layV L),z0,z1,z2,z3,z4] g.st kn kr:=by
 have o:=s.o
 have on:=o.h.ns
 have hn:=on.len
 have e7:=o.cb.p
 have hx:At g (0,0) x (.list (c.ns.map Node.v)):=(o.wo.ok (x,p,c.ns,P) (by simp)).1
 have hml:(c.ns.map Node.v).length<cap:=by rw[List.length_map];exact Jb (leK hn)
 have stt:∀l,l<2→∀r∈ly.told l,rowSt c.ns r=true:=fun l hl=>o.lo.fs l hl (s.bq l hl)
 have plt:=o.lt stt hL
 refine w27_2_0.mpr ?_
 refine Je hx hml ?_
 rw[List.length_map]
 refine rangeN (Jb (leK hn)) ⟨rfl,?_⟩
 rw[Q8]
 refine Wp (W:=[]) (fun _=>true) N (fun n=>N (FL c.u.F f ly.hi L n)) (List.range c.ns.length) (by rw[List.length_range];exact Jb (leK hn)) (fun _ _=>trivial) (fun n hn' g' fr R hR=>?_) fun g1 f1=>?_
 ·refine w27_b0.mpr (w27_i0.mpr ?_)
  refine bT ?_
  refine w27_e0.mpr ?_
  exact Jo (o.lb.fr fr).o (p:=K 705) (by kernel_rfl) (by kernel_rfl) (c705 (d:=d) (o.lb.fr fr) (o.lv.fr fr) o.h.u hL o.lo.wf (List.mem_range.mp hn') fun g2 f2=>hR g2 (fr.trans f2))
 ·rw[List.filter_eq_self.mpr fun _ _=>rfl]
  refine Jj (0,0) fun g2 z _ f2 h2=>?_
  have f02:=f1.trans f2
  refine c23 (d:=d+2) (o.wo.fr f02) hL (mK e7 hb) (fun i hi=>by rw[o.ta i hi];have:=o.lo.ln i hi;exact Nat.le_trans this (leK hb)) fun g3 z3 f3 h3=>?_
  rw[Zn hL o.ta] at h3
  refine c21 (d:=d+2) ((hx.fr f02).fr f3) h3 on plt.1 (by have:=plt.2;omega) fun g4 z4 F f4 h4 icl=>?_
  have e:(List.range c.ns.length).map (fun n=>N (FL c.u.F f ly.hi L n))=natL ((List.range c.ns.length).map F):=by
   unfold natL
   rw[List.map_map]
   exact List.map_congr_left fun a _=>congrArg N ((s.cl L hL).unique icl a)
  rw[e] at h2
  refine Jas ((h2.fr f3).fr f4) h4 W1 W1 (bDn (fun ne=>absurd rfl ne) fun _=>k g4 ((f02.trans f3).trans f4))
theorem c27 (s:Se aa wa g b ly f c y P sv si x p as) (hb:b≤20) (k:∀g',Fr [] g g'→Q (.bool true) g'.st):callN T (d+4) (K 27) [.ref aa.l,.ref wa.w] g.st Q:=by
 have se:∀{g'},Fr [] g g'→Se aa wa g' b ly f c y P sv si x p as:=fun fr=>by
  obtain ⟨o,w,bq,cl⟩:=s
  exact⟨⟨o.die.imp fun _ h=>⟨h.1,h.2.fr fr⟩,o.lb.fr fr,o.lv.fr fr,o.wo.fr fr,o.h,o.s,o.md,o.lo,o.ta,o.rw,o.sis,o.svb,o.cb,o.chs,o.mks,o.pot,o.bk⟩,w,bq,cl⟩
 have hn:=s.o.h.ns.len
 have sl:=s.o.silen
 have h5:=s.o.mks
 refine w27.mpr (w27_0.mpr ?_)
 refine Jcs s.o.wo (negI (s.o.last (Jq (i:=0) (v:=.ref x) rfl (by show 2<cap;unfold cap;decide) ⟨by decide,Qc ⟨trivial,trivial,?_⟩⟩)))
 refine Jcu.mpr ?_
 refine Xh (L:=none) s hb trivial fun g1 f1=>⟨trivial,?_⟩
 refine Jcu.mpr ?_
 refine Xh (L:=some 0) (se f1) hb (show 0<2 by decide) fun g2 f2=>⟨trivial,?_⟩
 refine Jcu.mpr ?_
 have f02:=f1.trans f2
 refine Xh (L:=some 1) (se f02) hb (show 1<2 by decide) fun g3 f3=>⟨trivial,?_⟩
 show code _ 27 [] 2 _ _ _ _
 refine w27_2.mpr ?_
 have f03:=f02.trans f3
 have o:=(se f03).o
 refine x11 o.lv.top fun wA t=>?_
 have hx:At g3 (0,0) x (.list (c.ns.map Node.v)):=(o.wo.ok (x,p,c.ns,P) (by simp)).1
 refine J8 o.lb.o (Jg t.o (p:=K 1501) (by kernel_rfl) (by kernel_rfl) (c1501 (d:=d+1) t.o o.lv.bank (leK hn) (Je hx (by rw[List.length_map];exact Jb (leK hn)) (eqN ?_))))
 rw[List.length_map,decide_eq_true rfl]
 have sm:=o.s.len
 refine blP (bT (J8 o.lb.o (Jg t.o (p:=K 1701) (by kernel_rfl) (by kernel_rfl) (c1701 (d:=d+2) t.o t.mr (by rw[List.length_map];exact Nat.le_trans (Nat.le_of_eq sm) (mK sl.2 hb)) (Jcs o.wo (Je o.wo.st (by rw[List.length_map,List.length_append,List.length_singleton];exact cap5 (Nat.lt_of_le_of_lt (Nat.le_of_eq sl.1) (Nat.succ_le_succ (mK sl.2 hb)))) ?_))))))
 rw[List.length_map,List.length_map,List.length_append,List.length_singleton]
 refine subN (b:=1) (Nat.succ_pos _) (eqN ?_)
 rw[decide_eq_true (by exact Eq.trans sm (Eq.symm sl.1))]
 exact k g3 f03
end
end Mine
namespace Mine
theorem Xs:∀{l:List Int},a∈insertInt i l↔a=i∨a∈l:=by
 intro l_
 induction l_ with
 |nil=>
  show a∈[i]↔_;simp
 |cons j l ih_=>
  show a∈(if i≤j then i::j::l else j::insertInt i l)↔_
  split
  ·simp
  ·rw[List.mem_cons,ih_,List.mem_cons]
   constructor
   ·rintro (h|h|h)
    ·exact .inr (.inl h)
    ·exact .inl h
    ·exact .inr (.inr h)
   ·rintro (h|h|h)
    ·exact .inr (.inl h)
    ·exact .inl h
    ·exact .inr (.inr h)
theorem Wu:∀{l:List Int},a∈sortInts l↔a∈l:=by
 intro l_
 induction l_ with
 |nil=>
  exact Iff.rfl
 |cons i l ih_=>
  show a∈insertInt i (sortInts l)↔_
  rw[Xs,ih_,List.mem_cons]
theorem Jbx:∀{l:List Int},l.Pairwise (·<·)→i∉l→(insertInt i l).Pairwise (·<·):=by
 intro l_
 induction l_ with
 |nil=>
  intro _ _
  exact List.pairwise_singleton ..
 |cons j l ih_=>
  intro h hi
  have h:=List.pairwise_cons.mp h
  have hj:i≠j:=fun e=>hi (e▸.head _)
  show (if i≤j then i::j::l else j::insertInt i l).Pairwise _
  split
  ·refine List.pairwise_cons.mpr ⟨fun a ha=>?_,List.pairwise_cons.mpr h⟩
   rcases List.mem_cons.mp ha with rfl|ha
   ·omega
   ·have:=h.1 a ha;omega
  ·refine List.pairwise_cons.mpr ⟨fun a ha=>?_,ih_ h.2 fun m=>hi (.tail _ m)⟩
   rcases Xs.mp ha with rfl|ha
   ·omega
   ·exact h.1 a ha
theorem Y9:∀{l:List Int},l.Nodup→(sortInts l).Pairwise (·<·):=by
 intro l_
 induction l_ with
 |nil=>
  intro _
  exact .nil
 |cons i l ih_=>
  intro h
  have h:=List.nodup_cons.mp h
  exact Jbx (ih_ h.2) fun m=>h.1 (Wu.mp m)
theorem Yc:∀(n:Nat) (l:List Int),l.length≤n→l.eraseDups.Nodup
 |_,[],_=>by rw[List.eraseDups_nil];exact .nil
 |0,_::_,h=>by simp at h
 |n+1,a::l,h=>by
  rw[List.eraseDups_cons]
  refine List.nodup_cons.mpr ⟨fun m=>?_,Yc n _ ?_⟩
  ·have:=(List.mem_filter.mp (List.mem_eraseDups.mp m)).2
   simp at this
  ·have:=List.length_filter_le (fun b=>!b==a) l
   rw[List.length_cons] at h
   exact Nat.le_trans this (Nat.le_of_lt_succ h)
theorem lt_ext:∀(l l':List Int),l.Pairwise (·<·)→l'.Pairwise (·<·)→(∀a,a∈l↔a∈l')→l=l':=by
 intro l_
 induction l_ with
 |nil=>
  intro w1_
  cases w1_ with
  |nil=>
   intro _ _ _
   exact rfl
  |cons b xs_=>
   intro _ _ h
   exact absurd ((h b).mpr (.head _)) (List.not_mem_nil)
 |cons a l ih_=>
  intro w1_
  cases w1_ with
  |nil=>
   intro _ _ h
   exact absurd ((h a).mp (.head _)) (List.not_mem_nil)
  |cons b l'=>
   intro h1 h2 h
   have h1:=List.pairwise_cons.mp h1
   have h2:=List.pairwise_cons.mp h2
   have e:a=b:=by
    rcases List.mem_cons.mp ((h a).mp (.head _)) with e|m
    ·exact e
    ·rcases List.mem_cons.mp ((h b).mpr (.head _)) with e|m'
     ·exact e.symm
     ·have:=h1.1 b m'
      have:=h2.1 a m
      omega
   subst e
   rw[ih_ l' h1.2 h2.2 fun x=>?_]
   constructor
   ·intro hx
    rcases List.mem_cons.mp ((h x).mp (.tail _ hx)) with e|m
    ·have:=h1.1 x hx;omega
    ·exact m
   ·intro hx
    rcases List.mem_cons.mp ((h x).mpr (.tail _ hx)) with e|m
    ·have:=h2.1 x hx;omega
    ·exact m
theorem Jg8 {l l':List Int} (h:∀a,a∈l↔a∈l'):sortInts l.eraseDups=sortInts l'.eraseDups:=
 lt_ext _ _ (Y9 (Yc _ l (Nat.le_refl _))) (Y9 (Yc _ l' (Nat.le_refl _))) fun a=>by
  rw[Wu,Wu,List.mem_eraseDups,List.mem_eraseDups];exact h a
theorem Jce:∀l:List Int,V.datas (intL l)=true:=fun l=>by
 have h:∀l:List Int,V.plains (intL l)=true∧V.depths (intL l)=0:=fun l=>by
  induction l with
  |nil=>exact⟨rfl,rfl⟩
  |cons _ l ih=>exact⟨ih.1,by show max 0 (V.depths (intL l))=0;rw[ih.2];rfl⟩
 exact Bool.and_eq_true_iff.mpr ⟨(h l).1,decide_eq_true (by rw[(h l).2];decide)⟩
end Mine
namespace Mine
variable {aa:Adr} {wa:WAd}
section
variable {g:G} {d:Nat} {ly:Ly} {f:Nat→Nat→Nat} {c:Core} {y:Dyn} {P:List (Nat×Nat)} {sv:List (Core×List (Nat×Nat))} {si:List StE} {x p:Nat} {as:Nat→List Row}
theorem lap {R R0 R1:St→Prop} (s:Se aa wa g b ly f c y P sv si x p as) (hb:b≤10)
  (k:∀g' ly' f' c' y' P' sv' si' x' p' as',Se aa wa g' (b+1) ly' f' c' y' P' sv' si' x' p' as'→(∃a,a≤20 * (b+1)∧DieB g' a)→R g'.st) :
  callN T (d+9) (K 25) [.ref 3,.ref wa.w,N way] g.st fun v s=>boolP v fun b=>bothP (!b) (R0 s) (methQ (d+9) (.ref aa.l) "settle" s (fun k=>k [] s) fun _ s=>callN T (d+9) (K 26) [.ref wa.w] s fun _ s=>callN T (d+9) (K 27) [.ref aa.l,.ref wa.w] s fun v s=>boolP v fun b=>bothP (!b) (R1 s) (R s)):=by
 refine c25 s hb fun g1 ly1 f1 c1 y1 P1 sv1 si1 x1 p1 as1 _ o1=>blP (bF ?_)
 refine Jlc (d:=d+1) o1 hb fun g2 ly2 f2 c2 y2 as2 _ s2 db2=>c27 (d:=d+5) s2 (ltK hb) fun g3 f3=>blP (bF ?_)
 refine k g3 ly2 f2 c2 y2 P1 sv1 si1 x1 p1 as2 ?_ (db2.imp fun _ h=>⟨h.1,h.2.fr f3⟩)
 obtain ⟨o,w,bq,cl⟩:=s2
 exact⟨⟨o.die.imp fun _ h=>⟨h.1,h.2.fr f3⟩,o.lb.fr f3,o.lv.fr f3,o.wo.fr f3,o.h,o.s,o.md,o.lo,o.ta,o.rw,o.sis,o.svb,o.cb,o.chs,o.mks,o.pot,o.bk⟩,w,bq,cl⟩
theorem law_end (s:Se aa wa g b ly f c y P sv si x p as) (hb:b≤20) (k:∀g':G,kr (.bool true) g'.st) :
  code (d+4) 28 [] 6 [some xs,some (.ref 3),some (.ref 4),x1,some (.ref aa.l),some xh,some (.ref wa.w),x2,q1,q2,q3,q4,q5,q6,q7,q8,q9,r1,r2,r3] g.st kn kr:=by
 have o:=s.o
 have on:=o.h.ns
 have hn:=on.len
 have e7:=o.cb.p
 have hL:LayOk (some 1):=(show 1<2 by decide)
 have stt:∀l,l<2→∀r∈ly.told l,rowSt c.ns r=true:=fun l hl=>o.lo.fs l hl (s.bq l hl)
 have plt:=o.lt stt hL
 have cl:=s.cl _ hL
 refine w28_6.mpr ?_
 refine Jo o.lb.o (p:=K 715) (by kernel_rfl) (by kernel_rfl) (c715 (l:=1) (d:=d) o.lb o.lv on o.h.u (by decide) o.lo.wf cl.rep fun g1 z1 f1 h1=>?_)
 have wo1:=o.wo.fr f1
 have st1:=wo1.st
 rw[List.map_append,List.map_singleton] at st1
 have hx:At g1 (0,0) x (.list (c.ns.map Node.v)):=(wo1.ok (x,p,c.ns,P) (by simp)).1
 refine Jcs wo1 (negI (W4 st1 (Jq (i:=0) (v:=.ref x) rfl (by show 2<cap;unfold cap;decide) ?_)))
 refine c23 (L:=some 1) (d:=d+3) wo1 hL (mK e7 hb) (fun i hi=>by rw[o.ta i hi];have:=o.lo.ln i hi;exact Nat.le_trans this (leK hb)) fun g2 z2 f2 h2=>?_
 rw[Zn hL o.ta] at h2
 refine c21 (d:=d+3) (hx.fr f2) h2 on plt.1 (by have:=plt.2;omega) fun g3 z3 F f3 h3 icl=>?_
 rw[Wi] at h3
 have hF:∀a,FL c.u.F f ly.hi (some 1) a=F a:=fun a=>cl.unique icl a
 refine⟨z3,_,rfl,h3.2,⟨by rw[List.length_map,List.length_map,List.length_range];exact ltK hn,fun i hi=>?_⟩,Jj (0,0) fun g4 z4 _ f4 h4=>?_⟩
 ·refine x12 (List.mem_map.mp hi) fun a ha q1_=>?_
  subst q1_
  refine x12 (List.mem_map.mp ha) fun b hb q1_=>?_
  subst q1_
  have:=(icl.rep b).1
  have:=List.mem_range.mp hb
  omega
 ·refine Xy ((h1.fr f2).fr f3 |>.fr f4) h4 (Jce _) (Jce _) ?_
  rw[Jg8 (l:=(c.u.roots c.ns.length).map fun a=>((FL c.u.F f ly.hi (some 1) a:Nat):Int)) (l':=((List.range c.ns.length).map F).map fun (n:Nat)=>(n:Int)) fun a=>?_,decide_eq_true rfl]
  ·exact k g4
  ·constructor
   ·intro h
    refine x12 (List.mem_map.mp h) fun r hr q1_=>?_
    subst q1_
    rw[List.map_map]
    exact List.mem_map.mpr ⟨r,(List.mem_filter.mp hr).1,by show ((F r:Nat):Int)=_;rw[hF]⟩
   ·rw[List.map_map]
    intro h
    refine x12 (List.mem_map.mp h) fun i hi q1_=>?_
    subst q1_
    have hi:=List.mem_range.mp hi
    have rt:=o.h.u.root i hi
    refine List.mem_map.mpr ⟨c.u.F i,List.mem_filter.mpr ⟨List.mem_range.mpr rt.2.1,decide_eq_true rt.2.2.1⟩,?_⟩
    show ((FL c.u.F f ly.hi (some 1) (c.u.F i):Nat):Int)=((F i:Nat):Int)
    rw[←hF]
    unfold FL
    rw[rt.2.2.1]
end
inductive I28 (aa:Adr) (wa:WAd) (n:Nat) (xs xh:V) (vs:List V) (loc:Loc) (st:St):Prop
 |mk (j:Nat) (g:G) (ly:Ly) (f:Nat→Nat→Nat) (c:Core) (y:Dyn) (P:List (Nat×Nat)) (sv:List (Core×List (Nat×Nat))) (si:List StE) (x p:Nat) (as:Nat→List Row) (hj:j≤n) (ev:vs=natL ((List.range n).drop j))
  (s:Se aa wa g (j+1) ly f c y P sv si x p as) (dd:∃a,a≤20 * (j+1)∧DieB g a) (es:st=g.st) (x1 x2 q1 q2 q3 q4 q5 q6 q7 q8 q9 r1 r2 r3:Option V)
  (el:loc=[some xs,some (.ref 3),some (.ref 4),x1,some (.ref aa.l),some xh,some (.ref wa.w),x2,q1,q2,q3,q4,q5,q6,q7,q8,q9,r1,r2,r3])
theorem ways4:∀j,j<4→∃way:Nat,[V.int 0,V.int 3,V.int 3,V.int 1][j]?=some (N way)
 |0,_=>⟨0,rfl⟩
 |1,_=>⟨3,rfl⟩
 |2,_=>⟨3,rfl⟩
 |3,_=>⟨1,rfl⟩
 |n+4,h=>by exact absurd h (Nat.not_lt_of_le (Nat.le_add_left _ _))
theorem laps {f:Nat→Nat→Nat} {as:Nat→List Row}
  (hn:n≤6) (s:Se aa wa g 1 ly f c y P sv si x p as) (dd:∃a,a≤20∧DieB g a) {kn:Loc→St→Prop} (k:∀l st,I28 aa wa n xs xh [] l st→kn l st) :
  cForL (fnSc 28) (.items (intL (rangeL 0 (n:Int)))) (.one "lap") (code (d+9) 28 [10] 0) (Src.items (intL (rangeL 0 (n:Int)))).all [some xs,some (.ref 3),some (.ref 4),x1,some (.ref aa.l),some xh,some (.ref wa.w),x2,q1,q2,q3,q4,q5,q6,q7,q8,q9,r1,r2,r3] g.st kn kr:=by
 rw[Q8]
 refine J7 (I28 aa wa n xs xh) ?_ ?_ _ _ _ ⟨0,g,ly,f,c,y,P,sv,si,x,p,as,Nat.zero_le _,rfl,s,dd,rfl,_,_,_,_,_,_,_,_,_,_,_,_,_,_,rfl⟩
 ·rintro v vs l _ ⟨j,g',ly',f',c',y',P',sv',si',x',p',as',hj,ev,s',⟨a,ha,db⟩,rfl,_,_,_,_,_,_,_,_,_,_,_,_,_,_,rfl⟩ kn' hk'
  have hj':j<n:=by
   apply Classical.byContradiction
   intro h
   rw[List.drop_eq_nil_of_le (by rw[List.length_range];exact Nat.le_of_not_lt h)] at ev
   injection ev
  rw[List.drop_eq_getElem_cons (by rw[List.length_range];exact hj'),List.getElem_range] at ev
  have ev:=List.cons.inj ev
  have next:∀g' ly' f' c' y' P' sv' si' x' p' as',Se aa wa g' (j+1+1) ly' f' c' y' P' sv' si' x' p' as'→(∃a,a≤20 * (j+1+1)∧DieB g' a)→∀x1 x2 q1 q2 q3 q4 q5 q6 q7 q8 q9 r1 r2 r3,
    kn' [some xs,some (.ref 3),some (.ref 4),x1,some (.ref aa.l),some xh,some (.ref wa.w),x2,q1,q2,q3,q4,q5,q6,q7,q8,q9,r1,r2,r3] g'.st:=
   fun g' ly' f' c' y' P' sv' si' x' p' as' s db _ _ _ _ _ _ _ _ _ _ _ _ _ _=>hk' _ _ ⟨j+1,g',ly',f',c',y',P',sv',si',x',p',as',hj',ev.2,s,db,rfl,_,_,_,_,_,_,_,_,_,_,_,_,_,_,rfl⟩
  refine⟨trivial,?_⟩
  rw[ev.1,w28_5_b,Jje]
  refine ltN (b:=4) (bD (fun h4=>?_) fun _=>?_)
  ·refine x11 (ways4 j h4) fun way hw=>?_
   exact⟨by decide,Jq hw (by show 4<cap;unfold cap;decide) (lap s' (Nat.lt_of_lt_of_le hj' (leK hn)) fun g2 ly2 f2 c2 y2 P2 sv2 si2 x2 p2 as2 s2 db2=>next g2 ly2 f2 c2 y2 P2 sv2 si2 x2 p2 as2 s2 db2 _ _ _ _ _ _ _ _ _ _ _ _ _ _)⟩
  ·refine c19 (m:=5) (d:=d+8) db (by omega) (by decide) fun g1 way _ f1 db1=>?_
   have s1:Se aa wa g1 (j+1) ly' f' c' y' P' sv' si' x' p' as':=by
    obtain ⟨o,w,bq,cl⟩:=s'
    exact⟨⟨⟨a+1,by exact Nat.succ_le_succ ha,db1⟩,o.lb.fr f1,o.lv.fr f1,o.wo.fr f1,o.h,o.s,o.md,o.lo,o.ta,o.rw,o.sis,o.svb,o.cb,o.chs,o.mks,o.pot,o.bk⟩,w,bq,cl⟩
   exact lap s1 (Nat.lt_of_lt_of_le hj' (leK hn)) fun g2 ly2 f2 c2 y2 P2 sv2 si2 x2 p2 as2 s2 db2=>next g2 ly2 f2 c2 y2 P2 sv2 si2 x2 p2 as2 s2 db2 _ _ _ _ _ _ _ _ _ _ _ _ _ _
 ·rintro l _ ⟨j,g',ly',f',c',y',P',sv',si',x',p',as',hj,ev,s',db,rfl,x1,x2,q1,q2,q3,q4,q5,q6,q7,q8,q9,r1,r2,r3,rfl⟩
  exact⟨trivial,k _ _ ⟨j,g',ly',f',c',y',P',sv',si',x',p',as',hj,ev,s',db,rfl,x1,x2,q1,q2,q3,q4,q5,q6,q7,q8,q9,r1,r2,r3,rfl⟩⟩
end Mine
namespace Mine
section
variable {g:G} {d n:Nat} {Q:KV}
theorem Xi (hs:g.st.size=n) (q:Nat×Nat) (k:∀g',g'.st.size=n+1→Fr [] g g'→At g' q n o→Q (.ref n) g'.st):alloc o g.st Q:=by
 subst hs;exact k (g.push o q) St.size_push Fr.push At.push
theorem Jho (hs:g.st.size=n) (q:Nat×Nat) (k:∀g',g'.st.size=n+1→Fr [] g g'→At g' q n (.dict [] 0)→Q (.ref n) g'.st):(0≤8∧0=0)∧dmake [] 0 [] fun o=>alloc o g.st Q:=⟨⟨by decide,rfl⟩,Xi hs q k⟩
theorem Jd3 (hs:g.st.size=n) (q:Nat×Nat) (k:∀g',g'.st.size=n+1→Fr [] g g'→At g' q n (.inst C [])→callN T d p (.ref n::vs) g'.st fun r st'=>r=.none∧Q (.ref n) st'):newC d p C vs g.st Q:=by
 subst hs;exact k (g.push (.inst C []) q) St.size_push Fr.push At.push
theorem setA {Q:St→Prop} (fs':List (Str×V)) (h:At g q x (.inst C fs)) (n:x≠0) (h1:T.fld C a=true) (hl:fs.length<64) (e:fput fs a v=fs') (k:∀g',Ch x g g'→At g' q x (.inst C fs')→Q g'.st) :
  setAttrV T (.ref x) a v g.st Q:=Q7 h n h1 hl fun g' c o=>k g' c (e▸o)
theorem c1100 (hs:g.st.size=6) (o:Fx g 5 (.inst (K 11) [])) (k:∀g',g'.st.size=10→Fr [5] g g'→BankB g' []→Q .none g'.st):callN T (d+1) (K 1100) [.ref 5] g.st Q:=by
 refine w1100.mpr (w1100_0.mpr ?_)
 refine⟨by decide,Xi hs (6,0) fun g1 s1 f1 h1=>setA [("nodes",.ref 6)] (o.fr f1) (by decide) (by kernel_rfl) (by show 0<64;decide) rfl fun g2 c2 o2=>?_⟩
 have t2:Fr [5] g1 g2:=c2.fr (At.fr o f1)
 refine Jho (c2.size.trans s1) (7,0) fun g3 s3 f3 h3=>setA [("nodes",.ref 6),("numbers",.ref 7)] (o2.fr f3) (by decide) (by kernel_rfl) (by show 1<64;decide) (by kernel_rfl) fun g4 c4 o4=>?_
 have t4:Fr [5] g3 g4:=c4.fr (o2.fr f3)
 refine⟨by decide,Xi (c4.size.trans s3) (8,0) fun g5 s5 f5 h5=>setA [("nodes",.ref 6),("numbers",.ref 7),("weights",.ref 8)] (o4.fr f5) (by decide) (by kernel_rfl) (by show 2<64;decide) (by kernel_rfl) fun g6 c6 o6=>?_⟩
 have t6:Fr [5] g5 g6:=c6.fr (o4.fr f5)
 refine⟨by decide,Xi (c6.size.trans s5) (9,0) fun g7 s7 f7 h7=>setA [("nodes",.ref 6),("numbers",.ref 7),("weights",.ref 8),("depths",.ref 9)] (o6.fr f7) (by decide) (by kernel_rfl) (by show 3<64;decide) (by kernel_rfl) fun g8 c8 o8=>?_⟩
 have t8:Fr [5] g7 g8:=c8.fr (o6.fr f7)
 have u68:Fr [5] g6 g8:=(f7.mono).trans t8
 have u48:Fr [5] g4 g8:=((f5.mono).trans t6).trans u68
 have u28:Fr [5] g2 g8:=((f3.mono).trans t4).trans u48
 have u18:Fr [5] g1 g8:=t2.trans u28
 exact k g8 (c8.size.trans s7) ((f1.mono).trans u18) ⟨o8,At.fr h1 u18,⟨0,(At.fr h3 t4).fr u48⟩,⟨[],(At.fr h5 t6).fr u68,rfl,fun i w h=>(by exact Jc h)⟩,⟨[],At.fr h7 t8,rfl,fun i w h=>(by exact Jc h)⟩⟩
noncomputable def u0:Uni:=⟨[],id,[],[]⟩
theorem c1300 (hs:g.st.size=11) (o:Fx g 10 (.inst (K 13) [])) (k:∀g',g'.st.size=14→Fr [10] g g'→UniB g' u0→Q .none g'.st):callN T (d+1) (K 1300) [.ref 10] g.st Q:=by
 refine w1300.mpr (w1300_0.mpr ?_)
 refine⟨by decide,Xi hs (11,0) fun g1 s1 f1 h1=>setA [("above",.ref 11)] (o.fr f1) (by decide) (by kernel_rfl) (by show 0<64;decide) rfl fun g2 c2 o2=>?_⟩
 have t2:Fr [10] g1 g2:=c2.fr (At.fr o f1)
 refine⟨by decide,Xi (c2.size.trans s1) (12,0) fun g3 s3 f3 h3=>setA [("above",.ref 11),("lots",.ref 12)] (o2.fr f3) (by decide) (by kernel_rfl) (by show 1<64;decide) (by kernel_rfl) fun g4 c4 o4=>?_⟩
 have t4:Fr [10] g3 g4:=c4.fr (o2.fr f3)
 refine⟨by decide,Xi (c4.size.trans s3) (13,0) fun g5 s5 f5 h5=>setA [("above",.ref 11),("lots",.ref 12),("merged",.ref 13)] (o4.fr f5) (by decide) (by kernel_rfl) (by show 2<64;decide) (by kernel_rfl) fun g6 c6 o6=>?_⟩
 have t6:Fr [10] g5 g6:=c6.fr (o4.fr f5)
 have u46:Fr [10] g4 g6:=(f5.mono).trans t6
 have u26:Fr [10] g2 g6:=((f3.mono).trans t4).trans u46
 have u16:Fr [10] g1 g6:=t2.trans u26
 exact k g6 (c6.size.trans s5) ((f1.mono).trans u16) ⟨o6,At.fr h1 u16,⟨[],(At.fr h3 t4).fr u46,rfl,fun i l h=>(by exact Jc h)⟩,At.fr h5 t6⟩
noncomputable def cc0:Core:=⟨[],u0,0,[],fun _=>[]⟩
noncomputable def y0:Dyn:=⟨[],0,[],[],0⟩
theorem hi0:HI cc0 [] [] []:=by
 refine⟨⟨.nil,fun i x h=>(by injection h),fun x h=>(by cases h),fun x h=>(by cases h),Nat.zero_le _⟩,⟨rfl,rfl,Nat.zero_le _,fun a p h=>(by injection h),fun _ _=>rfl,fun r l h=>(by injection h),.nil,fun x h=>(by cases h)⟩,
  ⟨fun n x h=>(by injection h),fun r hr=>absurd hr.1 (Nat.not_lt_zero _),fun n h=>(by cases h),fun n x h=>(by injection h),fun s m h=>(by cases h)⟩,fun G _ _ a b e=>congrArg G e,fun p h=>(by cases h),fun k m j a us h=>(by cases h)⟩
noncomputable def levP:List (Str×V):=[("bank",.ref 5),("unions",.ref 10),("edges",.ref 14),("forest",.ref 15),("known",.ref 16),("above",.ref 17),("waiting",.ref 18),("backs",N 0)]
theorem c1500 (hs:g.st.size=5) (o:Fx g 4 (.inst (K 17) [])) (k:∀g',g'.st.size=19→Fr [4,5,10] g g'→Fx g' 4 (.inst (K 17) levP)→BankB g' []→UniB g' u0→Fx g' 14 (.list [])→Fx g' 15 (.list [])→Fx g' 16 (.dict [] 0)→Fx g' 17 (.dict [] 0)→At g' (102,0) 18 (.list [])→Q .none g'.st) :
  callN T (d+2) (K 1500) [.ref 4] g.st Q:=by
 refine w1500.mpr (w1500_0.mpr ?_)
 refine Jd3 hs (5,0) fun g1 s1 f1 h1=>c1100 (d:=d) s1 h1 fun g2 s2 f2 b2=>⟨rfl,?_⟩
 have f02:Fr [5] g g2:=(f1.mono).trans f2
 refine setA (levP.take 1) (o.fr f02) (by decide) (by kernel_rfl) (by show 0<64;decide) rfl fun g3 c3 o3=>?_
 have t3:Fr [4] g2 g3:=c3.fr (o.fr f02)
 refine Jd3 (c3.size.trans s2) (10,0) fun g4 s4 f4 h4=>c1300 (d:=d) s4 h4 fun g5 s5 f5 b5=>⟨rfl,?_⟩
 have f35:Fr [10] g3 g5:=(f4.mono).trans f5
 refine setA (levP.take 2) (o3.fr f35) (by decide) (by kernel_rfl) (by show 1<64;decide) (by kernel_rfl) fun g6 c6 o6=>?_
 have t6:Fr [4] g5 g6:=c6.fr (o3.fr f35)
 refine⟨by decide,Xi (c6.size.trans s5) (14,0) fun g7 s7 f7 h7=>setA (levP.take 3) (o6.fr f7) (by decide) (by kernel_rfl) (by show 2<64;decide) (by kernel_rfl) fun g8 c8 o8=>?_⟩
 have t8:Fr [4] g7 g8:=c8.fr (o6.fr f7)
 refine⟨by decide,Xi (c8.size.trans s7) (15,0) fun g9 s9 f9 h9=>setA (levP.take 4) (o8.fr f9) (by decide) (by kernel_rfl) (by show 3<64;decide) (by kernel_rfl) fun ga ca oa=>?_⟩
 have ta:Fr [4] g9 ga:=ca.fr (o8.fr f9)
 refine Jho (ca.size.trans s9) (16,0) fun gb sb fb hb=>setA (levP.take 5) (oa.fr fb) (by decide) (by kernel_rfl) (by show 4<64;decide) (by kernel_rfl) fun gc cc oc=>?_
 have tc:Fr [4] gb gc:=cc.fr (oa.fr fb)
 refine Jho (cc.size.trans sb) (17,0) fun gd sd fd hd=>setA (levP.take 6) (oc.fr fd) (by decide) (by kernel_rfl) (by show 5<64;decide) (by kernel_rfl) fun ge ce oe=>?_
 have te:Fr [4] gd ge:=ce.fr (oc.fr fd)
 refine⟨by decide,Xi (ce.size.trans sd) (102,0) fun gf sf ff hf=>setA (levP.take 7) (oe.fr ff) (by decide) (by kernel_rfl) (by show 6<64;decide) (by kernel_rfl) fun gh ch oh=>?_⟩
 have th:Fr [4] gf gh:=ch.fr (oe.fr ff)
 refine setA levP oh (by decide) (by kernel_rfl) (by show 7<64;decide) (by kernel_rfl) fun gi ci oi=>?_
 have ti:Fr [4] gh gi:=ci.fr oh
 have vf:Fr [4] gf gi:=th.trans ti
 have ve:Fr [4] ge gi:=(ff.mono).trans vf
 have vc:Fr [4] gc gi:=((fd.mono).trans te).trans ve
 have va:Fr [4] ga gi:=((fb.mono).trans tc).trans vc
 have v8:Fr [4] g8 gi:=((f9.mono).trans ta).trans va
 have v6:Fr [4] g6 gi:=((f7.mono).trans t8).trans v8
 have v5:Fr [4] g5 gi:=t6.trans v6
 have v3:Fr [4,10] g3 gi:=(f35.mono).trans v5
 have v2:Fr [4,10] g2 gi:=(t3.mono).trans v3
 have v0:Fr [4,5,10] g gi:=(f02.mono).trans v2
 exact k gi (ci.size.trans (ch.size.trans sf)) v0 oi ((b2.fr t3).fr v3) (b5.fr v5) (At.fr (At.fr h7 t8) v8) (At.fr (At.fr h9 ta) va) (At.fr (At.fr hb tc) vc) (At.fr (At.fr hd te) ve) (At.fr hf vf)
noncomputable def lev0:List (Str×V):=levF 18 0 0
theorem c1700 (hs:g.st.size=5) (o:Fx g 4 (.inst (K 17) [])) (k:∀g',Fr [4,5,10] g g'→LvB g' cc0 y0→Q .none g'.st):callN T (d+3) (K 1700) [.ref 4] g.st Q:=by
 refine w1700.mpr (w1700_0.mpr ?_)
 refine⟨4,K 17,[],K 1500,rfl,o.2,by kernel_rfl,?_⟩
 refine c1500 (d:=d) hs o fun g1 s1 f1 o1 bb ub h14 h15 h16 h17 h18=>?_
 refine⟨by decide,Xi s1 (19,0) fun g2 s2 f2 h19=>setA (lev0.take 9) (o1.fr f2) (by decide) (by kernel_rfl) (by show 8<64;decide) (by kernel_rfl) fun g3 c3 o3=>?_⟩
 have t3:Fr [4] g2 g3:=c3.fr (o1.fr f2)
 refine⟨by decide,Xi (c3.size.trans s2) (20,0) fun g4 s4 f4 h20=>setA (lev0.take 10) (o3.fr f4) (by decide) (by kernel_rfl) (by show 9<64;decide) (by kernel_rfl) fun g5 c5 o5=>?_⟩
 have t5:Fr [4] g4 g5:=c5.fr (o3.fr f4)
 refine setA lev0 o5 (by decide) (by kernel_rfl) (by show 10<64;decide) (by kernel_rfl) fun g6 c6 o6=>?_
 have t6:Fr [4] g5 g6:=c6.fr o5
 have u4:Fr [4] g4 g6:=t5.trans t6
 have u3:Fr [4] g3 g6:=(f4.mono).trans u4
 have u2:Fr [4] g2 g6:=t3.trans u3
 have u1:Fr [4] g1 g6:=(f2.mono).trans u2
 refine k g6 (f1.trans u1) ⟨bb.fr u1,ub.fr u1,⟨[],At.fr h14 u1,rfl⟩,⟨[],At.fr h15 u1,rfl⟩,⟨0,At.fr h16 u1⟩,⟨[],0,At.fr h17 u1,⟨[],rfl,.nil,fun c=>⟨fun h=>(by cases h),fun h=>absurd h.1 (Nat.not_lt_zero _)⟩,fun c h=>(by cases h)⟩,fun c h=>absurd h.1 (Nat.not_lt_zero _)⟩,
  ⟨(At.fr h19 t3).fr u3,fun k m c a us h=>(by cases h)⟩,⟨18,o6,by decide,At.fr h18 u1,At.fr h20 u4,List.not_mem_nil,.nil,fun m h=>(by cases h)⟩⟩
end
end Mine
namespace Mine
noncomputable def lyM (aa:Adr) (m:Nat):List (Str×V):=[("heap",.ref 4),("beneath",.ref aa.be),("told",.ref aa.to),("ways",.ref aa.wy),("backs",.ref aa.ba),("many",N m),("turns",N 0)]
structure LyP (aa:Adr) (g:G) (m:Nat) (eb et ew ea:List (V×V)):Prop where
 nz:aa.l≠0∧aa.be≠0∧aa.to≠0∧aa.wy≠0∧aa.ba≠0
 o:At g (47,0) aa.l (.inst (K 7) (lyM aa m))
 be:∃n,At g (48,0) aa.be (.dict eb n)
 to:∃n,At g (49,0) aa.to (.dict et n)
 wy:∃n,At g (50,0) aa.wy (.dict ew n)
 ba:∃n,At g (51,0) aa.ba (.dict ea n)
theorem LyP.fr (b:LyP aa g m eb et ew ea) (f:Fr W g g') (h:47∉W∧48∉W∧49∉W∧50∉W∧51∉W:=by decide):LyP aa g' m eb et ew ea:=
 ⟨b.nz,b.o.fr f h.1,b.be.imp fun _ x=>x.fr f h.2.1,b.to.imp fun _ x=>x.fr f h.2.2.1,b.wy.imp fun _ x=>x.fr f h.2.2.2.1,b.ba.imp fun _ x=>x.fr f h.2.2.2.2⟩
theorem c700 (n0:n≠0) (o:At g (47,0) n (.inst (K 7) [])) (k:∀g' aa,aa.l=n→Fr [47] g g'→LyP aa g' 0 [] [] [] []→Q .none g'.st):callN T (d+1) (K 700) [.ref n,.ref 4] g.st Q:=by
 refine w700.mpr (w700_0.mpr ?_)
 refine setA [("heap",.ref 4)] o n0 (by kernel_rfl) (by show 0<64;decide) rfl fun g1 c1 o1=>⟨⟨by decide,rfl⟩,Jbv (48,0) fun g2 b hb f2 h2=>?_⟩
 have t1:Fr [47] g g1:=c1.fr o
 refine setA [("heap",.ref 4),("beneath",.ref b)] (o1.fr f2) n0 (by kernel_rfl) (by show 1<64;decide) (by kernel_rfl) fun g3 c3 o3=>⟨⟨by decide,rfl⟩,Jbv (49,0) fun g4 t ht f4 h4=>?_⟩
 have t3:Fr [47] g2 g3:=c3.fr (o1.fr f2)
 refine setA [("heap",.ref 4),("beneath",.ref b),("told",.ref t)] (o3.fr f4) n0 (by kernel_rfl) (by show 2<64;decide) (by kernel_rfl) fun g5 c5 o5=>⟨⟨by decide,rfl⟩,Jbv (50,0) fun g6 w hw f6 h6=>?_⟩
 have t5:Fr [47] g4 g5:=c5.fr (o3.fr f4)
 refine setA [("heap",.ref 4),("beneath",.ref b),("told",.ref t),("ways",.ref w)] (o5.fr f6) n0 (by kernel_rfl) (by show 3<64;decide) (by kernel_rfl) fun g7 c7 o7=>⟨⟨by decide,rfl⟩,Jbv (51,0) fun g8 a ha f8 h8=>?_⟩
 have t7:Fr [47] g6 g7:=c7.fr (o5.fr f6)
 refine setA [("heap",.ref 4),("beneath",.ref b),("told",.ref t),("ways",.ref w),("backs",.ref a)] (o7.fr f8) n0 (by kernel_rfl) (by show 4<64;decide) (by kernel_rfl) fun g9 c9 o9=>?_
 have t9:Fr [47] g8 g9:=c9.fr (o7.fr f8)
 refine setA [("heap",.ref 4),("beneath",.ref b),("told",.ref t),("ways",.ref w),("backs",.ref a),("many",N 0)] o9 n0 (by kernel_rfl) (by show 5<64;decide) (by kernel_rfl) fun ga ca oa=>?_
 have ta:Fr [47] g9 ga:=ca.fr o9
 refine setA (lyM ⟨n,b,t,w,a⟩ 0) oa n0 (by kernel_rfl) (by show 6<64;decide) (by kernel_rfl) fun gb cb ob=>?_
 have u8:Fr [47] g8 gb:=(t9.trans ta).trans (cb.fr oa)
 have u6:Fr [47] g6 gb:=(t7.trans f8).trans u8
 have u4:Fr [47] g4 gb:=(t5.trans f6).trans u6
 have u2:Fr [47] g2 gb:=(t3.trans f4).trans u4
 have s1:=o1.lt
 have s3:=o3.lt
 have s5:=o5.lt
 have s7:=o7.lt
 exact k gb ⟨n,b,t,w,a⟩ rfl ((t1.trans f2).trans u2) ⟨⟨n0,by show b≠0;omega,by show t≠0;omega,by show w≠0;omega,by show a≠0;omega⟩,ob,⟨0,h2.fr u2⟩,⟨0,h4.fr u4⟩,⟨0,h6.fr u6⟩,⟨0,h8.fr u8⟩⟩
noncomputable def WN:List Nat:=[47,48,49,50,51]
theorem Jap (h:At g q z (.dict es n)) (z0:z≠0) (hk:es.map (·.1)=natL (List.range m)) (hm:m<2) (k:∀g',Ch z g g'→(∃n',At g' q z (.dict (es++[(N m,v)]) n'))→Q g'.st):setItemV (.ref z) (N m) v g.st Q:=by
 refine J2 h z0 (Jt hk) (by rw[Wk hk,List.length_range];exact cap5 (leK (Nat.le_of_lt hm))) fun g' c h'=>?_
 rw[W0 (X0.mpr (by rw[hk,W5,List.mem_range];exact Nat.lt_irrefl _))] at h'
 exact k g' c ⟨_,h'⟩
section
variable {aa:Adr} {g:G} {d m bk md w:Nat} {eb et ew ea:List (V×V)} {Q:KV}
theorem c702 (b:LyP aa g m eb et ew ea) (t:Fx g 4 (levO w bk md)) (hm:m<2) (kb:eb.map (·.1)=natL (List.range m)) (kt:et.map (·.1)=natL (List.range m)) (kw:ew.map (·.1)=natL (List.range m)) (ka:ea.map (·.1)=natL (List.range m))
  (hL:∀l,L=some l→∃v,dget eb (N l)=some v)
  (k:∀g' zt zw,Fr WN g g'→zt≠0→zw≠0→At g' (104,m) zt (.list [])→At g' (103,m) zw (.dict [] 0)→LyP aa g' (m+1) (eb++[(N m,layV L)]) (et++[(N m,.ref zt)]) (ew++[(N m,.ref zw)]) (ea++[(N m,N bk)])→Q (N m) g'.st) :
  callN T (d+2) (K 702) [.ref aa.l,layV L] g.st Q:=by
 obtain ⟨nz,o,⟨nb,hb⟩,⟨nt,ht⟩,⟨nw,hw⟩,⟨na,ha⟩⟩:=b
 have s0:=t.lt
 have at':∀{g':G} {m:Nat} {a:Str} {v:V} {Q:KV},At g' (47,0) aa.l (.inst (K 7) (lyM aa m))→T.fld (K 7) a=true→fget (lyM aa m) a=some v→Q v g'.st→attrV T (.ref aa.l) a g'.st Q:=fun o h1 h2 k=>Js o h1 h2 k
 refine w702.mpr (w702_0.mpr ?_)
 refine Wt o (p:=K 701) (by kernel_rfl) (by kernel_rfl) ?_
 have want:∀{Q:KV},Q .none g.st→callN T (d+1) (K 701) [.ref aa.l,layV L] g.st Q:=fun {Q} kq=>by
  refine w701.mpr (Jlx.mpr ?_)
  cases L with
  |none=>
   refine neI ?_
   rw[decide_eq_true rfl]
   exact bF kq
  |some l=>
   obtain ⟨v,hv⟩:=hL l rfl
   refine neI ?_
   rw[decide_eq_false (by omega)]
   exact bT (at' o (by kernel_rfl) (by kernel_rfl) (Jk2 hb (Jt kb) hv (bF kq)))
 refine want (at' o (by kernel_rfl) (by kernel_rfl) (addN (a:=m) (b:=1) (Nat.succ_le_succ (Nat.lt_of_lt_of_le hm (by decide))) (setA (lyM aa (m+1)) o nz.1 (by kernel_rfl) (by show 7<64;decide) (by kernel_rfl) fun g1 c1 o1=>?_)))
 have f1:Fr [47] g g1:=c1.fr o
 refine at' o1 (by kernel_rfl) (by kernel_rfl) (Jap (hb.fr f1) nz.2.1 kb hm fun g2 c2 w2_=>x11 w2_ fun nb2 hb2=>⟨by decide,Jj (104,m) fun g3 zt hzt f3 h3=>?_⟩)
 have f2:Fr [48] g1 g2:=c2.fr (hb.fr f1)
 have f13:Fr [48] g1 g3:=f2.trans f3
 have o3:=o1.fr f13
 have ht3:=(ht.fr f1).fr f13
 refine at' o3 (by kernel_rfl) (by kernel_rfl) (Jap ht3 nz.2.2.1 kt hm fun g4 c4 w2_=>x11 w2_ fun nt4 ht4=>⟨⟨by decide,rfl⟩,Jbv (103,m) fun g5 zw hzw f5 h5=>?_⟩)
 have f4:Fr [49] g3 g4:=c4.fr ht3
 have f35:Fr [49] g3 g5:=f4.trans f5
 have o5:=o3.fr f35
 have hw5:=((hw.fr f1).fr f13).fr f35
 refine at' o5 (by kernel_rfl) (by kernel_rfl) (Jap hw5 nz.2.2.2.1 kw hm fun g6 c6 w2_=>x11 w2_ fun nw6 hw6=>?_)
 have f6:Fr [50] g5 g6:=c6.fr hw5
 have o6:=o5.fr f6
 have t6:=(((t.fr f1).fr f13).fr f35).fr f6
 have ha6:=(((ha.fr f1).fr f13).fr f35).fr f6
 refine at' o6 (by kernel_rfl) (by kernel_rfl) (Xw t6 (at' o6 (by kernel_rfl) (by kernel_rfl) (Jap ha6 nz.2.2.2.2 ka hm fun g7 c7 ha7=>?_)))
 have f7:Fr [51] g6 g7:=c7.fr ha6
 have s1:=f1.1
 have s3:=f13.1
 have s2:=f2.1
 have s4:=f4.1
 refine k g7 zt zw ?_ (by omega) (by omega) (((h3.fr f35).fr f6).fr f7) ((h5.fr f6).fr f7) ⟨nz,o6.fr f7,⟨_,((At.fr hb2 f3).fr f35 |>.fr f6).fr f7⟩,⟨_,((At.fr ht4 f5).fr f6).fr f7⟩,⟨_,hw6.fr f7⟩,ha7⟩
 have w1:Fr WN g g3:=(f1.mono).trans f13
 exact((w1.trans f35).trans f6).trans f7
end
end Mine
namespace Mine
noncomputable def nsAB:List Node:=[⟨"a",[]⟩,⟨"b",[]⟩]
theorem HI.alone (h:HI c w chs []):c.u.merged=[]:=by
 have inj:∀a,c.u.F a=a:=fun a=>h.below id (Jcg h.ns) (fun _ h=>(by cases h)) _ _ (h.rep a).2
 cases q:c.u.merged with
 |nil=>rfl
 |cons p r=>exact absurd (inj p.2) (h.u.mgone p.2 (by rw[q];exact .head _)).2
theorem puts (lv:LvB g cc0 y0)
  (k:∀g' c y x1,Fr WH g g'→LvB g' c y→c.ns=nsAB→HI c y.w y.chs []→Stk y.mks y.chs c []→y.w=[]→y.bk=0→y.mks=[]→y.md=2→c.edges≤2→c.known.length≤2→y.chs.length≤4→Pot c y≤1176→
   kn [some xs,some xd,some (.ref 4),x1,x2,x3,x4,x5,q1,q2,q3,q4,q5,q6,q7,q8,q9,r1,r2,r3] g'.st) :
  cForL (fnSc 28) (.items [.str "a",.str "b"]) (.one "op") (code (d+8) 28 [2] 0) [.str "a",.str "b"] [some xs,some xd,some (.ref 4),x1,x2,x3,x4,x5,q1,q2,q3,q4,q5,q6,q7,q8,q9,r1,r2,r3] g.st kn kr:=by
 refine x11 lv.top fun wA t=>?_
 refine⟨trivial,?_⟩
 refine Jfu.mpr (Jft.mpr ?_)
 refine Jg t.o (p:=K 1504) (by kernel_rfl) (by kernel_rfl) ⟨by decide,?_⟩
 have on1:NsOk (cc0.ns++[⟨"a",[]⟩]):=hi0.ns.snoc List.not_mem_nil (by simp [OpOk]) (fun q h=>by cases h) (by simp) (by show 0<24;decide)
 refine Jcj (op:="a") lv hi0 (.nil [] cc0) rfl on1 List.not_mem_nil (Nat.zero_le _) (Nat.zero_le _) (Nat.zero_le _) (Nat.zero_le _) (Nat.zero_le _) fun g1 c1 y1 f1 lv1 h1 s1 a1 a2 a3 a4 a5 a6 a7 a8=>⟨trivial,?_⟩
 refine x11 lv1.top fun wB t1=>?_
 refine Jfu.mpr (Jft.mpr ?_)
 refine Jg t1.o (p:=K 1504) (by kernel_rfl) (by kernel_rfl) ⟨by decide,?_⟩
 have e1:c1.ns=[⟨"a",[]⟩]:=a4
 have nb:(⟨"b",[]⟩:Node)∉c1.ns:=by rw[e1];decide +kernel
 have on2:NsOk (c1.ns++[⟨"b",[]⟩]):=h1.ns.snoc nb (by simp [OpOk]) (fun q h=>by cases h) (by simp) (by rw[e1];decide)
 have p0:Pot cc0 y0=1176:=rfl
 have a5:c1.edges≤1:=a5
 have a6:c1.known.length≤1:=a6
 have a7:y1.chs.length≤2:=a7
 have a2:y1.mks=[]:=a2
 refine Jcj (op:="b") lv1 h1 s1 (by rw[a3,e1];rfl) on2 nb (leK a5) (leK a6) (leK a7) (Jkx (c:=c1) (Nat.le_trans a8 (Nat.le_of_eq p0))) (by rw[a2];exact Nat.zero_le _) fun g2 c2 y2 f2 lv2 h2 s2 b1 b2 b3 b4 b5 b6 b7 b8=>⟨trivial,?_⟩
 have w2:y2.w=[]:=by
  have:=h2.alone
  have hp:Pot c2 y2≤1176:=Nat.le_trans b8 (Nat.le_trans a8 (Nat.le_of_eq p0))
  unfold Pot at hp
  rw[this,List.length_nil] at hp
  exact List.eq_nil_of_length_eq_zero (by omega)
 exact k g2 c2 y2 _ (f1.trans f2) lv2 (by rw[b4,e1];rfl) h2 s2 w2 (b1.trans a1) (b2.trans a2) (by rw[b3,e1];rfl) (Nat.le_trans b5 (ltK a5)) (Nat.le_trans b6 (ltK a6)) (Nat.le_trans b7 (Nat.add_le_add_right a7 _)) (Nat.le_trans b8 (Nat.le_trans a8 (Nat.le_of_eq p0)))
theorem comp_st {α:Type} {sc:Scope} {src:Src} {t:Tg} {ifs:XB} {elt:X} {lo:Loc} {K:List V→St→Prop} {st:St} (v f:α→V) (as:List α) (hl:as.length<cap) (ok:src.ok st) (hi:∀l st (Q:Bool→St→Prop),ifs l st Q=Q true st)
  (he:∀a∈as,∀R:V→St→Prop,R (f a) st→bindT sc t (v a) lo st fun l=>elt l st fun y st=>R y st) (k:K (as.map f) st):compL sc src t ifs elt lo (as.map v) [] st K:=by
 refine X3 (fun r acc st'=>st'=st∧∃a b,as=a++b∧r=b.map v∧acc=a.map f) ?_ ?_ _ [] st ⟨rfl,[],as,rfl,rfl,rfl⟩
 ·rintro w r acc s ⟨es,a,b,e,er,rfl⟩ k' hk
  subst es
  cases b with
  |nil=>injection er
  |cons x b=>
   have er:=List.cons.inj er
   refine⟨ok,?_⟩
   have h:=he x (by rw[e];simp) (fun y st=>(a.map f).length<cap∧k' (a.map f++[y]) st) ⟨by rw[List.length_map];rw[e,List.length_append] at hl;exact Nat.lt_of_add_right_lt hl,hk _ _ ⟨rfl,a++[x],b,by rw[e];simp,er.2,by rw[List.map_append];rfl⟩⟩
   rw[er.1]
   have:(fun l=>ifs l s fun b st=>bothP b (elt l st fun y st=>(a.map f).length<cap∧k' (a.map f++[y]) st) (k' (a.map f) st))=fun l=>elt l s fun y st=>(a.map f).length<cap∧k' (a.map f++[y]) st:=by
    funext l;rw[hi];rfl
   rw[this];exact h
 ·rintro acc _ ⟨rfl,a,b,e,er,rfl⟩
  have:b=[]:=by cases b with
   |nil=>rfl
   |cons _ _=>injection er
  subst this
  rw[List.append_nil] at e
  exact⟨ok,e▸k⟩
theorem new_die {st:St} {Q:KV} (k:alloc (.dict (dieD 0) 2) st Q):dmake [] 0 [(.str "row",.ref 2),(.str "at",.int 0)] fun o=>alloc o st Q:=by
 refine⟨⟨.str,rfl,fun _ h=>(by cases h)⟩,⟨.str,rfl,fun e h=>by obtain rfl:=List.mem_singleton.mp h;rfl⟩,?_⟩
 show alloc (.dict (dput (dput [] (.str "row") (.ref 2)) (.str "at") (.int 0)) (dep (dput [] (.str "row") (.ref 2)) (.str "at") (dep [] (.str "row") 0))) st Q
 rw[show dput (dput [] (.str "row") (.ref 2)) (.str "at") (.int 0)=dieD 0 by kernel_rfl,show dep (dput [] (.str "row") (.ref 2)) (.str "at") (dep [] (.str "row") 0)=2 by kernel_rfl]
 exact k
theorem new_as {st:St} {Q:KV} {a b:V} (k:alloc (.dict [(N 0,a),(N 1,b)] 2) st Q):dmake [] 0 [(.int 0,a),(.int 1,b)] fun o=>alloc o st Q:=by
 refine⟨⟨.int,rfl,fun _ h=>(by cases h)⟩,⟨.int,rfl,fun e h=>by obtain rfl:=List.mem_singleton.mp h;rfl⟩,?_⟩
 show alloc (.dict (dput (dput [] (.int 0) a) (.int 1) b) (dep (dput [] (.int 0) a) (.int 1) (dep [] (.int 0) 0))) st Q
 rw[show dput (dput [] (.int 0) a) (.int 1) b=[(N 0,a),(N 1,b)] by kernel_rfl,show dep (dput [] (.int 0) a) (.int 1) (dep [] (.int 0) 0)=2 by kernel_rfl]
 exact k
theorem new_wo {st:St} {Q:KV} {aa:Adr} {wa:WAd} {hi:Bool} (k:alloc (.dict (woD aa wa hi) 4) st Q):dmake [] 0 [(.str "layers",.ref aa.l),(.str "is_high",.bool hi),(.str "assumed",.ref wa.a),(.str "states",.ref wa.s)] fun o=>alloc o st Q:=by
 have e1:dput [] (.str "layers") (.ref aa.l)=[(V.str "layers",V.ref aa.l)]:=rfl
 have e2:dput [(V.str "layers",V.ref aa.l)] (.str "is_high") (.bool hi)=[(V.str "layers",V.ref aa.l),(.str "is_high",.bool hi)]:=by kernel_rfl
 have e3:dput [(V.str "layers",V.ref aa.l),(.str "is_high",.bool hi)] (.str "assumed") (.ref wa.a)=[(V.str "layers",V.ref aa.l),(.str "is_high",.bool hi),(.str "assumed",.ref wa.a)]:=by kernel_rfl
 have e4:dput [(V.str "layers",V.ref aa.l),(.str "is_high",.bool hi),(.str "assumed",.ref wa.a)] (.str "states") (.ref wa.s)=woD aa wa hi:=by kernel_rfl
 have k4:∀(s:Str) (es:List (V×V)),(∀e∈es,e∈woD aa wa hi)→keysOk (.str s) es:=fun s es h=>⟨.str,rfl,fun e he=>wo_k e (h e he)⟩
 refine⟨k4 _ _ (fun _ h=>(by cases h)),?_⟩
 rw[e1]
 refine⟨k4 _ _ (fun e h=>by rw[List.mem_singleton.mp h];exact .head _),?_⟩
 rw[e2]
 refine⟨k4 _ _ (fun e h=>?_),?_⟩
 ·rcases List.mem_cons.mp h with rfl|h
  ·exact .head _
  ·rw[List.mem_singleton.mp h];exact .tail _ (.head _)
 rw[e3]
 refine⟨k4 _ _ (fun e h=>?_),?_⟩
 ·rcases List.mem_cons.mp h with rfl|h
  ·exact .head _
  rcases List.mem_cons.mp h with rfl|h
  ·exact .tail _ (.head _)
  ·rw[List.mem_singleton.mp h];exact .tail _ (.tail _ (.head _))
 rw[e4,show dep [(V.str "layers",V.ref aa.l),(.str "is_high",.bool hi),(.str "assumed",.ref wa.a)] (.str "states") (dep [(V.str "layers",V.ref aa.l),(.str "is_high",.bool hi)] (.str "assumed") (dep [(V.str "layers",V.ref aa.l)] (.str "is_high") (dep [] (.str "layers") 0)))=4 by kernel_rfl]
 exact k
theorem Jlm {A:V→Prop} (k:A (layV (nxt hi 1))):bothP hi (A (.int 0)) (A (.int (-1))):=by cases hi<;>exact k
noncomputable def lyI (hi:Bool):Ly:=⟨hi,0,fun _=>0,fun _=>[],fun _=>[]⟩
theorem LyP.done (b:LyP aa g 2 [(N 0,layV none),(N 1,layV (nxt hi 1))] [(N 0,.ref t0),(N 1,.ref t1)] [(N 0,.ref w0),(N 1,.ref w1)] [(N 0,N 0),(N 1,N 0)])
  (n0:t0≠0) (n1:t1≠0) (m0:w0≠0) (m1:w1≠0) (a0:At g (104,0) t0 (.list [])) (a1:At g (104,1) t1 (.list [])) (b0:At g (103,0) w0 (.dict [] 0)) (b1:At g (103,1) w1 (.dict [] 0)):LyB aa g (lyI hi):=by
 obtain ⟨nz,o,be,⟨nt,to⟩,⟨nw,wy⟩,ba⟩:=b
 refine⟨nz,o,?_,⟨fun l=>if l=0 then t0 else t1,nt,to,fun l hl=>?_⟩,⟨fun l=>if l=0 then w0 else w1,nw,wy,fun l hl=>?_⟩,ba,fun l hl r hr=>(by cases hr)⟩
 ·cases hi<;>exact be
 ·rcases lt2 hl with rfl|rfl
  ·exact⟨n0,a0⟩
  ·exact⟨n1,a1⟩
 ·rcases lt2 hl with rfl|rfl
  ·exact⟨m0,0,b0⟩
  ·exact⟨m1,0,b1⟩
theorem FL_id:FL F (fun _=>id) hi L a=F a:=by
 unfold FL
 generalize (up hi L).reverse=l
 generalize F a=x
 induction l with
 |nil=>rfl
 |cons _ _ ih=>exact ih
theorem PL_nil:PL [] (lyI hi) L=[]:=by
 cases L with
 |none=>rfl
 |some l=>
  show (if l=1∧hi=true then []++[] else [])++[]=[]
  split<;>rfl
theorem Se.init (ha:a≤2) (db:DieB g a) (lb:LyB aa g (lyI hi)) (lv:LvB g c y) (wo:WoB aa wa g hi (fun _=>[]) [(x,p,nsAB,[])]) (ens:c.ns=nsAB) (h:HI c y.w y.chs []) (s:Stk y.mks y.chs c []) (ew:y.w=[]) (ebk:y.bk=0) (emk:y.mks=[])
  (emd:y.md=2) (q1:c.edges≤2) (q2:c.known.length≤2) (q3:y.chs.length≤4) (q4:Pot c y≤1176):Se aa wa g 1 (lyI hi) (fun _=>id) c y [] [] [] x p (fun _=>[]):=by
 have hh:=h
 rw[ew] at hh
 refine⟨⟨⟨a,by exact leK ha,db⟩,lb,lv,by rw[ens];exact wo,h,s,by rw[emd,ens];rfl,⟨fun i _=>WF.nil,fun i _ r hr=>(by cases hr),fun i _ _ r hr=>(by cases hr),fun i _=>Nat.zero_le _,fun i _=>Nat.zero_le _,Nat.zero_le _⟩,fun l _=>rfl,fun l _ r hr=>(by cases hr),rfl,fun q hq=>(by cases hq),
  ⟨by exact leK q1,by exact leK q2,by rw[ens];exact Nat.le_refl _,Nat.zero_le _,fun q hq=>(by cases hq),by rw[ens];exact⟨rfl,rfl⟩⟩,by exact leK q3,by rw[emk];exact Nat.zero_le _,q4,by exact leK (Nat.le_of_eq ebk)⟩,ew,fun i _=>ebk.symm,fun L hL=>?_⟩
 rw[PL_nil,show FL c.u.F (fun _=>id) (lyI hi).hi L=c.u.F from funext fun a=>FL_id]
 exact hh.closed
theorem Jla (db:DieB g 0) (lv:LvB g c y) (ens:c.ns=nsAB) (h:HI c y.w y.chs []) (s:Stk y.mks y.chs c []) (ew:y.w=[]) (ebk:y.bk=0) (emk:y.mks=[])
  (emd:y.md=2) (b1:c.edges≤2) (b2:c.known.length≤2) (b3:y.chs.length≤4) (b4:Pot c y≤1176) (k:∀g':G,kr (.bool true) g'.st) :
  code (d+9) 28 [] 2 [some xs,some (.ref 3),some (.ref 4),x1,x2,x3,x4,x5,q1,q2,q3,q4,q5,q6,q7,q8,q9,r1,r2,r3] g.st kn kr:=by
 refine x11 lv.top fun wA t=>?_
 have s0:=t.o.lt
 refine w28_2.mpr ?_
 refine⟨by decide,Jd3 rfl (47,0) fun g1 e1 f1 h1=>c700 (d:=d+8) (by omega) h1 fun g2 aa ea f2 lp2=>⟨rfl,?_⟩⟩
 rw[←ea]
 have f02:Fr [47] g g2:=(f1.mono).trans f2
 refine c19 (m:=2) (d:=d+8) (db.fr f02) (by decide) (by decide) fun g3 r _ f3 db3=>eqN (b:=0) ?_
 generalize decide (r=0)=hi
 have lp3:=lp2.fr f3
 have f03:Fr [3,47] g g3:=(f02.mono).trans f3
 have t3:=t.fr f03
 have o3:=t3.o
 rw[ebk] at o3
 refine Wt lp3.o (p:=K 702) (by kernel_rfl) (by kernel_rfl) (c702 (L:=none) (d:=d+7) lp3 o3 (by decide) rfl rfl rfl rfl (fun l e=>by exact Jc e) fun g4 t0 w0 f4 nt0 nw0 ht0 hw0 lp4=>neN (a:=0) (b:=0) (bDn (fun ne=>absurd rfl ne) fun _=>?_))
 have o4:=o3.fr f4
 refine Wt lp4.o (p:=K 702) (by kernel_rfl) (by kernel_rfl) (blP (Jlm (A:=fun v=>callN _ _ _ [_,v] _ _) ?_))
 refine c702 (d:=d+7) lp4 o4 (by decide) rfl rfl rfl rfl (fun l e=>?_) fun g5 t1 w1 f5 nt1 nw1 ht1 hw1 lp5=>neN (a:=1) (b:=1) (bDn (fun ne=>absurd rfl ne) fun _=>?_)
 ·have:l=0:=by
   unfold nxt at e
   split at e
   ·obtain rfl:=Option.some.inj e;rfl
   ·exact Jc e
  subst this
  exact⟨layV none,by kernel_rfl⟩
 refine⟨⟨by decide,rfl⟩,⟨by decide,rfl⟩,by decide,Jj (105,0) fun g6 z0 e6 f6 h6=>⟨by decide,Jj (105,1) fun g7 z1 e7 f7 h7=>new_as (Jj (58,0) fun g8 za e8 f8 h8=>⟨by decide,by decide,by decide,by decide,by decide,Jj (0,0) fun g9 zx e9 f9 h9=>⟨by decide,Jj (0,0) fun ga zp ea' fa ha=>Jj (61,0) fun gb zs eb fb hb=>?_⟩⟩)⟩⟩
 refine new_wo (wa:=⟨0,za,zs⟩) (Jj (62,0) fun gc zw ec fc hc=>?_)
 have u8:Fr [] g8 gc:=((f9.trans fa).trans fb).trans fc
 have u7:Fr [] g7 gc:=f8.trans u8
 have u6:Fr [] g6 gc:=f7.trans u7
 have u5:Fr [] g5 gc:=f6.trans u6
 have u4:Fr WN g4 gc:=f5.trans u5
 have u3:Fr WN g3 gc:=f4.trans u4
 have u0:Fr (3::WN) g gc:=(f03.mono).trans u3
 have sz:4<g5.st.size:=by have:=f03.1;have:=f4.1;have:=f5.1;omega
 have lb:LyB aa gc (lyI hi):=LyP.done (lp5.fr u5) nt0 nt1 nw0 nw1 ((ht0.fr f5).fr u5) (ht1.fr u5) ((hw0.fr f5).fr u5) (hw1.fr u5)
 have wo:WoB aa ⟨zw,za,zs⟩ gc hi (fun _=>[]) [(zx,zp,nsAB,[])]:=by
  have l6:=h6.lt
  have l7:=h7.lt
  have l8:=h8.lt
  have l9:=h9.lt
  have la:=ha.lt
  refine⟨⟨by show za≠0;exact n0 e8 l7,by show zs≠0;omega⟩,⟨4,hc⟩,⟨fun l=>if l=0 then z0 else z1,2,h8.fr u8,fun l hl=>?_⟩,hb.fr fc,fun q hq=>?_⟩
  ·rcases lt2 hl with rfl|rfl
   ·exact⟨by show z0≠0;exact n0 e6 sz,h6.fr u6⟩
   ·exact⟨by show z1≠0;exact n0 e7 l6,h7.fr u7⟩
  ·rw[List.mem_singleton.mp hq]
   exact⟨h9.fr ((fa.trans fb).trans fc),ha.fr (fb.trans fc)⟩
 refine c19 (m:=3) (d:=d+8) (db3.fr u3) (by decide) (by decide) fun gd n hn fd dbd=>addN (a:=4) (by omega) (rangeN (cap5 (by omega)) ⟨trivial,?_⟩)
 have st:=Se.init (wa:=⟨zw,za,zs⟩) (by decide) dbd (lb.fr fd) ((lv.fr u0).fr fd) (wo.fr fd) ens h s ew ebk emk emd b1 b2 b3 b4
 refine laps (aa:=aa) (wa:=⟨zw,za,zs⟩) (d:=d) (by omega) st ⟨2,by decide,dbd⟩ ?_
 rintro l _ ⟨j,g',ly',f',c',y',P',sv',si',x',p',as',hj,ev,s',db',rfl,x1,x2,q1,q2,q3,q4,q5,q6,q7,q8,q9,r1,r2,r3,rfl⟩
 exact law_end (d:=d+5) s' (by omega) k
theorem c28 (h0:At g (0,0) 0 (.list (intL is))) (hs:g.st.size=1) (hl:is.length≤63) (k:∀g':G,Q (.bool true) g'.st):callN T (d+10) (K 28) [.ref 0] g.st Q:=by
 refine w28.mpr (w28_0.mpr ?_)
 have hil:(intL is).length<cap:=by unfold intL;rw[List.length_map];exact cap5 (leK hl)
 refine⟨by decide,⟨by decide,rfl⟩,Jg3 (n:=50) h0 hil (Xi hs (1,0) fun g1 s1 f1 h1=>Jy h1 ⟨rfl,?_⟩)⟩
 show compL _ (.list 1 ((intL is).take 50)) _ _ _ _ ((intL is).take 50) _ _ _
 have et:(intL is).take 50=(is.take 50).map V.int:=by unfold intL;rw[List.map_take]
 have ok:=h1.2
 rw[et] at ok ⊢
 refine comp_st V.int (fun i=>N (i.fmod 1000003).toNat) (is.take 50) (by rw[List.length_take];exact cap5 (by omega)) ok (fun _ _ _=>w28_i0) (fun i _ R hR=>?_) ?_
 ·refine w28_b0.mpr (w28_e0.mpr ?_)
  refine⟨i,rfl,by decide,?_⟩
  rw[show Int.fmod i 1000003=(((i.fmod 1000003).toNat:Nat):Int) from(Int.toNat_of_nonneg (Int.fmod_nonneg_of_pos i (by decide))).symm]
  exact hR
 ·refine Xi s1 (2,0) fun g2 s2 f2 h2=>new_die (Xi s2 (3,0) fun g3 s3 f3 h3=>Jd3 s3 (4,0) fun g4 s4 f4 h4=>c1700 (d:=d+6) s4 h4 fun g5 f5 lv5=>⟨rfl,by decide,Qc ⟨trivial,?_⟩⟩)
  have db5:DieB g5 0:=⟨⟨2,(At.fr h3 f4).fr f5⟩,⟨(is.take 50).map fun i=>(i.fmod 1000003).toNat,((At.fr h2 f3).fr f4).fr f5 |> fun h=>by
   unfold natL;rw[List.map_map];exact h,by rw[List.length_map,List.length_take];exact Nat.min_le_left _ _⟩⟩
  refine puts (d:=d+1) lv5 fun g6 c y x1 f6 lv6 e1 e2 e3 e4 e5 e6 e7 e8 e9 e10 e11=>?_
  exact Jla (d:=d) (db5.fr f6) lv6 e1 e2 e3 e4 e5 e6 e7 e8 e9 e10 e11 k
noncomputable abbrev pw:Program:=PySem.Challenge.pw_sa0050_01
noncomputable abbrev stepOkF:Nat→Option Value→Thread→Bool:=PySem.W.Fast.tw6613529449190102663
noncomputable abbrev stepTF:(Code→Sem Fin)→Program→World→SharedT→Thread→Option (SharedT×Thread):=PySem.W.Fast.tw10156331382660048174
noncomputable abbrev denF:(String→Option Builtin)→Code→Sem Fin:=PySem.W.Fast.tw11892475500146522536
noncomputable abbrev tabF:String→Option Builtin:=PySem.W.Fast.tw14364793385576792824
noncomputable def runT (p:Program) (w:World) (n₀:Nat) (ann:Option Value):Nat→SharedT→Thread→Option SharedT
 |0,_,_=>none
 |n+1,s,t=>match through t with
  |true=>some s
  |false=>match stepOkF n₀ ann t with
   |false=>none
   |true=>match stepTF (denF tabF) p w s t with
    |some (s',t')=>runT p w n₀ ann n s' t'
    |none=>none
theorem Jhk:∀{n:Nat} {s s':SharedT} {t:Thread},runT p w n₀ ann n s t=some s'→topRun treeTable p w n₀ ann n s.abs t=some s'.abs:=by
 intro l_
 induction l_ with
 |zero=>
  intro _ _ _ h
  injection h
 |succ n ih_=>
  intro s s' t h
  unfold runT at h
  unfold topRun
  cases ht:through t with
  |true=>rw[ht] at h;obtain rfl:=Option.some.inj h;rfl
  |false=>
   rw[ht] at h
   have e1:stepOkF n₀ ann t=stepOk n₀ ann t:=(congrFun (congrFun (congrFun PySem.W.Fast.te6613529449190102663 n₀) ann) t).symm
   have e2:stepTF (denF tabF) p w s t=stepT (denote treeTable) p w s t:=by
    show PySem.W.Fast.tw10156331382660048174 (PySem.W.Fast.tw11892475500146522536 PySem.W.Fast.tw14364793385576792824) p w s t=_
    rw[←PySem.W.Fast.te10156331382660048174,←PySem.W.Fast.te11892475500146522536,←PySem.W.Fast.te14364793385576792824]
   dsimp only at h ⊢
   rw[e1] at h
   cases hk:stepOk n₀ ann t with
   |false=>rw[hk] at h;injection h
   |true=>
    rw[hk] at h
    dsimp only at h ⊢
    rw[e2] at h
    cases hs:stepT (denote treeTable) p w s t with
    |none=>rw[hs] at h;injection h
    |some r=>
     obtain ⟨s₂,t₂⟩:=r
     rw[hs] at h
     rw[stepT_spec hs]
     exact ih_ h
noncomputable def T0 (P:Params):PySem.W.BT:=((((((((((PySem.W.BT.nil.ins 0 (boot_o_0 P)).ins 1 (boot_o_1 P)).ins 2 (boot_o_2 P)).ins 3 (boot_o_3 P)).ins 4 (boot_o_4 P)).ins 5 (boot_o_5 P)).ins 6 (boot_o_6 P)).ins 7 (boot_o_7 P)).ins 8 (boot_o_8 P)).ins 9 (boot_o_9 P)).ins 10 (boot_o_10 P)
noncomputable def S0 (P:Params) (os:OsState):SharedT:=⟨T0 P,11,(boot_heap P).life,#[],boot_drawn,boot_toks,os⟩
theorem S0_abs (P:Params) (os:OsState):(S0 P os).abs=⟨boot_heap P,#[],boot_drawn,boot_toks,os⟩:=by kernel_rfl
noncomputable def keepQ:List Nat:=[0,2,3,5,6,7,9,10,11,13,15,17,19,20,21,22,23,24,25,26,27,28]
noncomputable def qv:Program:={pw with main:={pw.main with body:=keepQ.filterMap fun i=>pw.main.body[i]?}}
noncomputable abbrev seenF:=PySem.W.Fast.tw4187177175401517315
noncomputable def XtA (s:Shared):Bool:=xlAt qv [] s&&recOk [] s
theorem run_ok (w:World) (os:OsState):(runT pw w 11 (some (.ref 6)) 4300 (S0 w.params os) (topStub pw)).map (fun s=>
  (staticsOk (importedModules pw.main.body) (boot_heap w.params) s.abs.heap&&namesBound pw s.abs.heap&&gensDone s.abs&&laidKept (boot_heap w.params) s.abs.heap,seenF qv [] (importedModules pw.main.body) XtA true s.abs))=some (true,openGood qv []):=by kernel_rfl
noncomputable def gref (K:Frag) (x:Str):Option Addr:=match nsIn K mainGlobals x with
 |some (some (.ref a))=>some a
 |_=>none
noncomputable def clsOf:Nat→Str
 |7=>"Layers"
 |11=>"Bank"
 |13=>"Unions"
 |15=>"Heap"
 |17=>"Levels"
 |_=>""
noncomputable def mdNm (n:Nat):Str:=match (clsBody topBody[n / 100]?)[n % 100]? with
 |some (.FunctionDef nm _ _ _ _ _ _ _ _ _)=>nm
 |_=>""
noncomputable def topN:List (String×Nat):=("law",28)::topT
noncomputable def fadN (K:Frag) (n:Nat):Option Addr:=if n<100 then (topN.find? fun p=>p.2==n).bind fun p=>gref K p.1 else (gref K (clsOf (n / 100))).bind fun C=>match findIn K (.ref C) (mdNm n) with
 |some (some (.ref f))=>some f
 |_=>none
noncomputable def nsL:List Nat:=topN.map (·.2)++(mLayers++mBank++mUnions++mLevels++supT).map (·.2)++[700,1100,1300,1700]
noncomputable def clL:List Nat:=[7,11,13,17]
noncomputable def fadK (K:Frag) (q:Str):Option Addr:=match q.cps.toList with
 |[n]=>if nsL.contains n then fadN K n else none
 |_=>none
noncomputable def cadK (K:Frag) (C:Str):Option Addr:=match C.cps.toList with
 |[n]=>if clL.contains n then gref K (clsOf n) else none
 |_=>none
noncomputable def isRef (r:Option (Option Value)) (f:Addr):Bool:=match r with
 |some (some (.ref g))=>g==f
 |_=>false
noncomputable def isNo (r:Option (Option Value)):Bool:=match r with
 |some none=>true
 |_=>false
noncomputable def isBi (r:Option (Option Value)) (x:String):Bool:=match r with
 |some (some (.builtin y))=>y==x
 |_=>false
noncomputable def isFnT (K:Frag) (f:Addr):Bool:=match typeIn K (.ref f) with
 |some (.type y)=>y=="function"
 |_=>false
noncomputable def chkFn (K:Frag) (n:Nat):Bool:=match fadN K n with
 |some a=>keepIn K (.ref a)&&isFnT K a&&fnIn K a
 |none=>false
noncomputable def mOf:Nat→List (String×Nat)
 |7=>("__init__",700)::mLayers
 |11=>("__init__",1100)::mBank
 |13=>("__init__",1300)::mUnions
 |17=>("__init__",1700)::mLevels
 |_=>[]
noncomputable def fOf:Nat→List String
 |7=>fLayers
 |11=>fBank
 |13=>fUnions
 |17=>fLevels
 |_=>[]
noncomputable def chkCls (K:Frag) (n:Nat):Bool:=match gref K (clsOf n) with
 |some C=>keepIn K (.ref C)&&makesIn K C&&((clsIn K C).any fun cd=>cd.hasDict)&&isBi (findIn K (.ref C) "__getattribute__") "object.__getattribute__"&&isNo (findIn K (.ref C) "__getattr__")&&
   isBi (findIn K (.ref C) "__setattr__") "object.__setattr__"&&plainOver K C&&(fOf n).all (fun a=>isNo (findIn K (.ref C) a))&&
   (mOf n).all fun p=>match fadN K p.2 with
    |some f=>isRef (findIn K (.ref C) p.1) f
    |none=>false
 |none=>false
noncomputable def supL:List Nat:=[1700,1704,1705]
noncomputable def chkSupF (K:Frag) (fd:FuncData):Bool:=(match fd.code with
    |.ref cda=>(match K.lookup cda with
     |some ⟨_,_,.fields vs,_⟩=>(match (vs[2]?:Option Value) with
      |some (.str file _)=>(pw.main.file:Str)==file
      |_=>false)
     |_=>false)
    |_=>false)&&
   (fd.scope.names.all fun x=>match x.2 with|.cell=>false|_=>true)&&(fd.closure.all fun p=>(K.lookup p.2).isSome)&&
   (match fd.closure.lookup ("__class__":Str) with
    |some cc=>(match K.lookup cc with
     |some ⟨_,_,.cell (some (.ref D)),_⟩=>(clsIn K D).isSome&&(match gref K (clsOf 17) with
      |some Ca=>(match mroIn K Ca (.ref D) with|some true=>true|_=>false)&&supT.all fun p=>match fadN K p.2 with
       |some f=>isRef (ks_superIn K Ca D p.1) f
       |none=>false
      |none=>false)
     |_=>false)
    |none=>false)
noncomputable def chkSup (K:Frag) (n:Nat):Bool:=match fadN K n with
 |some a=>(match K.lookup a with
  |some ⟨_,_,.func fd,_⟩=>chkSupF K fd
  |_=>false)
 |none=>false
noncomputable def noNames:List String:=["len","int","min","max","sum","tuple","list","sorted","range","enumerate","super","set"]
noncomputable def Chk (K:Frag):Bool:=nsL.all (chkFn K)&&clL.all (chkCls K)&&supL.all (chkSup K)&&isNo (nsIn K cStatics "thirdparty.any")&&(noNames.all fun x=>isNo (nsIn K mainGlobals x))&&topN.all (fun p=>(gref K p.1).isSome)&&
 (match nsIn K mainGlobals "BASE" with|some (some (.int i _))=>decide (i=-1)|_=>false)&&(K.lookup sysModules).isSome
noncomputable abbrev FV:=FuncBody×Scope×Arguments×Addr×Addr×Bool×Bool×Value×Value
noncomputable def fdv (K:Frag) (n:Nat):Option FV:=(fadN K n).bind fun a=>match K.lookup a with
 |some ⟨_,_,.func fd,_⟩=>some (fd.body,fd.scope,fd.params,fd.globals,fd.builtins,codeIn K fd.code fd.qualname,fd.closure.isEmpty,fd.defaults,fd.kwdefaults)
 |_=>none
noncomputable def argsOf (n:Nat):Arguments:=match (if n<100 then topBody[n]? else (clsBody topBody[n / 100]?)[n % 100]?) with
 |some (.FunctionDef _ a _ _ _ _ _ _ _ _)=>a
 |_=>⟨[],[],none,[],[],none,[]⟩
noncomputable def bodyOf (n:Nat):List Stmt:=match codeFn n with
 |some f=>f.body
 |none=>[]
noncomputable def scOf (n:Nat):Scope:=match codeFn n with
 |some f=>f.scope
 |none=>⟨.function,[],false,false,[]⟩
noncomputable def fdx (n:Nat):Option FV:=some (.stmts (bodyOf n),scOf n,argsOf n,mainGlobals,builtinsNs,true,!supL.contains n,.none,.none)
noncomputable def FR (h:Heap):Frag:=(List.range h.objs.size).filterMap fun a=>(h.get? a).map fun o=>(a,o)
theorem FR_in (h:Heap):(FR h).In h:=by
 intro a o e
 have key:∀l:List Nat,(l.filterMap fun a=>(h.get? a).map fun o=>(a,o)).lookup a=some o→h.get? a=some o:=fun l=>by
  induction l with
  |nil=>intro e;exact Jc e
  |cons b l ih=>
   intro e
   rw[List.filterMap_cons] at e
   cases q:h.get? b with
   |none=>rw[q] at e;exact ih e
   |some x=>
    rw[q] at e
    simp only [Option.map_some,List.lookup] at e
    split at e
    ·rename_i w
     obtain rfl:=Option.some.inj e
     rw[beq_iff_eq.mp w];exact q
    ·exact ih e
 exact key _ e
noncomputable def FT (s:SharedT):Frag:=(List.range s.n).filterMap fun a=>(alive ((s.tree.get a).getD default)).map fun o=>(a,o)
theorem Jmc (s:SharedT):FR s.abs.heap=FT s:=by
 show (List.range (absHeap s.tree s.n s.life).objs.size).filterMap _=_
 rw[absHeap_size]
 unfold FT
 have key:∀l:List Nat,(∀a∈l,a<s.n)→(l.filterMap fun a=>((absHeap s.tree s.n s.life).get? a).map fun o=>(a,o))=l.filterMap fun a=>(alive ((s.tree.get a).getD default)).map fun o=>(a,o):=fun l=>by
  induction l with
  |nil=>intro _;rfl
  |cons a l ih=>
   intro h
   have e:(absHeap s.tree s.n s.life).get? a=alive ((s.tree.get a).getD default):=by
    unfold Heap.get?
    rw[absHeap_at,if_pos (h a (.head _))]
    generalize (s.tree.get a).getD default=o
    obtain ⟨c,d,dt,sl⟩:=o
    cases dt<;>rfl
   rw[List.filterMap_cons,List.filterMap_cons,e,ih fun b hb=>h b (.tail _ hb)]
 exact key _ fun a ha=>List.mem_range.mp ha
theorem obs1 (w:World) (os:OsState):(runT pw w 11 (some (.ref 6)) 4300 (S0 w.params os) (topStub pw)).map (fun s=>let K:=FT s;(Chk K,nsL.map (fdv K)))=some (true,nsL.map fdx):=by kernel_rfl
structure Seen (K:Frag):Prop where
 chk:Chk K=true
 fdv:nsL.map (fdv K)=nsL.map fdx
structure Seen' (K:Frag):Prop where
 fn:∀n∈nsL,chkFn K n=true
 cl:∀n∈clL,chkCls K n=true
 sup:∀n∈supL,chkSup K n=true
 tp:isNo (nsIn K cStatics "thirdparty.any")=true
 no:∀x∈noNames,isNo (nsIn K mainGlobals x)=true
 top:∀p∈topN,(gref K p.1).isSome=true
 base:∃t,nsIn K mainGlobals "BASE"=some (some (.int (-1) t))
 sys:(K.lookup sysModules).isSome=true
 fv:∀n∈nsL,Mine.fdv K n=fdx n
theorem Qk (h:(a&&b)=true):a=true∧b=true:=Bool.and_eq_true_iff.mp h
theorem not_t (h:(!b)=true):b=false:=by
 cases b with
 |false=>rfl
 |true=>exact Bool.noConfusion h
theorem or_t (h:(a||b)=true):a=true∨b=true:=by
 cases a with
 |false=>exact .inr h
 |true=>exact .inl rfl
theorem Seen.all {K:Frag} (h:Seen K):Seen' K:=by
 have e:=h.chk
 unfold Chk at e
 refine x02 (Qk e) fun e h8=>?_
 refine x02 (Qk e) fun e h7=>?_
 refine x02 (Qk e) fun e h6=>?_
 refine x02 (Qk e) fun e h5=>?_
 refine x02 (Qk e) fun e h4=>?_
 refine x02 (Qk e) fun e h3=>?_
 refine x02 (Qk e) fun h1 h2=>?_
 refine⟨List.all_eq_true.mp h1,List.all_eq_true.mp h2,List.all_eq_true.mp h3,h4,List.all_eq_true.mp h5,List.all_eq_true.mp h6,?_,h8,List.map_inj_left.mp h.fdv⟩
 cases q:nsIn K mainGlobals "BASE" with
 |none=>rw[q] at h7;exact absurd (show false=true from h7) Bool.false_ne_true
 |some r=>cases r with
  |none=>rw[q] at h7;exact absurd (show false=true from h7) Bool.false_ne_true
  |some v=>
   rw[q] at h7
   cases v<;>first|exact absurd (show false=true from h7) Bool.false_ne_true|exact⟨_,congrArg (fun i=>some (some (Value.int i _))) (of_decide_eq_true h7)⟩
theorem Jax (h:isNo r=true):r=some none:=by
 rcases r with _|_|v<;>first|rfl|exact absurd (show false=true from h) Bool.false_ne_true
theorem Jea (h:isRef r f=true):r=some (some (.ref f)):=by
 rcases r with _|_|v
 ·exact absurd (show false=true from h) Bool.false_ne_true
 ·exact absurd (show false=true from h) Bool.false_ne_true
 ·cases v<;>first|exact absurd (show false=true from h) Bool.false_ne_true|exact congrArg (fun a=>some (some (Value.ref a))) (eq_of_beq h)
theorem Jh2 (h:isBi r x=true):r=some (some (.builtin x)):=by
 rcases r with _|_|v
 ·exact absurd (show false=true from h) Bool.false_ne_true
 ·exact absurd (show false=true from h) Bool.false_ne_true
 ·cases v<;>first|exact absurd (show false=true from h) Bool.false_ne_true|exact congrArg (fun a=>some (some (Value.builtin a))) (eq_of_beq h)
noncomputable def isFnV (r:Option Value):Bool:=match r with
 |some (.type y)=>y=="function"
 |_=>false
theorem Jlf (h:isFnV r=true):r=some (.type "function"):=by
 rcases r with _|v
 ·exact absurd (show false=true from h) Bool.false_ne_true
 ·cases v<;>first|exact absurd (show false=true from h) Bool.false_ne_true|exact congrArg (fun a=>some (Value.type a)) (eq_of_beq h)
theorem Jlg {K:Frag} (h:isFnT K f=true):typeIn K (.ref f)=some (.type "function"):=Jlf h
noncomputable def refV (r:Option (Option Value)):Option Addr:=match r with
 |some (some (.ref a))=>some a
 |_=>none
theorem refV_eq (h:refV r=some a):r=some (some (.ref a)):=by
 rcases r with _|_|v
 ·exact nomatch (show none=some a from h)
 ·exact nomatch (show none=some a from h)
 ·cases v<;>first|exact nomatch (show none=some a from h)|exact congrArg (fun a=>some (some (Value.ref a))) (Option.some.inj h)
theorem Jde {K:Frag} (h:gref K x=some a):nsIn K mainGlobals x=some (some (.ref a)):=refV_eq h
noncomputable def nmK (K:Frag) (x:Str):Option Value:=match nsIn K mainGlobals x with
 |some (some v)=>some v
 |some none=>if noNames.any (fun y=>decide (Str.ofString y=x))=true then bootBuiltins x else none
 |none=>none
theorem Jaq {K:Frag} (h:nsIn K mainGlobals x=some (some v)):nmK K x=some v:=by unfold nmK;rw[h]
theorem Jl5 {K:Frag} {y:String} (hy:y∈noNames) (h:isNo (nsIn K mainGlobals y)=true):nmK K y=bootBuiltins y:=by
 unfold nmK
 rw[Jax h]
 exact if_pos (List.any_eq_true.mpr ⟨y,hy,decide_eq_true rfl⟩)
theorem Jb7 (h:n∈nsL):fadK K' (K n)=fadN K' n:=by
 show (if nsL.contains n then fadN K' n else none)=_
 rw[if_pos (List.contains_iff_mem.mpr h)]
theorem Jmb (h:n∈clL):cadK K' (K n)=gref K' (clsOf n):=by
 show (if clL.contains n then gref K' (clsOf n) else none)=_
 rw[if_pos (List.contains_iff_mem.mpr h)]
theorem Jd2 {α:Type} {f:Nat→Option α} {l:List Nat} {q:Str} {a:α} (h:(match q.cps.toList with|[n]=>if l.contains n then f n else none|_=>none)=some a):∃n∈l,q=K n∧f n=some a:=by
 obtain ⟨⟨c⟩⟩:=q
 cases c with
 |nil=>exact nomatch (show none=some a from h)
 |cons n c=>cases c with
  |cons=>exact nomatch (show none=some a from h)
  |nil=>
   by_cases z:l.contains n=true
   ·exact⟨n,List.contains_iff_mem.mp z,rfl,(if_pos z).symm.trans h⟩
   ·exact nomatch (if_neg z).symm.trans h
theorem Jb6 {K':Frag} {q:Str} {a:Addr} (h:fadK K' q=some a):∃n∈nsL,q=K n∧fadN K' n=some a:=Jd2 h
theorem W2 {K':Frag} {q:Str} {a:Addr} (h:cadK K' q=some a):∃n∈clL,q=K n∧gref K' (clsOf n)=some a:=Jd2 h
theorem Ys (h:num l x=some q):∃p∈l,Str.ofString p.1=x∧q=K p.2:=by
 unfold num at h
 refine x12 (Option.map_eq_some_iff.mp h) fun p hp e=>?_
 exact⟨p,List.mem_of_find?_eq_some hp,by have:=List.find?_some hp;exact of_decide_eq_true this,e.symm⟩
noncomputable abbrev fixOf (K':Frag) (w:World) (h₀:Heap) (os:OsState):Fix:=⟨pw,w,h₀,K',T,cadK K',fadK K',os⟩
end Mine
namespace Mine
variable {K':Frag}
theorem Seen'.fn_ok (h:Seen' K') (hn:n∈nsL) (e:fadN K' n=some a):keepIn K' (.ref a)=true∧typeIn K' (.ref a)=some (.type "function")∧fnIn K' a=true:=by
 have c:=h.fn n hn
 unfold chkFn at c
 rw[e] at c
 have d:=Qk (Qk c).1
 exact⟨d.1,Jlg d.2,(Qk c).2⟩
structure ClsF (K':Frag) (n:Nat) (C:Addr):Prop where
 keep:keepIn K' (.ref C)=true
 makes:makesIn K' C=true
 ok:ClsOk K' C
 fld:∀a∈fOf n,findIn K' (.ref C) a=some none
 meth:∀p∈mOf n,∃f,fadN K' p.2=some f∧findIn K' (.ref C) p.1=some (some (.ref f))
theorem Seen'.cls_ok (h:Seen' K') (hn:n∈clL) (e:gref K' (clsOf n)=some C):ClsF K' n C:=by
 have c:=h.cl n hn
 unfold chkCls at c
 rw[e] at c
 refine x02 (Qk c) fun c c9=>?_
 refine x02 (Qk c) fun c c8=>?_
 refine x02 (Qk c) fun c c7=>?_
 refine x02 (Qk c) fun c c6=>?_
 refine x02 (Qk c) fun c c5=>?_
 refine x02 (Qk c) fun c c4=>?_
 refine x02 (Qk c) fun c c3=>?_
 refine x02 (Qk c) fun c1 c2=>?_
 refine⟨c1,c2,⟨?_,Jh2 c4,Jax c5,Jh2 c6,c7⟩,fun a ha=>Jax (List.all_eq_true.mp c8 a ha),fun p hp=>?_⟩
 ·cases q:clsIn K' C with
  |none=>rw[q] at c3;exact Bool.noConfusion c3
  |some cd=>rw[q] at c3;exact⟨cd,rfl,c3⟩
 ·have c:=List.all_eq_true.mp c9 p hp
  cases q:fadN K' p.2 with
  |none=>rw[q] at c;exact absurd (show false=true from c) Bool.false_ne_true
  |some f=>rw[q] at c;exact⟨f,rfl,Jea c⟩
theorem Ja5 {P:Nat→Prop} (h:n∈clL) (h7:P 7) (h11:P 11) (h13:P 13) (h17:P 17):P n:=by
 rcases List.mem_cons.mp h with rfl|h
 ·exact h7
 rcases List.mem_cons.mp h with rfl|h
 ·exact h11
 rcases List.mem_cons.mp h with rfl|h
 ·exact h13
 rcases List.mem_cons.mp h with rfl|h
 ·exact h17
 ·cases h
theorem meth_of (hn:n∈clL):T.meth (K n) m=some q→∃p∈mOf n,Str.ofString p.1=m∧q=K p.2:=by
 have t:∀{l:List (String×Nat)} {x},num l m=some q→∃p∈x::l,Str.ofString p.1=m∧q=K p.2:=fun h=>x12 (Ys h) fun p hp e=>⟨p,.tail _ hp,e⟩
 refine Ja5 (P:=fun n=>T.meth (K n) m=some q→∃p∈mOf n,Str.ofString p.1=m∧q=K p.2) hn ?_ ?_ ?_ ?_<;>exact fun h=>t h
theorem init_of (hn:n∈clL):T.init (K n)=some q→∃p∈mOf n,p.1="__init__"∧q=K p.2:=by
 refine Ja5 (P:=fun n=>T.init (K n)=some q→∃p∈mOf n,p.1="__init__"∧q=K p.2) hn ?_ ?_ ?_ ?_<;>exact fun h=>⟨_,.head _,rfl,(Option.some.inj h).symm⟩
theorem fld_of (hn:n∈clL):T.fld (K n) a=true→∃x∈fOf n,Str.ofString x=a:=by
 have t:∀{l:List String},(l.any fun x=>decide (Str.ofString x=a))=true→∃x∈l,Str.ofString x=a:=fun h=>x12 (List.any_eq_true.mp h) fun x hx e=>⟨x,hx,of_decide_eq_true e⟩
 refine Ja5 (P:=fun n=>T.fld (K n) a=true→∃x∈fOf n,Str.ofString x=a) hn ?_ ?_ ?_ ?_<;>exact fun h=>t h
theorem m_in:∀n∈clL,∀p∈mOf n,p.2∈nsL:=by decide +kernel
theorem Jj1:∀p∈topT,(topN.find? fun x=>x.2==p.2)=some p:=by decide +kernel
theorem top_in:∀p∈topN,p.2∈nsL∧p.2<100:=by decide +kernel
theorem cls_nm:∀p∈clsT,clsOf p.2=Str.ofString p.1∧p.2∈clL:=by decide +kernel
theorem Jlz:∀p∈supT,p.2∈nsL:=by decide +kernel
theorem fns_ok (h:Seen' K') {w:World} {os:OsState}:Fns (fixOf K' w h₀ os):=by
 refine⟨fun q a e=>?_,fun C Ca e=>?_,fun C q Ca e1 e2=>?_,fun C m q Ca e1 e2=>?_⟩
 ·refine x13 (Jb6 e) fun n hn _ e=>?_
  exact(h.fn_ok hn e).1
 ·refine x13 (W2 e) fun n hn _ e=>?_
  exact⟨(h.cls_ok hn e).keep,(h.cls_ok hn e).makes⟩
 ·refine x13 (W2 e2) fun n hn q1_ e=>?_
  subst q1_
  refine x13 (init_of hn e1) fun p hp e3 q1_=>?_
  subst q1_
  refine x12 ((h.cls_ok hn e).meth p hp) fun f hf e4=>?_
  rw[e3] at e4
  exact⟨f,(Jb7 (m_in n hn p hp)).trans hf,e4,(h.fn_ok (m_in n hn p hp) hf).2.1⟩
 ·refine x13 (W2 e2) fun n hn q1_ e=>?_
  subst q1_
  refine x13 (meth_of hn e1) fun p hp q1_ q2_=>?_
  subst q1_
  subst q2_
  refine x12 ((h.cls_ok hn e).meth p hp) fun f hf e4=>?_
  exact⟨f,(Jb7 (m_in n hn p hp)).trans hf,e4,(h.fn_ok (m_in n hn p hp) hf).2.1⟩
theorem Wq [Decidable c] (h:(if c then a else b)=r):(c∧a=r)∨(¬c∧b=r):=by
 by_cases z:c
 ·exact .inl ⟨z,(if_pos z).symm.trans h⟩
 ·exact .inr ⟨z,(if_neg z).symm.trans h⟩
theorem Y8 (h:noNames.contains y=true):y∈noNames:=List.contains_iff_mem.mp h
theorem Yk (y:String) (hy:noNames.contains y=true) (hb:bootBuiltins y=some (bval b')) (h:x=Str.ofString y∧some b'=some b):∃y∈noNames,Str.ofString y=x∧bootBuiltins y=some (bval b):=by
 obtain ⟨rfl,h⟩:=h
 obtain rfl:=Option.some.inj h
 exact⟨y,Y8 hy,rfl,hb⟩
theorem bf_name (h:bfOf x=some b):∃y∈noNames,Str.ofString y=x∧bootBuiltins y=some (bval b):=by
 unfold bfOf at h
 rcases Wq h with q|⟨_,h⟩
 ·exact Yk "len" (by kernel_rfl) (by kernel_rfl) q
 rcases Wq h with q|⟨_,h⟩
 ·exact Yk "int" (by kernel_rfl) (by kernel_rfl) q
 rcases Wq h with q|⟨_,h⟩
 ·exact Yk "min" (by kernel_rfl) (by kernel_rfl) q
 rcases Wq h with q|⟨_,h⟩
 ·exact Yk "max" (by kernel_rfl) (by kernel_rfl) q
 rcases Wq h with q|⟨_,h⟩
 ·exact Yk "sum" (by kernel_rfl) (by kernel_rfl) q
 rcases Wq h with q|⟨_,h⟩
 ·exact Yk "tuple" (by kernel_rfl) (by kernel_rfl) q
 rcases Wq h with q|⟨_,h⟩
 ·exact Yk "list" (by kernel_rfl) (by kernel_rfl) q
 rcases Wq h with q|⟨_,h⟩
 ·exact Yk "sorted" (by kernel_rfl) (by kernel_rfl) q
 exact nomatch h
theorem no_main:∀y∈noNames,Str.ofString y≠"__name__":=by decide +kernel
theorem base_ok (h:Seen' K') {w:World} {os:OsState} {p:Program} {loose:List Str} {mg mb:Str→Option Value} (X:K'.In h₀) (TR:TopRead p loose mg mb h₀):Base (fixOf K' w h₀ os) (nmK K'):=by
 refine⟨TR.nolimit,X,?_,fun x v e s env A Q E up hg hb hk hx q=>?_,fun x v e=>?_,fun x q e=>?_,fun x q e=>?_,fun x b e1 e2 e=>?_,fun C Ca e=>?_,fun C a Ca e1 e2=>?_⟩
 ·cases q:K'.lookup sysModules with
  |none=>have:=h.sys;rw[q] at this;exact Bool.noConfusion this
  |some o=>exact⟨o,X _ _ q⟩
 ·rw[loadName_read hk hx]
  have G:s.heap.Ns env.globals mg:=hg▸TR.g.keeps up
  unfold nmK at e
  cases e':nsIn K' mainGlobals x with
  |none=>rw[e'] at e;exact nomatch (show none=some v from e)
  |some r=>cases r with
   |some v'=>
    rw[e'] at e
    obtain rfl:=Option.some.inj (show some v'=some v from e)
    exact loadGlobal_global G (mg_of X TR.g e') q
   |none=>
    rw[e'] at e
    rcases Wq e with ⟨c,e⟩|⟨_,e⟩
    ·refine x12 (List.any_eq_true.mp c) fun y hy ey=>?_
     have ey:=of_decide_eq_true ey
     refine loadGlobal_builtin G (mg_none_of X TR.g e') (hb▸TR.b.keeps up) ((TR.builtins x fun hn=>?_).trans e) q
     exact no_main y hy (ey.trans hn)
    ·exact nomatch e
 ·have e:(if Str.ofString "BASE"=x then some (V.int (-1)) else none)=some v:=e
  rcases Wq e with ⟨c,e⟩|⟨_,e⟩
  ·obtain rfl:=Option.some.inj e
   refine x11 h.base fun t ht=>?_
   exact⟨_,by rw[←c];exact Jaq ht,fun _ _=>⟨t,rfl⟩⟩
  ·exact nomatch e
 ·refine x13 (Ys e) fun p hp e1 q1_=>?_
  subst q1_
  have ht:=h.top p (.tail _ hp)
  have hi:=top_in p (.tail _ hp)
  cases q:gref K' (Str.ofString p.1) with
  |none=>rw[q] at ht;exact Bool.noConfusion ht
  |some a=>
   refine⟨a,?_,by rw[←e1];exact Jaq (Jde q)⟩
   refine(Jb7 hi.1).trans ?_
   unfold fadN
   rw[if_pos hi.2,Jj1 p hp];exact q
 ·refine x13 (Ys e) fun p hp e1 q1_=>?_
  subst q1_
  have hc:=cls_nm p hp
  have c:=h.cl p.2 hc.2
  unfold chkCls at c
  cases q:gref K' (clsOf p.2) with
  |none=>rw[q] at c;exact Bool.noConfusion c
  |some a=>exact⟨a,(Jmb hc.2).trans q,by rw[←e1,←hc.1];exact Jaq (Jde q)⟩
 ·refine x13 (bf_name e) fun y hy q1_ e3=>?_
  subst q1_
  exact(Jl5 hy (h.no y hy)).trans e3
 ·refine x13 (W2 e) fun n hn _ e=>?_
  exact(h.cls_ok hn e).ok
 ·refine x13 (W2 e2) fun n hn q1_ e=>?_
  subst q1_
  refine x12 (fld_of hn e1) fun x hx q1_=>?_
  subst q1_
  exact(h.cls_ok hn e).fld x hx
end Mine
namespace Mine
theorem alc {P:Nat→Prop} (h:P a) (t:∀n∈l,P n):∀n∈a::l,P n:=fun n hn=>by
 refine(List.mem_cons.mp hn).elim (fun e_=>?_) fun hn=>?_
 ·subst e_
  exact h
 ·exact t n hn
theorem aln {P:Nat→Prop}:∀n∈([]:List Nat),P n:=fun _ h=>by cases h
theorem arz {P:List Value→Prop} (h:P []):∀vs:List Value,vs.length=0→P vs:=fun _ e=>List.eq_nil_of_length_eq_zero e▸h
theorem ars {P:List Value→Prop} (h:∀a,∀vs:List Value,vs.length=n→P (a::vs)):∀vs:List Value,vs.length=n+1→P vs
 |[],e=>nomatch e
 |a::vs,e=>h a vs (Nat.succ.inj e)
noncomputable def BP (n:Nat) (fd:FuncData) (vals:List Value):Prop:=bindArgs {fd with params:=argsOf n,defaults:=.none,kwdefaults:=.none} ⟨vals,[]⟩=pure (((argsOf n).args.map (·.arg)).zip vals)
theorem ar1 (h:∀a,BP n fd [a]):∀vs:List Value,vs.length=1→BP n fd vs:=ars fun a=>arz (P:=fun l=>BP n fd (a::l)) (h a)
theorem ar2 (h:∀a b,BP n fd [a,b]):∀vs:List Value,vs.length=2→BP n fd vs:=ars fun a=>ars (P:=fun l=>BP n fd (a::l)) fun b=>arz (P:=fun l=>BP n fd (a::b::l)) (h a b)
theorem ar3 (h:∀a b c,BP n fd [a,b,c]):∀vs:List Value,vs.length=3→BP n fd vs:=ars fun a=>ars (P:=fun l=>BP n fd (a::l)) fun b=>ars (P:=fun l=>BP n fd (a::b::l)) fun c=>arz (P:=fun l=>BP n fd (a::b::c::l)) (h a b c)
theorem ar4 (h:∀a b c d,BP n fd [a,b,c,d]):∀vs:List Value,vs.length=4→BP n fd vs:=ars fun a=>ars (P:=fun l=>BP n fd (a::l)) fun b=>ars (P:=fun l=>BP n fd (a::b::l)) fun c=>ars (P:=fun l=>BP n fd (a::b::c::l)) fun d=>arz (P:=fun l=>BP n fd (a::b::c::d::l)) (h a b c d)
noncomputable def BindP (n:Nat):Prop:=∀fd:FuncData,fd.params=argsOf n→fd.defaults=.none→fd.kwdefaults=.none→∀vals:List Value,vals.length=((argsOf n).args.map (·.arg)).length→bindArgs fd ⟨vals,[]⟩=pure (((argsOf n).args.map (·.arg)).zip vals)
theorem bindP (k:Nat) (e:((argsOf n).args.map (·.arg)).length=k) (h:∀fd,∀vs:List Value,vs.length=k→BP n fd vs):BindP n:=fun fd h1 h2 h3 vals hl=>by
 have q:=h fd vals (hl.trans e)
 unfold BP at q
 have e2:fd={fd with params:=argsOf n,defaults:=.none,kwdefaults:=.none}:=by
  cases fd
  subst h1;subst h2;subst h3
  rfl
 rw[←e2] at q
 exact q
theorem binds:∀n∈nsL,BindP n:=by
 show ∀n∈([28,6,9,10,19,20,21,22,23,24,25,26,27,701,702,703,704,705,706,707,708,709,710,711,712,713,715,1101,1102,1103,1106,1107,1108,1109,1301,1302,1303,1304,1305,1306,1308,1309,1501,1502,1503,1504,1704,1506,1508,1705,1510,1512,1701,1702,1703,1706,1707,1500,1505,1509,700,1100,1300,1700]:List Nat),_
 repeat' refine alc ?_ ?_
 all_goals first
  |exact aln
  |exact bindP 2 rfl fun fd=>ar2 fun a b=>by unfold BP;kernel_rfl
  |exact bindP 1 rfl fun fd=>ar1 fun a=>by unfold BP;kernel_rfl
  |exact bindP 3 rfl fun fd=>ar3 fun a b c=>by unfold BP;kernel_rfl
  |exact bindP 4 rfl fun fd=>ar4 fun a b c d=>by unfold BP;kernel_rfl
end Mine
namespace Mine
variable {K':Frag}
theorem Je8 {α β:Type} [BEq α]:∀{l:List (α×β)} {x:α} {c:β},l.lookup x=some c→∃p∈l,p.2=c:=by
 intro l_
 induction l_ with
 |nil=>
  intro _ _ h
  exact nomatch h
 |cons x_ l ih_=>
  obtain ⟨k,v⟩:=x_
  intro x c h
  have h:(match x==k with|true=>some v|false=>l.lookup x)=some c:=h
  cases z:x==k with
  |true=>rw[z] at h;exact⟨_,.head _,Option.some.inj h⟩
  |false=>rw[z] at h;exact x12 (ih_ h) fun p hp e=>⟨p,.tail _ hp,e⟩
theorem code_of {c:Value} {P:Addr→Bool} (h:(match c with|.ref a=>P a|_=>false)=true):∃a,c=.ref a∧P a=true:=by
 cases c<;>first|exact absurd (show false=true from h) Bool.false_ne_true|exact⟨_,rfl,h⟩
theorem str_of {r:Option Value} {P:Str→Bool} (h:(match r with|some (.str f _)=>P f|_=>false)=true):∃f t,r=some (.str f t)∧P f=true:=by
 rcases r with _|v
 ·exact absurd (show false=true from h) Bool.false_ne_true
 ·cases v<;>first|exact absurd (show false=true from h) Bool.false_ne_true|exact⟨_,_,rfl,h⟩
theorem flds_of {r:Option Obj} {P:Array Value→Bool} (h:(match r with|some ⟨_,_,.fields vs,_⟩=>P vs|_=>false)=true):∃oc od vs osl,r=some ⟨oc,od,.fields vs,osl⟩∧P vs=true:=by
 rcases r with _|⟨oc,od,dt,osl⟩
 ·exact absurd (show false=true from h) Bool.false_ne_true
 ·cases dt<;>first|exact absurd (show false=true from h) Bool.false_ne_true|exact⟨_,_,_,_,rfl,h⟩
theorem func_of {α:Type} {r:Option Obj} {g:FuncData→α} {x:α} (h:(match r with|some ⟨_,_,.func fd,_⟩=>some (g fd)|_=>none)=some x):∃oc od fd osl,r=some ⟨oc,od,.func fd,osl⟩∧g fd=x:=by
 rcases r with _|⟨oc,od,dt,osl⟩
 ·exact nomatch (show none=some x from h)
 ·cases dt<;>first|exact nomatch (show none=some x from h)|exact⟨_,_,_,_,rfl,Option.some.inj h⟩
set_option tactic.hygienic true in
theorem cell_of {r:Option Obj} {P:Addr→Bool} (h:(match r with|some ⟨_,_,.cell (some (.ref D)),_⟩=>P D|_=>false)=true):∃oc od D osl,r=some ⟨oc,od,.cell (some (.ref D)),osl⟩∧P D=true:=by
 rcases r with _|⟨oc,od,dt,osl⟩
 ·exact absurd (show false=true from h) Bool.false_ne_true
 ·cases dt<;>try exact absurd (show false=true from h) Bool.false_ne_true
  rename_i v
  rcases v with _|v
  ·exact absurd (show false=true from h) Bool.false_ne_true
  ·cases v<;>first|exact absurd (show false=true from h) Bool.false_ne_true|exact⟨_,_,_,_,rfl,h⟩
noncomputable def flagOk (n:Nat):Bool:=match codeFn n with
 |some f=>!f.scope.isCoroutine&&!f.scope.isGenerator&&(match f.scope.kind with|.function=>true|_=>false)&&decide f.params.Nodup&&(f.params.all fun x=>match f.scope.names.lookup x with|some .local=>true|some .cell=>true|_=>false)&&
   (supL.contains n||match f.scope.names.lookup ("__class__":Str) with|some .free=>false|_=>true)&&decide (f.params=(argsOf n).args.map (·.arg))&&(argsOf n).posonlyargs.isEmpty
 |none=>false
theorem flags:nsL.all flagOk=true:=by kernel_rfl
structure FlagF (n:Nat) (f:Fn):Prop where
 co:f.scope.isCoroutine=false
 gen:f.scope.isGenerator=false
 kind:f.scope.kind=.function
 nd:f.params.Nodup
 own:∀x∈f.params,ownVar f.scope x
 free:n∈supL∨f.scope.names.lookup ("__class__":Str)≠some .free
 pr:f.params=(argsOf n).args.map (·.arg)
 po:(argsOf n).posonlyargs=[]
theorem Jdh (hn:n∈nsL) (e:codeFn n=some f):FlagF n f:=by
 have c:=List.all_eq_true.mp flags n hn
 unfold flagOk at c
 rw[e] at c
 refine x02 (Qk c) fun c c8=>?_
 refine x02 (Qk c) fun c c7=>?_
 refine x02 (Qk c) fun c c6=>?_
 refine x02 (Qk c) fun c c5=>?_
 refine x02 (Qk c) fun c c4=>?_
 refine x02 (Qk c) fun c c3=>?_
 refine x02 (Qk c) fun c1 c2=>?_
 refine⟨not_t c1,not_t c2,Jhu c3,of_decide_eq_true c4,fun x hx=>Jl7 (List.all_eq_true.mp c5 x hx),(or_t c6).imp (List.contains_iff_mem.mp ·) (fun h q=>?_),of_decide_eq_true c7,List.isEmpty_iff.mp c8⟩
 rw[q] at h;exact Bool.noConfusion h
structure FdF (K':Frag) (n:Nat) (a:Addr) (fd:FuncData):Prop where
 look:∃oc od osl,K'.lookup a=some ⟨oc,od,.func fd,osl⟩
 body:fd.body=.stmts (bodyOf n)
 scope:fd.scope=scOf n
 params:fd.params=argsOf n
 glob:fd.globals=mainGlobals
 blt:fd.builtins=builtinsNs
 code:codeIn K' fd.code fd.qualname=true
 clo:fd.closure.isEmpty=!supL.contains n
 df:fd.defaults=.none
 kd:fd.kwdefaults=.none
theorem Seen'.fd (h:Seen' K') (hn:n∈nsL) (e:fadN K' n=some a):∃fd,FdF K' n a fd:=by
 have v:=h.fv n hn
 unfold Mine.fdv at v
 rw[e] at v
 have v:(match K'.lookup a with
  |some ⟨_,_,.func fd,_⟩=>some (fd.body,fd.scope,fd.params,fd.globals,fd.builtins,codeIn K' fd.code fd.qualname,fd.closure.isEmpty,fd.defaults,fd.kwdefaults)
  |_=>none)=some _:=v
 refine x42 (func_of v) fun oc od fd osl q v=>?_
 have v:=Prod.mk.inj v
 have v2:=Prod.mk.inj v.2
 have v3:=Prod.mk.inj v2.2
 have v4:=Prod.mk.inj v3.2
 have v5:=Prod.mk.inj v4.2
 have v6:=Prod.mk.inj v5.2
 have v7:=Prod.mk.inj v6.2
 have v8:=Prod.mk.inj v7.2
 exact⟨fd,⟨_,_,_,q⟩,v.1,v2.1,v3.1,v4.1,v5.1,v6.1,v7.1,v8.1,v8.2⟩
theorem fnk {w:World} {os:OsState} {f:Fn} {fd:FuncData} (hn:n∈nsL) (F:FdF K' n a fd) (e:codeFn n=some f):FnK (fixOf K' w h₀ os) f a fd:=by
 have G:=Jdh hn e
 have sc:fd.scope=f.scope:=by rw[F.scope];unfold scOf;rw[e]
 refine⟨F.look,F.code,?_,sc,F.glob,F.blt,fun vals hl=>?_,by rw[sc];exact G.co,by rw[sc];exact G.gen,by rw[sc];exact G.kind,G.nd,G.own⟩
 ·rw[F.body];unfold bodyOf;rw[e]
 ·rw[G.pr] at hl ⊢
  exact binds n hn fd F.params F.df F.kd vals hl
theorem Jj7:∀n∈supL,(argsOf n).args.isEmpty=false:=by decide +kernel
theorem sup_nm:∀p∈supT,(Str.ofString p.1==("__class__":Str))=false:=by decide +kernel
theorem Jj6 (h:T.sup k C m=some q):C=K 17∧num supT m=some q:=by
 have h:(if k=K 1700∨k=K 1704∨k=K 1705 then (if C=K 17 then num supT m else none) else none)=some q:=h
 rcases Wq h with ⟨_,h⟩|⟨_,h⟩
 ·rcases Wq h with ⟨e,h⟩|⟨_,h⟩
  ·exact⟨e,h⟩
  ·exact nomatch h
 ·exact nomatch h
theorem Jk4 (h:(match r with|some true=>true|_=>false)=true):r=some true:=by
 rcases r with _|_|_<;>first|rfl|exact absurd (show false=true from h) Bool.false_ne_true
theorem supk (h:Seen' K') {w:World} {h₀:Heap} {os:OsState} {n:Nat} {a:Addr} {f:Fn} {fd:FuncData} (hn:n∈supL) (hns:n∈nsL) (ea:fadN K' n=some a) (F:FdF K' n a fd) (e:codeFn n=some f) :
  ((∀x∈fd.scope.names,x.2≠.cell)∧(∀x c,fd.closure.lookup x=some c→∃o,K'.lookup c=some o)∧∀C m q',T.sup (K n) C m=some q'→SupK (fixOf K' w h₀ os) fd f C m q'):=by
 refine x31 F.look fun oc od osl lk=>?_
 have c:chkSupF K' fd=true:=by
  have c:=h.sup n hn
  unfold chkSup at c
  rw[ea] at c
  have c:(match K'.lookup a with|some ⟨_,_,.func fd,_⟩=>chkSupF K' fd|_=>false)=true:=c
  rw[lk] at c
  exact c
 unfold chkSupF at c
 refine x02 (Qk c) fun c c4=>?_
 refine x02 (Qk c) fun c c3=>?_
 refine x02 (Qk c) fun c1 c2=>?_
 refine⟨fun x hx=>?_,fun x cc hc=>?_,fun C m q' hs=>?_⟩
 ·have:=List.all_eq_true.mp c2 x hx
  intro q;rw[q] at this;exact Bool.noConfusion this
 ·have hm:∃p∈fd.closure,p.2=cc:=Je8 hc
  refine x12 hm fun p hp q1_=>?_
  subst q1_
  have:=List.all_eq_true.mp c3 p hp
  cases q:K'.lookup p.2 with
  |none=>rw[q] at this;exact Bool.noConfusion this
  |some o=>exact⟨o,rfl⟩
 ·refine x02 (Jj6 hs) fun q1_ hs2=>?_
  subst q1_
  refine x13 (Ys hs2) fun p hp q1_ q2_=>?_
  subst q1_
  subst q2_
  refine⟨?_,?_,?_,sup_nm p hp,by kernel_rfl,Jax h.tp⟩
  ·refine x12 (code_of c1) fun cda e1 c1=>?_
   refine x42 (flds_of c1) fun _ _ _ _ e2 c1=>?_
   refine x22 (str_of c1) fun _ _ e3 c1=>?_
   exact⟨_,_,_,_,_,_,_,e1,e2,e3,c1⟩
  ·cases e1:fd.closure.lookup ("__class__":Str) with
   |none=>rw[e1] at c4;exact absurd (show false=true from c4) Bool.false_ne_true
   |some cc=>
   rw[e1] at c4
   refine x42 (cell_of c4) fun _ _ D _ e2 c4=>?_
   refine x02 (Bool.and_eq_true_iff.mp c4) fun c5 c6=>?_
   cases q:clsIn K' D with
   |none=>rw[q] at c5;exact Bool.noConfusion c5
   |some cdD=>
    refine⟨cc,D,_,_,_,cdD,rfl,e2,q,fun Ca hC=>?_⟩
    rw[(Jmb (K':=K') (n:=17) (by decide)).symm.trans hC] at c6
    refine x02 (Bool.and_eq_true_iff.mp c6) fun c7 c8=>?_
    have c9:=List.all_eq_true.mp c8 p hp
    cases e4:fadN K' p.2 with
    |none=>rw[e4] at c9;exact absurd (show false=true from c9) Bool.false_ne_true
    |some f'=>
    rw[e4] at c9
    have fo:=h.fn_ok (Jlz p hp) e4
    exact⟨Jk4 c7,f',(Jb7 (Jlz p hp)).trans e4,Jea c9,fo.2.1,fo.2.2⟩
  ·have G:=Jdh hns e
   have ne:=Jj7 n hn
   rw[F.params,G.po,G.pr,List.nil_append,List.head?_map]
   cases q:(argsOf n).args with
   |nil=>rw[q] at ne;exact Bool.noConfusion ne
   |cons ar r=>exact⟨ar,rfl,rfl⟩
theorem defs_ok (h:Seen' K') {w:World} {os:OsState}:DefK (fixOf K' w h₀ os):=fun q f a hf ha=>by
 refine x13 (Jb6 ha) fun n hn q1_ ea=>?_
 subst q1_
 have hf:codeFn n=some f:=hf
 refine x11 (h.fd hn ea) fun fd F=>?_
 refine⟨fd,fnk hn F hf,?_⟩
 by_cases hs:n∈supL
 ·exact .inr (supk h hs hn ea F hf)
 ·refine .inl ⟨?_,(Jdh hn hf).free.resolve_left hs⟩
  have:=F.clo
  rw[show supL.contains n=false from by rw[←Bool.not_eq_true];exact fun q=>hs (List.contains_iff_mem.mp q)] at this
  exact List.isEmpty_iff.mp this
theorem Jiy (h:Seen' K') {w:World} {os:OsState} {p:Program} {loose:List Str} {mg mb:Str→Option Value} (X:K'.In h₀) (TR:TopRead p loose mg mb h₀):World' (fixOf K' w h₀ os) (nmK K'):=by
 have nm:∀y∈noNames,nmK K' y=bootBuiltins y:=fun y hy=>Jl5 hy (h.no y hy)
 refine⟨base_ok h X TR,fns_ok h,defs_ok h,(nm "range" (Y8 (by kernel_rfl))).trans (by kernel_rfl),(nm "enumerate" (Y8 (by kernel_rfl))).trans (by kernel_rfl),(nm "list" (Y8 (by kernel_rfl))).trans (by kernel_rfl),(nm "super" (Y8 (by kernel_rfl))).trans (by kernel_rfl),(nm "set" (Y8 (by kernel_rfl))).trans (by kernel_rfl),(nm "sorted" (Y8 (by kernel_rfl))).trans (by kernel_rfl)⟩
end Mine
namespace Mine
noncomputable def obsY (s:Shared):Bool×List (Option FV):=(Chk (FR s.heap),nsL.map (fdv (FR s.heap)))
noncomputable def saysY (_:World) (h:Heap):Prop:=∃K',K'.In h∧Seen K'
theorem boot_is (P:Params):((boot_heap P).isNs mainGlobals&&(#[]:Array GenState).size==0)=true∧(boot_heap P).objs.size=11∧(boot_heap P).nsMap mainGlobals "__annotations__"=some (.ref 6):=⟨by kernel_rfl,by kernel_rfl,by kernel_rfl⟩
theorem Jhq {α β γ:Type} {o:Option α} {f:α→β} {g:α→γ} {b:β} {c:γ} (h:o.map (fun s=>(f s,g s))=some (b,c)):∃s,o=some s∧f s=b∧g s=c:=by
 refine x12 (Option.map_eq_some_iff.mp h) fun s h1 h2=>?_
 exact⟨s,h1,congrArg Prod.fst h2,congrArg Prod.snd h2⟩
theorem Jkz {α β:Type} {a a':α} {b b':β} (h:a=a') (h':b=b'):some (a,b)=some (a',b'):=by rw[h,h']
theorem pair_eq {α β:Type} {a a':α} {b b':β} (h:a=a') (h':b=b'):(a,b)=(a',b'):=by rw[h,h']
theorem bo1:opening pw=plainProg pw.main.scope.names:=by kernel_rfl
theorem bo2 (s:Shared):fenceModules? pw s=some s:=by kernel_rfl
theorem bo3 (w:World):∃os,fencedOpening treeTable pw w 4300=some ⟨boot_heap w.params,Array.mk [],boot_drawn,boot_toks,os⟩:=by
 have b:=boot_open (p:=pw) (N:=4300) bo1 rfl bo2 w
 refine x12 (Option.map_eq_some_iff.mp b) fun q1_ e1 e2=>?_
 obtain ⟨h,gs,dr,tk,os⟩:=q1_
 simp only [Prod.mk.injEq] at e2
 refine x04 e2 fun q1_ q2_ q3_ q4_=>?_
 subst q1_
 subst q2_
 subst q3_
 subst q4_
 exact⟨os,e1⟩
theorem bo4 (w:World) (os:OsState):∃s':SharedT,topRun treeTable pw w 11 (some (.ref 6)) 4300 ⟨boot_heap w.params,Array.mk [],boot_drawn,boot_toks,os⟩ (topStub pw)=some s'.abs∧
  (staticsOk (importedModules pw.main.body) (boot_heap w.params) s'.abs.heap&&namesBound pw s'.abs.heap&&gensDone s'.abs&&laidKept (boot_heap w.params) s'.abs.heap)=true∧seenF qv [] (importedModules pw.main.body) XtA true s'.abs=openGood qv []∧
  Chk (FT s')=true∧nsL.map (fdv (FT s'))=nsL.map fdx:=by
 refine x13 (Jhq (run_ok w os)) fun s' r1 c1 c2=>?_
 refine x13 (Jhq (obs1 w os)) fun s2 r2 c3 c4=>?_
 obtain rfl:=Option.some.inj (r1.symm.trans r2)
 have tr:=Jhk r1
 rw[S0_abs] at tr
 exact⟨s',tr,c1,c2,c3,c4⟩
theorem Jep {p:Program} {w:World} {N m₀:Nat} {ann:Option Value} {s₀ s₁:Shared} (h1:(s₀.heap.isNs mainGlobals&&s₀.gens.size==0)=true) (hm:s₀.heap.objs.size=m₀) (ha:s₀.heap.nsMap mainGlobals "__annotations__"=ann)
  (h2:topRun treeTable p w m₀ ann N s₀ (topStub p)=some s₁) (h3:(staticsOk (importedModules p.main.body) s₀.heap s₁.heap&&namesBound p s₁.heap&&gensDone s₁&&laidKept s₀.heap s₁.heap)=true):topFrom treeTable p w N s₀=some s₁:=by
 unfold topFrom
 rw[h1,hm,ha,h2]
 show (match staticsOk (importedModules p.main.body) s₀.heap s₁.heap&&namesBound p s₁.heap&&gensDone s₁&&laidKept s₀.heap s₁.heap with|true=>some s₁|false=>none)=_
 rw[h3]
theorem ends_of {p:Program} {w:World} {N:Nat} {s₀ s₁:Shared} (h:fencedOpening treeTable p w N=some s₀) (h':topFrom treeTable p w N s₀=some s₁):openEnds treeTable p w N=some s₁:=by
 unfold openEnds
 rw[h];exact h'
theorem Jhr {α β:Type} {o:Option α} {a:α} {f:α→β} (h:o=some a):o.map f=some (f a):=by rw[h];rfl
theorem seen_eq (s:Shared):openSeen qv [] (importedModules pw.main.body) XtA true s=seenF qv [] (importedModules pw.main.body) XtA true s:=
 congrFun (congrFun (congrFun (congrFun (congrFun (congrFun PySem.W.Fast.te4187177175401517315 qv) []) (importedModules pw.main.body)) XtA) true) s
theorem left:LeftO pw qv [] XtA obsY (fun _=>(true,nsL.map fdx)) 4300:=fun w=>by
 refine x11 (bo3 w) fun os e1=>?_
 refine x15 (bo4 w os) fun s' tr c1 c2 c3 c4=>?_
 refine x03 (boot_is w.params) fun b1 b2 b3=>?_
 refine(Jhr (ends_of e1 (Jep b1 b2 b3 tr c1))).trans (Jkz ((seen_eq s'.abs).trans c2) (pair_eq ?_ ?_))
 ·rw[Jmc];exact c3
 ·rw[Jmc];exact c4
noncomputable abbrev rwl:=PySem.Challenge.rw_sa0050_01
theorem pre_len (h:WTm.holds [] rwl.pre {args:=[WData.list xs]}=true):xs.length≤63:=by
 have h:WTm.holds [] (.and (.not (.lt (.lit (.int 63)) (.len (.arg 0)))) (.lit (.bool true))) {args:=[WData.list xs]}=true:=h
 apply Classical.byContradiction
 intro c
 have hl:less? (WData.int 63) (WData.int (xs.length:Int))=some true:=by
  show some (decide _)=_
  rw[decide_eq_true (by exact iK' (Nat.lt_of_not_le c))]
 simp [WTm.holds,WTm.value,hl] at h
theorem Jk9 (h:WShape.has [] d (.list .int)=true):∃xs,d=.list xs∧WShape.hasItems [] xs .int=true:=by
 cases d<;>first|exact⟨_,rfl,(Bool.or_false _).symm.trans h⟩|exact absurd (show false=true from h) Bool.false_ne_true
theorem int_inv (h:WShape.has [] d .int=true):∃i,d=.int i:=by
 cases d<;>first|exact⟨_,rfl⟩|exact absurd (show false=true from h) Bool.false_ne_true
theorem Jhy:∀{xs:List WData},WShape.hasItems [] xs .int=true→∃is:List Int,xs=is.map .int:=by
 intro l_
 induction l_ with
 |nil=>
  intro _
  exact⟨[],rfl⟩
 |cons d xs ih_=>
  intro h
  have h:(WShape.has [] d .int&&WShape.hasItems [] xs .int)=true:=h
  have h:=Bool.and_eq_true_iff.mp h
  refine x11 (int_inv h.1) fun i q1_=>?_
  subst q1_
  refine x11 (ih_ h.2) fun is q1_=>?_
  subst q1_
  exact⟨i::is,rfl⟩
theorem Jfp:∀{vs:List Value} {is:List Int},WellAll P h vs (is.map .int)→∀ι,VRs ι h (intL is) vs:=by
 intro l_
 induction l_ with
 |nil=>
  intro w1_
  cases w1_ with
  |nil=>
   intro _ _
   exact rfl
  |cons i is=>
   intro w _
   cases w
 |cons v vs ih_=>
  intro w1_
  cases w1_ with
  |nil=>
   intro w _
   cases w
  |cons i is=>
   intro w ι
   cases w with
   |cons a b=>cases a with
    |int _ t=>exact⟨_,_,rfl,⟨t,rfl⟩,ih_ b ι⟩
noncomputable def lawD:DefRec:={name:="law",params:=argsOf 28,body:=bodyOf 28,scope:=scOf 28,pos:=⟨476,0,491,100⟩}
theorem lawD1:defOf qv "law"=some (lawD,[]):=by kernel_rfl
theorem Jlb (S:∀Z:Fix,SetOk Z) {w:World} {cl:Str→Option Addr} {mean:ExcName→Option Value} {mg mb:Str→Option Value} {p:Program} {loose:List Str} (TR:TopRead p loose mg mb s₁.heap) (Y:saysY w s₁.heap) {vs:List Value} {is:List Int} (hmg:mg "law"=some (.ref fa)) (hg:s₁.gens=#[])
  (hx:s₁.heap.get? x=some {cls:=.type "list",data:=.seq vs.toArray}) (hv:WellAll w.params s₁.heap vs (is.map .int)) (hl:is.length≤63) (hlo:x≠sysModules) :
  wpAny (model pw w) callerA (PySem.call (.ref fa) [.ref x]) (fun v s'=>GoodWG rwl.row.claim cl mean [WData.list (is.map .int)] s₁ (.ok (.ret v)) s') (fun e s'=>GoodWG rwl.row.claim cl mean [WData.list (is.map .int)] s₁ (.error e) s') s₁:=by
 refine x12 Y fun K' X sn=>?_
 have h:=sn.all
 have W:=Jiy h (w:=w) (os:=s₁.os) X TR
 have fa_eq:fadK K' (K 28)=some fa:=by
  refine(Jb7 (by decide)).trans ?_
  have t:=h.top ("law",28) (.head _)
  cases q:gref K' (Str.ofString "law") with
  |none=>rw[q] at t;exact Bool.noConfusion t
  |some a=>
   have:=mg_of X TR.g (Jde q)
   cases hmg.symm.trans this
   exact q
 refine enter_call (codeAny_mono ?_ fun _ _ g=>GoodW.toG g)
 have one:∀{i:Nat} {p:Addr×Addr},([(x,x)]:Io)[i]?=some p→i=0∧p=(x,x):=fun {i p} e=>by
  cases i with
  |zero=>obtain rfl:=Option.some.inj e;exact⟨rfl,rfl⟩
  |succ i=>exact Jc e
 let c:Cfg (fixOf K' w s₁.heap s₁.os):=⟨[(x,x)],⟨#[.list (intL is)]⟩,s₁,fun _ _ e=>e,rfl,(fun i p o e1 e2=>by
   refine x02 (one e1) fun q1_ q2_=>?_
   subst q1_
   subst q2_
   obtain rfl:=Option.some.inj e2
   exact⟨rfl,vs.toArray,0,hx,Jfp hv _⟩),(fun i j p q e1 e2 ne=>absurd ((one e1).1.trans (one e2).1.symm) ne),(fun i p e ne=>absurd (one e).1 ne),(fun p e=>by rw[(one e).2];exact hlo),Nat.one_pos,hg,rfl⟩
 have ok:=Jej (S _) W 10 callerA ⟨rfl,by decide +kernel,by decide +kernel⟩ (K 28) [.ref 0] c [.ref x] (fun v _=>v=.bool true)
  (fun o s'=>GoodW rwl.row.claim cl mean [WData.list (is.map .int)] s₁ (.ok (.ret o)) s')
  (c28 (g:=⟨⟨#[.list (intL is)]⟩,fun n=>(n,0)⟩) (d:=0) ⟨rfl,rfl⟩ rfl hl fun _=>rfl) ⟨_,_,rfl,⟨_,rfl,rfl⟩,rfl⟩ fa fa_eq fun c' v r E R q=>by
   subst q
   obtain rfl:=(show r=.bool true from R)
   exact⟨.inl ⟨_,.bool true,[],rfl,fun _=>rfl,.bool true,by kernel_rfl,fun _=>⟨.nil,fun a h=>(by cases h)⟩⟩,c'.base,c'.os,c'.gens⟩
 exact codeAny_mono ok fun r s w2_=>x12 w2_ fun o e g=>by subst e;exact g
theorem said_ok:rwl.wellSaid=true:=by kernel_rfl
theorem Jil:(chainsOk qv&&opensWell pw&&(frees rwl.row.toRowW&&rwl.row.within.isEmpty))=true:=by decide +kernel
theorem Jls {w:World} {s₁:Shared} {cl:Str→Option Addr} {args:List WData} {vals:List Value} {as:List Addr} (hpre:rwl.row.toRowW.claim.pre args=true) (hrd:ReadsAllW rwl.row.records cl s₁.heap vals args as) (hwl:WellAll w.params s₁.heap vals args) (hlo:∀a∈as,(a==sysModules)=false) :
  ∃(is:List Int) (x:Addr) (vs:List Value),args=[WData.list (is.map .int)]∧vals=[.ref x]∧is.length≤63∧s₁.heap.get? x=some {cls:=.type "list",data:=.seq vs.toArray}∧WellAll w.params s₁.heap vs (is.map .int)∧x≠sysModules:=by
 obtain ⟨h1,h2⟩:=pre_splitW hpre
 obtain ⟨d,r,rfl,h3,h4⟩:=hasAllW_cons h1
 cases hasAllW_nil h4
 obtain ⟨xs,rfl,h5⟩:=Jk9 h3
 obtain ⟨is,rfl⟩:=Jhy h5
 have hl:=pre_len h2
 rw[List.length_map] at hl
 cases hwl with
 |cons a b=>
  cases b
  cases a with
  |@list x vs _ g ws=>
   refine⟨is,x,vs,rfl,rfl,hl,g,ws,?_⟩
   obtain ⟨_,_,a1,b1,e1,rfl,r1,_⟩:=hrd.cons_inv
   cases e1
   cases r1 with
   |list _ _ _ _=>exact fun e=>by have:=hlo x (by simp);rw[e,beq_self_eq_true] at this;cases this
theorem main (S:∀Z:Fix,SetOk Z):rwl.Holds:=by
 refine holds_law said_ok fun said=>?_
 refine PySem.W.holds_open (q:=qv) (loose:=[]) (Xt:=XtA) (XP:=PySem.W.XL qv []) (Yf:=obsY) (Ya:=fun _=>(true,nsL.map fdx)) (YP:=saysY) (N:=4300) left (fun w s e=>⟨FR s.heap,FR_in _,⟨congrArg Prod.fst e,congrArg Prod.snd e⟩⟩) (fun w h h' w3_ k=>x12 w3_ fun K' i s=>⟨K',i.keeps k,s⟩)
  (fun s e=>xl_of s (Bool.and_eq_true_iff.mp e).1) PySem.W.XL.keeps lawD1 (by kernel_rfl) (by kernel_rfl) (fun s e=>recFacts_of (Bool.and_eq_true_iff.mp e).2) (by rfl) said Jil ⟨rfl,rfl,rfl,rfl,rfl,by decide +kernel⟩ ?hw ?hc
 case hw=>exact⟨[.list []],by decide +kernel,by decide +kernel⟩
 case hc=>
  intro w s₀ s₁ mg mb G Y fa o pm cd doc dV kV ho hd hcd hD hmg hg args vals as hpre hlay hrd hwl hlo
  obtain ⟨is,x,vs,rfl,rfl,hl,g,ws,ne⟩:=Jls hpre hrd hwl hlo
  exact Jlb S (topRead_of G.T) Y hmg hg g ws hl ne
theorem holds_all:rwl.Holds:=main setOk
end Mine
theorem PySem.Challenge.cw_sa0050_01_holds : PySem.Challenge.rw_sa0050_01.Holds :=
 Mine.holds_all
