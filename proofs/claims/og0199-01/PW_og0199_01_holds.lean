import PyProof.Rows.All
import Wide.All
import OpenK.AllK
import Wide.FinOn
import KE.KxBytes
import PyProof.NeKinds
import PyProof.EqKinds
import KE.KBytesCut
import KE.KBytesWalk
import KE.KItem
import OpenK.KApp
import KE.KIsBytes
import KE.KPop
import KE.KListMore
import KE.KDictSum
import KE.BytesMake
import PyProof.Rows.SortStrRead
import PyProof.Rows.Range3
import PyProof.FactsAll.str_3
import PyProof.Rows.Chain
import KE.KNest
import KE.KDictNew
import PyProof.StrWalks
import PyProof.CompFree
import PyProof.DictCompW
import KE.KLam
import KE.KTryDeep
import PyProof.ExcInit
import PyProof.ExcClass3
import PyProof.ExcBaseAll.Exception
import PyProof.InstStoreFacts
import OpenK.KMore
import Lean
import PySem.Challenge.RW_og0199_01
set_option tactic.hygienic false
set_option Elab.async false
set_option maxRecDepth 100000
set_option linter.unusedVariables false
set_option linter.unusedSimpArgs false
set_option genSizeOf false
set_option genInjectivity false
set_option maxHeartbeats 4000000
noncomputable section
open PySem.Str renaming ofString → oS
open List renaming Perm → aD, all_eq_true → aF, any_cons → aG, any_eq_true → aH, append_assoc → aI, append_nil → aJ, casesOn → aK, cons → aL, cons_append → aM, drop_length_add_append → aN, filterMap_cons → aO, filter_cons → aP, forIn_cons → aQ, getD_eq_getElem?_getD → aR, getElem?_append_left → aS, getElem?_append_right → aT, getElem?_concat_length → aU, getElem?_eq_getElem → aV, getElem?_eq_some_iff → aW, getElem?_map → aX, getElem?_set_ne → aY, getElem?_set_self → aZ, getElem?_take → bA, getElem?_zip_eq_some → bB, isEmpty_iff → bC, length_append → bD, length_cons → bE, length_map → bF, length_take → bG, lookup_cons → bH, map_append → bI, map_congr_left → bJ, map_cons → bK, map_map → bL, mem_append → bM, mem_append_left → bN, mem_append_right → bO, mem_cons → bP, mem_filter → bQ, mem_filterMap → bR, mem_iff_getElem? → bS, mem_map → bT, mem_of_getElem? → bU, mem_singleton → bV, nil_append → bW, nodup_append → bX, nodup_cons → bY, nodup_nil → bZ, not_mem_nil → cB, pairwise_cons → cC, prefix_refl → cD, range → cE, size_toArray → cG, subset_cons_self → cH
open Nat renaming blt → cI, blt_eq → cJ, casesOn → cK, eq_of_beq_eq_true → cL, le_add_left → cM, le_add_right → cN, le_of_ble_eq_true → cO, le_of_eq → cP, le_refl → cQ, le_succ → cR, le_trans → cS, lt_of_lt_of_le → cU, lt_succ_self → cV, lt_trans → cW, ne_of_lt → cX, zero_le → cY
open Bool renaming and_eq_true_iff → aA, eq_iff_iff → aB, not_eq_true' → aC
section
namespace Mine
theorem le_kk {M a b:Nat} (h:Nat.ble a b=true):M+a≤M+b:=Nat.add_le_add_left (cO h) M
theorem le_lit {M a b:Nat} (h:Nat.ble a b=true):a≤M+b:=cS (cO h) (cM b M)
theorem le_up {M a b:Nat} (h:a≤M):a≤M+b:=cS h (cN M b)
theorem a0w {c:Prop} {α:Type} [Decidable c] {f:c→Option α} {x:α} (h:dite c f (fun z0=>none)=some x):∃ hc,f hc=some x :=
 if hc:c then ⟨hc,(dif_pos hc).symm.trans h⟩ else nomatch (dif_neg hc).symm.trans h
theorem exM {c k n:Nat} (h:c+k≤n):∃ M,n=M+k∧c≤M:=by
 obtain ⟨M,rfl⟩:=Nat.exists_eq_add_of_le' (cS (cM k c) h)
 exact ⟨M,rfl,Nat.le_of_add_le_add_right h⟩
theorem nSN {α:Type _} {x:α} {G:Prop} (h:some x=none):G:=nomatch h
theorem nNS {α:Type _} {x:α} {G:Prop} (h:none=some x):G:=nomatch h
theorem nFT {G:Prop} (h:false=true):G:=nomatch h
theorem nTF {G:Prop} (h:true=false):G:=nomatch h
theorem nCN {α:Type _} {a:α} {l:List α} {G:Prop} (h:a::l=[]):G:=nomatch h
theorem nNC {α:Type _} {a:α} {l:List α} {G:Prop} (h:[]=a::l):G:=nomatch h
@[elab_as_elim] theorem rwR {α:Sort _} {p:α→Prop} {a b:α} (h:a=b) (x:p b):p a:=h▸x
@[elab_as_elim] theorem rwL {α:Sort _} {p:α→Prop} {a b:α} (h:a=b) (x:p a):p b:=h▸x
theorem cF {α:Type _} {b:Bool} {x y r:α} (h:b=false) (q:y=r):cond b x y=r:=by rw [h];exact q
theorem cT {α:Type _} {b:Bool} {x y r:α} (h:b=true) (q:x=r):cond b x y=r:=by rw [h];exact q
theorem cA {α:Type _} {a b:Bool} {x y r:α} (h:a=true) (q:cond b x y=r):cond (a&&b) x y=r:=by rw [h];exact q
theorem cAF {α:Type _} {a b:Bool} {x y r:α} (h:a=false) (q:y=r):cond (a&&b) x y=r:=by rw [h];exact q
theorem cNT {α:Type _} {a:Bool} {x y r:α} (h:a=true) (q:y=r):cond (!a) x y=r:=by rw [h];exact q
theorem cNF {α:Type _} {a:Bool} {x y r:α} (h:a=false) (q:x=r):cond (!a) x y=r:=by rw [h];exact q
theorem xE {A0:Sort _} {p1:A0→Prop} {G:Prop} (k:∀ x0:A0,p1 x0→G) (h:∃ x0:A0,p1 x0):G:=by rcases h with ⟨z0,z1⟩;exact k z0 z1
theorem aE {p0:Prop} {p1:Prop} {G:Prop} (k:p0→p1→G) (h:p0∧p1):G:=by rcases h with ⟨z0,z1⟩;exact k z0 z1
theorem exx {A0:Sort _} {A1:Sort _} {p2:A0→A1→Prop} {G:Prop} (k:∀ x0:A0,∀ x1:A1,p2 x0 x1→G) (h:∃ x0:A0,∃ x1:A1,p2 x0 x1):G:=by rcases h with ⟨z0,z1,z2⟩;exact k z0 z1 z2
theorem exa {A0:Sort _} {p1:A0→Prop} {p2:A0→Prop} {G:Prop} (k:∀ x0:A0,p1 x0→p2 x0→G) (h:∃ x0:A0,p1 x0∧p2 x0):G:=by rcases h with ⟨z0,z1,z2⟩;exact k z0 z1 z2
theorem eax {p0:Prop} {A1:Sort _} {p2:A1→Prop} {G:Prop} (k:p0→∀ x1:A1,p2 x1→G) (h:p0∧∃ x1:A1,p2 x1):G:=by rcases h with ⟨z0,z1,z2⟩;exact k z0 z1 z2
theorem eaa {p0:Prop} {p1:Prop} {p2:Prop} {G:Prop} (k:p0→p1→p2→G) (h:p0∧p1∧p2):G:=by rcases h with ⟨z0,z1,z2⟩;exact k z0 z1 z2
theorem exxx {A0:Sort _} {A1:Sort _} {A2:Sort _} {p3:A0→A1→A2→Prop} {G:Prop} (k:∀ x0:A0,∀ x1:A1,∀ x2:A2,p3 x0 x1 x2→G) (h:∃ x0:A0,∃ x1:A1,∃ x2:A2,p3 x0 x1 x2):G:=by rcases h with ⟨z0,z1,z2,z3⟩;exact k z0 z1 z2 z3
theorem exxa {A0:Sort _} {A1:Sort _} {p2:A0→A1→Prop} {p3:A0→A1→Prop} {G:Prop} (k:∀ x0:A0,∀ x1:A1,p2 x0 x1→p3 x0 x1→G) (h:∃ x0:A0,∃ x1:A1,p2 x0 x1∧p3 x0 x1):G:=by rcases h with ⟨z0,z1,z2,z3⟩;exact k z0 z1 z2 z3
theorem exaa {A0:Sort _} {p1:A0→Prop} {p2:A0→Prop} {p3:A0→Prop} {G:Prop} (k:∀ x0:A0,p1 x0→p2 x0→p3 x0→G) (h:∃ x0:A0,p1 x0∧p2 x0∧p3 x0):G:=by rcases h with ⟨z0,z1,z2,z3⟩;exact k z0 z1 z2 z3
theorem eaxa {p0:Prop} {A1:Sort _} {p2:A1→Prop} {p3:A1→Prop} {G:Prop} (k:p0→∀ x1:A1,p2 x1→p3 x1→G) (h:p0∧∃ x1:A1,p2 x1∧p3 x1):G:=by rcases h with ⟨z0,z1,z2,z3⟩;exact k z0 z1 z2 z3
theorem eaaa {p0:Prop} {p1:Prop} {p2:Prop} {p3:Prop} {G:Prop} (k:p0→p1→p2→p3→G) (h:p0∧p1∧p2∧p3):G:=by rcases h with ⟨z0,z1,z2,z3⟩;exact k z0 z1 z2 z3
end Mine
end
section
namespace Mine
open PySem
inductive BI where
 | len | min | max | abs | isinstance | sorted | ord | chr
 deriving DecidableEq
inductive TY where
 | int | bool | list | dict | tuple | bytes | str | range
 deriving DecidableEq
inductive D where
 | none | bool (b:Bool) | int (i:Int) | str (s:Str) | bytes (b:List Nat)
 | bi (b:BI) | ty (t:TY) | g (a:Nat)
 | tup (xs:List D) | lst (xs:List D) | dct (es:List (D×D)) | obj (c:Nat) (fs:List (Str×D))
 | lam (ps:List Str) (body:Expr) (sc:Scope) | rng (a b c:Int)
 | buf | pos (rest:List Nat) (over:Nat) | endp (full:Option (List Nat)) | blen
 deriving Inhabited
inductive V where
 | d (x:D) | r (i:Nat)
 deriving Inhabited
inductive O where
 | list (xs:List D) | dict (es:List (D×D)) | refs (is:List Nat) | inst (c:Nat) (j:Nat) | ns (fs:List (Str×V))
 | frz (x:D) | dead | cell (v:Option V)
 deriving Inhabited
noncomputable def a1u:O→Bool
 | .frz _=>false
 | .dead=>false
 | _=>true
noncomputable abbrev St:=List O
noncomputable abbrev Loc:=List (Str×V)
noncomputable def a3r:List Nat→List Nat→Bool
 | [],[]=>true
 | a::x,b::y=>bif Nat.beq a b then a3r x y else false
 | _,_=>false
noncomputable def codeOf (s:Str):Nat:=s.cps.toList.foldr (fun c n=>Nat.add c (Nat.mul 1114112 n)) 0
noncomputable def seq (a b:Str):Bool:=bif Nat.beq (codeOf a) (codeOf b) then a3r a.cps.toList b.cps.toList else false
noncomputable def lk {α:Type} (x:Str):List (Str×α)→Option α
 | []=>none
 | (y,v)::r=>bif seq x y then some v else lk x r
noncomputable def put {α:Type} (x:Str) (v:α):List (Str×α)→List (Str×α)
 | []=>[(x,v)]
 | (y,u)::r=>bif seq x y then (y,v)::r else (y,u)::put x v r
noncomputable def setAt {α:Type}:List α→Nat→α→List α
 | [],_,_=>[]
 | x::r,0,v=>v::r
 | x::r,n+1,v=>x::setAt r n v
noncomputable def szOk (n:Nat):Bool:=Nat.ble n 1000000
noncomputable def a1f (i:Int):Bool:=decide (i.natAbs < 18446744073709551616)
noncomputable def pickL {α:Type} (f:D→Option α):List D→Option (List α)
 | []=>some []
 | x::r=>match f x with
  | some i=>(pickL f r).map (i::·)
  | Option.none=>Option.none
noncomputable def dI {α:Type} (z:α) (f:Int→α):D→α
 | .int i=>f i
 | _=>z
noncomputable def dS {α:Type} (z:α) (f:Str→α):D→α
 | .str i=>f i
 | _=>z
noncomputable def dB {α:Type} (z:α) (f:List Nat→α):D→α
 | .bytes i=>f i
 | _=>z
noncomputable def dT {α:Type} (z:α) (f:List D→α):D→α
 | .tup i=>f i
 | _=>z
noncomputable def dL {α:Type} (z:α) (f:List D→α):D→α
 | .lst i=>f i
 | _=>z
noncomputable def dC {α:Type} (z:α) (f:List (D×D)→α):D→α
 | .dct i=>f i
 | _=>z
noncomputable def int? (d:D):Option Int:=dI none some d
noncomputable def str? (d:D):Option Str:=dS none some d
noncomputable def byt? (d:D):Option (List Nat):=dB none some d
noncomputable def intsOf (xs:List D):Option (List Int):=pickL int? xs
noncomputable def onIb (d:D) (f:Int→Bool):Bool:=dI false f d
noncomputable def onSb (d:D) (f:Str→Bool):Bool:=dS false f d
noncomputable def onBb (d:D) (f:List Nat→Bool):Bool:=dB false f d
noncomputable def onTb (d:D) (f:List D→Bool):Bool:=dT false f d
noncomputable def onLb (d:D) (f:List D→Bool):Bool:=dL false f d
mutual
noncomputable def deq:D→D→Bool
 | .int a=>fun y=>onIb y fun b=>decide (a=b)
 | .str a=>fun y=>onSb y (seq a)
 | .bytes a=>fun y=>onBb y (a3r a)
 | .tup a=>fun y=>onTb y (deqs a)
 | .lst a=>fun y=>onLb y (deqs a)
 | _=>fun z0=>false
noncomputable def deqs:List D→List D→Bool
 | [],[]=>true
 | a::x,b::y=>bif deq a b then deqs x y else false
 | _,_=>false
end
noncomputable def a1o (f:D→D→Bool):List D→List D→Bool
 | [],[]=>true
 | a::x,b::y=>bif f a b then a1o f x y else false
 | _,_=>false
noncomputable def a1l:Nat→D→D→Bool
 | 0,_,_=>false
 | n+1,x,y=>match x with
  | .int _=>onIb y fun z0=>true
  | .str _=>onSb y fun z0=>true
  | .bytes _=>onBb y fun z0=>true
  | .tup a=>onTb y (a1o (a1l n) a)
  | .lst a=>onLb y (a1o (a1l n) a)
  | _=>false
mutual
noncomputable def a8v:D→Bool
 | .tup xs=>a8z xs
 | .lst xs=>a8z xs
 | .dct es=>noAbsp es
 | .obj _ fs=>noAbsf fs
 | .buf | .pos _ _ | .endp _ | .blen | .lam _ _ _ | .rng _ _ _=>false
 | _=>true
noncomputable def a8z:List D→Bool
 | []=>true
 | x::r=>a8v x&&a8z r
noncomputable def noAbsp:List (D×D)→Bool
 | []=>true
 | x::r=>a8v x.1&&(a8v x.2&&noAbsp r)
noncomputable def noAbsf:List (Str×D)→Bool
 | []=>true
 | x::r=>a8v x.2&&noAbsf r
end
noncomputable def isI (d:D):Bool:=dI false (fun z0=>true) d
noncomputable def isS (d:D):Bool:=dS false (fun z0=>true) d
noncomputable def keysOk (k:D) (es:List (D×D)):Bool:=match k with
 | .int _=>es.all fun e=>isI e.1
 | .str _=>es.all fun e=>isS e.1
 | _=>false
noncomputable def keq:D→D→Bool
 | .int a,.int b=>decide (a=b)
 | .str a,.str b=>seq a b
 | _,_=>false
noncomputable def dhas (k:D):List (D×D)→Bool
 | []=>false
 | (x,_)::r=>bif keq x k then true else dhas k r
noncomputable def a2k (k:D):List (D×D)→D
 | [] => .none
 | (x,v)::r=>bif keq x k then v else a2k k r
noncomputable def dput (k v:D):List (D×D)→List (D×D)
 | []=>[(k,v)]
 | (x,u)::r=>bif keq x k then (x,v)::r else (x,u)::dput k v r
noncomputable def insI (a:Int):List Int→List Int
 | []=>[a]
 | b::r=>bif decide (a≤b) then a::b::r else b::insI a r
noncomputable def sortI:List Int→List Int
 | []=>[]
 | a::r=>insI a (sortI r)
noncomputable def insS (a:Str):List Str→List Str
 | []=>[a]
 | b::r=>bif Spec.ltCps b.cps.toList a.cps.toList then b::insS a r else a::b::r
noncomputable def sortS:List Str→List Str
 | []=>[]
 | a::r=>insS a (sortS r)
noncomputable def strsOf (xs:List D):Option (List Str):=pickL str? xs
noncomputable def bytesOf? (xs:List D):Option (List (List Nat)):=pickL byt? xs
noncomputable def a1p (a c:Int):Nat→List Int
 | 0=>[]
 | n+1=>a::a1p (a+c) c n
noncomputable def sCat (a b:Str):Str:=⟨(a.cps.toList++b.cps.toList).toArray⟩
noncomputable def a1m {α:Type} (sep:List α):List (List α)→List α
 | []=>[]
 | [a]=>a
 | a::r=>a++sep++a1m sep r
noncomputable def a6z (i:Int) (n:Nat):Nat:=bif decide (i < 0) then (i+n).toNat else min i.toNat n
noncomputable def slice {α:Type} (xs:List α) (lo hi:Option Int):List α :=
 let n:=xs.length
 let a:=match lo with | none=>0 | some i=>a6z i n
 let b:=match hi with | none=>n | some i=>a6z i n
 (xs.drop a).take (b - a)
noncomputable def digitsOf (i:Int):List Nat:=(toString i).toList.map Char.toNat
noncomputable def own {R:Type} (σ:St) (i:Nat) (f:O→Option R):Option R:=match σ[i]? with
 | some o=>f o
 | none=>none
noncomputable def optK {R α:Type} (o:Option α) (k:α→Option R):Option R:=match o with
 | some x=>k x
 | none=>none
noncomputable def noK {R α:Type} (o:Option α) (x:Option R):Option R:=match o with
 | some _=>none
 | none=>x
noncomputable def onR {R:Type} (v:V) (f:Nat→Option R):Option R:=match v with
 | .r i=>f i
 | .d _=>none
noncomputable def onCell {R:Type} (o:O) (f:Option V→Option R):Option R:=match o with
 | .cell w=>f w
 | _=>none
noncomputable def onInst {R:Type} (o:O) (f:Nat→Nat→Option R):Option R:=match o with
 | .inst c j=>f c j
 | _=>none
noncomputable def onNs {R:Type} (o:O) (f:List (Str×V)→Option R):Option R:=match o with
 | .ns fs=>f fs
 | _=>none
noncomputable def cellAt {R:Type} (x:Str) (ρ:Loc) (σ:St) (f:Nat→Option V→Option R):Option R:=optK (lk x ρ) fun v=>onR v fun i=>own σ i fun o=>onCell o (f i)
noncomputable def inst {R:Type} (σ:St) (i:Nat) (f:Nat→Nat→List (Str×V)→Option R):Option R:=own σ i fun o=>onInst o fun c j=>own σ j fun o=>onNs o (f c j)
section ops
variable {R:Type}
noncomputable def item {α:Type} [Inhabited α] (xs:List α) (i:Int) (k:α→Option R):Option R :=
 bif decide (i < 0) then (bif decide (0≤i+xs.length) then k (xs.getD (i+xs.length).toNat default) else none) else bif decide (i < xs.length) then k (xs.getD i.toNat default) else none
noncomputable def norm (σ:St):V→V
 | .r i=>match σ[i]? with
  | some (.frz x) => .d x
  | _ => .r i
 | v=>v
mutual
noncomputable def fz:Nat→St→V→Option (D×St)
 | _,σ,.d x=>some (x,σ)
 | 0,_,.r _=>none
 | n+1,σ,.r i=>own σ i fun o=>match o with
  | .frz x=>some (x,σ)
  | .list xs=>some (.lst xs,setAt σ i (.frz (.lst xs)))
  | .dict es=>some (.dct es,setAt σ i (.frz (.dct es)))
  | .inst c j=>own σ j fun o=>onNs o fun fs=>optK (fzs n σ fs) fun p=>inst p.2 i fun z0 j' z0=>bif Nat.beq j' j then some (.obj c p.1,setAt (setAt p.2 i (.frz (.obj c p.1))) j .dead) else none
  | _=>none
noncomputable def fzs:Nat→St→List (Str×V)→Option (List (Str×D)×St)
 | _,σ,[]=>some ([],σ)
 | 0,_,_::_=>none
 | n+1,σ,(x,v)::r=>optK (fz n σ v) fun p=>optK (fzs n p.2 r) fun q=>some ((x,p.1)::q.1,q.2)
end
noncomputable def toD (v:V) (σ:St) (k:D→St→Option R):Option R:=match v with
 | .d x=>k x σ
 | .r i=>optK (fz 20 σ (.r i)) fun p=>k p.1 p.2
noncomputable def toDs:List V→St→(List D→St→Option R)→Option R
 | [],σ,k=>k [] σ
 | v::r,σ,k=>toD v σ fun x σ=>toDs r σ fun xs σ=>k (x::xs) σ
noncomputable def a9a (n:Nat):V→Bool
 | .d _=>true
 | .r i=>cI i n
noncomputable def a4p (n:Nat):O→Bool
 | .refs is=>is.all fun i=>cI i n
 | .inst _ j=>cI j n
 | .ns fs=>fs.all fun x=>a9a n x.2
 | .cell (some v)=>a9a n v
 | _=>true
noncomputable def shV (n:Nat):V→V
 | .d x => .d x
 | .r i => .r (n+i)
noncomputable def shO (n:Nat):O→O
 | .refs is => .refs (is.map fun i=>n+i)
 | .inst c j => .inst c (n+j)
 | .ns fs => .ns (fs.map fun x=>(x.1,shV n x.2))
 | .cell v => .cell (v.map (shV n))
 | o=>o
end ops
structure FnRec where
 params:List Str
 dflts:List D
 scope:Scope
 body:List Stmt
structure Tabs where
 fn:Nat→Option FnRec
 glob:Str→Option D
 meth:Nat→Str→Option Nat
 cls:Nat→Option (Nat×Bool)
 fld:Nat→Str→Bool
 refused:Nat
 isCls:Nat→Bool
 reader:Nat
 reader2:Nat
structure KS (R:Type) where
 next:Loc→St→Option R
 ret:V→St→Option R
 cont:Loc→St→Option R
 brk:Loc→St→Option R
structure IH (R:Type) where
 e:Scope→Expr→Loc→St→(V→St→Option R)→Option R
 t:Scope→Expr→Loc→St→(Bool→St→Option R)→Option R
 s:Scope→Stmt→Loc→St→KS R→Option R
 call:V→List V→St→(V→St→Option R)→Option R
section step
variable {R:Type} (T:Tabs) (ih:IH R)
noncomputable def evName (sc:Scope) (x:Str) (ρ:Loc) (σ:St) (k:V→Option R):Option R:=optK (lk x sc.names) fun kd=>match kd with
 | .globalImplicit=>optK (T.glob x) fun d=>k (.d d)
 | .local=>optK (lk x ρ) k
 | .cell=>cellAt x ρ σ fun z0 w=>optK w k
 | .free=>cellAt x ρ σ fun z0 w=>optK w k
 | _=>none
noncomputable def putName (sc:Scope) (x:Str) (v:V) (ρ:Loc) (σ:St) (k:Loc→St→Option R):Option R:=optK (lk x sc.names) fun kd=>match kd with
 | .local=>k (put x v ρ) σ
 | .cell=>cellAt x ρ σ fun i z0=>k ρ (setAt σ i (.cell (some v)))
 | _=>none
noncomputable def truthD (x:D) (k:Bool→Option R):Option R:=match x with
 | .bool b=>k b
 | .lst xs=>bif szOk xs.length then k (!xs.isEmpty) else none
 | _=>none
noncomputable def truthO (o:Option O) (k:Bool→Option R):Option R:=match o with
 | some (.list xs)=>bif szOk xs.length then k (!xs.isEmpty) else none
 | _=>none
noncomputable def truthy (v:V) (σ:St) (k:Bool→Option R):Option R:=match norm σ v with
 | .d x=>truthD x k
 | .r i=>truthO σ[i]? k
noncomputable def onI (d:D) (f:Int→Option R):Option R:=dI none f d
noncomputable def onS (d:D) (f:Str→Option R):Option R:=dS none f d
noncomputable def onB (d:D) (f:List Nat→Option R):Option R:=dB none f d
noncomputable def onT (d:D) (f:List D→Option R):Option R:=dT none f d
noncomputable def onP (d:D) (f:List Nat→Nat→Option R):Option R:=match d with
 | .pos i o=>f i o
 | _=>none
noncomputable def addD (a b:D) (k:D→Option R):Option R:=match a with
 | .int x=>onI b fun y=>k (.int (x+y))
 | .str x=>onS b fun y=>bif szOk (x.cps.toList.length+y.cps.toList.length) then k (.str (sCat x y)) else none
 | .bytes x=>onB b fun y=>bif szOk (x.length+y.length) then k (.bytes (x++y)) else none
 | .tup x=>onT b fun y=>bif Nat.ble (x.length+y.length) 10000&&(!x.isEmpty && !y.isEmpty) then k (.tup (x++y)) else none
 | .pos r o=>onI b fun y=>bif decide (0≤y) then (bif Nat.ble y.toNat r.length then k (.pos (r.drop y.toNat) o) else k (.pos [] (o+(y.toNat - r.length)))) else none
 | _=>none
noncomputable def subD (a b:D) (k:D→Option R):Option R:=match a with
 | .int x=>onI b fun y=>k (.int (x - y))
 | .pos a o=>onP b fun b u=>k (.int ((b.length:Int)+o - a.length - u))
 | _=>none
noncomputable def one? {α:Type} (xs:List α) (f:α→Option R):Option R:=match xs with
 | [x]=>f x
 | _=>none
noncomputable def mulD (a b:D) (k:D→Option R):Option R:=match a with
 | .int x=>onI b fun y=>bif a1f x then k (.int (x * y)) else none
 | .lst xs=>one? xs fun x=>onI b fun y=>bif decide (0≤y)&&decide (y≤200) then k (.lst (List.replicate y.toNat x)) else none
 | _=>none
noncomputable def binop (op:Operator) (a b:D) (k:D→Option R):Option R:=match op with
 | .Add=>addD a b k
 | .Sub=>subD a b k
 | .Mult=>mulD a b k
 | .FloorDiv=>onI a fun x=>onI b fun y=>bif decide (0 < y)&&a1f y then k (.int (x.fdiv y)) else none
 | .Mod=>onI a fun x=>onI b fun y=>bif decide (0 < y) then k (.int (x.fmod y)) else none
 | .Pow=>onI a fun x=>onI b fun y=>bif decide (0≤y)&&decide (y≤1000)&&a1f x then k (.int (x ^ y.toNat)) else none
 | _=>none
noncomputable def anyOf {α:Type} (o:Option (List α)) (f:α→Bool):Option Bool:=match o with
 | some is=>some (is.any f)
 | none=>none
noncomputable def memD (a:D) (xs:List D):Option Bool:=match a with
 | .int i=>anyOf (intsOf xs) fun j=>decide (j=i)
 | .str i=>anyOf (strsOf xs) fun j=>seq j i
 | .bytes i=>anyOf (bytesOf? xs) fun j=>a3r j i
 | _=>none
noncomputable def onL (d:D) (f:List D→Option R):Option R:=dL none f d
noncomputable def onN (d:D) (x:Option R):Option R:=match d with
 | .none=>x
 | _=>none
noncomputable def onE (d:D) (x:Option R):Option R:=match d with
 | .endp _=>x
 | _=>none
noncomputable def isNone (d:D):Bool:=Nat.beq d.ctorIdx 0
noncomputable def eqD (a b:D) (k:Bool→Option R):Option R:=bif a1l 60 a b then k (deq a b) else none
noncomputable def eqP (a b:D) (k:Bool→Option R):Option R:=match a with
 | .pos a o=>onP b fun b u=>k (Nat.beq (a.length+u) (b.length+o))
 | a=>eqD a b k
noncomputable def memK (a:D) (xs:List D) (k:Bool→Option R):Option R:=match memD a xs with
 | some q=>k q
 | none=>none
noncomputable def ltD (a b:D) (k:Bool→Option R):Option R:=match a with
 | .int x=>onI b fun y=>k (decide (x < y))
 | .pos r _=>onE b (k (!r.isEmpty))
 | .endp _=>onI b fun y=>bif decide (y≤0) then k false else none
 | _=>none
noncomputable def leD (a b:D) (k:Bool→Option R):Option R:=match a with
 | .int x=>onI b fun y=>k (decide (x≤y))
 | .pos r o=>onE b (k (!r.isEmpty||Nat.beq o 0))
 | _=>none
noncomputable def gtD (a b:D) (k:Bool→Option R):Option R:=match a with
 | .int x=>onI b fun y=>k (decide (y < x))
 | .endp _=>match b with
  | .blen=>k false
  | _=>none
 | _=>none
noncomputable def geD (a b:D) (k:Bool→Option R):Option R:=match a with
 | .int x=>onI b fun y=>k (decide (y≤x))
 | .pos r _=>onE b (k r.isEmpty)
 | _=>none
noncomputable def notInD (a b:D) (k:Bool→Option R):Option R:=match b with
 | .tup xs=>memK a xs fun q=>k (!q)
 | .lst xs=>memK a xs fun q=>k (!q)
 | _=>none
noncomputable def cmpD (op:CmpOp) (a b:D) (k:Bool→Option R):Option R:=match op with
 | .Eq=>eqP a b k
 | .NotEq=>eqD a b fun q=>k (!q)
 | .Lt=>ltD a b k
 | .LtE=>leD a b k
 | .Gt=>gtD a b k
 | .GtE=>geD a b k
 | .Is=>onN b (k (isNone a))
 | .IsNot=>onN b (k (!isNone a))
 | .In=>onT b fun xs=>memK a xs k
 | .NotIn=>notInD a b k
noncomputable def inO (op:CmpOp) (x:D) (o:O) (k:Bool→Option R):Option R:=match o with
 | .dict es=>match op with
  | .In=>bif keysOk x es then k (dhas x es) else none
  | _=>none
 | .list ys=>match op with
  | .NotIn=>memK x ys fun q=>k (!q)
  | _=>none
 | _=>none
noncomputable def eqs (op:CmpOp) (f:(Bool→Option R)→Option R) (k:Bool→Option R):Option R:=match op with
 | .Eq=>f k
 | .NotEq=>f fun q=>k (!q)
 | _=>none
noncomputable def eqO (op:CmpOp) (o:O) (ys:List D) (k:Bool→Option R):Option R:=match o with
 | .list xs=>eqs op (eqD (.lst xs) (.lst ys)) k
 | .refs is=>match ys with
  | []=>eqs op (fun k=>k is.isEmpty) k
  | _=>none
 | _=>none
noncomputable def cmp (op:CmpOp) (a b:V) (σ:St) (k:Bool→Option R):Option R:=match norm σ a with
 | .d x=>match norm σ b with
  | .d y=>cmpD op x y k
  | .r j=>own σ j fun o=>inO op x o k
 | .r i=>match norm σ b with
  | .d y=>own σ i fun o=>onL y fun ys=>eqO op o ys k
  | .r _=>none
noncomputable def isStar (e:Expr):Bool:=Nat.beq e.ctorIdx 22
noncomputable def evL (sc:Scope):List Expr→Loc→St→(List V→St→Option R)→Option R
 | [],_,σ,k=>k [] σ
 | e::r,ρ,σ,k=>bif isStar e then none else ih.e sc e ρ σ fun v σ=>evL sc r ρ σ fun vs σ=>k (v::vs) σ
noncomputable def b0c (sc:Scope):V→List CmpOp→List Expr→Loc→St→(Bool→St→Option R)→Option R
 | a,op::ops,r::rs,ρ,σ,k=>bif ops.isEmpty then (bif rs.isEmpty then ih.e sc r ρ σ fun b σ=>cmp op a b σ fun q=>k q σ else none) else
  bif rs.isEmpty then none else ih.e sc r ρ σ fun b σ=>cmp op a b σ fun q=>bif q then b0c sc b ops rs ρ σ k else k false σ
 | _,_,_,_,_,_=>none
noncomputable def evAnd (sc:Scope):List Expr→Loc→St→(Bool→St→Option R)→Option R
 | [],_,σ,k=>k true σ
 | e::r,ρ,σ,k=>ih.t sc e ρ σ fun b σ=>bif b then evAnd sc r ρ σ k else k false σ
noncomputable def evOr (sc:Scope):List Expr→Loc→St→(Bool→St→Option R)→Option R
 | [],_,σ,k=>k false σ
 | e::r,ρ,σ,k=>ih.t sc e ρ σ fun b σ=>bif b then k true σ else evOr sc r ρ σ k
noncomputable def tVal (sc:Scope) (e:Expr) (ρ:Loc) (σ:St) (k:Bool→St→Option R):Option R:=ih.e sc e ρ σ fun v σ=>truthy v σ fun b=>k b σ
noncomputable def tNot (sc:Scope) (op:UnaryOp) (x:Expr) (ρ:Loc) (σ:St) (k:Bool→St→Option R):Option R:=match op with
 | .Not=>ih.t sc x ρ σ fun b σ=>k (!b) σ
 | _=>none
noncomputable def tBool (sc:Scope) (op:BoolOp) (vs:List Expr) (ρ:Loc) (σ:St) (k:Bool→St→Option R):Option R:=match op with
 | .And=>evAnd ih sc vs ρ σ k
 | .Or=>evOr ih sc vs ρ σ k
noncomputable def eCmp (sc:Scope) (l:Expr) (ops:List CmpOp) (rs:List Expr) (ρ:Loc) (σ:St) (k:Bool→St→Option R):Option R:=bif lastMarks ops rs then none else ih.e sc l ρ σ fun a σ=>b0c ih sc a ops rs ρ σ k
noncomputable def stepT (sc:Scope) (e:Expr) (ρ:Loc) (σ:St) (k:Bool→St→Option R):Option R:=match e with
 | .UnaryOp op x _=>tNot ih sc op x ρ σ k
 | .BoolOp op vs _=>tBool ih sc op vs ρ σ k
 | .Compare l ops rs _=>eCmp ih sc l ops rs ρ σ k
 | .Name _ _=>tVal ih sc e ρ σ k
 | .Call _ _ _ _=>tVal ih sc e ρ σ k
 | .Constant _ _ _=>tVal ih sc e ρ σ k
 | _=>none
noncomputable def bStop (op:BoolOp) (b:Bool) (x y:Option R):Option R:=match op with
 | .And=>bif b then y else x
 | .Or=>bif b then x else y
noncomputable def b1l (sc:Scope) (op:BoolOp):List Expr→Loc→St→(V→St→Option R)→Option R
 | [],_,_,_=>none
 | e::r,ρ,σ,k=>bif r.isEmpty then ih.e sc e ρ σ k else ih.e sc e ρ σ fun v σ=>truthy v σ fun b=>bStop op b (k v σ) (b1l sc op r ρ σ k)
noncomputable def strC?:Const→Option Str
 | .str x=>some x
 | _=>none
noncomputable def strE? (e:Expr):Option Str:=if h:_ then Expr.Constant.elim e h fun c z0 z0=>strC? c else none
noncomputable def skey?:Option Expr→Option Str
 | some e=>strE? e
 | none=>none
noncomputable def evKV (sc:Scope):List (Option Expr)→List Expr→Loc→St→(List (Str×D)→St→Option R)→Option R
 | [],[],_,σ,k=>k [] σ
 | e::ks,b::vs,ρ,σ,k=>optK (skey? e) fun x=>bif isStar b then none else ih.e sc b ρ σ fun y σ=>toD y σ fun y σ=>evKV sc ks vs ρ σ fun es σ=>k ((x,y)::es) σ
 | _,_,_,_,_=>none
noncomputable def b0d:List (Option Expr)→List Expr→Bool
 | [],[]=>true
 | e::ks,_::vs=>(skey? e).isSome&&b0d ks vs
 | _,_=>false
noncomputable def dispOk (ks:List (Option Expr)) (vs:List Expr):Bool:=b0d ks vs&&Nat.ble ks.length 15
noncomputable def a7a:List (D×D)→List (D×D)→List (D×D)
 | acc,[]=>acc
 | acc,(x,y)::r=>a7a (dput x y acc) r
noncomputable def a7b (es:List (Str×D)):List (D×D):=a7a [] (es.map fun e=>(.str e.1,e.2))
noncomputable def onDv (v:V) (f:D→Option R):Option R:=match v with
 | .d x=>f x
 | .r _=>none
noncomputable def onIv (v:V) (f:Int→Option R):Option R:=onDv v fun d=>onI d f
noncomputable def a3n (args:List V) (f:V→Option R):Option R:=match args with
 | [a]=>f a
 | _=>none
noncomputable def args2 (args:List V) (f:V→V→Option R):Option R:=match args with
 | [a,b]=>f a b
 | _=>none
noncomputable def seen (v:V) (σ:St) (f:D→Option R) (g:O→Option R):Option R:=match norm σ v with
 | .d x=>f x
 | .r i=>own σ i g
noncomputable def getattr (v:V) (a:Str) (σ:St) (k:V→Option R):Option R:=match norm σ v with
 | .d x=>match x with
  | .obj c fs=>bif T.fld c a then optK (lk a fs) fun x=>k (.d x) else none
  | _=>none
 | .r i=>inst σ i fun c z0 fs=>bif T.fld c a then optK (lk a fs) k else none
noncomputable def setattr (v:V) (a:Str) (x:V) (σ:St) (k:St→Option R):Option R:=onR v fun i=>inst σ i fun c j fs=>bif T.fld c a&&Nat.ble fs.length 100 then k (setAt σ j (.ns (put a x fs))) else none
noncomputable def onHd (l:List Nat) (f:Nat→Option R):Option R:=match l with
 | c::_=>f c
 | []=>none
noncomputable def a7c {α:Type} [Inhabited α] (xs:List α) (i:Int) (k:α→Option R):Option R:=bif szOk xs.length then item xs i k else none
noncomputable def keyed (es:List (D×D)) (i:D) (k:V→Option R):Option R:=bif keysOk i es&&dhas i es then k (.d (a2k i es)) else none
noncomputable def itemD (x i:D) (k:V→Option R):Option R:=match x with
 | .lst xs=>onI i fun i=>a7c xs i fun x=>k (.d x)
 | .tup xs=>onI i fun i=>a7c xs i fun x=>k (.d x)
 | .bytes xs=>onI i fun i=>a7c xs i fun x=>k (.d (.int x))
 | .dct es=>keyed es i k
 | .buf=>onP i fun l z0=>onHd l fun c=>k (.d (.int c))
 | _=>none
noncomputable def itemO (o:O) (i:D) (k:V→Option R):Option R:=match o with
 | .list xs=>onI i fun i=>a7c xs i fun x=>k (.d x)
 | .refs is=>onI i fun i=>a7c is i fun m=>k (.r m)
 | .dict es=>keyed es i k
 | _=>none
noncomputable def getitem (v:V) (i:D) (σ:St) (k:V→Option R):Option R:=match norm σ v with
 | .d x=>itemD x i k
 | .r j=>own σ j fun o=>itemO o i k
noncomputable def setO (o:O) (i x:D) (k:O→Option R):Option R:=match o with
 | .dict es=>bif keysOk i es&&szOk es.length then k (.dict (dput i x es)) else none
 | .list xs=>onI i fun i=>bif decide (0≤i)&&decide (i < xs.length)&&szOk xs.length then k (.list (setAt xs i.toNat x)) else none
 | _=>none
noncomputable def setitem (v:V) (i x:D) (σ:St) (k:St→Option R):Option R:=onR v fun j=>own σ j fun o=>setO o i x fun o'=>k (setAt σ j o')
noncomputable def idxO (o:Option D):Option (Option Int):=match o with
 | none=>some none
 | some d=>(int? d).map some
noncomputable def slD (x:D) (lo hi:Option Int) (k:D→Option R):Option R:=match x with
 | .bytes xs=>bif szOk xs.length then k (.bytes (slice xs lo hi)) else none
 | .lst xs=>bif szOk xs.length then k (.lst (slice xs lo hi)) else none
 | _=>none
noncomputable def isBuf (d:D):Bool:=Nat.beq d.ctorIdx 14
noncomputable def slBuf (lo hi:Option D) (k:D→Option R):Option R:=optK lo fun a=>optK hi fun b=>onP a fun a o=>onP b fun b u=>bif Nat.beq o 0&&Nat.beq u 0&&Nat.ble b.length a.length then k (.bytes (a.take (a.length - b.length))) else none
noncomputable def sliceV (v:V) (lo hi:Option D) (σ:St) (k:D→Option R):Option R:=onDv (norm σ v) fun x=>bif isBuf x then slBuf lo hi k else optK (idxO lo) fun lo=>optK (idxO hi) fun hi=>slD x lo hi k
noncomputable def optI (sc:Scope) (e:Option Expr) (ρ:Loc) (σ:St) (k:Option D→St→Option R):Option R:=match e with
 | none=>k none σ
 | some e=>ih.e sc e ρ σ fun v σ=>onDv v fun d=>k (some d) σ
noncomputable def itemsOf (v:D) (k:List D→Option R):Option R:=match v with
 | .lst xs=>k xs
 | .bytes xs=>k (xs.map fun x => .int (Int.ofNat x))
 | .str s=>k (s.cps.toList.map fun c => .str ⟨#[c]⟩)
 | .dct es=>k (es.map Prod.fst)
 | .rng a b c=>k ((a1p a c (Builtin.Range.rangeSize a b c).toNat).map .int)
 | _=>none
noncomputable def nm? (e:Expr):Option Str:=if h:_ then Expr.Name.elim e h fun x z0=>some x else none
noncomputable def bindNames (sc:Scope):List Expr→List D→Loc→St→(Loc→St→Option R)→Option R
 | [],[],ρ,σ,k=>k ρ σ
 | t::r,d::ds,ρ,σ,k=>optK (nm? t) fun x=>putName sc x (.d d) ρ σ fun ρ σ=>bindNames sc r ds ρ σ k
 | _,_,_,_,_=>none
noncomputable def a6l (sc:Scope) (t:Expr) (d:D) (ρ:Loc) (σ:St) (k:Loc→St→Option R):Option R:=match t with
 | .Name x _=>putName sc x (.d d) ρ σ k
 | .Tuple ts _ _=>onT d fun xs=>bindNames sc ts xs ρ σ k
 | _=>none
noncomputable def a7d (sc:Scope):List Expr→Loc→St→(Bool→St→Option R)→Option R
 | [],_,σ,k=>k true σ
 | e::r,ρ,σ,k=>ih.t sc e ρ σ fun b σ=>bif b then a7d sc r ρ σ k else k false σ
noncomputable def fresh1 (x:Option Str) (ρ:Loc):Bool:=match x with
 | some x=>(lk x ρ).isNone
 | none=>false
noncomputable def freshN (ρ:Loc):List Expr→Bool
 | []=>true
 | t::r=>fresh1 (nm? t) ρ&&freshN ρ r
noncomputable def freshT (t:Expr) (ρ:Loc):Bool:=match t with
 | .Name x _=>(lk x ρ).isNone
 | .Tuple ts _ _=>freshN ρ ts
 | _=>false
noncomputable def a2l {α:Type} (sc:Scope) (t:Expr) (ifs:List Expr) (body:Loc→St→α→(α→St→Option R)→Option R):List D→Loc→St→α→(α→St→Option R)→Option R
 | [],_,σ,acc,k=>k acc σ
 | d::ds,ρ,σ,acc,k=>bif freshT t ρ then a6l sc t d ρ σ fun ρ' σ=>a7d ih sc ifs ρ' σ fun b σ=>(bif b then body ρ' σ acc fun acc σ=>a2l sc t ifs body ds ρ σ acc k else a2l sc t ifs body ds ρ σ acc k) else none
noncomputable def b0e (sc:Scope) (e:Expr) (ρ:Loc) (σ:St) (acc:List D) (k:List D→St→Option R):Option R :=
 ih.e sc e ρ σ fun v σ=>toD v σ fun d σ=>bif szOk acc.length then k (acc++[d]) σ else none
noncomputable def a2h (sc:Scope) (ρ:Loc):Loc:=sc.names.filterMap fun x=>match x.2 with
 | .free=>(lk x.1 ρ).map fun v=>(x.1,v)
 | _=>none
noncomputable def a9b (sc sc2:Scope) (ρ:Loc):Bool:=(match sc2.kind with | .function=>true | _=>false)&&sc2.names.all fun x =>
 !(seq x.1 (oS "__debug__")||seq x.1 (oS "__classdict__"))&&match x.2 with
  | .local=>match lk x.1 sc2.names with | some .local=>true | _=>false
  | .globalImplicit=>true
  | .free=>(match lk x.1 sc2.names with | some .free=>true | _=>false)&&(match lk x.1 ρ with | some (.r _)=>true | _=>false)&&(match lk x.1 sc.names with | some .cell=>true | some .free=>true | _=>false)
  | _=>false
noncomputable def a2a (e:Expr):Bool:=Nat.beq e.ctorIdx 7
noncomputable def comp1 (sc:Scope) (elt t it:Expr) (ifs:List Expr) (sc2:Scope) (ρ:Loc) (σ:St) (k:List D→St→Option R):Option R :=
 bif a9b sc sc2 ρ && !a2a it then ih.e sc it ρ σ fun v σ=>toD v σ fun v σ=>itemsOf v fun xs=>a2l ih sc2 t ifs (b0e ih sc2 elt) xs (a2h sc2 ρ) σ [] k else none
noncomputable def comp2 (sc:Scope) (elt t it:Expr) (ifs:List Expr) (t2 it2:Expr) (ifs2:List Expr) (sc2:Scope) (ρ:Loc) (σ:St) (k:List D→St→Option R):Option R :=
 bif a9b sc sc2 ρ&&(!a2a it && !a2a it2) then ih.e sc it ρ σ fun v σ=>toD v σ fun v σ=>itemsOf v fun xs =>
  a2l ih sc2 t ifs (fun ρ' σ acc k=>ih.e sc2 it2 ρ' σ fun v σ=>toD v σ fun v σ=>itemsOf v fun ys=>a2l ih sc2 t2 ifs2 (b0e ih sc2 elt) ys ρ' σ acc k) xs (a2h sc2 ρ) σ [] k else none
noncomputable def gen? (c:Comprehension) (f:Expr→Expr→List Expr→Option R):Option R:=bif decide (c.is_async=0) then f c.target c.iter c.ifs else none
noncomputable def compR (sc:Scope) (elt:Expr) (gs:List Comprehension) (sc2:Scope) (ρ:Loc) (σ:St) (k:List D→St→Option R) (t it:Expr) (ifs:List Expr):Option R:=match gs with
 | []=>comp1 ih sc elt t it ifs sc2 ρ σ k
 | c2::r2=>gen? c2 fun t2 it2 ifs2=>bif r2.isEmpty then comp2 ih sc elt t it ifs t2 it2 ifs2 sc2 ρ σ k else none
noncomputable def a9c (sc:Scope) (elt:Expr) (gens:List Comprehension) (sc2:Scope) (ρ:Loc) (σ:St) (k:List D→St→Option R):Option R:=match gens with
 | []=>none
 | c::r=>gen? c (compR ih sc elt r sc2 ρ σ k)
noncomputable def dcElt (sc:Scope) (ke ve:Expr) (ρ':Loc) (σ:St) (acc:List (D×D)) (k:List (D×D)→St→Option R):Option R :=
 ih.e sc ke ρ' σ fun kv σ=>ih.e sc ve ρ' σ fun vv σ=>onDv kv fun d=>onS d fun x=>toD vv σ fun y σ=>bif keysOk (.str x) acc&&szOk acc.length then k (dput (.str x) y acc) σ else none
noncomputable def dcompR (sc:Scope) (ke ve:Expr) (sc2:Scope) (ρ:Loc) (σ:St) (k:List (D×D)→St→Option R) (t it:Expr) (ifs:List Expr):Option R :=
 bif a9b sc sc2 ρ && !a2a it then ih.e sc it ρ σ fun v σ=>toD v σ fun v σ=>itemsOf v fun xs=>a2l ih sc2 t ifs (dcElt ih sc2 ke ve) xs (a2h sc2 ρ) σ [] k else none
noncomputable def a5m (sc:Scope) (ke ve:Expr) (gens:List Comprehension) (sc2:Scope) (ρ:Loc) (σ:St) (k:List (D×D)→St→Option R):Option R:=one? gens fun c=>gen? c (dcompR ih sc ke ve sc2 ρ σ k)
inductive KT where
 | none | int | list | dict | own (c:Nat)
noncomputable def kindD:D→Option KT
 | .none=>some .none
 | .int _=>some .int
 | .lst _=>some .list
 | .dct _=>some .dict
 | .obj c _=>some (.own c)
 | _=>Option.none
noncomputable def KT.code:KT→Nat
 | .none=>0
 | .int=>1
 | .list=>2
 | .dict=>3
 | .own _=>4
noncomputable def tyCode:TY→Nat
 | .bool=>5
 | .int=>1
 | .list=>2
 | .dict=>3
 | _=>6
noncomputable def kOwn (t:KT) (x:Bool) (f:Nat→Option Bool):Option Bool:=match t with
 | .own c=>bif T.isCls c then f c else Option.none
 | _=>some x
noncomputable def a2r (t:KT) (c:D):Option Bool:=match c with
 | .ty u=>bif Nat.beq (tyCode u) 6 then Option.none else kOwn T t (Nat.beq t.code (tyCode u)) fun z0=>some false
 | .g c=>bif T.isCls c then kOwn T t false fun c'=>some (Nat.beq c' c) else Option.none
 | _=>Option.none
noncomputable def two? {α:Type} (xs:List α) (f:α→α→Option R):Option R:=match xs with
 | [a,b]=>f a b
 | _=>none
noncomputable def tup? (d:D):Option (List D):=dT none some d
noncomputable def b0f (t:KT) (c:D):Option Bool:=match tup? c with
 | some xs=>two? xs fun c1 c2=>optK (a2r T t c1) fun a=>optK (a2r T t c2) fun b=>some (a||b)
 | Option.none=>a2r T t c
noncomputable def isInstV (v:V) (c:D) (σ:St):Option Bool:=match norm σ v with
 | .d x=>optK (kindD x) fun t=>b0f T t c
 | .r _=>none
noncomputable def szK (n:Nat) (k:D→Option R):Option R:=bif szOk n then k (.int n) else none
noncomputable def lenD (x:D) (k:D→Option R):Option R:=match x with
 | .bytes b=>szK b.length k
 | .lst xs=>szK xs.length k
 | .buf=>k .blen
 | _=>none
noncomputable def a4q (o:O) (f:List D→Option R):Option R:=match o with
 | .list xs=>f xs
 | _=>none
noncomputable def lenOf (v:V) (σ:St) (k:D→Option R):Option R:=seen v σ (fun x=>lenD x k) fun o=>a4q o fun xs=>szK xs.length k
noncomputable def a7e (xs:List D) (k:D→Option R):Option R:=bif cI xs.length 64 then (match intsOf xs with
 | some is=>k (.lst ((sortI is).map .int))
 | none=>match strsOf xs with
  | some ss=>k (.lst ((sortS ss).map .str))
  | none=>none) else none
noncomputable def onKeys (x:D) (f:List D→Option R):Option R:=dC none (fun es=>f (es.map Prod.fst)) x
noncomputable def seqO (o:O) (f:List D→Option R):Option R:=match o with
 | .list xs=>f xs
 | .dict es=>f (es.map Prod.fst)
 | _=>none
noncomputable def seqOf (v:V) (σ:St) (k:List D→Option R):Option R:=seen v σ (fun x=>onKeys x k) fun o=>seqO o k
noncomputable def szL (k:List D→Option R) (xs:List D):Option R:=bif szOk xs.length then k xs else none
noncomputable def listOf (v:V) (σ:St) (k:List D→Option R):Option R:=seen v σ (fun x=>onL x (szL k)) fun o=>a4q o (szL k)
noncomputable def minD (a b:D) (k:D→Option R):Option R:=match a with
 | .endp w=>match b with
  | .blen=>k (.endp w)
  | _=>none
 | _=>none
noncomputable def builtin (b:BI) (args:List V) (σ:St) (k:D→Option R):Option R:=match b with
 | .len=>a3n args fun v=>lenOf v σ k
 | .min=>args2 args fun a b=>onDv a fun a=>onDv b fun b=>minD a b k
 | .max=>args2 args fun a b=>onIv a fun a=>onIv b fun b=>k (.int (bif decide (a < b) then b else a))
 | .abs=>a3n args fun a=>onIv a fun a=>k (.int (bif decide (a < 0) then -a else a))
 | .isinstance=>args2 args fun v c=>onDv c fun c=>optK (isInstV T v c σ) fun q=>k (.bool q)
 | .sorted=>a3n args fun v=>seqOf v σ fun xs=>a7e xs k
 | .ord=>a3n args fun v=>onDv v fun d=>onS d fun s=>one? s.cps.toList fun c=>k (.int c)
 | .chr=>a3n args fun a=>onIv a fun i=>bif decide (0≤i)&&decide (i < 55296) then k (.str ⟨#[i.toNat]⟩) else none
noncomputable def a2u:List D→Option (List Nat)
 | []=>some []
 | x::r=>onI x fun i=>bif decide (0≤i)&&decide (i < 256) then (a2u r).map (i.toNat::·) else none
noncomputable def mkBytes (v:V) (σ:St) (k:D→Option R):Option R:=match onDv v byt? with
 | some b=>k (.bytes b)
 | none=>listOf v σ fun xs=>optK (a2u xs) fun b=>k (.bytes b)
noncomputable def mkRange (args:List V) (k:D→Option R):Option R:=match args with
 | [b]=>onIv b fun b=>bif Builtin.Range.small 0 b 1 then k (.rng 0 b 1) else none
 | [a,b]=>onIv a fun a=>onIv b fun b=>bif Builtin.Range.small a b 1 then k (.rng a b 1) else none
 | [a,b,c]=>onIv a fun a=>onIv b fun b=>onIv c fun c=>bif Builtin.Range.small a b c&&(decide (0 < c)&&a1f c) then k (.rng a b c) else none
 | _=>none
noncomputable def tyCall (t:TY) (args:List V) (σ:St) (k:D→Option R):Option R:=match t with
 | .int=>a3n args fun v=>onIv v fun i=>k (.int i)
 | .str=>a3n args fun v=>onIv v fun i=>bif a1f i then k (.str ⟨(digitsOf i).toArray⟩) else none
 | .bytes=>a3n args fun v=>mkBytes v σ k
 | .tuple=>a3n args fun v=>listOf v σ fun xs=>k (.tup xs)
 | .list=>a3n args fun v=>listOf v σ fun xs=>k (.lst xs)
 | .range=>mkRange args k
 | _=>none
inductive BM where
 | append | extend | pop | get | joinB | joinS | encode
noncomputable def bmL (m:Str):Option BM:=bif seq m (oS "append") then some .append else bif seq m (oS "extend") then some .extend else bif seq m (oS "pop") then some .pop else none
noncomputable def bmD (x:D) (m:Str):Option BM:=match x with
 | .dct _=>bif seq m (oS "get") then some .get else none
 | .bytes _=>bif seq m (oS "join") then some .joinB else none
 | .str _=>bif seq m (oS "join") then some .joinS else bif seq m (oS "encode") then some .encode else none
 | _=>none
noncomputable def bmO (o:O) (m:Str):Option BM:=match o with
 | .list _=>bmL m
 | .refs _=>bmL m
 | _=>none
noncomputable def bmOf (v:V) (m:Str) (σ:St):Option BM:=seen v σ (fun x=>bmD x m) fun o=>bmO o m
noncomputable def getK (es:List (D×D)) (x:D) (σ:St) (k:V→St→Option R):Option R:=bif keysOk x es then bif dhas x es then k (.d (a2k x es)) σ else k (.d .none) σ else none
noncomputable def keepI (σ:St) (i:Nat):Bool:=match σ[i]? with
 | some (.inst c _)=>match T.cls c with
  | some (_,b)=>b
  | none=>false
 | _=>false
noncomputable def onDct (x:D) (f:List (D×D)→Option R):Option R:=dC none f x
noncomputable def args0 (args:List V) (x:Option R):Option R:=match args with
 | []=>x
 | _=>none
noncomputable def appL (xs:List D) (w:V) (j:Nat) (σ:St) (k:V→St→Option R):Option R:=match w with
 | .d x=>bif szOk xs.length then k (.d .none) (setAt σ j (.list (xs++[x]))) else none
 | .r i=>bif keepI T σ i&&xs.isEmpty then k (.d .none) (setAt σ j (.refs [i])) else none
noncomputable def popO (o:O) (f:V→O→Option R):Option R:=match o with
 | .list xs=>optK xs.getLast? fun x=>bif szOk xs.length then f (.d x) (.list xs.dropLast) else none
 | .refs is=>optK is.getLast? fun i=>bif szOk is.length then f (.r i) (.refs is.dropLast) else none
 | _=>none
noncomputable def bmeth (bm:BM) (v:V) (args:List V) (σ:St) (k:V→St→Option R):Option R:=match bm with
 | .append=>a3n args fun w=>onR (norm σ v) fun j=>own σ j fun o=>a4q o fun xs=>appL T xs w j σ k
 | .extend=>a3n args fun w=>onDv w fun d=>onL d fun ys=>onR (norm σ v) fun j=>own σ j fun o=>a4q o fun xs=>bif !ys.isEmpty&&Nat.ble (xs.length+ys.length) 10000 then k (.d .none) (setAt σ j (.list (xs++ys))) else none
 | .pop=>args0 args (onR (norm σ v) fun j=>own σ j fun o=>popO o fun u o'=>k u (setAt σ j o'))
 | .get=>onDv (norm σ v) fun d=>onDct d fun es=>a3n args fun w=>onDv w fun x=>getK es x σ k
 | .joinB=>onDv (norm σ v) fun d=>onB d fun b=>a3n args fun w=>listOf w σ fun ys=>optK (bytesOf? ys) fun bs=>bif szOk (a1m b bs).length then k (.d (.bytes (a1m b bs))) σ else none
 | .joinS=>onDv (norm σ v) fun d=>onS d fun s=>a3n args fun w=>listOf w σ fun ys=>optK (strsOf ys) fun bs =>
   bif Nat.ble ((bs.map fun x=>x.cps.toList.length).sum+bs.length * s.cps.toList.length) 1000000 then k (.d (.str ⟨(a1m s.cps.toList (bs.map fun x=>x.cps.toList)).toArray⟩)) σ else none
 | .encode=>onDv (norm σ v) fun d=>onS d fun s=>a3n args fun w=>onDv w fun d=>onS d fun c =>
   bif seq c (oS "ascii")&&s.cps.toList.all (fun c=>cI c 128)&&szOk s.cps.toList.length then k (.d (.bytes s.cps.toList)) σ else none
noncomputable def onObj (x:D) (f:Nat→List (Str×D)→Option R):Option R:=match x with
 | .obj c fs=>f c fs
 | _=>none
noncomputable def a4r (v:V) (m:Str) (σ:St):Option Nat:=match norm σ v with
 | .r i=>inst σ i fun c z0 fs=>noK (lk m fs) (T.meth c m)
 | .d x=>onObj x fun c fs=>noK (lk m fs) (T.meth c m)
noncomputable def a1v (sc:Scope) (t:Expr) (body:List Stmt→Loc→St→KS R→Option R) (b:List Stmt):List D→Loc→St→KS R→Option R
 | [],ρ,σ,K=>K.next ρ σ
 | d::ds,ρ,σ,K=>a6l sc t d ρ σ fun ρ σ=>body b ρ σ ⟨fun ρ σ=>a1v sc t body b ds ρ σ K,K.ret,fun ρ σ=>a1v sc t body b ds ρ σ K,fun z0 z0=>none⟩
noncomputable def evSs (sc:Scope):List Stmt→Loc→St→KS R→Option R
 | [],ρ,σ,K=>K.next ρ σ
 | s::r,ρ,σ,K=>ih.s sc s ρ σ { K with next:=fun ρ σ=>evSs sc r ρ σ K }
noncomputable def a7f (sc:Scope) (test:Expr) (body:List Stmt):Nat→Loc→St→KS R→Option R
 | 0,_,_,_=>none
 | n+1,ρ,σ,K=>ih.t sc test ρ σ fun b σ=>bif b then evSs ih sc body ρ σ ⟨fun ρ σ=>a7f sc test body n ρ σ K,K.ret,fun ρ σ=>a7f sc test body n ρ σ K,fun z0 z0=>none⟩ else K.next ρ σ
noncomputable def lst? (e:Expr):Option (List Expr):=if h:_ then Expr.List.elim e h fun es z0=>some es else none
noncomputable def dct? (e:Expr):Option (List (Option Expr)×List Expr):=if h:_ then Expr.Dict.elim e h fun ks vs z0=>some (ks,vs) else none
noncomputable def ifx? (e:Expr):Option (Expr×Expr×Expr):=if h:_ then Expr.IfExp.elim e h fun t b o z0=>some (t,b,o) else none
noncomputable def mList (sc:Scope) (es:List Expr) (ρ:Loc) (σ:St) (k:V→St→Option R):Option R:=evL ih sc es ρ σ fun vs σ=>toDs vs σ fun ds σ=>bif szOk ds.length then k (.r σ.length) (σ++[.list ds]) else none
noncomputable def mDict (sc:Scope) (ks:List (Option Expr)) (vs:List Expr) (ρ:Loc) (σ:St) (k:V→St→Option R):Option R:=bif dispOk ks vs then evKV ih sc ks vs ρ σ fun es σ=>k (.r σ.length) (σ++[.dict (a7b es)]) else none
noncomputable def evM (sc:Scope) (e:Expr) (ρ:Loc) (σ:St) (k:V→St→Option R):Option R:=match lst? e with
 | some es=>mList ih sc es ρ σ k
 | none=>match dct? e with
  | some p=>mDict ih sc p.1 p.2 ρ σ k
  | none=>ih.e sc e ρ σ k
noncomputable def evM2 (sc:Scope) (e:Expr) (ρ:Loc) (σ:St) (k:V→St→Option R):Option R:=match ifx? e with
 | some p=>ih.t sc p.1 ρ σ fun c σ=>bif c then evM ih sc p.2.1 ρ σ k else evM ih sc p.2.2 ρ σ k
 | none=>evM ih sc e ρ σ k
noncomputable def isNA (e:Expr):Bool:=Nat.beq e.ctorIdx 23||Nat.beq e.ctorIdx 20
noncomputable def dotOk (e:Expr):Bool:=if h:_ then Expr.Call.elim e h fun f args z0 z0 => !args.isEmpty&&isNA f else isNA e||(Nat.beq e.ctorIdx 21||(Nat.beq e.ctorIdx 19||Nat.beq e.ctorIdx 2))
noncomputable def isSl (e:Expr):Bool:=Nat.beq e.ctorIdx 26
noncomputable def sl? (e:Expr):Option (Option Expr×Option Expr×Option Expr):=if h:_ then Expr.Slice.elim e h fun lo hi st z0=>some (lo,hi,st) else none
noncomputable def eConst (c:Const) (σ:St) (k:V→St→Option R):Option R:=match c with
 | .none=>k (.d .none) σ
 | .bool b=>k (.d (.bool b)) σ
 | .int i=>k (.d (.int i)) σ
 | .str s=>k (.d (.str s)) σ
 | .bytes b=>k (.d (.bytes (b.map UInt8.toNat))) σ
 | _=>none
noncomputable def eBin (sc:Scope) (l:Expr) (op:Operator) (r:Expr) (ρ:Loc) (σ:St) (k:V→St→Option R):Option R:=ih.e sc l ρ σ fun a σ=>ih.e sc r ρ σ fun b σ=>onDv a fun a=>onDv b fun b=>binop op a b fun d=>k (.d d) σ
noncomputable def eUn (sc:Scope) (op:UnaryOp) (x:Expr) (ρ:Loc) (σ:St) (k:V→St→Option R):Option R:=match op with
 | .USub=>ih.e sc x ρ σ fun v σ=>onIv v fun i=>k (.d (.int (-i))) σ
 | .Not=>ih.e sc x ρ σ fun v σ=>truthy v σ fun b=>k (.d (.bool (!b))) σ
 | _=>none
noncomputable def eIf (sc:Scope) (t b o:Expr) (ρ:Loc) (σ:St) (k:V→St→Option R):Option R:=ih.t sc t ρ σ fun c σ=>bif c then ih.e sc b ρ σ k else ih.e sc o ρ σ k
noncomputable def eSeq (sc:Scope) (es:List Expr) (f:List D→D) (ρ:Loc) (σ:St) (k:V→St→Option R):Option R:=evL ih sc es ρ σ fun vs σ=>toDs vs σ fun ds σ=>bif szOk ds.length then k (.d (f ds)) σ else none
noncomputable def eDct (sc:Scope) (ks:List (Option Expr)) (vs:List Expr) (ρ:Loc) (σ:St) (k:V→St→Option R):Option R:=bif dispOk ks vs then evKV ih sc ks vs ρ σ fun es σ=>k (.d (.dct (a7b es))) σ else none
noncomputable def eAttr (sc:Scope) (o:Expr) (a:Str) (ρ:Loc) (σ:St) (k:V→St→Option R):Option R:=bif dotOk o then ih.e sc o ρ σ fun v σ=>getattr T v a σ fun x=>k x σ else none
noncomputable def eItem (sc:Scope) (o s:Expr) (ρ:Loc) (σ:St) (k:V→St→Option R):Option R:=ih.e sc o ρ σ fun v σ=>ih.e sc s ρ σ fun i σ=>onDv i fun i=>getitem v i σ fun x=>k x σ
noncomputable def eSlice (sc:Scope) (o:Expr) (lo hi:Option Expr) (ρ:Loc) (σ:St) (k:V→St→Option R):Option R:=ih.e sc o ρ σ fun v σ=>optI ih sc lo ρ σ fun l σ=>optI ih sc hi ρ σ fun h σ=>sliceV v l h σ fun d=>k (.d d) σ
noncomputable def eSub (sc:Scope) (o s:Expr) (ρ:Loc) (σ:St) (k:V→St→Option R):Option R:=match sl? s with
 | some p=>noK p.2.2 (eSlice ih sc o p.1 p.2.1 ρ σ k)
 | none=>eItem ih sc o s ρ σ k
noncomputable def eBm (sc:Scope) (v:V) (m:Str) (args:List Expr) (ρ:Loc) (σ:St) (k:V→St→Option R):Option R:=optK (bmOf v m σ) fun bm=>evL ih sc args ρ σ fun vs σ=>bmeth T bm v vs σ k
noncomputable def eMeth (sc:Scope) (o:Expr) (m:Str) (ap:Pos) (args:List Expr) (cp:Pos) (ρ:Loc) (σ:St) (k:V→St→Option R):Option R :=
 bif dotOk o&&Nat.beq ap.endLine cp.line&&(cI args.length 20&&args.all fun e => !isStar e) then ih.e sc o ρ σ fun v σ=>match a4r T v m σ with
  | some f=>evL ih sc args ρ σ fun vs σ=>ih.call (.d (.g f)) (v::vs) σ k
  | none=>eBm T ih sc v m args ρ σ k
 else none
noncomputable def eFn (sc:Scope) (f:Expr) (args:List Expr) (ρ:Loc) (σ:St) (k:V→St→Option R):Option R:=bif args.all fun e => !isStar e then ih.e sc f ρ σ fun fv σ=>evL ih sc args ρ σ fun vs σ=>ih.call fv vs σ k else none
noncomputable def eCall (sc:Scope) (f:Expr) (args:List Expr) (cp:Pos) (ρ:Loc) (σ:St) (k:V→St→Option R):Option R:=if h:_ then Expr.Attribute.elim f h fun o m ap=>eMeth T ih sc o m ap args cp ρ σ k else bif Nat.beq f.ctorIdx 23 then eFn ih sc f args ρ σ k else none
noncomputable def stepE (sc:Scope) (e:Expr) (ρ:Loc) (σ:St) (k:V→St→Option R):Option R:=match e with
 | .Constant c _ _=>eConst c σ k
 | .Name x _=>evName T sc x ρ σ fun v=>k v σ
 | .BinOp l op r _=>eBin ih sc l op r ρ σ k
 | .UnaryOp op x _=>eUn ih sc op x ρ σ k
 | .IfExp t b o _=>eIf ih sc t b o ρ σ k
 | .BoolOp op vs _=>b1l ih sc op vs ρ σ k
 | .Compare l ops rs _=>eCmp ih sc l ops rs ρ σ fun q σ=>k (.d (.bool q)) σ
 | .Tuple es _ _=>eSeq ih sc es .tup ρ σ k
 | .List es _=>eSeq ih sc es .lst ρ σ k
 | .Dict ks vs _=>eDct ih sc ks vs ρ σ k
 | .Attribute o a _=>eAttr T ih sc o a ρ σ k
 | .Subscript o s _=>eSub ih sc o s ρ σ k
 | .Call f args kws cp=>bif kws.isEmpty then eCall T ih sc f args cp ρ σ k else none
 | .ListComp elt gens sc2 _=>a9c ih sc elt gens sc2 ρ σ fun ds σ=>k (.d (.lst ds)) σ
 | .DictComp ke ve gens sc2 _=>a5m ih sc ke ve gens sc2 ρ σ fun es σ=>k (.d (.dct es)) σ
 | _=>none
noncomputable def sFor (sc:Scope) (t it:Expr) (b:List Stmt) (ρ:Loc) (σ:St) (K:KS R):Option R:=bif a2a it then none else ih.e sc it ρ σ fun v σ=>toD v σ fun v σ=>itemsOf v fun xs=>a1v sc t (evSs ih sc) b xs ρ σ K
noncomputable def sIf (sc:Scope) (t:Expr) (b o:List Stmt) (ρ:Loc) (σ:St) (K:KS R):Option R:=ih.t sc t ρ σ fun q σ=>bif q then evSs ih sc b ρ σ K else evSs ih sc o ρ σ K
noncomputable def lc? (e:Expr):Option (Expr×List Comprehension×Scope):=if h:_ then Expr.ListComp.elim e h fun elt gens sc2 z0=>some (elt,gens,sc2) else none
noncomputable def b1m (e:Expr):Bool:=Nat.beq e.ctorIdx 8||(Nat.beq e.ctorIdx 10||Nat.beq e.ctorIdx 9)
noncomputable def isTup (e:Expr):Bool:=Nat.beq e.ctorIdx 25
noncomputable def isCall (e:Expr):Bool:=Nat.beq e.ctorIdx 16
noncomputable def sName (sc:Scope) (x:Str) (e:Expr) (ρ:Loc) (σ:St) (K:KS R):Option R:=match lc? e with
 | some p=>a9c ih sc p.1 p.2.1 p.2.2 ρ σ fun ds σ=>putName sc x (.d (.lst ds)) ρ σ K.next
 | none=>bif b1m e then none else evM2 ih sc e ρ σ fun v σ=>putName sc x v ρ σ K.next
noncomputable def sAttr (sc:Scope) (o:Expr) (a:Str) (e:Expr) (ρ:Loc) (σ:St) (K:KS R):Option R:=evM2 ih sc e ρ σ fun v σ=>ih.e sc o ρ σ fun ov σ=>setattr T ov a v σ fun σ=>K.next ρ σ
noncomputable def sItem (sc:Scope) (o i e:Expr) (ρ:Loc) (σ:St) (K:KS R):Option R:=bif isSl i then none else ih.e sc e ρ σ fun v σ=>toD v σ fun d σ=>ih.e sc o ρ σ fun ov σ=>ih.e sc i ρ σ fun iv σ=>onDv iv fun iv=>setitem ov iv d σ fun σ=>K.next ρ σ
noncomputable def sTup (sc:Scope) (ts:List Expr) (e:Expr) (ρ:Loc) (σ:St) (K:KS R):Option R:=bif isTup e then none else ih.e sc e ρ σ fun v σ=>onDv v fun d=>onT d fun ds=>bindNames sc ts ds ρ σ K.next
noncomputable def sAssign (sc:Scope) (t e:Expr) (ρ:Loc) (σ:St) (K:KS R):Option R:=match t with
 | .Name x _=>sName ih sc x e ρ σ K
 | .Attribute o a _=>sAttr T ih sc o a e ρ σ K
 | .Subscript o i _=>sItem ih sc o i e ρ σ K
 | .Tuple ts _ _=>sTup ih sc ts e ρ σ K
 | _=>none
noncomputable def sRet (sc:Scope) (e:Option Expr) (ρ:Loc) (σ:St) (K:KS R):Option R:=match e with
 | none=>K.ret (.d .none) σ
 | some e=>evM ih sc e ρ σ K.ret
noncomputable def sExpr (sc:Scope) (e:Expr) (ρ:Loc) (σ:St) (K:KS R):Option R:=bif isCall e then ih.e sc e ρ σ fun z0 σ=>K.next ρ σ else none
noncomputable def stepS (sc:Scope) (s:Stmt) (ρ:Loc) (σ:St) (K:KS R):Option R:=match s with
 | .Expr e _=>sExpr ih sc e ρ σ K
 | .Return e _=>sRet ih sc e ρ σ K
 | .Assign ts e _=>one? ts fun t=>sAssign T ih sc t e ρ σ K
 | .If t b o _=>sIf ih sc t b o ρ σ K
 | .While t b o _=>bif o.isEmpty then a7f ih sc t b 200 ρ σ K else none
 | .For t it b o _=>bif o.isEmpty then sFor ih sc t it b ρ σ K else none
 | _=>none
noncomputable def bindParams:List Str→List V→List D→Loc→Option Loc
 | ps,[],ds,ρ=>bif Nat.beq ps.length ds.length then some (ρ++ps.zip (ds.map .d)) else bif cI ps.length ds.length then some (ρ++ps.zip ((ds.drop (ds.length - ps.length)).map .d)) else none
 | p::ps,v::vs,ds,ρ=>bindParams ps vs ds (ρ++[(p,v)])
 | [],_::_,_,_=>none
noncomputable def a0s:List (Str×NameKind)→Loc→St→Loc×St
 | [],ρ,σ=>(ρ,σ)
 | (x,.cell)::r,ρ,σ=>a0s r (put x (.r σ.length) ρ) (σ++[.cell (lk x ρ)])
 | _::r,ρ,σ=>a0s r ρ σ
noncomputable def allD:List V→Option (List D)
 | []=>some []
 | .d x::r=>match allD r with | some xs=>some (x::xs) | none=>none
 | .r _::_=>none
noncomputable def a4s (keep:Bool) (v:V) (σ':St) (σ:St) (k:V→St→Option R):Option R:=match v with
 | .d x=>k (.d x) σ
 | .r i=>bif keep then own σ' i fun o=>a4q o fun xs=>k (.r σ.length) (σ++[.list xs]) else toD (.r i) σ' fun x z0=>k (.d x) σ
noncomputable def a0x (v:V) (σ':St) (σ:St) (k:V→St→Option R):Option R:=toD v σ' fun x z0=>bif a8v x then k (.d x) σ else none
noncomputable def leave (n:Nat) (v:V) (σ:St) (k:V→St→Option R):Option R:=match v with
 | .d x=>bif (σ.take n).all (a4p n) then k (.d x) (σ.take n) else none
 | .r i=>bif cI i n then (bif (σ.take n).all (a4p n) then k (.r i) (σ.take n) else none)
  else toD (.r i) σ fun x σ=>bif (σ.take n).all (a4p n) then k (.d x) (σ.take n) else none
noncomputable def a0f (fd:FnRec) (args:List V) (σ:St) (k:V→St→Option R):Option R:=optK (bindParams fd.params args fd.dflts []) fun ρ=>evSs ih fd.scope fd.body (a0s fd.scope.names ρ σ).1 (a0s fd.scope.names ρ σ).2 ⟨fun z0 σ=>k (.d .none) σ,k,fun z0 z0=>none,fun z0 z0=>none⟩
noncomputable def three? {α R:Type} (xs:List α) (f:α→α→α→Option R):Option R:=match xs with
 | [a,b,c]=>f a b c
 | _=>none
noncomputable def bufAt (dt:List Nat) (b e:Int):Option (List Nat×Nat×Nat):=bif decide (0≤b)&&(decide (b≤e)&&(decide (e≤dt.length)&&szOk dt.length)) then some (dt,b.toNat,e.toNat) else none
noncomputable def bufAt2 (dt:List Nat) (e m:Int):Option (List Nat×Nat×Int):=bif decide (0≤e)&&(decide (e≤dt.length)&&szOk dt.length) then some (dt,e.toNat,m) else none
noncomputable def b0g (args:List V):Option (List Nat×Nat×Nat):=three? args fun x b e=>onDv x fun x=>onB x fun dt=>onIv b fun b=>onIv e fun e=>bufAt dt b e
noncomputable def a6q (args:List V):Option (List Nat×Nat×Int):=three? args fun x e m=>onDv x fun x=>onB x fun dt=>onIv e fun e=>onIv m fun m=>bufAt2 dt e m
noncomputable def oneGo (i:Nat) (rest:List V) (σ:St) (f:List D→List D→Option R) (x:Option R):Option R:=match σ[i]? with
 | some (.list xs)=>match allD rest with
  | some ds=>f xs ds
  | none=>x
 | _=>x
noncomputable def oneList (args:List V) (σ:St) (f:Nat→List D→List D→Option R) (x:Option R):Option R:=match args with
 | .r i::rest=>oneGo i rest σ (f i) x
 | _=>x
noncomputable def headL (σ:St) (f:List D→Option R):Option R:=match σ with
 | .list ys::_=>f ys
 | _=>none
noncomputable def a6r (i:Nat) (v:V) (σ':St) (σ:St) (k:V→St→Option R):Option R:=toD v σ' fun x σ'=>headL σ' fun ys=>k (.d x) (setAt σ i (.list ys))
noncomputable def alt {α:Type} (o:Option α) (f:α→Option R) (x:Option R):Option R:=match o with
 | some a=>f a
 | none=>x
noncomputable def runBuf (fd:FnRec) (σ:St) (k:V→St→Option R) (p:List Nat×Nat×Nat):Option R:=a0f ih fd [.d .buf,.d (.pos ((p.1.take p.2.2).drop p.2.1) 0),.d (.endp none)] [] fun v σ'=>a0x v σ' σ k
noncomputable def b3t (fd:FnRec) (σ:St) (k:V→St→Option R) (p:List Nat×Nat×Int):Option R:=a0f ih fd [.d .buf,.d (.endp (some (p.1.take p.2.1))),.d (.int p.2.2)] [] fun v σ'=>a0x v σ' σ k
noncomputable def runGen (fd:FnRec) (args:List V) (σ:St) (k:V→St→Option R):Option R:=a0f ih fd args σ fun v σ'=>leave σ.length v σ' k
noncomputable def runOne (fd:FnRec) (args:List V) (σ:St) (k:V→St→Option R):Option R:=oneList args σ (fun i xs ds=>a0f ih fd (.r 0::ds.map .d) [.list xs] fun v σ'=>a6r i v σ' σ k) (runGen ih fd args σ k)
noncomputable def a5n (a:Nat) (fd:FnRec) (own:Bool) (args:List V) (σ:St) (k:V→St→Option R):Option R :=
 alt (bif Nat.beq a T.reader then b0g args else none) (runBuf ih fd σ k) (alt (bif Nat.beq a T.reader2 then a6q args else none) (b3t ih fd σ k)
  (alt (allD args) (fun z0=>a0f ih fd args [] fun v σ'=>a4s own v σ' σ k) (runOne ih fd args σ k)))
noncomputable def full?:D→Option (List Nat)
 | .endp w=>w
 | _=>none
noncomputable def cur? (ds:List D):Option (List Nat):=three? ds fun x y z=>bif isBuf x then onI y fun i=>bif decide (i=0) then full? z else none else none
noncomputable def a7g (ds:List D):List D:=match cur? ds with
 | some full=>[.buf,.pos full 0,.endp none]
 | none=>ds
noncomputable def a9d:List Str→Bool
 | []=>true
 | x::r=>r.all (fun y => !seq x y)&&a9d r
noncomputable def lamOk (ps:List Str) (sc:Scope):Bool:=a9d ps&&((match sc.kind with | .function=>true | _=>false)&&(!sc.isCoroutine&&(!sc.isGenerator&&(ps.all (fun p=>match lk p sc.names with | some .local=>true | _=>false) &&
 sc.names.all fun x => !(seq x.1 (oS "__debug__")||seq x.1 (oS "__classdict__"))&&match x.2 with | .cell=>false | .free=>false | _=>true))))
noncomputable def leaveCls (keep:Bool) (v:V) (σ':St) (σ:St) (k:V→St→Option R):Option R:=match v with
 | .d .none=>bif keep then (bif σ'.all a1u then k (.r σ.length) (σ++σ'.map (shO σ.length)) else none) else toD (.r 0) σ' fun x z0=>k (.d x) σ
 | _=>none
noncomputable def b0h (a:Nat) (fd:FnRec) (keep:Bool) (args:List V) (σ:St) (k:V→St→Option R):Option R:=toDs args σ fun ds σ=>a0f ih fd (.r 0::(a7g ds).map .d) [.inst a 1,.ns []] fun v σ'=>leaveCls keep v σ' σ k
noncomputable def callLam (ps:List Str) (body:Expr) (sc:Scope) (args:List V) (σ:St) (k:V→St→Option R):Option R:=bif Nat.beq ps.length args.length&&lamOk ps sc then toDs args σ fun ds σ=>ih.e sc body (ps.zip (ds.map .d)) [] fun v σ'=>toD v σ' fun x z0=>k (.d x) σ else none
noncomputable def b0i (a:Nat) (args:List V) (σ:St) (k:V→St→Option R):Option R:=bif Nat.beq a T.refused then none else alt (T.cls a) (fun p=>optK (T.fn p.1) fun fd=>b0h ih a fd p.2 args σ k) (optK (T.fn a) fun fd=>a5n T ih a fd (Nat.beq a 947) args σ k)
noncomputable def callD (x:D) (args:List V) (σ:St) (k:V→St→Option R):Option R:=match x with
 | .g a=>b0i T ih a args σ k
 | .bi b=>builtin T b args σ fun d=>k (.d d) σ
 | .ty t=>tyCall t args σ fun d=>k (.d d) σ
 | .lam ps body sc=>callLam ih ps body sc args σ k
 | _=>none
noncomputable def a0g (f:V) (args:List V) (σ:St) (k:V→St→Option R):Option R:=onDv f fun x=>callD T ih x args σ k
noncomputable def step:IH R:=⟨stepE T ih,stepT ih,stepS T ih,a0g T ih⟩
end step
noncomputable def ev {R:Type} (T:Tabs):Nat→IH R
 | 0=>⟨fun z0 z0 z0 z0 z0=>none,fun z0 z0 z0 z0 z0=>none,fun z0 z0 z0 z0 z0=>none,fun z0 z0 z0 z0=>none⟩
 | n+1=>step T (ev T n)
theorem a6m {α:Type} (x:Str) (v:α):put x v []=[(x,v)]:=rfl
theorem a7h {α:Type} (x y:Str) (u v:α) (r:List (Str×α)):put x v ((y,u)::r)=cond (seq x y) ((y,v)::r) ((y,u)::put x v r):=rfl
theorem lk_n {α:Type} (x:Str):lk x ([]:List (Str×α))=none:=rfl
theorem lk_c {α:Type} (x y:Str) (v:α) (r:List (Str×α)):lk x ((y,v)::r)=cond (seq x y) (some v) (lk x r):=rfl
theorem keq_i (a b:Int):keq (.int a) (.int b)=decide (a=b):=rfl
theorem dhas_n (k:D):dhas k []=false:=rfl
theorem a9e (k x v:D) (r:List (D×D)):dhas k ((x,v)::r)=cond (keq x k) true (dhas k r):=rfl
theorem b3u (k:D):a2k k [] = .none:=rfl
theorem a4i (k x v:D) (r:List (D×D)):a2k k ((x,v)::r)=cond (keq x k) v (a2k k r):=rfl
theorem dput_n (k v:D):dput k v []=[(k,v)]:=rfl
theorem dput_c (k v x u:D) (r:List (D×D)):dput k v ((x,u)::r)=cond (keq x k) ((x,v)::r) ((x,u)::dput k v r):=rfl
theorem b1n (a:Int):insI a []=[a]:=rfl
theorem insI_c (a b:Int) (r:List Int):insI a (b::r)=cond (decide (a≤b)) (a::b::r) (b::insI a r):=rfl
theorem sortI_n:sortI []=[]:=rfl
theorem sortI_c (a:Int) (r:List Int):sortI (a::r)=insI a (sortI r):=rfl
theorem a6s (a c:Int) (n:Nat):a1p a c (n+1)=a::a1p (a+c) c n:=rfl
theorem joinL_1 {α:Type} (s a:List α):a1m s [a]=a:=rfl
theorem joinL_2 {α:Type} (s a b:List α) (r:List (List α)):a1m s (a::b::r)=a++s++a1m s (b::r):=rfl
theorem setAt_s {α:Type} (x:α) (r:List α) (n:Nat) (v:α):setAt (x::r) (n+1) v=x::setAt r n v:=rfl
theorem insS_n (a:Str):insS a []=[a]:=rfl
theorem insS_c (a b:Str) (r:List Str):insS a (b::r)=cond (Spec.ltCps b.cps.toList a.cps.toList) (b::insS a r) (a::b::r):=rfl
end Mine
end
section
namespace Mine
open PySem
noncomputable def topS (i:Nat):Stmt:=match (PySem.Challenge.pw_og0199_01.main.body)[i]? with | some s=>s | none => .Pass default
noncomputable def inS (s:Stmt) (j:Option Nat):Stmt:=match j with | none=>s | some j=>match s with | .ClassDef _ _ _ body .. => (match body[j]? with | some s=>s | none => .Pass default) | _ => .Pass default
noncomputable def recOf (s:Stmt) (ds:List D):Option FnRec:=match s with | .FunctionDef _ args body _ _ _ scope .. => some ⟨args.args.map (·.arg),ds,scope,body⟩ | _=>none
noncomputable def fnRows:List (Nat×Nat×Option Nat×List D):=[(21,0,none,[]),(36,2,some 0,[.int (-1)]),(43,2,some 1,[]),(94,13,none,[]),(101,14,none,[]),(108,15,none,[]),(123,16,some 0,[.int (0),.int (-1)]),(130,16,some 1,[]),(138,16,some 2,[.int (0)]),(145,16,some 3,[]),(152,16,some 4,[]),(159,16,some 5,[]),(166,16,some 6,[]),(173,16,some 7,[]),(180,16,some 8,[]),(187,16,some 9,[]),(194,16,some 10,[]),(201,16,some 11,[]),(208,16,some 12,[]),(229,23,some 0,[]),(236,23,some 1,[]),(243,23,some 2,[]),(250,23,some 3,[]),(257,23,some 4,[]),(264,23,some 5,[]),(271,23,some 6,[]),(278,23,some 7,[]),(285,23,some 8,[]),(292,23,some 9,[]),(299,23,some 10,[]),(306,23,some 11,[]),(320,24,none,[]),(327,25,none,[]),(341,28,some 0,[]),(363,29,some 0,[.bool false]),(384,30,some 0,[]),(405,31,some 0,[]),(412,31,some 1,[]),(426,32,none,[]),(433,33,none,[]),(438,34,none,[]),(443,36,none,[]),(450,37,none,[]),(465,38,some 0,[.none,.none]),(472,38,some 1,[]),(479,38,some 2,[]),(500,39,some 0,[]),(507,39,some 1,[]),(514,39,some 2,[]),(521,39,some 3,[]),(528,39,some 4,[]),(533,39,some 5,[]),(546,49,none,[]),(553,50,none,[]),(561,51,none,[.int (-1)]),(568,52,none,[]),(575,53,none,[]),(582,54,none,[]),(587,55,none,[]),(594,56,none,[]),(601,57,none,[]),(608,58,none,[]),(615,59,none,[]),(629,62,some 0,[]),(636,62,some 1,[]),(650,63,none,[]),(657,64,none,[]),(664,65,none,[]),(671,66,none,[]),(676,67,none,[]),(683,68,none,[]),(691,69,none,[.bool true]),(698,70,none,[]),(703,80,none,[]),(710,81,none,[]),(717,82,none,[]),(724,83,none,[]),(729,84,none,[]),(736,85,none,[]),(743,86,none,[]),(750,87,none,[]),(757,88,none,[]),(764,89,none,[]),(771,90,none,[]),(778,91,none,[]),(785,92,none,[]),(792,93,none,[]),(799,94,none,[]),(806,95,none,[]),(813,96,none,[]),(820,98,none,[]),(827,99,none,[]),(834,100,none,[]),(841,101,none,[]),(848,102,none,[]),(862,103,some 0,[]),(869,103,some 1,[]),(874,103,some 2,[]),(888,104,none,[]),(895,105,none,[]),(902,106,none,[]),(909,107,none,[]),(916,108,none,[]),(921,109,none,[]),(928,110,none,[]),(935,111,none,[]),(942,112,none,[]),(947,114,none,[]),(954,115,none,[]),(961,116,none,[]),(968,117,none,[]),(975,118,none,[]),(980,119,none,[])]
noncomputable def b1o (a:Nat):List (Nat×Nat×Option Nat×List D)→Option FnRec | []=>none | (b,i,j,ds)::r=>bif Nat.beq a b then recOf (inS (topS i) j) ds else b1o a r
noncomputable def globRows:List (Str×D):=[(oS "_wall",.g 21),(oS "is_white",.g 94),(oS "is_regular",.g 101),(oS "is_figure",.g 108),(oS "sign_text",.g 320),(oS "read_decimal",.g 327),(oS "kind_of",.g 426),(oS "told_plain",.g 433),(oS "told",.g 438),(oS "parts_of",.g 443),(oS "depth_of",.g 450),(oS "hex_worth",.g 546),(oS "plain_escape",.g 553),(oS "name_text",.g 561),(oS "octal",.g 568),(oS "escaped_codes",.g 575),(oS "literal",.g 582),(oS "hex_string",.g 587),(oS "run_token",.g 594),(oS "delimited_token",.g 601),(oS "next_token",.g 608),(oS "is_sign",.g 615),(oS "is_whole",.g 650),(oS "take_reference",.g 657),(oS "word_value",.g 664),(oS "plain_value",.g 671),(oS "dict_of",.g 676),(oS "close_frame",.g 683),(oS "object_from",.g 691),(oS "read_object",.g 698),(oS "text_octets",.g 703),(oS "hex_pair",.g 710),(oS "name_octets",.g 717),(oS "whole_octets",.g 724),(oS "decimal_octets",.g 729),(oS "lone_brackets",.g 736),(oS "literal_octets",.g 743),(oS "hex_octets",.g 750),(oS "string_octets",.g 757),(oS "plain_part",.g 764),(oS "lay_reference",.g 771),(oS "lay_dict",.g 778),(oS "lay_parts",.g 785),(oS "run_together",.g 792),(oS "joined_parts",.g 799),(oS "stream_head",.g 806),(oS "write_object",.g 813),(oS "is_object_stream",.g 820),(oS "count_told",.g 827),(oS "next_count",.g 834),(oS "read_pairs",.g 841),(oS "read_part",.g 848),(oS "open_octets",.g 888),(oS "read_packed_by",.g 895),(oS "may_be_packed",.g 902),(oS "length_numbers",.g 909),(oS "packable_numbers",.g 916),(oS "groups_of",.g 921),(oS "check_pairs",.g 928),(oS "laid_octets",.g 935),(oS "write_packed_by",.g 942),(oS "_law_pen",.g 947),(oS "_law_draw",.g 954),(oS "_law_object",.g 961),(oS "_law_is_packable",.g 968),(oS "_law_is_refused",.g 975),(oS "PaperError",.g 46),(oS "SyntaxFault",.g 59),(oS "CrossFault",.g 71),(oS "DraftFault",.g 83),(oS "Cursor",.g 211),(oS "Decimal",.g 309),(oS "Name",.g 344),(oS "String",.g 366),(oS "Stream",.g 387),(oS "Reference",.g 415),(oS "Lookup",.g 482),(oS "Shelf",.g 536),(oS "Frame",.g 639),(oS "Opened",.g 877),(oS "WHITE",.tup [.int 0,.int 9,.int 10,.int 12,.int 13,.int 32]),(oS "DELIMITERS",.tup [.int 40,.int 41,.int 60,.int 62,.int 91,.int 93,.int 123,.int 125,.int 47,.int 37]),(oS "LINE_FEED",.int 10),(oS "RETURN",.int 13),(oS "COMMENT",.int 37),(oS "MOST_FIGURES_cursor",.int 20),(oS "MOST_FIGURES_decimals",.int 40),(oS "PLUS",.int 43),(oS "MINUS",.int 45),(oS "POINT",.int 46),(oS "ZERO",.int 48),(oS "MOST_HOPS",.int 30),(oS "told_objects",.g 438),(oS "PAREN",.int 40),(oS "CLOSE_PAREN",.int 41),(oS "LESS",.int 60),(oS "GREATER",.int 62),(oS "SLASH",.int 47),(oS "BACKSLASH_lexer",.int 92),(oS "HASH",.int 35),(oS "SIGNS",.tup [.int 91,.int 93,.int 123,.int 125]),(oS "MOST_DEPTH",.int 40),(oS "MOST_NESTED",.int 40),(oS "MOST_NUMBER",.int 40),(oS "BACKSLASH_writer",.int 92),(oS "OPEN_BRACKET",.int 40),(oS "CLOSE_BRACKET",.int 41),(oS "CARRIAGE",.int 13),(oS "NUMBER_SIGN",.int 35),(oS "HEX_FIGURES",.bytes [48,49,50,51,52,53,54,55,56,57,65,66,67,68,69,70]),(oS "len",.bi .len),(oS "min",.bi .min),(oS "max",.bi .max),(oS "abs",.bi .abs),(oS "isinstance",.bi .isinstance),(oS "sorted",.bi .sorted),(oS "ord",.bi .ord),(oS "chr",.bi .chr),(oS "int",.ty .int),(oS "bool",.ty .bool),(oS "list",.ty .list),(oS "dict",.ty .dict),(oS "tuple",.ty .tuple),(oS "bytes",.ty .bytes),(oS "str",.ty .str),(oS "range",.ty .range)]
noncomputable def methRows:List (Nat×Str×Nat):=[(211,oS "is_done",130),(211,oS "peek",138),(211,oS "take",145),(211,oS "starts",152),(211,oS "skip",159),(211,oS "skip_white",166),(211,oS "take_regular",173),(211,oS "skip_line_end",180),(211,oS "take_line",187),(211,oS "number",194),(211,oS "find",201),(211,oS "find_last",208),(415,oS "pair",412),(482,oS "fetch",472),(482,oS "get",479),(536,oS "put",500),(536,oS "add",507),(536,oS "drop",514),(536,oS "numbers",521),(536,oS "root",528),(536,oS "told",533),(536,oS "fetch",472),(536,oS "get",479),(639,oS "wants_key",636),(877,oS "object_at",869),(877,oS "all_objects",874),(309,oS "plus",236),(309,oS "minus",243),(309,oS "times",250),(309,oS "negated",257),(309,oS "compared",264),(309,oS "is_whole",271),(309,oS "floor",278),(309,oS "rounded",285),(309,oS "told",292),(309,oS "text",299),(309,oS "least_text",306)]
noncomputable def a4t (c:Nat) (m:Str):List (Nat×Str×Nat)→Option Nat | []=>none | (d,n,a)::r=>bif Nat.beq c d&&seq m n then some a else a4t c m r
noncomputable def clsRows:List (Nat×Nat×Bool):=[(211,123,true),(344,341,false),(366,363,false),(387,384,false),(415,405,false),(482,465,false),(536,465,false),(639,629,true),(877,862,false),(309,229,false)]
noncomputable def isiRows:List (Nat×Nat×Bool):=[(211,123,true),(344,341,false),(366,363,false),(387,384,false),(415,405,false),(536,465,false),(639,629,true),(877,862,false),(309,229,false)]
noncomputable def a7i (c:Nat):List (Nat×Nat×Bool)→Option (Nat×Bool) | []=>none | (d,i,k)::r=>bif Nat.beq c d then some (i,k) else a7i c r
noncomputable def clsIs (c:Nat):List (Nat×Nat×Bool)→Bool | []=>false | (d,_,_)::r=>bif Nat.beq c d then true else clsIs c r
noncomputable def fldRows:List (Nat×Str):=[(211,oS "data"),(211,oS "at"),(211,oS "end"),(344,oS "text"),(366,oS "octets"),(366,oS "is_hex"),(387,oS "head"),(387,oS "octets"),(415,oS "number"),(415,oS "generation"),(482,oS "table"),(482,oS "trailer"),(536,oS "table"),(536,oS "trailer"),(639,oS "mark"),(639,oS "items"),(877,oS "data"),(877,oS "first"),(877,oS "pairs"),(309,oS "top"),(309,oS "places")]
noncomputable def a7j (c:Nat) (m:Str):List (Nat×Str)→Bool | []=>false | (d,n)::r=>bif Nat.beq c d&&seq m n then true else a7j c m r
noncomputable def tabs:Tabs:={ fn:=fun a=>b1o a fnRows,glob:=fun x=>lk x globRows,meth:=fun c m=>a4t c m methRows,cls:=fun c=>a7i c clsRows,fld:=fun c x=>a7j c x fldRows,refused:=975,reader:=848,reader2:=841,isCls:=fun c=>clsIs c isiRows }
end Mine
end
open Mine
local macro_rules
| `(tactic| rewrite [$e:term]) => `(tactic| first | refine rwR $e ?_ | refine rwR ($e _) ?_ | fail)
| `(tactic| rewrite [← $e:term]) => `(tactic| first | refine rwL $e ?_ | fail)
| `(tactic| rewrite [$e, $es,*]) => `(tactic| (rewrite [$e]; rewrite [$es,*]))
section
namespace Mine
open PySem PySem.W PySem.Spec PySem.Calls PyProof.Rows
theorem natsEq_iff:∀ {a b:List Nat},a3r a b=true↔a=b
 | [],[]=>⟨fun z0=>rfl,fun z0=>rfl⟩
 | [],_::_=>⟨fun h=>nFT h,fun h=>nomatch h⟩
 | _::_,[]=>⟨fun h=>nFT h,fun h=>nomatch h⟩
 | a::x,b::y=>by
  show cond (Nat.beq a b) (a3r x y) false=true↔_
  cases h:Nat.beq a b with
  | true=>have:=cL h;subst this;simp [natsEq_iff (a:=x) (b:=y)]
  | false=>have:=Nat.ne_of_beq_eq_false h;simp [this]
theorem seq_iff {a b:Str}:seq a b=true↔a=b:=by
 unfold seq
 constructor
 ·intro h
  cases hb:Nat.beq (codeOf a) (codeOf b) with
  | false=>rw [hb] at h;exact nFT h
  | true =>
   rw [hb] at h
   have:=natsEq_iff.mp h
   obtain ⟨⟨a⟩⟩:=a;obtain ⟨⟨b⟩⟩:=b
   simp at this;subst this;rfl
 ·rintro rfl
  rw [show Nat.beq (codeOf a) (codeOf a)=true from Nat.beq_refl _]
  exact natsEq_iff.mpr rfl
theorem a2m (a b:Str):seq a b=(a==b):=by
 rw [aB,seq_iff];simp
theorem a3o {α:Type} (x:Str):∀ l:List (Str×α),lk x l=l.lookup x
 | []=>rfl
 | (y,v)::r=>by
  show cond (seq x y) (some v) (lk x r)=_
  rw [a2m,bH,a3o x r]
  cases x==y <;> rfl
theorem a2i {α:Type} {x:Str} {v:α}:∀ (l:List (Str×α)) (y:Str),(put x v l).lookup y=if y=x then some v else l.lookup y
 | [],y=>by
  simp only [a6m,bH,List.lookup_nil]
  by_cases h:y=x
  ·simp [h]
  ·have:(y==x)=false:=by simpa using h
   simp [this,h]
 | (z,u)::r,y=>by
  show (cond (seq x z) ((z,v)::r) ((z,u)::put x v r)).lookup y=_
  rw [a2m]
  cases hx:x==z with
  | true =>
   have hxz:x=z:=by simpa using hx
   subst hxz
   simp only [cond_true,bH]
   by_cases h:y=x
   ·simp [h]
   ·have:(y==x)=false:=by simpa using h
    simp [this,h]
  | false =>
   simp only [cond_false,bH,a2i r y]
   by_cases hy:y=z
   ·subst hy
    have:¬ y=x:=by intro e;subst e;simp at hx
    simp [this]
   ·have:(y==z)=false:=by simpa using hy
    simp [this]
theorem a1x {α:Type}:∀ (l:List α) (i:Nat) (v:α),setAt l i v=l.set i v
 | [],_,_=>rfl
 | _::_,0,_=>rfl
 | _::r,n+1,v=>by rw [setAt_s,a1x r n v];rfl
@[simp] theorem a6a {α:Type} (l:List α) (i:Nat) (v:α):(setAt l i v).length=l.length:=by simp [a1x]
theorem a1a {n:Nat} (h:szOk n=true):n≤1000000:=cO h
theorem a2n {n:Nat} (h:szOk n=true):n≤sizeLine:=cS (a1a h) (by rw [sizeLine_eq];decide)
noncomputable abbrev R:Type:=Unit
noncomputable abbrev r:R:=()
structure Cx where
 prog:Program
 w:World
 K:Frag
 T:Tabs
noncomputable abbrev Cx.M (C:Cx):Model:=model C.prog C.w
structure Buf where
 dt:List Nat
 e:Nat
 ok:e≤dt.length
 sz:dt.length≤1000000
 lt:∀ x∈dt,x < 256
noncomputable def toBA (b:List Nat):Array UInt8:=(b.map UInt8.ofNat).toArray
noncomputable def b1p:BI→String
 | .len => "len" | .min => "min" | .max => "max" | .abs => "abs" | .isinstance => "isinstance" | .sorted => "sorted" | .ord => "ord" | .chr => "chr"
noncomputable def tyName:TY→String
 | .int => "int" | .bool => "bool" | .list => "list" | .dict => "dict" | .tuple => "tuple" | .bytes => "bytes" | .str => "str" | .range => "range"
noncomputable def Cx.Kn (C:Cx) (fz:List (Addr×Obj)) (a:Addr) (o:Obj):Prop:=(a,o)∈fz∨C.K.lookup a=some o
theorem Cx.Kn.mono {C:Cx} {fz fz':List (Addr×Obj)} {a:Addr} {o:Obj} (h:C.Kn fz a o) (hs:fz⊆fz'):C.Kn fz' a o:=h.imp (fun x=>hs x) id
noncomputable def a3d (B:Buf) (rest:List Nat) (over:Nat) (i:Int):Prop :=
 i=(B.e:Int) - rest.length+over∧(over≠0→rest=[])∧rest.length≤B.e∧rest=(B.dt.take B.e).drop (B.e - rest.length)
noncomputable def LamOk (ps:List Str) (body:Expr) (sc:Scope) (o:Obj) (c:Addr) (oc:Obj):Prop:=∃ name qual params pm ct vs t,
 o={ cls := .type "function",data := .func { name:=name,qualname:=qual,params:=params,body := .expr body,scope:=sc,globals:=mainGlobals,closure:=[],defaults := .none,kwdefaults := .none,doc := .none,pyModule:=pm,annotations:=none,code := .ref c,closureTuple:=ct,builtins:=builtinsNs } } ∧
 oc.data = .fields vs∧vs[1]?=some (.str qual t)∧params.posonlyargs=[]∧params.args.map (·.arg)=ps∧params.kwonlyargs=[]∧params.vararg=none∧params.kwarg=none
noncomputable abbrev b1q (a b c:Int) (t u v:Tok):Obj:={ cls := .type "range",data := .fields #[.int a t,.int b u,.int c v] }
inductive RInt (i:Int):Value→Prop | mk (t:Tok):RInt i (.int i t)
inductive RStr (s:Str):Value→Prop | mk (t:Tok):RStr s (.str s t)
inductive RBytes (b:List Nat):Value→Prop | mk (t:Tok):(∀ x∈b,x < 256)→RBytes b (.bytes (toBA b) t)
inductive RG (C:Cx) (a:Nat):Value→Prop | mk (o:Obj):C.K.lookup a=some o→RG C a (.ref a)
inductive RTup (C:Cx) (fz:List (Addr×Obj)) (P:List Value→Prop):Value→Prop
 | mk (vs:List Value) (a:Addr) (o:Obj) (n:Nat):C.Kn fz a o→o.cls = .type "tuple" → o.data = .seq vs.toArray n→P vs→RTup C fz P (.ref a)
inductive RLst (C:Cx) (fz:List (Addr×Obj)) (P:List Value→Prop):Value→Prop
 | mk (vs:List Value) (a:Addr) (n:Nat):C.Kn fz a (W.listOf vs.toArray n)→P vs→RLst C fz P (.ref a)
inductive RDct (C:Cx) (fz:List (Addr×Obj)) (P:Obj→Prop):Value→Prop
 | mk (a:Addr) (o:Obj):C.Kn fz a o→(a==sysModules)=false→P o→RDct C fz P (.ref a)
inductive RObj (C:Cx) (fz:List (Addr×Obj)) (c:Nat) (P:List DictEntry→Prop):Value→Prop
 | mk (a dx:Addr) (es:List DictEntry) (n:Nat):C.Kn fz a (instObj c dx)→C.Kn fz dx (dictOf es n)→P es→RObj C fz c P (.ref a)
inductive RLam (C:Cx) (fz:List (Addr×Obj)) (ps:List Str) (body:Expr) (sc:Scope):Value→Prop
 | mk (a:Addr) (o:Obj) (c:Addr) (oc:Obj):C.Kn fz a o→C.Kn fz c oc→LamOk ps body sc o c oc→RLam C fz ps body sc (.ref a)
inductive RRng (C:Cx) (fz:List (Addr×Obj)) (a b c:Int):Value→Prop
 | mk (ad:Addr) (t u v:Tok):C.Kn fz ad (b1q a b c t u v)→Builtin.Range.small a b c=true→RRng C fz a b c (.ref ad)
inductive RBuf (B:Buf):Value→Prop | mk (t:Tok):RBuf B (.bytes (toBA B.dt) t)
inductive RPos (B:Buf) (r:List Nat) (o:Nat):Value→Prop | mk (i:Int) (t:Tok):a3d B r o i→RPos B r o (.int i t)
inductive REndp (B:Buf) (w:Option (List Nat)):Value→Prop | mk (t:Tok):(∀ l,w=some l→l=B.dt.take B.e)→REndp B w (.int B.e t)
inductive RBlen (B:Buf):Value→Prop | mk (t:Tok):RBlen B (.int B.dt.length t)
inductive RCons (P:Value→Prop) (Q:List Value→Prop):List Value→Prop | mk (v:Value) (vs:List Value):P v→Q vs→RCons P Q (v::vs)
inductive RKey {K:Type} (k:K) (P:Value→Prop) (Q:List (K×Value)→Prop):List (K×Value)→Prop | mk (v:Value) (kvs:List (K×Value)):P v→Q kvs→RKey k P Q ((k,v)::kvs)
inductive RFld (x:Str) (P:Value→Prop) (Q:List DictEntry→Prop):List DictEntry→Prop | mk (v:Value) (h:Int) (t:Tok) (es:List DictEntry):P v→Q es→RFld x P Q (⟨h,.str x t,v⟩::es)
inductive RDE (C:Cx) (none_:Prop) (Pi:List (Int×Value)→Prop) (Ps:List (Str×Value)→Prop):Obj→Prop
 | empty (o:Obj):none_→o.IsDictOf (PySem.intKind C.prog C.w) []→o.IsDictOf (PySem.strKind C.prog C.w) []→RDE C none_ Pi Ps o
 | ints (o:Obj) (kvs:List (Int×Value)):¬ none_→o.IsDictOf (PySem.intKind C.prog C.w) kvs→Pi kvs→RDE C none_ Pi Ps o
 | strs (o:Obj) (kvs:List (Str×Value)):¬ none_→o.IsDictOf (PySem.strKind C.prog C.w) kvs→Ps kvs→RDE C none_ Pi Ps o
section
variable (C:Cx) (B:Buf) (fz:List (Addr×Obj))
mutual
noncomputable def DRep:D→Value→Prop
 | .none=>fun v=>v = .none
 | .bool b=>fun v=>v = .bool b
 | .int i=>RInt i
 | .str s=>RStr s
 | .bytes b=>RBytes b
 | .bi b=>fun v=>v = .builtin (b1p b)
 | .ty t=>fun v=>v = .type (tyName t)
 | .g a=>RG C a
 | .tup xs=>RTup C fz (DReps xs)
 | .lst xs=>RLst C fz (DReps xs)
 | .dct es=>RDct C fz (RDE C (es=[]) (KVI es) (KVS es))
 | .obj c fs=>RObj C fz c (FReps fs)
 | .lam ps body sc=>RLam C fz ps body sc
 | .rng a b c=>RRng C fz a b c
 | .buf=>RBuf B
 | .pos r o=>RPos B r o
 | .endp w=>REndp B w
 | .blen=>RBlen B
noncomputable def DReps:List D→List Value→Prop
 | []=>fun vs=>vs=[]
 | x::xs=>RCons (DRep x) (DReps xs)
noncomputable def KVI:List (D×D)→List (Int×Value)→Prop
 | []=>fun kvs=>kvs=[]
 | (.int i,x)::es=>RKey i (DRep x) (KVI es)
 | _::_=>fun z0=>False
noncomputable def KVS:List (D×D)→List (Str×Value)→Prop
 | []=>fun kvs=>kvs=[]
 | (.str i,x)::es=>RKey i (DRep x) (KVS es)
 | _::_=>fun z0=>False
noncomputable def FReps:List (Str×D)→List DictEntry→Prop
 | []=>fun es=>es=[]
 | (x,d)::fs=>RFld x (DRep d) (FReps fs)
end
end
noncomputable abbrev DictRep (C:Cx) (B:Buf) (fz:List (Addr×Obj)) (es:List (D×D)) (o:Obj):Prop:=RDE C (es=[]) (KVI C B fz es) (KVS C B fz es) o
section
variable {C:Cx} {B B':Buf} {fz fz':List (Addr×Obj)}
theorem DRep.none:DRep C B fz .none .none:=rfl
theorem DRep.bool (b:Bool):DRep C B fz (.bool b) (.bool b):=rfl
theorem DRep.int (i:Int) (t:Tok):DRep C B fz (.int i) (.int i t) := .mk t
theorem DRep.str (s:Str) (t:Tok):DRep C B fz (.str s) (.str s t) := .mk t
theorem DRep.bytes (b:List Nat) (t:Tok) (h:∀ x∈b,x < 256):DRep C B fz (.bytes b) (.bytes (toBA b) t) := .mk t h
theorem DRep.bi (b:BI):DRep C B fz (.bi b) (.builtin (b1p b)):=rfl
theorem DRep.ty (t:TY):DRep C B fz (.ty t) (.type (tyName t)):=rfl
theorem DRep.g (a:Nat) (o:Obj) (h:C.K.lookup a=some o):DRep C B fz (.g a) (.ref a) := .mk o h
theorem DRep.tup (xs:List D) (vs:List Value) (a:Addr) (o:Obj) (n:Nat) (k:C.Kn fz a o) (c:o.cls = .type "tuple") (d:o.data = .seq vs.toArray n) (r:DReps C B fz xs vs):DRep C B fz (.tup xs) (.ref a) := .mk vs a o n k c d r
theorem DRep.lst (xs:List D) (vs:List Value) (a:Addr) (n:Nat) (k:C.Kn fz a (W.listOf vs.toArray n)) (r:DReps C B fz xs vs):DRep C B fz (.lst xs) (.ref a) := .mk vs a n k r
theorem DRep.dct (es:List (D×D)) (a:Addr) (o:Obj) (k:C.Kn fz a o) (q:(a==sysModules)=false) (r:DictRep C B fz es o):DRep C B fz (.dct es) (.ref a) := .mk a o k q r
theorem DRep.obj (c:Nat) (fs:List (Str×D)) (a dx:Addr) (es:List DictEntry) (n:Nat) (k:C.Kn fz a (instObj c dx)) (k2:C.Kn fz dx (dictOf es n)) (r:FReps C B fz fs es):DRep C B fz (.obj c fs) (.ref a) := .mk a dx es n k k2 r
theorem DRep.lam (ps:List Str) (body:Expr) (sc:Scope) (a:Addr) (o:Obj) (c:Addr) (oc:Obj) (k:C.Kn fz a o) (k2:C.Kn fz c oc) (l:LamOk ps body sc o c oc):DRep C B fz (.lam ps body sc) (.ref a) := .mk a o c oc k k2 l
theorem DRep.rng (a b c:Int) (ad:Addr) (t u v:Tok) (k:C.Kn fz ad (b1q a b c t u v)) (l:Builtin.Range.small a b c=true):DRep C B fz (.rng a b c) (.ref ad) := .mk ad t u v k l
theorem DRep.buf (t:Tok):DRep C B fz .buf (.bytes (toBA B.dt) t) := .mk t
theorem DRep.pos (r:List Nat) (o:Nat) (i:Int) (t:Tok) (h:a3d B r o i):DRep C B fz (.pos r o) (.int i t) := .mk i t h
theorem DRep.endp (w:Option (List Nat)) (t:Tok) (h:∀ l,w=some l→l=B.dt.take B.e):DRep C B fz (.endp w) (.int B.e t) := .mk t h
theorem DRep.blen (t:Tok):DRep C B fz .blen (.int B.dt.length t) := .mk t
theorem DReps.nil:DReps C B fz [] []:=rfl
theorem DReps.cons (x:D) (xs:List D) (v:Value) (vs:List Value) (h:DRep C B fz x v) (r:DReps C B fz xs vs):DReps C B fz (x::xs) (v::vs) := .mk v vs h r
theorem KVI.nil:KVI C B fz [] []:=rfl
theorem KVI.cons (i:Int) (x:D) (v:Value) (es:List (D×D)) (kvs:List (Int×Value)) (h:DRep C B fz x v) (r:KVI C B fz es kvs):KVI C B fz ((.int i,x)::es) ((i,v)::kvs) := .mk v kvs h r
theorem KVS.nil:KVS C B fz [] []:=rfl
theorem KVS.cons (i:Str) (x:D) (v:Value) (es:List (D×D)) (kvs:List (Str×Value)) (h:DRep C B fz x v) (r:KVS C B fz es kvs):KVS C B fz ((.str i,x)::es) ((i,v)::kvs) := .mk v kvs h r
theorem FReps.nil:FReps C B fz [] []:=rfl
theorem FReps.cons (x:Str) (d:D) (v:Value) (h:Int) (t:Tok) (fs:List (Str×D)) (es:List DictEntry) (a:DRep C B fz d v) (r:FReps C B fz fs es):FReps C B fz ((x,d)::fs) (⟨h,.str x t,v⟩::es) := .mk v h t es a r
theorem DictRep.empty (o:Obj) (a:o.IsDictOf (PySem.intKind C.prog C.w) []) (b:o.IsDictOf (PySem.strKind C.prog C.w) []):DictRep C B fz [] o:=RDE.empty o rfl a b
theorem RTup.imp {P Q:List Value→Prop} (hs:fz⊆fz') (h:∀ vs,P vs→Q vs) {v:Value}:RTup C fz P v→RTup C fz' Q v
 | .mk vs a o n k c d r => .mk vs a o n (k.mono hs) c d (h _ r)
theorem RLst.imp {P Q:List Value→Prop} (hs:fz⊆fz') (h:∀ vs,P vs→Q vs) {v:Value}:RLst C fz P v→RLst C fz' Q v
 | .mk vs a n k r => .mk vs a n (k.mono hs) (h _ r)
theorem RDct.imp {P Q:Obj→Prop} (hs:fz⊆fz') (h:∀ vs,P vs→Q vs) {v:Value}:RDct C fz P v→RDct C fz' Q v
 | .mk a o k q r => .mk a o (k.mono hs) q (h _ r)
theorem RObj.imp {c:Nat} {P Q:List DictEntry→Prop} (hs:fz⊆fz') (h:∀ vs,P vs→Q vs) {v:Value}:RObj C fz c P v→RObj C fz' c Q v
 | .mk a dx es n k k2 r => .mk a dx es n (k.mono hs) (k2.mono hs) (h _ r)
theorem RLam.imp {ps:List Str} {b:Expr} {sc:Scope} (hs:fz⊆fz') {v:Value}:RLam C fz ps b sc v→RLam C fz' ps b sc v
 | .mk a o c oc k k2 l => .mk a o c oc (k.mono hs) (k2.mono hs) l
theorem RRng.imp {a b c:Int} (hs:fz⊆fz') {v:Value}:RRng C fz a b c v→RRng C fz' a b c v
 | .mk ad t u w k l => .mk ad t u w (k.mono hs) l
theorem RCons.imp {P P':Value→Prop} {Q Q':List Value→Prop} (h:∀ v,P v→P' v) (h':∀ v,Q v→Q' v) {vs:List Value}:RCons P Q vs→RCons P' Q' vs
 | .mk v vs a b => .mk v vs (h _ a) (h' _ b)
theorem RKey.imp {K:Type} {k:K} {P P':Value→Prop} {Q Q':List (K×Value)→Prop} (h:∀ v,P v→P' v) (h':∀ v,Q v→Q' v) {vs:List (K×Value)}:RKey k P Q vs→RKey k P' Q' vs
 | .mk v vs a b => .mk v vs (h _ a) (h' _ b)
theorem RFld.imp {x:Str} {P P':Value→Prop} {Q Q':List DictEntry→Prop} (h:∀ v,P v→P' v) (h':∀ v,Q v→Q' v) {vs:List DictEntry}:RFld x P Q vs→RFld x P' Q' vs
 | .mk v hh t vs a b => .mk v hh t vs (h _ a) (h' _ b)
theorem RDE.imp {N:Prop} {I I':List (Int×Value)→Prop} {S S':List (Str×Value)→Prop} (h:∀ v,I v→I' v) (h':∀ v,S v→S' v) {o:Obj}:RDE C N I S o→RDE C N I' S' o
 | .empty _ n a b=>RDE.empty _ n a b
 | .ints _ k n a r=>RDE.ints _ k n a (h _ r)
 | .strs _ k n a r=>RDE.strs _ k n a (h' _ r)
end
mutual
theorem DRep.mono_ {C:Cx} {B:Buf} {fz fz':List (Addr×Obj)} (hs:fz⊆fz'):∀ (d:D) (v:Value),DRep C B fz d v→DRep C B fz' d v
 | .tup xs,_,h=>RTup.imp hs (DReps.mono_ hs xs) h
 | .lst xs,_,h=>RLst.imp hs (DReps.mono_ hs xs) h
 | .dct es,_,h=>RDct.imp hs (fun z0=>RDE.imp (KVI.mono_ hs es) (KVS.mono_ hs es)) h
 | .obj _ fs,_,h=>RObj.imp hs (FReps.mono_ hs fs) h
 | .lam _ _ _,_,h=>RLam.imp hs h
 | .rng _ _ _,_,h=>RRng.imp hs h
 | .none,_,h=>h
 | .bool b,_,h=>h
 | .int i,_,h=>h
 | .str s,_,h=>h
 | .bytes b,_,h=>h
 | .bi b,_,h=>h
 | .ty t,_,h=>h
 | .g a,_,h=>h
 | .buf,_,h=>h
 | .pos r o,_,h=>h
 | .endp w,_,h=>h
 | .blen,_,h=>h
theorem DReps.mono_ {C:Cx} {B:Buf} {fz fz':List (Addr×Obj)} (hs:fz⊆fz'):∀ (d:List D) (v:List Value),DReps C B fz d v→DReps C B fz' d v
 | [],_,h=>h
 | x::xs,_,h=>RCons.imp (DRep.mono_ hs x) (DReps.mono_ hs xs) h
theorem KVI.mono_ {C:Cx} {B:Buf} {fz fz':List (Addr×Obj)} (hs:fz⊆fz'):∀ (d:List (D×D)) (v:List (Int×Value)),KVI C B fz d v→KVI C B fz' d v
 | [],_,h=>h
 | (k,x)::es,v,h=>by
  induction k using D.casesOn with
  | int i=>exact RKey.imp (DRep.mono_ hs x) (KVI.mono_ hs es) h
  | _=>exact h.elim
theorem KVS.mono_ {C:Cx} {B:Buf} {fz fz':List (Addr×Obj)} (hs:fz⊆fz'):∀ (d:List (D×D)) (v:List (Str×Value)),KVS C B fz d v→KVS C B fz' d v
 | [],_,h=>h
 | (k,x)::es,v,h=>by
  induction k using D.casesOn with
  | str i=>exact RKey.imp (DRep.mono_ hs x) (KVS.mono_ hs es) h
  | _=>exact h.elim
theorem FReps.mono_ {C:Cx} {B:Buf} {fz fz':List (Addr×Obj)} (hs:fz⊆fz'):∀ (d:List (Str×D)) (v:List DictEntry),FReps C B fz d v→FReps C B fz' d v
 | [],_,h=>h
 | (x,d)::fs,_,h=>RFld.imp (DRep.mono_ hs d) (FReps.mono_ hs fs) h
end
theorem a0k {a b:Bool} (h:(a&&b)=true):a=true:=(aA.mp h).1
theorem a0e {a b:Bool} (h:(a&&b)=true):b=true:=(aA.mp h).2
mutual
theorem DRep.anyB_ {C:Cx} {B B':Buf} {fz:List (Addr×Obj)}:∀ (d:D),a8v d=true→∀ (v:Value),DRep C B fz d v→DRep C B' fz d v
 | .tup xs,q,_,h=>RTup.imp (fun z0 a=>a) (DReps.anyB_ xs q) h
 | .lst xs,q,_,h=>RLst.imp (fun z0 a=>a) (DReps.anyB_ xs q) h
 | .dct es,q,_,h=>RDct.imp (fun z0 a=>a) (fun z0=>RDE.imp (KVI.anyB_ es q) (KVS.anyB_ es q)) h
 | .obj _ fs,q,_,h=>RObj.imp (fun z0 a=>a) (FReps.anyB_ fs q) h
 | .lam _ _ _,q,_,_=>Bool.noConfusion q
 | .rng _ _ _,q,_,_=>Bool.noConfusion q
 | .none,q,_,h=>h
 | .bool b,q,_,h=>h
 | .int i,q,_,h=>h
 | .str s,q,_,h=>h
 | .bytes b,q,_,h=>h
 | .bi b,q,_,h=>h
 | .ty t,q,_,h=>h
 | .g a,q,_,h=>h
 | .buf,q,_,h=>Bool.noConfusion q
 | .pos r o,q,_,h=>Bool.noConfusion q
 | .endp w,q,_,h=>Bool.noConfusion q
 | .blen,q,_,h=>Bool.noConfusion q
theorem DReps.anyB_ {C:Cx} {B B':Buf} {fz:List (Addr×Obj)}:∀ (d:List D),a8z d=true→∀ (v:List Value),DReps C B fz d v→DReps C B' fz d v
 | [],_,_,h=>h
 | x::xs,q,_,h=>RCons.imp (DRep.anyB_ x (a0k q)) (DReps.anyB_ xs (a0e q)) h
theorem KVI.anyB_ {C:Cx} {B B':Buf} {fz:List (Addr×Obj)}:∀ (d:List (D×D)),noAbsp d=true→∀ (v:List (Int×Value)),KVI C B fz d v→KVI C B' fz d v
 | [],_,_,h=>h
 | (k,x)::es,q,v,h=>by
  induction k using D.casesOn with
  | int i=>exact RKey.imp (DRep.anyB_ x (a0k (a0e q))) (KVI.anyB_ es (a0e (a0e q))) h
  | _=>exact h.elim
theorem KVS.anyB_ {C:Cx} {B B':Buf} {fz:List (Addr×Obj)}:∀ (d:List (D×D)),noAbsp d=true→∀ (v:List (Str×Value)),KVS C B fz d v→KVS C B' fz d v
 | [],_,_,h=>h
 | (k,x)::es,q,v,h=>by
  induction k using D.casesOn with
  | str i=>exact RKey.imp (DRep.anyB_ x (a0k (a0e q))) (KVS.anyB_ es (a0e (a0e q))) h
  | _=>exact h.elim
theorem FReps.anyB_ {C:Cx} {B B':Buf} {fz:List (Addr×Obj)}:∀ (d:List (Str×D)),noAbsf d=true→∀ (v:List DictEntry),FReps C B fz d v→FReps C B' fz d v
 | [],_,_,h=>h
 | (x,d)::fs,q,_,h=>RFld.imp (DRep.anyB_ d (a0k q)) (FReps.anyB_ fs (a0e q)) h
end
section
variable {C:Cx} {B B':Buf} {fz fz':List (Addr×Obj)}
theorem DRep.mono (hs:fz⊆fz') {d:D} {v:Value} (h:DRep C B fz d v):DRep C B fz' d v:=DRep.mono_ hs d v h
theorem DReps.mono (hs:fz⊆fz') {d:List D} {v:List Value} (h:DReps C B fz d v):DReps C B fz' d v:=DReps.mono_ hs d v h
theorem KVI.mono (hs:fz⊆fz') {d:List (D×D)} {v:List (Int×Value)} (h:KVI C B fz d v):KVI C B fz' d v:=KVI.mono_ hs d v h
theorem KVS.mono (hs:fz⊆fz') {d:List (D×D)} {v:List (Str×Value)} (h:KVS C B fz d v):KVS C B fz' d v:=KVS.mono_ hs d v h
theorem FReps.mono (hs:fz⊆fz') {d:List (Str×D)} {v:List DictEntry} (h:FReps C B fz d v):FReps C B fz' d v:=FReps.mono_ hs d v h
theorem DictRep.mono (hs:fz⊆fz') {d:List (D×D)} {o:Obj} (h:DictRep C B fz d o):DictRep C B fz' d o:=RDE.imp (KVI.mono_ hs d) (KVS.mono_ hs d) h
theorem DRep.anyB {d:D} {v:Value} (h:DRep C B fz d v) (q:a8v d=true):DRep C B' fz d v:=DRep.anyB_ d q v h
theorem DReps.anyB {d:List D} {v:List Value} (h:DReps C B fz d v) (q:a8z d=true):DReps C B' fz d v:=DReps.anyB_ d q v h
end
structure G where
 as:List Addr
 os:List Obj
 fz:List (Addr×Obj)
noncomputable def G.led (g:G) (rs:List (Addr×Obj)):List (Addr×Obj):=g.as.zip g.os++(g.fz++rs)
noncomputable def VRep (C:Cx) (B:Buf) (g:G):V→Value→Prop
 | .d x,v=>DRep C B g.fz x v
 | .r i,v=>∃ a,g.as[i]?=some a∧v = .ref a
noncomputable def VReps (C:Cx) (B:Buf) (g:G):List V→List Value→Prop
 | []=>fun vs=>vs=[]
 | x::xs=>RCons (VRep C B g x) (VReps C B g xs)
theorem VReps.nil {C:Cx} {B:Buf} {g:G}:VReps C B g [] []:=rfl
theorem VReps.cons {C:Cx} {B:Buf} {g:G} (x:V) (xs:List V) (v:Value) (vs:List Value) (h:VRep C B g x v) (r:VReps C B g xs vs):VReps C B g (x::xs) (v::vs) := .mk _ _ h r
inductive RRef1 (as:List Addr) (i:Nat):Value→Prop | mk (a:Addr):as[i]?=some a→RRef1 as i (.ref a)
noncomputable def RRefs (as:List Addr):List Nat→List Value→Prop
 | []=>fun vs=>vs=[]
 | i::is=>RCons (RRef1 as i) (RRefs as is)
theorem RRefs.nil {as:List Addr}:RRefs as [] []:=rfl
theorem RRefs.cons {as:List Addr} (i:Nat) (is:List Nat) (a:Addr) (vs:List Value) (h:as[i]?=some a) (r:RRefs as is vs):RRefs as (i::is) (.ref a::vs) := .mk _ _ (.mk a h) r
noncomputable def NReps (C:Cx) (B:Buf) (g:G):List (Str×V)→List DictEntry→Prop
 | []=>fun es=>es=[]
 | (x,v)::fs=>RFld x (VRep C B g v) (NReps C B g fs)
theorem NReps.nil {C:Cx} {B:Buf} {g:G}:NReps C B g [] []:=rfl
theorem NReps.cons {C:Cx} {B:Buf} {g:G} (x:Str) (d:V) (v:Value) (h:Int) (t:Tok) (fs:List (Str×V)) (es:List DictEntry) (a:VRep C B g d v) (r:NReps C B g fs es):NReps C B g ((x,d)::fs) (⟨h,.str x t,v⟩::es) := .mk v h t es a r
noncomputable def ORep (C:Cx) (B:Buf) (g:G):O→Obj→Prop
 | .list xs,o=>∃ vs n,o=W.listOf vs.toArray n∧DReps C B g.fz xs vs
 | .dict es,o=>DictRep C B g.fz es o
 | .refs is,o=>∃ vs n,o=W.listOf vs.toArray n∧RRefs g.as is vs
 | .inst c j,o=>∃ dx,g.as[j]?=some dx∧o=instObj c dx
 | .ns fs,o=>∃ es n,o=dictOf es n∧NReps C B g fs es
 | .cell none,o=>o.data = .cell none
 | .cell (some v),o=>∃ val,o.data = .cell (some val)∧VRep C B g v val
 | .frz _,_=>True
 | .dead,_=>True
structure Ext (g g':G):Prop where
 as:g.as <+: g'.as
 fz:g.fz⊆g'.fz
theorem Ext.refl (g:G):Ext g g:=⟨cD _,fun z0 h=>h⟩
theorem Ext.trans {a b c:G} (x:Ext a b) (y:Ext b c):Ext a c:=⟨x.as.trans y.as,fun z0 h=>y.fz (x.fz h)⟩
theorem Ext.get {g g':G} (x:Ext g g') {i:Nat} {a:Addr} (h:g.as[i]?=some a):g'.as[i]?=some a:=by
 refine xE ?_ x.as;rintro t ht
 rw [← ht]
 have:=(aW.mp h).1
 rw [aS this];exact h
theorem VRep.ext {C:Cx} {B:Buf} {g g':G} (x:Ext g g'):∀ {v:V} {val:Value},VRep C B g v val→VRep C B g' v val
 | .d _,_,h=>DRep.mono x.fz h
 | .r _,_,⟨a,h,e⟩=>⟨a,x.get h,e⟩
theorem VReps.ext {C:Cx} {B:Buf} {g g':G} (x:Ext g g'):∀ {v:List V} {val:List Value},VReps C B g v val→VReps C B g' v val
 | [],_,h=>h
 | _::vs,_,h=>by induction h with | mk v val a r=>exact .mk _ _ (a.ext x) (VReps.ext x (v:=vs) r)
theorem RRefs.ext {g g':G} (x:Ext g g'):∀ {v:List Nat} {val:List Value},RRefs g.as v val→RRefs g'.as v val
 | [],_,h=>h
 | _::is,_,h=>by induction h with | mk v vs a r=>induction a with | mk a h=>exact .mk _ _ (.mk a (x.get h)) (RRefs.ext x (v:=is) r)
theorem NReps.ext {C:Cx} {B:Buf} {g g':G} (x:Ext g g'):∀ {v:List (Str×V)} {val:List DictEntry},NReps C B g v val→NReps C B g' v val
 | [],_,h=>h
 | (_,_)::fs,_,r=>by induction r with | mk v h t es a r=>exact .mk v h t es (a.ext x) (NReps.ext x (v:=fs) r)
theorem ORep.ext {C:Cx} {B:Buf} {g g':G} (x:Ext g g') {o:O} {ob:Obj} (h:ORep C B g o ob):ORep C B g' o ob:=by
 induction o with
 | list _=>revert h;refine exxa ?_;rintro vs n e r;exact ⟨vs,n,e,r.mono x.fz⟩
 | dict _=>exact DictRep.mono x.fz h
 | refs _=>revert h;refine exxa ?_;rintro vs n e r;exact ⟨vs,n,e,r.ext x⟩
 | inst _ _=>revert h;refine exa ?_;rintro dx h e;exact ⟨dx,x.get h,e⟩
 | ns _=>revert h;refine exxa ?_;rintro es n e r;exact ⟨es,n,e,r.ext x⟩
 | cell w=>induction w with
  | none=>exact h
  | some _=>revert h;refine exa ?_;rintro v h r;exact ⟨v,h,r.ext x⟩
 | _=>trivial
structure Fm where
 A:Around
 A₀:Around
 env:Env
 env₀:Env
 outer:List Env
 base:Heap
 h₀:Heap
 L:Addr
 p:Program
 loose:List Str
 mean:ExcName→Option Value
 mg:Str→Option Value
 mb:Str→Option Value
 sc:Scope
 gens:Array GenState
 os:OsState
 mL:Str→Option Value
noncomputable def namesOk (sc:Scope):Bool:=sc.names.all fun x=>(x.1==("__debug__" : Str))==false&&(x.1==("__classdict__" : Str))==false
structure FmOk (C:Cx) (f:Fm):Prop where
 names:namesOk f.sc=true
 below:Below f.A₀ f.base f.outer f.h₀
 inK:C.K.In f.h₀
 top:Top f.p f.loose f.mean f.mg f.mb f.h₀
 frames:f.A.frames=some (f.env₀::f.outer)
 frame:f.env₀.frame=some f.L
 kind₀:f.env₀.scope.kind = .function
 kind:f.env.scope.kind = .function
 handled:f.A.handled=none
 globals:f.env.globals=mainGlobals
 builtins:f.env.builtins=builtinsNs
 kinds:∀ x k,f.sc.names.lookup x=some k→(k = .local→f.env.kindOf x=some .local)∧(k = .globalImplicit→f.env.kindOf x=some .globalImplicit) ∧
  ((k = .cell∨k = .free)→f.env.kindOf x=some .cell∨f.env.kindOf x=some .free)∧(k = .cell→f.env.kindOf x=some .cell)
noncomputable def LRep (C:Cx) (B:Buf) (env:Env) (ρ:Loc) (g:G) (m:Str→Option Value):Prop:=∀ x v,ρ.lookup x=some v →
 (env.kindOf x=some .local→∃ val,m x=some val∧VRep C B g v val) ∧
 (env.kindOf x=some .cell∨env.kindOf x=some .free→∀ i,v = .r i→∃ c,g.as[i]?=some c∧env.cells.lookup x=some c)
theorem LRep.ext {C:Cx} {B:Buf} {env:Env} {ρ:Loc} {g g':G} {m:Str→Option Value} (x:Ext g g') (h:LRep C B env ρ g m):LRep C B env ρ g' m :=
 fun y v hy=>⟨fun k=>let ⟨val,a,b⟩:=(h y v hy).1 k; ⟨val,a,b.ext x⟩,fun k i e=>let ⟨c,a,b⟩:=(h y v hy).2 k i e; ⟨c,x.get a,b⟩⟩
noncomputable def LocD (C:Cx) (B:Buf) (f:Fm) (rs:List (Addr×Obj)) (ρ:Loc) (g:G) (h:Heap) (m:Str→Option Value):Prop :=
 (f.env.locals=f.L∧LRep C B f.env ρ g m)∨(m=f.mL∧∃ o mC,(f.env.locals,o)∈rs∧h.Ns f.env.locals mC∧LRep C B f.env ρ g mC)
structure Rel (C:Cx) (B:Buf) (f:Fm) (rs:List (Addr×Obj)) (ρ:Loc) (σ:St) (g:G) (s:Shared):Prop where
 loc:∃ m,Fr f.h₀ f.L s.heap m∧LocD C B f rs ρ g s.heap m
 news:News f.h₀ f.L s.heap (g.led rs)
 lenA:g.as.length=σ.length
 lenO:g.os.length=σ.length
 nodup:g.as.Nodup
 own:∀ (i:Nat) o a ob,σ[i]?=some o→g.as[i]?=some a→g.os[i]?=some ob→ORep C B g o ob∧(a1u o=true→∀ q∈g.fz,q.1≠a)∧(a1u o=false→(a,ob)∈g.fz)∧(∀ x,o = .frz x→DRep C B g.fz x (.ref a))∧(a==sysModules)=false
 rsF:∀ q∈rs,∀ p∈g.fz,p.1≠q.1
 rsA:∀ q∈rs,∀ a∈g.as,a≠q.1
 gens:s.gens=f.gens
 os:s.os=f.os
end Mine
end
section
namespace Mine
open PySem PySem.W PySem.Spec PySem.Calls PyProof.Rows
section
variable {C:Cx} {B:Buf} {f:Fm} {rs:List (Addr×Obj)} {ρ:Loc} {σ:St} {g g':G} {s:Shared}
theorem a0l {p:Addr×Obj} (h:p∈rs):p∈g.led rs:=bO _ (bO _ h)
theorem a1g {p:Addr×Obj} (h:p∈g.fz):p∈g.led rs:=bO _ (bN _ h)
theorem a2f {i:Nat} {a:Addr} {o:Obj} (ha:g.as[i]?=some a) (ho:g.os[i]?=some o):(a,o)∈g.led rs:=by
 refine bN _ ?_
 refine bS.mpr ⟨i,?_⟩
 rw [bB];exact ⟨ha,ho⟩
theorem LocD.move {h h':Heap} {m:Str→Option Value} (x:Ext g g') (N:News f.h₀ f.L h (g.led rs)) (N':News f.h₀ f.L h' (g'.led rs)) (l:LocD C B f rs ρ g h m):LocD C B f rs ρ g' h' m:=by
 rcases l with z0_ | z1_
 ·revert z0_;refine aE ?_;rintro a b
  exact .inl ⟨a,b.ext x⟩
 ·obtain ⟨e0,o,mC,a,b,c⟩:=z1_
  refine .inr ⟨e0,o,mC,a,?_,c.ext x⟩
  have e1:=(N _ (a0l a)).1
  have e2:=(N' _ (a0l a)).1
  refine b.at' fun o' e => ?_
  dsimp only at e1 e2
  rw [e1] at e;cases e;exact e2
namespace Rel
theorem get (R:Rel C B f rs ρ σ g s) {a:Addr} {o:Obj} (h:(a,o)∈g.led rs):s.heap.get? a=some o:=(R.news _ h).1
theorem kn (R:Rel C B f rs ρ σ g s) (ok:FmOk C f) {a:Addr} {o:Obj} (h:C.Kn g.fz a o):s.heap.get? a=some o:=by
 rcases h with h | h
 ·exact R.get (a1g h)
 ·refine exa ?_ R.loc;rintro m F _;exact F.keep _ _ (ok.inK _ _ h)
theorem inK (R:Rel C B f rs ρ σ g s) (ok:FmOk C f):C.K.In s.heap:=by refine exa ?_ R.loc;rintro m F _;exact ok.inK.keeps F.keep
theorem tok (R:Rel C B f rs ρ σ g s) (n:Nat):Rel C B f rs ρ σ g { s with toks:=n }:=⟨R.loc,R.news,R.lenA,R.lenO,R.nodup,R.own,R.rsF,R.rsA,R.gens,R.os⟩
theorem low (R:Rel C B f rs ρ σ g s) (ok:FmOk C f):(s.heap.objs.size==sysModules)=false:=by
 refine exa ?_ R.loc;rintro m F _;exact F.notModules (modules_low ok.top.nolimit)
theorem at_ (R:Rel C B f rs ρ σ g s) {i:Nat} {o:O} (hi:σ[i]?=some o):∃ a ob,g.as[i]?=some a∧g.os[i]?=some ob:=by
 have h:=(aW.mp hi).1
 refine ⟨g.as[i]'(by rw [R.lenA];exact h),g.os[i]'(by rw [R.lenO];exact h),?_,?_⟩ <;> simp
theorem lt (R:Rel C B f rs ρ σ g s) {p:Addr×Obj} (h:p∈g.led rs):p.1 < s.heap.objs.size:=Heap.lt_size (R.news p h).1
theorem zipFst (R:Rel C B f rs ρ σ g s) {p:Addr×Obj} (h:p∈g.as.zip g.os):p.1∈g.as:=(List.of_mem_zip (a:=p.1) (b:=p.2) h).1
theorem split (R:Rel C B f rs ρ σ g s) {i:Nat} {o:O} (hi:σ[i]?=some o) (hm:a1u o=true):∃ a ob pre post,g.as[i]?=some a∧g.os[i]?=some ob∧ORep C B g o ob∧(a==sysModules)=false ∧
  g.led rs=pre++(a,ob)::post∧(∀ p∈pre,p.1≠a)∧(∀ p∈post,p.1≠a)∧(∀ ob',G.led ⟨g.as,g.os.set i ob',g.fz⟩ rs=pre++(a,ob')::post):=by
 refine exxa ?_ (R.at_ hi);rintro a ob ha ho
 refine eaaa ?_ (R.own i o a ob hi ha ho);rintro r1 r2 _;refine aE ?_;rintro _ r5
 have hlt:=(aW.mp ha).1
 have hltO:=(aW.mp ho).1
 have hz:i < (g.as.zip g.os).length:=by rw [List.length_zip];lia
 have cut:∀ ob',(g.as.zip (g.os.set i ob'))=(g.as.zip g.os).take i++(a,ob')::(g.as.zip g.os).drop (i+1):=by
  intro ob'
  have hza:g.as=g.as.set i a:=by
   apply List.ext_getElem? ;intro j
   by_cases hj:i=j
   ·subst hj;rw [aZ hlt];exact ha
   ·rw [aY hj]
  have e1:g.as.zip (g.os.set i ob')=(g.as.zip g.os).set i (a,ob'):=by
   apply List.ext_getElem? ;intro j
   by_cases hj:i=j
   ·subst hj
    rw [aZ hz,bB]
    exact ⟨ha,aZ hltO⟩
   ·rw [aY hj]
    simp only [List.zip,List.getElem?_zipWith,aY hj]
  rw [e1,List.set_eq_take_append_cons_drop,if_pos hz]
 have hself:g.os=g.os.set i ob:=by
  apply List.ext_getElem? ;intro j
  by_cases hj:i=j
  ·subst hj;rw [aZ hltO];exact ho
  ·rw [aY hj]
 have nd:∀ j b,g.as[j]?=some b→b=a→j=i:=by
  intro j b hb e;subst e
  have hj:=(aW.mp hb).1
  exact (List.getElem?_inj hj R.nodup).mp (hb.trans ha.symm)
 refine ⟨a,ob,(g.as.zip g.os).take i,(g.as.zip g.os).drop (i+1)++(g.fz++rs),ha,ho,r1,r5,?_,?_,?_,?_⟩
 ·show g.as.zip g.os++_=_
  conv=>lhs;rw [hself,cut ob]
  simp
 ·intro p hp e
  refine xE ?_ (bS.mp hp);rintro j hj
  rw [bA] at hj
  split at hj
  ·rename_i hji
   have:=(bB.mp hj).1
   have:=nd j _ this e;lia
  ·exact nNS hj
 ·intro p hp e
  rcases bM.mp hp with hp | hp
  ·refine xE ?_ (bS.mp hp);rintro j hj
   rw [List.getElem?_drop] at hj
   have:=(bB.mp hj).1
   have:=nd _ _ this e;lia
  ·rcases bM.mp hp with hp | hp
   ·exact r2 hm p hp e
   ·exact R.rsA p hp a (bS.mpr ⟨i,ha⟩) e.symm
 ·intro ob'
  show g.as.zip (g.os.set i ob')++_=_
  rw [cut ob'];simp
theorem put (R:Rel C B f rs ρ σ g s) {i:Nat} {o o':O} {ob':Obj} {h':Heap} {t:Nat} {m:Str→Option Value} (hi:σ[i]?=some o) (hm:a1u o=true) (hm':a1u o'=true)
  (l:LocD C B f rs ρ g s.heap m) (F':Fr f.h₀ f.L h' m) (N':News f.h₀ f.L h' (G.led ⟨g.as,g.os.set i ob',g.fz⟩ rs)) (r:ORep C B g o' ob') :
  Rel C B f rs ρ (setAt σ i o') ⟨g.as,g.os.set i ob',g.fz⟩ { s with heap:=h',toks:=t }:=by
 have hlt:=(aW.mp hi).1
 have x:Ext g ⟨g.as,g.os.set i ob',g.fz⟩:=⟨cD _,fun z0 h=>h⟩
 refine ⟨⟨m,F',?_⟩,N',by simp [R.lenA],by simp [R.lenO],R.nodup,?_,R.rsF,R.rsA,R.gens,R.os⟩
 ·exact LocD.move x R.news N' l
 ·intro j oj aj obj hj haj hoj
  rw [a1x] at hj
  by_cases hij:i=j
  ·subst hij
   rw [aZ hlt] at hj
   cases hj
   rw [aZ (by rw [R.lenO];exact hlt)] at hoj
   cases hoj
   refine exxa ?_ (R.at_ hi);rintro a ob ha ho
   rw [show g.as[i]?=some aj from haj] at ha;cases ha
   have q:=R.own i o aj ob hi haj ho
   refine ⟨r.ext x,fun z0=>q.2.1 hm,fun e => ?_,fun x e => ?_,q.2.2.2.2⟩
   ·rw [hm'] at e;exact nTF e
   ·subst e;exact nFT hm'
  ·rw [aY hij] at hj
   have hoj':g.os[j]?=some obj:=by simpa [aY hij] using hoj
   have q:=R.own j oj aj obj hj haj hoj'
   exact ⟨q.1.ext x,q.2⟩
theorem allocA (R:Rel C B f rs ρ σ g s) {a₀:Addr} {o:O} {ob:Obj} {h':Heap} {t:Nat} {m:Str→Option Value} (hm:a1u o=true)
  (l:LocD C B f rs ρ g s.heap m) (F':Fr f.h₀ f.L h' m) (N':News f.h₀ f.L h' ((a₀,ob)::g.led rs)) (r:ORep C B g o ob) (fresh:∀ p∈g.led rs,p.1≠a₀) (low:(a₀==sysModules)=false) :
  Rel C B f rs ρ (σ++[o]) ⟨g.as++[a₀],g.os++[ob],g.fz⟩ { s with heap:=h',toks:=t }∧Ext g ⟨g.as++[a₀],g.os++[ob],g.fz⟩:=by
 have x:Ext g ⟨g.as++[a₀],g.os++[ob],g.fz⟩:=⟨List.prefix_append _ _,fun z0 h=>h⟩
 have N'':News f.h₀ f.L h' (G.led ⟨g.as++[a₀],g.os++[ob],g.fz⟩ rs):=by
  intro p hp
  refine N' p ?_
  rcases bM.mp hp with hp | hp
  ·rw [List.zip_append (by rw [R.lenA,R.lenO])] at hp
   rcases bM.mp hp with hp | hp
   ·exact .tail _ (bN _ hp)
   ·simp at hp;subst hp;exact .head _
  ·exact .tail _ (bO _ hp)
 have asl:∀ a∈g.as,a≠a₀:=by
  intro a ha
  refine xE ?_ (bS.mp ha);rintro i hi
  have hlt:=(aW.mp hi).1
  exact fresh (a,g.os[i]'(by rw [R.lenO,← R.lenA];exact hlt)) (a2f hi (by simp))
 refine ⟨⟨⟨m,F',LocD.move x R.news N'' l⟩,N'',by simp [R.lenA],by simp [R.lenO],?_,?_,R.rsF,?_,R.gens,R.os⟩,x⟩
 ·rw [bX]
  refine ⟨R.nodup,by simp,fun a ha b hb => ?_⟩
  simp at hb;subst hb;exact asl a ha
 ·intro j oj aj obj hj haj hoj
  by_cases hlt:j < σ.length
  ·rw [aS hlt] at hj
   have haj':g.as[j]?=some aj:=by rw [← haj];exact (aS (by rw [R.lenA];exact hlt)).symm
   have hoj':g.os[j]?=some obj:=by rw [← hoj];exact (aS (by rw [R.lenO];exact hlt)).symm
   have q:=R.own j oj aj obj hj haj' hoj'
   exact ⟨q.1.ext x,q.2.1,q.2.2.1,q.2.2.2.1,q.2.2.2.2⟩
  ·have hb:=(aW.mp hj).1
   have:j=σ.length:=by simp at hb;lia
   subst this
   simp at hj;subst hj
   have haj':aj=a₀:=by
    have:=haj;simp only [← R.lenA,aU] at this;exact (Option.some.inj this).symm
   have hoj':obj=ob:=by
    have:=hoj;simp only [← R.lenO,aU] at this;exact (Option.some.inj this).symm
   subst haj' hoj'
   refine ⟨r.ext x,fun z0 q hq=>fresh q (a1g hq),fun e => ?_,fun y e => ?_,low⟩
   ·rw [hm] at e;exact nTF e
   ·subst e;exact nFT hm
 ·intro q hq a ha
  rcases bM.mp ha with ha | ha
  ·exact R.rsA q hq a ha
  ·simp at ha;subst ha;exact (fresh q (a0l hq)).symm
theorem allocO (R:Rel C B f rs ρ σ g s) (ok:FmOk C f) {o:O} {ob:Obj} {h':Heap} {t:Nat} {m:Str→Option Value} (hm:a1u o=true)
  (l:LocD C B f rs ρ g s.heap m) (F':Fr f.h₀ f.L h' m) (N':News f.h₀ f.L h' ((s.heap.objs.size,ob)::g.led rs)) (r:ORep C B g o ob) :
  Rel C B f rs ρ (σ++[o]) ⟨g.as++[s.heap.objs.size],g.os++[ob],g.fz⟩ { s with heap:=h',toks:=t }∧Ext g ⟨g.as++[s.heap.objs.size],g.os++[ob],g.fz⟩ :=
 R.allocA hm l F' N' r (fun p hp=>cX (R.lt hp)) (R.low ok)
theorem allocF (R:Rel C B f rs ρ σ g s) {a:Addr} {ob:Obj} {h':Heap} {t:Nat} {m:Str→Option Value}
  (l:LocD C B f rs ρ g s.heap m) (F':Fr f.h₀ f.L h' m) (N':News f.h₀ f.L h' ((a,ob)::g.led rs)) (fresh:∀ p∈g.led rs,p.1≠a) :
  Rel C B f rs ρ σ ⟨g.as,g.os,(a,ob)::g.fz⟩ { s with heap:=h',toks:=t }∧Ext g ⟨g.as,g.os,(a,ob)::g.fz⟩:=by
 have x:Ext g ⟨g.as,g.os,(a,ob)::g.fz⟩:=⟨cD _,cH _ _⟩
 have N'':News f.h₀ f.L h' (G.led ⟨g.as,g.os,(a,ob)::g.fz⟩ rs):=by
  intro p hp
  refine N' p ?_
  rcases bM.mp hp with hp | hp
  ·exact .tail _ (bN _ hp)
  ·rcases bM.mp hp with hp | hp
   ·rcases bP.mp hp with rfl | hp
    ·exact .head _
    ·exact .tail _ (a1g hp)
   ·exact .tail _ (a0l hp)
 have asl:∀ b∈g.as,b≠a:=by
  intro b hb
  refine xE ?_ (bS.mp hb);rintro i hi
  have hlt:=(aW.mp hi).1
  exact fresh (b,g.os[i]'(by rw [R.lenO,← R.lenA];exact hlt)) (a2f hi (by simp))
 refine ⟨⟨⟨m,F',LocD.move x R.news N'' l⟩,N'',R.lenA,R.lenO,R.nodup,?_,?_,R.rsA,R.gens,R.os⟩,x⟩
 ·intro j oj aj obj hj haj hoj
  have q:=R.own j oj aj obj hj haj hoj
  refine ⟨q.1.ext x,fun e p hp => ?_,fun e => .tail _ (q.2.2.1 e),fun y e=>(q.2.2.2.1 y e).mono x.fz,q.2.2.2.2⟩
  rcases bP.mp hp with rfl | hp
  ·exact (asl aj (bS.mpr ⟨j,haj⟩)).symm
  ·exact q.2.1 e p hp
 ·intro q hq p hp
  rcases bP.mp hp with rfl | hp
  ·exact (fresh q (a0l hq)).symm
  ·exact R.rsF q hq p hp
theorem freeze (R:Rel C B f rs ρ σ g s) {i:Nat} {o:O} {a:Addr} {ob:Obj} {o':O} (hi:σ[i]?=some o) (hm:a1u o=true) (ha:g.as[i]?=some a) (ho:g.os[i]?=some ob) (hm':a1u o'=false)
  (r:∀ x,o' = .frz x→DRep C B ((a,ob)::g.fz) x (.ref a)):Rel C B f rs ρ (setAt σ i o') ⟨g.as,g.os,(a,ob)::g.fz⟩ s∧Ext g ⟨g.as,g.os,(a,ob)::g.fz⟩:=by
 have x:Ext g ⟨g.as,g.os,(a,ob)::g.fz⟩:=⟨cD _,cH _ _⟩
 have hlt:=(aW.mp hi).1
 have N'':News f.h₀ f.L s.heap (G.led ⟨g.as,g.os,(a,ob)::g.fz⟩ rs):=by
  intro p hp
  refine R.news p ?_
  rcases bM.mp hp with hp | hp
  ·exact bN _ hp
  ·rcases bM.mp hp with hp | hp
   ·rcases bP.mp hp with rfl | hp
    ·exact a2f ha ho
    ·exact a1g hp
   ·exact a0l hp
 refine exa ?_ R.loc;rintro m F l
 refine ⟨⟨⟨m,F,LocD.move x R.news N'' l⟩,N'',by simp [R.lenA],by simp [R.lenO],R.nodup,?_,?_,R.rsA,R.gens,R.os⟩,x⟩
 ·intro j oj aj obj hj haj hoj
  rw [a1x] at hj
  by_cases hij:i=j
  ·subst hij
   rw [aZ hlt] at hj
   cases hj
   rw [show g.as[i]?=some a from ha] at haj;cases haj
   rw [show g.os[i]?=some ob from ho] at hoj;cases hoj
   have q:=R.own i o a ob hi ha ho
   refine ⟨?_,fun e => ?_,fun z0 => .head _,r,q.2.2.2.2⟩
   ·cases o' <;> first | exact trivial | cases hm'
   ·rw [hm'] at e;exact nFT e
  ·rw [aY hij] at hj
   have q:=R.own j oj aj obj hj haj hoj
   refine ⟨q.1.ext x,fun e p hp => ?_,fun e => .tail _ (q.2.2.1 e),fun y e=>(q.2.2.2.1 y e).mono x.fz,q.2.2.2.2⟩
   rcases bP.mp hp with rfl | hp
   ·intro e2
    have hj':=(aW.mp ha).1
    exact hij ((List.getElem?_inj hj' R.nodup).mp (by dsimp only at e2;rw [ha,e2];exact haj.symm))
   ·exact q.2.1 e p hp
 ·intro q hq p hp
  rcases bP.mp hp with rfl | hp
  ·exact R.rsA q hq a (bS.mpr ⟨i,ha⟩)
  ·exact R.rsF q hq p hp
end Rel
theorem a2o (R:Rel C B f rs ρ σ g s):∀ {v:V} {val:Value},VRep C B g v val→VRep C B g (norm σ v) val
 | .d _,_,h=>h
 | .r i,val,h=>by
  revert h;refine exa ?_;rintro a ha rfl
  cases hy:σ[i]? with
  | none=>simp only [norm,hy];exact ⟨a,ha,rfl⟩
  | some o =>
   induction o with
   | frz y =>
    simp only [norm,hy]
    refine exxa ?_ (R.at_ hy);rintro a' ob ha' ho
    rw [ha] at ha';cases ha'
    exact (R.own _ _ a ob hy ha ho).2.2.2.1 _ rfl
   | _=>simp only [norm,hy];exact ⟨a,ha,rfl⟩
end
end Mine
end
section
namespace Mine
open PySem PySem.W PySem.Spec PySem.Calls PyProof.Rows
theorem no {α:Type} {P:Prop} {r:α} (h:Option.none=some r):P:=nomatch h
theorem a0b {α:Type} {b:Bool} {x:Option α} {r:α} (h:(bif b then x else none)=some r):b=true:=by
 induction b with
 | true=>rfl
 | false=>exact no h
theorem a0c {α:Type} {b:Bool} {x:Option α} {r:α} (h:(bif b then x else none)=some r):x=some r:=by
 induction b with
 | true=>exact h
 | false=>exact no h
theorem DReps.length {C:Cx} {B:Buf} {fz:List (Addr×Obj)}:∀ {xs:List D} {vs:List Value},DReps C B fz xs vs→xs.length=vs.length:=by
 intro x_
 induction x_ with
 | nil =>
  intro _ h
  subst h;rfl
 | cons _ xs IH_ =>
  intro _ h
  induction h with | mk v vs a r=>exact congrArg (· + 1) (IH_ r)
theorem DReps.get {C:Cx} {B:Buf} {fz:List (Addr×Obj)}:∀ {xs:List D} {vs:List Value},DReps C B fz xs vs→∀ i,i < xs.length→∃ v,vs[i]?=some v∧DRep C B fz (xs.getD i default) v:=by
 intro x_
 induction x_ with
 | nil =>
  intro _ h i hi
  exact absurd hi (Nat.not_lt_zero _)
 | cons _ xs IH_ =>
  intro _ h i hi
  induction h with | mk v vs a r =>
  induction i using cK with
  | zero=>exact ⟨v,rfl,a⟩
  | succ i=>exact IH_ r i (Nat.lt_of_succ_lt_succ hi)
theorem DReps.app {C:Cx} {B:Buf} {fz:List (Addr×Obj)}:∀ {xs:List D} {vs:List Value} {ys:List D} {us:List Value},DReps C B fz xs vs→DReps C B fz ys us→DReps C B fz (xs++ys) (vs++us):=by
 intro x_
 induction x_ with
 | nil =>
  intro _ _ _ h h2
  subst h;exact h2
 | cons _ xs IH_ =>
  intro _ _ _ h h2
  induction h with | mk v vs a r=>exact .mk v _ a (IH_ r h2)
theorem DReps.rep {C:Cx} {B:Buf} {fz:List (Addr×Obj)} {x:D} {v:Value} (h:DRep C B fz x v):∀ n,DReps C B fz (List.replicate n x) (List.replicate n v)
 | 0 => .nil
 | n+1 => .cons _ _ _ _ h (DReps.rep h n)
theorem DReps.drop {C:Cx} {B:Buf} {fz:List (Addr×Obj)}:∀ {xs:List D} {vs:List Value},DReps C B fz xs vs→∀ n,DReps C B fz (xs.drop n) (vs.drop n)
 | _,_,h,0=>h
 | [],_,h,_+1=>by subst h;exact .nil
 | _::xs,_,h,n+1=>by induction h with | mk v vs a r=>exact DReps.drop (xs:=xs) r n
theorem DReps.take {C:Cx} {B:Buf} {fz:List (Addr×Obj)}:∀ {xs:List D} {vs:List Value},DReps C B fz xs vs→∀ n,DReps C B fz (xs.take n) (vs.take n)
 | _,_,h,0 => .nil
 | [],_,h,_+1=>by subst h;exact .nil
 | _::xs,_,h,n+1=>by induction h with | mk v vs a r=>exact .mk v _ a (DReps.take (xs:=xs) r n)
theorem RRefs.length {as:List Addr}:∀ {xs:List Nat} {vs:List Value},RRefs as xs vs→xs.length=vs.length:=by
 intro x_
 induction x_ with
 | nil =>
  intro _ h
  subst h;rfl
 | cons _ is IH_ =>
  intro _ h
  induction h with | mk v vs a r=>exact congrArg (· + 1) (IH_ r)
theorem RRefs.get {as:List Addr}:∀ {xs:List Nat} {vs:List Value},RRefs as xs vs→∀ i,i < xs.length→∃ v,vs[i]?=some v∧RRef1 as (xs.getD i default) v:=by
 intro x_
 induction x_ with
 | nil =>
  intro _ h i hi
  exact absurd hi (Nat.not_lt_zero _)
 | cons _ xs IH_ =>
  intro _ h i hi
  induction h with | mk v vs a r =>
  induction i using cK with
  | zero=>exact ⟨v,rfl,a⟩
  | succ i=>exact IH_ r i (Nat.lt_of_succ_lt_succ hi)
theorem a0r {h:Heap} {a:Addr} {vs:Array Value} {n:Nat} (e:h.get? a=some (W.listOf vs n)):h.IsList a vs:=⟨_,e,rfl,n,rfl⟩
inductive LstAt (C:Cx) (B:Buf) (fz:List (Addr×Obj)) (h:Heap) (xs:List D):Value→Prop
 | mk (vs:List Value) (a:Addr) (n:Nat):h.get? a=some (W.listOf vs.toArray n)→DReps C B fz xs vs→LstAt C B fz h xs (.ref a)
inductive OwnAt (C:Cx) (B:Buf) (g:G) (h:Heap) (i:Nat) (o:O):Value→Prop
 | mk (a:Addr) (ob:Obj):g.as[i]?=some a→g.os[i]?=some ob→h.get? a=some ob→ORep C B g o ob→(a==sysModules)=false→OwnAt C B g h i o (.ref a)
section
variable {C:Cx} {B:Buf} {f:Fm} {g:G} {s:Shared} {ρ:Loc} {σ:St} {rs:List (Addr×Obj)} {E:Value→Shared→Prop} {A:Around}
theorem own_is (R:Rel C B f rs ρ σ g s) {i:Nat} {o:O} {val:Value} (hi:σ[i]?=some o) (hv:VRep C B g (.r i) val):OwnAt C B g s.heap i o val:=by
 revert hv;refine exa ?_;rintro a ha rfl
 refine exxa ?_ (R.at_ hi);rintro a' ob ha' ho
 rw [ha] at ha';cases ha'
 have q:=R.own _ _ a ob hi ha ho
 exact .mk a ob ha ho (R.get (a2f ha ho)) q.1 q.2.2.2.2
theorem lst_at (Rl:Rel C B f rs ρ σ g s) (ok:FmOk C f) {xs:List D} {v:Value} (h:DRep C B g.fz (.lst xs) v):LstAt C B g.fz s.heap xs v:=by
 induction h with | mk vs a n k r=>exact .mk vs a n (Rl.kn ok k) r
theorem own_lst (Rl:Rel C B f rs ρ σ g s) {i:Nat} {xs:List D} {v:Value} (hi:σ[i]?=some (.list xs)) (h:VRep C B g (.r i) v):LstAt C B g.fz s.heap xs v:=by
 induction own_is Rl hi h with | mk a ob h1 h2 h3 h4 h5 =>
 revert h4;refine exxa ?_;rintro vs n rfl r
 exact .mk vs a n h3 r
theorem empty_eq {fz:List (Addr×Obj)} {xs:List D} {vs:List Value} (h:DReps C B fz xs vs):xs.isEmpty=vs.isEmpty:=by
 have:=h.length
 cases xs <;> cases vs <;> first | rfl | simp at this
theorem a9f {xs:List D} {v:Value} {k:Bool→Option R} {Q:Bool→Shared→Prop} (l:LstAt C B g.fz s.heap xs v) (h:(bif szOk xs.length then k (!xs.isEmpty) else none)=some r) (Rl:Rel C B f rs ρ σ g s)
  (q:∀ b s',k b=some r→Rel C B f rs ρ σ g s'→Q b s'):wpAny C.M A (PySem.truthy v) Q E s:=by
 induction l with | mk vs a n hg hr =>
 have hz:=a1a (a0b h)
 rw [hr.length] at hz
 have h:=a0c h
 rw [empty_eq hr,← List.isEmpty_toArray] at h
 exact wpAny_truthy_list (a0r hg) (by rw [cG];lia) (q _ _ h (Rl.tok _))
theorem a5o {v:V} {val:Value} {k:Bool→Option R} {Q:Bool→Shared→Prop} (h:truthy v σ k=some r) (ok:FmOk C f) (Rl:Rel C B f rs ρ σ g s) (hv:VRep C B g v val)
  (q:∀ b s',k b=some r→Rel C B f rs ρ σ g s'→Q b s'):wpAny C.M A (PySem.truthy val) Q E s:=by
 have hn:=a2o Rl hv
 have h:(match norm σ v with | .d x=>truthD x k | .r i=>truthO σ[i]? k)=some r:=h
 generalize norm σ v=w at h hn
 induction w with
 | d x=>induction x using D.casesOn with
  | bool b=>subst hn;exact wpAny_truthy_bool (q _ _ h Rl)
  | lst xs=>exact a9f (lst_at Rl ok hn) h Rl q
  | _=>exact no h
 | r i =>
  have h:truthO σ[i]? k=some r:=h
  cases ho:σ[i]? with
  | none=>rw [ho] at h;exact no h
  | some o =>
   rw [ho] at h
   induction o with
   | list xs=>exact a9f (own_lst Rl ho hn) h Rl q
   | _=>exact no h
theorem a3s {i:Int} (h:a1f i=true):i.natAbs < 2 ^ 64:=by
 have:=of_decide_eq_true h;simpa using this
theorem smallI_mul {x y:Int} (h:a1f x=true):IntMulOk x y:=by
 have:=a3s h
 exact IntMulOk.of_left (intBits_le_64 (by lia) (by lia))
theorem a1q (b:List Nat):(toBA b).size=b.length:=by simp [toBA]
theorem toBA_app (b c:List Nat):toBA (b++c)=toBA b++toBA c:=by simp [toBA]
theorem pa1 (e r o n:Int):e - r+o+n=e - (r - n)+o:=by
 rw [Int.add_right_comm,show e - (r - n)=e - r+n by rw [Int.sub_eq_add_neg (a:=e) (b:=r - n),Int.neg_sub,← Int.add_sub_assoc,Int.sub_eq_add_neg,Int.sub_eq_add_neg,Int.add_right_comm]]
theorem pa2 {e r n:Nat} (h:n≤r) (h3:r≤e):e - r+n=e - (r - n):=by
 rw [Nat.sub_sub_right _ h,Nat.sub_add_comm h3]
theorem pos_add {B:Buf} {rest:List Nat} {o:Nat} {i y:Int} (h:a3d B rest o i) (hy:0≤y) (hle:y.toNat≤rest.length):a3d B (rest.drop y.toNat) o (i+y):=by
 refine xE ?_ (Int.eq_ofNat_of_zero_le hy);rintro n rfl
 have hle:n≤rest.length:=hle
 show a3d B (rest.drop n) o (i+n)
 have hl:(rest.drop n).length=rest.length - n:=List.length_drop
 refine ⟨?_,fun e => ?_,hl▸cS (Nat.sub_le _ _) h.2.2.1,?_⟩
 ·rw [h.1,hl,Int.ofNat_sub hle];exact pa1 _ _ _ _
 ·rw [h.2.1 e];exact List.drop_nil
 ·rw [hl,← pa2 hle h.2.2.1,← List.drop_drop,← h.2.2.2]
theorem pos_over {B:Buf} {rest:List Nat} {o:Nat} {i y:Int} (h:a3d B rest o i) (hy:0≤y) (hle:rest.length < y.toNat):a3d B [] (o+(y.toNat - rest.length)) (i+y):=by
 revert h;refine eaaa ?_;rintro h1 h2 h3 h4
 refine ⟨?_,fun z0=>rfl,cY _,?_⟩
 ·rw [h1];simp;lia
 ·simp
theorem bool_and {a b:Bool} (h:(a&&b)=true):a=true∧b=true:=⟨a0k h,a0e h⟩
theorem a4u {α:Type} {b:Bool} {x:Option α} {r:α} (h:(bif b then x else none)=some r):b=true∧x=some r:=⟨a0b h,a0c h⟩
inductive OnI {α:Type} (F:Int→Option α) (r:α):Value→Prop | mk (i:Int) (t:Tok):F i=some r→OnI F r (.int i t)
inductive OnS (F:Str→Option R) (r:R):Value→Prop | mk (i:Str) (t:Tok):F i=some r→OnS F r (.str i t)
inductive OnB {α:Type} (F:List Nat→Option α) (r:α):Value→Prop | mk (i:List Nat) (t:Tok):(∀ x∈i,x < 256)→F i=some r→OnB F r (.bytes (toBA i) t)
inductive OnP (B:Buf) (F:List Nat→Nat→Option R) (r:R):Value→Prop | mk (l:List Nat) (o:Nat) (i:Int) (t:Tok):a3d B l o i→F l o=some r→OnP B F r (.int i t)
inductive OnT (C:Cx) (B:Buf) (fz:List (Addr×Obj)) (F:List D→Option R) (r:R):Value→Prop | mk (xs:List D) (vs:List Value) (a:Addr) (o:Obj) (n:Nat):C.Kn fz a o→o.cls = .type "tuple" → o.data = .seq vs.toArray n→DReps C B fz xs vs→F xs=some r→OnT C B fz F r (.ref a)
variable {fz:List (Addr×Obj)} {d:D} {v:Value}
theorem a1e {α:Type} {F:Int→Option α} {r:α} (h:onI d F=some r) (hd:DRep C B fz d v):OnI F r v:=by
 induction d using D.casesOn with
 | int i=>induction hd with | mk t=>exact .mk i t h
 | _=>exact no h
theorem a7k {F:Str→Option R} (h:onS d F=some r) (hd:DRep C B fz d v):OnS F r v:=by
 induction d using D.casesOn with
 | str i=>induction hd with | mk t=>exact .mk i t h
 | _=>exact no h
theorem onB_is {α:Type} {F:List Nat→Option α} {r:α} (h:onB d F=some r) (hd:DRep C B fz d v):OnB F r v:=by
 induction d using D.casesOn with
 | bytes i=>induction hd with | mk t l=>exact .mk i t l h
 | _=>exact no h
theorem onT_is {F:List D→Option R} (h:onT d F=some r) (hd:DRep C B fz d v):OnT C B fz F r v:=by
 induction d using D.casesOn with
 | tup xs=>induction hd with | mk vs a o n k c e rr=>exact .mk xs vs a o n k c e rr h
 | _=>exact no h
theorem b1r {F:List Nat→Nat→Option R} (h:onP d F=some r) (hd:DRep C B fz d v):OnP B F r v:=by
 induction d using D.casesOn with
 | pos l o=>induction hd with | mk i t p=>exact .mk l o i t p h
 | _=>exact no h
noncomputable abbrev QDd (C:Cx) (B:Buf) (f:Fm) (rs:List (Addr×Obj)) (ρ:Loc) (σ:St) (g:G) (k:D→Option R) (r:R) (Q:Value→Shared→Prop):Prop :=
 ∀ d g' s' val,k d=some r→Rel C B f rs ρ σ g' s'→Ext g g'→DRep C B g'.fz d val→Q val s'
variable {k:D→Option R} {Q:Value→Shared→Prop} {x y:D} {a b:Value}
theorem b3v (q:QDd C B f rs ρ σ g k r Q) (Rl:Rel C B f rs ρ σ g s) {i:Int} (h:k (.int i)=some r) (t:Tok) {n:Nat}:Q (.int i t) { s with toks:=n }:=q _ g _ _ h (Rl.tok _) (Ext.refl _) (.int _ _)
theorem add_str_ok (q:QDd C B f rs ρ σ g k r Q) (Rl:Rel C B f rs ρ σ g s) {x y:Str} {t u:Tok} (h:(bif szOk (x.cps.toList.length+y.cps.toList.length) then k (.str (sCat x y)) else none)=some r):wpAny C.M A (binaryOp .Add (.str x t) (.str y u)) Q E s:=by
 have e:sCat x y=x++y:=by
  show (⟨_⟩:Str)=⟨x.cps++y.cps⟩
  congr 1;apply Array.toList_inj.mp;simp
 have h2:=a0c h
 rw [e] at h2
 exact PyProof.Rows.add_str (fun t' tk=>q _ g _ _ h2 (Rl.tok _) (Ext.refl _) (.str _ _)) (by have:=a2n (a0b h);show x.cps.size+y.cps.size≤_;simpa using this)
theorem b1s (q:QDd C B f rs ρ σ g k r Q) (Rl:Rel C B f rs ρ σ g s) {x y:List Nat} {t u:Tok} (l1:∀ c∈x,c < 256) (l2:∀ c∈y,c < 256) (h:(bif szOk (x.length+y.length) then k (.bytes (x++y)) else none)=some r):wpAny C.M A (binaryOp .Add (.bytes (toBA x) t) (.bytes (toBA y) u)) Q E s:=by
 refine KBy.add_bytes (by have:=a1a (a0b h);simp [a1q];lia) (fun t' tk => ?_)
 rw [← toBA_app]
 exact q _ g _ _ (a0c h) (Rl.tok _) (Ext.refl _) (.bytes _ _ fun x hx=>(bM.mp hx).elim (l1 x) (l2 x))
theorem b0j {xs:List D} {vs:List Value} (r:DReps C B fz xs vs) (h:(!xs.isEmpty)=true):vs≠[]:=by
 rw [empty_eq r] at h
 intro e
 subst e
 exact nFT h
theorem add_tup_ok (q:QDd C B f rs ρ σ g k r Q) (Rl:Rel C B f rs ρ σ g s) (ok:FmOk C f) {x y:List D} {vs us:List Value} {a b:Addr} {o o2:Obj} {n n2:Nat} (ka:C.Kn g.fz a o) (kc:o.cls = .type "tuple") (kd:o.data = .seq vs.toArray n) (kr:DReps C B g.fz x vs)
  (kb:C.Kn g.fz b o2) (kc2:o2.cls = .type "tuple") (kd2:o2.data = .seq us.toArray n2) (kr2:DReps C B g.fz y us) (h:(bif Nat.ble (x.length+y.length) 10000&&(!x.isEmpty && !y.isEmpty) then k (.tup (x++y)) else none)=some r):wpAny C.M A (binaryOp .Add (.ref a) (.ref b)) Q E s:=by
 have hz:=a0b h
 have h:=a0c h
 refine exa ?_ Rl.loc;rintro m F l
 have hl:=cO (a0k hz)
 rw [kr.length,kr2.length] at hl
 refine kde_addT F Rl.news ⟨o,Rl.kn ok ka,kc,n,kd⟩ ⟨o2,Rl.kn ok kb,kc2,n2,kd2⟩ (b0j kr (a0k (a0e hz))) (b0j kr2 (a0e (a0e hz))) (by simp;lia) rfl fun D h' F' N' lt => ?_
 refine aE ?_ (Rl.allocF (t:=s.toks) l F' N' (fun p hp=>cX (lt p hp)));rintro R' x'
 exact q _ _ _ _ h R' x' (.tup _ _ D _ _ (.inl (.head _)) rfl rfl ((kr.app kr2).mono x'.fz))
theorem flat_rep {α:Type} (v:α):∀ k:Nat,(List.replicate k [v]).flatten=List.replicate k v
 | 0=>rfl
 | k+1=>by rw [List.replicate_succ,List.flatten_cons,flat_rep v k];rfl
theorem mul_lst_ok (q:QDd C B f rs ρ σ g k r Q) (Rl:Rel C B f rs ρ σ g s) (ok:FmOk C f) {x:D} {v:Value} {a:Addr} {n:Nat} {y:Int} {u:Tok} (ka:C.Kn g.fz a (W.listOf [v].toArray n)) (kv:DRep C B g.fz x v) (h:(bif decide (0≤y)&&decide (y≤200) then k (.lst (List.replicate y.toNat x)) else none)=some r):wpAny C.M A (binaryOp .Mult (.ref a) (.int y u)) Q E s:=by
 have z0:=of_decide_eq_true (a0k (a0b h))
 have z1:=of_decide_eq_true (a0e (a0b h))
 have h:=a0c h
 refine exa ?_ Rl.loc;rintro m F l
 refine KMa.mul F Rl.news (a0r (Rl.kn ok ka)) (by lia) (by lia) (by simp;lia) rfl fun D h' F' N' lt => ?_
 refine aE ?_ (Rl.allocF (t:=s.toks) l F' N' (fun p hp=>cX (lt p hp)));rintro R' x'
 exact q _ _ _ _ h R' x' (.lst _ _ D 0 (.inl (flat_rep v y.toNat ▸ .head _)) ((DReps.rep kv _).mono x'.fz))
theorem add_pos_ok (q:QDd C B f rs ρ σ g k r Q) (Rl:Rel C B f rs ρ σ g s) {l:List Nat} {o:Nat} {i y:Int} {t u:Tok} (hp:a3d B l o i) (h:(bif decide (0≤y) then (bif Nat.ble y.toNat l.length then k (.pos (l.drop y.toNat) o) else k (.pos [] (o+(y.toNat - l.length)))) else none)=some r):wpAny C.M A (binaryOp .Add (.int i t) (.int y u)) Q E s:=by
 have z:=of_decide_eq_true (a0b h)
 have h:=a0c h
 refine add_int ?_
 cases hb:Nat.ble y.toNat l.length with
 | true=>rw [hb] at h;exact q _ g _ _ h (Rl.tok _) (Ext.refl _) (.pos _ _ _ _ (pos_add hp z (cO hb)))
 | false =>
  rw [hb] at h
  exact q _ g _ _ h (Rl.tok _) (Ext.refl _) (.pos _ _ _ _ (pos_over hp z (Nat.lt_of_not_le fun e=>by rw [Nat.ble_eq_true_of_le e] at hb;exact nTF hb)))
theorem addD_ok (h:addD x y k=some r) (ok:FmOk C f) (Rl:Rel C B f rs ρ σ g s) (hx:DRep C B g.fz x a) (hy:DRep C B g.fz y b) (q:QDd C B f rs ρ σ g k r Q):wpAny C.M A (binaryOp .Add a b) Q E s:=by
 induction x using D.casesOn with
 | int i=>induction hx with | mk t=>induction a1e h hy with | mk j u h=>exact add_int (b3v q Rl h _)
 | str i=>induction hx with | mk t=>induction a7k h hy with | mk j u h=>exact add_str_ok q Rl h
 | bytes i=>induction hx with | mk t l1=>induction onB_is h hy with | mk j u l2 h=>exact b1s q Rl l1 l2 h
 | tup i=>induction hx with | mk vs a o n k1 k2 k3 k4=>induction onT_is h hy with | mk ys us b o2 n2 k5 k6 k7 k8 h=>exact add_tup_ok q Rl ok k1 k2 k3 k4 k5 k6 k7 k8 h
 | pos l o=>induction hx with | mk i t p=>induction a1e h hy with | mk j u h=>exact add_pos_ok q Rl p h
 | _=>exact no h
theorem subD_ok (h:subD x y k=some r) (ok:FmOk C f) (Rl:Rel C B f rs ρ σ g s) (hx:DRep C B g.fz x a) (hy:DRep C B g.fz y b) (q:QDd C B f rs ρ σ g k r Q):wpAny C.M A (binaryOp .Sub a b) Q E s:=by
 induction x using D.casesOn with
 | int i=>induction hx with | mk t=>induction a1e h hy with | mk j u h=>exact sub_int (b3v q Rl h _)
 | pos l o=>induction hx with | mk i t p=>induction b1r h hy with | mk l2 o2 i2 u p2 h =>
  have e:((l2.length:Int)+o - l.length - o2)=i - i2:=by rw [p.1,p2.1];lia
  exact sub_int (b3v q Rl (e▸h) _)
 | _=>exact no h
theorem mulD_ok (h:mulD x y k=some r) (ok:FmOk C f) (Rl:Rel C B f rs ρ σ g s) (hx:DRep C B g.fz x a) (hy:DRep C B g.fz y b) (q:QDd C B f rs ρ σ g k r Q):wpAny C.M A (binaryOp .Mult a b) Q E s:=by
 induction x using D.casesOn with
 | int i=>induction hx with | mk t=>induction a1e h hy with | mk j u h=>exact PyProof.Rows.mul_int (b3v q Rl (a0c h) _) (smallI_mul (a0b h))
 | lst xs =>
  induction xs using aK with
  | nil=>exact no h
  | cons x xs=>induction xs using aK with
   | cons _ _=>exact no h
   | nil=>induction hx with | mk vs a n ka kr=>induction kr with | mk v vs kv kn=>subst kn;induction a1e h hy with | mk j u h=>exact mul_lst_ok q Rl ok ka kv h
 | _=>exact no h
theorem b1t {y:Int} (z2:y.natAbs < 2 ^ 64):¬ ((if (y==0)=true then 0 else y.natAbs.log2 / 30+1) > 300):=by
 by_cases h0:y=0
 ·subst h0;simp
 ·have hl:y.natAbs.log2 < 64:=(Nat.log2_lt (by lia)).mpr z2
  split <;> (first | decide | lia)
theorem fdiv_ok (q:QDd C B f rs ρ σ g k r Q) (Rl:Rel C B f rs ρ σ g s) {i y:Int} {t u:Tok} (h:(bif decide (0 < y)&&a1f y then k (.int (i.fdiv y)) else none)=some r):wpAny C.M A (binaryOp .FloorDiv (.int i t) (.int y u)) Q E s:=by
 have z1:=of_decide_eq_true (a0k (a0b h))
 have z2:=a3s (a0e (a0b h))
 refine floordiv_int (by lia) (b3v q Rl (a0c h) _) (.inl ?_)
 unfold Builtin.divisionGoesByPylong
 simp only [decide_eq_false (b1t z2),Bool.false_and]
theorem binop_snd {op:Operator} (h:binop op x y k=some r) (ok:FmOk C f) (Rl:Rel C B f rs ρ σ g s) (hx:DRep C B g.fz x a) (hy:DRep C B g.fz y b) (q:QDd C B f rs ρ σ g k r Q):wpAny C.M A (binaryOp op a b) Q E s:=by
 induction op with
 | Add=>exact addD_ok h ok Rl hx hy q
 | Sub=>exact subD_ok h ok Rl hx hy q
 | Mult=>exact mulD_ok h ok Rl hx hy q
 | FloorDiv=>induction a1e h hx with | mk i t h=>induction a1e h hy with | mk j u h=>exact fdiv_ok q Rl h
 | Mod=>induction a1e h hx with | mk i t h=>induction a1e h hy with | mk j u h=>exact mod_int' (by have:=of_decide_eq_true (a0b h);lia) (b3v q Rl (a0c h) _)
 | Pow=>induction a1e h hx with | mk i t h=>induction a1e h hy with | mk j u h=>exact pow_int_small (of_decide_eq_true (a0k (a0k (a0b h)))) (by have:=of_decide_eq_true (a0e (a0k (a0b h)));lia) (a3s (a0e (a0b h))) (b3v q Rl (a0c h) _)
 | _=>exact no h
end
end Mine
end
section
namespace Mine
open PySem PySem.W PySem.Spec PySem.Calls PyProof.Rows PySem.SeqAt
theorem ofNat_inj {a b:Nat} (ha:a < 256) (hb:b < 256) (h:UInt8.ofNat a=UInt8.ofNat b):a=b:=by
 have:=congrArg UInt8.toNat h
 simp only [UInt8.toNat_ofNat'] at this
 rwa [Nat.mod_eq_of_lt (show a < 2 ^ 8 from ha),Nat.mod_eq_of_lt (show b < 2 ^ 8 from hb)] at this
theorem map_inj {a b:List Nat} (ha:∀ x∈a,x < 256) (hb:∀ x∈b,x < 256) (h:a.map UInt8.ofNat=b.map UInt8.ofNat):a=b:=by
 induction a generalizing b with
 | nil=>cases b <;> first | rfl | cases h
 | cons x xs ih =>
  induction b using aK with
  | nil=>cases h
  | cons y ys =>
   simp only [bK,aL.injEq] at h
   rw [ofNat_inj (ha x (by simp)) (hb y (by simp)) h.1,ih (fun z hz=>ha z (by simp [hz])) (fun z hz=>hb z (by simp [hz])) h.2]
theorem natsEq_beq {a b:List Nat}:a3r a b=(a==b):=by rw [aB,natsEq_iff];simp
theorem toBA_beq {a b:List Nat} (ha:∀ x∈a,x < 256) (hb:∀ x∈b,x < 256):((toBA a).toList==(toBA b).toList)=a3r a b:=by
 rw [natsEq_beq,aB]
 simp only [toBA,beq_iff_eq]
 exact ⟨fun h=>map_inj ha hb h,fun h=>by rw [h]⟩
theorem rc_bytes {A:Around} {s:Shared} (a:Array UInt8) (t:Tok) (b:Array UInt8) (u:Tok):RcAt A s (.bytes a t) (.bytes b u) (a.toList==b.toList):=fun prog w E Q h=>PySem.W.eq_bytes h
theorem a9g {A:Around} {s:Shared} (a:Array UInt8) (t:Tok) (b:Array UInt8) (u:Tok):EqAt A s (.bytes a t) (.bytes b u) (a.toList==b.toList):=fun prog w E Q h=>by
 unfold eqBool
 refine wpAny_holding ?_
 refine wpAny_ite_split (fun hab => ?_) (fun z0 => ?_)
 ·have e:=eq_of_beq hab
  injection e with e1 e2
  subst e1
  exact wpAny_bind (wpAny_rule (wpAny_pure (by simpa using h)))
 ·exact wpAny_bind (rc_bytes a t b u prog w E _ (wpAny_truthy_bool h))
theorem nob {P:Prop} (h:false=true):P:=nomatch h
theorem b0k {f:D→D→Bool}:∀ {xs ys:List D},a1o f xs ys=true→xs.length=ys.length
 | [],[],_=>rfl
 | [],_::_,h=>nob h
 | _::_,[],h=>nob h
 | a::x,b::y,h=>by
  have h:cond (f a b) (a1o f x y) false=true:=h
  cases hc:f a b with
  | false=>rw [hc] at h;exact nob h
  | true=>rw [hc] at h;exact congrArg (· + 1) (b0k (xs:=x) h)
theorem b3w {f:D→D→Bool}:∀ {xs ys:List D},a1o f xs ys=true→∀ j,j < xs.length→f (xs.getD j default) (ys.getD j default)=true
 | [],_,_,j,h=>absurd h (Nat.not_lt_zero _)
 | _::_,[],h,_,_=>nob h
 | a::x,b::y,h,j,hj=>by
  have h:cond (f a b) (a1o f x y) false=true:=h
  cases hc:f a b with
  | false=>rw [hc] at h;exact nob h
  | true =>
   rw [hc] at h
   induction j using cK with
   | zero=>exact hc
   | succ j=>exact b3w (xs:=x) (ys:=y) h j (Nat.lt_of_succ_lt_succ hj)
theorem a6t:∀ (xs ys:List D),xs.length=ys.length→deqs xs ys=(cE xs.length).all (fun j=>deq (xs.getD j default) (ys.getD j default))
 | [],[],_=>rfl
 | [],_::_,h=>nomatch h
 | _::_,[],h=>nomatch h
 | a::x,b::y,h=>by
  have ih:=a6t x y (Nat.succ.inj h)
  show (bif deq a b then deqs x y else false)=_
  rw [ih,bE,List.range_succ_eq_map,List.all_cons,List.all_map]
  cases hd:deq a b with
  | true=>simp [hd,Function.comp_def]
  | false=>simp [hd]
section
variable {C:Cx} {B:Buf} {fz:List (Addr×Obj)}
inductive Two (C:Cx) (B:Buf) (fz:List (Addr×Obj)) (P:List D→List D→Prop):D→D→Value→Value→Prop
 | int (i j:Int) (t u:Tok):Two C B fz P (.int i) (.int j) (.int i t) (.int j u)
 | str (i j:Str) (t u:Tok):Two C B fz P (.str i) (.str j) (.str i t) (.str j u)
 | bytes (i j:List Nat) (t u:Tok):(∀ x∈i,x < 256)→(∀ x∈j,x < 256)→Two C B fz P (.bytes i) (.bytes j) (.bytes (toBA i) t) (.bytes (toBA j) u)
 | tup (xs ys:List D) (vs us:List Value) (a b:Addr) (o o2:Obj) (n n2:Nat):P xs ys→C.Kn fz a o→o.cls = .type "tuple" → o.data = .seq vs.toArray n→DReps C B fz xs vs→C.Kn fz b o2→o2.cls = .type "tuple" → o2.data = .seq us.toArray n2→DReps C B fz ys us→Two C B fz P (.tup xs) (.tup ys) (.ref a) (.ref b)
 | lst (xs ys:List D) (vs us:List Value) (a b:Addr) (n n2:Nat):P xs ys→C.Kn fz a (W.listOf vs.toArray n)→DReps C B fz xs vs→C.Kn fz b (W.listOf us.toArray n2)→DReps C B fz ys us→Two C B fz P (.lst xs) (.lst ys) (.ref a) (.ref b)
theorem two_of {n:Nat} {x y:D} {a b:Value} (h:a1l (n+1) x y=true) (hx:DRep C B fz x a) (hy:DRep C B fz y b):Two C B fz (fun xs ys=>a1o (a1l n) xs ys=true) x y a b:=by
 induction x using D.casesOn with
 | int i=>induction y using D.casesOn with
  | int j=>induction hx with | mk t=>induction hy with | mk u=>exact .int i j t u
  | _=>exact nob h
 | str i=>induction y using D.casesOn with
  | str j=>induction hx with | mk t=>induction hy with | mk u=>exact .str i j t u
  | _=>exact nob h
 | bytes i=>induction y using D.casesOn with
  | bytes j=>induction hx with | mk t l1=>induction hy with | mk u l2=>exact .bytes i j t u l1 l2
  | _=>exact nob h
 | tup xs=>induction y using D.casesOn with
  | tup ys=>induction hx with | mk vs a o n k1 k2 k3 k4=>induction hy with | mk us b o2 n2 k5 k6 k7 k8=>exact .tup xs ys vs us a b o o2 n n2 h k1 k2 k3 k4 k5 k6 k7 k8
  | _=>exact nob h
 | lst xs=>induction y using D.casesOn with
  | lst ys=>induction hx with | mk vs a n k1 k4=>induction hy with | mk us b n2 k5 k8=>exact .lst xs ys vs us a b n n2 h k1 k4 k5 k8
  | _=>exact nob h
 | _=>exact nob h
end
section
variable {C:Cx} {B:Buf} {f:Fm} {rs:List (Addr×Obj)} {ρ:Loc} {σ:St} {g:G} {s:Shared}
theorem b1u {n:Nat} {xs ys:List D} {vs us:List Value} (ih:∀ (x y:D) (v:Value),DRep C B g.fz x v→DRep C B g.fz y v→a1l n x y=true→deq x y=true) (e:vs=us) (rx:DReps C B g.fz xs vs) (ry:DReps C B g.fz ys us) (hc:a1o (a1l n) xs ys=true):deqs xs ys=true:=by
 subst e
 have hl:=b0k hc
 rw [a6t _ _ hl]
 refine aF.mpr fun j hj => ?_
 have hj:=List.mem_range.mp hj
 refine exa ?_ (rx.get j hj);rintro v1 e1 r1
 refine exa ?_ (ry.get j (hl▸hj));rintro v2 e2 r2
 rw [e1] at e2
 have e2:v1=v2:=Option.some.inj e2
 exact ih _ _ v1 r1 (e2▸r2) (b3w hc j hj)
theorem seq_inj {o:Obj} {vs us:List Value} {n m:Nat} (h1:o.data = .seq vs.toArray n) (h2:o.data = .seq us.toArray m):vs=us:=by
 rw [h1] at h2
 injection h2 with h
 simpa using h
theorem eq_same (ok:FmOk C f) (Rl:Rel C B f rs ρ σ g s):∀ (n:Nat) (x y:D) (v:Value),DRep C B g.fz x v→DRep C B g.fz y v→a1l n x y=true→deq x y=true:=by
 intro x_
 induction x_ with
 | zero =>
  intro _ _ _ _ _ h
  exact nob h
 | succ n IH_ =>
  intro x y v hx hy h
  generalize hw:v=w at hy
  induction two_of h hx hy with
  | int i j t u=>injection hw with e;exact decide_eq_true e
  | str i j t u=>injection hw with e;exact seq_iff.mpr e
  | bytes i j t u l1 l2 =>
   injection hw with e
   exact natsEq_iff.mpr (map_inj l1 l2 (by simpa [toBA] using congrArg Array.toList e))
  | tup xs ys vs us a b o o2 m m2 hp k1 k2 k3 k4 k5 k6 k7 k8 =>
   injection hw with e
   have e1:=Rl.kn ok k1
   rw [e,Rl.kn ok k5] at e1
   have e1:o2=o:=Option.some.inj e1
   exact b1u (IH_) (seq_inj k3 (e1▸k7)) k4 k8 hp
  | lst xs ys vs us a b m m2 hp k1 k4 k5 k8 =>
   injection hw with e
   have e1:=Rl.kn ok k1
   rw [e,Rl.kn ok k5] at e1
   have e1:W.listOf us.toArray m2=W.listOf vs.toArray m:=Option.some.inj e1
   exact b1u (IH_) (seq_inj (o:=W.listOf vs.toArray m) (n:=m) (m:=m2) rfl (congrArg Obj.data e1.symm)) k4 k8 hp
structure Rc3 (A:Around) (s:Shared) (a b:Value) (q:Bool):Prop where
 rc:RcAt A s a b q
 eq:EqAt A s a b q
 ne:RcNeAt A s a b (!q)
theorem part_at {A:Around} {n:Nat} {xs ys:List D} {vs us:List Value} (ih:∀ (x y:D) (a b:Value),DRep C B g.fz x a→DRep C B g.fz y b→a1l n x y=true→EqAt A s a b (deq x y)) (rx:DReps C B g.fz xs vs) (ry:DReps C B g.fz ys us) (hc:a1o (a1l n) xs ys=true) :
  ∀ j (h1:j < vs.toArray.size) (h2:j < us.toArray.size),EqAt A s vs.toArray[j] us.toArray[j] (deq (xs.getD j default) (ys.getD j default)):=by
 intro j h1 h2
 have l1:=rx.length
 have l2:=ry.length
 rw [cG] at h1 h2
 refine exa ?_ (rx.get j (l1▸h1));rintro v1 e1 r1
 refine exa ?_ (ry.get j (l2▸h2));rintro v2 e2 r2
 have f1:vs.toArray[j]=v1:=by
  refine xE ?_ (List.getElem_of_getElem? e1);rintro _ this;simpa using this
 have f2:us.toArray[j]=v2:=by
  refine xE ?_ (List.getElem_of_getElem? e2);rintro _ this;simpa using this
 rw [f1,f2]
 exact ih _ _ v1 v2 r1 r2 (b3w hc j (l1▸h1))
theorem b0l (ok:FmOk C f) (Rl:Rel C B f rs ρ σ g s):∀ (n:Nat) (A:Around) (x y:D) (a b:Value),A.units+n < cLine→DRep C B g.fz x a→DRep C B g.fz y b→a1l n x y=true→Rc3 A s a b (deq x y):=by
 intro x_
 induction x_ with
 | zero =>
  intro _ _ _ _ _ _ _ _ h
  exact nob h
 | succ n IH_ =>
  intro A x y a b hu hx hy h
  have ih:∀ (x y:D) (a b:Value),DRep C B g.fz x a→DRep C B g.fz y b→a1l n x y=true→EqAt A.in1 s a b (deq x y):=fun x y a b hx hy h=>(IH_ A.in1 x y a b (by show A.units+1+n < _;lia) hx hy h).eq
  have refs:∀ l l2,a = .ref l→b = .ref l2→RcAt A s a b (deq x y)→EqAt A s a b (deq x y):=by
   intro l l2 e1 e2 r
   by_cases e:l=l2
   ·have e3:a=b:=by rw [e1,e2,e]
    rw [eq_same ok Rl (n+1) x y a hx (e3▸hy) h,e3]
    exact EqAt.same _
   ·rw [e1,e2] at r ⊢
    exact EqAt.of_refs e r
  have hu':A.units < cLine:=by lia
  induction two_of h hx hy with
  | int i j t u=>exact ⟨RcAt.int_int i t j u,EqAt.int_int i t j u,RcNeAt.int_int i t j u⟩
  | str i j t u =>
   have e:deq (.str i) (.str j)=(i==j):=a2m i j
   rw [e]
   exact ⟨RcAt.str_str i t j u,EqAt.str_str i t j u,fun prog w E Q h=>PyProof.Rows.ne_str h⟩
  | bytes i j t u l1 l2 =>
   have e:deq (.bytes i) (.bytes j)=((toBA i).toList==(toBA j).toList):=(toBA_beq l1 l2).symm
   rw [e]
   exact ⟨rc_bytes _ t _ u,a9g _ t _ u,fun prog w E Q h=>PySem.W.ne_bytes h⟩
  | tup xs ys vs us l l2 o o2 m m2 hp k1 k2 k3 k4 k5 k6 k7 k8 =>
   have t1:s.heap.IsTuple l vs.toArray:=⟨o,Rl.kn ok k1,k2,m,k3⟩
   have t2:s.heap.IsTuple l2 us.toArray:=⟨o2,Rl.kn ok k5,k6,m2,k7⟩
   have q:=part_at ih k4 k8 hp
   have hl:=b0k hp
   have e:((cE (min vs.toArray.size us.toArray.size)).all (fun j=>deq (xs.getD j default) (ys.getD j default))&&vs.toArray.size==us.toArray.size)=deq (.tup xs) (.tup ys):=by
    show _=deqs xs ys
    rw [a6t _ _ hl,cG,cG,← k4.length,← k8.length,hl,Nat.min_self,beq_self_eq_true,Bool.and_true]
   have rc:=RcAt.tuples t1 t2 hu' q
   have ne:=RcNeAt.tuples t1 t2 hu' q
   rw [e] at rc ne
   exact ⟨rc,refs l l2 rfl rfl rc,ne⟩
  | lst xs ys vs us l l2 m m2 hp k1 k4 k5 k8 =>
   have t1:=a0r (Rl.kn ok k1)
   have t2:=a0r (Rl.kn ok k5)
   have q:=part_at ih k4 k8 hp
   have hl:=b0k hp
   have hs:vs.toArray.size=us.toArray.size:=by rw [cG,cG,← k4.length,← k8.length,hl]
   have e:(cE vs.toArray.size).all (fun j=>deq (xs.getD j default) (ys.getD j default))=deq (.lst xs) (.lst ys):=by
    show _=deqs xs ys
    rw [a6t _ _ hl,cG,← k4.length]
   have rc:=RcAt.lists t1 t2 hs hu' q
   have ne:=RcNeAt.lists t1 t2 hs hu' q
   rw [e] at rc ne
   exact ⟨rc,refs l l2 rfl rfl rc,ne⟩
end
end Mine
end
section
namespace Mine
open PySem PySem.W PySem.Spec PySem.Calls PyProof.Rows PySem.SeqAt
inductive All2 {α:Type} (P:α→Value→Prop):List α→List Value→Prop
 | nil:All2 P [] []
 | cons (a:α) (v:Value) (r:List α) (vs:List Value):P a v→All2 P r vs→All2 P (a::r) (v::vs)
inductive PInt:Int→Value→Prop | mk (i:Int) (t:Tok):PInt i (.int i t)
inductive PStr:Str→Value→Prop | mk (i:Str) (t:Tok):PStr i (.str i t)
inductive PByt:List Nat→Value→Prop | mk (i:List Nat) (t:Tok):(∀ x∈i,x < 256)→PByt i (.bytes (toBA i) t)
section
variable {C:Cx} {B:Buf} {fz:List (Addr×Obj)} {α:Type}
theorem int_is {x:D} {i:Int} {v:Value} (h:int? x=some i) (hx:DRep C B fz x v):PInt i v:=by
 induction x using D.casesOn with
 | int j=>induction hx with | mk t=>cases h;exact .mk _ t
 | _=>exact no h
theorem str_is {x:D} {i:Str} {v:Value} (h:str? x=some i) (hx:DRep C B fz x v):PStr i v:=by
 induction x using D.casesOn with
 | str j=>induction hx with | mk t=>cases h;exact .mk _ t
 | _=>exact no h
theorem byt_is {x:D} {i:List Nat} {v:Value} (h:byt? x=some i) (hx:DRep C B fz x v):PByt i v:=by
 induction x using D.casesOn with
 | bytes j=>induction hx with | mk t l=>cases h;exact .mk _ t l
 | _=>exact no h
theorem picks {f:D→Option α} {P:α→Value→Prop} (hP:∀ {x:D} {i:α} {v:Value},f x=some i→DRep C B fz x v→P i v):∀ {xs:List D} {vs:List Value} {is:List α},pickL f xs=some is→DReps C B fz xs vs→All2 P is vs:=by
 intro x_
 induction x_ with
 | nil =>
  intro _ _ h r
  subst r;cases h;exact .nil
 | cons x xs IH_ =>
  intro _ is h r
  induction r with | mk v vs hv hr =>
  have h:(match f x with | some i=>(pickL f xs).map (i::·) | none=>none)=some is:=h
  cases e:f x with
  | none=>rw [e] at h;exact no h
  | some i =>
   rw [e] at h
   cases e2:pickL f xs with
   | none=>rw [e2] at h;exact no h
   | some js =>
    rw [e2] at h
    have h_:=Option.some.inj h;subst h_
    exact .cons _ _ _ _ (hP e hv) (IH_ e2 hr)
theorem All2.any {P:α→Value→Prop} {e:Value→Bool} {f:α→Bool} (h:∀ a v,P a v→e v=f a) {is:List α} {vs:List Value} (r:All2 P is vs):vs.any e=is.any f:=by
 induction r with
 | nil=>rfl
 | cons a v r vs p _ ih=>rw [aG,aG,ih,h a v p]
theorem All2.mem {P:α→Value→Prop} {is:List α} {vs:List Value} (r:All2 P is vs) {y:Value} (hy:y∈vs):∃ a,P a y:=by
 induction r with
 | nil=>exact absurd hy cB
 | cons a v r vs p _ ih=>exact (bP.mp hy).elim (fun e=>⟨a,e▸p⟩) ih
noncomputable def MemAt (A:Around) (s:Shared) (val:Value) (vs:List Value) (q:Bool):Prop:=∃ e:Value→Bool,(∀ y∈vs.toArray,EqAt A s y val (e y))∧vs.toArray.any e=q
theorem mem_of {A:Around} {s:Shared} {val:Value} {vs:List Value} {q:Bool} {P:α→Value→Prop} {e:Value→Bool} {f:α→Bool} {o:Option (List α)} (h:anyOf o f=some q) (hp:∀ is,o=some is→All2 P is vs) (he:∀ a v,P a v→e v=f a) (hq:∀ a v,P a v→EqAt A s v val (e v)):MemAt A s val vs q:=by
 induction o with
 | none=>exact no h
 | some is =>
  have r:=hp is rfl
  have h_:=Option.some.inj h;subst h_
  refine ⟨e,fun y hy => ?_,?_⟩
  ·refine xE ?_ (r.mem (List.mem_toArray.mp hy));rintro a p
   exact hq a y p
  ·rw [List.any_toArray];exact r.any he
noncomputable def eI (i:Int) (v:Value):Bool:=match v with | .int j _=>j==i | _=>false
noncomputable def eS (i:Str) (v:Value):Bool:=match v with | .str j _=>j==i | _=>false
noncomputable def eB (i:List Nat) (v:Value):Bool:=match v with | .bytes j _=>j.toList==(toBA i).toList | _=>false
theorem mem_rep {A:Around} {s:Shared} {a:D} {val:Value} {xs:List D} {vs:List Value} {q:Bool} (h:memD a xs=some q) (ha:DRep C B fz a val) (hr:DReps C B fz xs vs):MemAt A s val vs q:=by
 induction a using D.casesOn with
 | int i=>induction ha with | mk t =>
  exact mem_of (e:=eI i) (P:=PInt) h (fun z0 e=>picks int_is e hr) (fun a v p=>by induction p with | mk u=>rfl) (fun a v p=>by induction p with | mk u=>exact EqAt.int_int _ u i t)
 | str i=>induction ha with | mk t =>
  exact mem_of (e:=eS i) (P:=PStr) h (fun z0 e=>picks str_is e hr) (fun a v p=>by induction p with | mk u=>exact (a2m _ _).symm) (fun a v p=>by induction p with | mk u=>exact EqAt.str_str _ u i t)
 | bytes i=>induction ha with | mk t l =>
  exact mem_of (e:=eB i) (P:=PByt) h (fun z0 e=>picks byt_is e hr) (fun a v p=>by induction p with | mk u l2=>exact toBA_beq l2 l) (fun a v p=>by induction p with | mk u l2=>exact a9g _ u _ t)
 | _=>exact no h
theorem KVI.value:∀ {es:List (D×D)} {kvs:List (Int×Value)},KVI C B fz es kvs→∀ i:Int,(dhas (.int i) es=true→∃ v,valueAt kvs i=some v∧DRep C B fz (a2k (.int i) es) v)∧(dhas (.int i) es=false→valueAt kvs i=none)
 | [],_,h,i=>by subst h;exact ⟨nob,fun z0=>rfl⟩
 | (x,d)::es,_,h,i=>by
  induction x using D.casesOn with
  | int j =>
   induction h with | mk v kvs hx hr =>
   have ih:=KVI.value (es:=es) hr i
   by_cases hji:j=i
   ·subst hji
    have e:keq (.int j) (.int j)=true:=decide_eq_true rfl
    rw [a9e,a4i]
    unfold valueAt
    rw [e,List.find?_cons]
    simp only [beq_self_eq_true]
    exact ⟨fun z0=>⟨v,rfl,hx⟩,fun e=>(nob e.symm)⟩
   ·have e:keq (.int j) (.int i)=false:=decide_eq_false hji
    have e2:valueAt ((j,v)::kvs) i=valueAt kvs i:=by unfold valueAt;rw [List.find?_cons_of_neg (by simpa using hji)]
    rw [a9e,a4i]
    rw [e,e2]
    exact ih
  | _=>exact h.elim
theorem KVS.value:∀ {es:List (D×D)} {kvs:List (Str×Value)},KVS C B fz es kvs→∀ i:Str,(dhas (.str i) es=true→∃ v,valueAt kvs i=some v∧DRep C B fz (a2k (.str i) es) v)∧(dhas (.str i) es=false→valueAt kvs i=none)
 | [],_,h,i=>by subst h;exact ⟨nob,fun z0=>rfl⟩
 | (x,d)::es,_,h,i=>by
  induction x using D.casesOn with
  | str j =>
   induction h with | mk v kvs hx hr =>
   have ih:=KVS.value (es:=es) hr i
   by_cases hji:j=i
   ·subst hji
    have e:keq (.str j) (.str j)=true:=seq_iff.mpr rfl
    rw [a9e,a4i]
    unfold valueAt
    rw [e,List.find?_cons]
    simp only [beq_self_eq_true]
    exact ⟨fun z0=>⟨v,rfl,hx⟩,fun e=>(nob e.symm)⟩
   ·have e:keq (.str j) (.str i)=false:=by rw [← Bool.not_eq_true];exact fun e=>hji (seq_iff.mp e)
    have e2:valueAt ((j,v)::kvs) i=valueAt kvs i:=by unfold valueAt;rw [List.find?_cons_of_neg (by simpa using hji)]
    rw [a9e,a4i]
    rw [e,e2]
    exact ih
  | _=>exact h.elim
inductive MapAt (C:Cx) (B:Buf) (fz:List (Addr×Obj)) (h:Heap) (d:Addr) (es:List (D×D)) (x:D) (key:Value):Prop
 | mk (K:Type) (dk:DecidableEq K) (knd:PySem.KeyKind C.prog C.w K) (k:K) (F:K→Option Value):knd.is k key=true→Heap.MapOf knd h d F→(dhas x es=true→∃ v,F k=some v∧DRep C B fz (a2k x es) v)→(dhas x es=false→F k=none)→MapAt C B fz h d es x key
theorem ki_no {x:D} {d:D} {es:List (D×D)} {kvs:List (Str×Value)} (h:KVS C B fz ((x,d)::es) kvs):isI x=false:=by
 induction x using D.casesOn with
 | int _=>exact h.elim
 | _=>rfl
theorem ks_no {x:D} {d:D} {es:List (D×D)} {kvs:List (Int×Value)} (h:KVI C B fz ((x,d)::es) kvs):isS x=false:=by
 induction x using D.casesOn with
 | str _=>exact h.elim
 | _=>rfl
theorem DictRep.map {es:List (D×D)} {o:Obj} {x:D} {key:Value} {h:Heap} {d:Addr} (hr:DictRep C B fz es o) (hk:keysOk x es=true) (hx:DRep C B fz x key) (hg:h.get? d=some o):MapAt C B fz h d es x key:=by
 induction x using D.casesOn with
 | int i =>
  induction hx with | mk t =>
  have go:∀ kvs,o.IsDictOf (PySem.intKind C.prog C.w) kvs→KVI C B fz es kvs→MapAt C B fz h d es (.int i) (.int i t):=fun kvs a r =>
   .mk Int inferInstance (PySem.intKind C.prog C.w) i _ (intKind_is _ _ _ _) (Heap.dictOf_iff.mpr ⟨_,hg,a⟩).mapOf (KVI.value r i).1 (KVI.value r i).2
  induction hr with
  | empty e a b=>subst e;exact go [] a rfl
  | «ints» kvs n a r=>exact go kvs a r
  | «strs» kvs n a r =>
   induction es using aK with
   | nil=>exact absurd rfl n
   | cons p es=>obtain ⟨x,y⟩:=p;exact nob ((ki_no r).symm.trans (a0k hk))
 | str i =>
  induction hx with | mk t =>
  have go:∀ kvs,o.IsDictOf (PySem.strKind C.prog C.w) kvs→KVS C B fz es kvs→MapAt C B fz h d es (.str i) (.str i t):=fun kvs a r =>
   .mk Str inferInstance (PySem.strKind C.prog C.w) i _ (strKind_is _ _ _ _) (Heap.dictOf_iff.mpr ⟨_,hg,a⟩).mapOf (KVS.value r i).1 (KVS.value r i).2
  induction hr with
  | empty e a b=>subst e;exact go [] b rfl
  | «strs» kvs n a r=>exact go kvs a r
  | «ints» kvs n a r =>
   induction es using aK with
   | nil=>exact absurd rfl n
   | cons p es=>obtain ⟨x,y⟩:=p;exact nob ((ks_no r).symm.trans (a0k hk))
 | _=>exact nob hk
end
section
variable {C:Cx} {B:Buf} {f:Fm} {rs:List (Addr×Obj)} {ρ:Loc} {σ:St} {g:G} {s:Shared} {E:Value→Shared→Prop} {A:Around}
variable {k:Bool→Option R} {x y:D} {a b:Value} {Q:Value→Shared→Prop}
theorem dict_in {es:List (D×D)} {o:Obj} {key:Value} {d:Addr} (hr:DictRep C B g.fz es o) (hk:keysOk x es=true) (hx:DRep C B g.fz x key) (hg:s.heap.get? d=some o) (hd:(d==sysModules)=false)
  (h:Q (.bool (dhas x es)) { s with toks:=s.toks+1 }):wpAny C.M A (compareOp .In key (.ref d)) Q E s:=by
 induction hr.map hk hx hg with | mk K dk knd k F h1 h2 h3 h4 =>
 refine wpAny_in_of h1 hd h2 ?_
 cases e:dhas x es with
 | true=>refine exa ?_ (h3 e);rintro v hv _;rw [hv];rw [e] at h;exact h
 | false=>rw [h4 e];rw [e] at h;exact h
noncomputable abbrev QBo (C:Cx) (B:Buf) (f:Fm) (rs:List (Addr×Obj)) (ρ:Loc) (σ:St) (g:G) (k:Bool→Option R) (r:R) (Q:Value→Shared→Prop):Prop :=
 ∀ c s',k c=some r→Rel C B f rs ρ σ g s'→Q (.bool c) s'
theorem eqD_ok (h:eqD x y k=some r) (ok:FmOk C f) (hu:A.units+100 < cLine) (Rl:Rel C B f rs ρ σ g s) (hx:DRep C B g.fz x a) (hy:DRep C B g.fz y b) (q:QBo C B f rs ρ σ g k r Q):wpAny C.M A (compareOp .Eq a b) Q E s :=
 (b0l ok Rl 60 A x y a b (by lia) hx hy (a0b h)).rc _ _ _ _ (q _ _ (a0c h) Rl)
theorem neD_ok (h:(eqD x y fun q=>k (!q))=some r) (ok:FmOk C f) (hu:A.units+100 < cLine) (Rl:Rel C B f rs ρ σ g s) (hx:DRep C B g.fz x a) (hy:DRep C B g.fz y b) (q:QBo C B f rs ρ σ g k r Q):wpAny C.M A (compareOp .NotEq a b) Q E s :=
 (b0l ok Rl 60 A x y a b (by lia) hx hy (a0b h)).ne _ _ _ _ (q _ _ (a0c h) Rl)
theorem pos_eq {l l2:List Nat} {o o2:Nat} {i j:Int} (p:a3d B l o i) (p2:a3d B l2 o2 j):Nat.beq (l.length+o2) (l2.length+o)=decide (i=j):=by
 have e1:=p.1;have e2:=p2.1
 rw [aB,Nat.beq_eq,decide_eq_true_eq]
 lia
theorem eqP_ok (h:eqP x y k=some r) (ok:FmOk C f) (hu:A.units+100 < cLine) (Rl:Rel C B f rs ρ σ g s) (hx:DRep C B g.fz x a) (hy:DRep C B g.fz y b) (q:QBo C B f rs ρ σ g k r Q):wpAny C.M A (compareOp .Eq a b) Q E s:=by
 induction x using D.casesOn with
 | pos l o=>induction hx with | mk i t p=>induction b1r h hy with | mk l2 o2 j u p2 h =>
  rw [pos_eq p p2] at h
  exact eq_int (q _ _ h Rl)
 | _=>exact eqD_ok h ok hu Rl hx hy q
theorem isE (F:Option R) (h:onE y F=some r) (hy:DRep C B g.fz y b):(∃ t,b = .int B.e t)∧F=some r:=by
 induction y using D.casesOn with
 | endp w=>induction hy with | mk t _=>exact ⟨⟨t,rfl⟩,h⟩
 | _=>exact no h
theorem pos_lt {l:List Nat} {o:Nat} {i:Int} (p:a3d B l o i):(!l.isEmpty)=decide (i < B.e):=by
 revert p;refine eaaa ?_;rintro e1 e2 e3 _
 rw [aB,decide_eq_true_eq]
 induction l using aK with
 | nil=>simp at e1 ⊢;lia
 | cons c l =>
  have:o=0:=Classical.byContradiction fun e=>by cases e2 e
  subst this;simp at e1 ⊢;lia
theorem pos_le {l:List Nat} {o:Nat} {i:Int} (p:a3d B l o i):(!l.isEmpty||Nat.beq o 0)=decide (i≤B.e):=by
 revert p;refine eaaa ?_;rintro e1 e2 e3 _
 rw [aB,decide_eq_true_eq,Bool.or_eq_true,Nat.beq_eq]
 induction l using aK with
 | nil=>simp at e1 ⊢;lia
 | cons c l =>
  have:o=0:=Classical.byContradiction fun e=>by cases e2 e
  subst this;simp at e1 ⊢;lia
theorem ltD_ok (h:ltD x y k=some r) (Rl:Rel C B f rs ρ σ g s) (hx:DRep C B g.fz x a) (hy:DRep C B g.fz y b) (q:QBo C B f rs ρ σ g k r Q):wpAny C.M A (compareOp .Lt a b) Q E s:=by
 induction x using D.casesOn with
 | int i=>induction hx with | mk t=>induction a1e h hy with | mk j u h=>exact PyProof.Rows.lt_int (q _ _ h Rl)
 | pos l o=>induction hx with | mk i t p =>
  refine aE ?_ (isE _ h hy);rintro ⟨u,rfl⟩ h
  rw [pos_lt p] at h
  exact PyProof.Rows.lt_int (q _ _ h Rl)
 | endp w=>induction hx with | mk t p=>induction a1e h hy with | mk j u h =>
  refine PyProof.Rows.lt_int (q _ _ ?_ Rl)
  rw [decide_eq_false (by have:=of_decide_eq_true (a0b h);lia)]
  exact a0c h
 | _=>exact no h
theorem leD_ok (h:leD x y k=some r) (Rl:Rel C B f rs ρ σ g s) (hx:DRep C B g.fz x a) (hy:DRep C B g.fz y b) (q:QBo C B f rs ρ σ g k r Q):wpAny C.M A (compareOp .LtE a b) Q E s:=by
 induction x using D.casesOn with
 | int i=>induction hx with | mk t=>induction a1e h hy with | mk j u h=>exact PyProof.Rows.le_int (q _ _ h Rl)
 | pos l o=>induction hx with | mk i t p =>
  refine aE ?_ (isE _ h hy);rintro ⟨u,rfl⟩ h
  rw [pos_le p] at h
  exact PyProof.Rows.le_int (q _ _ h Rl)
 | _=>exact no h
theorem gtD_ok (h:gtD x y k=some r) (Rl:Rel C B f rs ρ σ g s) (hx:DRep C B g.fz x a) (hy:DRep C B g.fz y b) (q:QBo C B f rs ρ σ g k r Q):wpAny C.M A (compareOp .Gt a b) Q E s:=by
 induction x using D.casesOn with
 | int i=>induction hx with | mk t=>induction a1e h hy with | mk j u h=>exact PyProof.Rows.gt_int (q _ _ h Rl)
 | endp w=>induction hx with | mk t p=>induction y using D.casesOn with
  | blen=>induction hy with | mk u =>
   refine PyProof.Rows.gt_int (q _ _ ?_ Rl)
   rw [decide_eq_false (by have:=B.ok;lia)]
   exact h
  | _=>exact no h
 | _=>exact no h
theorem geD_ok (h:geD x y k=some r) (Rl:Rel C B f rs ρ σ g s) (hx:DRep C B g.fz x a) (hy:DRep C B g.fz y b) (q:QBo C B f rs ρ σ g k r Q):wpAny C.M A (compareOp .GtE a b) Q E s:=by
 induction x using D.casesOn with
 | int i=>induction hx with | mk t=>induction a1e h hy with | mk j u h=>exact PyProof.Rows.ge_int (q _ _ h Rl)
 | pos l o=>induction hx with | mk i t p =>
  refine aE ?_ (isE _ h hy);rintro ⟨u,rfl⟩ h
  refine PyProof.Rows.ge_int (q _ _ ?_ Rl)
  have e:=pos_lt p
  rw [show decide (B.e≤i)=l.isEmpty from by rw [← Bool.not_not (b:=l.isEmpty),e,← decide_not];exact decide_eq_decide.mpr (Int.not_lt.symm)]
  exact h
 | _=>exact no h
theorem b1v {fz:List (Addr×Obj)} (h:DRep C B fz x a):(a==Value.none)=isNone x:=by
 induction x using D.casesOn with
 | none=>subst h;rfl
 | bool _=>subst h;rfl
 | bi _=>subst h;rfl
 | ty _=>subst h;rfl
 | _=>cases h;rfl
theorem onN_is {F:Option R} {fz:List (Addr×Obj)} (h:onN y F=some r) (hy:DRep C B fz y b):b = .none∧F=some r:=by
 induction y using D.casesOn with
 | none=>subst hy;exact ⟨rfl,h⟩
 | _=>exact no h
theorem b3x {A:Around} {fz:List (Addr×Obj)} {xs:List D} {vs:List Value} {k:Bool→Option R} (h:memK x xs k=some r) (hx:DRep C B fz x a) (hr:DReps C B fz xs vs):∃ c,MemAt A s a vs c∧k c=some r:=by
 have h:(match memD x xs with | some q=>k q | none=>none)=some r:=h
 cases hm:memD x xs with
 | none=>rw [hm] at h;exact no h
 | some c=>rw [hm] at h;exact ⟨c,mem_rep hm hx hr,h⟩
theorem b1w {xs:List D} (l:LstAt C B g.fz s.heap xs b) (hx:DRep C B g.fz x a) (h:(memK x xs fun q=>k (!q))=some r) (Rl:Rel C B f rs ρ σ g s) (q:QBo C B f rs ρ σ g k r Q):wpAny C.M A (compareOp .NotIn a b) Q E s:=by
 induction l with | mk vs d n hg hr =>
 refine exa ?_ (b3x (s:=s) (A:=A.in1) h hx hr);rintro c ⟨e,he,hc⟩ h
 exact SeqAt.notIn_listAt e (a0r hg) he (hc▸q _ _ h Rl)
theorem notInD_ok (h:notInD x y k=some r) (ok:FmOk C f) (Rl:Rel C B f rs ρ σ g s) (hx:DRep C B g.fz x a) (hy:DRep C B g.fz y b) (q:QBo C B f rs ρ σ g k r Q):wpAny C.M A (compareOp .NotIn a b) Q E s:=by
 induction y using D.casesOn with
 | tup xs=>induction hy with | mk vs d o n k1 k2 k3 k4 =>
  refine exa ?_ (b3x (s:=s) (A:=A.in1) h hx k4);rintro c ⟨e,he,hc⟩ h
  exact SeqAt.notIn_tupleAt e ⟨o,Rl.kn ok k1,k2,n,k3⟩ he (hc▸q _ _ h Rl)
 | lst xs=>exact b1w (lst_at Rl ok hy) hx h Rl q
 | _=>exact no h
theorem cmpD_snd {op:CmpOp} (h:cmpD op x y k=some r) (ok:FmOk C f) (hu:A.units+100 < cLine) (Rl:Rel C B f rs ρ σ g s)
  (hx:DRep C B g.fz x a) (hy:DRep C B g.fz y b) (q:QBo C B f rs ρ σ g k r Q):wpAny C.M A (compareOp op a b) Q E s:=by
 induction op with
 | Eq=>exact eqP_ok h ok hu Rl hx hy q
 | NotEq=>exact neD_ok h ok hu Rl hx hy q
 | Lt=>exact ltD_ok h Rl hx hy q
 | LtE=>exact leD_ok h Rl hx hy q
 | Gt=>exact gtD_ok h Rl hx hy q
 | GtE=>exact geD_ok h Rl hx hy q
 | Is =>
  refine aE ?_ (onN_is h hy);rintro rfl h
  exact is_none_gen (q _ _ ((b1v hx).symm▸h) Rl)
 | IsNot =>
  refine aE ?_ (onN_is h hy);rintro rfl h
  exact isnot_none_gen (q _ _ ((b1v hx).symm▸h) Rl)
 | In=>induction onT_is h hy with | mk xs vs d o n k1 k2 k3 k4 h =>
  refine exa ?_ (b3x (s:=s) (A:=A.in1) h hx k4);rintro c ⟨e,he,hc⟩ h
  exact SeqAt.in_tupleAt e ⟨o,Rl.kn ok k1,k2,n,k3⟩ he (hc▸q _ _ h Rl)
 | NotIn=>exact notInD_ok h ok Rl hx hy q
end
end Mine
end
section
namespace Mine
open PySem PySem.W PySem.Spec PySem.Calls PyProof.Rows PySem.SeqAt
structure TabsOk (C:Cx):Prop where
 glob:∀ x d,C.T.glob x=some d→x≠("__name__" : Str)∧∀ B,((∃ v,nsIn C.K mainGlobals x=some (some v)∧DRep C B [] d v)∨(nsIn C.K mainGlobals x=some none∧∃ v,bootBuiltins x=some v∧DRep C B [] d v))
 fld:∀ c x,C.T.fld c x=true→plainGet C.K c x=true∧hasDictIn C.K c=true∧(∃ attr,findIn C.K (.ref c) x=some attr∧noGet C.K attr=true) ∧
  findIn C.K (.ref c) "__setattr__" = some (some (.builtin "object.__setattr__"))∧plainOver C.K c=true∧takerIn C.K c x=some none
 meth:∀ c m k,C.T.meth c m=some k→findIn C.K (.ref c) "__getattribute__" = some (some (.builtin "object.__getattribute__"))∧findIn C.K (.ref c) "__getattr__" = some none ∧
  findIn C.K (.ref c) m=some (some (.ref k))∧typeIn C.K (.ref k)=some (.type "function")∧keepIn C.K (.ref k)=true∧∃ o,C.K.lookup k=some o
 cls:∀ c init keep,C.T.cls c=some (init,keep)→makesIn C.K c=true∧findIn C.K (.ref c) "__init__" = some (some (.ref init))∧isFn C.K (.ref init)=true
theorem lookup_mem {α:Type} {x:Str} {k:α}:∀ {l:List (Str×α)},l.lookup x=some k→(x,k)∈l
 | [],h=>nomatch h
 | (y,j)::r,hx=>by
  rw [bH] at hx
  cases e:x==y with
  | true=>rw [e] at hx;cases hx;have:=beq_iff_eq.mp e;subst this;exact .head _
  | false=>rw [e] at hx;exact .tail _ (lookup_mem hx)
theorem namesOk_of {sc:Scope} (h:namesOk sc=true) {x:Str} {k:NameKind} (hx:sc.names.lookup x=some k):(x==("__debug__" : Str))=false∧(x==("__classdict__" : Str))=false:=by
 unfold namesOk at h
 have:(x,k)∈sc.names:=lookup_mem hx
 have:=aF.mp h _ this
 simpa using this
section
variable {C:Cx} {B:Buf} {g:G}
theorem NReps.length:∀ {fs:List (Str×V)} {es:List DictEntry},NReps C B g fs es→fs.length=es.length
 | [],_,h=>by subst h;rfl
 | (_,_)::fs,_,h=>by induction h with | mk v h t es a r=>exact congrArg (· + 1) (NReps.length (fs:=fs) r)
theorem NReps.noRef:∀ {fs:List (Str×V)} {es:List DictEntry},NReps C B g fs es→es.any (·.refKey)=false
 | [],_,h=>by subst h;rfl
 | (_,_)::fs,_,h=>by induction h with | mk v h t es a r=>rw [aG,NReps.noRef (fs:=fs) r];rfl
inductive Fnd (C:Cx) (B:Buf) (g:G) (x:Str) (es:List DictEntry):Option V→Prop
 | none:es.find? (·.key.isStr x)=none→Fnd C B g x es none
 | some (d:V) (e:DictEntry):es.find? (·.key.isStr x)=some e→VRep C B g d e.val→Fnd C B g x es (some d)
theorem NReps.find (x:Str):∀ {fs:List (Str×V)} {es:List DictEntry},NReps C B g fs es→Fnd C B g x es (lk x fs)
 | [],_,h=>by subst h;exact .none rfl
 | (y,d)::fs,_,h=>by
  induction h with | mk v h t es a r =>
  have ih:=NReps.find x (fs:=fs) r
  have e:(Value.str y t).isStr x=seq x y:=by rw [a2m];exact aB.mpr ⟨fun h=>beq_iff_eq.mpr (beq_iff_eq.mp h).symm,fun h=>beq_iff_eq.mpr (beq_iff_eq.mp h).symm⟩
  show Fnd C B g x _ (bif seq x y then some d else lk x fs)
  cases hxy:seq x y with
  | true =>
   rw [hxy] at e
   exact .some d _ (List.find?_cons_of_pos e) a
  | false =>
   rw [hxy] at e
   have e2:(DictEntry.mk h (.str y t) v::es).find? (·.key.isStr x)=es.find? (·.key.isStr x):=List.find?_cons_of_neg (by show ¬ (Value.str y t).isStr x=true;rw [e];exact Bool.false_ne_true)
   show Fnd C B g x _ (lk x fs)
   generalize lk x fs=o at ih
   induction ih with
   | none h1=>exact .none (e2.trans h1)
   | some d e h1 h2=>exact .some d e (e2.trans h1) h2
inductive GetL (C:Cx) (B:Buf) (g:G) (x:Str) (es:List DictEntry):Option V→Prop
 | none:W.getL x es=some none→GetL C B g x es none
 | some (d:V) (v:Value):W.getL x es=some (some v)→VRep C B g d v→GetL C B g x es (some d)
theorem NReps.getL {fs:List (Str×V)} {es:List DictEntry} (x:Str) (r:NReps C B g fs es):GetL C B g x es (lk x fs):=by
 have h:=r.find x
 generalize lk x fs=o at h
 induction h with
 | none h=>exact .none (by unfold W.getL;rw [h];dsimp only;rw [r.noRef];rfl)
 | some d e h1 h2=>exact .some d _ (by unfold W.getL;rw [h1]) h2
theorem NReps.put {x:Str} {v:V} {val:Value} {hs:Int} {t:Tok} (hv:VRep C B g v val):∀ {fs:List (Str×V)} {es:List DictEntry},NReps C B g fs es→NReps C B g (Mine.put x v fs) (putL x hs (.str x t) val es)
 | [],_,h=>by subst h;exact .cons _ _ _ _ _ _ _ hv .nil
 | (y,d)::fs,_,h=>by
  induction h with | mk u h tt es a r =>
  have ih:=NReps.put (x:=x) (hs:=hs) (t:=t) hv (fs:=fs) r
  have e:(Value.str y tt).isStr x=seq x y:=by rw [a2m];exact aB.mpr ⟨fun h=>beq_iff_eq.mpr (beq_iff_eq.mp h).symm,fun h=>beq_iff_eq.mpr (beq_iff_eq.mp h).symm⟩
  show NReps C B g (bif seq x y then (y,v)::fs else (y,d)::Mine.put x v fs) (if (Value.str y tt).isStr x then _ else _)
  rw [e]
  cases hxy:seq x y with
  | true =>
   have:=seq_iff.mp hxy;subst this
   exact .mk _ _ _ _ hv r
  | false=>exact .mk _ _ _ _ a ih
theorem putL_len (x:Str) (h:Int) (k v:Value):∀ es:List DictEntry,(putL x h k v es).length≤es.length+1
 | []=>cQ _
 | e::r=>by
  unfold putL
  split
  ·simp
  ·have:=putL_len x h k v r;simp;assumption
theorem FReps.toN:∀ {fs:List (Str×D)} {es:List DictEntry},FReps C B g.fz fs es→NReps C B g (fs.map fun x=>(x.1,.d x.2)) es
 | [],_,h=>h
 | (x,d)::fs,_,h=>by induction h with | mk v h t es a r=>exact .mk v h t es a (FReps.toN (fs:=fs) r)
theorem a9h {α β:Type} (f:α→β) (x:Str):∀ l:List (Str×α),(l.map fun p=>(p.1,f p.2)).lookup x=(l.lookup x).map f
 | []=>rfl
 | (y,v)::r=>by
  simp only [bK,bH,a9h f x r]
  cases x==y <;> rfl
theorem bi_handed (b:BI):handedIn (.builtin (b1p b))=true:=by cases b <;> decide +kernel
theorem lk_map {α β:Type} (f:α→β) (x:Str) (l:List (Str×α)):lk x (l.map fun p=>(p.1,f p.2))=(lk x l).map f:=by rw [a3o,a3o,a9h]
theorem DRep.handed {fz:List (Addr×Obj)} {d:D} {v:Value} (h:DRep C B fz d v):handedIn v=true:=by
 induction d using D.casesOn with
 | bi b=>subst h;exact bi_handed _
 | _=>cases h;rfl
theorem VRep.handed:∀ {v:V} {val:Value},VRep C B g v val→handedIn val=true
 | .d _,_,h=>DRep.handed h
 | .r _,_,⟨a,_,e⟩=>by subst e;rfl
theorem a4v {d:Addr} {o o':Obj}:∀ {pre post:List (Addr×Obj)},(∀ p∈pre,p.1≠d)→(∀ p∈post,p.1≠d)→Upd d o o' (pre++(d,o)::post) (pre++(d,o')::post):=by
 intro x_
 induction x_ with
 | nil =>
  intro _ _ h
  exact .head h
 | cons p pre IH_ =>
  intro post h1 h2
  exact .tail (h1 p (.head _)) (IH_ (fun q hq=>h1 q (.tail _ hq)) h2)
end
section
variable {C:Cx} {B:Buf} {f:Fm} {rs:List (Addr×Obj)} {ρ:Loc} {σ:St} {g:G} {s:Shared} {E:Value→Shared→Prop} {A:Around}
inductive OptK {α:Type} (F:α→Option R) (r:R):Option α→Prop | mk (x:α):F x=some r→OptK F r (some x)
theorem a3t {α:Type} {o:Option α} {F:α→Option R} (h:optK o F=some r):OptK F r o:=by
 induction o with
 | none=>exact no h
 | some x=>exact .mk x h
inductive OwnF {α:Type} (C:Cx) (B:Buf) (g:G) (σ:St) (h:Heap) (i:Nat) (F:O→Option α) (r:α):Value→Prop
 | mk (o:O) (a:Addr) (ob:Obj):σ[i]?=some o→g.as[i]?=some a→g.os[i]?=some ob→h.get? a=some ob→ORep C B g o ob→(a==sysModules)=false→F o=some r→OwnF C B g σ h i F r (.ref a)
theorem a4w {α:Type} {F:O→Option α} {r:α} {i:Nat} {val:Value} (h:own σ i F=some r) (Rl:Rel C B f rs ρ σ g s) (hv:VRep C B g (.r i) val):OwnF C B g σ s.heap i F r val:=by
 have h:(match σ[i]? with | some o=>F o | none=>none)=some r:=h
 cases ho:σ[i]? with
 | none=>rw [ho] at h;exact no h
 | some o =>
  rw [ho] at h
  induction own_is Rl ho hv with | mk a ob h1 h2 h3 h4 h5=>exact .mk o a ob ho h1 h2 h3 h4 h5 h
inductive CellF (C:Cx) (B:Buf) (g:G) (σ:St) (h:Heap) (c:Addr) (F:Nat→Option V→Option R) (r:R):Prop
 | mk (i:Nat) (w:Option V) (ob:Obj):σ[i]?=some (.cell w)→g.as[i]?=some c→g.os[i]?=some ob→h.get? c=some ob→ORep C B g (.cell w) ob→F i w=some r→CellF C B g σ h c F r
theorem LocD.lrep {h:Heap} {m:Str→Option Value} (l:LocD C B f rs ρ g h m) {x:Str} {v:V} (hx:ρ.lookup x=some v):f.env.kindOf x=some .cell∨f.env.kindOf x=some .free→∀ i,v = .r i→∃ c,g.as[i]?=some c∧f.env.cells.lookup x=some c:=by
 rcases l with z0_ | z1_
 ·revert z0_;refine aE ?_;rintro _ l
  exact (l x v hx).2
 ·obtain ⟨_,_,_,_,_,l⟩:=z1_
  exact (l x v hx).2
theorem b1x {F:Nat→Option V→Option R} {x:Str} (h:cellAt x ρ σ F=some r) (Rl:Rel C B f rs ρ σ g s) (hc:f.env.kindOf x=some .cell∨f.env.kindOf x=some .free):∃ c,f.env.cells.lookup x=some c∧CellF C B g σ s.heap c F r:=by
 refine exa ?_ Rl.loc;rintro m Fr l
 have h:optK (lk x ρ) (fun v=>onR v fun i=>own σ i fun o=>onCell o (F i))=some r:=h
 have e:=a3o x ρ
 generalize lk x ρ=o at h e
 induction a3t h with | mk v h =>
 induction v with
 | d _=>exact no h
 | r i =>
  refine exa ?_ (LocD.lrep l e.symm hc i rfl);rintro c h1 h2
  cases a4w h Rl ⟨c,h1,rfl⟩ with | mk o a ob k1 k2 k3 k4 k5 k6 h =>
  induction o with
  | cell w=>exact ⟨c,h2,.mk i w ob k1 k2 k3 k4 k5 h⟩
  | _=>exact no h
noncomputable abbrev QN (C:Cx) (B:Buf) (g:G) (k:V→Option R) (r:R) (Q:Value→Prop):Prop:=∀ v val,k v=some r→VRep C B g v val→Q val
theorem cell_snd {x:Str} {pos:Pos} {k:V→Option R} {Q:Value→Shared→Prop} (h:(cellAt x ρ σ fun z0 w=>optK w k)=some r) (hc:f.env.kindOf x=some .cell∨f.env.kindOf x=some .free) (d1:(x==("__debug__" : Str))=false) (d2:(x==("__classdict__" : Str))=false) (ok:FmOk C f) (Rl:Rel C B f rs ρ σ g s)
  (q:QN C B g k r fun val=>Q val s):wpAny C.M A (eval (.Name x pos) f.env) Q E s:=by
 refine exa ?_ (b1x h Rl hc);rintro c hc2 cf
 induction cf with | mk i w ob k1 k2 k3 k4 k5 h =>
 induction a3t h with | mk v h =>
 revert k5;refine exa ?_;rintro val hd hv
 have hcell:s.heap.IsCell c (some val):=⟨ob,k4,hd⟩
 rcases hc with hc | hc
 ·exact wpAny_Name (wpAny_loadName_cell ok.kind hc hc2 hcell (q v val h hv)) d1
 ·exact wpAny_Name (wpAny_loadName_free ok.kind hc hc2 hcell (q v val h hv) d2) d1
theorem glob_snd (tk:TabsOk C) {x:Str} {pos:Pos} {k:V→Option R} {Q:Value→Shared→Prop} (h:(optK (C.T.glob x) fun d=>k (.d d))=some r) (hk:f.env.kindOf x=some .globalImplicit) (d1:(x==("__debug__" : Str))=false) (ok:FmOk C f) (Rl:Rel C B f rs ρ σ g s)
  (q:QN C B g k r fun val=>Q val s):wpAny C.M A (eval (.Name x pos) f.env) Q E s:=by
 refine exa ?_ Rl.loc;rintro m F l
 have gl:=tk.glob x
 generalize C.T.glob x=o at h gl
 induction a3t h with | mk d h =>
 refine aE ?_ (gl d rfl);rintro g2 g3
 refine Name_function_global ok.kind hk ?_ d1
 rcases g3 B with z0_ | z1_
 ·revert z0_;refine exa ?_;rintro v e1 e2
  exact loadGlobal_global (by rw [ok.globals];exact ok.top.g.keeps F.keep) (mg_of ok.inK ok.top.g e1) (q (.d d) v h (e2.mono (List.nil_subset _)))
 ·revert z1_;refine eaxa ?_;rintro e1 v e2 e3
  exact loadGlobal_builtin (by rw [ok.globals];exact ok.top.g.keeps F.keep) (mg_none_of ok.inK ok.top.g e1) (by rw [ok.builtins];exact ok.top.b.keeps F.keep) ((ok.top.builtins x g2).trans e2) (q (.d d) v h (e3.mono (List.nil_subset _)))
theorem local_snd {x:Str} {pos:Pos} {k:V→Option R} {Q:Value→Shared→Prop} (h:optK (lk x ρ) k=some r) (hk:f.env.kindOf x=some .local) (d1:(x==("__debug__" : Str))=false) (ok:FmOk C f) (Rl:Rel C B f rs ρ σ g s)
  (q:QN C B g k r fun val=>Q val s):wpAny C.M A (eval (.Name x pos) f.env) Q E s:=by
 refine exa ?_ Rl.loc;rintro m F l
 have e:=a3o x ρ
 generalize lk x ρ=o at h e
 induction a3t h with | mk v h =>
 rcases l with z0_ | z1_
 ·revert z0_;refine aE ?_;rintro el l
  refine exa ?_ ((l x v e.symm).1 hk);rintro val a b
  exact wpAny_Name (wpAny_loadName_local ok.kind hk (by rw [el];exact F.ns) a (q v val h b)) d1
 ·obtain ⟨_,_,mC,_,n,l⟩:=z1_
  refine exa ?_ ((l x v e.symm).1 hk);rintro val a b
  exact wpAny_Name (wpAny_loadName_local ok.kind hk n a (q v val h b)) d1
theorem name_snd (tk:TabsOk C) {x:Str} {pos:Pos} {k:V→Option R} {Q:Value→Shared→Prop} (h:evName C.T f.sc x ρ σ k=some r) (ok:FmOk C f) (Rl:Rel C B f rs ρ σ g s)
  (q:∀ v val,k v=some r→VRep C B g v val→Q val s):wpAny C.M A (eval (.Name x pos) f.env) Q E s:=by
 have e:=a3o x f.sc.names
 have h:optK (lk x f.sc.names) _=some r:=h
 generalize lk x f.sc.names=o at h e
 induction a3t h with | mk kd h =>
 refine eaaa ?_ (ok.kinds x kd e.symm);rintro k1 k2 k3 k4
 refine aE ?_ (namesOk_of ok.names e.symm);rintro d1 d2
 induction kd with
 | globalImplicit=>exact glob_snd tk h (k2 rfl) d1 ok Rl q
 | «local» => exact local_snd h (k1 rfl) d1 ok Rl q
 | cell=>exact cell_snd h (k3 (.inl rfl)) d1 d2 ok Rl q
 | free=>exact cell_snd h (k3 (.inr rfl)) d1 d2 ok Rl q
 | _=>exact no h
inductive InstF {α:Type} (C:Cx) (B:Buf) (g:G) (σ:St) (h:Heap) (i:Nat) (F:Nat→Nat→List (Str×V)→Option α) (r:α):Value→Prop
 | mk (c j:Nat) (fs:List (Str×V)) (a dx:Addr) (es:List DictEntry) (n:Nat):σ[i]?=some (.inst c j)→σ[j]?=some (.ns fs)→g.as[j]?=some dx→h.get? dx=some (dictOf es n)→W.InstAt h a (instObj c dx) c (some (dictOf es n))→NReps C B g fs es→F c j fs=some r→InstF C B g σ h i F r (.ref a)
theorem b0m {α:Type} {F:Nat→Nat→List (Str×V)→Option α} {r:α} {i:Nat} {val:Value} (h:inst σ i F=some r) (Rl:Rel C B f rs ρ σ g s) (hv:VRep C B g (.r i) val):InstF C B g σ s.heap i F r val:=by
 induction a4w h Rl hv with | mk o a ob k1 k2 k3 k4 k5 k6 h =>
 induction o with
 | inst c j =>
  revert k5;refine exa ?_;rintro dx h1 rfl
  cases a4w h Rl ⟨dx,h1,rfl⟩ with | mk o _ ob m1 m2 m3 m4 m5 m6 h =>
  induction o with
  | ns fs =>
   revert m5;refine exxa ?_;rintro es n rfl nr
   exact .mk c j fs a dx es n k1 m1 h1 m4 ⟨k4,rfl,rfl,m4⟩ nr h
  | _=>exact no h
 | _=>exact no h
noncomputable abbrev QA (C:Cx) (B:Buf) (f:Fm) (rs:List (Addr×Obj)) (ρ:Loc) (σ:St) (g:G) (k:V→Option R) (r:R) (Q:Value→Shared→Prop):Prop:=∀ u s' u',k u=some r→Rel C B f rs ρ σ g s'→VRep C B g u u'→Q u' s'
theorem attr_ok (tk:TabsOk C) {c:Nat} {fs:List (Str×V)} {ad dx:Addr} {es:List DictEntry} {n:Nat} {a:Str} {expr:Bool} {k:V→Option R} {Q:Value→Shared→Prop} (hf:C.T.fld c a=true) (h:optK (lk a fs) k=some r) (nr:NReps C B g fs es) (I:W.InstAt s.heap ad (instObj c dx) c (some (dictOf es n))) (ok:FmOk C f) (Rl:Rel C B f rs ρ σ g s)
  (q:QA C B f rs ρ σ g k r Q):wpAny C.M A (getAttr (.ref ad) a expr) Q E s:=by
 refine exa ?_ Rl.loc;rintro m F l
 refine eaaa ?_ (tk.fld c a hf);rintro t1 t2 ⟨attr,t3,t4⟩ _
 have gl:=nr.getL a
 generalize lk a fs=o at h gl
 induction a3t h with | mk d h =>
 cases gl with | some _ u e1 e2 =>
 exact get_own F ok.inK I t1 t2 t3 t4 e1 e2.handed (q _ _ u h (Rl.tok _) e2)
theorem b3y (tk:TabsOk C) {v:V} {val:Value} {a:Str} {expr:Bool} {k:V→Option R} {Q:Value→Shared→Prop} (h:getattr C.T v a σ k=some r) (ok:FmOk C f) (Rl:Rel C B f rs ρ σ g s) (hv:VRep C B g v val)
  (q:∀ u s' u',k u=some r→Rel C B f rs ρ σ g s'→VRep C B g u u'→Q u' s'):wpAny C.M A (getAttr val a expr) Q E s:=by
 have hn:=a2o Rl hv
 have h:(match norm σ v with | .d x=>_ | .r i=>_)=some r:=h
 generalize norm σ v=w at h hn
 induction w with
 | d x =>
  induction x using D.casesOn with
  | obj c fs =>
   induction hn with | mk ad dx es n k1 k2 k3 =>
   have h2:optK (lk a fs) (fun x=>k (.d x))=some r:=a0c h
   refine attr_ok tk (a0b h) ?_ (FReps.toN k3) ⟨Rl.kn ok k1,rfl,rfl,Rl.kn ok k2⟩ ok Rl q
   rw [lk_map]
   generalize lk a fs=o at h2
   induction a3t h2 with | mk d h=>exact h
  | _=>exact no h
 | r i =>
  induction b0m h Rl hn with | mk c j fs a dx es n k1 k2 k3 _ I nr h =>
  exact attr_ok tk (a0b h) (a0c h) nr I ok Rl q
theorem b3z (tk:TabsOk C) {v u:V} {val uv:Value} {a:Str} {k:St→Option R} {Q:Unit→Shared→Prop} (h:setattr C.T v a u σ k=some r) (ok:FmOk C f) (Rl:Rel C B f rs ρ σ g s) (hv:VRep C B g v val) (hu:VRep C B g u uv)
  (q:∀ σ' g' s',k σ'=some r→Rel C B f rs ρ σ' g' s'→Ext g g'→Q () s'):wpAny C.M A (setAttr val a uv) Q E s:=by
 refine exa ?_ Rl.loc;rintro m F l
 induction v with
 | d x=>exact no h
 | r i =>
  induction b0m h Rl hv with | mk c j fs ad dx es n k1 hj hd1 hdx I nr h =>
  refine eaaa ?_ (tk.fld c a (a0k (a0b h)));rintro t1 t2 ⟨attr,t3,t4⟩;refine eaa ?_;rintro t5 t6 t7
  have hle:=cO (a0e (a0b h))
  have h:=a0c h
  refine exxx ?_ (Rl.split hj rfl);rintro dx' ob' pre;refine exaa ?_;rintro post hd1' ho';refine eaaa ?_;rintro orr _ e1;refine eaa ?_;rintro e2 e3 e4
  have e0:dx'=dx:=Option.some.inj (hd1'.symm.trans hd1)
  subst e0
  have eo:ob'=dictOf es n:=Option.some.inj ((Rl.get (a2f hd1 ho')).symm.trans hdx)
  subst eo
  have N:=Rl.news
  rw [e1] at N
  have hl:(W.getL a es).isSome=true:=by
   have gl:=nr.getL a
   generalize lk a fs=o at gl
   induction gl with
   | none e=>rw [e];rfl
   | some d v e _=>rw [e];rfl
  have hlen:=nr.length
  refine set_dict F ok.inK N I rfl t5 t6 t7 t2 hl rfl (a4v e2 e3) ?_ fun h' F' N' => ?_
  ·have:=putL_len a (PyData.keyHash C.w.params a) (.str a (s.toks+1)) uv es;lia
  ·exact q _ _ _ h (Rl.put (o' := .ns (Mine.put a u fs)) hj rfl rfl l F' (by rw [e4];exact N') ⟨_,_,rfl,nr.put hu⟩) ⟨cD _,fun z0 h=>h⟩
end
end Mine
end
section
namespace Mine
open PySem PySem.W PySem.Spec PySem.Calls PyProof.Rows PySem.SeqAt
theorem b1y {slice:Expr} (h:isSl slice=false) (o i:Value):subscripted slice false o i=operate [o,i] (getItem o i):=by
 induction slice using Expr.casesOn with
 | Slice _ _ _ _=>exact nob h.symm
 | _=>rfl
theorem a2v {C:Cx} {A:Around} {E:Value→Shared→Prop} {s:Shared} {value slice:Expr} {o i:Value} {T id:String} {Q:Value→Shared→Prop} (hsl:isSl slice=false) (hT:s.TypeIs o T)
  (sl:Slot T "__getitem__" id) (h:wpAny C.M A (getItem o i) Q E s):wpAny C.M A (subscriptTail value slice o i) Q E s :=
 PyProof.Rows.tail_any hT sl.lookup h (b1y hsl o i)
theorem getD_of {α:Type} [Inhabited α] {l:List α} {i:Nat} {v:α} (h:l[i]?=some v):l.getD i default=v:=by simp [List.getD,h]
section
variable {C:Cx} {B:Buf} {f:Fm} {rs:List (Addr×Obj)} {ρ:Loc} {σ:St} {g:G} {s:Shared} {E:Value→Shared→Prop} {A:Around}
inductive IdxOk (i:Int) (n:Nat):Nat→Prop
 | neg:i < 0→0≤i+n→IdxOk i n (i+n).toNat
 | pos:0≤i→i < n→IdxOk i n i.toNat
inductive ItemF {α:Type} [Inhabited α] (xs:List α) (i:Int) (k:α→Option R) (r:R):Prop
 | mk (j:Nat):j < xs.length→xs.length≤1000000→IdxOk i xs.length j→k (xs.getD j default)=some r→ItemF xs i k r
theorem b0n {α:Type} [Inhabited α] {xs:List α} {i:Int} {k:α→Option R} (h:a7c xs i k=some r):ItemF xs i k r:=by
 have hz:=a1a (a0b h)
 have h:(bif decide (i < 0) then (bif decide (0≤i+xs.length) then k (xs.getD (i+xs.length).toNat default) else none) else bif decide (i < xs.length) then k (xs.getD i.toNat default) else none)=some r:=a0c h
 by_cases h0:i < 0
 ·rw [decide_eq_true h0] at h
  have h1:=of_decide_eq_true (a0b h)
  exact .mk _ (by lia) hz (.neg h0 h1) (a0c h)
 ·rw [decide_eq_false h0] at h
  have h1:=of_decide_eq_true (a0b h)
  exact .mk _ (by lia) hz (.pos (Int.not_lt.mp h0) h1) (a0c h)
theorem seqIndex_of {i:Int} {n j:Nat} (ix:IdxOk i n j):seqIndex? i n=some j:=by
 unfold seqIndex?
 induction ix with
 | neg h0 h1=>simp only [h0,if_true];rw [if_pos (by simp;lia)]
 | pos h0 h1=>simp only [Int.not_lt.mpr h0,if_false];rw [if_pos (by simp;lia)]
theorem IdxOk.lo {i:Int} {n j:Nat} (ix:IdxOk i n j) (hz:n≤1000000) : -(2 ^ 63)≤i∧i < 2 ^ 63:=by cases ix <;> lia
theorem list_idx {l:Addr} {vs:List Value} {i:Int} {j n:Nat} {t:Tok} {v:Value} {Q:Value→Shared→Prop} (hl:s.heap.IsList l vs.toArray) (hn:n=vs.length) (hz:n≤1000000) (ix:IdxOk i n j) (hv:vs[j]?=some v) (q:Q v s):wpAny C.M A (getItem (.ref l) (.int i t)) Q E s:=by
 subst hn
 have lo:=ix.lo hz
 have hv:vs.toArray[j]?=some v:=by rw [List.getElem?_toArray];exact hv
 have e:vs.toArray.size=vs.length:=cG
 rw [← e] at ix
 induction ix with
 | neg h0 h1=>exact wpAny_getItem_list_neg hl h0 (by lia) lo.1 hv q
 | pos h0 h1=>exact wpAny_getItem_list hl h0 lo.2 hv q
theorem list_item {xs:List D} {l:Value} {i:Int} {t:Tok} {k:D→Option R} {value slice:Expr} {Q:Value→Shared→Prop} (hsl:isSl slice=false) (h:a7c xs i k=some r) (lst:LstAt C B g.fz s.heap xs l)
  (q:∀ d val,k d=some r→DRep C B g.fz d val→Q val s):wpAny C.M A (subscriptTail value slice l (.int i t)) Q E s:=by
 induction lst with | mk vs a n hg hr =>
 induction b0n h with | mk j hj hz ix h =>
 refine exa ?_ (hr.get j hj);rintro v hv hd
 exact a2v hsl (a0r hg).typeIs slot_list_getitem (list_idx (a0r hg) hr.length hz ix hv (q _ _ h hd))
theorem refs_item {is:List Nat} {vs:List Value} {a:Addr} {n:Nat} {i:Int} {t:Tok} {k:Nat→Option R} {value slice:Expr} {Q:Value→Shared→Prop} (hsl:isSl slice=false) (h:a7c is i k=some r) (hg:s.heap.get? a=some (W.listOf vs.toArray n)) (hr:RRefs g.as is vs)
  (q:∀ m val,k m=some r→VRep C B g (.r m) val→Q val s):wpAny C.M A (subscriptTail value slice (.ref a) (.int i t)) Q E s:=by
 induction b0n h with | mk j hj hz ix h =>
 refine exa ?_ (hr.get j hj);rintro v hv hd
 induction hd with | mk ad hd =>
 exact a2v hsl (a0r hg).typeIs slot_list_getitem (list_idx (a0r hg) hr.length hz ix hv (q _ _ h ⟨ad,hd,rfl⟩))
theorem tup_item {xs:List D} {vs:List Value} {fz:List (Addr×Obj)} {l:Addr} {o:Obj} {n:Nat} {i:Int} {t:Tok} {k:D→Option R} {value slice:Expr} {Q:Value→Shared→Prop} (hsl:isSl slice=false) (h:a7c xs i k=some r) (hg:s.heap.get? l=some o) (hc:o.cls = .type "tuple") (hd:o.data = .seq vs.toArray n) (hr:DReps C B fz xs vs)
  (q:∀ d val,k d=some r→DRep C B fz d val→Q val s):wpAny C.M A (subscriptTail value slice (.ref l) (.int i t)) Q E s:=by
 induction b0n h with | mk j hj hz ix h =>
 refine exa ?_ (hr.get j hj);rintro v hv hd'
 have lo:=ix.lo hz
 have e:vs.toArray.size=xs.length:=by rw [cG,hr.length]
 exact a2v hsl ⟨o,hg,hc⟩ slot_tuple_getitem (PyProof.Rows.getItem_tuple (j:=j) ⟨o,hg,hc,n,hd⟩ lo.1 lo.2 (e▸seqIndex_of ix) (by rw [List.getElem?_toArray];exact hv) (q _ _ h hd'))
theorem u8_of {x:Nat} (h:x < 256):(UInt8.ofNat x).toNat=x:=by rw [UInt8.toNat_ofNat'];exact Nat.mod_eq_of_lt h
theorem a9i {b:List Nat} (hb:∀ x∈b,x < 256):KBw.bInts (toBA b)=b.map Int.ofNat:=by
 unfold toBA
 rw [KBw.ints_list,bL]
 exact bJ fun x hx=>congrArg Int.ofNat (u8_of (hb x hx))
theorem getD_map {α β:Type} (f:α→β) (d:α) (l:List α) (j:Nat):(l.map f).getD j (f d)=f (l.getD j d):=by
 rw [aR,aX,aR];cases l[j]? <;> rfl
theorem getD_lt {b:List Nat} (hb:∀ x∈b,x < 256) (j:Nat):b.getD j default < 256:=by
 rw [aR]
 cases h:b[j]? with
 | none=>exact Nat.zero_lt_succ _
 | some x=>exact hb x (bU h)
theorem noTemp {a:Array UInt8} {t:Tok} (value:Expr) (r:Value):letTemporaryGo value (.bytes a t) r=pure ():=by cases value <;> rfl
theorem a9j {b:List Nat} {value slice:Expr} {t0 t:Tok} {i:Int} {k:Nat→Option R} {Q:Value→Shared→Prop} (hsl:isSl slice=false) (h:a7c b i k=some r) (hb:∀ x∈b,x < 256)
  (q:∀ (d:Nat) (u:Tok) (tk:Nat),k d=some r→Q (.int d u) { s with toks:=tk }):wpAny C.M A (subscriptTail value slice (.bytes (toBA b) t0) (.int i t)) Q E s:=by
 induction b0n h with | mk j hj hz ix h =>
 have e1:(b.map Int.ofNat).length=b.length:=bF _
 have e2:(b.map UInt8.ofNat).length=b.length:=bF _
 induction ix with
 | neg h0 h1 =>
  refine KBc.itemR_K (a9i hb) (by lia) (by lia) h0 (fun t' tk z0 z0 => ?_) (b1y hsl _ _) (noTemp value)
  rw [e1,show (0:Int)=Int.ofNat default from rfl,getD_map]
  exact q _ t' tk h
 | pos h0 h1 =>
  refine a2v hsl (typeIs_bytes s _ t0) FB.slot_bytes_getitem (PySem.W.getItem_bytes (l:=b.map UInt8.ofNat) (by lia) h0 (by lia) ?_)
  rw [show (0:UInt8)=UInt8.ofNat default from rfl,getD_map,u8_of (getD_lt hb _)]
  exact q _ _ _ h
theorem buf_at {e r:Nat} (h3:r+1≤e):e - (r+1) < e:=Nat.sub_lt (cU (Nat.succ_pos _) h3) (Nat.succ_pos _)
theorem buf_item {rest:List Nat} {c o:Nat} {i:Int} (h:a3d B (c::rest) o i):∃ j:Nat,i=j∧j < B.dt.length∧B.dt.getD j default=c:=by
 revert h;refine eaaa ?_;rintro h1 h2 h3 h4
 have ho:o=0:=Classical.byContradiction fun e=>by cases h2 e
 subst ho
 refine ⟨B.e - (rest.length+1),h1.trans ((Int.add_zero _).trans (Int.ofNat_sub h3).symm),cU (buf_at h3) B.ok,?_⟩
 have e:=congrArg (fun l=>l[0]?) h4
 rw [List.getElem?_cons_zero,List.getElem?_drop,bA,Nat.add_zero] at e
 rw [if_pos (show B.e - (c::rest).length < B.e from buf_at h3)] at e
 exact getD_of e.symm
theorem v_int (i:Int) (t:Tok):VRep C B g (.d (.int i)) (.int i t):=DRep.int (C:=C) (B:=B) (fz:=g.fz) i t
noncomputable abbrev QI (C:Cx) (B:Buf) (f:Fm) (rs:List (Addr×Obj)) (ρ:Loc) (σ:St) (g:G) (k:V→Option R) (r:R) (Q:Value→Shared→Prop):Prop:=∀ u s' u',k u=some r→Rel C B f rs ρ σ g s'→VRep C B g u u'→Q u' s'
variable {k:V→Option R} {Q:Value→Shared→Prop} {value slice:Expr} {iv:Value} {i:D}
theorem b1z {es:List (D×D)} {o:Obj} {d:Addr} (hsl:isSl slice=false) (hr:DictRep C B g.fz es o) (hg:s.heap.get? d=some o) (hi:DRep C B g.fz i iv) (h:keyed es i k=some r) (Rl:Rel C B f rs ρ σ g s) (q:QI C B f rs ρ σ g k r Q):wpAny C.M A (subscriptTail value slice (.ref d) iv) Q E s:=by
 induction hr.map (a0k (a0b h)) hi hg with | mk K dk knd kk F h1 h2 h3 h4 =>
 refine exa ?_ (h3 (a0e (a0b h)));rintro u hu hd
 exact a2v hsl h2.typeIs slot_dict_getitem (wpAny_getItem_of h1 h2 hu (q _ _ u (a0c h) (Rl.tok _) hd))
theorem buf_get {l:List Nat} {o:Nat} {j:Int} {t t0:Tok} (hsl:isSl slice=false) (hp:a3d B l o j) (h:onHd l (fun c=>k (.d (.int c)))=some r) (Rl:Rel C B f rs ρ σ g s) (q:QI C B f rs ρ σ g k r Q):wpAny C.M A (subscriptTail value slice (.bytes (toBA B.dt) t0) (.int j t)) Q E s:=by
 induction l using aK with
 | nil=>exact no h
 | cons c rest =>
  refine exaa ?_ (buf_item hp);rintro j' rfl hj hc
  refine a9j (b:=B.dt) (k:=fun c=>k (.d (.int c))) hsl ?_ B.lt fun d u tk a=>q _ _ _ a (Rl.tok _) (v_int _ _)
  unfold a7c item
  rw [show szOk B.dt.length=true from Nat.ble_eq_true_of_le B.sz,decide_eq_false (show ¬ ((j':Int) < 0) by lia),decide_eq_true (show ((j':Int) < (B.dt.length:Nat)) by lia),Int.toNat_natCast,hc]
  exact h
theorem itemD_ok {x:D} {val:Value} (hsl:isSl slice=false) (h:itemD x i k=some r) (ok:FmOk C f) (Rl:Rel C B f rs ρ σ g s) (hx:DRep C B g.fz x val) (hi:DRep C B g.fz i iv) (q:QI C B f rs ρ σ g k r Q):wpAny C.M A (subscriptTail value slice val iv) Q E s:=by
 induction x using D.casesOn with
 | lst xs=>induction a1e h hi with | mk i t h=>exact list_item hsl h (lst_at Rl ok hx) fun d u a b=>q _ _ u a Rl b
 | tup xs=>induction hx with | mk vs a o n k1 k2 k3 k4=>induction a1e h hi with | mk i t h=>exact tup_item hsl h (Rl.kn ok k1) k2 k3 k4 fun d u a b=>q _ _ u a Rl b
 | bytes xs=>induction hx with | mk t0 hb=>induction a1e h hi with | mk i t h=>exact a9j hsl h hb fun d u tk a=>q _ _ _ a (Rl.tok _) (v_int _ _)
 | dct es=>induction hx with | mk a o k1 k2 k3=>exact b1z hsl k3 (Rl.kn ok k1) hi h Rl q
 | buf=>induction hx with | mk t0=>induction b1r h hi with | mk l o j t p h=>exact buf_get hsl p h Rl q
 | _=>exact no h
theorem itemO_ok {j:Nat} {val:Value} (hsl:isSl slice=false) (h:(own σ j fun o=>itemO o i k)=some r) (ok:FmOk C f) (Rl:Rel C B f rs ρ σ g s) (hx:VRep C B g (.r j) val) (hi:DRep C B g.fz i iv) (q:QI C B f rs ρ σ g k r Q):wpAny C.M A (subscriptTail value slice val iv) Q E s:=by
 induction a4w h Rl hx with | mk o a ob h1 h2 h3 h4 h5 h6 h =>
 induction o with
 | list xs =>
  revert h5;refine exxa ?_;rintro vs n rfl hr
  induction a1e h hi with | mk i t h=>exact list_item hsl h (.mk vs a n h4 hr) fun d u a b=>q _ _ u a Rl b
 | refs is =>
  revert h5;refine exxa ?_;rintro vs n rfl hr
  induction a1e h hi with | mk i t h=>exact refs_item hsl h h4 hr fun d u a b=>q _ _ u a Rl b
 | dict es=>exact b1z hsl h5 h4 hi h Rl q
 | _=>exact no h
theorem b4a {v:V} {val:Value} (hsl:isSl slice=false) (h:getitem v i σ k=some r) (ok:FmOk C f) (Rl:Rel C B f rs ρ σ g s)
  (hv:VRep C B g v val) (hi:DRep C B g.fz i iv) (q:QI C B f rs ρ σ g k r Q):wpAny C.M A (subscriptTail value slice val iv) Q E s:=by
 have hn:=a2o Rl hv
 have h:(match norm σ v with | .d x=>itemD x i k | .r j=>own σ j fun o=>itemO o i k)=some r:=h
 generalize norm σ v=w at h hn
 induction w with
 | d x=>exact itemD_ok hsl h ok Rl hn hi q
 | r j=>exact itemO_ok hsl h ok Rl hn hi q
end
end Mine
end
section
namespace Mine
open PySem PySem.W PySem.Spec PySem.Calls PyProof.Rows PySem.SeqAt
theorem DReps.set {C:Cx} {B:Buf} {fz:List (Addr×Obj)} {x:D} {v:Value} (hx:DRep C B fz x v):∀ {xs:List D} {vs:List Value},DReps C B fz xs vs→∀ n,DReps C B fz (setAt xs n x) (vs.set n v):=by
 intro x_
 induction x_ with
 | nil =>
  intro _ h n
  cases h;cases n <;> exact .nil
 | cons _ xs IH_ =>
  intro _ h n
  induction h with | mk w vs a r =>
  induction n using cK with
  | zero=>exact .mk _ _ hx r
  | succ n=>exact .mk _ _ a (IH_ r n)
section
variable {C:Cx} {B:Buf} {fz:List (Addr×Obj)}
theorem KVI.length:∀ {es:List (D×D)} {kvs:List (Int×Value)},KVI C B fz es kvs→es.length=kvs.length
 | [],_,h=>by subst h;rfl
 | (x,d)::es,_,h=>by
  induction x using D.casesOn with
  | int i=>induction h with | mk v kvs a r=>exact congrArg (· + 1) (KVI.length (es:=es) r)
  | _=>exact h.elim
theorem KVS.length:∀ {es:List (D×D)} {kvs:List (Str×Value)},KVS C B fz es kvs→es.length=kvs.length
 | [],_,h=>by subst h;rfl
 | (x,d)::es,_,h=>by
  induction x using D.casesOn with
  | str i=>induction h with | mk v kvs a r=>exact congrArg (· + 1) (KVS.length (es:=es) r)
  | _=>exact h.elim
noncomputable def putK {K:Type} [DecidableEq K] (k:K) (v:Value):List (K×Value)→List (K×Value)
 | []=>[(k,v)]
 | (x,u)::r=>if x=k then (x,v)::r else (x,u)::putK k v r
theorem a3e {K:Type} [DecidableEq K] {k:K} {v:Value}:∀ {kvs:List (K×Value)},(kvs.map (·.1)).Nodup→stored kvs k v=putK k v kvs:=by
 intro kvs hn
 unfold stored
 induction kvs with
 | nil=>rfl
 | cons p r ih =>
  obtain ⟨x,u⟩:=p
  simp only [bK,bY] at hn
  show _=(if x=k then (x,v)::r else (x,u)::putK k v r)
  by_cases h:x=k
  ·subst h
   have hno:∀ q∈r,¬ q.1=x:=fun q hq e=>hn.1 (e▸List.mem_map_of_mem hq)
   have e:r.map (fun kv=>if kv.1=x then (kv.1,v) else kv)=r:=by
    conv=>rhs;rw [← List.map_id r]
    exact bJ fun q hq=>by simp [hno q hq]
   simp only [aG,decide_true,Bool.true_or,if_true,bK,e]
  ·have ih:=ih hn.2
   simp only [if_neg h,aG,decide_eq_false h,Bool.false_or,bK]
   rw [← ih]
   split <;> rfl
theorem KVI.put {i:Int} {x:D} {v:Value} (hx:DRep C B fz x v):∀ {es:List (D×D)} {kvs:List (Int×Value)},KVI C B fz es kvs→KVI C B fz (dput (.int i) x es) (putK i v kvs)
 | [],_,h=>by subst h;exact .mk v [] hx rfl
 | (y,d)::es,_,h=>by
  induction y using D.casesOn with
  | int j =>
   induction h with | mk u kvs a r =>
   show KVI C B fz (bif decide (j=i) then (.int j,x)::es else (.int j,d)::dput (.int i) x es) (if j=i then (j,v)::kvs else (j,u)::putK i v kvs)
   by_cases h:j=i
   ·rw [decide_eq_true h,if_pos h];exact .mk _ _ hx r
   ·rw [decide_eq_false h,if_neg h];exact .mk _ _ a (KVI.put hx (es:=es) r)
  | _=>exact h.elim
theorem KVS.put {i:Str} {x:D} {v:Value} (hx:DRep C B fz x v):∀ {es:List (D×D)} {kvs:List (Str×Value)},KVS C B fz es kvs→KVS C B fz (dput (.str i) x es) (putK i v kvs)
 | [],_,h=>by subst h;exact .mk v [] hx rfl
 | (y,d)::es,_,h=>by
  induction y using D.casesOn with
  | str j =>
   induction h with | mk u kvs a r =>
   show KVS C B fz (bif seq j i then (.str j,x)::es else (.str j,d)::dput (.str i) x es) (if j=i then (j,v)::kvs else (j,u)::putK i v kvs)
   cases e:seq j i with
   | true=>rw [if_pos (seq_iff.mp e)];exact .mk _ _ hx r
   | false=>rw [if_neg fun h=>by rw [seq_iff.mpr h] at e;exact nTF e];exact .mk _ _ a (KVS.put hx (es:=es) r)
  | _=>exact h.elim
theorem a7l (k x:D) (es:List (D×D)):dput k x es≠[]:=by
 induction es using aK with
 | nil=>exact List.cons_ne_nil _ _
 | cons e r =>
  obtain ⟨a,b⟩:=e
  show (bif keq a k then (a,x)::r else (a,b)::dput k x r)≠[]
  cases keq a k <;> exact List.cons_ne_nil _ _
end
section
variable {C:Cx} {B:Buf} {f:Fm} {rs:List (Addr×Obj)} {ρ:Loc} {σ:St} {g:G} {s:Shared} {E:Value→Shared→Prop} {A:Around}
theorem Rel.fresh (Rl:Rel C B f rs ρ σ g s) {p:Addr×Obj} (h:p∈g.led rs):f.h₀.get? p.1=none∧p.1≠f.L:=⟨(Rl.news p h).2.2,(Rl.news p h).2.1⟩
theorem Rel.turn (Rl:Rel C B f rs ρ σ g s) {i:Nat} {o o':O} {a:Addr} {ob ob':Obj} {h':Heap} {t:Nat} (hi:σ[i]?=some o) (hm:a1u o=true) (hm':a1u o'=true) (ha:g.as[i]?=some a) (ho:g.os[i]?=some ob)
  (hs:Heap.SameBut a s.heap h') (hob:h'.get? a=some ob') (rr:ORep C B g o' ob') :
  Rel C B f rs ρ (setAt σ i o') ⟨g.as,g.os.set i ob',g.fz⟩ { s with heap:=h',toks:=t }∧Ext g ⟨g.as,g.os.set i ob',g.fz⟩:=by
 refine exa ?_ Rl.loc;rintro m F l
 refine exxx ?_ (Rl.split hi hm);rintro a' ob2 pre;refine exaa ?_;rintro post ha' ho';refine eaaa ?_;rintro _ _ e1;refine eaa ?_;rintro e2 e3 e4
 rw [ha] at ha';cases ha'
 have fr:=Rl.fresh (a2f ha ho)
 have N:=Rl.news
 rw [e1] at N
 refine ⟨Rl.put hi hm hm' l (F.change hs fr.2 fr.1) ?_ rr,⟨cD _,fun z0 h=>h⟩⟩
 rw [e4]
 exact N.setAt e2 e3 hs hob
noncomputable abbrev QT (C:Cx) (B:Buf) (f:Fm) (rs:List (Addr×Obj)) (ρ:Loc) (g:G) (k:St→Option R) (r:R) (Q:Unit→Shared→Prop):Prop:=∀ σ' g' s',k σ'=some r→Rel C B f rs ρ σ' g' s'→Ext g g'→Q () s'
variable {k:St→Option R} {Q:Unit→Shared→Prop} {a:Addr} {ob:Obj} {j:Nat} {i x:D} {iv xv:Value} {es:List (D×D)}
theorem set_int {o:O} {kvs:List (Int×Value)} {i:Int} {t:Tok} (hd:ob.IsDictOf (PySem.intKind C.prog C.w) kvs) (hk:KVI C B g.fz es kvs) (z:szOk es.length=true) (ho:σ[j]?=some o) (hm:a1u o=true) (ha:g.as[j]?=some a) (hob:g.os[j]?=some ob) (hg:s.heap.get? a=some ob) (h:k (setAt σ j (.dict (dput (.int i) x es)))=some r) (Rl:Rel C B f rs ρ σ g s)
  (hx:DRep C B g.fz x xv) (q:QT C B f rs ρ g k r Q):wpAny C.M A (setItem (.ref a) (.int i t) xv) Q E s:=by
 refine wpAny_setItem_pairs (intKind_is _ _ _ _) (Heap.dictOf_iff.mpr ⟨_,hg,hd⟩) (fun h2 hd2 hs2 => ?_) (by rw [← hk.length];exact a2n z)
 refine exa ?_ (Heap.dictOf_iff.mp hd2);rintro ob' ho' hd'
 have hn:(kvs.map (·.1)).Nodup:=by revert hd;refine exxa ?_;rintro _ _ _;refine eaaa ?_;rintro _ _ _ hn;exact hn
 rw [a3e hn] at hd'
 refine aE ?_ (Rl.turn (o' := .dict (dput (.int i) x es)) (t:=s.toks+1) ho hm rfl ha hob hs2 ho' (RDE.ints _ _ (a7l _ _ _) hd' (hk.put hx)));rintro R' X'
 exact q _ _ _ h R' X'
theorem set_str {o:O} {kvs:List (Str×Value)} {i:Str} {t:Tok} (hd:ob.IsDictOf (PySem.strKind C.prog C.w) kvs) (hk:KVS C B g.fz es kvs) (z:szOk es.length=true) (ho:σ[j]?=some o) (hm:a1u o=true) (ha:g.as[j]?=some a) (hob:g.os[j]?=some ob) (hg:s.heap.get? a=some ob) (h:k (setAt σ j (.dict (dput (.str i) x es)))=some r) (Rl:Rel C B f rs ρ σ g s)
  (hx:DRep C B g.fz x xv) (q:QT C B f rs ρ g k r Q):wpAny C.M A (setItem (.ref a) (.str i t) xv) Q E s:=by
 refine wpAny_setItem_pairs (strKind_is _ _ _ _) (Heap.dictOf_iff.mpr ⟨_,hg,hd⟩) (fun h2 hd2 hs2 => ?_) (by rw [← hk.length];exact a2n z)
 refine exa ?_ (Heap.dictOf_iff.mp hd2);rintro ob' ho' hd'
 have hn:(kvs.map (·.1)).Nodup:=by revert hd;refine exxa ?_;rintro _ _ _;refine eaaa ?_;rintro _ _ _ hn;exact hn
 rw [a3e hn] at hd'
 refine aE ?_ (Rl.turn (o' := .dict (dput (.str i) x es)) (t:=s.toks+1) ho hm rfl ha hob hs2 ho' (RDE.strs _ _ (a7l _ _ _) hd' (hk.put hx)));rintro R' X'
 exact q _ _ _ h R' X'
theorem dict_ints {fz:List (Addr×Obj)} {i:Int} (hr:DictRep C B fz es ob) (hk:keysOk (.int i) es=true):∃ kvs,ob.IsDictOf (PySem.intKind C.prog C.w) kvs∧KVI C B fz es kvs:=by
 induction hr with
 | empty e a b=>subst e;exact ⟨[],a,rfl⟩
 | «ints» kvs n a r=>exact ⟨kvs,a,r⟩
 | «strs» kvs n a r =>
  induction es using aK with
  | nil=>exact absurd rfl n
  | cons p es=>obtain ⟨x,y⟩:=p;exact nob ((ki_no r).symm.trans (a0k hk))
theorem b2a {fz:List (Addr×Obj)} {i:Str} (hr:DictRep C B fz es ob) (hk:keysOk (.str i) es=true):∃ kvs,ob.IsDictOf (PySem.strKind C.prog C.w) kvs∧KVS C B fz es kvs:=by
 induction hr with
 | empty e a b=>subst e;exact ⟨[],b,rfl⟩
 | «strs» kvs n a r=>exact ⟨kvs,a,r⟩
 | «ints» kvs n a r =>
  induction es using aK with
  | nil=>exact absurd rfl n
  | cons p es=>obtain ⟨x,y⟩:=p;exact nob ((ks_no r).symm.trans (a0k hk))
theorem b4b (h:(bif keysOk i es&&szOk es.length then k (setAt σ j (.dict (dput i x es))) else none)=some r) (ho:σ[j]?=some (.dict es)) (ha:g.as[j]?=some a) (hob:g.os[j]?=some ob) (hg:s.heap.get? a=some ob) (hr:DictRep C B g.fz es ob) (Rl:Rel C B f rs ρ σ g s)
  (hi:DRep C B g.fz i iv) (hx:DRep C B g.fz x xv) (q:QT C B f rs ρ g k r Q):wpAny C.M A (setItem (.ref a) iv xv) Q E s:=by
 have z1:=a0k (a0b h)
 have z2:=a0e (a0b h)
 have h:=a0c h
 induction i using D.casesOn with
 | int i=>induction hi with | mk t =>
  refine exa ?_ (dict_ints hr z1);rintro kvs hd hk
  exact set_int hd hk z2 ho rfl ha hob hg h Rl hx q
 | str i=>induction hi with | mk t =>
  refine exa ?_ (b2a hr z1);rintro kvs hd hk
  exact set_str hd hk z2 ho rfl ha hob hg h Rl hx q
 | _=>exact nob z1
theorem b4c {xs:List D} {i:Int} {t:Tok} (h:(bif decide (0≤i)&&decide (i < xs.length)&&szOk xs.length then k (setAt σ j (.list (setAt xs i.toNat x))) else none)=some r) (ho:σ[j]?=some (.list xs)) (ha:g.as[j]?=some a) (hob:g.os[j]?=some ob) (hg:s.heap.get? a=some ob) (hr:ORep C B g (.list xs) ob) (Rl:Rel C B f rs ρ σ g s)
  (hx:DRep C B g.fz x xv) (q:QT C B f rs ρ g k r Q):wpAny C.M A (setItem (.ref a) (.int i t) xv) Q E s:=by
 have z0:=of_decide_eq_true (a0k (a0k (a0b h)))
 have z1:=of_decide_eq_true (a0e (a0k (a0b h)))
 have z2:=a1a (a0e (a0b h))
 have h:=a0c h
 revert hr;refine exxa ?_;rintro vs n rfl hr
 have hlen:=hr.length
 refine ki_setAt hg z0 (by lia) (by rw [cG,← hlen];exact z1) ?_
 have hu:(s.heap.update a (Obj.mapSeq fun x=>x.setIfInBounds i.toNat xv)).get? a=some (Obj.mapSeq (fun x=>x.setIfInBounds i.toNat xv) (W.listOf vs.toArray n)):=Heap.get?_update_self _ hg rfl
 obtain ⟨R',X'⟩:=Rl.turn (o' := .list (setAt xs i.toNat x)) (t:=s.toks) ho rfl rfl ha hob (Heap.SameBut.update ..) hu (by
  refine ⟨vs.set i.toNat xv,if (vs.set i.toNat xv).toArray.size==vs.toArray.size then n else n+1,?_,hr.set hx i.toNat⟩
  have e:vs.toArray.setIfInBounds i.toNat xv=(vs.set i.toNat xv).toArray:=by simp
  show Obj.mapSeq _ (Obj.mk _ _ (.seq vs.toArray n) _)=_
  simp only [Obj.mapSeq,e])
 exact q _ _ _ h R' X'
theorem b4d {v:V} {val:Value} (h:setitem v i x σ k=some r) (ok:FmOk C f) (Rl:Rel C B f rs ρ σ g s)
  (hv:VRep C B g v val) (hi:DRep C B g.fz i iv) (hx:DRep C B g.fz x xv) (q:QT C B f rs ρ g k r Q):wpAny C.M A (setItem val iv xv) Q E s:=by
 induction v with
 | d y=>exact no h
 | r j =>
  induction a4w h Rl hv with | mk o a ob ho ha hob hg hr _ h =>
  induction o with
  | dict es=>exact b4b h ho ha hob hg hr Rl hi hx q
  | list xs=>induction a1e h hi with | mk i t h=>exact b4c h ho ha hob hg hr Rl hx q
  | _=>exact no h
end
end Mine
end
section
namespace Mine
open PySem PySem.W PySem.Spec PySem.Calls PyProof.Rows PySem.SeqAt
section
variable {C:Cx} {B:Buf} {f:Fm} {rs:List (Addr×Obj)} {ρ:Loc} {σ:St} {g:G} {s:Shared} {E:Value→Shared→Prop} {A:Around}
inductive Fzn (C:Cx) (B:Buf) (f:Fm) (rs:List (Addr×Obj)) (ρ:Loc) (g:G) (s:Shared) (σ':St) (P:List (Addr×Obj)→Prop):Prop
 | mk (g':G):Rel C B f rs ρ σ' g' s→Ext g g'→g'.as=g.as→g'.os=g.os→P g'.fz→Fzn C B f rs ρ g s σ' P
theorem frz_list (Rl:Rel C B f rs ρ σ g s) {i:Nat} {a:Addr} {ob:Obj} {xs:List D} (ho:σ[i]?=some (.list xs)) (ha:g.as[i]?=some a) (hob:g.os[i]?=some ob) (hr:ORep C B g (.list xs) ob) :
  Fzn C B f rs ρ g s (setAt σ i (.frz (.lst xs))) fun fz=>DRep C B fz (.lst xs) (.ref a):=by
 revert hr;refine exxa ?_;rintro vs m rfl hr
 have dr:DRep C B ((a,W.listOf vs.toArray m)::g.fz) (.lst xs) (.ref a) := .lst xs vs a m (.inl (.head _)) (hr.mono (cH _ _))
 refine aE ?_ (Rl.freeze (o' := .frz (.lst xs)) ho rfl ha hob rfl (fun x e=>by cases e;exact dr));rintro R' X
 exact .mk _ R' X rfl rfl dr
theorem frz_dict (Rl:Rel C B f rs ρ σ g s) {i:Nat} {a:Addr} {ob:Obj} {es:List (D×D)} (ho:σ[i]?=some (.dict es)) (ha:g.as[i]?=some a) (hob:g.os[i]?=some ob) (hr:DictRep C B g.fz es ob) (hl:(a==sysModules)=false) :
  Fzn C B f rs ρ g s (setAt σ i (.frz (.dct es))) fun fz=>DRep C B fz (.dct es) (.ref a):=by
 have dr:DRep C B ((a,ob)::g.fz) (.dct es) (.ref a) := .dct es a ob (.inl (.head _)) hl (hr.mono (cH _ _))
 refine aE ?_ (Rl.freeze (o' := .frz (.dct es)) ho rfl ha hob rfl (fun x e=>by cases e;exact dr));rintro R' X
 exact .mk _ R' X rfl rfl dr
theorem frz_inst (Rl:Rel C B f rs ρ σ g s) {i j c c':Nat} {a dx:Addr} {es:List DictEntry} {n:Nat} {fs:List (Str×V)} {gs:List (Str×D)} (hi:σ[i]?=some (.inst c' j)) (hj:σ[j]?=some (.ns fs)) (ha:g.as[i]?=some a) (hob:g.os[i]?=some (instObj c dx)) (hd:g.as[j]?=some dx) (hod:g.os[j]?=some (dictOf es n)) (fr:FReps C B g.fz gs es) :
  Fzn C B f rs ρ g s (setAt (setAt σ i (.frz (.obj c gs))) j .dead) fun fz=>DRep C B fz (.obj c gs) (.ref a):=by
 have hij:¬ i=j:=by intro e;subst e;rw [hi] at hj;cases hj
 have dr:DRep C B ((a,instObj c dx)::(dx,dictOf es n)::g.fz) (.obj c gs) (.ref a) :=
  .obj c gs a dx es n (.inl (.head _)) (.inl (.tail _ (.head _))) (fr.mono (fun z0 h => .tail _ (.tail _ h)))
 refine aE ?_ (Rl.freeze (o' := .dead) hj rfl hd hod rfl (fun x e=>by cases e));rintro R2 X2
 have hi2:(setAt σ j .dead)[i]?=some (.inst c' j):=by rw [a1x,aY (fun e=>hij e.symm)];exact hi
 refine aE ?_ (R2.freeze (o' := .frz (.obj c gs)) hi2 rfl ha hob rfl (fun x e=>by cases e;exact dr));rintro R3 X3
 have e:setAt (setAt σ j O.dead) i (.frz (.obj c gs))=setAt (setAt σ i (.frz (.obj c gs))) j O.dead:=by
  rw [a1x,a1x,a1x,a1x];exact List.set_comm _ _ (fun e=>hij e.symm)
 rw [e] at R3
 exact .mk _ R3 (X2.trans X3) rfl rfl dr
mutual
theorem fz_snd (ok:FmOk C f):∀ (n:Nat) (σ:St) (g:G) (v:V) (val:Value) (p:D×St),fz n σ v=some p→Rel C B f rs ρ σ g s→VRep C B g v val →
  Fzn C B f rs ρ g s p.2 fun fz=>DRep C B fz p.1 val
 | n,σ,g,.d x,val,p,h,Rl,hv=>by
  have h:some (x,σ)=some p:=by cases n <;> exact h
  have h_:=Option.some.inj h;subst h_
  exact .mk g Rl (Ext.refl _) rfl rfl hv
 | 0,σ,g,.r i,val,p,h,Rl,hv=>no h
 | n+1,σ,g,.r i,val,p,h,Rl,hv=>by
  induction a4w h Rl hv with | mk o a ob ho ha hob hg hr hl h =>
  induction o with
  | frz x =>
   have h_:=Option.some.inj h;subst h_
   exact .mk g Rl (Ext.refl _) rfl rfl ((Rl.own _ _ a ob ho ha hob).2.2.2.1 _ rfl)
  | list xs=>have h_:=Option.some.inj h;subst h_;exact frz_list Rl ho ha hob hr
  | dict es=>have h_:=Option.some.inj h;subst h_;exact frz_dict Rl ho ha hob hr hl
  | inst c j =>
   revert hr;refine exa ?_;rintro dx hd rfl
   cases a4w h Rl ⟨dx,hd,rfl⟩ with | mk o _ ob2 hj hd1 hod _ nr _ h =>
   cases Option.some.inj (hd.symm.trans hd1)
   induction o with
   | ns fs =>
    revert nr;refine exxa ?_;rintro es m rfl nr
    have h:optK (fzs n σ fs) _=some p:=h
    cases hf:fzs n σ fs with
    | none=>rw [hf] at h;exact no h
    | some w =>
     rw [hf] at h
     induction fzs_snd ok n σ g fs es w hf Rl nr with | mk g1 R1 X1 ea eo fr =>
     cases b0m h R1 ⟨a,by rw [ea];exact ha,rfl⟩ with | mk c1 j1 fs1 _ _ _ _ hi1 hj1 _ _ _ _ h =>
     have e:=cL (a0b h)
     subst e
     have h_:=Option.some.inj (a0c h);subst h_
     induction frz_inst R1 hi1 hj1 (by rw [ea];exact ha) (by rw [eo];exact hob) (by rw [ea];exact hd) (by rw [eo];exact hod) fr with | mk g2 R2 X2 ea2 eo2 dr =>
     exact .mk g2 R2 (X1.trans X2) (ea2.trans ea) (eo2.trans eo) dr
   | _=>exact no h
  | _=>exact no h
theorem fzs_snd (ok:FmOk C f):∀ (n:Nat) (σ:St) (g:G) (fs:List (Str×V)) (es:List DictEntry) (p:List (Str×D)×St),fzs n σ fs=some p→Rel C B f rs ρ σ g s→NReps C B g fs es →
  Fzn C B f rs ρ g s p.2 fun fz=>FReps C B fz p.1 es
 | n,σ,g,[],es,p,h,Rl,nr=>by
  have h:some (([]:List (Str×D)),σ)=some p:=by cases n <;> exact h
  have h_:=Option.some.inj h;subst h_;subst nr
  exact .mk g Rl (Ext.refl _) rfl rfl .nil
 | 0,σ,g,_::_,es,p,h,Rl,nr=>no h
 | n+1,σ,g,(x,v)::fs,es,p,h,Rl,nr=>by
  induction nr with | mk val hh t es hv nr =>
  have h:optK (fz n σ v) _=some p:=h
  cases h1:fz n σ v with
  | none=>rw [h1] at h;exact no h
  | some w =>
   rw [h1] at h
   induction fz_snd ok n σ g v val w h1 Rl hv with | mk g1 R1 X1 ea eo dr =>
   have h:optK (fzs n w.2 fs) _=some p:=h
   cases h2:fzs n w.2 fs with
   | none=>rw [h2] at h;exact no h
   | some u =>
    rw [h2] at h
    have h_:=Option.some.inj h;subst h_
    induction fzs_snd ok n w.2 g1 fs es u h2 R1 (nr.ext X1) with | mk g2 R2 X2 ea2 eo2 fr =>
    exact .mk g2 R2 (X1.trans X2) (ea2.trans ea) (eo2.trans eo) (.mk _ _ _ _ (dr.mono X2.fz) fr)
end
inductive ToD (C:Cx) (B:Buf) (f:Fm) (rs:List (Addr×Obj)) (ρ:Loc) (g:G) (s:Shared) (k:D→St→Option R) (r:R) (val:Value):Prop
 | mk (d:D) (σ':St) (g':G):k d σ'=some r→Rel C B f rs ρ σ' g' s→Ext g g'→g'.as=g.as→g'.os=g.os→DRep C B g'.fz d val→ToD C B f rs ρ g s k r val
theorem to_D {v:V} {val:Value} {k:D→St→Option R} (h:toD v σ k=some r) (ok:FmOk C f) (Rl:Rel C B f rs ρ σ g s) (hv:VRep C B g v val):ToD C B f rs ρ g s k r val:=by
 induction v with
 | d x=>exact .mk x σ g h Rl (Ext.refl _) rfl rfl hv
 | r i =>
  have h:optK (fz 20 σ (.r i)) (fun p=>k p.1 p.2)=some r:=h
  cases h1:fz 20 σ (.r i) with
  | none=>rw [h1] at h;exact no h
  | some p =>
   rw [h1] at h
   induction fz_snd ok 20 σ g _ val p h1 Rl hv with | mk g1 R1 X1 ea eo dr =>
   exact .mk p.1 p.2 g1 h R1 X1 ea eo dr
inductive ToDs (C:Cx) (B:Buf) (f:Fm) (rs:List (Addr×Obj)) (ρ:Loc) (g:G) (s:Shared) (k:List D→St→Option R) (r:R) (vals:List Value):Prop
 | mk (ds:List D) (σ':St) (g':G):k ds σ'=some r→Rel C B f rs ρ σ' g' s→Ext g g'→g'.as=g.as→g'.os=g.os→DReps C B g'.fz ds vals→ToDs C B f rs ρ g s k r vals
theorem a4x (ok:FmOk C f):∀ {vs:List V} {vals:List Value} {σ:St} {g:G} {k:List D→St→Option R},toDs vs σ k=some r→Rel C B f rs ρ σ g s→VReps C B g vs vals→ToDs C B f rs ρ g s k r vals:=by
 intro x_
 induction x_ with
 | nil =>
  intro _ σ g k h Rl hv
  subst hv;exact .mk [] σ g h Rl (Ext.refl _) rfl rfl .nil
 | cons v vs IH_ =>
  intro _ σ g k h Rl hv
  induction hv with | mk val vals hv hvs =>
  induction to_D h ok Rl hv with | mk d σ1 g1 h1 R1 X1 ea eo dr =>
  induction IH_ h1 R1 (hvs.ext X1) with | mk ds σ2' g2 h2 R2 X2 ea2 eo2 drs =>
  exact .mk (d::ds) σ2' g2 h2 R2 (X1.trans X2) (ea2.trans ea) (eo2.trans eo) (.mk _ _ (dr.mono X2.fz) drs)
theorem Rel.grow (Rl:Rel C B f rs ρ σ g s) {h':Heap} {t:Nat} (hk:∀ b o,s.heap.get? b=some o→h'.get? b=some o):Rel C B f rs ρ σ g { s with heap:=h',toks:=t }:=by
 refine exa ?_ Rl.loc;rintro m F l
 have N':News f.h₀ f.L h' (g.led rs):=fun p hp=>⟨hk _ _ (Rl.news p hp).1,(Rl.news p hp).2⟩
 exact ⟨⟨m,F.kept hk,LocD.move (Ext.refl _) Rl.news N' l⟩,N',Rl.lenA,Rl.lenO,Rl.nodup,Rl.own,Rl.rsF,Rl.rsA,Rl.gens,Rl.os⟩
theorem Rel.growF (Rl:Rel C B f rs ρ σ g s) {h':Heap} {t:Nat} {a:Addr} {ob:Obj} (hk:∀ b o,s.heap.get? b=some o→h'.get? b=some o) (ha:s.heap.objs.size≤a) (hob:h'.get? a=some ob) :
  Rel C B f rs ρ σ ⟨g.as,g.os,(a,ob)::g.fz⟩ { s with heap:=h',toks:=t }∧Ext g ⟨g.as,g.os,(a,ob)::g.fz⟩:=by
 refine exa ?_ Rl.loc;rintro m F l
 exact Rl.allocF l (F.kept hk) (Rl.news.kept_cons F hk ha hob) (fun p hp=>cX (cU (Rl.lt hp) ha))
end
end Mine
end
section
namespace Mine
open PySem PySem.W PySem.Spec PySem.Calls PyProof.Rows PySem.SeqAt
theorem insI_perm (a:Int):∀ l:List Int,(insI a l).Perm (a::l)
 | []=>aD.refl _
 | b::r=>by
  show (cond (decide (a≤b)) (a::b::r) (b::insI a r)).Perm _
  induction decide (a≤b) with
  | true=>exact aD.refl _
  | false=>exact (aD.cons b (insI_perm a r)).trans (aD.swap a b r)
theorem sortI_perm:∀ l:List Int,(sortI l).Perm l
 | []=>aD.refl _
 | a::r=>(insI_perm a _).trans (aD.cons a (sortI_perm r))
theorem a7m (a:Int):∀ l:List Int,l.Pairwise (· ≤ ·)→(insI a l).Pairwise (· ≤ ·)
 | [],_=>by simp [b1n]
 | b::r,h=>by
  show (cond (decide (a≤b)) (a::b::r) (b::insI a r)).Pairwise _
  by_cases hab:a≤b
  ·rw [decide_eq_true hab]
   refine List.Pairwise.cons (fun x hx => ?_) h
   rcases bP.mp hx with rfl | hx
   ·exact hab
   ·exact Int.le_trans hab ((cC.mp h).1 x hx)
  ·rw [decide_eq_false hab]
   refine List.Pairwise.cons (fun x hx => ?_) (a7m a r (cC.mp h).2)
   rcases bP.mp ((insI_perm a r).mem_iff.mp hx) with rfl | hx
   ·lia
   ·exact (cC.mp h).1 x hx
theorem a6b:∀ l:List Int,(sortI l).Pairwise (· ≤ ·)
 | [] => .nil
 | a::r=>a7m a _ (a6b r)
theorem sortI_eq {l l':List Int} (hp:l'.Perm l) (hs:l'.Pairwise (· ≤ ·)):l'=sortI l :=
 aD.eq_of_pairwise (fun a b z0 z0 h1 h2=>Int.le_antisymm h1 h2) hs (a6b l) (hp.trans (sortI_perm l).symm)
noncomputable def leS (a b:Str):Prop:=¬ (b.cps.toList < a.cps.toList)
theorem b2b {a b c:Str} (h1:leS a b) (h2:leS b c):leS a c:=by
 unfold leS at *
 rw [List.not_lt] at *
 exact List.le_trans h1 h2
theorem leS_anti {a b:Str} (h1:leS a b) (h2:leS b a):a=b:=by
 unfold leS at *
 rw [List.not_lt] at *
 have:=List.le_antisymm h1 h2
 obtain ⟨⟨a⟩⟩:=a;obtain ⟨⟨b⟩⟩:=b
 simp at this;subst this;rfl
theorem leS_total {a b:Str} (h:¬ leS a b):leS b a:=by
 unfold leS at *
 have h:=Classical.not_not.mp h
 rw [List.not_lt]
 exact List.le_of_lt h
theorem a7n (a:Str):∀ l:List Str,(insS a l).Perm (a::l)
 | []=>aD.refl _
 | b::r=>by
  show (cond (Spec.ltCps b.cps.toList a.cps.toList) (b::insS a r) (a::b::r)).Perm _
  induction ltCps b.cps.toList a.cps.toList with
  | false=>exact aD.refl _
  | true=>exact (aD.cons b (a7n a r)).trans (aD.swap a b r)
theorem a9k:∀ l:List Str,(sortS l).Perm l
 | []=>aD.refl _
 | a::r=>(a7n a _).trans (aD.cons a (a9k r))
theorem a7o (a:Str):∀ l:List Str,l.Pairwise leS→(insS a l).Pairwise leS
 | [],_=>by simp [insS_n]
 | b::r,h=>by
  show (cond (Spec.ltCps b.cps.toList a.cps.toList) (b::insS a r) (a::b::r)).Pairwise _
  rw [ltCps_eq]
  by_cases hab:b.cps.toList < a.cps.toList
  ·rw [decide_eq_true hab]
   refine List.Pairwise.cons (fun x hx => ?_) (a7o a r (cC.mp h).2)
   rcases bP.mp ((a7n a r).mem_iff.mp hx) with rfl | hx
   ·exact leS_total (fun e=>e hab)
   ·exact (cC.mp h).1 x hx
  ·rw [decide_eq_false hab]
   refine List.Pairwise.cons (fun x hx => ?_) h
   rcases bP.mp hx with rfl | hx
   ·exact hab
   ·exact b2b hab ((cC.mp h).1 x hx)
theorem a6c:∀ l:List Str,(sortS l).Pairwise leS
 | [] => .nil
 | a::r=>a7o a _ (a6c r)
theorem rising_pw:∀ (r:List Str) (x:Str),risingS x r=true→(x::r).Pairwise leS:=by
 intro x_
 induction x_ with
 | nil =>
  intro x _
  simp
 | cons y r IH_ =>
  intro x h
  unfold risingS at h
  refine aE ?_ (bool_and h);rintro h1 h2
  rw [ltCps_eq] at h1
  have h1:leS x y:=by unfold leS;simpa using h1
  have ih:=IH_ y h2
  refine List.Pairwise.cons (fun z hz => ?_) ih
  rcases bP.mp hz with rfl | hz
  ·exact h1
  ·exact b2b h1 ((cC.mp ih).1 z hz)
theorem sortS_eq {l l':List Str} (hp:l'.Perm l) (hs:PyProof.Rows.sortedS l'=true):l'=sortS l:=by
 refine aD.eq_of_pairwise (fun a b z0 z0 h1 h2=>leS_anti h1 h2) ?_ (a6c l) (hp.trans (a9k l).symm)
 induction l' using aK with
 | nil=>exact .nil
 | cons x r=>exact rising_pw r x hs
section
variable {C:Cx} {B:Buf} {fz:List (Addr×Obj)}
theorem ints_are {xs:List D} {vs:List Value} {is:List Int} (hr:DReps C B fz xs vs) (h:intsOf xs=some is):IntsAre vs is:=by
 have r:=picks (P:=PInt) int_is h hr
 clear h hr
 induction r with
 | nil=>exact .nil
 | cons a v r vs p _ ih=>induction p with | mk t=>exact .cons _ _ ih
theorem b2c {is:List Int} {vs:List Value} (h:IntsAre vs is):DReps C B fz (is.map .int) vs:=by
 induction h with
 | nil=>exact .nil
 | cons i t _ ih=>exact .cons _ _ _ _ (.int _ _) ih
theorem strs_are {xs:List D} {vs:List Value} {is:List Str} (hr:DReps C B fz xs vs) (h:strsOf xs=some is):StrsAre vs is:=by
 have r:=picks (P:=PStr) str_is h hr
 clear h hr
 induction r with
 | nil=>exact .nil
 | cons a v r vs p _ ih=>induction p with | mk t=>exact .cons _ _ ih
theorem b2d {is:List Str} {vs:List Value} (h:StrsAre vs is):DReps C B fz (is.map .str) vs:=by
 induction h with
 | nil=>exact .nil
 | cons i t _ ih=>exact .cons _ _ _ _ (.str _ _) ih
end
section
variable {C:Cx} {B:Buf} {f:Fm} {rs:List (Addr×Obj)} {ρ:Loc} {σ:St} {g:G} {s:Shared} {E:Value→Shared→Prop} {A:Around}
noncomputable abbrev QD (C:Cx) (B:Buf) (f:Fm) (rs:List (Addr×Obj)) (ρ:Loc) (σ:St) (g:G) (k:D→Option R) (r:R) (Q:Value→Shared→Prop):Prop :=
 ∀ d g' s' val,k d=some r→Rel C B f rs ρ σ g' s'→Ext g g'→DRep C B g'.fz d val→Q val s'
theorem b4e {l:Addr} {xs:List D} {vs:List Value} {k:D→Option R} {Q:Value→Shared→Prop} (h:a7e xs k=some r) (Rl:Rel C B f rs ρ σ g s) (hl:s.heap.IsList l vs.toArray) (hr:DReps C B g.fz xs vs)
  (q:QD C B f rs ρ σ g k r Q):wpAny C.M A (call (.builtin "sorted") [.ref l]) Q E s:=by
 have hz:xs.length < 64:=cO (a0b h)
 have h:=a0c h
 have hlen:=hr.length
 refine exa ?_ Rl.loc;rintro m F lc
 cases hi:intsOf xs with
 | some is =>
  rw [hi] at h
  refine sorted_N F Rl.news hl (ints_are hr hi) (by lia) fun h' vs' ns' e F' N' hI hp hs => ?_
  refine aE ?_ (Rl.allocF (t:=s.toks) lc F' N' (fun p hp=>cX (Nat.lt_succ_of_lt (Rl.lt hp))));rintro R' X
  have:=sortI_eq hp hs;subst this
  exact q _ _ _ _ h R' X (.lst _ vs' _ e (.inl (.head _)) (b2c hI))
 | none =>
  rw [hi] at h
  dsimp only at h
  cases hs:strsOf xs with
  | none=>rw [hs] at h;exact no h
  | some ss =>
   rw [hs] at h
   refine PyProof.Rows.sorted_N_str F Rl.news hl (strs_are hr hs) (by lia) fun h' vs' ns' e F' N' hI hp hs => ?_
   refine aE ?_ (Rl.allocF (t:=s.toks) lc F' N' (fun p hp=>cX (Nat.lt_succ_of_lt (Rl.lt hp))));rintro R' X
   have:=sortS_eq hp hs;subst this
   exact q _ _ _ _ h R' X (.lst _ vs' _ e (.inl (.head _)) (b2d hI))
theorem b2e {D:Addr} {vs:List Value} {ns:List Int} {Q:Value→Shared→Prop} {prog:Program} {w:World} (ho:s.heap.get? D=some (W.listOf vs.toArray 0)) (hI:IntsAre vs ns) (h64:vs.length < 64)
  (h:∀ (h':Heap) (vs':List Value) (e:Nat),(∀ b o,b≠D→s.heap.get? b=some o→h'.get? b=some o)→h'.get? D=some (W.listOf vs'.toArray e)→IntsAre vs' (sortI ns)→Q .none { s with heap:=h' }) :
  wpAny (model prog w) A (call (.builtin "list.sort") [.ref D]) Q E s:=by
 refine wpAny_call_entry slot_list_sort ⟨_,ho,rfl⟩ entry_list_sort (list_sort_tree (n:=0) ho hI h64 fun out ns' a1 a2 a3=>⟨_,rfl,?_⟩) (args_list_sort _)
 refine xE ?_ (sortedHeap_at (vs:=vs) (out:=out) (n:=0) ho);rintro e he
 have:=sortI_eq a2 a3;subst this
 exact h _ out.toList e (fun b o hb hg=>(sortedHeap_old hb (Heap.lt_size hg)).trans hg) he a1
theorem b2f {D:Addr} {vs:List Value} {ns:List Str} {Q:Value→Shared→Prop} {prog:Program} {w:World} (ho:s.heap.get? D=some (W.listOf vs.toArray 0)) (hI:StrsAre vs ns) (h64:vs.length < 64)
  (h:∀ (h':Heap) (vs':List Value) (e:Nat),(∀ b o,b≠D→s.heap.get? b=some o→h'.get? b=some o)→h'.get? D=some (W.listOf vs'.toArray e)→StrsAre vs' (sortS ns)→Q .none { s with heap:=h' }) :
  wpAny (model prog w) A (call (.builtin "list.sort") [.ref D]) Q E s:=by
 refine wpAny_call_entry slot_list_sort ⟨_,ho,rfl⟩ entry_list_sort (list_sort_treeK (n:=0) strKind_oneLt ho hI.keysOf (fun v₁ v₂ rest e=>keyKind_strs (by rw [← e];exact hI)) h64 fun st' hp hs=>⟨_,rfl,?_⟩) (args_list_sort _)
 refine exaa ?_ (sorted_out_str hI hp hs);rintro ss' h1 h2 h3
 refine xE ?_ (sortedHeap_at (vs:=vs) (out:=(arrOf st').map (·.2)) (n:=0) ho);rintro e he
 have:=sortS_eq h2 h3;subst this
 exact h _ ((arrOf st').map (·.2)).toList e (fun b o hb hg=>(sortedHeap_old hb (Heap.lt_size hg)).trans hg) he h1
noncomputable abbrev KeysAt {K:Type} [DecidableEq K] (C:Cx) (knd:PySem.KeyKind C.prog C.w K) (kvs:List (K×Value)) (vs:List Value):Prop:=vs.length=kvs.length∧∀ (j:Nat) (v:Value),vs[j]?=some v→∃ k x,kvs[j]?=some (k,x)∧knd.is k v=true
theorem int_key {i:Int} {u:Value} (h:(PySem.intKind C.prog C.w).is i u=true):∃ t,u = .int i t:=by
 induction u with
 | int j t =>
  have:j=i:=by simpa [PySem.intKind,Value.isInt] using h
  exact ⟨t,by rw [this]⟩
 | _=>exact nob h
theorem str_key {i:Str} {u:Value} (h:(PySem.strKind C.prog C.w).is i u=true):∃ t,u = .str i t:=by
 induction u with
 | str j t =>
  have:j=i:=by simpa [PySem.strKind,Value.isStrOf] using h
  exact ⟨t,by rw [this]⟩
 | _=>exact nob h
theorem ki_are {fz:List (Addr×Obj)}:∀ {es:List (D×D)} {kvs:List (Int×Value)},KVI C B fz es kvs→∃ ns,intsOf (es.map Prod.fst)=some ns∧∀ vs,KeysAt C (PySem.intKind C.prog C.w) kvs vs→IntsAre vs ns
 | [],_,h=>by
  subst h
  refine ⟨[],rfl,fun vs hv => ?_⟩
  induction vs using aK with
  | nil=>exact .nil
  | cons _ _=>cases hv.1
 | (x,d)::es,_,h=>by
  induction x using D.casesOn with
  | int i =>
   induction h with | mk v kvs hx hr =>
   refine exa ?_ (ki_are (es:=es) hr);rintro ns h1 h2
   refine ⟨i::ns,by show (intsOf (es.map Prod.fst)).map _=_;rw [h1];rfl,fun vs hv => ?_⟩
   induction vs using aK with
   | nil=>cases hv.1
   | cons u us =>
    refine exxa ?_ (hv.2 0 u rfl);rintro k0 x0 e0 hk0
    cases e0
    refine xE ?_ (int_key hk0);rintro t rfl
    exact .cons _ _ (h2 us ⟨Nat.succ.inj hv.1,fun j v hj=>hv.2 (j+1) v hj⟩)
  | _=>exact h.elim
theorem ks_are {fz:List (Addr×Obj)}:∀ {es:List (D×D)} {kvs:List (Str×Value)},KVS C B fz es kvs→∃ ns,strsOf (es.map Prod.fst)=some ns∧∀ vs,KeysAt C (PySem.strKind C.prog C.w) kvs vs→StrsAre vs ns
 | [],_,h=>by
  subst h
  refine ⟨[],rfl,fun vs hv => ?_⟩
  induction vs using aK with
  | nil=>exact .nil
  | cons _ _=>cases hv.1
 | (x,d)::es,_,h=>by
  induction x using D.casesOn with
  | str i =>
   induction h with | mk v kvs hx hr =>
   refine exa ?_ (ks_are (es:=es) hr);rintro ns h1 h2
   refine ⟨i::ns,by show (strsOf (es.map Prod.fst)).map _=_;rw [h1];rfl,fun vs hv => ?_⟩
   induction vs using aK with
   | nil=>cases hv.1
   | cons u us =>
    refine exxa ?_ (hv.2 0 u rfl);rintro k0 x0 e0 hk0
    cases e0
    refine xE ?_ (str_key hk0);rintro t rfl
    exact .cons _ _ (h2 us ⟨Nat.succ.inj hv.1,fun j v hj=>hv.2 (j+1) v hj⟩)
  | _=>exact h.elim
theorem Fr.over {m:Str→Option Value} {h' h2:Heap} {L:List (Addr×Obj)} {o o2:Obj} {D:Addr} (F:Fr f.h₀ f.L h' m) (N:News f.h₀ f.L h' ((D,o)::L)) (lt:∀ p∈L,p.1 < D) (hk:∀ b o,b≠D→h'.get? b=some o→h2.get? b=some o) (he:h2.get? D=some o2):Fr f.h₀ f.L h2 m∧News f.h₀ f.L h2 ((D,o2)::L):=by
 have hD:=(N _ (.head _)).2
 refine ⟨⟨F.ns.at' fun o ho=>hk _ _ (Ne.symm hD.1) ho,fun b o hb=>hk b o (fun e2 => ?_) (F.keep b o hb),F.above⟩,fun p hp => ?_⟩
 ·subst e2;rw [hD.2] at hb;exact nNS hb
 ·rcases bP.mp hp with rfl | hp
  ·exact ⟨he,hD⟩
  ·exact ⟨hk _ _ (cX (lt p hp)) (N p (.tail _ hp)).1,(N p (.tail _ hp)).2⟩
theorem a4j {K:Type} [DecidableEq K] {knd:PySem.KeyKind C.prog C.w K} {kvs:List (K×Value)} {d:Addr} {o:Obj} {n:Nat} {xs:List D} {k:D→Option R} {Q:Value→Shared→Prop} (h:a7e xs k=some r) (hA:A.handled=none) (Rl:Rel C B f rs ρ σ g s) (hg:s.heap.get? d=some o) (lo:(d==sysModules)=false) (hd:o.IsDictOf knd kvs) (hkl:kvs.length=n) (hn:xs.length=n)
  (hvs:∀ vs,KeysAt C knd kvs vs→(∃ ns,intsOf xs=some ns∧IntsAre vs ns)∨(intsOf xs=none∧∃ ss,strsOf xs=some ss∧StrsAre vs ss))
  (q:QD C B f rs ρ σ g k r Q):wpAny C.M A (call (.builtin "sorted") [.ref d]) Q E s:=by
 have hz:xs.length < 64:=cO (a0b h)
 have h:=a0c h
 rw [hn] at hz
 refine exa ?_ Rl.loc;rintro m F lc
 refine xE ?_ ((Heap.dictOf_iff.mpr ⟨_,hg,hd⟩).dictAt);rintro ep hat
 refine kdu_sorted (kdl_dict (knd:=knd) (kvs:=kvs) (ep:=ep) lo) hA F Rl.news hat (by rw [hkl,sizeLine_eq];lia) fun D h' tk vs F' N' lt hl hv => ?_
 have hD:=(N' _ (.head _)).1
 have hlv:vs.length < 64:=by rw [hl,hkl];exact hz
 rcases hvs vs ⟨hl,hv⟩ with z0_ | z1_
 ·revert z0_;refine exa ?_;rintro ns e1 e2
  rw [e1] at h
  refine b2e (s:={ s with heap:=h',toks:=tk }) hD e2 hlv fun h2 vs' e hk he hI => ?_
  refine aE ?_ (Fr.over F' N' lt hk he);rintro F2 N2
  refine aE ?_ (Rl.allocF (t:=tk) lc F2 N2 (fun p hp=>cX (lt p hp)));rintro R' X
  exact q _ _ _ _ h R' X (.lst _ vs' _ e (.inl (.head _)) (b2c hI))
 ·revert z1_;refine eaxa ?_;rintro e0 ss e1 e2
  rw [e0] at h
  dsimp only at h
  rw [e1] at h
  refine b2f (s:={ s with heap:=h',toks:=tk }) hD e2 hlv fun h2 vs' e hk he hI => ?_
  refine aE ?_ (Fr.over F' N' lt hk he);rintro F2 N2
  refine aE ?_ (Rl.allocF (t:=tk) lc F2 N2 (fun p hp=>cX (lt p hp)));rintro R' X
  exact q _ _ _ _ h R' X (.lst _ vs' _ e (.inl (.head _)) (b2d hI))
theorem a7p {d:Addr} {es:List (D×D)} {o:Obj} {k:D→Option R} {Q:Value→Shared→Prop} (h:a7e (es.map Prod.fst) k=some r) (hA:A.handled=none) (Rl:Rel C B f rs ρ σ g s) (hg:s.heap.get? d=some o) (lo:(d==sysModules)=false) (hr:DictRep C B g.fz es o)
  (q:QD C B f rs ρ σ g k r Q):wpAny C.M A (call (.builtin "sorted") [.ref d]) Q E s:=by
 induction hr with
 | empty e a b=>subst e;exact a4j (kvs:=[]) h hA Rl hg lo a rfl rfl (fun vs hv => .inl ⟨[],rfl,by
   induction vs using aK with
   | nil=>exact .nil
   | cons _ _=>cases hv.1⟩) q
 | «ints» kvs n a r =>
  refine exa ?_ (ki_are r);rintro ns h1 h2
  exact a4j h hA Rl hg lo a r.length.symm (bF _) (fun vs hv => .inl ⟨ns,h1,h2 vs hv⟩) q
 | «strs» kvs n a r =>
  refine exa ?_ (ks_are r);rintro ns h1 h2
  refine a4j h hA Rl hg lo a r.length.symm (bF _) (fun vs hv => .inr ⟨?_,ns,h1,h2 vs hv⟩) q
  induction es using aK with
  | nil=>exact absurd rfl n
  | cons e es =>
   obtain ⟨x,d⟩:=e
   induction x using D.casesOn with
   | int _=>exact r.elim
   | _=>rfl
end
end Mine
end
section
namespace Mine
open PySem PySem.W PySem.Spec PySem.Calls PyProof.Rows PySem.SeqAt
noncomputable def ktVal:KT→Value
 | .none => .type "NoneType" | .int => .type "int" | .list => .type "list" | .dict => .type "dict" | .own c => .ref c
noncomputable def cVal:D→Option Value
 | .ty t=>some (.type (tyName t))
 | .g a=>some (.ref a)
 | _=>none
structure IsiOk (C:Cx):Prop where
 one:∀ t c b,a2r C.T t c=some b→∃ v,cVal c=some v∧kitOne C.K (ktVal t) v=some b
 own:∀ c,C.T.isCls c=true→plainGet C.K c "__class__" = true∧hasDictIn C.K c=true∧findIn C.K (.ref c) "__class__" = some (some (.builtin "object.__class__")) ∧
  specialIn C.K (.builtin "object.__class__") "__get__" = some (some (.builtin "getset_descriptor.__get__"))∧takesIn C.K (.builtin "object.__class__")=some true∧mroIn C.K c (.type "object")=some true
theorem a4d {α:Type} {b:Bool} {x:Option α} {r:α} (h:(bif b then none else x)=some r):x=some r:=by
 induction b with
 | false=>exact h
 | true=>exact no h
theorem a5p {T:Tabs} {c:Nat} {d:D} {b:Bool} (h:a2r T (.own c) d=some b):T.isCls c=true:=by
 induction d using D.casesOn with
 | ty u=>exact a0b (a4d h)
 | g a=>exact a0b (a0c h)
 | _=>exact no h
section
variable {C:Cx} {B:Buf} {f:Fm} {rs:List (Addr×Obj)} {ρ:Loc} {σ:St} {g:G} {s:Shared} {E:Value→Shared→Prop} {A:Around}
theorem tup_eq {c:D} {xs:List D} (h:tup? c=some xs):c = .tup xs:=by
 induction c using D.casesOn with
 | tup ys=>have h_:=Option.some.inj h;subst h_;rfl
 | _=>exact no h
theorem b0o {fz:List (Addr×Obj)} {c:D} {v cv:Value} (h:DRep C B fz c cv) (e:cVal c=some v):cv=v:=by
 induction c using D.casesOn with
 | ty t=>subst h;exact Option.some.inj e
 | g a=>cases h;exact Option.some.inj e
 | _=>exact no e
theorem isi_one {x:Value} {t:KT} {H:Heap→Prop} {c:D} {cv:Value} {b:Bool} {Q:Value→Shared→Prop} (io:IsiOk C) (ok:FmOk C f) (Rl:Rel C B f rs ρ σ g s) (Z:KitX C.K x (ktVal t) H) (p:H s.heap) (hx:x ≠ .builtin "__main__.__loader__#opaque")
  (h:a2r C.T t c=some b) (hc:DRep C B g.fz c cv) (q:∀ tk,Q (.bool b) { s with toks:=tk }):wpAny C.M A (call (.builtin "isinstance") [x,cv]) Q E s:=by
 refine exa ?_ (io.one t c b h);rintro v e1 e2
 have:=b0o hc e1;subst this
 exact kia_one Z (Rl.inK ok) p e2 hx q
inductive Two? {α β:Type} (F:α→α→Option β) (r:β):List α→Prop | mk (a b:α):F a b=some r→Two? F r [a,b]
theorem two_is {α β:Type} {xs:List α} {F:α→α→Option β} {r:β} (h:two? xs F=some r):Two? F r xs:=by
 induction xs using aK with
 | nil=>exact no h
 | cons a xs=>induction xs using aK with
  | nil=>exact no h
  | cons b xs=>induction xs using aK with
   | nil=>exact .mk a b h
   | cons _ _=>exact no h
theorem a0i {α β:Type} {o:Option α} {F:α→Option β} {b:β} (h:optK o F=some b):∃ a,o=some a∧F a=some b:=by
 induction o with
 | none=>exact no h
 | some a=>exact ⟨a,rfl,h⟩
theorem a7q {x:Value} {t:KT} {H:Heap→Prop} {c:D} {cv:Value} {b:Bool} {Q:Value→Shared→Prop} (io:IsiOk C) (ok:FmOk C f) (Rl:Rel C B f rs ρ σ g s) (Z:KitX C.K x (ktVal t) H) (p:H s.heap) (hx:x ≠ .builtin "__main__.__loader__#opaque")
  (h:b0f C.T t c=some b) (hc:DRep C B g.fz c cv) (q:∀ tk,Q (.bool b) { s with toks:=tk }):wpAny C.M A (call (.builtin "isinstance") [x,cv]) Q E s:=by
 have h:(match tup? c with | some xs=>two? xs fun c1 c2=>optK (a2r C.T t c1) fun a=>optK (a2r C.T t c2) fun b=>some (a||b) | none=>a2r C.T t c)=some b:=h
 cases e:tup? c with
 | none=>rw [e] at h;exact isi_one io ok Rl Z p hx h hc q
 | some xs =>
  rw [e] at h
  have e:=tup_eq e
  subst e
  induction hc with | mk vs a o n k1 k2 k3 k4 =>
  induction two_is h with | mk c1 c2 h =>
  refine exa ?_ (a0i h);rintro b1 h1 h
  refine exa ?_ (a0i h);rintro b2 h2 h
  have h_:=Option.some.inj h;subst h_
  induction k4 with | mk v1 _ d1 k4 =>
  induction k4 with | mk v2 _ d2 k4 =>
  subst k4
  refine exa ?_ (io.one t c1 b1 h1);rintro u1 e1 f1
  refine exa ?_ (io.one t c2 b2 h2);rintro u2 e2 f2
  have:=b0o d1 e1;subst this
  have:=b0o d2 e2;subst this
  have hg:=Rl.kn ok k1
  obtain ⟨oc,od,odt,osl⟩:=o
  dsimp only at k2 k3
  subst k2 k3
  refine kia_tup Z (Rl.inK ok) p hg ?_ hx q
  unfold kitAny
  rw [f1]
  induction b1 with
  | true=>rfl
  | false =>
   dsimp only
   unfold kitAny
   rw [f2]
   cases b2 <;> rfl
theorem dict_cls {fz:List (Addr×Obj)} {es:List (D×D)} {o:Obj} (h:DictRep C B fz es o):o.cls = .type "dict" := by
 induction h with
 | empty _ a _=>revert a;refine exxa ?_;rintro _ _ z _;exact z.1
 | «ints» _ _ a _=>revert a;refine exxa ?_;rintro _ _ z _;exact z.1
 | «strs» _ _ a _=>revert a;refine exxa ?_;rintro _ _ z _;exact z.1
theorem isi2_own {T:Tabs} {c:Nat} {d:D} {b:Bool} (h:b0f T (.own c) d=some b):T.isCls c=true:=by
 have h:(match tup? d with | some xs=>two? xs fun c1 c2=>optK (a2r T (.own c) c1) fun a=>optK (a2r T (.own c) c2) fun b=>some (a||b) | none=>a2r T (.own c) d)=some b:=h
 cases e:tup? d with
 | none=>rw [e] at h;exact a5p h
 | some xs =>
  rw [e] at h
  induction two_is h with | mk c1 c2 h =>
  refine exa ?_ (a0i h);rintro b1 h1 h
  exact a5p h1
theorem isinst_snd {v:V} {val cv:Value} {c:D} {b:Bool} {Q:Value→Shared→Prop} (io:IsiOk C) (h:isInstV C.T v c σ=some b) (ok:FmOk C f) (Rl:Rel C B f rs ρ σ g s) (hv:VRep C B g v val) (hc:DRep C B g.fz c cv)
  (q:∀ tk,Q (.bool b) { s with toks:=tk }):wpAny C.M A (call (.builtin "isinstance") [val,cv]) Q E s:=by
 have hn:=a2o Rl hv
 have h:(match norm σ v with | .d x=>optK (kindD x) fun t=>b0f C.T t c | .r _=>none)=some b:=h
 generalize norm σ v=w at h hn
 induction w with
 | r i=>exact no h
 | d x =>
  refine exa ?_ (a0i h);rintro t e h
  induction x using D.casesOn with
  | none=>subst hn;have h_:=Option.some.inj e;subst h_;exact a7q io ok Rl (t := .none) kitx_none trivial Value.noConfusion h hc q
  | int i=>induction hn with | mk u=>have h_:=Option.some.inj e;subst h_;exact a7q io ok Rl (t := .int) kitx_int trivial Value.noConfusion h hc q
  | lst xs=>induction hn with | mk vs a n k r=>have h_:=Option.some.inj e;subst h_;exact a7q io ok Rl (t := .list) kitx_list ⟨_,Rl.kn ok k,rfl⟩ Value.noConfusion h hc q
  | dct es=>induction hn with | mk a o k y r=>have h_:=Option.some.inj e;subst h_;exact a7q io ok Rl (t := .dict) kitx_dict ⟨_,Rl.kn ok k,dict_cls r⟩ Value.noConfusion h hc q
  | obj c fs =>
   induction hn with | mk a dx es n k1 k2 r =>
   have h_:=Option.some.inj e;subst h_
   refine eaaa ?_ (io.own c (isi2_own h));rintro z1 z2 z3;refine eaa ?_;rintro z4 z5 z6
   exact a7q io ok Rl (t := .own c) (kitx_own z1 z2 z3 z4 z5 z6) (⟨Rl.kn ok k1,rfl,rfl,Rl.kn ok k2⟩:W.InstAt s.heap a (instObj c dx) c (some (dictOf es n))) Value.noConfusion h hc q
  | _=>exact no e
inductive SeenF {α:Type} (C:Cx) (B:Buf) (g:G) (σ:St) (h:Heap) (F:D→Option α) (G':O→Option α) (r:α):Value→Prop
 | d (x:D) (v:Value):DRep C B g.fz x v→F x=some r→SeenF C B g σ h F G' r v
 | r (i:Nat) (o:O) (a:Addr) (ob:Obj):σ[i]?=some o→g.as[i]?=some a→g.os[i]?=some ob→h.get? a=some ob→ORep C B g o ob→(a==sysModules)=false→G' o=some r→SeenF C B g σ h F G' r (.ref a)
theorem b0p {α:Type} {v:V} {val:Value} {F:D→Option α} {G':O→Option α} {r:α} (h:seen v σ F G'=some r) (Rl:Rel C B f rs ρ σ g s) (hv:VRep C B g v val):SeenF C B g σ s.heap F G' r val:=by
 have hn:=a2o Rl hv
 have h:(match norm σ v with | .d x=>F x | .r i=>own σ i G')=some r:=h
 generalize norm σ v=w at h hn
 induction w with
 | d x=>exact .d x val hn h
 | r i=>induction a4w h Rl hn with | mk o a ob h1 h2 h3 h4 h5 h6 h=>exact .r i o a ob h1 h2 h3 h4 h5 h6 h
inductive LstF (C:Cx) (B:Buf) (g:G) (h:Heap) (F:List D→Option R) (r:R):Value→Prop
 | mk (xs:List D) (vs:List Value) (a:Addr) (n:Nat):h.get? a=some (W.listOf vs.toArray n)→DReps C B g.fz xs vs→F xs=some r→LstF C B g h F r (.ref a)
theorem onL_is {F:List D→Option R} {x:D} {v:Value} (h:onL x F=some r) (ok:FmOk C f) (Rl:Rel C B f rs ρ σ g s) (hx:DRep C B g.fz x v):LstF C B g s.heap F r v:=by
 induction x using D.casesOn with
 | lst xs=>induction hx with | mk vs a n k rr=>exact .mk xs vs a n (Rl.kn ok k) rr h
 | _=>exact no h
theorem b2g {F:List D→Option R} {o:O} {ob:Obj} {a:Addr} (h:a4q o F=some r) (hg:s.heap.get? a=some ob) (hr:ORep C B g o ob):LstF C B g s.heap F r (.ref a):=by
 induction o with
 | list xs=>revert hr;refine exxa ?_;rintro vs n rfl rr;exact .mk xs vs a n hg rr h
 | _=>exact no h
theorem len_lst {v:Value} {k:D→Option R} {Q:Value→Shared→Prop} (l:LstF C B g s.heap (fun xs=>szK xs.length k) r v) (Rl:Rel C B f rs ρ σ g s) (q:QD C B f rs ρ σ g k r Q):wpAny C.M A (call (.builtin "len") [v]) Q E s:=by
 induction l with | mk xs vs a n hg rr h =>
 have hz:=a1a (a0b h)
 have hl:=rr.length
 refine PyProof.Rows.len_list (a0r hg) (by rw [cG];lia) (q _ g _ _ ?_ (Rl.tok _) (Ext.refl _) (.int _ _))
 rw [cG,← hl];exact a0c h
theorem len_snd {v:V} {val:Value} {k:D→Option R} {Q:Value→Shared→Prop} (h:lenOf v σ k=some r) (ok:FmOk C f) (Rl:Rel C B f rs ρ σ g s) (hv:VRep C B g v val)
  (q:QD C B f rs ρ σ g k r Q):wpAny C.M A (call (.builtin "len") [val]) Q E s:=by
 induction b0p h Rl hv with
 | d x _ hx h =>
  induction x using D.casesOn with
  | bytes b=>induction hx with | mk t hb =>
   refine PySem.W.len_bytes (by have:=a1a (a0b h);rw [a1q];lia) (q _ g _ _ ?_ (Rl.tok _) (Ext.refl _) (.int _ _))
   rw [a1q];exact a0c h
  | lst xs=>exact len_lst (onL_is (x := .lst xs) h ok Rl hx) Rl q
  | buf=>induction hx with | mk t =>
   refine PySem.W.len_bytes (by have hz:=B.sz;rw [a1q];lia) ?_
   rw [a1q]
   exact q _ g _ _ h (Rl.tok _) (Ext.refl _) (.blen _)
  | _=>exact no h
 | r i o a ob h1 h2 h3 h4 h5 h6 h=>exact len_lst (b2g h h4 h5) Rl q
theorem sorted_snd {v:V} {val:Value} {k:D→Option R} {Q:Value→Shared→Prop} (h:seqOf v σ (fun xs=>a7e xs k)=some r) (hA:A.handled=none) (ok:FmOk C f) (Rl:Rel C B f rs ρ σ g s) (hv:VRep C B g v val)
  (q:QD C B f rs ρ σ g k r Q):wpAny C.M A (call (.builtin "sorted") [val]) Q E s:=by
 induction b0p h Rl hv with
 | d x _ hx h =>
  induction x using D.casesOn with
  | dct es=>induction hx with | mk a o k1 lo rr=>exact a7p h hA Rl (Rl.kn ok k1) lo rr q
  | _=>exact no h
 | r i o a ob h1 h2 h3 h4 h5 h6 h =>
  induction o with
  | list xs=>revert h5;refine exxa ?_;rintro vs n rfl rr;exact b4e h Rl (a0r h4) rr q
  | dict es=>exact a7p h hA Rl h4 h6 h5 q
  | _=>exact no h
inductive Args1 (C:Cx) (B:Buf) (g:G) (F:V→Option R) (r:R):List Value→Prop | mk (v:V) (val:Value):VRep C B g v val→F v=some r→Args1 C B g F r [val]
inductive Args2 (C:Cx) (B:Buf) (g:G) (F:V→V→Option R) (r:R):List Value→Prop | mk (v w:V) (val wal:Value):VRep C B g v val→VRep C B g w wal→F v w=some r→Args2 C B g F r [val,wal]
theorem a0y {args:List V} {vals:List Value} {F:V→Option R} (h:a3n args F=some r) (hv:VReps C B g args vals):Args1 C B g F r vals:=by
 induction args using aK with
 | nil=>exact no h
 | cons a args=>induction args using aK with
  | nil=>induction hv with | mk v vs h1 h2=>subst h2;exact .mk _ _ h1 h
  | cons _ _=>exact no h
theorem a4y {args:List V} {vals:List Value} {F:V→V→Option R} (h:args2 args F=some r) (hv:VReps C B g args vals):Args2 C B g F r vals:=by
 induction args using aK with
 | nil=>exact no h
 | cons a args=>induction args using aK with
  | nil=>exact no h
  | cons b args=>induction args using aK with
   | nil=>induction hv with | mk v vs h1 h2=>induction h2 with | mk w ws h2 h3=>subst h3;exact .mk _ _ _ _ h1 h2 h
   | cons _ _=>exact no h
inductive OnDv {α:Type} (C:Cx) (B:Buf) (g:G) (F:D→Option α) (r:α) (val:Value):Prop | mk (x:D):DRep C B g.fz x val→F x=some r→OnDv C B g F r val
theorem a0p {α:Type} {v:V} {val:Value} {F:D→Option α} {r:α} (h:onDv v F=some r) (hv:VRep C B g v val):OnDv C B g F r val:=by
 induction v with
 | d x=>exact .mk x hv h
 | r i=>exact no h
theorem a1d {α:Type} {v:V} {val:Value} {F:Int→Option α} {r:α} (h:onIv v F=some r) (hv:VRep C B g v val):OnI F r val:=by
 induction v with
 | d x=>exact a1e h hv
 | r i=>exact no h
theorem Rel.putN (Rl:Rel C B f rs ρ σ g s):∃ m,Fr f.h₀ f.L s.heap m∧∀ h' t,Fr f.h₀ f.L h' m→News f.h₀ f.L h' (g.led rs)→Rel C B f rs ρ σ g { s with heap:=h',toks:=t }:=by
 refine exa ?_ Rl.loc;rintro m F lc
 exact ⟨m,F,fun h' t F' N'=>⟨⟨m,F',LocD.move (Ext.refl _) Rl.news N' lc⟩,N',Rl.lenA,Rl.lenO,Rl.nodup,Rl.own,Rl.rsF,Rl.rsA,Rl.gens,Rl.os⟩⟩
theorem if_bif {α:Sort _} {p:Prop} [Decidable p] (a b:α):(if p then a else b)=(bif decide p then a else b):=by
 by_cases h:p
 ·rw [if_pos h,decide_eq_true h];rfl
 ·rw [if_neg h,decide_eq_false h];rfl
variable {k:D→Option R} {Q:Value→Shared→Prop}
theorem min_ok {x y:D} {a b:Value} (h:minD x y k=some r) (hA:A.handled=none) (Rl:Rel C B f rs ρ σ g s) (hx:DRep C B g.fz x a) (hy:DRep C B g.fz y b) (q:QD C B f rs ρ σ g k r Q):wpAny C.M A (call (.builtin "min") [a,b]) Q E s:=by
 refine exa ?_ Rl.putN;rintro m F p
 induction x using D.casesOn with
 | endp w=>induction hx with | mk t hw=>induction y using D.casesOn with
  | blen=>induction hy with | mk u =>
   refine min_two_N hA F Rl.news fun h' tk F' N'=>q _ g _ _ h (p h' tk F' N') (Ext.refl _) ?_
   have:=B.ok
   rw [if_neg (by lia),if_neg (by lia)];exact .mk _ hw
  | _=>exact no h
 | _=>exact no h
theorem max_ok {a b:Int} {t u:Tok} (h:k (.int (bif decide (a < b) then b else a))=some r) (hA:A.handled=none) (Rl:Rel C B f rs ρ σ g s) (q:QD C B f rs ρ σ g k r Q):wpAny C.M A (call (.builtin "max") [.int a t,.int b u]) Q E s:=by
 refine exa ?_ Rl.putN;rintro m F p
 refine max_two_N hA F Rl.news fun h' tk F' N'=>q _ g _ _ h (p h' tk F' N') (Ext.refl _) ?_
 by_cases e:a < b
 ·rw [decide_eq_true e,if_pos e,if_pos e];exact .int _ _
 ·rw [decide_eq_false e,if_neg e,if_neg e];exact .int _ _
theorem abs_ok {a:Int} {t:Tok} (h:k (.int (bif decide (a < 0) then -a else a))=some r) (Rl:Rel C B f rs ρ σ g s) (q:QD C B f rs ρ σ g k r Q):wpAny C.M A (call (.builtin "abs") [.int a t]) Q E s:=by
 refine call_abs_int fun u tk=>q _ g _ _ h (Rl.tok _) (Ext.refl _) ?_
 rw [← if_bif];exact .int _ _
theorem ord_ok {x:Str} {t:Tok} (h:(one? x.cps.toList fun c=>k (.int c))=some r) (Rl:Rel C B f rs ρ σ g s) (q:QD C B f rs ρ σ g k r Q):wpAny C.M A (call (.builtin "ord") [.str x t]) Q E s:=by
 obtain ⟨⟨l⟩⟩:=x
 have h:(one? l fun c=>k (.int c))=some r:=h
 induction l using aK with
 | nil=>exact no h
 | cons c l=>induction l using aK with
  | cons _ _=>exact no h
  | nil=>exact ord_of_one rfl (q _ g _ _ h (Rl.tok _) (Ext.refl _) (.int _ _))
theorem chr_ok {i:Int} {t:Tok} (h:(bif decide (0≤i)&&decide (i < 55296) then k (.str ⟨#[i.toNat]⟩) else none)=some r) (Rl:Rel C B f rs ρ σ g s) (q:QD C B f rs ρ σ g k r Q):wpAny C.M A (call (.builtin "chr") [.int i t]) Q E s:=by
 have z1:=of_decide_eq_true (a0k (a0b h))
 have z2:=of_decide_eq_true (a0e (a0b h))
 refine P.chr_of_int ?_ (q _ g _ _ (a0c h) (Rl.tok _) (Ext.refl _) (.str _ _))
 rw [decide_eq_false (by lia),decide_eq_false (by lia)];rfl
theorem b4f {b:BI} {args:List V} {vals:List Value} (io:IsiOk C) (h:builtin C.T b args σ k=some r) (hA:A.handled=none) (ok:FmOk C f) (Rl:Rel C B f rs ρ σ g s) (hvs:VReps C B g args vals)
  (q:QD C B f rs ρ σ g k r Q):wpAny C.M A (call (.builtin (b1p b)) vals) Q E s:=by
 induction b with
 | len=>induction a0y h hvs with | mk v val hv h=>exact len_snd h ok Rl hv q
 | min=>induction a4y h hvs with | mk v w val wal hv hw h=>induction a0p h hv with | mk x hx h=>induction a0p h hw with | mk y hy h=>exact min_ok h hA Rl hx hy q
 | max=>induction a4y h hvs with | mk v w val wal hv hw h=>induction a1d h hv with | mk x t h=>induction a1d h hw with | mk y u h=>exact max_ok h hA Rl q
 | abs=>induction a0y h hvs with | mk v val hv h=>induction a1d h hv with | mk x t h=>exact abs_ok h Rl q
 | isinstance=>induction a4y h hvs with | mk v w val wal hv hw h=>induction a0p h hw with | mk c hc h =>
  refine exa ?_ (a0i h);rintro b hi h
  exact isinst_snd io hi ok Rl hv hc fun tk=>q _ g _ _ h (Rl.tok _) (Ext.refl _) (.bool _)
 | sorted=>induction a0y h hvs with | mk v val hv h=>exact sorted_snd h hA ok Rl hv q
 | ord=>induction a0y h hvs with | mk v val hv h=>induction a0p h hv with | mk x hx h=>induction a7k h hx with | mk x t h=>exact ord_ok h Rl q
 | chr=>induction a0y h hvs with | mk v val hv h=>induction a1d h hv with | mk x t h=>exact chr_ok h Rl q
end
end Mine
end
section
set_option tactic.hygienic true
namespace Mine
open PySem PySem.W PySem.Spec PySem.Calls PyProof.Rows PySem.Builtin
theorem a3u:Slot "bytes" (oS "join") "bytes.join" :=
 .of (owner := "bytes") (n := "join") (by rw [typeLookup_type,builtinLookup_eq_fast];kernel_rfl) (by decide +kernel) (by decide +kernel) (by decide +kernel)
  (by first | exact .inl (by decide +kernel) | exact .inr (by decide +kernel)) (by rw [isSubtype_type];kernel_rfl)
theorem a7r:typeOf (.builtin "bytes.join")=pure (.type "method_descriptor"):=by show builtinType _=_;rw [builtinType_eq_fast];kernel_rfl
theorem a6n:entryFor table "bytes.join" = some Builtin.«bytes.join» := entryFor_of_tree (by kernel_rfl)
theorem a5q (a b:Value):argsOk "bytes.join" ⟨[a,b],[]⟩:=by
 unfold argsOk;rw [signature?_of (id := "bytes.join") (n:=['n', 'i', 'o', 'j']) (o:=['s', 'e', 't', 'y', 'b']) (by kernel_rfl) FB.owner_bytes];kernel_rfl
theorem a7s (id:String) (b:Array UInt8) (t:Tok):Bytes.takeBufferQuiet? id (.bytes b t) 0=pure (some (b,none)):=by
 unfold Bytes.takeBufferQuiet? Bytes.takeBuffer?
 rw [KBy.special_eq KBy.look_buffer,KBy.own_buffer]
 have e:∀ full,Bytes.buffer? id (.bytes b t) full=pure (some b):=by
  intro full
  unfold Bytes.buffer?
  rw [KBy.special_eq KBy.look_buffer,KBy.own_buffer,KBy.own_release]
  cases full <;> rfl
 rw [e]
 rfl
theorem letGo_pt {M:Model} {A:Around} {E:Value→Shared→Prop} {s:Shared} {keep:List Value} {Q:Unit→Shared→Prop} (h:Q () s):∀ l:List Value,wpAny M A (letGo l keep) Q E s
 | []=>wpAny_pure h
 | _::r=>by
  unfold letGo
  exact wpAny_bind (wpAny_holding (wpAny_point (letGo_pt h r)))
theorem a6d {M:Model} {A:Around} {E:Value→Shared→Prop} {s:Shared} {keep:List Value} {Q:Unit→Shared→Prop} (h:Q () s):∀ l:List (Value×Option Value),(∀ p∈l,p.2=none)→wpAny M A (Bytes.joinLetGo l keep) Q E s
 | [],_=>wpAny_pure h
 | (x,w)::r,hn=>by
  have:w=none:=hn (x,w) (.head _)
  subst this
  unfold Bytes.joinLetGo
  refine wpAny_bind ?_
  exact letGo_pt (a6d h r fun p hp=>hn p (.tail _ hp)) _
theorem m1_all {α:Type} {M:Model} {A:Around} {E:Value→Shared→Prop} {s:Shared} {Q:α→Shared→Prop} {f:Value→Sem α} {g:Array Value→Sem α} (bs:List (Array UInt8×Tok))
  (h1:∀ p,bs=[p]→wpAny M A (f (.bytes p.1 p.2)) Q E s) (h2:wpAny M A (g (bs.map fun p=>Value.bytes p.1 p.2).toArray) Q E s) :
  wpAny M A (Bytes.joinM.match_1 (fun z0=>Sem α) (bs.map fun p=>Value.bytes p.1 p.2).toArray f g) Q E s:=by
 match bs,h1,h2 with
 | [],_,h=>exact h
 | [p],h,_=>exact h p rfl
 | _::_::_,_,h=>exact h
theorem noHeap_of (l:List (Array UInt8×Tok)):(l.map fun p=>(Value.bytes p.1 p.2,(none:Option Value))).any (fun x=>x.1.onHeap)=false:=by
 rw [List.any_eq_false]
 rintro q1_ h
 obtain ⟨a,b⟩:=q1_
 refine exa ?_ (bT.mp h);rintro p _ e
 cases e;simp [Value.onHeap]
theorem none_of (l:List (Array UInt8×Tok)):∀ q∈l.map fun p=>(Value.bytes p.1 p.2,(none:Option Value)),q.2=none:=by
 rintro q1_ h
 obtain ⟨a,b⟩:=q1_
 refine exa ?_ (bT.mp h);rintro p _ e
 cases e;rfl
theorem size_of (bs:List (Array UInt8×Tok)):(bs.map fun p=>Value.bytes p.1 p.2).toArray.size=bs.length:=by simp
theorem wp_upto {α:Type} {M:Model} {A:Around} {E:Value→Shared→Prop} {s:Shared} {Q:α→Shared→Prop} {N n:Nat} (e:N=n) {body:Nat→α→Sem (ForInStep α)} (I:Nat→α) {y:α} (hI:I n=y) (step:∀ i,i < n→wpAny M A (body i (I i)) (fun r s'=>r = .yield (I (i+1))∧s'=s) E s) (fin:Q y s) :
  wpAny M A (forIn [:N] (I 0) body) Q E s:=by
 subst e hI
 rw [Std.Legacy.Range.forIn_eq_forIn_range']
 simp only [Std.Legacy.Range.size,Nat.sub_zero,Nat.add_sub_cancel,Nat.div_one]
 have go:∀ k i,i+k=N→wpAny M A (forIn (List.range' i k) (I i) body) Q E s:=by
  intro k
  induction k with
  | zero=>intro i h;subst h;exact wpAny_pure fin
  | succ k ih =>
   intro i h
   rw [List.range'_succ,aQ]
   refine wpAny_bind (wpAny_mono (step i (h▸Nat.lt_add_of_pos_right (Nat.succ_pos _))) ?_ fun _ _ x=>x)
   rintro r s' q1_
   revert q1_;refine aE ?_;rintro rfl rfl
   exact ih (i+1) ((Nat.add_right_comm i 1 k).trans h)
 exact go N 0 (Nat.zero_add N)
theorem tq_w {M:Model} {A:Around} {E:Value→Shared→Prop} {s:Shared} {id:String} {x:Value} {b:Array UInt8} {t:Tok} {Q:Option (Array UInt8×Option Value)→Shared→Prop} (e:x = .bytes b t) (q:Q (some (b,none)) s):wpAny M A (Bytes.takeBufferQuiet? id x 0) Q E s:=by
 rw [e,a7s];exact wpAny_pure q
theorem join_bytes {prog:Program} {w:World} {A:Around} {E:Value→Shared→Prop} {s:Shared} {Q:Value→Shared→Prop} {l:Addr} {n:Nat} {sep:Array UInt8} {t:Tok} (bs:List (Array UInt8×Tok))
  (hg:s.heap.get? l=some (W.listOf (bs.map fun p=>Value.bytes p.1 p.2).toArray n)) (hz:(bs.map (·.1)).foldl (· + ·.size) (sep.size * (bs.length - 1))≤16777216) (hz2:(Bytes.joined sep (bs.map (·.1))).size≤16777216)
  (h:∀ t' k,Q (.bytes (Bytes.joined sep (bs.map (·.1))) t') { s with toks:=k }):wpAny (model prog w) A (call (.builtin "bytes.join") [.bytes sep t,.ref l]) Q E s:=by
 have hT:s.TypeIs (.ref l) "list" := ⟨_,hg,rfl⟩
 have items:∀ {α:Type} {M:Model} {A:Around} {E:Value→Shared→Prop} {k:Option (Array Value)→Sem α} {Q:α→Shared→Prop},wpAny M A (k (some (bs.map fun p=>Value.bytes p.1 p.2).toArray)) Q E s→wpAny M A (seqItems? (.ref l) >>= k) Q E s:=by
  intro α M A E k Q h
  refine wpAny_bind ?_
  unfold seqItems?
  exact wpAny_bind (wpAny_load hg (wpAny_pure h))
 refine wpAny_call_entry a3u (typeIs_bytes s sep t) a6n ?_ (a5q _ _)
 refine wpAny_bind (m:=Bytes.joinItems (.ref l)) (wpAny_bind (wpAny_typeOf hT (wpAny_pure ?_)))
 refine items (m1_all bs (fun p e => ?_) ?_)
 ·refine wpAny_bind (wpAny_of_eq (a:=Value.type "bytes") rfl (wpAny_ite_true rfl (wpAny_bind (wpAny_rule (wpAny_pure ⟨_,rfl,?_⟩)))))
  have:=h p.2 s.toks
  rw [e] at this
  simpa [Bytes.joined] using this
 ·refine wpAny_bind (wp_upto (size_of bs) (fun i=>(((bs.take i).map (·.1)).toArray,(bs.take i).map fun p=>(Value.bytes p.1 p.2,none))) (y:=((bs.map (·.1)).toArray,bs.map fun p=>(Value.bytes p.1 p.2,none))) (by rw [List.take_length]) (fun i hi => ?_) ?_)
  ·have hx:(bs.map fun p=>Value.bytes p.1 p.2).toArray.getD i Value.none = .bytes bs[i].1 bs[i].2:=by simp [Array.getD,hi]
   refine items (wpAny_ite_false (decide_eq_false fun e=>Bool.noConfusion ((noHeap_of (bs.take i)).symm.trans e)) (wpAny_bind (wpAny_holding (tq_w hx (items (wpAny_ite_false (decide_eq_false fun e=>Bool.noConfusion ((bne_self_eq_false _).symm.trans e)) (wpAny_pure ⟨?_,rfl⟩)))))))
   rw [hx,List.take_add_one,aV hi]
   simp only [Option.toList_some,bI,bK,List.map_nil,List.push_toArray]
  ·refine wpAny_bind (m:=Bytes.payload _) (wpAny_pure (wpAny_ite_false (decide_eq_false ?_) (wpAny_bind (wpAny_mkBytes ?_ hz2))))
   ·unfold Bytes.tooLong
    rw [← Array.foldl_toList]
    simp only [cG,bF,decide_eq_true_eq]
    rw [sizeLine_eq];exact fun e=>absurd hz (Nat.not_le.mpr (Nat.lt_of_le_of_lt (cQ _) e))
   ·refine wpAny_bind (wpAny_holding (wpAny_point (wpAny_bind (a6d ?_ _ ?_))))
    ·exact wpAny_pure ⟨_,rfl,h _ _⟩
    ·exact none_of bs
end Mine
end
section
namespace Mine
open PySem PySem.W PySem.Spec PySem.Calls PyProof.Rows PySem.Builtin PySem.Builtin._codecs
theorem b4g (x:Str) (t:Tok) (u:Tok):Builtin.«str.encode» ⟨[.str x t,.str (oS "ascii") u],[]⟩=(do ret (← encodeRoad "str.encode" (.str x t) x (oS "ascii") none)):=by
 first | rfl | kernel_rfl
theorem road_ascii (id:String) (self:Value) (x:Str) (errors:Option Str):encodeRoad id self x (oS "ascii") errors=(do PySem.mkBytes (← encodeNarrow id asciiCodec errors self x)):=by
 first | rfl | (unfold encodeRoad;rfl) | (unfold encodeRoad;simp only [];rfl) | decide
noncomputable def asc (l:List Nat):Array UInt8:=(l.map fun c=>c.toUInt8).toArray
theorem fold_asc (l:List Nat) (b:Array UInt8):l.foldl (fun acc y=>acc++(asciiCodec.bytesOf y).toArray) b=b++asc l:=by
 induction l generalizing b with
 | nil=>simp [asc]
 | cons x r ih=>rw [List.foldl_cons,ih];simp [asc,asciiCodec]
theorem clean_all {x:Array Nat} (hc:∀ c∈x.toList,c < 128):x.findIdx? asciiCodec.bad=none:=by
 rw [Array.findIdx?_eq_none_iff]
 intro c h
 have:=hc c (Array.mem_toList_iff.mpr h)
 show decide (c≥128)=false
 rw [decide_eq_false_iff_not];lia
theorem wp_once {α:Type} {M:Model} {A:Around} {E:Value→Shared→Prop} {s:Shared} {Q:α→Shared→Prop} {N:Nat} {body:Nat→α→Sem (ForInStep α)} {a b:α} (h0:N=0→Q a s) (q:Q b s) (h1:0 < N→wpAny M A (body 0 a) (fun r s'=>r = .yield b∧s'=s) E s) (h2:∀ i,wpAny M A (body i b) (fun r s'=>r = .done b∧s'=s) E s) :
  wpAny M A (forIn [:N] a body) Q E s:=by
 rw [Std.Legacy.Range.forIn_eq_forIn_range']
 simp only [Std.Legacy.Range.size,Nat.sub_zero,Nat.add_sub_cancel,Nat.div_one]
 induction N using cK with
 | zero=>exact wpAny_pure (h0 rfl)
 | succ k =>
  rw [List.range'_succ,aQ]
  refine wpAny_bind (wpAny_mono (h1 (Nat.succ_pos _)) ?_ fun _ _ x=>x)
  rintro r s' q1_
  revert q1_;refine aE ?_;rintro rfl rfl
  induction k using cK with
  | zero=>exact wpAny_pure q
  | succ k =>
   show wpAny M A (forIn (List.range' (0+1) (k+1)) b body) Q E s'
   rw [List.range'_succ,aQ]
   refine wpAny_bind (wpAny_mono (h2 _) ?_ fun _ _ x=>x)
   rintro r s' q1_
   revert q1_;refine aE ?_;rintro rfl rfl
   exact wpAny_pure q
theorem asc_out {x:Str} (hc:∀ c∈x.cps.toList,c < 128):((x.cps.extract 0 x.cps.size).extract 0 (((x.cps.extract 0 x.cps.size).findIdx? asciiCodec.bad).getD (x.cps.extract 0 x.cps.size).size)).foldl (fun acc y=>acc++(asciiCodec.bytesOf y).toArray) #[]=asc x.cps.toList∧0+((x.cps.extract 0 x.cps.size).findIdx? asciiCodec.bad).getD (x.cps.extract 0 x.cps.size).size=x.cps.size:=by
 have e:x.cps.extract=x.cps:=by simp
 rw [e,clean_all hc]
 simp only [Option.getD_none,Nat.zero_add]
 rw [e,← Array.foldl_toList,fold_asc]
 exact ⟨by simp,by first | rfl | trivial⟩
theorem asc_big {x:Str} (hz:x.cps.size≤1000000):¬ (asc x.cps.toList).size > sizeLine:=by
 rw [sizeLine_eq];simp [asc];lia
theorem asc_bad {x:Str} (hc:∀ c∈x.cps.toList,c < 128) (hp:0 < x.cps.size):(!asciiCodec.bad x.cps[0])=true:=by
 have:=hc x.cps[0] (Array.mem_toList_iff.mpr (Array.getElem_mem hp))
 show (!decide (_≥128))=true
 rw [decide_eq_false (Nat.not_le.mpr this)];rfl
theorem asc_nil {x:Str} (e:x.cps.size=0):asc x.cps.toList = #[]:=by
 have:x.cps = #[]:=Array.eq_empty_of_size_eq_zero e
 rw [this];rfl
theorem b2h {M:Model} {A:Around} {E:Value→Shared→Prop} {s:Shared} {Q:Array UInt8→Shared→Prop} {id:String} {self:Value} {x:Str} (hc:∀ c∈x.cps.toList,c < 128) (hz:x.cps.size≤1000000)
  (h:Q (asc x.cps.toList) s):wpAny M A (encodeNarrow id asciiCodec none self x) Q E s:=by
 refine wpAny_bind (wp_once (b:=(x.cps.size,asc x.cps.toList,({}:Faults))) (fun e=>wpAny_pure (asc_nil e▸h)) (wpAny_pure h) (fun hp=>wpAny_ite_false rfl ?_) (fun i=>wpAny_ite_false (decide_eq_false (asc_big hz)) ?_))
 ·refine rwR (Array.getElem?_eq_getElem hp) ?_
  refine wpAny_ite_true (decide_eq_true (asc_bad hc hp)) ?_
  exact wpAny_pure (And.intro (congrArg ForInStep.yield (Prod.ext (asc_out hc).2 (Prod.ext (asc_out hc).1 rfl))) rfl)
 ·exact rwR (Array.getElem?_eq_none (cQ _)) (wpAny_pure ⟨rfl,rfl⟩)
theorem b4h {prog:Program} {w:World} {A:Around} {E:Value→Shared→Prop} {s:Shared} {Q:Value→Shared→Prop} {x:Str} {t u:Tok} (hc:∀ c∈x.cps.toList,c < 128) (hz:x.cps.size≤1000000)
  (h:∀ t' k,Q (.bytes (asc x.cps.toList) t') { s with toks:=k }):wpAny (model prog w) A (call (.builtin "str.encode") [.str x t,.str (oS "ascii") u]) Q E s:=by
 refine wpAny_call_entry F.slot_str_encode (typeIs_str s x t) F.entry_str_encode ?_ (F.args_str_encode_2 _ _)
 rw [b4g]
 refine wpAny_bind ?_
 rw [road_ascii]
 refine wpAny_bind (b2h hc hz ?_)
 refine wpAny_mkBytes (wpAny_pure ⟨_,rfl,h _ _⟩) ?_
 rw [sizeLine_eq];simp [asc];lia
end Mine
end
section
namespace Mine
open PySem PySem.W PySem.Spec PySem.Calls PyProof.Rows PySem.Builtin
theorem bnew_eq (b:Array UInt8) (t:Tok):Builtin.«bytes.__new__» ⟨[.type "bytes",.bytes b t],[]⟩=(rule "bytes.__new__.of-bytes" >>= fun _=>pure (.done (.ret (.bytes b t)))):=by
 first | rfl | kernel_rfl
theorem bnew_bytes {prog:Program} {w:World} {A:Around} {E:Value→Shared→Prop} {s:Shared} {Q:Value→Shared→Prop} {b:Array UInt8} {t:Tok} (h:Q (.bytes b t) s) :
  codeAny (model prog w) A (.call (.builtin "bytes.__new__") ⟨[.type "bytes",.bytes b t],[]⟩) (wants Q E) s :=
 codeAny_call_builtin F.bm_plain F.bm_entry (wpAny_of_eq (F.bm_newCall _) (bnew_eq b t▸wpAny_bind (wpAny_rule (wpAny_pure h))))
theorem a6o {prog:Program} {w:World} {A:Around} {E:Value→Shared→Prop} {s:Shared} {Q:Value→Shared→Prop} {b:Array UInt8} {t:Tok} (h:Q (.bytes b t) s):wpAny (model prog w) A (call (.type "bytes") [.bytes b t]) Q E s:=by
 refine callType_codes (Q₁:=fun obj s₁=>s₁.TypeIs obj "bytes" ∧ Q obj s₁) F.bm_called (F.bm_typeCall _) F.entry_object_init
  (bnew_bytes (Q:=fun obj s₁=>s₁.TypeIs obj "bytes" ∧ Q obj s₁) ⟨PySem.W.typeIs_bytes _ _ _,h⟩) fun obj s₁ h₁ => ?_
 exact ⟨h₁.1,F.args_object_init_2 obj _,object_init_meets F.bm_called.init.lookup F.bm_called.made (by decide) prog w A.in1 _ s₁ ⟨h₁.1,rfl,h₁.2⟩⟩
theorem b4i (sep:Array UInt8):∀ (l:List (Array UInt8)) (n:Nat) (b:Array UInt8),0 < n→(l.zipIdx n).foldl (fun out (p,i)=>(if i > 0 then out++sep else out)++p) b=b++((l.map fun p=>sep.toList++p.toList).flatten).toArray:=by
 intro x_
 induction x_ with
 | nil =>
  intro n b _
  simp
 | cons p r IH_ =>
  intro n b h
  rw [List.zipIdx_cons,List.foldl_cons]
  dsimp only
  rw [if_pos h,IH_ (n+1) _ (Nat.succ_pos _)]
  apply Array.toList_inj.mp;simp
theorem a2w {α:Type} (sep:List α):∀ (a:List α) (l:List (List α)),a1m sep (a::l)=a++(l.map fun p=>sep++p).flatten
 | a,[]=>by rw [joinL_1];simp
 | a,b::r=>by
  show a++sep++a1m sep (b::r)=_
  rw [a2w sep b r];simp
theorem b2i (sep:List Nat) (bs:List (List Nat)):Bytes.joined (toBA sep) (bs.map toBA)=toBA (a1m sep bs):=by
 induction bs using aK with
 | nil=>rfl
 | cons b r =>
  unfold Bytes.joined
  rw [bK,List.zipIdx_cons,List.foldl_cons,b4i _ _ _ _ (Nat.succ_pos _),a2w]
  apply Array.toList_inj.mp
  simp [toBA,List.map_flatten]
  congr 1
  apply bJ
  intro a _;simp [toBA]
theorem asc_eq (l:List Nat):asc l=toBA l:=rfl
theorem joined_len (sep:List Nat):∀ (bs:List (List Nat)) (n:Nat),(bs.map toBA).foldl (fun a p=>a+p.size) n=n+(bs.map List.length).sum:=by
 intro x_
 induction x_ with
 | nil =>
  intro n
  simp
 | cons b r IH_ =>
  intro n
  rw [bK,List.foldl_cons,IH_];simp [toBA];lia
theorem joinL_len {α:Type} (sep:List α):∀ bs:List (List α),(a1m sep bs).length=sep.length * (bs.length - 1)+(bs.map List.length).sum
 | []=>rfl
 | b::r=>by
  rw [a2w]
  simp [List.length_flatten]
  induction r with
  | nil=>simp
  | cons c r ih=>simp [Nat.mul_add] at ih ⊢;lia
end Mine
end
section
namespace Mine
open PySem PySem.W PySem.Spec PySem.Calls PyProof.Rows PySem.SeqAt
section
variable {C:Cx} {B:Buf} {f:Fm} {rs:List (Addr×Obj)} {ρ:Loc} {σ:St} {g:G} {s:Shared} {E:Value→Shared→Prop} {A:Around}
theorem Rel.growG (Rl:Rel C B f rs ρ σ g s) {h':Heap} {t:Nat} {a:Addr} {ob:Obj} (hk:∀ b o,s.heap.get? b=some o→h'.get? b=some o) (ha:∀ o,s.heap.get? a≠some o) (hob:h'.get? a=some ob) :
  Rel C B f rs ρ σ ⟨g.as,g.os,(a,ob)::g.fz⟩ { s with heap:=h',toks:=t }∧Ext g ⟨g.as,g.os,(a,ob)::g.fz⟩:=by
 refine exa ?_ Rl.loc;rintro m F l
 have ne:∀ {b:Addr} {o:Obj},s.heap.get? b=some o→b≠a:=fun h e=>ha _ (e▸h)
 refine Rl.allocF l (F.kept hk) ?_ (fun p hp=>ne (Rl.news p hp).1)
 intro p hp
 rcases bP.mp hp with rfl | hp
 ·refine ⟨hob,?_,?_⟩
  ·intro e
   subst e
   refine exxx ?_ F.ns;rintro o es ep;refine aE ?_;rintro ho _
   exact ha o ho
  ·cases hq:f.h₀.get? a with
   | none=>rfl
   | some o=>exact absurd (F.keep _ _ hq) (ha _)
 ·exact ⟨hk _ _ (Rl.news p hp).1,(Rl.news p hp).2⟩
inductive BFrom (b:List Nat) (vs:List Value):Prop
 | mk (ns:List Int):IntsAre vs ns→(∀ n∈ns,0≤n∧n < 256)→byteArr ns=toBA b→(∀ x∈b,x < 256)→BFrom b vs
theorem b2j {fz:List (Addr×Obj)}:∀ {xs:List D} {vs:List Value} {b:List Nat},DReps C B fz xs vs→a2u xs=some b→BFrom b vs:=by
 intro x_
 induction x_ with
 | nil =>
  intro _ _ hr h
  subst hr;have h_:=Option.some.inj h;subst h_
  exact .mk [] .nil (fun z0 h=>absurd h cB) rfl (fun z0 h=>absurd h cB)
 | cons x xs IH_ =>
  intro _ b hr h
  induction hr with | mk v vs hx hr =>
  have h:(onI x fun i=>bif decide (0≤i)&&decide (i < 256) then (a2u xs).map (i.toNat::·) else none)=some b:=h
  induction a1e h hx with | mk i t h =>
  have z1:=of_decide_eq_true (a0k (a0b h))
  have z2:=of_decide_eq_true (a0e (a0b h))
  have h:=a0c h
  cases hb:a2u xs with
  | none=>rw [hb] at h;exact no h
  | some b' =>
   rw [hb] at h
   have h_:=Option.some.inj h;subst h_
   induction IH_ hr hb with | mk ns e1 e2 e3 e4 =>
   refine .mk (i::ns) (.cons i t e1) (List.forall_mem_cons.mpr ⟨⟨z1,z2⟩,e2⟩) ?_ (List.forall_mem_cons.mpr ⟨by lia,e4⟩)
   have e:=congrArg Array.toList e3
   apply Array.toList_inj.mp
   simp [byteArr,toBA] at e ⊢
   exact e
theorem a3v {v:V} {val:Value} {k:List D→Option R} (h:listOf v σ k=some r) (ok:FmOk C f) (Rl:Rel C B f rs ρ σ g s) (hv:VRep C B g v val):LstF C B g s.heap (szL k) r val:=by
 induction b0p h Rl hv with
 | d x _ hx h=>exact onL_is h ok Rl hx
 | r i o a ob h1 h2 h3 h4 h5 h6 h=>exact b2g h h4 h5
theorem a7t (i:Int):oS (toString i)=⟨(digitsOf i).toArray⟩:=by
 unfold oS digitsOf
 rw [cpsOfBytes_string]
theorem no_pylong {x c:Int} (h:a1f c=true):Builtin.divisionGoesByPylong x c=false:=by
 show (decide ((if (c==0)=true then 0 else c.natAbs.log2 / 30+1) > 300)&&_)=false
 rw [decide_eq_false (b1t (a3s h)),Bool.false_and]
variable {k:D→Option R} {Q:Value→Shared→Prop}
theorem rng_q (q:QD C B f rs ρ σ g k r Q) (Rl:Rel C B f rs ρ σ g s) {a b c:Int} {t u v:Tok} {T:Nat} (hz:Builtin.Range.small a b c=true) (h:k (.rng a b c)=some r) :
  Q (Value.ref s.heap.objs.size) { s with heap:=s.heap.push (b1q a b c t u v),toks:=T }:=by
 refine aE ?_ (Rl.growF (t:=T) (fun z0 z0 e=>Heap.get?_push_of_some _ e) (cQ _) (Heap.get?_push_size s.heap (o:=b1q a b c t u v) rfl));rintro R' X'
 exact q _ _ _ _ h R' X' (.rng a b c _ t u v (.inl (.head _)) hz)
theorem str_ok {i:Int} {t:Tok} (h:(bif a1f i then k (.str ⟨(digitsOf i).toArray⟩) else none)=some r) (Rl:Rel C B f rs ρ σ g s) (q:QD C B f rs ρ σ g k r Q):wpAny C.M A (call (.type "str") [.int i t]) Q E s:=by
 refine P.str_of_int ?_ (q _ g _ _ (a0c h) (Rl.tok _) (Ext.refl _) ?_)
 ·by_cases e:i=0
  ·subst e;decide
  ·exact cW ((Nat.log2_lt (by lia)).mpr (a3s (a0b h))) (by decide)
 ·rw [a7t];exact .str _ _
theorem mkBytes_ok {v:V} {val:Value} (h:mkBytes v σ k=some r) (hA:A.handled=none) (ok:FmOk C f) (Rl:Rel C B f rs ρ σ g s) (hv:VRep C B g v val) (q:QD C B f rs ρ σ g k r Q):wpAny C.M A (call (.type "bytes") [val]) Q E s:=by
 have h:(match onDv v byt? with | some b=>k (.bytes b) | none=>listOf v σ fun xs=>optK (a2u xs) fun b=>k (.bytes b))=some r:=h
 cases e:onDv v byt? with
 | some b =>
  rw [e] at h
  induction a0p e hv with | mk x hx e =>
  induction byt_is e hx with | mk t hb =>
  exact a6o (q _ g _ _ h Rl (Ext.refl _) (.bytes _ _ hb))
 | none =>
  rw [e] at h
  induction a3v h ok Rl hv with | mk xs vs a n hg rr h =>
  have hz:=a1a (a0b h)
  refine exa ?_ (a0i (a0c h));rintro b hb h
  induction b2j rr hb with | mk ns e1 e2 e3 e4 =>
  refine call_bytes_ints (a0r hg) e1 e2 (by rw [← rr.length,sizeLine_eq];lia) hA fun h' t' k' hk => ?_
  rw [e3]
  exact q _ g _ _ h (Rl.grow hk) (Ext.refl _) (.bytes _ _ e4)
theorem tuple_ok {v:V} {val:Value} (h:(listOf v σ fun xs=>k (.tup xs))=some r) (ok:FmOk C f) (Rl:Rel C B f rs ρ σ g s) (hv:VRep C B g v val) (q:QD C B f rs ρ σ g k r Q):wpAny C.M A (call (.type "tuple") [val]) Q E s:=by
 induction a3v h ok Rl hv with | mk xs vs a n hg rr h =>
 have hz:=a1a (a0b h)
 refine call_tuple_list (a0r hg) (fun h' hk => ?_) (by rw [cG,← rr.length,sizeLine_eq];lia)
 have hob:=Heap.get?_push_size h' (o:={ cls := .type "tuple",data := .seq vs.toArray }) rfl
 refine aE ?_ (Rl.growG (t:=s.toks) (fun b o e=>Heap.get?_push_of_some _ (hk b o e)) (fun o e=>Nat.lt_irrefl _ (Heap.lt_size (hk _ _ e))) hob);rintro R' X'
 exact q _ _ _ _ (a0c h) R' X' (.tup _ _ _ _ _ (.inl (.head _)) rfl rfl (rr.mono X'.fz))
theorem list_ok {v:V} {val:Value} (h:(listOf v σ fun xs=>k (.lst xs))=some r) (ok:FmOk C f) (Rl:Rel C B f rs ρ σ g s) (hv:VRep C B g v val) (q:QD C B f rs ρ σ g k r Q):wpAny C.M A (call (.type "list") [val]) Q E s:=by
 induction a3v h ok Rl hv with | mk xs vs a n hg rr h =>
 have hz:=a1a (a0b h)
 refine call_list_seq a (.inl rfl) hg rfl rfl (fun h' c' hk hob => ?_) (by rw [cG,← rr.length,sizeLine_eq];lia)
 refine aE ?_ (Rl.growF (t:=s.toks) hk (cQ _) hob);rintro R' X'
 exact q _ _ _ _ (a0c h) R' X' (.lst _ _ _ c' (.inl (.head _)) (rr.mono X'.fz))
theorem range_ok {args:List V} {vals:List Value} (h:mkRange args k=some r) (Rl:Rel C B f rs ρ σ g s) (hvs:VReps C B g args vals) (q:QD C B f rs ρ σ g k r Q):wpAny C.M A (call (.type "range") vals) Q E s:=by
 induction args using aK with
 | nil=>exact no h
 | cons a args=>induction hvs with | mk va vs ha hvs=>induction args using aK with
  | nil=>subst hvs;induction a1d h ha with | mk i t h=>exact call_range_1 (rng_q q Rl (a0b h) (a0c h))
  | cons b args=>induction hvs with | mk vb vs hb hvs=>induction args using aK with
   | nil=>subst hvs;induction a1d h ha with | mk i t h=>induction a1d h hb with | mk j u h=>exact call_range_2 (rng_q q Rl (a0b h) (a0c h))
   | cons c args=>induction hvs with | mk vc vs hc hvs=>induction args using aK with
    | nil=>subst hvs;induction a1d h ha with | mk i t h=>induction a1d h hb with | mk j u h=>induction a1d h hc with | mk l w h =>
     have z:=of_decide_eq_true (a0k (a0e (a0b h)))
     exact call_range_3 (by lia) (rng_q q Rl (a0k (a0b h)) (a0c h)) (.inl (no_pylong (a0e (a0e (a0b h)))))
    | cons _ _=>exact no h
theorem tyCall_snd {t:TY} {args:List V} {vals:List Value} (h:tyCall t args σ k=some r) (hA:A.handled=none) (ok:FmOk C f) (Rl:Rel C B f rs ρ σ g s) (hvs:VReps C B g args vals)
  (q:QD C B f rs ρ σ g k r Q):wpAny C.M A (call (.type (tyName t)) vals) Q E s:=by
 induction t with
 | int=>induction a0y h hvs with | mk v val hv h=>induction a1d h hv with | mk i t h=>exact call_int_int (q _ g _ _ h Rl (Ext.refl _) (.int _ _))
 | str=>induction a0y h hvs with | mk v val hv h=>induction a1d h hv with | mk i t h=>exact str_ok h Rl q
 | bytes=>induction a0y h hvs with | mk v val hv h=>exact mkBytes_ok h hA ok Rl hv q
 | tuple=>induction a0y h hvs with | mk v val hv h=>exact tuple_ok h ok Rl hv q
 | list=>induction a0y h hvs with | mk v val hv h=>exact list_ok h ok Rl hv q
 | range=>exact range_ok h Rl hvs q
 | _=>exact no h
end
end Mine
end
section
namespace Mine
open PySem PySem.W PySem.Spec PySem.Calls PyProof.Rows PySem.SeqAt
noncomputable def bmName:BM→String
 | .append => "list.append" | .extend => "list.extend" | .pop => "list.pop" | .get => "dict.get" | .joinB => "bytes.join" | .joinS => "str.join" | .encode => "str.encode"
theorem RRefs.lastly {as:List Addr}:∀ {xs:List Nat} {vs:List Value} {i:Nat},RRefs as xs vs→xs.getLast?=some i→∃ a,kl_last vs=some (vs.dropLast,a)∧RRef1 as i a∧RRefs as xs.dropLast vs.dropLast
 | [],_,_,_,h=>no h
 | [x],_,_,h,e=>by induction h with | mk v vs a r=>subst r;have h_:=Option.some.inj e;subst h_;exact ⟨v,rfl,a,rfl⟩
 | x::y::ys,_,_,h,e=>by
  induction h with | mk v vs a r =>
  refine exaa ?_ (RRefs.lastly (xs:=y::ys) r ((List.getLast?_cons_cons (a:=x)).symm.trans e));rintro c e1 e2 e3
  induction r with | mk u us b r =>
  exact ⟨c,by unfold kl_last;rw [e1];rfl,e2,.mk _ _ a e3⟩
theorem DReps.lastly {C:Cx} {B:Buf} {fz:List (Addr×Obj)}:∀ {xs:List D} {vs:List Value} {x:D},DReps C B fz xs vs→xs.getLast?=some x→∃ a,kl_last vs=some (vs.dropLast,a)∧DRep C B fz x a∧DReps C B fz xs.dropLast vs.dropLast
 | [],_,_,_,h=>no h
 | [x],_,_,h,e=>by induction h with | mk v vs a r=>subst r;have h_:=Option.some.inj e;subst h_;exact ⟨v,rfl,a,rfl⟩
 | x::y::ys,_,_,h,e=>by
  induction h with | mk v vs a r =>
  refine exaa ?_ (DReps.lastly (xs:=y::ys) r ((List.getLast?_cons_cons (a:=x)).symm.trans e));rintro c e1 e2 e3
  induction r with | mk u us b r =>
  exact ⟨c,by unfold kl_last;rw [e1];rfl,e2,.mk _ _ a e3⟩
section
variable {C:Cx} {B:Buf} {f:Fm} {rs:List (Addr×Obj)} {ρ:Loc} {σ:St} {g:G} {s:Shared} {E:Value→Shared→Prop} {A:Around}
theorem DictRep.exact {fz:List (Addr×Obj)} {es:List (D×D)} {o:Obj} (h:DictRep C B fz es o):o.ExactDict:=by
 induction h with
 | empty _ a _=>revert a;refine exxa ?_;rintro _ _ z _;exact z
 | «ints» _ _ a _=>revert a;refine exxa ?_;rintro _ _ z _;exact z
 | «strs» _ _ a _=>revert a;refine exxa ?_;rintro _ _ z _;exact z
theorem bmL_ok {a:Addr} {vs:Array Value} {n:Nat} {m:Str} {bm:BM} {pl:Sem Bool} {Q:Value×List Value→Shared→Prop} (h:bmL m=some bm) (hg:s.heap.get? a=some (W.listOf vs n)) (q:Q (.builtin (bmName bm),[.ref a]) s):wpAny C.M A (getMethod (.ref a) m pl) Q E s:=by
 have hT:s.TypeIs (.ref a) "list" := (a0r hg).typeIs
 have hd:∀ b:Addr,Value.ref a = .ref b→∃ o,s.heap.get? b=some o∧o.dict=none:=fun b e=>by cases e;exact ⟨_,hg,rfl⟩
 have h:(bif seq m (oS "append") then some BM.append else bif seq m (oS "extend") then some .extend else bif seq m (oS "pop") then some .pop else none)=some bm:=h
 cases e1:seq m (oS "append") with
 | true =>
  rw [e1] at h;have h_:=Option.some.inj h;subst h_;have e:=seq_iff.mp e1;subst e
  exact getMethod_builtin hT F.plainAttrs_list F.slot_list_append F.type_list_append hd q
 | false =>
  rw [e1] at h
  cases e2:seq m (oS "extend") with
  | true =>
   rw [e2] at h;have h_:=Option.some.inj h;subst h_;have e:=seq_iff.mp e2;subst e
   exact getMethod_builtin hT F.plainAttrs_list F.slot_list_extend F.type_list_extend hd q
  | false =>
   rw [e2] at h
   have h_:=Option.some.inj (a0c h);subst h_;have e:=seq_iff.mp (a0b h);subst e
   exact getMethod_builtin hT F.plainAttrs_list F.slot_list_pop F.type_list_pop hd q
theorem bmD_ok {x:D} {val:Value} {m:Str} {bm:BM} {pl:Sem Bool} {Q:Value×List Value→Shared→Prop} (h:bmD x m=some bm) (ok:FmOk C f) (Rl:Rel C B f rs ρ σ g s) (hx:DRep C B g.fz x val) (q:Q (.builtin (bmName bm),[val]) s):wpAny C.M A (getMethod val m pl) Q E s:=by
 induction x using D.casesOn with
 | str x=>induction hx with | mk t =>
  have h:(bif seq m (oS "join") then some BM.joinS else bif seq m (oS "encode") then some .encode else none)=some bm:=h
  cases e1:seq m (oS "join") with
  | true =>
   rw [e1] at h;have h_:=Option.some.inj h;subst h_;have e:=seq_iff.mp e1;subst e
   exact getMethod_builtin (typeIs_str s x t) F.plainAttrs_str F.slot_str_join F.type_str_join (fun b e=>Value.noConfusion e) q
  | false =>
   rw [e1] at h;have h_:=Option.some.inj (a0c h);subst h_;have e:=seq_iff.mp (a0b h);subst e
   exact getMethod_builtin (typeIs_str s x t) F.plainAttrs_str F.slot_str_encode F.type_str_encode (fun b e=>Value.noConfusion e) q
 | bytes b=>induction hx with | mk t hb =>
  have h_:=Option.some.inj (a0c h);subst h_;have e:=seq_iff.mp (a0b h);subst e
  exact getMethod_builtin (typeIs_bytes s _ t) FB.plainAttrs_bytes a3u a7r (fun b e=>Value.noConfusion e) q
 | dct es=>induction hx with | mk a o k1 lo rr =>
  have h_:=Option.some.inj (a0c h);subst h_;have e:=seq_iff.mp (a0b h);subst e
  have hx:=DictRep.exact rr
  exact getMethod_builtin ⟨o,Rl.kn ok k1,hx.1⟩ F.plainAttrs_dict F.slot_dict_get F.type_dict_get (fun b e=>by cases e;exact ⟨o,Rl.kn ok k1,hx.2.1⟩) q
 | _=>exact no h
theorem bmget_snd {v:V} {val:Value} {m:Str} {bm:BM} {pl:Sem Bool} {Q:Value×List Value→Shared→Prop} (h:bmOf v m σ=some bm) (ok:FmOk C f) (Rl:Rel C B f rs ρ σ g s) (hv:VRep C B g v val)
  (q:Q (.builtin (bmName bm),[val]) s):wpAny C.M A (getMethod val m pl) Q E s:=by
 induction b0p h Rl hv with
 | d x _ hx h=>exact bmD_ok h ok Rl hx q
 | r i o a ob h1 h2 h3 h4 h5 h6 h =>
  induction o with
  | list xs=>revert h5;refine exxa ?_;rintro vs n rfl rr;exact bmL_ok h h4 q
  | refs xs=>revert h5;refine exxa ?_;rintro vs n rfl rr;exact bmL_ok h h4 q
  | _=>exact no h
noncomputable abbrev QV (C:Cx) (B:Buf) (f:Fm) (rs:List (Addr×Obj)) (ρ:Loc) (g:G) (k:V→St→Option R) (r:R) (Q:Value→Shared→Prop):Prop :=
 ∀ u σ' g' s' u',k u σ'=some r→Rel C B f rs ρ σ' g' s'→Ext g g'→VRep C B g' u u'→Q u' s'
theorem getK_snd {es:List (D×D)} {x:D} {xv:Value} {d:Addr} {o:Obj} {k:V→St→Option R} {Q:Value→Shared→Prop} (h:getK es x σ k=some r) (Rl:Rel C B f rs ρ σ g s) (hg:s.heap.get? d=some o) (hr:DictRep C B g.fz es o)
  (lo:(d==sysModules)=false) (hx:DRep C B g.fz x xv) (q:QV C B f rs ρ g k r Q):wpAny C.M A (call (.builtin "dict.get") [.ref d,xv]) Q E s:=by
 have h2:(bif dhas x es then k (.d (a2k x es)) σ else k (.d .none) σ)=some r:=a0c h
 induction hr.map (a0b h) hx hg with | mk K dk knd kk fn e1 e2 e3 e4 =>
 refine call_meetsIn F.slot_dict_get ⟨o,hg,(DictRep.exact hr).1⟩ F.entry_dict_get (F.args_dict_get_2 _ _) (meets_dict_get knd d e1 lo) ⟨fn,e2,?_⟩
 cases hz:dhas x es with
 | true =>
  rw [hz] at h2
  refine exa ?_ (e3 hz);rintro u hu hd
  rw [hu]
  exact q (.d _) _ g _ _ h2 (Rl.tok _) (Ext.refl _) hd
 | false =>
  rw [hz] at h2
  rw [e4 hz]
  exact q (.d .none) _ g _ _ h2 (Rl.tok _) (Ext.refl _) rfl
theorem a9l {j:Nat} {o o':O} {a:Addr} {vs:List Value} {n:Nat} {x:Value} {Q:Value→Shared→Prop} (Rl:Rel C B f rs ρ σ g s) (ho:σ[j]?=some o) (hm:a1u o=true) (hm':a1u o'=true) (ha:g.as[j]?=some a) (hob:g.os[j]?=some (W.listOf vs.toArray n))
  (hz:vs.length≤1000000) (rr:ORep C B g o' (W.listOf (vs++[x]).toArray (n+1))) (q:∀ g' s',Rel C B f rs ρ (setAt σ j o') g' s'→Ext g g'→Q .none s'):wpAny C.M A (call (.builtin "list.append") [.ref a,x]) Q E s:=by
 refine exa ?_ Rl.loc;rintro m F l
 refine exxx ?_ (Rl.split ho hm);rintro a' ob pre;refine exaa ?_;rintro post ha' ho';refine eaaa ?_;rintro orr _ e1;refine eaa ?_;rintro e2 e3 e4
 rw [ha] at ha';cases ha'
 rw [hob] at ho';cases ho'
 have N:=Rl.news
 rw [e1] at N
 refine append_K F N (a4v e2 e3) (fun h' F' N' => ?_) (by rw [cG,sizeLine_eq];lia)
 have e5:vs.toArray.push x=(vs++[x]).toArray:=by simp
 rw [e5,← e4] at N'
 exact q _ _ (Rl.put ho hm hm' l F' N' rr) ⟨cD _,fun z0 h=>h⟩
end
end Mine
end
section
namespace Mine
open PySem PySem.W PySem.Spec PySem.Calls PyProof.Rows PySem.SeqAt
theorem glued_eq (x:Str) (ys:List Str):Builtin.Str.glued x ys=⟨(a1m x.cps.toList (ys.map fun y=>y.cps.toList)).toArray⟩:=by
 unfold Builtin.Str.glued
 congr 1
 induction ys using aK with
 | nil=>rfl
 | cons y r =>
  rw [bK,a2w]
  simp only [List.headD_cons,List.drop_succ_cons,List.drop_zero]
  have:∀ (l:List Str) (b:Array Nat),l.foldl (fun acc p=>acc++x.cps++p.cps) b=b++((l.map fun y=>x.cps.toList++y.cps.toList).flatten).toArray:=by
   intro l
   induction l with
   | nil=>intro b;simp
   | cons p l ih =>
    intro b
    rw [List.foldl_cons,ih]
    apply Array.toList_inj.mp;simp
  rw [this,bL]
  apply Array.toList_inj.mp;simp [Function.comp_def]
section
variable {C:Cx} {B:Buf} {fz:List (Addr×Obj)}
theorem bytes_of {xs:List D} {vs:List Value} {ss:List (List Nat)} (hr:DReps C B fz xs vs) (h:bytesOf? xs=some ss):∃ bs:List (Array UInt8×Tok),vs=bs.map (fun p=>Value.bytes p.1 p.2)∧bs.map (·.1)=ss.map toBA∧∀ b∈ss,∀ x∈b,x < 256:=by
 have r:=picks (P:=PByt) byt_is h hr
 clear h hr
 induction r with
 | nil=>exact ⟨[],rfl,rfl,fun z0 h=>absurd h cB⟩
 | cons a v r vs p _ ih =>
  induction p with | mk t hb =>
  revert ih;refine exaa ?_;rintro bs e1 e2 e3
  exact ⟨(toBA a,t)::bs,by rw [e1];rfl,by rw [bK,bK,e2],List.forall_mem_cons.mpr ⟨hb,e3⟩⟩
end
theorem joinL_mem {sep:List Nat}:∀ {bs:List (List Nat)},(∀ x∈sep,x < 256)→(∀ b∈bs,∀ x∈b,x < 256)→∀ x∈a1m sep bs,x < 256:=by
 intro x_
 induction x_ with
 | nil =>
  intro _ _ x h
  exact nomatch h
 | cons b r IH_ =>
  intro h1 h2 x h
  rw [a2w] at h
  rcases bM.mp h with h | h
  ·exact h2 b (.head _) x h
  ·refine exa ?_ (List.mem_flatten.mp h);rintro l hl hx
   refine exa ?_ (bT.mp hl);rintro c hc rfl
   rcases bM.mp hx with hx | hx
   ·exact h1 x hx
   ·exact h2 c (.tail _ hc) x hx
section
variable {C:Cx} {B:Buf} {f:Fm} {rs:List (Addr×Obj)} {ρ:Loc} {σ:St} {g:G} {s:Shared} {E:Value→Shared→Prop} {A:Around}
theorem extend_raw {A:Around} {h₀:Heap} {L:Addr} {m:Str→Option Value} {news news':List (Addr×Obj)} {d b:Addr} {its its2:Array Value} {n n2:Nat} {l:List Value} {Q:Value→Shared→Prop} (F:Fr h₀ L s.heap m) (N:News h₀ L s.heap news) (hb:s.heap.get? b=some (W.listOf its2 n2))
  (e:its.toList++its2.toList=l) (hne:its2.toList.length≠0) (U:Upd d (W.listOf its n) (W.listOf l.toArray (n+1)) news news') (hd:¬(!its.isEmpty&&Builtin.List.listTooLong (its.size+its2.size))=true) (hz:its.toList.length≤sizeLine) (hz2:its.size+its2.size≤sizeLine+1)
  (h:∀ h',Fr h₀ L h' m→News h₀ L h' news'→Q .none { s with heap:=h' }):wpAny C.M A (call (.builtin "list.extend") [.ref d,.ref b]) Q E s:=by
 refine exxa ?_ U.split;rintro pre post rfl;refine eaa ?_;rintro rfl a c
 have z:=N (d,W.listOf its n) (bM.mpr (.inr (.head _)))
 have hl:l.toArray=its++its2:=by subst e;apply Array.toList_inj.mp;simp
 have hn:its2 ≠ #[]:=fun q=>hne (by rw [q];rfl)
 refine call_meets PySem.F.slot_list_extend ⟨_,z.1,rfl⟩ PySem.F.entry_list_extend (PySem.F.args_list_extend_2 _ _) (PySem.AutoSeq1.list_extend_list_list_0 d its n b its2 n2 hd (by simpa using hz) hz2) ⟨z.1,hb,h _ (F.change (Heap.SameBut.update ..) z.2.1 z.2.2) (kl_turn _ N a c ?_ ?_)⟩
 ·rw [hl]
 ·rw [hl];simp;simpa using hn
variable {k:V→St→Option R} {Q:Value→Shared→Prop} {val wal:Value} {v w:V}
theorem b4j (b:List Nat) (t:Tok) (h:∀ x∈b,x < 256):VRep C B g (.d (.bytes b)) (.bytes (toBA b) t):=DRep.bytes (C:=C) (B:=B) (fz:=g.fz) b t h
theorem v_str (b:Str) (t:Tok):VRep C B g (.d (.str b)) (.str b t):=DRep.str (C:=C) (B:=B) (fz:=g.fz) b t
theorem onR_is {F:Nat→Option R} (h:onR v F=some r) (hv:VRep C B g v val):∃ i,VRep C B g (.r i) val∧F i=some r:=by
 induction v with
 | d x=>exact no h
 | r i=>exact ⟨i,hv,h⟩
inductive OwnL (C:Cx) (B:Buf) (g:G) (σ:St) (h:Heap) (F:Nat→List D→Option R) (r:R):Value→Prop
 | mk (j:Nat) (xs:List D) (vs:List Value) (a:Addr) (n:Nat):σ[j]?=some (.list xs)→g.as[j]?=some a→g.os[j]?=some (W.listOf vs.toArray n)→DReps C B g.fz xs vs→F j xs=some r→OwnL C B g σ h F r (.ref a)
theorem ownL_is {F:Nat→List D→Option R} (h:(onR (norm σ v) fun j=>own σ j fun o=>a4q o (F j))=some r) (Rl:Rel C B f rs ρ σ g s) (hv:VRep C B g v val):OwnL C B g σ s.heap F r val:=by
 refine exa ?_ (onR_is h (a2o Rl hv));rintro j hv h
 induction a4w h Rl hv with | mk o a ob h1 h2 h3 h4 h5 h6 h =>
 induction o with
 | list xs=>revert h5;refine exxa ?_;rintro vs n rfl rr;exact .mk j xs vs a n h1 h2 h3 rr h
 | _=>exact no h
theorem append_ok (l:OwnL C B g σ s.heap (fun j xs=>appL C.T xs w j σ k) r val) (Rl:Rel C B f rs ρ σ g s) (hw:VRep C B g w wal) (q:QV C B f rs ρ g k r Q):wpAny C.M A (call (.builtin "list.append") [val,wal]) Q E s:=by
 induction l with | mk j xs vs a n ho ha hob rr h =>
 induction w with
 | d x=>exact a9l (o' := .list (xs++[x])) Rl ho rfl rfl ha hob (by rw [← rr.length];exact a1a (a0b h)) ⟨_,_,rfl,rr.app (.cons _ _ _ _ hw .nil)⟩ fun g' s' R' X'=>q (.d .none) _ g' _ _ (a0c h) R' X' rfl
 | r i =>
  have he:=a0e (a0b h)
  induction xs using aK with
  | cons _ _=>exact nob he
  | nil =>
   subst rr
   revert hw;refine exa ?_;rintro b hb rfl
   exact a9l (o' := .refs [i]) Rl ho rfl rfl ha hob (cY _) ⟨_,_,rfl,.cons _ _ _ _ hb .nil⟩ fun g' s' R' X'=>q (.d .none) _ g' _ _ (a0c h) R' X' rfl
theorem extend_ok {ys:List D} (l:OwnL C B g σ s.heap (fun j xs=>bif !ys.isEmpty&&Nat.ble (xs.length+ys.length) 10000 then k (.d .none) (setAt σ j (.list (xs++ys))) else none) r val) (ok:FmOk C f) (Rl:Rel C B f rs ρ σ g s) (hw:DRep C B g.fz (.lst ys) wal) (q:QV C B f rs ρ g k r Q):wpAny C.M A (call (.builtin "list.extend") [val,wal]) Q E s:=by
 induction l with | mk j xs vs a n ho ha hob rr h =>
 induction hw with | mk us b n2 kb rr2 =>
 have hz:=cO (a0e (a0b h))
 have hne:=b0j rr2 (a0k (a0b h))
 have h:=a0c h
 refine exa ?_ Rl.loc;rintro m F l
 refine exxx ?_ (Rl.split ho rfl);rintro a' ob pre;refine exaa ?_;rintro post ha' ho';refine eaaa ?_;rintro orr _ e1;refine eaa ?_;rintro e2 e3 e4
 have h_:=Option.some.inj (ha'.symm.trans ha);subst h_
 have h_:=Option.some.inj (ho'.symm.trans hob);subst h_
 have N:=Rl.news
 have lb:=Rl.kn ok kb
 rw [e1] at N
 rw [rr.length,rr2.length] at hz
 refine extend_raw (l:=vs++us) F N lb rfl (fun e=>hne (List.length_eq_zero_iff.mp e)) (a4v e2 e3) ?_ ?_ ?_ fun h' F' N' => ?_
 ·simp [Builtin.List.listTooLong,sizeLine_eq];intro _;lia
 ·rw [sizeLine_eq];simp;lia
 ·rw [sizeLine_eq];simp;lia
 ·rw [← e4] at N'
  exact q (.d .none) _ _ _ _ h (Rl.put (o' := .list (xs++ys)) ho rfl rfl l F' N' ⟨_,_,rfl,rr.app rr2⟩) ⟨cD _,fun z0 h=>h⟩ rfl
theorem pop_raw {j:Nat} {o o':O} {vs:List Value} {n:Nat} {a:Addr} {p:List Value} {y:Value} {u:V} (ho:σ[j]?=some o) (hm:a1u o=true) (hm':a1u o'=true) (haa:g.as[j]?=some a) (hob:g.os[j]?=some (W.listOf vs.toArray n)) (hz:vs.length≤1000000) (hl:kl_last vs=some (p,y))
  (hr:∀ n',ORep C B g o' (W.listOf p.toArray n')) (hu:VRep C B g u y) (h:k u (setAt σ j o')=some r) (Rl:Rel C B f rs ρ σ g s) (q:QV C B f rs ρ g k r Q):wpAny C.M A (call (.builtin "list.pop") [.ref a]) Q E s:=by
 refine exa ?_ Rl.loc;rintro m F l
 refine exxx ?_ (Rl.split ho hm);rintro a' ob pre;refine exaa ?_;rintro post ha' ho';refine eaaa ?_;rintro orr _ e1;refine eaa ?_;rintro e2 e3 e4
 have h_:=Option.some.inj (ha'.symm.trans haa);subst h_
 have h_:=Option.some.inj (ho'.symm.trans hob);subst h_
 have N:=Rl.news
 rw [e1] at N
 refine kl_pop F N hl (a4v e2 e3) (by rw [sizeLine_eq];simp;lia) fun h' F' N' => ?_
 rw [← e4] at N'
 have X:Ext g ⟨g.as,g.os.set j (W.listOf p.toArray (n+1)),g.fz⟩:=⟨cD _,fun z0 h=>h⟩
 exact q _ _ _ _ _ h (Rl.put ho hm hm' l F' N' (hr _)) X (hu.ext X)
theorem pop_ok {j:Nat} (h:(own σ j fun o=>popO o fun u o'=>k u (setAt σ j o'))=some r) (Rl:Rel C B f rs ρ σ g s) (hv:VRep C B g (.r j) val) (q:QV C B f rs ρ g k r Q):wpAny C.M A (call (.builtin "list.pop") [val]) Q E s:=by
 induction a4w h Rl hv with | mk o a ob ho haa hob h4 h5 h6 h =>
 induction o with
 | list xs =>
  revert h5;refine exxa ?_;rintro vs n rfl rr
  refine exa ?_ (a0i h);rintro x hl h
  refine exaa ?_ (rr.lastly hl);rintro y e1 e2 e3
  exact pop_raw (o' := .list xs.dropLast) (u := .d x) ho rfl rfl haa hob (by rw [← rr.length];exact a1a (a0b h)) e1 (fun n'=>⟨_,_,rfl,e3⟩) e2 (a0c h) Rl q
 | refs is =>
  revert h5;refine exxa ?_;rintro vs n rfl rr
  refine exa ?_ (a0i h);rintro x hl h
  refine exaa ?_ (rr.lastly hl);rintro y e1 e2 e3
  induction e2 with | mk b e2 =>
  exact pop_raw (o' := .refs is.dropLast) (u := .r x) ho rfl rfl haa hob (by rw [← rr.length];exact a1a (a0b h)) e1 (fun n'=>⟨_,_,rfl,e3⟩) ⟨b,e2,rfl⟩ (a0c h) Rl q
 | _=>exact no h
theorem joinB_ok {b:List Nat} {t0:Tok} (hb:∀ x∈b,x < 256) (h:(listOf w σ fun ys=>optK (bytesOf? ys) fun bs=>bif szOk (a1m b bs).length then k (.d (.bytes (a1m b bs))) σ else none)=some r) (ok:FmOk C f) (Rl:Rel C B f rs ρ σ g s) (hw:VRep C B g w wal) (q:QV C B f rs ρ g k r Q):wpAny C.M A (call (.builtin "bytes.join") [.bytes (toBA b) t0,wal]) Q E s:=by
 induction a3v h ok Rl hw with | mk xs vs a n hg rr h =>
 refine exa ?_ (a0i (a0c h));rintro bs hs h
 have hz2:=a1a (a0b h)
 refine exaa ?_ (bytes_of rr hs);rintro ps rfl e2 e3
 have hl:=joinL_len b bs
 have hlp:ps.length=bs.length:=by have:=congrArg List.length e2;simpa using this
 refine join_bytes ps hg ?_ ?_ fun t' k' => ?_
 ·rw [e2,joined_len b bs,a1q,hlp];lia
 ·rw [e2,b2i,a1q];lia
 ·rw [e2,b2i]
  exact q (.d _) _ g _ _ (a0c h) (Rl.tok _) (Ext.refl _) (b4j _ _ (joinL_mem hb e3))
theorem joinS_ok {x:Str} {t0:Tok} (h:(listOf w σ fun ys=>optK (strsOf ys) fun bs=>bif Nat.ble ((bs.map fun x=>x.cps.toList.length).sum+bs.length * x.cps.toList.length) 1000000 then k (.d (.str ⟨(a1m x.cps.toList (bs.map fun x=>x.cps.toList)).toArray⟩)) σ else none)=some r) (ok:FmOk C f) (Rl:Rel C B f rs ρ σ g s) (hw:VRep C B g w wal) (q:QV C B f rs ρ g k r Q):wpAny C.M A (call (.builtin "str.join") [.str x t0,wal]) Q E s:=by
 induction a3v h ok Rl hw with | mk xs vs a n hg rr h =>
 refine exa ?_ (a0i (a0c h));rintro ss hs h
 have hz2:=cO (a0b h)
 refine PyProof.Rows.join_list (a0r hg) (by simpa using strs_are rr hs) (cS ?_ (cS hz2 (by decide))) fun t' k' => ?_
 ·simp [Str.length]
 ·unfold Txt.join
  rw [glued_eq]
  exact q (.d _) _ g _ _ (a0c h) (Rl.tok _) (Ext.refl _) (v_str _ _)
theorem encode_ok {x c:Str} {t0 t1:Tok} (h:(bif seq c (oS "ascii")&&x.cps.toList.all (fun c=>cI c 128)&&szOk x.cps.toList.length then k (.d (.bytes x.cps.toList)) σ else none)=some r) (Rl:Rel C B f rs ρ σ g s) (q:QV C B f rs ρ g k r Q):wpAny C.M A (call (.builtin "str.encode") [.str x t0,.str c t1]) Q E s:=by
 have e:=seq_iff.mp (a0k (a0k (a0b h)));subst e
 have z1:=a0e (a0k (a0b h))
 have hc:∀ c∈x.cps.toList,c < 128:=fun c hc=>cO (aF.mp z1 c hc)
 refine b4h hc (a1a (a0e (a0b h))) fun t' k' => ?_
 rw [asc_eq]
 exact q (.d _) _ g _ _ (a0c h) (Rl.tok _) (Ext.refl _) (b4j _ _ fun c h=>cW (hc c h) (by decide))
theorem bmeth_snd {bm:BM} {args:List V} {vals:List Value} (h:bmeth C.T bm v args σ k=some r) (ok:FmOk C f) (Rl:Rel C B f rs ρ σ g s) (hv:VRep C B g v val)
  (hvs:VReps C B g args vals) (q:QV C B f rs ρ g k r Q):wpAny C.M A (call (.builtin (bmName bm)) (val::vals)) Q E s:=by
 have hn:=a2o Rl hv
 induction bm with
 | append=>induction a0y h hvs with | mk w wal hw h=>exact append_ok (ownL_is (F:=fun j xs=>appL C.T xs w j σ k) h Rl hv) Rl hw q
 | extend=>induction a0y h hvs with | mk w wal hw h=>induction a0p h hw with | mk d hd h=>induction d using D.casesOn with
  | lst ys=>exact extend_ok (ys:=ys) (ownL_is (F:=fun j xs=>bif !ys.isEmpty&&Nat.ble (xs.length+ys.length) 10000 then k (.d .none) (setAt σ j (.list (xs++ys))) else none) h Rl hv) ok Rl hd q
  | _=>exact no h
 | pop=>induction args using aK with
  | nil =>
   subst hvs
   refine exa ?_ (onR_is h hn);rintro j hj h
   exact pop_ok h Rl hj q
  | cons _ _=>exact no h
 | get=>induction a0p h hn with | mk d hd h=>induction d using D.casesOn with
  | dct es=>induction hd with | mk a o k1 lo rr=>induction a0y h hvs with | mk w wal hw h=>induction a0p h hw with | mk x hx h=>exact getK_snd h Rl (Rl.kn ok k1) rr lo hx q
  | _=>exact no h
 | joinB=>induction a0p h hn with | mk d hd h=>induction onB_is h hd with | mk b t0 hb h=>induction a0y h hvs with | mk w wal hw h=>exact joinB_ok hb h ok Rl hw q
 | joinS=>induction a0p h hn with | mk d hd h=>induction a7k h hd with | mk x t0 h=>induction a0y h hvs with | mk w wal hw h=>exact joinS_ok h ok Rl hw q
 | encode=>induction a0p h hn with | mk d hd h=>induction a7k h hd with | mk x t0 h=>induction a0y h hvs with | mk w wal hw h=>induction a0p h hw with | mk d hd h=>induction a7k h hd with | mk c t1 h=>exact encode_ok h Rl q
end
end Mine
end
section
namespace Mine
open PySem PySem.W PySem.Spec PySem.Calls PyProof.Rows PySem.SeqAt
theorem tn_max (x:Int):(max 0 x).toNat=x.toNat:=by
 rcases Int.le_total 0 x with h | h
 ·rw [Int.max_eq_right h]
 ·rw [Int.max_eq_left h,Int.toNat_of_nonpos h];rfl
theorem b2k (n:Nat) (i:Int):clipAt n i=a6z i n:=by
 unfold clipAt a6z
 rw [tn_max]
 by_cases h:i < 0
 ·rw [decide_eq_true h,if_pos h,Int.min_eq_left (Int.add_le_of_le_sub_right (Int.sub_self _▸Int.le_of_lt h))];rfl
 ·rw [decide_eq_false h,if_neg h]
  rcases Int.le_total i n with k | k
  ·rw [Int.min_eq_left k];exact (Nat.min_eq_left (Int.toNat_le.mpr k)).symm
  ·rw [Int.min_eq_right k];exact (Nat.min_eq_right (Int.le_toNat (Int.not_lt.mp h) |>.mpr k)).symm
theorem a4c {α:Type} (xs:List α) (lo hi:Option Int):slice xs lo hi=(xs.drop (lo.elim 0 (clipAt xs.length))).take (hi.elim xs.length (clipAt xs.length) - lo.elim 0 (clipAt xs.length)):=by
 unfold slice
 cases lo <;> cases hi <;> simp only [Option.elim,b2k]
theorem b4k (b:List Nat) (lo hi:Option Int):KBy.picked (toBA b) lo hi=toBA (slice b lo hi):=by
 rw [KBc.picked_eq,a4c,a1q]
 unfold toBA
 simp only [List.map_take,List.map_drop]
theorem slice_mem {b:List Nat} {lo hi:Option Int} (h:∀ x∈b,x < 256):∀ x∈slice b lo hi,x < 256:=by
 intro x hx
 rw [a4c] at hx
 exact h x (List.mem_of_mem_drop (List.mem_of_mem_take hx))
theorem b2l (lower upper:Option Expr) (p:Pos) (b:Bool) (o i:Value):subscripted (.Slice lower upper none p) b o i=operate [i,o] (getItem o i):=rfl
section
variable {C:Cx} {B:Buf} {f:Fm} {rs:List (Addr×Obj)} {ρ:Loc} {σ:St} {g:G} {s:Shared} {E:Value→Shared→Prop} {A:Around}
noncomputable def POk (C:Cx) (B:Buf) (fz:List (Addr×Obj)):Option D→Value→Prop
 | none,v=>v = .none
 | some d,v=>DRep C B fz d v
theorem part_of {fz:List (Addr×Obj)} {o:Option D} {v:Value} {x:Option Int} (h:idxO o=some x) (hp:POk C B fz o v):IsPart v x:=by
 induction o with
 | none=>have h_:=Option.some.inj h;subst h_;subst hp;exact .none
 | some d =>
  have h:(int? d).map some=some x:=h
  cases e:int? d with
  | none=>rw [e] at h;exact no h
  | some i=>rw [e] at h;have h_:=Option.some.inj h;subst h_;induction int_is e hp with | mk t=>exact .int _ _
theorem sub_cast {e a:Nat} {i:Int} (h1:i=(e:Int) - a+(0:Nat)) (h3:a≤e):i=((e - a:Nat):Int):=h1.trans ((Int.add_zero _).trans (Int.ofNat_sub h3).symm)
theorem pos_clip {a:List Nat} {i:Int} (ha:a3d B a 0 i):clipAt B.dt.length i=B.e - a.length:=by
 rw [sub_cast ha.1 ha.2.2.1,b2k];unfold a6z;rw [decide_eq_false (Int.not_lt.mpr (Int.natCast_nonneg _))]
 exact Nat.min_eq_left (cS (Nat.sub_le _ _) B.ok)
theorem sub3 {e a b:Nat} (h:a≤e):e - b - (e - a)=a - b:=by
 rw [Nat.sub_sub,Nat.add_comm,← Nat.sub_sub,Nat.sub_sub_self h]
theorem pos_slice {a b:List Nat} {i j:Int} (ha:a3d B a 0 i) (hb:a3d B b 0 j) (h:b.length≤a.length):slice B.dt (some i) (some j)=a.take (a.length - b.length):=by
 refine (a4c _ _ _).trans ?_
 show List.take (clipAt B.dt.length j - clipAt B.dt.length i) (List.drop (clipAt B.dt.length i) B.dt)=_
 rw [pos_clip ha,pos_clip hb,sub3 ha.2.2.1]
 conv=>rhs;rw [ha.2.2.2]
 have e4:((B.dt.take B.e).drop (B.e - a.length)).length=a.length:=by rw [← ha.2.2.2]
 rw [e4,List.drop_take,List.take_take,Nat.sub_sub_self ha.2.2.1,Nat.min_eq_left (Nat.sub_le _ _)]
noncomputable abbrev slObj (lv uv:Value):Obj:={ cls := .type "slice",data := .fields #[lv,uv,.none] }
variable {k:D→Option R} {Q:Value→Shared→Prop} {val lv uv:Value} {lo hi:Option D} {value:Expr} {lower upper:Option Expr} {p:Pos} {x y:Option Int}
theorem slice_lst {a:Addr} {vs:List Value} {n:Nat} {xs:List D} (hg:s.heap.get? a=some (W.listOf vs.toArray n)) (rr:DReps C B g.fz xs vs) (px:IsPart lv x) (py:IsPart uv y) (h:(bif szOk xs.length then k (.lst (slice xs x y)) else none)=some r) (Rl:Rel C B f rs ρ σ g s) (q:QD C B f rs ρ σ g k r Q) :
  wpAny C.M A (subscriptTail value (.Slice lower upper none p) (.ref a) (.ref s.heap.objs.size)) Q E { s with heap:=s.heap.push (slObj lv uv) }:=by
 have hz:=a1a (a0b h)
 have hk:∀ b o,s.heap.get? b=some o→(s.heap.push (slObj lv uv)).get? b=some o:=fun z0 z0 e=>Heap.get?_push_of_some _ e
 have R1:=Rl.grow (t:=s.toks) hk
 have hl:=a0r (hk _ _ hg)
 refine PyProof.Rows.tail_any hl.typeIs slot_list_getitem.lookup ?_ (b2l _ _ _ _ _ _)
 refine wpAny_getItem_list_slice hl (Heap.IsSliceOf.new _ _ _ _) px py .none (fun e=>nomatch e) ?_ (by rw [cG,← rr.length,sizeLine_eq];lia)
 rw [slicePick_plain]
 have e:(slice vs x y)=List.take (y.elim vs.toArray.size (clipAt vs.toArray.size) - x.elim 0 (clipAt vs.toArray.size)) (List.drop (x.elim 0 (clipAt vs.toArray.size)) vs.toArray.toList):=by rw [a4c,cG]
 rw [← e]
 refine aE ?_ (R1.growF (t:=s.toks) (a:=(s.heap.push (slObj lv uv)).objs.size) (ob:={ cls := .type "list",data := .seq (slice vs x y).toArray }) (fun z0 z0 e=>Heap.get?_push_of_some _ e) (cQ _) (Heap.get?_push_size _ rfl));rintro R' X'
 refine q _ _ _ _ (a0c h) R' X' (.lst _ (slice vs x y) _ 0 (.inl (.head _)) (DReps.mono X'.fz ?_))
 rw [a4c,a4c,rr.length]
 exact (rr.drop _).take _
theorem b2m {b:List Nat} {t:Tok} (px:IsPart lv x) (py:IsPart uv y) (hz:b.length≤1000000) (hb:∀ x∈b,x < 256) (h:k (.bytes (slice b x y))=some r) (Rl:Rel C B f rs ρ σ g s) (q:QD C B f rs ρ σ g k r Q) :
  wpAny C.M A (subscriptTail value (.Slice lower upper none p) (.bytes (toBA b) t) (.ref s.heap.objs.size)) Q E { s with heap:=s.heap.push (slObj lv uv) }:=by
 refine exa ?_ Rl.putN;rintro m F pn
 refine KBc.slice_K F Rl.news (a9i hb) px py (by rw [bF];lia) (fun h' t' k' F' N' z0 => ?_) (b2l _ _ _ _ _ _) (noTemp value)
 rw [b4k]
 exact q _ g _ _ h (pn h' k' F' N') (Ext.refl _) (.bytes _ _ (slice_mem hb))
theorem slice_buf {t:Tok} (hl:POk C B g.fz lo lv) (hu:POk C B g.fz hi uv) (h:slBuf lo hi k=some r) (Rl:Rel C B f rs ρ σ g s) (q:QD C B f rs ρ σ g k r Q) :
  wpAny C.M A (subscriptTail value (.Slice lower upper none p) (.bytes (toBA B.dt) t) (.ref s.heap.objs.size)) Q E { s with heap:=s.heap.push (slObj lv uv) }:=by
 refine exa ?_ (a0i h);rintro a ea h
 refine exa ?_ (a0i h);rintro b eb h
 subst ea eb
 induction b1r h hl with | mk a o i t1 p1 h =>
 induction b1r h hu with | mk b u j t2 p2 h =>
 cases cL (a0k (a0k (a0b h)))
 cases cL (a0e (a0k (a0b h)))
 have hz:=cO (a0e (a0b h))
 have h:=a0c h
 rw [← pos_slice p1 p2 hz] at h
 exact b2m (.int _ _) (.int _ _) B.sz B.lt h Rl q
theorem slice_snd {v:V} (h:sliceV v lo hi σ k=some r) (ok:FmOk C f) (Rl:Rel C B f rs ρ σ g s)
  (hv:VRep C B g v val) (hl:POk C B g.fz lo lv) (hu:POk C B g.fz hi uv) (q:QD C B f rs ρ σ g k r Q) :
  wpAny C.M A (subscriptTail value (.Slice lower upper none p) val (.ref s.heap.objs.size)) Q E { s with heap:=s.heap.push (slObj lv uv) }:=by
 induction a0p h (a2o Rl hv) with | mk d hd h =>
 cases hb:isBuf d with
 | true =>
  rw [hb] at h
  induction d using D.casesOn with
  | buf=>induction hd with | mk t=>exact slice_buf hl hu h Rl q
  | _=>exact nob hb
 | false =>
  rw [hb] at h
  refine exa ?_ (a0i h);rintro x hx h
  refine exa ?_ (a0i h);rintro y hy h
  have px:=part_of hx hl
  have py:=part_of hy hu
  induction d using D.casesOn with
  | bytes b=>induction hd with | mk t hb=>exact b2m px py (a1a (a0b h)) hb (a0c h) Rl q
  | lst xs=>induction hd with | mk vs a n k1 rr=>exact slice_lst (Rl.kn ok k1) rr px py h Rl q
  | _=>exact no h
end
end Mine
end
section
namespace Mine
open PySem PySem.W PySem.Spec PySem.Calls PyProof.Rows PySem.SeqAt
section
variable {C:Cx} {B:Buf} {f:Fm} {rs:List (Addr×Obj)} {ρ:Loc} {σ:St} {g:G} {s:Shared} {E:Value→Shared→Prop} {A:Around}
theorem inO_ok {op:CmpOp} {x:D} {a b:Value} {j:Nat} {k:Bool→Option R} {Q:Value→Shared→Prop} (h:(own σ j fun o=>inO op x o k)=some r) (Rl:Rel C B f rs ρ σ g s) (hx:DRep C B g.fz x a) (hy:VRep C B g (.r j) b) (q:QBo C B f rs ρ σ g k r Q):wpAny C.M A (compareOp op a b) Q E s:=by
 induction a4w h Rl hy with | mk o d ob h1 h2 h3 hg hr lo h =>
 induction o with
 | dict es=>induction op with
  | In=>exact dict_in hr (a0b h) hx hg lo (q _ _ (a0c h) (Rl.tok _))
  | _=>exact no h
 | list ys=>induction op with
  | NotIn=>revert hr;refine exxa ?_;rintro vs n rfl rr;exact b1w (.mk vs d n hg rr) hx h Rl q
  | _=>exact no h
 | _=>exact no h
theorem eqs_ok {op:CmpOp} {a b:Value} {F:(Bool→Option R)→Option R} {k:Bool→Option R} {Q:Value→Shared→Prop} (h:eqs op F k=some r) (h1:F k=some r→wpAny C.M A (compareOp .Eq a b) Q E s) (h2:(F fun q=>k (!q))=some r→wpAny C.M A (compareOp .NotEq a b) Q E s):wpAny C.M A (compareOp op a b) Q E s:=by
 induction op with
 | Eq=>exact h1 h
 | NotEq=>exact h2 h
 | _=>exact no h
theorem eqO_ok {op:CmpOp} {ys:List D} {a b:Value} {i:Nat} {k:Bool→Option R} {Q:Value→Shared→Prop} (h:(own σ i fun o=>eqO op o ys k)=some r) (ok:FmOk C f) (hu:A.units+100 < cLine) (Rl:Rel C B f rs ρ σ g s) (hx:VRep C B g (.r i) a) (hy:DRep C B g.fz (.lst ys) b) (q:QBo C B f rs ρ σ g k r Q):wpAny C.M A (compareOp op a b) Q E s:=by
 induction a4w h Rl hx with | mk o d ob h1 h2 h3 hg hr lo h =>
 induction o with
 | list xs =>
  induction frz_list Rl h1 h2 h3 hr with | mk g' R' X' _ _ dr =>
  have hb:=hy.mono X'.fz
  exact eqs_ok h (fun h=>(b0l ok R' 60 A _ _ _ _ (by lia) dr hb (a0b h)).rc _ _ _ _ (q _ _ (a0c h) Rl)) fun h=>(b0l ok R' 60 A _ _ _ _ (by lia) dr hb (a0b h)).ne _ _ _ _ (q _ _ (a0c h) Rl)
 | refs is=>induction ys using aK with
  | cons _ _=>exact no h
  | nil =>
   revert hr;refine exxa ?_;rintro vs n rfl rr
   induction hy with | mk us l2 m2 k2 r2 =>
   subst r2
   have t1:=a0r hg
   have t2:=a0r (Rl.kn ok k2)
   have hu':A.units < cLine:=by lia
   induction is using aK with
   | nil =>
    subst rr
    exact eqs_ok (F:=fun k=>k true) h (fun h=>(RcAt.lists (A:=A) (e:=fun z0=>true) t1 t2 rfl hu' (fun j h1=>absurd h1 (Nat.not_lt_zero _))) _ _ _ _ (q _ _ h Rl)) fun h=>(RcNeAt.lists (A:=A) (e:=fun z0=>true) t1 t2 rfl hu' (fun j h1=>absurd h1 (Nat.not_lt_zero _))) _ _ _ _ (q _ _ h Rl)
   | cons i is =>
    induction rr with | mk v vs h1 h2 =>
    have hb:((v::vs).toArray.size != ([]:List Value).toArray.size)=true:=by simp
    exact eqs_ok (F:=fun k=>k false) h (fun h=>(RcAt.lists_lengths (A:=A) t1 t2 hb hu') _ _ _ _ (q _ _ h Rl)) fun h=>(RcNeAt.lists_lengths (A:=A) t1 t2 hb hu') _ _ _ _ (q _ _ h Rl)
 | _=>exact no h
theorem b0q {op:CmpOp} {x y:V} {a b:Value} {k:Bool→Option R} {Q:Value→Shared→Prop} (h:cmp op x y σ k=some r) (ok:FmOk C f) (hu:A.units+100 < cLine) (Rl:Rel C B f rs ρ σ g s)
  (hx:VRep C B g x a) (hy:VRep C B g y b)
  (q:QBo C B f rs ρ σ g k r Q):wpAny C.M A (compareOp op a b) Q E s:=by
 have hnx:=a2o Rl hx
 have hny:=a2o Rl hy
 have h:(match norm σ x with | .d x=>(match norm σ y with | .d y=>cmpD op x y k | .r j=>own σ j fun o=>inO op x o k) | .r i=>(match norm σ y with | .d y=>own σ i fun o=>onL y fun ys=>eqO op o ys k | .r _=>none))=some r:=h
 generalize norm σ x=x' at h hnx
 generalize norm σ y=y' at h hny
 induction x' with
 | d x=>induction y' with
  | d y=>exact cmpD_snd h ok hu Rl hnx hny q
  | r j=>exact inO_ok h Rl hnx hny q
 | r i=>induction y' with
  | r _=>exact no h
  | d y=>induction y using D.casesOn with
   | lst ys=>exact eqO_ok h ok hu Rl hnx hny q
   | _ =>
    have h:(own σ i fun o=>none)=some r:=h
    induction a4w h Rl hnx with | mk _ _ _ _ _ _ _ _ _ h=>exact no h
noncomputable def upd (L:Addr) (o:Obj) (rs:List (Addr×Obj)):List (Addr×Obj):=rs.map fun p=>if p.1=L then (p.1,o) else p
noncomputable def RsTo (L:Addr) (rs rs':List (Addr×Obj)):Prop:=rs'=rs∨∃ o,rs'=upd L o rs
theorem upd_ne {L:Addr} {o:Obj}:∀ {rs:List (Addr×Obj)},(∀ p∈rs,p.1≠L)→upd L o rs=rs:=by
 intro x_
 induction x_ with
 | nil =>
  intro _
  exact rfl
 | cons p r IH_ =>
  intro h
  show (if p.1=L then (p.1,o) else p)::upd L o r=_
  rw [if_neg (h p (.head _)),IH_ fun q hq=>h q (.tail _ hq)]
theorem b0r {L:Addr} {o:Obj} {rs:List (Addr×Obj)} {p:Addr×Obj} (h:p∈upd L o rs):∃ q∈rs,q.1=p.1:=by
 refine exa ?_ (bT.mp h);rintro q hq e
 refine ⟨q,hq,?_⟩
 split at e <;> (subst e;rfl)
theorem upd_upd (L:Addr) (o o':Obj) (rs:List (Addr×Obj)):upd L o' (upd L o rs)=upd L o' rs:=by
 unfold upd
 rw [bL]
 apply bJ
 intro p _
 simp only [Function.comp]
 by_cases h:p.1=L
 ·simp [h]
 ·simp [h]
theorem RsTo.refl (L:Addr) (rs:List (Addr×Obj)):RsTo L rs rs := .inl rfl
theorem RsTo.trans {L:Addr} {a b c:List (Addr×Obj)} (x:RsTo L a b) (y:RsTo L b c):RsTo L a c:=by
 rcases x with rfl | z1_
 ·exact y
 ·revert z1_;refine xE ?_;rintro o rfl
  rcases y with rfl | z1_
  ·exact .inr ⟨o,rfl⟩
  ·revert z1_;refine xE ?_;rintro o' rfl
   exact .inr ⟨o',upd_upd _ _ _ _⟩
theorem RsTo.fn {L:Addr} {rs rs':List (Addr×Obj)} (x:RsTo L rs rs') (h:∀ p∈rs,p.1≠L):rs'=rs:=by
 rcases x with rfl | z1_
 ·rfl
 ·revert z1_;refine xE ?_;rintro o rfl
  exact upd_ne h
theorem LRep.set {env:Env} {m:Str→Option Value} {x:Str} {v:V} {val:Value} (l:LRep C B env ρ g m) (hk:env.kindOf x=some .local) (hv:VRep C B g v val):LRep C B env (put x v ρ) g (fun y=>if y=x then some val else m y):=by
 intro y u hy
 rw [a2i] at hy
 by_cases e:y=x
 ·subst e
  rw [if_pos rfl] at hy;cases hy
  refine ⟨fun z0=>⟨val,if_pos rfl,hv⟩,fun h => ?_⟩
  rw [hk] at h
  rcases h with h | h <;> cases h
 ·rw [if_neg e] at hy
  simp only [if_neg e]
  exact l y u hy
noncomputable abbrev QP (C:Cx) (B:Buf) (f:Fm) (rs:List (Addr×Obj)) (ρ:Loc) (g:G) (x:Str) (v:V) (k:Loc→St→Option R) (r:R) (Q:Unit→Shared→Prop):Prop :=
 ∀ ρ' σ' g' rs' s',k ρ' σ'=some r→Rel C B f rs' ρ' σ' g' s'→Ext g g'→RsTo f.env.locals rs rs'→(ρ'=ρ∨ρ'=put x v ρ)→Q () s'
variable {x:Str} {v:V} {val:Value} {k:Loc→St→Option R} {Q:Unit→Shared→Prop}
theorem News.turned {m:Str→Option Value} {h':Heap} {o o':Obj} (Rl:Rel C B f rs ρ σ g s) (hm:(f.env.locals,o)∈rs) (ho':h'.get? f.env.locals=some o') (hs:Heap.SameBut f.env.locals s.heap h'):News f.h₀ f.L h' (g.led (upd f.env.locals o' rs)):=by
 intro p hp
 have old:∀ p∈g.led rs,p.1≠f.env.locals→h'.get? p.1=some p.2∧p.1≠f.L∧f.h₀.get? p.1=none:=fun p hp hne=>⟨(hs.2 p.1 hne).trans (Rl.news p hp).1,(Rl.news p hp).2⟩
 rcases bM.mp hp with hp | hp
 ·exact old p (bN _ hp) fun e=>Rl.rsA _ hm p.1 (Rl.zipFst hp) e
 ·rcases bM.mp hp with hp | hp
  ·exact old p (a1g hp) fun e=>Rl.rsF _ hm p hp e
  ·refine exa ?_ (bT.mp hp);rintro q hq e
   by_cases hc:q.1=f.env.locals
   ·rw [if_pos hc] at e;subst e
    exact ⟨hc▸ho',hc▸(Rl.news _ (a0l hm)).2⟩
   ·rw [if_neg hc] at e;subst e
    exact old q (a0l hq) hc
theorem b2n (h:k (put x v ρ) σ=some r) (kl:f.env.kindOf x=some .local) (ok:FmOk C f) (Rl:Rel C B f rs ρ σ g s) (hv:VRep C B g v val) (q:QP C B f rs ρ g x v k r Q):wpAny C.M A (storeName f.env x val) Q E s:=by
 refine exa ?_ Rl.loc;rintro m F l
 rcases l with z0_ | z1_
 ·revert z0_;refine aE ?_;rintro e l
  refine wpAny_storeName_local (m:=m) kl (by rw [e];exact F.ns) (fun h' hns hs => ?_) (by rw [ok.kind];rfl)
  rw [e] at hns hs
  exact q _ _ g rs _ h ⟨⟨_,F.set hns hs,.inl ⟨e,l.set kl hv⟩⟩,Rl.news.set hs,Rl.lenA,Rl.lenO,Rl.nodup,Rl.own,Rl.rsF,Rl.rsA,Rl.gens,Rl.os⟩ (Ext.refl _) (.refl _ _) (.inr rfl)
 ·obtain ⟨em,o,mC,hm,n,l⟩:=z1_
  refine wpAny_storeName_local (m:=mC) kl n (fun h' hns hs => ?_) (by rw [ok.kind];rfl)
  refine exxx ?_ (id hns);rintro o' es ep;refine aE ?_;rintro ho' _
  have nC:=Rl.news _ (a0l hm)
  refine q _ _ g (upd f.env.locals o' rs) _ h ⟨⟨m,F.change hs nC.2.1 nC.2.2,.inr ⟨em,o',_,bT.mpr ⟨_,hm,if_pos rfl⟩,hns,l.set kl hv⟩⟩,News.turned (m:=m) Rl hm ho' hs,Rl.lenA,Rl.lenO,Rl.nodup,Rl.own,fun p hp p' hp' => ?_,fun p hp a ha => ?_,Rl.gens,Rl.os⟩ (Ext.refl _) (.inr ⟨o',rfl⟩) (.inr rfl)
  ·refine exa ?_ (b0r hp);rintro q hq e
   rw [← e];exact Rl.rsF q hq p' hp'
  ·refine exa ?_ (b0r hp);rintro q hq e
   rw [← e];exact Rl.rsA q hq a ha
theorem cell_is {c:Addr} {w:Option V} {ob:Obj} (hg:s.heap.get? c=some ob) (hr:ORep C B g (.cell w) ob):∃ v₀,s.heap.IsCell c v₀:=by
 induction w with
 | none=>exact ⟨_,ob,hg,hr⟩
 | some w=>revert hr;refine exa ?_;rintro val hd _;exact ⟨_,ob,hg,hd⟩
theorem b4l (h:(cellAt x ρ σ fun i z0=>k ρ (setAt σ i (.cell (some v))))=some r) (kc:f.env.kindOf x=some .cell) (ok:FmOk C f) (Rl:Rel C B f rs ρ σ g s) (hv:VRep C B g v val) (q:QP C B f rs ρ g x v k r Q):wpAny C.M A (storeName f.env x val) Q E s:=by
 refine exa ?_ (b1x h Rl (.inl kc));rintro c hc2 cf
 induction cf with | mk i w ob ho ha hob hg hr h =>
 refine xE ?_ (cell_is hg hr);rintro v₀ hcell
 refine wpAny_storeName_cell ok.kind kc hc2 hcell fun h' hc' hs => ?_
 revert hc';refine exa ?_;rintro ob' hob' hd'
 refine aE ?_ (Rl.turn (o' := .cell (some v)) (t:=s.toks) ho rfl rfl ha hob hs hob' ⟨val,hd',hv⟩);rintro R' X'
 exact q _ _ _ rs _ h R' X' (.refl _ _) (.inl rfl)
theorem a4k (h:putName f.sc x v ρ σ k=some r) (ok:FmOk C f) (Rl:Rel C B f rs ρ σ g s) (hv:VRep C B g v val)
  (q:QP C B f rs ρ g x v k r Q):wpAny C.M A (storeName f.env x val) Q E s:=by
 have e:=a3o x f.sc.names
 have h:optK (lk x f.sc.names) _=some r:=h
 generalize lk x f.sc.names=o at h e
 induction a3t h with | mk kd h =>
 refine eaaa ?_ (ok.kinds x kd e.symm);rintro k1 k2 k3 k4
 induction kd with
 | «local» => exact b2n h (k1 rfl) ok Rl hv q
 | cell=>exact b4l h (k4 rfl) ok Rl hv q
 | _=>exact no h
end
end Mine
end
section
namespace Mine
open PySem PySem.W PySem.Spec PySem.Calls PyProof.Rows PySem.SeqAt
structure Room (f:Fm) (n:Nat):Prop where
 depth:f.A.depth+2 * n≤900
 units:f.A.units+8 * n≤9700
theorem Room.lt {f:Fm} {n m:Nat} (h:Room f n) (hm:m≤n):Room f m:=⟨by have:=h.depth;lia,by have:=h.units;lia⟩
noncomputable abbrev QB (C:Cx) (B:Buf) (f:Fm) (rs:List (Addr×Obj)) (ρ:Loc) (g:G) (k:Bool→St→Option R) (r:R) (Q:Bool→Shared→Prop):Prop :=
 ∀ u σ' g' s',k u σ'=some r→Rel C B f rs ρ σ' g' s'→Ext g g'→Q u s'
structure QS (C:Cx) (B:Buf) (f:Fm) (rs:List (Addr×Obj)) (g:G) (K:KS R) (r:R) (Q:Flow→Shared→Prop):Prop where
 next:∀ ρ' σ' g' s',K.next ρ' σ'=some r→Rel C B f rs ρ' σ' g' s'→Ext g g'→Q .next s'
 ret:∀ ρ' v u σ' g' s',K.ret v σ'=some r→Rel C B f rs ρ' σ' g' s'→Ext g g'→VRep C B g' v u→Q (.ret u) s'
 cont:∀ ρ' σ' g' s',K.cont ρ' σ'=some r→Rel C B f rs ρ' σ' g' s'→Ext g g'→Q .cont s'
 brk:∀ ρ' σ' g' s',K.brk ρ' σ'=some r→Rel C B f rs ρ' σ' g' s'→Ext g g'→Q .brk s'
theorem QS.ext {C:Cx} {B:Buf} {f:Fm} {rs:List (Addr×Obj)} {g g':G} {K:KS R} {Q:Flow→Shared→Prop} (q:QS C B f rs g K r Q) (x:Ext g g'):QS C B f rs g' K r Q :=
 ⟨fun z0 z0 z0 z0 a b c=>q.next _ _ _ _ a b (x.trans c),fun z0 z0 z0 z0 z0 z0 a b c d=>q.ret _ _ _ _ _ _ a b (x.trans c) d,fun z0 z0 z0 z0 a b c=>q.cont _ _ _ _ a b (x.trans c),fun z0 z0 z0 z0 a b c=>q.brk _ _ _ _ a b (x.trans c)⟩
structure Snd (C:Cx) (ih:IH R) (n:Nat):Prop where
 e:∀ {f:Fm} {B:Buf} {rs:List (Addr×Obj)} {ρ:Loc} {σ:St} {g:G} {s:Shared} {E:Value→Shared→Prop} {e:Expr} {k:V→St→Option R} {Q:Value→Shared→Prop},
  ih.e f.sc e ρ σ k=some r→FmOk C f→Room f n→Rel C B f rs ρ σ g s→QV C B f rs ρ g k r Q→wpAny C.M f.A (eval e f.env) Q E s
 t:∀ {f:Fm} {B:Buf} {rs:List (Addr×Obj)} {ρ:Loc} {σ:St} {g:G} {s:Shared} {E:Value→Shared→Prop} {e:Expr} {k:Bool→St→Option R} {Q:Bool→Shared→Prop},
  ih.t f.sc e ρ σ k=some r→FmOk C f→Room f n→Rel C B f rs ρ σ g s→QB C B f rs ρ g k r Q→wpAny C.M f.A (PySem.isTrue e f.env (eval e f.env)) Q E s
 s:∀ {f:Fm} {B:Buf} {rs:List (Addr×Obj)} {ρ:Loc} {σ:St} {g:G} {s:Shared} {E:Value→Shared→Prop} {st:Stmt} {K:KS R} {Q:Flow→Shared→Prop},
  ih.s f.sc st ρ σ K=some r→FmOk C f→f.env.locals=f.L→Room f n→Rel C B f rs ρ σ g s→QS C B f rs g K r Q→wpAny C.M f.A (exec st f.env) Q E s
 call:∀ {f:Fm} {B:Buf} {rs:List (Addr×Obj)} {ρ:Loc} {σ:St} {g:G} {s:Shared} {E:Value→Shared→Prop} {fv:V} {args:List V} {val:Value} {vals:List Value} {k:V→St→Option R} {Q:Value→Shared→Prop},
  ih.call fv args σ k=some r→FmOk C f→Room f n→Rel C B f rs ρ σ g s→VRep C B g fv val→VReps C B g args vals→QV C B f rs ρ g k r Q→wpAny C.M f.A (call val vals) Q E s
 keep:∀ {f:Fm} {B:Buf} {rs:List (Addr×Obj)} {ρ:Loc} {σ:St} {g:G} {s:Shared} {fv:V} {args:List V} {val:Value} {k:V→St→Option R},
  ih.call fv args σ k=some r→FmOk C f→Rel C B f rs ρ σ g s→VRep C B g fv val→∃ kp,(kp=Keeper.frame∨kp=Keeper.machine∨kp=Keeper.boundFrame)∧Looks C.M s.heap (keeperOf val) kp
section
variable {C:Cx} {ih:IH R} {n:Nat} {B:Buf} {f:Fm} {rs:List (Addr×Obj)} {ρ:Loc} {σ:St} {g:G} {s:Shared} {E:Value→Shared→Prop}
theorem a1w {e:Expr} (h:isStar e=false) (r:List Expr) (env:Env):starEach (e::r) env=(false,eval e env)::starEach r env:=by
 induction e using Expr.casesOn with
 | Starred _ _=>exact nob h.symm
 | _=>rfl
noncomputable abbrev QL (C:Cx) (B:Buf) (f:Fm) (rs:List (Addr×Obj)) (ρ:Loc) (g:G) (k:List V→St→Option R) (r:R) (Q:List Value→Shared→Prop):Prop :=
 ∀ vs σ' g' s' vals,k vs σ'=some r→Rel C B f rs ρ σ' g' s'→Ext g g'→VReps C B g' vs vals→Q vals s'
theorem a7u {α:Type} {b:Bool} {x:Option α} {r:α} (h:(bif b then none else x)=some r):b=false:=by
 induction b with
 | false=>rfl
 | true=>exact no h
theorem b0s (S:Snd C ih n) {pos:Pos}:∀ {es:List Expr} {σ:St} {g:G} {s:Shared} {k:List V→St→Option R} {Q:List Value→Shared→Prop},evL ih f.sc es ρ σ k=some r→FmOk C f→Room f n→Rel C B f rs ρ σ g s →
  QL C B f rs ρ g k r Q→wpAny C.M f.A (spliced (backTo pos (starEach es f.env))) Q E s:=by
 intro x_
 induction x_ with
 | nil =>
  intro σ g s k Q h ok rm Rl q
  exact wpAny_pure (q [] σ g s [] h Rl (Ext.refl _) .nil)
 | cons e es IH_ =>
  intro σ g s k Q h ok rm Rl q
  have hs:isStar e=false:=a7u h
  have h:(ih.e f.sc e ρ σ fun v σ=>evL ih f.sc es ρ σ fun vs σ=>k (v::vs) σ)=some r:=a4d h
  rw [a1w hs]
  exact spliced_cons (S.e h ok rm Rl fun v σ1 g1 s1 val h1 R1 X1 hv=>IH_ h1 ok rm R1 fun vs σ2 g2 s2 vals h2 R2 X2 hvs=>q (v::vs) σ2 g2 s2 (val::vals) h2 R2 (X1.trans X2) (.cons _ _ _ _ (hv.ext X2) hvs))
theorem a9m {pos:Pos}:∀ {es:List Expr},es.all (fun e => !isStar e)=true→(backTo pos (starEach es f.env)).any (·.1)=false:=by
 intro x_
 induction x_ with
 | nil =>
  intro _
  exact rfl
 | cons e es IH_ =>
  intro h
  rw [a1w (aC _▸a0k (show (!isStar e&&es.all fun e => !isStar e)=true from h):isStar e=false)]
  exact IH_ (a0e (show (!isStar e&&es.all fun e => !isStar e)=true from h))
variable {k:V→St→Option R} {Q:Value→Shared→Prop} {pos:Pos}
theorem u8s (b:List UInt8):b.toArray=toBA (b.map UInt8.toNat):=by
 unfold toBA
 rw [bL]
 congr 1
 conv=>lhs;rw [← List.map_id b]
 exact bJ fun x z0=>(UInt8.ofNat_toNat (x:=x)).symm
theorem const_snd {c:Const} {kd:Nat} (h:eConst c σ k=some r) (Rl:Rel C B f rs ρ σ g s) (q:QV C B f rs ρ g k r Q) :
  wpAny C.M f.A (eval (.Constant c kd pos) f.env) Q E s:=by
 induction c with
 | none=>exact wpAny_Constant_none (q (.d .none) _ g _ _ h Rl (Ext.refl _) rfl)
 | bool b=>exact wpAny_Constant_bool (q (.d (.bool b)) _ g _ _ h Rl (Ext.refl _) rfl)
 | int i=>exact wpAny_Constant_int (q (.d (.int i)) _ g _ _ h (Rl.tok _) (Ext.refl _) (v_int _ _))
 | str x=>exact wpAny_Constant_str (q (.d (.str x)) _ g _ _ h (Rl.tok _) (Ext.refl _) (v_str _ _))
 | bytes b =>
  refine Constant_bytes (q (.d (.bytes (b.map UInt8.toNat))) _ g _ _ h (Rl.tok _) (Ext.refl _) ?_)
  rw [u8s]
  refine b4j _ _ fun x hx => ?_
  refine exa ?_ (bT.mp hx);rintro y _ rfl
  exact y.toNat_lt
 | _=>exact no h
theorem bin_snd (S:Snd C ih n) {l e2:Expr} {op:Operator} (h:eBin ih f.sc l op e2 ρ σ k=some r) (ok:FmOk C f) (rm:Room f n) (Rl:Rel C B f rs ρ σ g s) (q:QV C B f rs ρ g k r Q) :
  wpAny C.M f.A (eval (.BinOp l op e2 pos) f.env) Q E s:=by
 refine wpAny_BinOp (S.e h ok rm Rl fun v σ1 g1 s1 val h1 R1 X1 hv=>S.e h1 ok rm R1 fun v2 σ2 g2 s2 val2 h2 R2 X2 hv2 => ?_)
 induction a0p h2 (hv.ext X2) with | mk a ha h2 =>
 induction a0p h2 hv2 with | mk b hb h2 =>
 exact binop_snd h2 ok R2 ha hb fun d g' s' val h R X dr=>q (.d d) _ g' s' val h R (X1.trans (X2.trans X)) dr
theorem ifexp_snd (S:Snd C ih n) {t b o:Expr} (h:eIf ih f.sc t b o ρ σ k=some r) (ok:FmOk C f) (rm:Room f n) (Rl:Rel C B f rs ρ σ g s) (q:QV C B f rs ρ g k r Q) :
  wpAny C.M f.A (eval (.IfExp t b o pos) f.env) Q E s:=by
 refine wpAny_IfExp (S.t h ok rm Rl fun c σ1 g1 s1 h1 R1 X1 => ?_)
 have q':QV C B f rs ρ g1 k r Q:=fun v σ2 g2 s2 val h2 R2 X2 hv=>q _ _ _ _ _ h2 R2 (X1.trans X2) hv
 induction c with
 | true=>exact S.e h1 ok rm R1 q'
 | false=>exact S.e h1 ok rm R1 q'
theorem unary_snd (S:Snd C ih n) {op:UnaryOp} {x:Expr} (h:eUn ih f.sc op x ρ σ k=some r) (ok:FmOk C f) (rm:Room f n) (Rl:Rel C B f rs ρ σ g s) (q:QV C B f rs ρ g k r Q) :
  wpAny C.M f.A (eval (.UnaryOp op x pos) f.env) Q E s:=by
 induction op with
 | USub =>
  refine wpAny_UnaryOp (S.e h ok rm Rl fun v σ1 g1 s1 val h1 R1 X1 hv => ?_)
  induction a1d h1 hv with | mk i t h1=>exact neg_int (q (.d (.int _)) _ g1 _ _ h1 (R1.tok _) X1 (v_int _ _))
 | Not =>
  exact wpAny_UnaryOp (S.e h ok rm Rl fun v σ1 g1 s1 val h1 R1 X1 hv=>not_value (a5o h1 ok R1 hv fun b s' h2 R2=>q (.d (.bool (!b))) _ g1 _ _ h2 R2 X1 rfl))
 | _=>exact no h
theorem name_snd' (tk:TabsOk C) {x:Str} (h:(evName C.T f.sc x ρ σ fun v=>k v σ)=some r) (ok:FmOk C f) (Rl:Rel C B f rs ρ σ g s) (q:QV C B f rs ρ g k r Q) :
  wpAny C.M f.A (eval (.Name x pos) f.env) Q E s :=
 name_snd tk h ok Rl fun v val hk hv=>q v _ g _ _ hk Rl (Ext.refl _) hv
noncomputable def attrRun (o:Expr) (a:Str) (pos:Pos) (env:Env):Sem Value:=do
 let ov ← eval o env
 standAt pos.atName
 let r ← holding [ov] (getAttr ov a true)
 letTemporaryGo o ov r
 pure r
theorem attr_call {fn:Expr} {x:Expr} {args:List Expr} {ks:List Keyword} {p:Pos} (h:isNA fn=true) (a:Str) (pos:Pos) (env:Env):eval (.Attribute (.Call fn (x::args) ks p) a pos) env=attrRun (.Call fn (x::args) ks p) a pos env:=by
 induction fn using Expr.casesOn with
 | Name _ _=>rfl
 | Attribute _ _ _=>rfl
 | _=>exact nob h
theorem attr_eq {o:Expr} (h:dotOk o=true) (a:Str) (pos:Pos) (env:Env):eval (.Attribute o a pos) env=attrRun o a pos env:=by
 induction o using Expr.casesOn with
 | Name _ _=>rfl
 | Attribute _ _ _=>rfl
 | Subscript _ _ _=>rfl
 | Constant _ _ _=>rfl
 | BinOp _ _ _ _=>rfl
 | Call fn args ks p =>
  induction args using aK with
  | nil=>exact nob h
  | cons x args=>exact attr_call h a pos env
 | _=>exact nob h
theorem attr_snd (tk:TabsOk C) (S:Snd C ih n) {o:Expr} {a:Str} (h:eAttr C.T ih f.sc o a ρ σ k=some r) (ok:FmOk C f) (rm:Room f n) (Rl:Rel C B f rs ρ σ g s) (q:QV C B f rs ρ g k r Q) :
  wpAny C.M f.A (eval (.Attribute o a pos) f.env) Q E s :=
 Attribute_any_ (S.e (a0c h) ok rm Rl fun v σ1 g1 s1 val h1 R1 X1 hv=>b3y tk h1 ok R1 hv fun u s' u' h2 R2 hu=>q u _ g1 _ _ h2 R2 X1 hu) (attr_eq (a0b h) a pos f.env)
theorem item_snd (S:Snd C ih n) {o i:Expr} (hs:isSl i=false) (h:eItem ih f.sc o i ρ σ k=some r) (ok:FmOk C f) (rm:Room f n) (Rl:Rel C B f rs ρ σ g s) (q:QV C B f rs ρ g k r Q) :
  wpAny C.M f.A (eval (.Subscript o i pos) f.env) Q E s:=by
 refine Subscript_ (S.e h ok rm Rl fun v σ1 g1 s1 val h1 R1 X1 hv=>S.e h1 ok rm R1 fun v2 σ2 g2 s2 val2 h2 R2 X2 hv2 => ?_)
 induction a0p h2 hv2 with | mk i hi h2 =>
 exact b4a hs h2 ok R2 (hv.ext X2) hi fun u s' u' h3 R3 hu=>q u _ g2 _ _ h3 R3 (X1.trans X2) hu
theorem part_snd (S:Snd C ih n) {e:Option Expr} {k:Option D→St→Option R} (h:optI ih f.sc e ρ σ k=some r) (ok:FmOk C f) (rm:Room f n) (Rl:Rel C B f rs ρ σ g s) (q:∀ d σ' g' s' val,k d σ'=some r→Rel C B f rs ρ σ' g' s'→Ext g g'→POk C B g'.fz d val→Q val s') :
  wpAny C.M f.A (evalPart e f.env) Q E s:=by
 induction e with
 | none=>exact wpAny_pure (q none _ g _ _ h Rl (Ext.refl _) rfl)
 | some e =>
  refine S.e (e:=e) h ok rm Rl fun v σ1 g1 s1 val h1 R1 X1 hv => ?_
  induction a0p h1 hv with | mk d hd h1=>exact q (some d) _ g1 _ _ h1 R1 X1 hd
theorem POk.mono {fz fz':List (Addr×Obj)} {l:Option D} {v:Value} (h:POk C B fz l v) (hs:fz⊆fz'):POk C B fz' l v:=by
 induction l with
 | none=>exact h
 | some d=>exact DRep.mono hs h
theorem slice_snd' (S:Snd C ih n) {o:Expr} {lo hi:Option Expr} {p:Pos} (h:eSlice ih f.sc o lo hi ρ σ k=some r) (ok:FmOk C f) (rm:Room f n) (Rl:Rel C B f rs ρ σ g s) (q:QV C B f rs ρ g k r Q) :
  wpAny C.M f.A (eval (.Subscript o (.Slice lo hi none p) pos) f.env) Q E s:=by
 refine Subscript_ (S.e h ok rm Rl fun v σ1 g1 s1 val h1 R1 X1 hv => ?_)
 refine wpAny_Slice (part_snd S h1 ok rm R1 fun l σ2 g2 s2 lv h2 R2 X2 hl=>part_snd S h2 ok rm R2 fun u σ3 g3 s3 uv h3 R3 X3 hu=>wpAny_pure ?_)
 exact slice_snd h3 ok R3 (hv.ext (X2.trans X3)) (hl.mono X3.fz) hu fun d g' s' val h R X dr=>q (.d d) _ g' s' val h R (X1.trans (X2.trans (X3.trans X))) dr
theorem sl_eq {i:Expr} {p:Option Expr×Option Expr×Option Expr} (h:sl? i=some p):∃ pos,i = .Slice p.1 p.2.1 p.2.2 pos :=
 (a0w h).elim fun hc hf=>Expr.Slice.elim (motive_1:=fun i=>∀ hc,Expr.Slice.elim i hc (fun lo hi st z0=>some (lo,hi,st))=some p→∃ pos,i = .Slice p.1 p.2.1 p.2.2 pos) i hc (fun z0 z0 z0 pp z0 hf=>⟨pp,Option.some.inj hf▸rfl⟩) hc hf
theorem sl_no {i:Expr} (h:sl? i=none):isSl i=false :=
 if hc:i.ctorIdx=26 then Expr.Slice.elim (motive_1:=fun e=>e.ctorIdx=26→sl? e=none→isSl e=false) i hc (fun z0 z0 z0 z0 z0 h=>no h.symm) hc h
 else Bool.eq_false_iff.mpr fun hb=>hc (cL hb)
theorem sub_snd (S:Snd C ih n) {o i:Expr} (h:eSub ih f.sc o i ρ σ k=some r) (ok:FmOk C f) (rm:Room f n) (Rl:Rel C B f rs ρ σ g s) (q:QV C B f rs ρ g k r Q) :
  wpAny C.M f.A (eval (.Subscript o i pos) f.env) Q E s:=by
 have h:(match sl? i with | some p=>noK p.2.2 (eSlice ih f.sc o p.1 p.2.1 ρ σ k) | none=>eItem ih f.sc o i ρ σ k)=some r:=h
 cases e:sl? i with
 | none=>rw [e] at h;exact item_snd S (sl_no e) h ok rm Rl q
 | some p =>
  rw [e] at h
  obtain ⟨lo,hi,st⟩:=p
  refine xE ?_ (sl_eq e);rintro sp rfl
  induction st with
  | none=>exact slice_snd' S h ok rm Rl q
  | some _=>exact no h
end
end Mine
end
section
namespace Mine
open PySem PySem.W PySem.Spec PySem.Calls PyProof.Rows PySem.SeqAt
section
variable {C:Cx} {ih:IH R} {n:Nat} {B:Buf} {f:Fm} {rs:List (Addr×Obj)} {ρ:Loc} {σ:St} {g:G} {s:Shared} {E:Value→Shared→Prop}
theorem Room.cmp {f:Fm} {n:Nat} (rm:Room f n):f.A.units+100 < cLine:=by
 have:=rm.units
 show _ < 9900
 lia
theorem chain_snd (S:Snd C ih n) {pos:Pos}:∀ {ops:List CmpOp} {es:List Expr} {x:V} {a:Value} {σ:St} {g:G} {s:Shared} {k:Bool→St→Option R} {Q:Value→Shared→Prop},b0c ih f.sc x ops es ρ σ k=some r→FmOk C f→Room f n→Rel C B f rs ρ σ g s→VRep C B g x a →
  QB C B f rs ρ g k r (fun b s=>Q (.bool b) s)→wpAny C.M f.A (compareChain pos a ops (evalEach es f.env)) Q E s
 | [],_,_,_,_,_,_,_,_,h,_,_,_,_,_=>no h
 | _::_,[],_,_,_,_,_,_,_,h,_,_,_,_,_=>no h
 | op::ops,e::es,x,a,σ,g,s,k,Q,h,ok,rm,Rl,hx,q=>by
  induction ops using aK with
  | nil=>induction es using aK with
   | nil=>exact chain_last (S.e h ok rm Rl fun v σ1 g1 s1 val h1 R1 X1 hv=>b0q h1 ok rm.cmp R1 (hx.ext X1) hv fun c s' h2 R2=>q c _ g1 _ h2 R2 X1)
   | cons _ _=>exact no h
  | cons op2 ops=>induction es using aK with
   | nil=>exact no h
   | cons e2 es =>
    refine chain_link (S.e h ok rm Rl fun v σ1 g1 s1 val h1 R1 X1 hv=>b0q h1 ok rm.cmp R1 (hx.ext X1) hv fun c s' h2 R2=>wpAny_truthy_bool ?_)
    induction c with
    | true=>exact chain_snd S (ops:=op2::ops) (es:=e2::es) h2 ok rm R2 hv fun c σ3 g3 s3 h3 R3 X3=>q c σ3 g3 s3 h3 R3 (X1.trans X3)
    | false=>exact q false _ g1 _ h2 R2 X1
theorem a9n (S:Snd C ih n) {pos:Pos}:∀ {ops:List CmpOp} {es:List Expr} {x:V} {a:Value} {σ:St} {g:G} {s:Shared} {k:Bool→St→Option R} {Q:Bool→Shared→Prop},b0c ih f.sc x ops es ρ σ k=some r→FmOk C f→Room f n→Rel C B f rs ρ σ g s→VRep C B g x a →
  QB C B f rs ρ g k r Q→wpAny C.M f.A (testChain pos a ops (evalEach es f.env)) Q E s
 | [],_,_,_,_,_,_,_,_,h,_,_,_,_,_=>no h
 | _::_,[],_,_,_,_,_,_,_,h,_,_,_,_,_=>no h
 | op::ops,e::es,x,a,σ,g,s,k,Q,h,ok,rm,Rl,hx,q=>by
  induction ops using aK with
  | nil=>induction es using aK with
   | nil=>exact test_last (S.e h ok rm Rl fun v σ1 g1 s1 val h1 R1 X1 hv=>b0q h1 ok rm.cmp R1 (hx.ext X1) hv fun c s' h2 R2=>wpAny_truthy_bool (q c _ g1 _ h2 R2 X1))
   | cons _ _=>exact no h
  | cons op2 ops=>induction es using aK with
   | nil=>exact no h
   | cons e2 es =>
    refine test_link (S.e h ok rm Rl fun v σ1 g1 s1 val h1 R1 X1 hv=>b0q h1 ok rm.cmp R1 (hx.ext X1) hv fun c s' h2 R2=>wpAny_truthy_bool ?_)
    induction c with
    | true=>exact a9n S (ops:=op2::ops) (es:=e2::es) h2 ok rm R2 hv fun c σ3 g3 s3 h3 R3 X3=>q c σ3 g3 s3 h3 R3 (X1.trans X3)
    | false=>exact q false _ g1 _ h2 R2 X1
theorem b4m (S:Snd C ih n) {l:Expr} {ops:List CmpOp} {es:List Expr} {pos:Pos} {k:V→St→Option R} {Q:Value→Shared→Prop} (h:(eCmp ih f.sc l ops es ρ σ fun q σ=>k (.d (.bool q)) σ)=some r) (ok:FmOk C f) (rm:Room f n) (Rl:Rel C B f rs ρ σ g s) (q:QV C B f rs ρ g k r Q) :
  wpAny C.M f.A (eval (.Compare l ops es pos) f.env) Q E s:=by
 show wpAny _ f.A (do compareChain pos (← eval l f.env) ops (markedEach ops es (evalEach es f.env))) Q E s
 rw [markedEach_of_false _ _ _ (a7u h)]
 exact wpAny_bind (S.e (a4d h) ok rm Rl fun v σ1 g1 s1 val h1 R1 X1 hv=>chain_snd S h1 ok rm R1 hv fun c σ2 g2 s2 h2 R2 X2=>q (.d (.bool c)) _ g2 _ _ h2 R2 (X1.trans X2) rfl)
theorem and_snd (S:Snd C ih n):∀ {es:List Expr} {σ:St} {g:G} {s:Shared} {k:Bool→St→Option R} {Q:Bool→Shared→Prop},evAnd ih f.sc es ρ σ k=some r→FmOk C f→Room f n→Rel C B f rs ρ σ g s→QB C B f rs ρ g k r Q →
  wpAny C.M f.A (allTrue .And es f.env) Q E s:=by
 intro x_
 induction x_ with
 | nil =>
  intro σ g s k Q h ok rm Rl q
  exact wpAny_allTrue_And_nil (q _ _ g _ h Rl (Ext.refl _))
 | cons e es IH_ =>
  intro σ g s k Q h ok rm Rl q
  refine wpAny_allTrue_And_cons (S.t h ok rm Rl fun b σ1 g1 s1 h1 R1 X1 => ?_)
  induction b with
  | true=>exact IH_ h1 ok rm R1 fun b σ2 g2 s2 h2 R2 X2=>q b σ2 g2 s2 h2 R2 (X1.trans X2)
  | false=>exact q _ _ g1 _ h1 R1 X1
theorem or_snd (S:Snd C ih n):∀ {es:List Expr} {σ:St} {g:G} {s:Shared} {k:Bool→St→Option R} {Q:Bool→Shared→Prop},evOr ih f.sc es ρ σ k=some r→FmOk C f→Room f n→Rel C B f rs ρ σ g s→QB C B f rs ρ g k r Q →
  wpAny C.M f.A (allTrue .Or es f.env) Q E s:=by
 intro x_
 induction x_ with
 | nil =>
  intro σ g s k Q h ok rm Rl q
  exact wpAny_allTrue_Or_nil (q _ _ g _ h Rl (Ext.refl _))
 | cons e es IH_ =>
  intro σ g s k Q h ok rm Rl q
  refine wpAny_allTrue_Or_cons (S.t h ok rm Rl fun b σ1 g1 s1 h1 R1 X1 => ?_)
  induction b with
  | true=>exact q _ _ g1 _ h1 R1 X1
  | false=>exact IH_ h1 ok rm R1 fun b σ2 g2 s2 h2 R2 X2=>q b σ2 g2 s2 h2 R2 (X1.trans X2)
theorem b0t (S:Snd C ih n) {e:Expr} {k:Bool→St→Option R} {Q:Bool→Shared→Prop} (h:tVal ih f.sc e ρ σ k=some r) (ok:FmOk C f) (rm:Room f n) (Rl:Rel C B f rs ρ σ g s) (q:QB C B f rs ρ g k r Q)
  (he:isTrue e f.env (eval e f.env)=(do let v ← eval e f.env;standAt e.pos;holding [v] (PySem.truthy v))):wpAny C.M f.A (isTrue e f.env (eval e f.env)) Q E s :=
 wpAny_isTrue_value (S.e h ok rm Rl fun v σ1 g1 s1 val h1 R1 X1 hv=>a5o h1 ok R1 hv fun b s' h2 R2=>q b _ g1 _ h2 R2 X1) he
theorem tcmp_snd (S:Snd C ih n) {l:Expr} {ops:List CmpOp} {es:List Expr} {pos:Pos} {k:Bool→St→Option R} {Q:Bool→Shared→Prop} (h:eCmp ih f.sc l ops es ρ σ k=some r) (ok:FmOk C f) (rm:Room f n) (Rl:Rel C B f rs ρ σ g s) (q:QB C B f rs ρ g k r Q) :
  wpAny C.M f.A (isTrue (.Compare l ops es pos) f.env (eval (.Compare l ops es pos) f.env)) Q E s:=by
 rw [arm_isTrue_Compare,markedEach_of_false _ _ _ (a7u h)]
 exact wpAny_bind (S.e (a4d h) ok rm Rl fun v σ1 g1 s1 val h1 R1 X1 hv=>a9n S h1 ok rm R1 hv fun c σ2 g2 s2 h2 R2 X2=>q c _ g2 _ h2 R2 (X1.trans X2))
theorem test_snd (S:Snd C ih n) {e:Expr} {k:Bool→St→Option R} {Q:Bool→Shared→Prop} (h:stepT ih f.sc e ρ σ k=some r) (ok:FmOk C f) (rm:Room f n) (Rl:Rel C B f rs ρ σ g s) (q:QB C B f rs ρ g k r Q) :
  wpAny C.M f.A (isTrue e f.env (eval e f.env)) Q E s:=by
 induction e using Expr.casesOn with
 | UnaryOp op x pos=>induction op with
  | Not=>exact wpAny_isTrue_Not (S.t h ok rm Rl fun b σ1 g1 s1 h1 R1 X1=>q (!b) _ g1 _ h1 R1 X1)
  | _=>exact no h
 | BoolOp op vs pos=>induction op with
  | And=>exact wpAny_isTrue_BoolOp (and_snd S h ok rm Rl q)
  | Or=>exact wpAny_isTrue_BoolOp (or_snd S h ok rm Rl q)
 | Compare l ops es pos=>exact tcmp_snd S h ok rm Rl q
 | Name _ _=>exact b0t S h ok rm Rl q rfl
 | Call _ _ _ _=>exact b0t S h ok rm Rl q rfl
 | Constant _ _ _=>exact b0t S h ok rm Rl q rfl
 | _=>exact no h
theorem a9o (S:Snd C ih n) {pos:Pos} {op:BoolOp}:∀ {es:List Expr} {σ:St} {g:G} {s:Shared} {k:V→St→Option R} {Q:Value→Shared→Prop},b1l ih f.sc op es ρ σ k=some r→FmOk C f→Room f n→Rel C B f rs ρ σ g s→QV C B f rs ρ g k r Q →
  wpAny C.M f.A (boolOp pos op (evalEach es f.env)) Q E s
 | [],σ,g,s,k,Q,h,ok,rm,Rl,q=>no h
 | [e],σ,g,s,k,Q,h,ok,rm,Rl,q=>S.e h ok rm Rl q
 | e::e2::es,σ,g,s,k,Q,h,ok,rm,Rl,q=>by
  show wpAny _ _ (do
   let v ← eval e f.env
   standAt pos
   let t ← holding [v] (PySem.truthy v)
   match op,t with
   | .And,false | .Or,true=>pure v
   | _,_=>boolOp pos op (evalEach (e2::es) f.env)) _ _ _
  have h:(ih.e f.sc e ρ σ fun v σ=>truthy v σ fun b=>bStop op b (k v σ) (b1l ih f.sc op (e2::es) ρ σ k))=some r:=h
  refine wpAny_bind (S.e h ok rm Rl fun v σ1 g1 s1 val h1 R1 X1 hv=>wpAny_bind (wpAny_standAt (wpAny_bind (wpAny_holding (a5o h1 ok R1 hv fun b s' h2 R2 => ?_)))))
  have go:b1l ih f.sc op (e2::es) ρ σ1 k=some r→wpAny C.M f.A (boolOp pos op (evalEach (e2::es) f.env)) Q E s':=fun h2 =>
   a9o S h2 ok rm R2 fun v σ3 g3 s3 val h3 R3 X3 hv=>q v σ3 g3 s3 val h3 R3 (X1.trans X3) hv
  induction op with
  | And =>
   induction b with
   | true=>exact go h2
   | false=>exact wpAny_pure (q v _ g1 _ val h2 R2 X1 hv)
  | Or =>
   induction b with
   | true=>exact wpAny_pure (q v _ g1 _ val h2 R2 X1 hv)
   | false=>exact go h2
variable {k:V→St→Option R} {Q:Value→Shared→Prop} {pos:Pos}
theorem tuple_snd (S:Snd C ih n) {es:List Expr} {kd:Nat} (h:eSeq ih f.sc es .tup ρ σ k=some r) (ok:FmOk C f) (rm:Room f n) (Rl:Rel C B f rs ρ σ g s) (q:QV C B f rs ρ g k r Q) :
  wpAny C.M f.A (eval (.Tuple es kd pos) f.env) Q E s:=by
 refine Tuple_ (b0s S h ok rm Rl fun vs σ1 g1 s1 vals h1 R1 X1 hvs => ?_)
 induction a4x ok h1 R1 hvs with | mk ds σ2 g2 h2 R2 X2 _ _ hd =>
 refine exa ?_ R2.loc;rintro m F l
 refine newTuple_N F R2.news (fun h' F' N' => ?_) (by rw [← hd.length];exact a2n (a0b h2))
 refine aE ?_ (R2.allocF (t:=s1.toks) l F' N' (fun p hp=>cX (R2.lt hp)));rintro R3 X3
 exact q (.d (.tup ds)) _ _ _ _ (a0c h2) R3 (X1.trans (X2.trans X3)) (.tup _ _ _ _ _ (.inl (.head _)) rfl rfl (hd.mono X3.fz))
theorem list_snd (S:Snd C ih n) {es:List Expr} (h:eSeq ih f.sc es .lst ρ σ k=some r) (ok:FmOk C f) (rm:Room f n) (Rl:Rel C B f rs ρ σ g s) (q:QV C B f rs ρ g k r Q) :
  wpAny C.M f.A (eval (.List es pos) f.env) Q E s:=by
 refine List_ (b0s S h ok rm Rl fun vs σ1 g1 s1 vals h1 R1 X1 hvs => ?_)
 induction a4x ok h1 R1 hvs with | mk ds σ2 g2 h2 R2 X2 _ _ hd =>
 refine exa ?_ R2.loc;rintro m F l
 refine newList_N F R2.news (fun h' F' N' => ?_) (by rw [← hd.length];exact a2n (a0b h2))
 refine aE ?_ (R2.allocF (t:=s1.toks) l F' N' (fun p hp=>cX (R2.lt hp)));rintro R3 X3
 exact q (.d (.lst ds)) _ _ _ _ (a0c h2) R3 (X1.trans (X2.trans X3)) (.lst _ vals _ _ (.inl (.head _)) (hd.mono X3.fz))
theorem as_last (Rl:Rel C B f rs ρ σ g s) (a:Addr):(g.as++[a])[σ.length]?=some a:=by rw [← Rl.lenA];exact aU
theorem listM_snd (S:Snd C ih n) {es:List Expr} (h:mList ih f.sc es ρ σ k=some r) (ok:FmOk C f) (rm:Room f n) (Rl:Rel C B f rs ρ σ g s) (q:QV C B f rs ρ g k r Q) :
  wpAny C.M f.A (eval (.List es pos) f.env) Q E s:=by
 refine List_ (b0s S h ok rm Rl fun vs σ1 g1 s1 vals h1 R1 X1 hvs => ?_)
 induction a4x ok h1 R1 hvs with | mk ds σ2 g2 h2 R2 X2 _ _ hd =>
 refine exa ?_ R2.loc;rintro m F l
 refine newList_N F R2.news (fun h' F' N' => ?_) (by rw [← hd.length];exact a2n (a0b h2))
 refine aE ?_ (R2.allocO ok (t:=s1.toks) (o := .list ds) rfl l F' N' ⟨_,_,rfl,hd⟩);rintro R3 X3
 exact q (.r σ2.length) _ _ _ _ (a0c h2) R3 (X1.trans (X2.trans X3)) ⟨_,as_last R2 _,rfl⟩
theorem Rel.push (Rl:Rel C B f rs ρ σ g s) {a:Addr} {o:Obj} {h':Heap} {t:Nat} (hk:∀ b o,s.heap.get? b=some o→h'.get? b=some o) (ha:s.heap.objs.size≤a) (hob:h'.get? a=some o) :
  Rel C B f ((a,o)::rs) ρ σ g { s with heap:=h',toks:=t }:=by
 refine exa ?_ Rl.loc;rintro m F l
 have N0:News f.h₀ f.L h' ((a,o)::g.led rs):=Rl.news.kept_cons F hk ha hob
 have N':News f.h₀ f.L h' (g.led ((a,o)::rs)):=by
  intro p hp
  rcases bM.mp hp with hp | hp
  ·exact N0 p (.tail _ (bN _ hp))
  ·rcases bM.mp hp with hp | hp
   ·exact N0 p (.tail _ (a1g hp))
   ·rcases bP.mp hp with rfl | hp
    ·exact N0 _ (.head _)
    ·exact N0 p (.tail _ (a0l hp))
 have N1:News f.h₀ f.L h' (g.led rs):=fun p hp=>N0 p (.tail _ hp)
 have fresh:∀ p∈g.led rs,p.1≠a:=fun p hp=>cX (cU (Rl.lt hp) ha)
 refine ⟨⟨m,F.kept hk,?_⟩,N',Rl.lenA,Rl.lenO,Rl.nodup,Rl.own,?_,?_,Rl.gens,Rl.os⟩
 ·rcases LocD.move (Ext.refl _) Rl.news N1 l with l | z1_
  ·exact .inl l
  ·obtain ⟨e,o',mC,a1,a2,a3⟩:=z1_
   exact .inr ⟨e,o',mC,.tail _ a1,a2,a3⟩
 ·intro q hq p hp
  rcases bP.mp hq with rfl | hq
  ·exact fresh p (a1g hp)
  ·exact Rl.rsF q hq p hp
 ·intro q hq b hb
  rcases bP.mp hq with rfl | hq
  ·refine xE ?_ (bS.mp hb);rintro i hi
   have hlt:=(aW.mp hi).1
   exact fresh (b,g.os[i]'(by rw [Rl.lenO,← Rl.lenA];exact hlt)) (a2f hi (by simp))
  ·exact Rl.rsA q hq b hb
theorem Rel.drop {a:Addr} {o:Obj} (Rl:Rel C B f ((a,o)::rs) ρ σ g s) (hl:f.env.locals≠a):Rel C B f rs ρ σ g s:=by
 refine exa ?_ Rl.loc;rintro m F l
 have N':News f.h₀ f.L s.heap (g.led rs):=by
  intro p hp
  rcases bM.mp hp with hp | hp
  ·exact Rl.news p (bN _ hp)
  ·rcases bM.mp hp with hp | hp
   ·exact Rl.news p (a1g hp)
   ·exact Rl.news p (a0l (.tail _ hp))
 refine ⟨⟨m,F,?_⟩,N',Rl.lenA,Rl.lenO,Rl.nodup,Rl.own,fun q hq=>Rl.rsF q (.tail _ hq),fun q hq=>Rl.rsA q (.tail _ hq),Rl.gens,Rl.os⟩
 rcases l with l | z1_
 ·exact .inl l
 ·obtain ⟨e,o',mC,a1,a2,a3⟩:=z1_
  rcases bP.mp a1 with e1 | a1
  ·exact absurd (congrArg Prod.fst e1) hl
  ·exact .inr ⟨e,o',mC,a1,a2,a3⟩
theorem Rel.apart {a:Addr} {o:Obj} (Rl:Rel C B f ((a,o)::rs) ρ σ g s) (hrs:∀ p∈rs,p.1≠a):∀ p∈g.led rs,p.1≠a:=by
 intro p hp
 rcases bM.mp hp with hp | hp
 ·exact fun e=>Rl.rsA _ (.head _) p.1 (Rl.zipFst hp) e
 ·rcases bM.mp hp with hp | hp
  ·exact Rl.rsF _ (.head _) p hp
  ·exact hrs p hp
theorem Rel.out {a:Addr} {o o':Obj} {h':Heap} (Rl:Rel C B f ((a,o)::rs) ρ σ g s) (hrs:∀ p∈rs,p.1≠a) (hs:Heap.SameBut a s.heap h') (ho:h'.get? a=some o'):News f.h₀ f.L h' ((a,o')::g.led rs):=by
 have hd:=Rl.news (a,o) (a0l (.head _))
 intro p hp
 rcases bP.mp hp with rfl | hp
 ·exact ⟨ho,hd.2⟩
 ·have hne:=Rl.apart hrs p hp
  have:=Rl.news p (by
   rcases bM.mp hp with hp | hp
   ·exact bN _ hp
   ·rcases bM.mp hp with hp | hp
    ·exact a1g hp
    ·exact a0l (.tail _ hp))
  exact ⟨(hs.2 p.1 hne).trans this.1,this.2⟩
inductive RPr (x:Str) (P:Value→Prop) (Q:List (Value×Value)→Prop):List (Value×Value)→Prop | mk (t:Tok) (v:Value) (vs:List (Value×Value)):P v→Q vs→RPr x P Q ((.str x t,v)::vs)
noncomputable def PReps (C:Cx) (B:Buf) (fz:List (Addr×Obj)):List (Str×D)→List (Value×Value)→Prop
 | []=>fun vs=>vs=[]
 | (x,y)::es=>RPr x (DRep C B fz y) (PReps C B fz es)
theorem PReps.keys {fz:List (Addr×Obj)}:∀ {es:List (Str×D)} {vs:List (Value×Value)},PReps C B fz es vs→allStrKeys vs=true∧KVS C B fz (es.map fun e=>(D.str e.1,e.2)) (strPairs vs)
 | [],_,h=>by subst h;exact ⟨rfl,.nil⟩
 | (x,y)::es,_,h=>by
  induction h with | mk t v vs h r =>
  have ih:=PReps.keys (es:=es) r
  exact ⟨ih.1,.mk v _ h ih.2⟩
theorem putK_mem {K:Type} [DecidableEq K] {k:K} {v:Value} {x:K}:∀ {kvs:List (K×Value)},x∈(putK k v kvs).map (·.1)→x=k∨x∈kvs.map (·.1)
 | [],h => .inl (bV.mp h)
 | (y,u)::r,h=>by
  have h:x∈(if y=k then (y,v)::r else (y,u)::putK k v r).map (·.1):=h
  by_cases e:y=k
  ·rw [if_pos e] at h;exact .inr h
  ·rw [if_neg e] at h
   rcases bP.mp h with e | h
   ·exact .inr (e ▸ .head _)
   ·exact (putK_mem h).imp id (.tail _)
theorem a9p {K:Type} [DecidableEq K] {k:K} {v:Value}:∀ {kvs:List (K×Value)},(kvs.map (·.1)).Nodup→((putK k v kvs).map (·.1)).Nodup
 | [],_=>bY.mpr ⟨cB,bZ⟩
 | (x,u)::r,hn=>by
  have hn':=bY.mp hn
  show ((if x=k then (x,v)::r else (x,u)::putK k v r).map (·.1)).Nodup
  by_cases h:x=k
  ·rw [if_pos h];exact hn
  ·rw [if_neg h]
   exact bY.mpr ⟨fun hx=>(putK_mem hx).elim h hn'.1,a9p hn'.2⟩
theorem a9q {fz:List (Addr×Obj)}:∀ {new acc:List (D×D)} {newK accK:List (Str×Value)},KVS C B fz acc accK→(accK.map (·.1)).Nodup→KVS C B fz new newK→KVS C B fz (a7a acc new) (merged accK newK)
 | [],acc,_,accK,h,hn,hr=>by subst hr;exact h
 | (y,d)::es,acc,_,accK,h,hn,hr=>by
  induction y using D.casesOn with
  | str i =>
   induction hr with | mk v kvs hx r =>
   show KVS C B fz (a7a (dput (.str i) d acc) es) (merged (stored accK i v) kvs)
   rw [a3e hn]
   exact a9q (new:=es) (h.put hx) (a9p hn) r
  | _=>exact hr.elim
theorem strC_eq {c:Const} {x:Str} (h:strC? c=some x):c = .str x:=by
 induction c with
 | str _=>have h_:=Option.some.inj h;subst h_;rfl
 | _=>exact no h
theorem skey_eq {e:Option Expr} {x:Str} (h:skey? e=some x):∃ kd p,e=some (.Constant (.str x) kd p):=by
 induction e with
 | none=>exact no h
 | some e=>exact (a0w (show dite _ _ _=some x from h)).elim fun hc hf=>Expr.Constant.elim (motive_1:=fun e=>∀ hc,Expr.Constant.elim e hc (fun c z0 z0=>strC? c)=some x→∃ kd p,some e=some (.Constant (.str x) kd p)) e hc (fun z0 kd p z0 hf=>⟨kd,p,strC_eq hf▸rfl⟩) hc hf
theorem skey_some {e:Option Expr} (h:(skey? e).isSome=true):e.isSome=true:=by
 induction e with
 | none=>exact nob h
 | some _=>rfl
theorem a7v:∀ {ks:List (Option Expr)} {vs:List Expr},b0d ks vs=true→ks.all (·.isSome)=true∧ks.length=vs.length
 | [],[],_=>⟨rfl,rfl⟩
 | [],_::_,h=>nob h
 | _::_,[],h=>nob h
 | e::ks,v::vs,h=>by
  have ih:=a7v (a0e h)
  exact ⟨List.all_cons.trans (by rw [skey_some (a0k h),ih.1];rfl),congrArg (· + 1) ih.2⟩
theorem kv_snd (S:Snd C ih n) {pos:Pos}:∀ {ks:List (Option Expr)} {vs:List Expr} {σ:St} {g:G} {s:Shared} {k:List (Str×D)→St→Option R} {Q:List (Value×Value)→Shared→Prop},evKV ih f.sc ks vs ρ σ k=some r→FmOk C f→Room f n→Rel C B f rs ρ σ g s →
  (∀ es σ' g' s' prs,k es σ'=some r→Rel C B f rs ρ σ' g' s'→Ext g g'→PReps C B g'.fz es prs→es.length=ks.length→Q prs s')→wpAny C.M f.A (evalPairs (pairTrees ks vs f.env pos)) Q E s
 | [],[],σ,g,s,k,Q,h,ok,rm,Rl,q=>pairTrees_nil_walk (q [] σ g s [] h Rl (Ext.refl _) rfl rfl)
 | [],_::_,_,_,_,_,_,h,_,_,_,_=>no h
 | _::_,[],_,_,_,_,_,h,_,_,_,_=>no h
 | e::ks,b::vs,σ,g,s,k,Q,h,ok,rm,Rl,q=>by
  refine exa ?_ (a0i (show optK (skey? e) _=some r from h));rintro x hx h
  refine exx ?_ (skey_eq hx);rintro kd p rfl
  refine pairTrees_cons_walk (wpAny_Constant_str (S.e (a4d h) ok rm (Rl.tok _) fun v σ1 g1 s1 val h1 R1 X1 hv => ?_))
  induction to_D h1 ok R1 hv with | mk d σ2 g2 h2 R2 X2 _ _ dr =>
  exact kv_snd S h2 ok rm R2 fun es σ3 g3 s3 prs h3 R3 X3 hp hl=>q _ σ3 g3 s3 _ h3 R3 (X1.trans (X2.trans X3)) (.mk _ _ _ (dr.mono X3.fz) hp) (congrArg (· + 1) hl)
theorem a9r:∀ {new acc:List (D×D)},acc≠[]→a7a acc new≠[]
 | [],_,h=>h
 | (x,y)::r,acc,_=>a9r (new:=r) (a7l x y acc)
theorem disp_rep {fz:List (Addr×Obj)} {es:List (Str×D)} {prs:List (Value×Value)} {o:Obj} (hp:PReps C B fz es prs) (hne:es≠[]) (hd:o.IsDictOf (PySem.strKind C.prog C.w) (merged [] (strPairs prs))):DictRep C B fz (a7b es) o:=by
 refine RDE.strs o _ ?_ hd (a9q (acc:=[]) rfl bZ hp.keys.2)
 induction es using aK with
 | nil=>exact absurd rfl hne
 | cons e es=>exact a9r (new:=es.map fun e=>(D.str e.1,e.2)) (a7l (.str e.1) e.2 [])
theorem disp_snd (S:Snd C ih n) {ks:List (Option Expr)} {vs:List Expr} {pos:Pos} {k:List (Str×D)→St→Option R} {Q:Value→Shared→Prop} (hd:dispOk ks vs=true) (h:evKV ih f.sc ks vs ρ σ k=some r) (ok:FmOk C f) (rm:Room f n) (Rl:Rel C B f rs ρ σ g s)
  (q:∀ es σ' g' s' h' t d o m,k es σ'=some r→Rel C B f rs ρ σ' g' s'→Ext g g'→LocD C B f rs ρ g' s'.heap m→Fr f.h₀ f.L h' m→News f.h₀ f.L h' ((d,o)::g'.led rs)→(∀ p∈g'.led rs,p.1≠d)→(d==sysModules)=false→DictRep C B g'.fz (a7b es) o→Q (.ref d) { s' with heap:=h',toks:=t }) :
  wpAny C.M f.A (eval (.Dict ks vs pos) f.env) Q E s:=by
 refine aE ?_ (a7v (a0k hd));rintro hall hl
 have hlen:=a0e hd
 refine exa ?_ Rl.loc;rintro m F l
 induction ks using aK with
 | nil =>
  induction vs using aK with
  | cons _ _=>cases hl
  | nil =>
   exact newDict_K F Rl.news ok.top.nolimit fun d h' o F' N' lt lo is z0 ii z0=>q [] σ g s h' s.toks d o m h Rl (Ext.refl _) l F' N' (fun p hp=>cX (lt p hp)) lo (.empty o ii is)
 | cons k0 kr =>
  refine exa ?_ (Heap.dictOf_iff.mp (Heap.DictOf.new (knd:=PySem.strKind C.prog C.w) s.heap));rintro o ho hdo
  refine wpAny_Dict_walk (knd:=PySem.strKind C.prog C.w) hall hl (List.cons_ne_nil _ _) (cO hlen) ?_
  have hk:∀ b o,s.heap.get? b=some o→(s.heap.push { cls := .type "dict",data := .dict #[] }).get? b=some o:=fun b x e=>Heap.get?_push_of_some _ e
  have R0:=Rl.push (t:=s.toks) hk (cQ _) ho
  have hrs:∀ p∈rs,p.1≠s.heap.objs.size:=fun p hp=>cX (Rl.lt (a0l hp))
  have hloc:f.env.locals≠s.heap.objs.size:=by
   rcases l with z0_ | z1_
   ·revert z0_;refine aE ?_;rintro e _
    have:=(R0.news _ (a0l (.head _))).2.1
    rw [e];exact fun e=>this e.symm
   ·obtain ⟨_,o',_,a1,_⟩:=z1_
    exact fun e=>hrs _ a1 e
  refine kv_snd S h ok rm R0 fun es σ1 g1 s1 prs h1 R1 X1 hp hes => ?_
  refine ⟨strPairs prs,carries_strPairs _ _ _ hp.keys.1,Heap.dictOf_iff.mpr ⟨o,R1.get (a0l (.head _)),hdo⟩,fun h' hm hs => ?_⟩
  refine exa ?_ (Heap.dictOf_iff.mp hm);rintro o' ho' hdo'
  have nd:=R1.news _ (a0l (.head _))
  have R2:=R1.drop hloc
  refine exa ?_ R2.loc;rintro m1 F1 l1
  have hne:es≠[]:=fun e=>by subst e;cases hes
  exact q es σ1 g1 s1 h' _ _ o' m1 h1 R2 X1 l1 (F1.change hs nd.2.1 nd.2.2) (R1.out hrs hs ho') (R1.apart hrs) (Rl.low ok) (disp_rep hp hne hdo')
theorem dict_snd (S:Snd C ih n) {ks:List (Option Expr)} {vs:List Expr} (h:eDct ih f.sc ks vs ρ σ k=some r) (ok:FmOk C f) (rm:Room f n) (Rl:Rel C B f rs ρ σ g s) (q:QV C B f rs ρ g k r Q) :
  wpAny C.M f.A (eval (.Dict ks vs pos) f.env) Q E s:=by
 refine disp_snd S (a0b h) (a0c h) ok rm Rl fun es σ1 g1 s1 h' t d o m h1 R1 X1 l F N fr lo hr => ?_
 refine aE ?_ (R1.allocF (t:=t) l F N fr);rintro R2 X2
 exact q (.d (.dct _)) _ _ _ _ h1 R2 (X1.trans X2) (.dct _ d o (.inl (.head _)) lo (hr.mono X2.fz))
theorem dictM_snd (S:Snd C ih n) {ks:List (Option Expr)} {vs:List Expr} (h:mDict ih f.sc ks vs ρ σ k=some r) (ok:FmOk C f) (rm:Room f n) (Rl:Rel C B f rs ρ σ g s) (q:QV C B f rs ρ g k r Q) :
  wpAny C.M f.A (eval (.Dict ks vs pos) f.env) Q E s:=by
 refine disp_snd S (a0b h) (a0c h) ok rm Rl fun es σ1 g1 s1 h' t d o m h1 R1 X1 l F N fr lo hr => ?_
 refine aE ?_ (R1.allocA (o := .dict (a7b es)) (t:=t) rfl l F N hr fr lo);rintro R2 X2
 exact q (.r σ1.length) _ _ _ _ h1 R2 (X1.trans X2) ⟨_,as_last R1 _,rfl⟩
theorem lst_eq {e:Expr} {es:List Expr} (h:lst? e=some es):∃ p,e = .List es p :=
 (a0w h).elim fun hc hf=>Expr.List.elim (motive_1:=fun e=>∀ hc,Expr.List.elim e hc (fun es z0=>some es)=some es→∃ p,e = .List es p) e hc (fun z0 pp z0 hf=>⟨pp,Option.some.inj hf▸rfl⟩) hc hf
theorem dct_eq {e:Expr} {q:List (Option Expr)×List Expr} (h:dct? e=some q):∃ p,e = .Dict q.1 q.2 p :=
 (a0w h).elim fun hc hf=>Expr.Dict.elim (motive_1:=fun e=>∀ hc,Expr.Dict.elim e hc (fun ks vs z0=>some (ks,vs))=some q→∃ p,e = .Dict q.1 q.2 p) e hc (fun z0 z0 pp z0 hf=>⟨pp,Option.some.inj hf▸rfl⟩) hc hf
theorem ifx_eq {e:Expr} {q:Expr×Expr×Expr} (h:ifx? e=some q):∃ p,e = .IfExp q.1 q.2.1 q.2.2 p :=
 (a0w h).elim fun hc hf=>Expr.IfExp.elim (motive_1:=fun e=>∀ hc,Expr.IfExp.elim e hc (fun t b o z0=>some (t,b,o))=some q→∃ p,e = .IfExp q.1 q.2.1 q.2.2 p) e hc (fun z0 z0 z0 pp z0 hf=>⟨pp,Option.some.inj hf▸rfl⟩) hc hf
theorem m_snd (S:Snd C ih n) {e:Expr} (h:evM ih f.sc e ρ σ k=some r) (ok:FmOk C f) (rm:Room f n) (Rl:Rel C B f rs ρ σ g s) (q:QV C B f rs ρ g k r Q) :
  wpAny C.M f.A (eval e f.env) Q E s:=by
 have h:(match lst? e with | some es=>mList ih f.sc es ρ σ k | none=>(match dct? e with | some p=>mDict ih f.sc p.1 p.2 ρ σ k | none=>ih.e f.sc e ρ σ k))=some r:=h
 cases e1:lst? e with
 | some es=>rw [e1] at h;refine xE ?_ (lst_eq e1);rintro p rfl;exact listM_snd S h ok rm Rl q
 | none =>
  rw [e1] at h
  dsimp only at h
  cases e2:dct? e with
  | some d=>rw [e2] at h;refine xE ?_ (dct_eq e2);rintro p rfl;exact dictM_snd S h ok rm Rl q
  | none=>rw [e2] at h;exact S.e h ok rm Rl q
theorem m2_snd (S:Snd C ih n) {e:Expr} (h:evM2 ih f.sc e ρ σ k=some r) (ok:FmOk C f) (rm:Room f n) (Rl:Rel C B f rs ρ σ g s) (q:QV C B f rs ρ g k r Q) :
  wpAny C.M f.A (eval e f.env) Q E s:=by
 have h:(match ifx? e with | some p=>(ih.t f.sc p.1 ρ σ fun c σ=>bif c then evM ih f.sc p.2.1 ρ σ k else evM ih f.sc p.2.2 ρ σ k) | none=>evM ih f.sc e ρ σ k)=some r:=h
 cases e1:ifx? e with
 | none=>rw [e1] at h;exact m_snd S h ok rm Rl q
 | some d =>
  rw [e1] at h
  refine xE ?_ (ifx_eq e1);rintro p rfl
  refine wpAny_IfExp (S.t h ok rm Rl fun c σ1 g1 s1 h1 R1 X1 => ?_)
  have q':QV C B f rs ρ g1 k r Q:=fun v σ2 g2 s2 val h2 R2 X2 hv=>q _ _ _ _ _ h2 R2 (X1.trans X2) hv
  induction c with
  | true=>exact m_snd S h1 ok rm R1 q'
  | false=>exact m_snd S h1 ok rm R1 q'
end
end Mine
end
section
namespace Mine
open PySem PySem.W PySem.Spec PySem.Calls PyProof.Rows PySem.SeqAt
section
variable {C:Cx} {ih:IH R} {n:Nat} {B:Buf} {f:Fm} {rs:List (Addr×Obj)} {ρ:Loc} {σ:St} {g:G} {s:Shared} {E:Value→Shared→Prop}
theorem each_plain {pos:Pos} {env:Env}:∀ {es:List Expr},es.all (fun e => !isStar e)=true→(backTo pos (starEach es env)).all (!·.1)=true:=by
 intro x_
 induction x_ with
 | nil =>
  intro _
  exact rfl
 | cons e es IH_ =>
  intro h
  have h:(!isStar e&&es.all fun e => !isStar e)=true:=h
  have hs:isStar e=false:=aC _▸a0k h
  rw [a1w hs]
  exact IH_ (a0e h)
noncomputable abbrev KeepAt (C:Cx) (h:Heap) (fv:Value):Prop:=∃ kp,(kp=Keeper.frame∨kp=Keeper.machine∨kp=Keeper.boundFrame)∧Looks C.M h (keeperOf fv) kp
theorem a2x (S:Snd C ih n) {fv:Value} {first:List Value} {pos:Pos} {args:List Expr} {k:List V→St→Option R} {Q:Value→Shared→Prop} (hp:args.all (fun e => !isStar e)=true) (h:evL ih f.sc args ρ σ k=some r) (ok:FmOk C f) (rm:Room f n) (Rl:Rel C B f rs ρ σ g s)
  (q:QL C B f rs ρ g k r fun vals s'=>KeepAt C s'.heap fv∧wpAny C.M f.A (call fv (first++vals)) Q E s') :
  wpAny C.M f.A (callWith pos fv first (backTo pos (starEach args f.env)) []) Q E s:=by
 refine callWith_of (P:=fun h=>KeepAt C h fv) (by rw [a9m hp];rfl) (fun z0 x=>x) ?_
 induction args using aK with
 | nil=>exact evalArgs_nil3 (q [] σ g s [] h Rl (Ext.refl _) .nil)
 | cons e es =>
  have hs:isStar e=false:=aC _▸a0k (show (!isStar e&&es.all fun e => !isStar e)=true from hp)
  have hh:=b0s (E:=E) (pos:=pos) S h ok rm Rl q
  rw [a1w hs] at hh ⊢
  exact evalArgs_plain hh
noncomputable def b0u (o:Expr) (name:Str) (apos pos:Pos) (args:List Expr) (env:Env) (ov:Value):Sem Value:=do
 let (f,first) ← holding [ov] (getMethod ov name (do return (← importBound o env).getD true))
 callWith pos f first (backTo pos (starEach args env)) []
theorem base_call {fn:Expr} {x:Expr} {args:List Expr} {ks:List Keyword} {p:Pos} (h:isNA fn=true) (name:Str) (env:Env) (m:Sem Value):attributeBase (.Call fn (x::args) ks p) name env m=m:=by
 induction fn using Expr.casesOn with
 | Name _ _=>rfl
 | Attribute _ _ _=>rfl
 | _=>exact nob h
theorem base_eq {o:Expr} (h:dotOk o=true) (name:Str) (env:Env) (m:Sem Value):attributeBase o name env m=m:=by
 induction o using Expr.casesOn with
 | Name _ _=>rfl
 | Attribute _ _ _=>rfl
 | Subscript _ _ _=>rfl
 | Constant _ _ _=>rfl
 | BinOp _ _ _ _=>rfl
 | Call fn args ks p =>
  induction args using aK with
  | nil=>exact nob h
  | cons x args=>exact base_call h name env m
 | _=>exact nob h
theorem mcall_run {o:Expr} {name:Str} {apos pos:Pos} {args:List Expr} {env:Env} (hl:apos.endLine=pos.line) (hn:args.length < 20) (hp:args.all (fun e => !isStar e)=true) (ov:Value) :
  methodCall o name apos pos env ov (args.length+([]:List Keyword).length) (backTo pos (starEach args env)) (backToKw pos (keywordEach [] env))=b0u o name apos pos args env ov:=by
 have e1:methodCallForm (args.length+([]:List Keyword).length) (backTo pos (starEach args env)) (backToKw pos (keywordEach [] env))=true:=by
  unfold methodCallForm
  rw [each_plain hp]
  show decide (args.length+0+0 < 30)=true
  exact decide_eq_true (by lia)
 have e2:(!true||apos.endLine==pos.line)=true:=by rw [hl];exact beq_self_eq_true _
 unfold methodCall methodCallPos
 rw [e1,e2]
 rfl
theorem mcall_eq {o:Expr} (hd:dotOk o=true) {name:Str} {apos pos:Pos} {args:List Expr} {env:Env} (hl:apos.endLine=pos.line) (hn:args.length < 20) (hp:args.all (fun e => !isStar e)=true) :
  eval (.Call (.Attribute o name apos) args [] pos) env=(do
   let ov ← eval o env
   standAt apos.atName
   b0u o name apos pos args env ov):=by
 show (do
   let ov ← attributeBase o name env (eval o env)
   standAt apos.atName
   methodCall o name apos pos env ov (args.length+([]:List Keyword).length) (backTo pos (starEach args env)) (backToKw pos (keywordEach [] env)))=_
 rw [base_eq hd]
 simp only [mcall_run hl hn hp]
theorem meth_snd (tk:TabsOk C) {c:Nat} {fs:List (Str×V)} {ad dx:Addr} {es:List DictEntry} {n:Nat} {m:Str} {fa:Nat} {A:Around} {pl:Sem Bool} {Q:Value×List Value→Shared→Prop} (h:noK (lk m fs) (C.T.meth c m)=some fa) (nr:NReps C B g fs es) (I:W.InstAt s.heap ad (instObj c dx) c (some (dictOf es n))) (ok:FmOk C f) (Rl:Rel C B f rs ρ σ g s)
  (q:(∃ o,C.K.lookup fa=some o)→Q (.ref fa,[.ref ad]) s):wpAny C.M A (getMethod (.ref ad) m pl) Q E s:=by
 have gl:=nr.getL m
 generalize lk m fs=o at h gl
 induction gl with
 | some _ _ _ _=>exact no h
 | none e1 =>
  refine eaaa ?_ (tk.meth c m fa h);rintro t1 t2 t3;refine eaa ?_;rintro t4 t5 t6
  exact method_fn (Rl.inK ok) I t1 t2 t3 t4 (by
   show (W.getL m es).map (·.isSome)=some false
   rw [e1];rfl) (q t6)
theorem lk_none {fs:List (Str×D)} {m:Str} {α:Type} {x:Option α}:noK (lk m (fs.map fun p=>(p.1,V.d p.2))) x=noK (lk m fs) x:=by
 rw [lk_map];cases lk m fs <;> rfl
theorem b2o (tk:TabsOk C) {v:V} {val:Value} {m:Str} {fa:Nat} {A:Around} {pl:Sem Bool} {Q:Value×List Value→Shared→Prop} (h:a4r C.T v m σ=some fa) (ok:FmOk C f) (Rl:Rel C B f rs ρ σ g s) (hv:VRep C B g v val)
  (q:(∃ o,C.K.lookup fa=some o)→Q (.ref fa,[val]) s):wpAny C.M A (getMethod val m pl) Q E s:=by
 have hn:=a2o Rl hv
 have h:(match norm σ v with | .r i=>inst σ i fun c z0 fs=>noK (lk m fs) (C.T.meth c m) | .d x=>onObj x fun c fs=>noK (lk m fs) (C.T.meth c m))=some fa:=h
 generalize norm σ v=w at h hn
 induction w with
 | d x =>
  induction x using D.casesOn with
  | obj c fs=>induction hn with | mk ad dx es n k1 k2 k3=>exact meth_snd tk (lk_none.trans h) (FReps.toN k3) ⟨Rl.kn ok k1,rfl,rfl,Rl.kn ok k2⟩ ok Rl q
  | _=>exact no h
 | r i=>induction b0m h Rl hn with | mk c j fs a dx es n _ _ _ _ I nr h=>exact meth_snd tk h nr I ok Rl q
variable {k:V→St→Option R} {Q:Value→Shared→Prop}
theorem bm_snd (S:Snd C ih n) {o:Expr} {m:Str} {ap cp:Pos} {args:List Expr} {v:V} {val:Value} (hg4:args.all (fun e => !isStar e)=true) (h:eBm C.T ih f.sc v m args ρ σ k=some r) (ok:FmOk C f) (rm:Room f n) (Rl:Rel C B f rs ρ σ g s) (hv:VRep C B g v val) (q:QV C B f rs ρ g k r Q) :
  wpAny C.M f.A (b0u o m ap cp args f.env val) Q E s:=by
 refine exa ?_ (a0i h);rintro bm hb h
 refine wpAny_bind (wpAny_holding (bmget_snd hb ok Rl hv ?_))
 refine a2x S hg4 h ok rm Rl fun vs σ2 g2 s2 vals h2 R2 X2 hvs=>⟨⟨.machine,.inr (.inl rfl),Looks.of_pure rfl⟩,?_⟩
 exact bmeth_snd h2 ok R2 (hv.ext X2) hvs fun u σ3 g3 s3 u' h3 R3 X3 hu=>q u σ3 g3 s3 u' h3 R3 (X2.trans X3) hu
theorem mfn_snd (tk:TabsOk C) (S:Snd C ih n) {o:Expr} {m:Str} {ap cp:Pos} {args:List Expr} {v:V} {val:Value} {fa:Nat} (hg4:args.all (fun e => !isStar e)=true) (hf:a4r C.T v m σ=some fa) (h:(evL ih f.sc args ρ σ fun vs σ=>ih.call (.d (.g fa)) (v::vs) σ k)=some r) (ok:FmOk C f) (rm:Room f n) (Rl:Rel C B f rs ρ σ g s) (hv:VRep C B g v val) (q:QV C B f rs ρ g k r Q) :
  wpAny C.M f.A (b0u o m ap cp args f.env val) Q E s:=by
 refine wpAny_bind (wpAny_holding (b2o tk hf ok Rl hv fun ⟨o,hk⟩ => ?_))
 refine a2x S hg4 h ok rm Rl fun vs σ2 g2 s2 vals h2 R2 X2 hvs => ?_
 have hfv:VRep C B g2 (.d (.g fa)) (.ref fa):=DRep.g (C:=C) (B:=B) (fz:=g2.fz) fa o hk
 exact ⟨S.keep h2 ok R2 hfv,S.call h2 ok rm R2 hfv (.cons _ _ _ _ (hv.ext X2) hvs) fun u σ3 g3 s3 u' h3 R3 X3 hu=>q u σ3 g3 s3 u' h3 R3 (X2.trans X3) hu⟩
theorem mcall_snd (tk:TabsOk C) (S:Snd C ih n) {o:Expr} {m:Str} {ap cp:Pos} {args:List Expr} (h:eMeth C.T ih f.sc o m ap args cp ρ σ k=some r) (ok:FmOk C f) (rm:Room f n) (Rl:Rel C B f rs ρ σ g s) (q:QV C B f rs ρ g k r Q) :
  wpAny C.M f.A (eval (.Call (.Attribute o m ap) args [] cp) f.env) Q E s:=by
 have hg:=a0b h
 have hg4:=a0e (a0e hg)
 have hn:args.length < 20:=cO (a0k (a0e hg))
 have h:(ih.e f.sc o ρ σ fun v σ=>match a4r C.T v m σ with | some f'=>evL ih f.sc args ρ σ fun vs σ=>ih.call (.d (.g f')) (v::vs) σ k | none=>eBm C.T ih f.sc v m args ρ σ k)=some r:=a0c h
 rw [mcall_eq (a0k (a0k hg)) (cL (a0e (a0k hg))) hn hg4]
 refine wpAny_bind (S.e h ok rm Rl fun v σ1 g1 s1 val h1 R1 X1 hv=>wpAny_bind (wpAny_standAt ?_))
 have q':QV C B f rs ρ g1 k r Q:=fun u σ3 g3 s3 u' h3 R3 X3 hu=>q u σ3 g3 s3 u' h3 R3 (X1.trans X3) hu
 cases hf:a4r C.T v m σ1 with
 | some fa=>rw [hf] at h1;exact mfn_snd tk S hg4 hf h1 ok rm R1 hv q'
 | none=>rw [hf] at h1;exact bm_snd S hg4 h1 ok rm R1 hv q'
theorem ncall_snd (S:Snd C ih n) {x:Str} {fp cp:Pos} {args:List Expr} (h:eFn ih f.sc (.Name x fp) args ρ σ k=some r) (ok:FmOk C f) (rm:Room f n) (Rl:Rel C B f rs ρ σ g s) (q:QV C B f rs ρ g k r Q) :
  wpAny C.M f.A (eval (.Call (.Name x fp) args [] cp) f.env) Q E s:=by
 refine Call_ (S.e (a0c h) ok rm Rl fun fv σ1 g1 s1 val h1 R1 X1 hv => ?_)
 refine a2x S (a0b h) h1 ok rm R1 fun vs σ2 g2 s2 vals h2 R2 X2 hvs => ?_
 exact ⟨S.keep h2 ok R2 (hv.ext X2),S.call h2 ok rm R2 (hv.ext X2) hvs fun u σ3 g3 s3 u' h3 R3 X3 hu=>q u σ3 g3 s3 u' h3 R3 (X1.trans (X2.trans X3)) hu⟩
theorem ecall_snd (tk:TabsOk C) (S:Snd C ih n) {fn:Expr} {kws:List Keyword} {cp:Pos} {args:List Expr} (h:(bif kws.isEmpty then eCall C.T ih f.sc fn args cp ρ σ k else none)=some r) (ok:FmOk C f) (rm:Room f n) (Rl:Rel C B f rs ρ σ g s) (q:QV C B f rs ρ g k r Q) :
  wpAny C.M f.A (eval (.Call fn args kws cp) f.env) Q E s:=by
 induction kws using aK with
 | cons _ _=>exact no h
 | nil=>induction fn using Expr.casesOn with
  | Attribute o m ap=>exact mcall_snd tk S h ok rm Rl q
  | Name x fp=>exact ncall_snd S h ok rm Rl q
  | _=>exact no h
end
end Mine
end
section
namespace Mine
open PySem PySem.W PySem.Spec PySem.Calls PyProof.Rows PySem.SeqAt
noncomputable def isTgt:Expr→Bool
 | .Name _ _=>true
 | .Tuple _ _ _=>true
 | _=>false
structure Src (C:Cx) (B:Buf) (fz:List (Addr×Obj)) (A:Around) (I:Addr) (ds:List D) (fp:List Addr) (P:Nat→Value→Prop) (St:Nat→Heap→Prop):Prop where
 walks:Walks C.prog C.w A I fp [I] ds.length P St
 item:∀ i v,i < ds.length→P i v→∃ d,ds[i]?=some d∧DRep C B fz d v
 fp:∀ b∈fp,b=I∨∃ o,C.Kn fz b o
 at_:∀ i h,St i h→∃ o,h.get? I=some o
 go:∀ i j v (target:Expr),isTgt target=true→∀ (s:Shared) (Q:Unit→Shared→Prop) (E:Value→Shared→Prop),St j s.heap→P i v→Q () s→wpAny C.M A (letOwnedTupleGo target (.ref I) v) Q E s
theorem DReps.getv {C:Cx} {B:Buf} {fz:List (Addr×Obj)}:∀ {ds:List D} {vs:List Value},DReps C B fz ds vs→∀ {i:Nat} {v:Value},vs[i]?=some v→∃ d,ds[i]?=some d∧DRep C B fz d v:=by
 intro x_
 induction x_ with
 | nil =>
  intro _ r i v h
  subst r;exact no h
 | cons x xs IH_ =>
  intro _ r i v h
  induction r with | mk w ws a r =>
  induction i using cK with
  | zero=>have h_:=Option.some.inj h;subst h_;exact ⟨x,rfl,a⟩
  | succ i=>exact IH_ r (i:=i) h
theorem KVI.at_ {C:Cx} {B:Buf} {fz:List (Addr×Obj)}:∀ {es:List (D×D)} {kvs:List (Int×Value)},KVI C B fz es kvs→∀ {i:Nat} {k:Int} {x:Value},kvs[i]?=some (k,x)→(es.map Prod.fst)[i]?=some (.int k)
 | [],_,h,i,_,_,e=>by subst h;exact no e
 | (y,d)::es,_,h,i,_,_,e=>by
  induction y using D.casesOn with
  | int j =>
   induction h with | mk v kvs a r =>
   induction i using cK with
   | zero=>cases Option.some.inj e;rfl
   | succ i=>exact KVI.at_ (es:=es) r (i:=i) e
  | _=>exact h.elim
theorem KVS.at_ {C:Cx} {B:Buf} {fz:List (Addr×Obj)}:∀ {es:List (D×D)} {kvs:List (Str×Value)},KVS C B fz es kvs→∀ {i:Nat} {k:Str} {x:Value},kvs[i]?=some (k,x)→(es.map Prod.fst)[i]?=some (.str k)
 | [],_,h,i,_,_,e=>by subst h;exact no e
 | (y,d)::es,_,h,i,_,_,e=>by
  induction y using D.casesOn with
  | str j =>
   induction h with | mk v kvs a r =>
   induction i using cK with
   | zero=>cases Option.some.inj e;rfl
   | succ i=>exact KVS.at_ (es:=es) r (i:=i) e
  | _=>exact h.elim
section
variable {prog:Program} {w:World} {A:Around} {E:Value→Shared→Prop} {s:Shared}
theorem a4z {I:Addr} {v:Value} {target:Expr} {Q:Unit→Shared→Prop} (ht:isTgt target=true) (hv:∀ a,v ≠ .ref a) (hQ:Q () s):wpAny (model prog w) A (letOwnedTupleGo target (.ref I) v) Q E s:=by
 induction target using Expr.casesOn with
 | Name _ _=>exact wpAny_pure hQ
 | Tuple _ _ _=>induction v with
  | ref a=>exact absurd rfl (hv a)
  | _=>exact wpAny_pure hQ
 | _=>exact nob ht
theorem go_cls {I:Addr} {v:Value} {target:Expr} {Q:Unit→Shared→Prop} {o:Obj} {c:String} (ht:isTgt target=true) (ho:s.heap.get? I=some o) (hc:o.cls = .type c) (hn:["enumerate", "zip", "dict_itemiterator", "dict_reverseitemiterator", "odict_iterator", "itertools.zip_longest", "itertools.pairwise"].contains c=false) (hQ:Q () s) :
  wpAny (model prog w) A (letOwnedTupleGo target (.ref I) v) Q E s:=by
 induction target using Expr.casesOn with
 | Name _ _=>exact wpAny_pure hQ
 | Tuple _ _ _=>induction v with
  | ref a =>
   refine wpAny_bind (wpAny_load ho ?_)
   rw [hc]
   induction o.data with
   | fields vs =>
    show wpAny _ A (if (["enumerate", "zip", "dict_itemiterator", "dict_reverseitemiterator", "odict_iterator", "itertools.zip_longest", "itertools.pairwise"].contains c&&vs[0]?==some (rawInt a))=true then _ else _) Q E s
    rw [hn,Bool.false_and,if_neg Bool.false_ne_true]
    exact wpAny_pure hQ
   | _=>exact wpAny_pure hQ
  | _=>exact wpAny_pure hQ
 | _=>exact nob ht
end
theorem a9s (a c:Int):∀ (n i:Nat),i < n→(a1p a c n)[i]?=some (a+i * c)
 | 0,_,h=>by lia
 | n+1,0,_=>by rw [a6s];simp
 | n+1,i+1,h=>by
  rw [a6s]
  rw [List.getElem?_cons_succ,a9s (a+c) c n i (by lia)]
  congr 1
  rw [Int.add_assoc];congr 1
  push_cast
  rw [Int.add_mul,Int.one_mul,Int.add_comm]
theorem rangeL_length (a c:Int):∀ (n:Nat),(a1p a c n).length=n
 | 0=>rfl
 | n+1=>by rw [a6s,bE,rangeL_length (a+c) c n]
section
variable {C:Cx} {ih:IH R} {n:Nat} {B:Buf} {f:Fm} {rs:List (Addr×Obj)} {ρ:Loc} {σ:St} {g:G} {s:Shared} {E:Value→Shared→Prop}
noncomputable abbrev QIt (C:Cx) (f:Fm) (B:Buf) (g:G) (s:Shared) (k:List D→Option R) (r:R) (Q:Value→Shared→Prop):Prop :=
 ∀ ds o fp P St,k ds=some r→Src C B g.fz f.A s.heap.objs.size ds fp P St→St 0 (s.heap.push o)→(s.heap.push o).get? s.heap.objs.size=some o→Q (.ref s.heap.objs.size) { s with heap:=s.heap.push o }
variable {k:List D→Option R} {Q:Value→Shared→Prop}
theorem ref_ne {i:Nat} {a:Addr} {x:Str} {v:Value} (h:SignAt x i v):v ≠ .ref a:=by
 revert h;refine exxa ?_;rintro c u hc rfl
 exact Value.noConfusion
theorem iter_str {x:Str} {t:Tok} (h:k (x.cps.toList.map fun c => .str ⟨#[c]⟩)=some r) (ok:FmOk C f) (q:QIt C f B g s k r Q):wpAny C.M f.A (pyIter (.str x t)) Q E s:=by
 have hh:=ok.handled
 have it:∀ i v,SignAt x i v→∃ d,(x.cps.toList.map fun c=>D.str ⟨#[c]⟩)[i]?=some d∧DRep C B g.fz d v:=by
  rintro i v q1_
  revert q1_;refine exxa ?_;rintro c u hc rfl
  refine ⟨.str ⟨#[c]⟩,?_,.str _ _⟩
  rw [aX,Array.getElem?_toList,hc];rfl
 have hl:(x.cps.toList.map fun c=>D.str ⟨#[c]⟩).length=x.cps.size:=bF _
 cases ha:x.cps.all (· < 128) with
 | false=>exact wpAny_pyIter_wide ha (q _ _ [s.heap.objs.size] (SignAt x) (fun i h=>h.IsStrIter s.heap.objs.size "str_iterator" x t i) h ⟨by rw [hl];exact Walks.strWide hh _ x t,fun i v z0=>it i v,fun b hb => .inl (bV.mp hb),fun i h ⟨o,ho,_⟩=>⟨o,ho⟩,fun i j v target ht s Q E z0 hp hQ=>a4z ht (fun a=>ref_ne hp) hQ⟩ ⟨_,Heap.get?_push_size _ rfl,rfl,rfl⟩ (Heap.get?_push_size _ rfl))
 | true=>exact wpAny_pyIter_ascii ha (q _ _ [s.heap.objs.size] (SignAt x) (fun i h=>h.IsStrIter s.heap.objs.size "str_ascii_iterator" x t i) h ⟨by rw [hl];exact Walks.strAscii hh _ x t,fun i v z0=>it i v,fun b hb => .inl (bV.mp hb),fun i h ⟨o,ho,_⟩=>⟨o,ho⟩,fun i j v target ht s Q E z0 hp hQ=>a4z ht (fun a=>ref_ne hp) hQ⟩ ⟨_,Heap.get?_push_size _ rfl,rfl,rfl⟩ (Heap.get?_push_size _ rfl))
theorem iter_bytes {b:List Nat} {t:Tok} (hb:∀ x∈b,x < 256) (h:k (b.map fun x => .int (Int.ofNat x))=some r) (ok:FmOk C f) (q:QIt C f B g s k r Q):wpAny C.M f.A (pyIter (.bytes (toBA b) t)) Q E s:=by
 have it:∀ (i:Nat) (v:Value),(∃ (c:UInt8) (u:Tok),(toBA b)[i]?=some c∧v=Value.int (c.toNat:Int) u)→∃ d,(b.map fun x=>D.int (Int.ofNat x))[i]?=some d∧DRep C B g.fz d v:=by
  rintro i v q1_
  revert q1_;refine exxa ?_;rintro c u hc rfl
  unfold toBA at hc
  rw [List.getElem?_toArray,aX,Option.map_eq_some_iff] at hc
  revert hc;refine exa ?_;rintro y hy rfl
  refine ⟨.int (Int.ofNat y),by rw [aX,hy];rfl,?_⟩
  rw [u8_of (hb y (bU hy))];exact .int _ _
 exact KBw.pyIter_bytes (q _ _ [s.heap.objs.size] _ (fun i h=>KBw.IsBytesIter h s.heap.objs.size (toBA b) t i) h ⟨by
  rw [show (b.map fun x=>D.int (Int.ofNat x)).length=(toBA b).size from by rw [bF,a1q]];exact KBw.walks ok.handled _ _ t,fun i v z0=>it i v,fun b hb => .inl (bV.mp hb),fun i h ⟨o,ho,_⟩=>⟨o,ho⟩,fun i j v target ht s Q E z0 hp hQ=>a4z ht (fun a e=>by obtain ⟨c,u,_,rfl⟩:=hp;cases e) hQ⟩ ⟨_,Heap.get?_push_size _ rfl,rfl,rfl⟩ (Heap.get?_push_size _ rfl))
theorem fp_two {fz:List (Addr×Obj)} {I a:Addr} {o:Obj} (hk:C.Kn fz a o):∀ b∈[I,a],b=I∨∃ o,C.Kn fz b o:=fun b hb=>by
 rcases bP.mp hb with e | hb
 ·exact .inl e
 ·exact .inr ⟨o,bV.mp hb▸hk⟩
theorem iter_lst {xs:List D} {vs:List Value} {a:Addr} {m:Nat} (hk:C.Kn g.fz a (W.listOf vs.toArray m)) (hr:DReps C B g.fz xs vs) (h:k xs=some r) (ok:FmOk C f) (Rl:Rel C B f rs ρ σ g s) (q:QIt C f B g s k r Q):wpAny C.M f.A (pyIter (.ref a)) Q E s:=by
 have hl:xs.length=vs.toArray.size:=by rw [cG,hr.length]
 have hg:=Rl.kn ok hk
 refine wpAny_pyIter_list (items:=vs.toArray) ⟨_,hg,rfl,m,rfl⟩ (q _ _ [s.heap.objs.size,a] _ (fun i h=>h.IsListIter s.heap.objs.size a i∧h.IsList a vs.toArray) h ⟨by
  rw [hl];exact Walks.list ok.handled _ a (cX (Heap.lt_size hg)) vs.toArray,fun i v z0 hp=>hr.getv (List.getElem?_toArray▸hp),fp_two hk,fun i h ⟨⟨o,ho,_⟩,_⟩=>⟨o,ho⟩,fun i j v target ht s Q E ⟨⟨o,ho,hc,hd⟩,_⟩ hp hQ=>go_cls ht ho hc (by decide) hQ⟩ ⟨⟨_,Heap.get?_push_size _ rfl,rfl,rfl⟩,⟨_,Heap.get?_push_of_some _ hg,rfl,m,rfl⟩⟩ (Heap.get?_push_size _ rfl))
theorem a7w {K:Type} [DecidableEq K] {knd:PySem.KeyKind C.prog C.w K} {kvs:List (K×Value)} {es:List (D×D)} {a:Addr} {o:Obj} (hk:C.Kn g.fz a o) (lo:(a==sysModules)=false) (hd:o.IsDictOf knd kvs) (hl:es.length=kvs.length) (hi:∀ (i:Nat) (k:K) (x v:Value),kvs[i]?=some (k,x)→knd.is k v=true→∃ d,(es.map Prod.fst)[i]?=some d∧DRep C B g.fz d v∧∀ b,v ≠ .ref b)
  (h:k (es.map Prod.fst)=some r) (ok:FmOk C f) (Rl:Rel C B f rs ρ σ g s) (q:QIt C f B g s k r Q):wpAny C.M f.A (pyIter (.ref a)) Q E s:=by
 revert hd;refine exxa ?_;rintro es' ep hx;refine eaaa ?_;rintro hdat hko hpr hnd
 have hg:=Rl.kn ok hk
 have hda:∀ {hp:Heap},hp.get? a=some o→Heap.DictAt knd hp a kvs ep:=fun e=>⟨o,es',e,hx,hdat,hko,hpr,hnd⟩
 refine wpAny_pyIter_dict lo (hda hg) (q _ _ [s.heap.objs.size,a] (fun i v=>∃ k x,kvs[i]?=some (k,x)∧knd.is k v=true) (fun i h=>h.IsKeyIter s.heap.objs.size a i kvs.length ep∧Heap.DictAt knd h a kvs ep) h ⟨by
  rw [bF,hl];exact Walks.dictKeys ok.handled _ a (cX (Heap.lt_size hg)) kvs ep,fun i v _ ⟨k,x,e,hv⟩ => ?_,fp_two hk,fun i h ⟨⟨o,ho,_⟩,_⟩=>⟨o,ho⟩,?_⟩ ⟨⟨_,Heap.get?_push_size _ rfl,rfl,rfl⟩,hda (Heap.get?_push_of_some _ hg)⟩ (Heap.get?_push_size _ rfl))
 ·refine exaa ?_ (hi i k x v e hv);rintro d e1 e2 _
  exact ⟨d,e1,e2⟩
 ·rintro i j v target ht s Q E _ q1_ hQ
  revert q1_;refine exxa ?_;rintro k x e hv
  refine exaa ?_ (hi i k x v e hv);rintro d _ _ e3
  exact a4z ht e3 hQ
theorem iter_dct {es:List (D×D)} {a:Addr} {o:Obj} (hk:C.Kn g.fz a o) (lo:(a==sysModules)=false) (hr:DictRep C B g.fz es o) (h:k (es.map Prod.fst)=some r) (ok:FmOk C f) (Rl:Rel C B f rs ρ σ g s) (q:QIt C f B g s k r Q):wpAny C.M f.A (pyIter (.ref a)) Q E s:=by
 induction hr with
 | empty e h1 h2=>subst e;exact a7w (es:=[]) hk lo h1 rfl (fun i k x v e z0=>no e) h ok Rl q
 | «ints» kvs _ h1 h2 =>
  refine a7w hk lo h1 h2.length (fun i k x v e hv=>⟨_,h2.at_ e,?_⟩) h ok Rl q
  refine xE ?_ (Value.isInt_shape hv);rintro t rfl
  exact ⟨.int _ _,fun b=>Value.noConfusion⟩
 | «strs» kvs _ h1 h2 =>
  refine a7w hk lo h1 h2.length (fun i k x v e hv=>⟨_,h2.at_ e,?_⟩) h ok Rl q
  refine xE ?_ (Value.isStrOf_shape hv);rintro t rfl
  exact ⟨.str _ _,fun b=>Value.noConfusion⟩
theorem rsz_nn (a b c:Int):(0:Int)≤Builtin.Range.rangeSize a b c:=by
 unfold Builtin.Range.rangeSize
 split
 ·split
  ·have:=Int.ediv_nonneg (a:=b - a - 1) (b:=c) (by lia) (by lia)
   lia
  ·decide
 ·split
  ·have:=Int.ediv_nonneg (a:=a - b - 1) (b := -c) (by lia) (by lia)
   lia
  ·decide
theorem iter_rng {a b c:Int} {ad:Addr} {t u v:Tok} (hk:C.Kn g.fz ad (b1q a b c t u v)) (hs:Builtin.Range.small a b c=true) (h:k ((a1p a c (Builtin.Range.rangeSize a b c).toNat).map .int)=some r) (ok:FmOk C f) (Rl:Rel C B f rs ρ σ g s) (q:QIt C f B g s k r Q):wpAny C.M f.A (pyIter (.ref ad)) Q E s:=by
 refine wpAny_pyIter_range (Rl.kn ok hk) hs (q _ _ [s.heap.objs.size] _ (fun i h=>IsRangeIter h s.heap.objs.size (a+i * c) ((Builtin.Range.rangeSize a b c).toNat - i) c) h ⟨by
  rw [bF,rangeL_length];exact Walks.range ok.handled _ a c _,fun i v hi hp => ?_,fun b hb => .inl (bV.mp hb),fun i h ho=>⟨_,ho⟩,fun i j v target ht s Q E z0 hp hQ=>a4z ht (fun a e=>by obtain ⟨t,rfl⟩:=hp;cases e) hQ⟩ ?_ (Heap.get?_push_size _ rfl))
 ·revert hp;refine xE ?_;rintro t rfl
  rw [bF,rangeL_length] at hi
  refine ⟨.int (a+i * c),?_,.int _ _⟩
  rw [aX,a9s a c _ i hi];rfl
 ·have e:(((Builtin.Range.rangeSize a b c).toNat:Int))=Builtin.Range.rangeSize a b c:=Int.toNat_of_nonneg (rsz_nn a b c)
  show Heap.get? _ _=_
  rw [e,Heap.get?_push_size _ rfl]
  simp
theorem b0v {d:D} {v:Value} (h:itemsOf d k=some r) (ok:FmOk C f) (Rl:Rel C B f rs ρ σ g s) (hv:DRep C B g.fz d v) (q:QIt C f B g s k r Q) :
  wpAny C.M f.A (pyIter v) Q E s:=by
 induction d using D.casesOn with
 | str x=>induction hv with | mk t=>exact iter_str h ok q
 | bytes b=>induction hv with | mk t hb=>exact iter_bytes hb h ok q
 | lst xs=>induction hv with | mk vs a m hk hr=>exact iter_lst hk hr h ok Rl q
 | dct es=>induction hv with | mk a o hk lo hr=>exact iter_dct hk lo hr h ok Rl q
 | rng a b c=>induction hv with | mk ad t u v hk hs=>exact iter_rng hk hs h ok Rl q
 | _=>exact no h
end
end Mine
end
section
namespace Mine
open PySem PySem.W PySem.Spec PySem.Calls PyProof.Rows PySem.SeqAt
section
variable {C:Cx} {ih:IH R} {n:Nat} {B:Buf} {f:Fm} {rs:List (Addr×Obj)} {ρ:Loc} {σ:St} {g:G} {s:Shared} {E:Value→Shared→Prop}
theorem Rel.chg (Rl:Rel C B f rs ρ σ g s) {I:Addr} {oI o':Obj} {h':Heap} {t:Nat} (hm:(I,oI)∈rs) (hl:f.env.locals≠I)
  (hk:∀ b o,b≠I→s.heap.get? b=some o→h'.get? b=some o) (ho:h'.get? I=some o'):Rel C B f (upd I o' rs) ρ σ g { s with heap:=h',toks:=t }:=by
 refine exa ?_ Rl.loc;rintro m F l
 have nI:=Rl.news _ (a0l hm)
 have F':Fr f.h₀ f.L h' m:=⟨F.ns.at' fun o e=>hk _ _ nI.2.1.symm e,fun b o e=>hk b o (fun e2=>by rw [e2,nI.2.2] at e;exact nNS e) (F.keep b o e),F.above⟩
 have old:∀ p∈g.led rs,p.1≠I→h'.get? p.1=some p.2∧p.1≠f.L∧f.h₀.get? p.1=none:=fun p hp hne=>⟨hk _ _ hne (Rl.news p hp).1,(Rl.news p hp).2⟩
 have N':News f.h₀ f.L h' (g.led (upd I o' rs)):=by
  intro p hp
  rcases bM.mp hp with hp | hp
  ·exact old p (bN _ hp) fun e=>Rl.rsA _ hm p.1 (Rl.zipFst hp) e
  ·rcases bM.mp hp with hp | hp
   ·exact old p (a1g hp) fun e=>Rl.rsF _ hm p hp e
   ·refine exa ?_ (bT.mp hp);rintro q hq e
    by_cases hc:q.1=I
    ·rw [if_pos hc] at e;subst e
     dsimp only
     rw [hc];exact ⟨ho,nI.2⟩
    ·rw [if_neg hc] at e;subst e
     exact old q (a0l hq) hc
 refine ⟨⟨m,F',?_⟩,N',Rl.lenA,Rl.lenO,Rl.nodup,Rl.own,?_,?_,Rl.gens,Rl.os⟩
 ·rcases l with l | z1_
  ·exact .inl l
  ·obtain ⟨e,o,mC,a1,a2,a3⟩:=z1_
   exact .inr ⟨e,o,mC,bT.mpr ⟨_,a1,by simp [hl]⟩,a2.at' fun o e=>hk _ _ hl e,a3⟩
 ·intro p hp p' hp'
  refine exa ?_ (b0r hp);rintro q hq e
  rw [← e];exact Rl.rsF q hq p' hp'
 ·intro p hp a ha
  refine exa ?_ (b0r hp);rintro q hq e
  rw [← e];exact Rl.rsA q hq a ha
theorem upd_top {I:Addr} {o o':Obj} (h:∀ p∈rs,p.1≠I):upd I o' ((I,o)::rs)=(I,o')::rs:=by
 show (if I=I then (I,o') else (I,o))::upd I o' rs=_
 rw [if_pos rfl,upd_ne h]
theorem Rel.turnTop {I:Addr} {oI o':Obj} {h':Heap} {t:Nat} (Rl:Rel C B f ((I,oI)::rs) ρ σ g s) (hl:f.env.locals≠I) (hn:∀ p∈rs,p.1≠I)
  (hk:∀ b o,b≠I→s.heap.get? b=some o→h'.get? b=some o) (ho:h'.get? I=some o'):Rel C B f ((I,o')::rs) ρ σ g { s with heap:=h',toks:=t }:=by
 have:=Rl.chg (t:=t) (.head _) hl hk ho
 rwa [upd_top hn] at this
theorem Rel.locLt (Rl:Rel C B f rs ρ σ g s):f.env.locals < s.heap.objs.size:=by
 refine exa ?_ Rl.loc;rintro m F l
 rcases l with z0_ | z1_
 ·revert z0_;refine aE ?_;rintro e _
  rw [e];refine exxx ?_ F.ns;rintro o _ _;refine aE ?_;rintro ho _;exact Heap.lt_size ho
 ·obtain ⟨_,o,mC,a,_,_⟩:=z1_
  exact Rl.lt (a0l a)
theorem LRep.sub {env:Env} {ρ':Loc} {m:Str→Option Value} (h:∀ x v,ρ'.lookup x=some v→ρ.lookup x=some v) (l:LRep C B env ρ g m):LRep C B env ρ' g m:=fun x v e=>l x v (h x v e)
theorem Rel.sub {ρ':Loc} (Rl:Rel C B f rs ρ σ g s) (h:∀ x v,ρ'.lookup x=some v→ρ.lookup x=some v):Rel C B f rs ρ' σ g s:=by
 refine exa ?_ Rl.loc;rintro m F l
 refine ⟨⟨m,F,?_⟩,Rl.news,Rl.lenA,Rl.lenO,Rl.nodup,Rl.own,Rl.rsF,Rl.rsA,Rl.gens,Rl.os⟩
 rcases l with z0_ | z1_
 ·revert z0_;refine aE ?_;rintro e l
  exact .inl ⟨e,l.sub h⟩
 ·obtain ⟨e,o,mC,a1,a2,a3⟩:=z1_
  exact .inr ⟨e,o,mC,a1,a2,a3.sub h⟩
theorem Rel.offL (Rl:Rel C B f rs ρ σ g s):∀ p∈rs,p.1≠f.L:=fun p hp=>(Rl.news p (a0l hp)).2.1
noncomputable abbrev Kp (ρ0 ρ:Loc):Prop:=∀ x v,ρ0.lookup x=some v→ρ.lookup x=some v
theorem Kp.put {ρ0:Loc} {x:Str} {v:V} (h:Kp ρ0 ρ) (hx:ρ0.lookup x=none):Kp ρ0 (put x v ρ):=by
 intro y u hy
 rw [a2i]
 by_cases e:y=x
 ·subst e;rw [hx] at hy;exact nNS hy
 ·rw [if_neg e];exact h y u hy
theorem nm_eq {t:Expr} {x:Str} (h:nm? t=some x):∃ p,t = .Name x p :=
 (a0w h).elim fun hc hf=>Expr.Name.elim (motive_1:=fun t=>∀ hc,Expr.Name.elim t hc (fun x z0=>some x)=some x→∃ p,t = .Name x p) t hc (fun z0 pp z0 hf=>⟨pp,Option.some.inj hf▸rfl⟩) hc hf
theorem a4e {sc:Scope} {t:Expr} {ts:List Expr} {ds:List D} {k:Loc→St→Option R} (h:bindNames sc (t::ts) ds ρ σ k=some r) :
  ∃ x p d ds',t = .Name x p∧ds=d::ds'∧putName sc x (.d d) ρ σ (fun ρ σ=>bindNames sc ts ds' ρ σ k)=some r:=by
 induction ds using aK with
 | nil=>exact no h
 | cons d ds' =>
  refine exa ?_ (a0i (show optK (nm? t) _=some r from h));rintro x hx h
  refine xE ?_ (nm_eq hx);rintro p rfl
  exact ⟨x,p,d,ds',rfl,rfl,h⟩
theorem b4n {sc:Scope} {x:Str} {v:V} {k:Loc→St→Option R} (h:putName sc x v ρ σ k=some r):∃ ρ' σ',k ρ' σ'=some r:=by
 refine exa ?_ (a0i (show optK (lk x sc.names) _=some r from h));rintro kd _ h
 induction kd with
 | «local» => exact ⟨_,_,h⟩
 | cell =>
  refine exa ?_ (a0i (show optK (lk x ρ) _=some r from h));rintro w _ h
  induction w with
  | d _=>exact no h
  | r i =>
   have h:(match σ[i]? with | some o=>onCell o _ | none=>none)=some r:=h
   cases ho:σ[i]? with
   | none=>rw [ho] at h;exact no h
   | some o =>
    rw [ho] at h
    induction o with
    | cell _=>exact ⟨_,_,h⟩
    | _=>exact no h
 | _=>exact no h
theorem a3w {sc:Scope} {env:Env}:∀ {ts:List Expr} {ds:List D} {ρ:Loc} {σ:St} {k:Loc→St→Option R},bindNames sc ts ds ρ σ k=some r→(assignEach ts env).length=ds.length∧(assignEach ts env).findIdx? (·.1)=none
 | [],[],_,_,_,_=>⟨rfl,rfl⟩
 | [],_::_,_,_,_,h=>no h
 | t::ts,ds,ρ,σ,k,h=>by
  refine exxx ?_ (a4e h);rintro x p d;refine exaa ?_;rintro ds' rfl rfl h1
  refine exx ?_ (b4n h1);rintro ρ' σ' h2
  have ih:=a3w (env:=env) h2
  refine ⟨congrArg (· + 1) ih.1,?_⟩
  show List.findIdx? (·.1) ((false,_)::assignEach ts env)=none
  rw [List.findIdx?_cons,ih.2];rfl
theorem lkNone {x:Str} {ρ:Loc} (h:(lk x ρ).isNone=true):ρ.lookup x=none:=by rw [← a3o];exact Option.isNone_iff_eq_none.mp h
noncomputable abbrev QBd (C:Cx) (B:Buf) (f:Fm) (rs:List (Addr×Obj)) (ρ:Loc) (g:G) (k:Loc→St→Option R) (r:R) (Q:Unit→Shared→Prop) (P:Loc→Prop):Prop :=
 ∀ ρ' σ' g' rs' s',k ρ' σ'=some r→Rel C B f rs' ρ' σ' g' s'→Ext g g'→RsTo f.env.locals rs rs'→P ρ'→Q () s'
theorem a5a {A:Around}:∀ {ts:List Expr} {ds:List D} {vs:List Value} {rs:List (Addr×Obj)} {ρ:Loc} {σ:St} {g:G} {s:Shared} {k:Loc→St→Option R} {Q:Unit→Shared→Prop},bindNames f.sc ts ds ρ σ k=some r→FmOk C f→Rel C B f rs ρ σ g s→DReps C B g.fz ds vs →
  QBd C B f rs ρ g k r Q (fun ρ'=>∀ ρ0,Kp ρ0 ρ→freshN ρ0 ts=true→Kp ρ0 ρ') →
  wpAny C.M A (assignInOrder ((assignEach ts f.env).map (·.2)) vs) Q E s
 | [],[],vs,rs,ρ,σ,g,s,k,Q,h,ok,Rl,hv,q=>by
  subst hv
  exact assignInOrder_nil (q _ _ _ _ _ h Rl (Ext.refl _) (.refl _ _) fun ρ0 hk z0=>hk)
 | [],_::_,_,_,_,_,_,_,_,_,h,_,_,_,_=>no h
 | t::ts,ds,vs,rs,ρ,σ,g,s,k,Q,h,ok,Rl,hv,q=>by
  refine exxx ?_ (a4e h);rintro x p d;refine exaa ?_;rintro ds' rfl rfl h1
  induction hv with | mk v vs' hd hr =>
  refine assignInOrder_cons (wpAny_assign_Name (a4k h1 ok Rl (v := .d d) hd fun ρ1 σ1 g1 rs1 s1 h2 R1 X1 T1 K1 => ?_))
  refine a5a h2 ok R1 (hr.mono X1.fz) fun ρ2 σ2 g2 rs2 s2 h3 R2 X2 T2 K2=>q _ _ _ _ _ h3 R2 (X1.trans X2) (T1.trans T2) fun ρ0 hk hf=>K2 ρ0 ?_ (a0e hf)
  rcases K1 with rfl | rfl
  ·exact hk
  ·exact hk.put (lkNone (a0k hf))
variable {A:Around} {k:Loc→St→Option R} {Q:Unit→Shared→Prop}
theorem a5b (hA:A.handled=none) {ts:List Expr} {kk:Nat} {pos:Pos} {ds:List D} {val:Value} (h:bindNames f.sc ts ds ρ σ k=some r) (ok:FmOk C f) (Rl:Rel C B f rs ρ σ g s) (hv:DRep C B g.fz (.tup ds) val)
  (q:QBd C B f rs ρ g k r Q (fun ρ'=>∀ ρ0,Kp ρ0 ρ→freshN ρ0 ts=true→Kp ρ0 ρ')) :
  wpAny C.M A (assign (.Tuple ts kk pos) f.env val) Q E s:=by
 induction hv with | mk vs a o m hk hc hd hr =>
 refine aE ?_ (a3w (env:=f.env) h);rintro e1 e2
 refine assign_Tuple_tuple (items:=vs.toArray) hA ⟨o,Rl.kn ok hk,hc,m,hd⟩ (by rw [e1,hr.length,cG]) e2 fun h' he => ?_
 exact a5a h ok (Rl.grow (t:=s.toks) fun b o e=>he b o (cX (Heap.lt_size e)) e) hr q
theorem b2p {sc:Scope} {t:Expr} {d:D} (h:a6l sc t d ρ σ k=some r):isTgt t=true:=by
 induction t using Expr.casesOn with
 | Name _ _=>rfl
 | Tuple _ _ _=>rfl
 | _=>exact no h
theorem b2q (hA:A.handled=none) {t:Expr} {d:D} {val:Value} (h:a6l f.sc t d ρ σ k=some r) (ok:FmOk C f) (Rl:Rel C B f rs ρ σ g s) (hv:DRep C B g.fz d val)
  (q:QBd C B f rs ρ g k r Q (fun ρ'=>freshT t ρ=true→Kp ρ ρ')) :
  wpAny C.M A (assign t f.env val) Q E s:=by
 induction t using Expr.casesOn with
 | Name x p =>
  refine wpAny_assign_Name (a4k h ok Rl (v := .d d) hv fun ρ1 σ1 g1 rs1 s1 h2 R1 X1 T1 K1=>q _ _ _ _ _ h2 R1 X1 T1 fun hf => ?_)
  rcases K1 with rfl | rfl
  ·exact fun z0 z0 e=>e
  ·exact Kp.put (fun z0 z0 e=>e) (lkNone hf)
 | Tuple ts _ _=>induction d using D.casesOn with
  | tup xs=>exact a5b hA h ok Rl hv fun ρ1 σ1 g1 rs1 s1 h2 R1 X1 T1 K1=>q _ _ _ _ _ h2 R1 X1 T1 fun hf=>K1 ρ (fun z0 z0 e=>e) hf
  | _=>exact no h
 | _=>exact no h
theorem a2p (S:Snd C ih n):∀ {ss:List Stmt} {rs:List (Addr×Obj)} {ρ:Loc} {σ:St} {g:G} {s:Shared} {K:KS R} {Q:Flow→Shared→Prop} {E:Value→Shared→Prop},evSs ih f.sc ss ρ σ K=some r→FmOk C f→f.env.locals=f.L→Room f n→Rel C B f rs ρ σ g s→QS C B f rs g K r Q →
  wpAny C.M f.A (execs ss f.env) Q E s:=by
 intro x_
 induction x_ with
 | nil =>
  intro rs ρ σ g s K Q E h ok el rm Rl q
  exact wpAny_pure (q.next _ _ _ _ h Rl (Ext.refl _))
 | cons st ss IH_ =>
  intro rs ρ σ g s K Q E h ok el rm Rl q
  show wpAny _ _ (exec st f.env >>= fun fl=>match fl with | .next=>execs ss f.env | fl=>pure fl) _ _ _
  exact wpAny_bind (S.s h ok el rm Rl ⟨fun ρ' σ' g' s' h1 R1 X1=>IH_ h1 ok el rm R1 (q.ext X1),fun ρ' v u σ' g' s' h1 R1 X1 hv=>wpAny_pure (q.ret _ _ _ _ _ _ h1 R1 X1 hv),
   fun ρ' σ' g' s' h1 R1 X1=>wpAny_pure (q.cont _ _ _ _ h1 R1 X1),fun ρ' σ' g' s' h1 R1 X1=>wpAny_pure (q.brk _ _ _ _ h1 R1 X1)⟩)
theorem while_snd (S:Snd C ih n) {test:Expr} {body:List Stmt} {m:Nat} {pos:Pos} {K:KS R} {Q:Flow→Shared→Prop} (h:a7f ih f.sc test body m ρ σ K=some r) (ok:FmOk C f) (el:f.env.locals=f.L) (rm:Room f n) (Rl:Rel C B f rs ρ σ g s) (q:QS C B f rs g K r Q) :
  wpAny C.M f.A (exec (.While test body [] pos) f.env) Q E s:=by
 refine wpAny_While (codeAny_whileLoop (fun m s'=>∃ ρ' σ' g',a7f ih f.sc test body m ρ' σ' K=some r∧Rel C B f rs ρ' σ' g' s'∧Ext g g') ?_ m ⟨ρ,σ,g,h,Rl,Ext.refl _⟩)
 rintro m s1 q1_
 revert q1_;refine exxx ?_;rintro ρ1 σ1 g1;refine eaa ?_;rintro h1 R1 X1
 induction m using cK with
 | zero=>exact no h1
 | succ m =>
  refine S.t h1 ok rm R1 fun b σ2 g2 s2 h2 R2 X2 => ?_
  induction b with
  | false=>exact wpAny_pure (q.next _ _ _ _ h2 R2 (X1.trans X2))
  | true =>
   exact a2p S h2 ok el rm R2 ⟨fun ρ3 σ3 g3 s3 h3 R3 X3=>⟨m,cV _,ρ3,σ3,g3,h3,R3,X1.trans (X2.trans X3)⟩,fun ρ3 v u σ3 g3 s3 h3 R3 X3 hv=>q.ret _ _ _ _ _ _ h3 R3 (X1.trans (X2.trans X3)) hv,
    fun ρ3 σ3 g3 s3 h3 R3 X3=>⟨m,cV _,ρ3,σ3,g3,h3,R3,X1.trans (X2.trans X3)⟩,fun ρ3 σ3 g3 s3 h3 R3 X3=>no h3⟩
theorem forSet {e:Expr} (h:a2a e=false) (env:Env) (x:Value):foldedSetIterable e env x=pure x:=by
 induction e using Expr.casesOn with
 | Set _ _=>exact nob h.symm
 | _=>rfl
theorem Src.keep {A:Around} {I:Addr} {ds:List D} {fz:List (Addr×Obj)} {fp:List Addr} {P:Nat→Value→Prop} {St:Nat→Heap→Prop} (W:Src C B fz A I ds fp P St) {h h':Heap} {i:Nat}
  (hI:h.get? I=h'.get? I) (hK:∀ b o,C.Kn fz b o→h.get? b=some o→h'.get? b=some o) (hkn:∀ b o,C.Kn fz b o→h.get? b=some o) (st:St i h):St i h':=by
 refine W.walks.frame i h h' st fun b hb o e => ?_
 rcases W.fp b hb with rfl | z1_
 ·rw [← hI];exact e
 ·revert z1_;refine xE ?_;rintro o' hk
  have:=hkn b o' hk
  rw [this] at e;cases e
  exact hK b _ hk this
theorem Rel.done {I:Addr} {oI:Obj} {h':Heap} {tk:Nat} (Rl:Rel C B f ((I,oI)::rs) ρ σ g s) (hl:f.env.locals≠I) (hn:∀ p∈rs,p.1≠I) (hk:∀ b o,b≠I→s.heap.get? b=some o→h'.get? b=some o):Rel C B f rs ρ σ g { s with heap:=h',toks:=tk }:=by
 have R4':=Rl.drop hl
 refine exa ?_ R4'.loc;rintro m0 F0 l0
 have nI:=Rl.news (I,oI) (a0l (.head _))
 have N':News f.h₀ f.L h' (g.led rs):=fun p hp=>⟨hk _ _ (Rl.apart hn p hp) (R4'.news p hp).1,(R4'.news p hp).2⟩
 exact ⟨⟨m0,⟨F0.ns.at' fun o e=>hk _ _ nI.2.1.symm e,fun b o e=>hk b o (fun e2=>by rw [e2,nI.2.2] at e;exact nNS e) (F0.keep b o e),F0.above⟩,LocD.move (Ext.refl _) R4'.news N' l0⟩,N',R4'.lenA,R4'.lenO,R4'.nodup,R4'.own,R4'.rsF,R4'.rsA,R4'.gens,R4'.os⟩
noncomputable abbrev RelX {X:Type} (C:Cx) (B:Buf) (f:Fm) (J:X→G→Prop) (rsOf:X→List (Addr×Obj)) (ρ:Loc) (σ:St) (g:G) (s:Shared):Prop:=∃ x,J x g∧Rel C B f (rsOf x) ρ σ g s
structure QSX {X:Type} (C:Cx) (B:Buf) (f:Fm) (J:X→G→Prop) (rsOf:X→List (Addr×Obj)) (g:G) (K:KS R) (r:R) (Q:Flow→Shared→Prop):Prop where
 next:∀ ρ' σ' g' s',K.next ρ' σ'=some r→RelX C B f J rsOf ρ' σ' g' s'→Ext g g'→Q .next s'
 ret:∀ ρ' v u σ' g' s',K.ret v σ'=some r→RelX C B f J rsOf ρ' σ' g' s'→Ext g g'→VRep C B g' v u→Q (.ret u) s'
 cont:∀ ρ' σ' g' s',K.cont ρ' σ'=some r→RelX C B f J rsOf ρ' σ' g' s'→Ext g g'→Q .cont s'
 brk:∀ ρ' σ' g' s',K.brk ρ' σ'=some r→RelX C B f J rsOf ρ' σ' g' s'→Ext g g'→Q .brk s'
section
variable {X:Type} {J:X→G→Prop} {rsOf:X→List (Addr×Obj)}
theorem QSX.ext {g':G} {K:KS R} {Q:Flow→Shared→Prop} (q:QSX C B f J rsOf g K r Q) (x:Ext g g'):QSX C B f J rsOf g' K r Q :=
 ⟨fun z0 z0 z0 z0 a b c=>q.next _ _ _ _ a b (x.trans c),fun z0 z0 z0 z0 z0 z0 a b c d=>q.ret _ _ _ _ _ _ a b (x.trans c) d,fun z0 z0 z0 z0 a b c=>q.cont _ _ _ _ a b (x.trans c),fun z0 z0 z0 z0 a b c=>q.brk _ _ _ _ a b (x.trans c)⟩
theorem QSX.plain {x:X} (hJ:∀ g',Ext g g'→J x g') {K:KS R} {Q:Flow→Shared→Prop} (q:QSX C B f J rsOf g K r Q):QS C B f (rsOf x) g K r Q :=
 ⟨fun z0 z0 z0 z0 a b c=>q.next _ _ _ _ a ⟨x,hJ _ c,b⟩ c,fun z0 z0 z0 z0 z0 z0 a b c d=>q.ret _ _ _ _ _ _ a ⟨x,hJ _ c,b⟩ c d,fun z0 z0 z0 z0 a b c=>q.cont _ _ _ _ a ⟨x,hJ _ c,b⟩ c,fun z0 z0 z0 z0 a b c=>q.brk _ _ _ _ a ⟨x,hJ _ c,b⟩ c⟩
inductive ForAt (C:Cx) (B:Buf) (f:Fm) (J:X→G→Prop) (rsOf:X→List (Addr×Obj)) (I:Addr) (g0:G) (t:Expr) (go:List Stmt→Loc→St→KS R→Option R) (body:List Stmt) (ds:List D) (K:KS R) (r:R) (St':Nat→Heap→Prop) (m:Nat) (s:Shared):Prop
 | mk (i:Nat) (ρ:Loc) (σ:St) (g:G) (oI:Obj) (x:X):m+i=ds.length→a1v f.sc t go body (ds.drop i) ρ σ K=some r→J x g→Rel C B f ((I,oI)::rsOf x) ρ σ g s→Ext g0 g→St' i s.heap→ForAt C B f J rsOf I g0 t go body ds K r St' m s
theorem drop_at {ds:List D} {i:Nat} {d:D} (hd:ds[i]?=some d):ds.drop i=d::ds.drop (i+1):=by
 refine xE ?_ (aW.mp hd);rintro hlt e
 rw [List.drop_eq_getElem_cons hlt,e]
theorem for_any (S:Snd C ih n) {t it:Expr} {go:List Stmt→Loc→St→KS R→Option R} {body:List Stmt} {pos:Pos} {K:KS R} {Q:Flow→Shared→Prop} (hs:a2a it=false) (h:(ih.e f.sc it ρ σ fun v σ=>toD v σ fun v σ=>itemsOf v fun xs=>a1v f.sc t go body xs ρ σ K)=some r) (ok:FmOk C f) (el:f.env.locals=f.L) (rm:Room f n) {x0:X} (hJ:∀ x g g',J x g→Ext g g'→J x g') (j0:J x0 g) (Rl:Rel C B f (rsOf x0) ρ σ g s) (q:QSX C B f J rsOf g K r Q)
  (hgo:∀ {I:Addr} {oI:Obj} {ρ:Loc} {σ:St} {g:G} {s:Shared} {K:KS R} {Q:Flow→Shared→Prop} {E:Value→Shared→Prop} {x:X},(∀ y,∀ p∈rsOf y,p.1≠I)→go body ρ σ K=some r→J x g→Rel C B f ((I,oI)::rsOf x) ρ σ g s→QSX C B f J (fun x=>(I,oI)::rsOf x) g K r Q→wpAny C.M f.A (execs body f.env) Q E s)
  (hfst:∀ x y,(rsOf x).map (·.1)=(rsOf y).map (·.1)):wpAny C.M f.A (exec (.For t it body [] pos) f.env) Q E s:=by
 refine wpAny_For (S.e h ok rm Rl fun v σ1 g1 s1 val h1 R1 X1 hv => ?_) (hs:=forSet hs f.env)
 induction to_D h1 ok R1 hv with | mk d σ2 g2 h2 R2 X2 _ _ dr =>
 refine b0v h2 ok R2 dr fun ds o fp P St h3 W st ho => ?_
 have q:=q.ext (X1.trans X2)
 have j2:=hJ _ _ _ j0 (X1.trans X2)
 have R3:Rel C B f ((s1.heap.objs.size,o)::rsOf x0) ρ σ2 g2 { s1 with heap:=s1.heap.push o }:=R2.push (t:=s1.toks) (fun b o' e=>Heap.get?_push_of_some _ e) (cQ _) ho
 have hn:∀ x,∀ p∈rsOf x,p.1≠s1.heap.objs.size:=fun x p hp=>by
  have:p.1∈(rsOf x0).map (·.1):=hfst x x0▸List.mem_map_of_mem hp
  refine exa ?_ (bT.mp this);rintro p' hp' e
  exact e▸cX (R2.lt (a0l hp'))
 have hl:f.env.locals≠s1.heap.objs.size:=cX R2.locLt
 generalize s1.heap.objs.size=I at *
 refine codeAny_forLoop_any (ForAt C B f J rsOf I g2 t go body ds K r St) ?_ ds.length (.mk 0 ρ σ2 g2 o x0 rfl h3 j2 R3 (Ext.refl _) st)
 intro m s4 h4
 induction h4 with | mk i ρ4 σ4 g4 oI x4 e4 h4 j4 R4 X4 st4 =>
 induction m using cK with
 | zero =>
  have e:i=ds.length:=(Nat.zero_add i).symm.trans e4
  subst e
  rw [List.drop_length] at h4
  exact W.walks.done s4 _ _ st4 fun h' tk hk=>wpAny_pure (q.next _ _ _ _ h4 ⟨x4,j4,R4.done hl (hn x4) fun b o hb e=>hk b o (fun e=>hb (bV.mp e)) e⟩ X4)
 | succ m =>
  have hlt:i < ds.length:=by lia
  refine W.walks.item i s4 _ _ hlt st4 fun v h' tk hP st5 hk => ?_
  refine exa ?_ (W.item i v hlt hP);rintro d hd dr
  rw [drop_at hd] at h4
  refine xE ?_ (W.at_ _ _ st5);rintro o5 ho5
  have R5:Rel C B f ((I,o5)::rsOf x4) ρ4 σ4 g4 { s4 with heap:=h',toks:=tk }:=R4.turnTop hl (hn x4) (fun b o hb e=>hk b o (fun e=>hb (bV.mp e)) e) ho5
  refine W.go _ _ v t (b2p h4) { s4 with heap:=h',toks:=tk } _ _ st5 hP ?_
  refine b2q ok.handled h4 ok R5 (dr.mono X4.fz) fun ρ6 σ6 g6 rs6 s6 h6 R6 X6 T6 z0 => ?_
  have e6:=T6.fn (by rw [el];exact R5.offL)
  subst e6
  have q:=q.ext (X4.trans X6)
  have st6:St (i+1) s6.heap:=W.keep (by rw [R5.get (a0l (.head _)),R6.get (a0l (.head _))]) (fun b o hk z0=>R6.kn ok (hk.mono (X4.trans X6).fz)) (fun b o hk=>R5.kn ok (hk.mono X4.fz)) st5
  have again:∀ ρ7 σ7 g7 s7,a1v f.sc t go body (ds.drop (i+1)) ρ7 σ7 K=some r→RelX C B f J (fun x=>(I,o5)::rsOf x) ρ7 σ7 g7 s7→Ext g6 g7→∃ m',m' < m+1∧ForAt C B f J rsOf I g2 t go body ds K r St m' s7:=fun ρ7 σ7 g7 s7 h7 ⟨x7,j7,R7⟩ X7 =>
   ⟨m,cV _,.mk (i+1) ρ7 σ7 g7 o5 x7 (by lia) h7 j7 R7 (X4.trans (X6.trans X7)) (W.keep (by rw [R6.get (a0l (.head _)),R7.get (a0l (.head _))]) (fun b o hk z0=>R7.kn ok (hk.mono (X4.trans (X6.trans X7)).fz)) (fun b o hk=>R6.kn ok (hk.mono (X4.trans X6).fz)) st6)⟩
  exact hgo hn h6 (hJ _ _ _ j4 X6) R6 ⟨again,fun ρ7 v7 u7 σ7 g7 s7 h7 ⟨x7,j7,R7⟩ X7 hv7=>q.ret _ _ _ _ _ _ h7 ⟨x7,j7,R7.drop hl⟩ X7 hv7,again,fun ρ7 σ7 g7 s7 h7 R7 X7=>no h7⟩
end
theorem QS.any {K:KS R} {Q:Flow→Shared→Prop} (q:QS C B f rs g K r Q):QSX C B f (fun (_:Unit) _=>True) (fun z0=>rs) g K r Q :=
 ⟨fun _ _ _ _ a ⟨_,_,b⟩ c=>q.next _ _ _ _ a b c,fun _ _ _ _ _ _ a ⟨_,_,b⟩ c d=>q.ret _ _ _ _ _ _ a b c d,fun _ _ _ _ a ⟨_,_,b⟩ c=>q.cont _ _ _ _ a b c,fun _ _ _ _ a ⟨_,_,b⟩ c=>q.brk _ _ _ _ a b c⟩
theorem for_snd (S:Snd C ih n) {t it:Expr} {body:List Stmt} {pos:Pos} {K:KS R} {Q:Flow→Shared→Prop} (h:sFor ih f.sc t it body ρ σ K=some r) (ok:FmOk C f) (el:f.env.locals=f.L) (rm:Room f n) (Rl:Rel C B f rs ρ σ g s) (q:QS C B f rs g K r Q) :
  wpAny C.M f.A (exec (.For t it body [] pos) f.env) Q E s :=
 for_any (x0:=()) S (a7u h) (a4d h) ok el rm (fun z0 z0 z0 h z0=>h) trivial Rl q.any (fun z0 h z0 R q=>a2p S h ok el rm R (q.plain (x:=()) fun z0 z0=>trivial)) fun z0 z0=>rfl
end
end Mine
end
section
namespace Mine
open PySem PySem.W PySem.Spec PySem.Calls PyProof.Rows PySem.SeqAt
structure Sim (X:List Addr) (base rs:List (Addr×Obj)):Prop where
 keys:rs.map (·.1)=base.map (·.1)
 keep:∀ p∈base,p.1∉X→p∈rs
theorem Sim.refl (X:List Addr) (a:List (Addr×Obj)):Sim X a a:=⟨rfl,fun z0 h z0=>h⟩
theorem Sim.trans {X:List Addr} {a b c:List (Addr×Obj)} (x:Sim X a b) (y:Sim X b c):Sim X a c:=⟨y.keys.trans x.keys,fun p h n=>y.keep p (x.keep p h n) n⟩
theorem Sim.mono {X Y:List Addr} {a b:List (Addr×Obj)} (x:Sim X a b) (h:∀ z∈X,z∈Y):Sim Y a b:=⟨x.keys,fun p hp n=>x.keep p hp fun e=>n (h _ e)⟩
theorem Sim.upd {X:List Addr} {I:Addr} {o:Obj} {a:List (Addr×Obj)} (h:I∈X):Sim X a (Mine.upd I o a):=by
 refine ⟨?_,fun p hp n=>bT.mpr ⟨p,hp,if_neg fun e:p.1=I=>n (e▸h)⟩⟩
 unfold Mine.upd
 rw [bL]
 apply bJ
 intro p _
 simp only [Function.comp]
 split <;> rfl
theorem Sim.rsTo {X:List Addr} {L:Addr} {a b:List (Addr×Obj)} (h:RsTo L a b) (hL:L∈X):Sim X a b:=by
 rcases h with rfl | z1_
 ·exact .refl _ _
 ·revert z1_;refine xE ?_;rintro o rfl
  exact .upd hL
theorem Sim.ne {X:List Addr} {I:Addr} {a b:List (Addr×Obj)} (x:Sim X a b) (h:∀ p∈a,p.1≠I):∀ p∈b,p.1≠I:=by
 intro p hp e
 have:p.1∈b.map (·.1):=bT.mpr ⟨p,hp,rfl⟩
 rw [x.keys] at this
 refine exa ?_ (bT.mp this);rintro q hq e2
 exact h q hq (e2.trans e)
theorem Sim.at_ {X:List Addr} {a b:List (Addr×Obj)} (x:Sim X a b) {p:Addr×Obj} (h:p∈a):∃ o,(p.1,o)∈b:=by
 have:p.1∈a.map (·.1):=bT.mpr ⟨p,h,rfl⟩
 rw [← x.keys] at this
 refine exa ?_ (bT.mp this);rintro ⟨q,o⟩ hq e
 exact ⟨o,by dsimp only at e;rw [← e];exact hq⟩
theorem Sim.cons_inv {X:List Addr} {I:Addr} {o:Obj} {a b:List (Addr×Obj)} (x:Sim X ((I,o)::a) b) (hn:∀ p∈a,p.1≠I) (hI:I∉X):∃ b',b=(I,o)::b'∧Sim X a b':=by
 induction b using aK with
 | nil=>have:=x.keys;cases this
 | cons q b' =>
  have hk:=x.keys
  simp only [bK,aL.injEq] at hk
  have nb:∀ p∈b',p.1≠I:=by
   intro p hp e
   have:p.1∈b'.map (·.1):=bT.mpr ⟨p,hp,rfl⟩
   rw [hk.2] at this
   refine exa ?_ (bT.mp this);rintro q hq e2
   exact hn q hq (e2.trans e)
  have hq:(I,o)=q:=by
   rcases bP.mp (x.keep _ (.head _) hI) with e | e
   ·exact e
   ·exact absurd rfl (nb _ e)
  subst hq
  refine ⟨b',rfl,hk.2,fun p hp n => ?_⟩
  rcases bP.mp (x.keep p (.tail _ hp) n) with e | e
  ·exact absurd (congrArg Prod.fst e) (hn p hp)
  ·exact e
section
variable {C:Cx} {ih:IH R} {n:Nat} {B:Buf} {f:Fm} {rs:List (Addr×Obj)} {ρ:Loc} {σ:St} {g:G} {s:Shared} {E:Value→Shared→Prop}
noncomputable def a5c (ifs:List Expr) (env:Env) (b:Bool):Sem Bool:=forIn ifs b fun c r=>if r=true then do let ok ← PySem.isTrue c env (eval c env);pure (ForInStep.yield ok) else pure (ForInStep.yield r)
theorem a4f (env:Env):∀ l:List Expr,a5c l env false=pure false
 | []=>rfl
 | x::l=>by
  unfold a5c
  rw [aQ,if_neg Bool.false_ne_true,pure_bind]
  exact a4f env l
theorem tests_snd (S:Snd C ih n):∀ {ifs:List Expr} {σ:St} {g:G} {s:Shared} {k:Bool→St→Option R} {Q:Bool→Shared→Prop},a7d ih f.sc ifs ρ σ k=some r→FmOk C f→Room f n→Rel C B f rs ρ σ g s→QB C B f rs ρ g k r Q →
  wpAny C.M f.A (a5c ifs f.env true) Q E s:=by
 intro x_
 induction x_ with
 | nil =>
  intro σ g s k Q h ok rm Rl q
  exact wpAny_tests_nil (q true _ g _ h Rl (Ext.refl _))
 | cons c ifs IH_ =>
  intro σ g s k Q h ok rm Rl q
  unfold a5c
  rw [aQ,if_pos rfl]
  refine wpAny_bind (wpAny_bind (S.t h ok rm Rl fun b σ1 g1 s1 h1 R1 X1=>wpAny_pure ?_))
  induction b with
  | true=>exact IH_ h1 ok rm R1 fun u σ2 g2 s2 h2 R2 X2=>q u σ2 g2 s2 h2 R2 (X1.trans X2)
  | false =>
   show wpAny _ _ (a5c ifs f.env false) _ _ _
   rw [a4f]
   exact wpAny_pure (q false _ g1 _ h1 R1 X1)
theorem comp_loop {M:Model} {A:Around} {c:Code} {p:Pos} {it:Value} {target:Expr} {ifs:List Expr} {emit:Sem Unit} {env:Env} {Rr:Result→Shared→Prop} (hq:c.quiet=true) (hu:A.under c=A)
  (hd:M.den c=(do
   standAt p
   match ← pyNext it with
   | none=>pure (.done .next)
   | some v =>
    letOwnedTupleGo target it v
    assign target env v
    let mut ok:=true
    for c in ifs do
     if ok then ok ← PySem.isTrue c env (eval c env)
    if ok then emit
    again c:Sem Fin).onRaise (fun x=>do noteFrame x env;theTreesLotGoes x))
  (I:Nat→Shared→Prop)
  (turn:∀ n s E,I n s→wpAny M A (pyNext it) (fun r s₁=>match r with
   | none=>Rr (.ok .next) s₁
   | some v=>wpAny M A (letOwnedTupleGo target it v) (fun z0 s₁'=>wpAny M A (assign target env v) (fun z0 s₂ =>
     wpAny M A (forIn ifs true fun c r=>if r=true then do let ok ← PySem.isTrue c env (eval c env);pure (ForInStep.yield ok) else pure (ForInStep.yield r)) (fun ok s₃ =>
      if ok=true then wpAny M A emit (fun z0 s₅=>∃ m,m < n∧I m s₅) E s₃ else ∃ m,m < n∧I m s₃) E s₂) E s₁') E s₁) E s)
  (n:Nat) (h:I n s):codeAny M A c Rr s:=by
 refine codeAny_loop hq I (fun n s hI => ?_) n h
 rw [hu,hd]
 refine wpAny_noted ?_
 refine wpAny_bind (wpAny_standAt (wpAny_bind (wpAny_mono (turn n s _ hI) (fun r s₁ h₁ => ?_) fun z0 z0 h'=>h')))
 induction r with
 | none=>exact wpAny_pure h₁
 | some v =>
  refine wpAny_bind (wpAny_mono h₁ (fun z0 s₁' h₁' => ?_) fun z0 z0 h'=>h')
  refine wpAny_bind (wpAny_mono h₁' (fun z0 s₂ h₂=>wpAny_bind (wpAny_mono h₂ (fun ok s₃ h₃ => ?_) fun z0 z0 h'=>h')) fun z0 z0 h'=>h')
  induction ok with
  | false=>exact wpAny_pure ⟨rfl,h₃⟩
  | true=>exact wpAny_bind (wpAny_mono h₃ (fun z0 s₅ h₅=>wpAny_pure ⟨rfl,h₅⟩) fun z0 z0 h'=>h')
noncomputable abbrev AccAt {α:Type} (ARep:α→Obj→G→Prop) (D:Addr) (acc:α) (rs:List (Addr×Obj)) (g:G):Prop:=∃ o,(D,o)∈rs∧ARep acc o g
noncomputable abbrev BodyOk {α:Type} (C:Cx) (B:Buf) (f:Fm) (ARep:α→Obj→G→Prop) (D:Addr) (g0:G) (body:Loc→St→α→(α→St→Option R)→Option R) (emit:Sem Unit) (r:R):Prop :=
 ∀ (ρ:Loc) (σ:St) (g:G) (rs:List (Addr×Obj)) (acc:α) (k:α→St→Option R) (s:Shared) (Q:Unit→Shared→Prop) (E:Value→Shared→Prop),body ρ σ acc k=some r→Rel C B f rs ρ σ g s→Ext g0 g→AccAt ARep D acc rs g →
  (∀ acc' σ' g' rs' s',k acc' σ'=some r→Rel C B f rs' ρ σ' g' s'→Ext g g'→Sim [f.env.locals,D] rs rs'→AccAt ARep D acc' rs' g'→Q () s')→wpAny C.M f.A emit Q E s
theorem not_two {a b I:Addr} (ha:a≠I) (hb:I≠b):I∉[a,b]:=fun e=>by
 rcases bP.mp e with e | e
 ·exact ha e.symm
 ·exact hb (bV.mp e)
inductive CompAt {α:Type} (C:Cx) (ih:IH R) (B:Buf) (f:Fm) (rs:List (Addr×Obj)) (ρ:Loc) (g0:G) (ARep:α→Obj→G→Prop) (D I:Addr) (t:Expr) (ifs:List Expr) (body:Loc→St→α→(α→St→Option R)→Option R) (ds:List Mine.D) (k:α→St→Option R) (r:R) (St':Nat→Heap→Prop) (m:Nat) (s:Shared):Prop
 | mk (i:Nat) (acc:α) (σ:St) (g:G) (oI:Obj) (rs':List (Addr×Obj)):m+i=ds.length→a2l ih f.sc t ifs body (ds.drop i) ρ σ acc k=some r→Rel C B f ((I,oI)::rs') ρ σ g s→Ext g0 g→Sim [f.env.locals,D] rs rs'→AccAt ARep D acc rs' g→St' i s.heap→CompAt C ih B f rs ρ g0 ARep D I t ifs body ds k r St' m s
theorem a9t {α:Type} {ARep:α→Obj→G→Prop} (hmono:∀ a o g g',Ext g g'→ARep a o g→ARep a o g') (S:Snd C ih n) {t:Expr} {ifs:List Expr} {body:Loc→St→α→(α→St→Option R)→Option R} {emit:Sem Unit} {D I:Addr} {c:Code} {p:Pos}
  {ds:List Mine.D} {fp:List Addr} {P:Nat→Value→Prop} {St':Nat→Heap→Prop} {Rr:Result→Shared→Prop} {acc:α} {k:α→St→Option R} {oI:Obj}
  (hq:c.quiet=true) (hu:f.A.under c=f.A)
  (hd:C.M.den c=(do
   standAt p
   match ← pyNext (.ref I) with
   | none=>pure (.done .next)
   | some v =>
    letOwnedTupleGo t (.ref I) v
    assign t f.env v
    let mut ok:=true
    for c in ifs do
     if ok then ok ← PySem.isTrue c f.env (eval c f.env)
    if ok then emit
    again c:Sem Fin).onRaise (fun x=>do noteFrame x f.env;theTreesLotGoes x))
  (ok:FmOk C f) (rm:Room f n) (W:Src C B g.fz f.A I ds fp P St') (hID:I≠D) (hIl:f.env.locals≠I) (hDl:D≠f.env.locals) (hn:∀ p∈rs,p.1≠I)
  (hb:BodyOk C B f ARep D g body emit r)
  (h:a2l ih f.sc t ifs body ds ρ σ acc k=some r) (Rl:Rel C B f ((I,oI)::rs) ρ σ g s) (ha:AccAt ARep D acc rs g) (st:St' 0 s.heap)
  (q:∀ acc' σ' g' rs' s',k acc' σ'=some r→Rel C B f rs' ρ σ' g' s'→Ext g g'→Sim [f.env.locals,D] rs rs'→AccAt ARep D acc' rs' g'→Rr (.ok .next) s'):codeAny C.M f.A c Rr s:=by
 have hIX:I∉[f.env.locals,D]:=not_two hIl hID
 refine comp_loop hq hu hd (CompAt C ih B f rs ρ g ARep D I t ifs body ds k r St') ?_ ds.length (.mk 0 acc σ g oI rs rfl h Rl (Ext.refl _) (.refl _ _) ha st)
 intro m s4 E' h4
 induction h4 with | mk i acc4 σ4 g4 oI4 rs4 e4 h4 R4 X4 M4 a4 st4 =>
 have hn4:=M4.ne hn
 induction m using cK with
 | zero =>
  have e:i=ds.length:=(Nat.zero_add i).symm.trans e4
  subst e
  rw [List.drop_length] at h4
  exact W.walks.done s4 _ _ st4 fun h' tk hk=>q _ _ _ _ _ h4 (R4.done hIl hn4 fun b o hb e=>hk b o (fun e=>hb (bV.mp e)) e) X4 M4 a4
 | succ m =>
  have hlt:i < ds.length:=by lia
  refine W.walks.item i s4 _ _ hlt st4 fun v h' tk hP st5 hk => ?_
  refine exa ?_ (W.item i v hlt hP);rintro d hd' dr
  rw [drop_at hd'] at h4
  have hf:=a0b h4
  have h4:=a0c h4
  refine xE ?_ (W.at_ _ _ st5);rintro o5 ho5
  have R5:Rel C B f ((I,o5)::rs4) ρ σ4 g4 { s4 with heap:=h',toks:=tk }:=R4.turnTop hIl hn4 (fun b o hb e=>hk b o (fun e=>hb (bV.mp e)) e) ho5
  refine W.go _ _ v t (b2p h4) { s4 with heap:=h',toks:=tk } _ _ st5 hP ?_
  refine b2q ok.handled h4 ok R5 (dr.mono X4.fz) fun ρ6 σ6 g6 rs6 s6 h6 R6 X6 T6 K6 => ?_
  have K6:=K6 hf
  refine exa ?_ ((Sim.rsTo T6 (X:=[f.env.locals]) (.head _)).cons_inv hn4 (fun e=>hIl (bV.mp e).symm));rintro rs6' e6 M6
  subst e6
  have a6:AccAt ARep D acc4 rs6' g6:=by
   revert a4;refine exa ?_;rintro oD hD ar
   exact ⟨oD,M6.keep _ hD (fun e=>hDl (bV.mp e)),hmono _ _ _ _ X6 ar⟩
  have M6':Sim [f.env.locals,D] rs4 rs6':=M6.mono (fun z hz=>bV.mp hz ▸ .head _)
  have hn6:=M6'.ne hn4
  have keep:∀ {ρ7 σ7 g7 s7 rs7},Rel C B f ((I,o5)::rs7) ρ7 σ7 g7 s7→Ext g6 g7→St' (i+1) s7.heap:=fun R7 X7 =>
   W.keep (by rw [R5.get (a0l (.head _)),R7.get (a0l (.head _))]) (fun b o hk z0=>R7.kn ok (hk.mono (X4.trans (X6.trans X7)).fz)) (fun b o hk=>R5.kn ok (hk.mono X4.fz)) st5
  have e5:m+(i+1)=ds.length:=by lia
  refine tests_snd S h6 ok rm R6 fun b σ7 g7 s7 h7 R7 X7 => ?_
  have a7:AccAt ARep D acc4 rs6' g7:=by
   revert a6;refine exa ?_;rintro oD hD ar
   exact ⟨oD,hD,hmono _ _ _ _ X7 ar⟩
  induction b with
  | false =>
   rw [if_neg Bool.false_ne_true]
   exact ⟨m,cV _,.mk (i+1) acc4 σ7 g7 o5 rs6' e5 h7 (R7.sub K6) (X4.trans (X6.trans X7)) (M4.trans M6') a7 (keep R7 X7)⟩
  | true =>
   rw [if_pos rfl]
   refine hb ρ6 σ7 g7 ((I,o5)::rs6') acc4 _ s7 _ _ h7 R7 (X4.trans (X6.trans X7)) ?_ fun acc8 σ8 g8 rs8 s8 h8 R8 X8 M8 a8 => ?_
   ·revert a7;refine exa ?_;rintro oD hD ar
    exact ⟨oD,.tail _ hD,ar⟩
   ·refine exa ?_ (M8.cons_inv hn6 hIX);rintro rs8' e8 M8'
    subst e8
    refine ⟨m,cV _,.mk (i+1) acc8 σ8 g8 o5 rs8' e5 h8 (R8.sub K6) (X4.trans (X6.trans (X7.trans X8))) (M4.trans (M6'.trans M8')) ?_ (keep R8 (X7.trans X8))⟩
    revert a8;refine exa ?_;rintro oD hD ar
    rcases bP.mp hD with e | hD
    ·exact absurd (congrArg Prod.fst e).symm hID
    ·exact ⟨oD,hD,ar⟩
end
end Mine
end
section
namespace Mine
open PySem PySem.W PySem.Spec PySem.Calls PyProof.Rows PySem.SeqAt
section
variable {C:Cx} {ih:IH R} {n:Nat} {B:Buf} {f:Fm} {rs:List (Addr×Obj)} {ρ:Loc} {σ:St} {g:G} {s:Shared} {E:Value→Shared→Prop}
noncomputable abbrev inC (f:Fm) (env1:Env) (sc2:Scope) (m:Str→Option Value):Fm:={ f with env:=env1,sc:=sc2,mL:=m }
theorem Rel.enterC {rs1:List (Addr×Obj)} {env1:Env} {sc2:Scope} {ρ1:Loc} {oC:Obj} {mC:Str→Option Value} (R0:Rel C B f rs ρ σ g s) (R1:Rel C B f rs1 ρ σ g s) (hm:(env1.locals,oC)∈rs1) (hns:s.heap.Ns env1.locals mC) (lr:LRep C B env1 ρ1 g mC) :
  ∃ m,LocD C B f rs ρ g s.heap m∧Rel C B (inC f env1 sc2 m) rs1 ρ1 σ g s:=by
 refine exa ?_ R0.loc;rintro m F l
 exact ⟨m,l,⟨m,F,.inr ⟨rfl,oC,mC,hm,hns,lr⟩⟩,R1.news,R1.lenA,R1.lenO,R1.nodup,R1.own,R1.rsF,R1.rsA,R1.gens,R1.os⟩
theorem Rel.leaveC {g':G} {s':Shared} {σ':St} {rs1 rs2:List (Addr×Obj)} {env1:Env} {sc2:Scope} {ρ1:Loc} {m:Str→Option Value} {D:Addr} {oD:Obj} (R0:Rel C B f rs ρ σ g s) (l:LocD C B f rs ρ g s.heap m) (R1:Rel C B (inC f env1 sc2 m) rs1 ρ1 σ' g' s')
  (hL:env1.locals≠f.L) (x:Ext g g') (sub:∀ p∈rs,p∈rs2) (sub2:∀ p∈rs2,p∈rs1) (hD:(D,oD)∈rs1) (nD:∀ p∈rs2,p.1≠D) :
  Rel C B f rs2 ρ σ' ⟨g'.as,g'.os,(D,oD)::g'.fz⟩ s'∧Ext g' ⟨g'.as,g'.os,(D,oD)::g'.fz⟩:=by
 have x':Ext g' ⟨g'.as,g'.os,(D,oD)::g'.fz⟩:=⟨cD _,cH _ _⟩
 refine exa ?_ R1.loc;rintro m1 F1 l1
 have em:m1=m:=by
  rcases l1 with z0_ | z1_
  ·revert z0_;refine aE ?_;rintro e _
   exact absurd e hL
  ·revert z1_;refine aE ?_;rintro e _
   exact e
 subst em
 have N2:News f.h₀ f.L s'.heap (G.led ⟨g'.as,g'.os,(D,oD)::g'.fz⟩ rs2):=by
  intro p hp
  refine R1.news p ?_
  rcases bM.mp hp with hp | hp
  ·exact bN _ hp
  ·rcases bM.mp hp with hp | hp
   ·rcases bP.mp hp with rfl | hp
    ·exact a0l hD
    ·exact a1g hp
   ·exact a0l (sub2 _ hp)
 refine ⟨⟨⟨m1,F1,?_⟩,N2,R1.lenA,R1.lenO,R1.nodup,?_,?_,fun q hq=>R1.rsA q (sub2 _ hq),R1.gens,R1.os⟩,x'⟩
 ·have l2:LocD C B f rs2 ρ g' s'.heap m1:=by
   rcases l with z0_ | z1_
   ·revert z0_;refine aE ?_;rintro e b
    exact .inl ⟨e,b.ext x⟩
   ·obtain ⟨e0,o,mC,a,b,c⟩:=z1_
    refine .inr ⟨e0,o,mC,sub _ a,?_,c.ext x⟩
    have e1:=(R0.news _ (a0l a)).1
    have e2:=(R1.news _ (a0l (sub2 _ (sub _ a)))).1
    refine b.at' fun o' e => ?_
    dsimp only at e1 e2
    rw [e1] at e;cases e;exact e2
  rcases l2 with z0_ | z1_
  ·revert z0_;refine aE ?_;rintro e b
   exact .inl ⟨e,b.ext x'⟩
  ·obtain ⟨e0,o,mC,a,b,c⟩:=z1_
   exact .inr ⟨e0,o,mC,a,b,c.ext x'⟩
 ·intro i o a ob h1 h2 h3
  have q:=R1.own i o a ob h1 h2 h3
  refine ⟨q.1.ext x',fun e p hp => ?_,fun e => .tail _ (q.2.2.1 e),fun y e=>(q.2.2.2.1 y e).mono x'.fz,q.2.2.2.2⟩
  rcases bP.mp hp with rfl | hp
  ·exact (R1.rsA _ hD a (bS.mpr ⟨i,h2⟩)).symm
  ·exact q.2.1 e p hp
 ·intro q hq p hp
  rcases bP.mp hp with rfl | hp
  ·exact (nD q hq).symm
  ·exact R1.rsF q (sub2 _ hq) p hp
theorem a7x {scope:Scope} {env:Env} (h:∀ x∈scope.names,x.2 = .free→∃ c,env.cells.lookup x.1=some c) :
  ∃ cl,closureFor scope env=pure cl∧(∀ x,(x,NameKind.free)∈scope.names→∃ c,cl.lookup x=some c)∧∀ x c,cl.lookup x=some c→env.cells.lookup x=some c:=by
 have key:∀ (l:List (Str×NameKind)) (cs:List (Str×Addr)),(∀ x∈l,x.2 = .free→∃ c,env.cells.lookup x.1=some c)→(∀ x c,cs.lookup x=some c→env.cells.lookup x=some c) →
   ∃ cl,(forIn l cs fun x cs=>match x with | (name,kind)=>if (kind==NameKind.free)=true then do let a ← cellOf env name;pure (ForInStep.yield ((name,a)::cs)) else pure (ForInStep.yield cs):Sem (List (Str×Addr)))=pure cl ∧
    (∀ x,((x,NameKind.free)∈l∨∃ c,cs.lookup x=some c)→∃ c,cl.lookup x=some c)∧∀ x c,cl.lookup x=some c→env.cells.lookup x=some c:=by
  intro l
  induction l with
  | nil =>
   intro cs _ hc
   refine ⟨cs,rfl,?_,hc⟩
   rintro x (hx | hx)
   ·cases hx
   ·exact hx
  | cons y l ih =>
   intro cs hl hc
   obtain ⟨name,kind⟩:=y
   by_cases hk:kind = .free
   ·subst hk
    refine xE ?_ (hl _ (.head _) rfl);rintro a ha
    obtain ⟨cl,e1,e2,e3⟩:=ih ((name,a)::cs) (fun x hx=>hl x (.tail _ hx)) (by
     intro x c hx
     rw [bH] at hx
     cases hxn:x==name with
     | true=>rw [hxn] at hx;cases hx;rw [eq_of_beq hxn];exact ha
     | false=>rw [hxn] at hx;exact hc x c hx)
    refine ⟨cl,?_,?_,e3⟩
    ·rw [← e1,aQ]
     have:cellOf env name=pure a:=by unfold cellOf;dsimp only at ha;rw [ha]
     simp only [this]
     rfl
    ·rintro x (hx | ⟨c,hx⟩)
     ·rcases bP.mp hx with e | hx
      ·cases e;exact e2 _ (.inr ⟨a,by simp⟩)
      ·exact e2 _ (.inl hx)
     ·refine e2 _ (.inr ?_)
      rw [bH]
      induction x==name with
      | true=>exact ⟨a,rfl⟩
      | false=>exact ⟨c,hx⟩
   ·refine exaa ?_ (ih cs (fun x hx=>hl x (.tail _ hx)) hc);rintro cl e1 e2 e3
    refine ⟨cl,?_,?_,e3⟩
    ·rw [← e1,aQ]
     have:(kind==NameKind.free)=false:=by simpa using hk
     simp only [this,Bool.false_eq_true,if_false]
     rfl
    ·rintro x (hx | hx)
     ·rcases bP.mp hx with e | hx
      ·cases e;exact absurd rfl hk
      ·exact e2 _ (.inl hx)
     ·exact e2 _ (.inr hx)
 refine exaa ?_ (key scope.names [] h (by intro x c hx;exact nNS hx));rintro cl e1 e2 e3
 refine ⟨cl,?_,fun x hx=>e2 x (.inl hx),e3⟩
 have:closureFor scope env=((forIn scope.names [] fun x cs=>match x with | (name,kind)=>if (kind==NameKind.free)=true then do let a ← cellOf env name;pure (ForInStep.yield ((name,a)::cs)) else pure (ForInStep.yield cs):Sem (List (Str×Addr))) >>= fun r=>pure r):=by
  unfold closureFor
  rfl
 rw [this,e1];rfl
theorem a4g {sc2:Scope} {env:Env} {x:Str} {k:NameKind} (h:sc2.names.lookup x=some k):(relabel sc2 env).names.lookup x=some (if (k == .free&&env.scope.kind == .function&&env.kindOf x==some .cell) then .cell else k):=by
 unfold relabel
 dsimp only
 generalize sc2.names=l at h
 induction l with
 | nil=>exact nNS h
 | cons y l ih =>
  obtain ⟨a,kd⟩:=y
  show List.lookup x ((if (kd==NameKind.free&&env.scope.kind == .function&&env.kindOf a==some .cell)=true then (a,NameKind.cell) else (a,kd))::_)=_
  rw [bH] at h
  cases hx:x==a with
  | true =>
   rw [hx] at h;cases h
   have:=eq_of_beq hx;subst this
   by_cases hc:(k==NameKind.free&&env.scope.kind == .function&&env.kindOf x==some .cell)=true
   ·rw [if_pos hc,if_pos hc];simp [bH]
   ·rw [if_neg hc,if_neg hc];simp [bH]
  | false =>
   rw [hx] at h
   by_cases hc:(kd==NameKind.free&&env.scope.kind == .function&&env.kindOf a==some .cell)=true
   ·rw [if_pos hc,bH,hx];exact ih h
   ·rw [if_neg hc,bH,hx];exact ih h
structure CompOk (sc sc2:Scope) (ρ:Loc):Prop where
 kind:sc2.kind = .function
 names:namesOk sc2=true
 loc:∀ x∈sc2.names,x.2 = .local→sc2.names.lookup x.1=some .local
 cell:∀ x∈sc2.names,x.2 ≠ .cell
 free:∀ x∈sc2.names,x.2 = .free→sc2.names.lookup x.1=some .free∧(∃ i,ρ.lookup x.1=some (.r i))∧(sc.names.lookup x.1=some .cell∨sc.names.lookup x.1=some .free)
theorem a7y {sc sc2:Scope} {ρ:Loc} (h:a9b sc sc2 ρ=true):CompOk sc sc2 ρ:=by
 unfold a9b at h
 refine aE ?_ (bool_and h);rintro h1 h2
 have h2:=aF.mp h2
 refine ⟨?_,?_,?_,?_,?_⟩
 ·cases hk:sc2.kind <;> rw [hk] at h1 <;> first | rfl | cases h1
 ·unfold namesOk
  refine aF.mpr fun x hx => ?_
  have:=(bool_and (h2 x hx)).1
  rw [a2m,a2m] at this
  revert this
  generalize (x.1==oS "__debug__")=a
  generalize (x.1==oS "__classdict__")=b
  cases a <;> cases b <;> decide
 ·rintro q1_ hx hk
  obtain ⟨x,k⟩:=q1_
  have:=(bool_and (h2 _ hx)).2
  dsimp only at hk this;subst hk
  dsimp only at this
  rw [a3o] at this
  revert this
  cases hl:sc2.names.lookup x with
  | none=>intro this;exact nFT this
  | some k=>cases k <;> intro this <;> first | rfl | cases this
 ·rintro q1_ hx hk
  obtain ⟨x,k⟩:=q1_
  have:=(bool_and (h2 _ hx)).2
  dsimp only at hk this;subst hk
  exact nFT this
 ·rintro q1_ hx hk
  obtain ⟨x,k⟩:=q1_
  have:=(bool_and (h2 _ hx)).2
  dsimp only at hk this;subst hk
  dsimp only at this
  refine aE ?_ (bool_and this);rintro t1 t3
  refine aE ?_ (bool_and t1);rintro t1 t2
  rw [a3o] at t1 t2 t3
  refine ⟨?_,?_,?_⟩
  ·revert t1
   cases hl:sc2.names.lookup x with
   | none=>intro this;exact nFT this
   | some k=>cases k <;> intro this <;> first | rfl | cases this
  ·revert t2
   cases hl:ρ.lookup x with
   | none=>intro this;exact nFT this
   | some v=>cases v <;> intro this <;> first | exact ⟨_,rfl⟩ | cases this
  ·revert t3
   cases hl:sc.names.lookup x with
   | none=>intro this;exact nFT this
   | some k=>cases k <;> intro this <;> first | exact .inl rfl | exact .inr rfl | cases this
theorem a7z {sc2:Scope} {ρ:Loc} {x:Str} {v:V} (h:(a2h sc2 ρ).lookup x=some v):(x,NameKind.free)∈sc2.names∧ρ.lookup x=some v:=by
 have:=lookup_mem h
 unfold a2h at this
 refine exa ?_ (bR.mp this);rintro ⟨y,k⟩ hy e
 cases k <;> first | (cases e;done) | skip
 dsimp only at e
 rw [a3o] at e
 refine exa ?_ (Option.map_eq_some_iff.mp e);rintro u hu e
 cases e
 exact ⟨hy,hu⟩
theorem Rel.lrep (Rl:Rel C B f rs ρ σ g s):∃ m,LRep C B f.env ρ g m:=by
 refine exa ?_ Rl.loc;rintro m F l
 rcases l with z0_ | z1_
 ·revert z0_;refine aE ?_;rintro _ l
  exact ⟨_,l⟩
 ·obtain ⟨_,_,mC,_,_,l⟩:=z1_
  exact ⟨_,l⟩
theorem b2r {sc2:Scope} (ok:FmOk C f) (Rl:Rel C B f rs ρ σ g s) (cok:CompOk f.sc sc2 ρ) {x:Str} (hx:(x,NameKind.free)∈sc2.names):∃ i c,ρ.lookup x=some (.r i)∧g.as[i]?=some c∧f.env.cells.lookup x=some c:=by
 refine eaa ?_ (cok.free _ hx rfl);rintro _ ⟨i,hi⟩ h3
 refine xE ?_ Rl.lrep;rintro m l
 have hk:f.env.kindOf x=some .cell∨f.env.kindOf x=some .free:=by
  rcases h3 with h3 | h3
  ·exact (ok.kinds x _ h3).2.2.1 (.inl rfl)
  ·exact (ok.kinds x _ h3).2.2.1 (.inr rfl)
 refine exa ?_ ((l x _ hi).2 hk i rfl);rintro c h1 h2
 exact ⟨i,c,hi,h1,h2⟩
theorem inC_ok {sc2:Scope} {cl:List (Str×Addr)} {Cad:Addr} {m:Str→Option Value} (ok:FmOk C f) (cok:CompOk f.sc sc2 ρ):FmOk C (inC f (compEnvC sc2 cl Cad f.env) sc2 m):=by
 refine ⟨cok.names,ok.below,ok.inK,ok.top,ok.frames,ok.frame,ok.kind₀,cok.kind,ok.handled,ok.globals,ok.builtins,?_⟩
 intro x k hx
 have hl:=a4g (env:=f.env) hx
 have hm:=lookup_mem hx
 refine ⟨fun e => ?_,fun e => ?_,fun e => ?_,fun e => ?_⟩
 ·subst e;exact hl
 ·subst e;exact hl
 ·rcases e with e | e
  ·exact absurd e (cok.cell _ hm)
  ·subst e
   show (relabel sc2 f.env).names.lookup x=_∨(relabel sc2 f.env).names.lookup x=_
   rw [hl]
   split
   ·exact .inl rfl
   ·exact .inr rfl
 ·exact absurd e (cok.cell _ hm)
theorem inC_lrep {sc2:Scope} {cl:List (Str×Addr)} {Cad:Addr} {mC:Str→Option Value} (ok:FmOk C f) (Rl:Rel C B f rs ρ σ g s) (cok:CompOk f.sc sc2 ρ) (h1:∀ x,(x,NameKind.free)∈sc2.names→∃ c,cl.lookup x=some c) (h2:∀ x c,cl.lookup x=some c→f.env.cells.lookup x=some c) :
  LRep C B (compEnvC sc2 cl Cad f.env) (a2h sc2 ρ) g mC:=by
 intro x v hx
 refine aE ?_ (a7z hx);rintro hm hv
 have hl:=a4g (env:=f.env) (cok.free _ hm rfl).1
 refine ⟨fun hk => ?_,fun hk i e => ?_⟩
 ·exfalso
  have hk:(relabel sc2 f.env).names.lookup x=some .local:=hk
  rw [hl] at hk
  split at hk <;> cases hk
 ·subst e
  refine exxa ?_ (b2r ok Rl cok hm);rintro j c e1;refine aE ?_;rintro e2 e3
  rw [hv] at e1;cases e1
  refine xE ?_ (h1 x hm);rintro c' hc'
  have:=h2 x c' hc'
  rw [e3] at this;cases this
  exact ⟨c,e2,hc'⟩
end
end Mine
end
section
namespace Mine
open PySem PySem.W PySem.Spec PySem.Calls PyProof.Rows PySem.SeqAt
section
variable {C:Cx} {ih:IH R} {n:Nat} {B:Buf} {f:Fm} {rs:List (Addr×Obj)} {ρ:Loc} {σ:St} {g:G} {s:Shared} {E:Value→Shared→Prop}
theorem Rel.sel {rs':List (Addr×Obj)} (Rl:Rel C B f rs ρ σ g s) (hs:∀ p∈rs',p∈rs) (hl:∀ o,(f.env.locals,o)∈rs→(f.env.locals,o)∈rs'):Rel C B f rs' ρ σ g s:=by
 refine exa ?_ Rl.loc;rintro m F l
 refine ⟨⟨m,F,?_⟩,?_,Rl.lenA,Rl.lenO,Rl.nodup,Rl.own,fun q hq=>Rl.rsF q (hs _ hq),fun q hq=>Rl.rsA q (hs _ hq),Rl.gens,Rl.os⟩
 ·rcases l with l | z1_
  ·exact .inl l
  ·obtain ⟨e,o,mC,a,b⟩:=z1_
   exact .inr ⟨e,o,mC,hl _ a,b⟩
 ·intro p hp
  rcases bM.mp hp with hp | hp
  ·exact Rl.news p (bN _ hp)
  ·rcases bM.mp hp with hp | hp
   ·exact Rl.news p (a1g hp)
   ·exact Rl.news p (a0l (hs _ hp))
theorem a4l {α:Type} {ARep:α→Obj→G→Prop} (hmono:∀ a o g g',Ext g g'→ARep a o g→ARep a o g') (S:Snd C ih n) {e t it:Expr} {ifs:List Expr} {gs:List Comprehension} {sc2:Scope} {pos:Pos} {newAcc:Sem Value} {acc0:α}
  {body:Loc→St→α→(α→St→Option R)→Option R} {emit:Env→Addr→Sem Unit} {p:Pos} {use:Option (Value→Sem Unit)} {k:α→St→Option R} {Q:Value→Shared→Prop}
  (hcl:clausesOf e=⟨t,it,ifs,0⟩::gs) (hset:a2a it=false) (cok:CompOk f.sc sc2 ρ)
  (h:ih.e f.sc it ρ σ (fun v σ=>toD v σ fun v σ=>itemsOf v fun xs=>a2l ih sc2 t ifs body xs (a2h sc2 ρ) σ acc0 k)=some r) (ok:FmOk C f) (rm:Room f n) (Rl:Rel C B f rs ρ σ g s)
  (hnew:∀ (s:Shared) (Q:Value→Shared→Prop) (E:Value→Shared→Prop),(∀ o,(∀ g,ARep acc0 o g)→(s.heap.push o).get? s.heap.objs.size=some o→Q (.ref s.heap.objs.size) { s with heap:=s.heap.push o })→wpAny C.M f.A newAcc Q E s)
  (hq:∀ I D env,(Code.compLoop e 0 (.ref I) (.ref D) env).quiet=true)
  (hu:∀ I D env,f.A.under (Code.compLoop e 0 (.ref I) (.ref D) env)=f.A)
  (hd:∀ I D env,C.M.den (.compLoop e 0 (.ref I) (.ref D) env)=(do
   standAt p
   match ← pyNext (.ref I) with
   | none=>pure (.done .next)
   | some v =>
    letOwnedTupleGo t (.ref I) v
    assign t env v
    let mut ok:=true
    for c in ifs do
     if ok then ok ← PySem.isTrue c env (eval c env)
    if ok then emit env D
    again (.compLoop e 0 (.ref I) (.ref D) env):Sem Fin).onRaise (fun x=>do noteFrame x env;theTreesLotGoes x))
  (hstart:∀ I D env (Rr:Result→Shared→Prop) s,codeAny C.M f.A (.compLoop e 0 (.ref I) (.ref D) env) Rr s→(∀ (Q:Value→Shared→Prop) E,Q (.ref I) s→wpAny C.M f.A (pyIter (.ref I)) Q E s)→codeAny C.M f.A (.compStart e 0 (.ref I) (.ref D) env) Rr s)
  (hb:∀ (f1:Fm) (D:Addr) (g1:G),FmOk C f1→Room f1 n→f1.sc=sc2→f1.A=f.A→D≠f1.env.locals→BodyOk C B f1 ARep D g1 body (emit f1.env D) r)
  (q:∀ acc σ' g' s' D oD Cad oC m,k acc σ'=some r→Rel C B f ((Cad,oC)::rs) ρ σ' g' s'→Ext g g'→(D,oD)∈g'.fz→ARep acc oD g'→(D==sysModules)=false→s'.heap.Ns Cad m→f.env.locals≠Cad→(∀ p∈rs,p.1≠Cad) →
   compPost C.M f.A E use Q (.ref D) Cad (.ok .next) s') :
  wpAny C.M f.A (comprehension e sc2 f.env pos newAcc false (eval it f.env) use) Q E s:=by
 obtain ⟨cl,hclos,hc1,hc2⟩:=a7x (scope:=sc2) (env:=f.env) (fun x hx hk=>by
  obtain ⟨x,kd⟩:=x
  dsimp only at hk;subst hk
  refine exxa ?_ (b2r ok Rl cok hx);rintro _ c _;refine aE ?_;rintro _ e
  exact ⟨c,e⟩)
 refine wpAny_comprehension_free hcl (forSet hset f.env) hclos cok.kind cok.loc (S.e h ok rm Rl fun v σ1 g1 s1 val h1 R1 X1 hv => ?_)
 induction to_D h1 ok R1 hv with | mk d σ2 g2 h2 R2 X2 _ _ dr =>
 refine b0v h2 ok R2 dr fun ds o fp P St h3 W st ho => ?_
 have R3:Rel C B f ((s1.heap.objs.size,o)::rs) ρ σ2 g2 { s1 with heap:=s1.heap.push o }:=R2.push (t:=s1.toks) (fun b o' e=>Heap.get?_push_of_some _ e) (cQ _) ho
 refine hnew _ _ _ fun oD hD0 hD1 => ?_
 have R4:Rel C B f (((s1.heap.push o).objs.size,oD)::(s1.heap.objs.size,o)::rs) ρ σ2 g2 { s1 with heap:=(s1.heap.push o).push oD }:=R3.push (t:=s1.toks) (fun b o' e=>Heap.get?_push_of_some _ e) (cQ _) hD1
 have low:((s1.heap.push o).objs.size==sysModules)=false:=R3.low ok
 refine wpAny_newFunctionEnv cok.cell (by intro y hy;simp at hy) (fun h' hns hsb => ?_) cok.kind
 show codeAny _ _ (.compStart e 0 (.ref s1.heap.objs.size) (.ref (s1.heap.push o).objs.size) (compEnvC sc2 cl ((s1.heap.push o).push oD).objs.size f.env)) (compPost _ _ _ _ _ _ ((s1.heap.push o).push oD).objs.size) _
 dsimp only at hns hsb ⊢
 have eD:(s1.heap.push o).objs.size=s1.heap.objs.size+1:=Heap.size_push ..
 have eC:((s1.heap.push o).push oD).objs.size=s1.heap.objs.size+2:=by rw [Heap.size_push,eD]
 have hk1:∀ b x,((s1.heap.push o).push oD).get? b=some x→h'.get? b=some x:=fun b x e=>hsb.extBut b x (cX (Heap.lt_size e)) (Heap.get?_push_of_some _ e)
 refine exxx ?_ (id hns);rintro oC esC epC;refine aE ?_;rintro hoC hC'
 have R5:=R4.push (t:=s1.toks+([]:List (Str×Value)).length) hk1 (cQ _) hoC
 have hst:St 0 h':=W.walks.frame _ _ _ st fun b z0 x e=>hk1 b x (Heap.get?_push_of_some _ e)
 generalize hDn:(s1.heap.push o).objs.size=D at *
 generalize hCn:((s1.heap.push o).push oD).objs.size=Cad at *
 generalize hIn:s1.heap.objs.size=I at *
 have lt0:f.env.locals < I:=hIn▸R2.locLt
 have lts:∀ p∈rs,p.1 < I:=fun p hp=>hIn▸R2.lt (a0l hp)
 have nID:I≠D:=by rw [eD];exact cX (cV _)
 have nIC:I≠Cad:=by rw [eC];exact cX (Nat.lt_add_of_pos_right (by decide))
 have nDC:D≠Cad:=by rw [eC,eD];exact cX (cV _)
 have ltD:I < D:=by rw [eD];exact cV _
 have ltC:I < Cad:=by rw [eC];exact Nat.lt_add_of_pos_right (by decide)
 have nlI:f.env.locals≠I:=cX lt0
 have nlD:f.env.locals≠D:=cX (cW lt0 ltD)
 have nlC:f.env.locals≠Cad:=cX (cW lt0 ltC)
 have nrI:∀ p∈rs,p.1≠I:=fun p hp=>cX (lts p hp)
 have nrD:∀ p∈rs,p.1≠D:=fun p hp=>cX (cW (lts p hp) ltD)
 have nrC:∀ p∈rs,p.1≠Cad:=fun p hp=>cX (cW (lts p hp) ltC)
 have R6:Rel C B f ((I,o)::(Cad,oC)::(D,oD)::rs) ρ σ2 g2 _:=R5.sel (fun p hp=>by
  simp only [bP] at hp ⊢
  rcases hp with h | h | h | h <;> simp [h]) (fun x hx=>by
  simp only [bP] at hx ⊢
  rcases hx with h | h | h | h <;> simp [h])
 have R0:Rel C B f rs ρ σ2 g2 _:=R6.sel (fun p hp => .tail _ (.tail _ (.tail _ hp))) (fun x hx=>by
  simp only [bP,Prod.mk.injEq] at hx
  rcases hx with z0_ | z1_ | z2_ | h
  ·revert z0_;refine aE ?_;rintro h _
   exact absurd h nlI
  ·revert z1_;refine aE ?_;rintro h _
   exact absurd h nlC
  ·revert z2_;refine aE ?_;rintro h _
   exact absurd h nlD
  ·exact h)
 refine exa ?_ (R0.enterC (env1:=compEnvC sc2 cl Cad f.env) (sc2:=sc2) (ρ1:=a2h sc2 ρ) R6 (.tail _ (.head _)) hns (inC_lrep ok R0 cok hc1 hc2));rintro m l0 R7
 refine hstart _ _ _ _ _ ?_ (fun Q E hQ=>W.walks.self 0 _ _ _ hst hQ)
 refine a9t (f:=inC f (compEnvC sc2 cl Cad f.env) sc2 m) hmono S (hq I D _) (hu I D _) (hd I D _) (inC_ok ok cok) ⟨rm.depth,rm.units⟩ W nID nIC.symm nDC
  (fun p hp=>by
   rcases bP.mp hp with rfl | hp
   ·exact nIC.symm
   ·rcases bP.mp hp with rfl | hp
    ·exact nID.symm
    ·exact nrI p hp)
  (hb _ D g2 (inC_ok ok cok) ⟨rm.depth,rm.units⟩ rfl rfl nDC) h3 R7 ⟨oD,.tail _ (.head _),hD0 _⟩ hst ?_
 intro acc' σ' g' rs' s' hk R8 X8 M8 ⟨oD',hD',ar⟩
 refine xE ?_ (M8.at_ (p:=(Cad,oC)) (.head _));rintro oC' hC8
 have hrs:∀ p∈rs,p∈rs':=fun p hp=>M8.keep p (.tail _ (.tail _ hp)) (by
  simp only [bP,cB,or_false,not_or]
  exact ⟨nrC p hp,nrD p hp⟩)
 have hnsC:∃ mC,s'.heap.Ns Cad mC:=by
  refine exa ?_ R8.loc;rintro m1 F1 l1
  rcases l1 with z0_ | z1_
  ·revert z0_;refine aE ?_;rintro e _
   exact absurd e (R7.news _ (a0l (.tail _ (.head _)))).2.1
  ·obtain ⟨_,_,mC,_,b,_⟩:=z1_
   exact ⟨mC,b⟩
 revert hnsC;refine xE ?_;rintro mC hnsC
 obtain ⟨R9,X9⟩:=R0.leaveC (rs2:=(Cad,oC')::rs) l0 R8 (R7.news _ (a0l (.tail _ (.head _)))).2.1 X8 (fun p hp => .tail _ hp) (fun p hp=>by
  rcases bP.mp hp with rfl | hp
  ·exact hC8
  ·exact hrs p hp) hD' (fun p hp=>by
  rcases bP.mp hp with rfl | hp
  ·exact nDC.symm
  ·exact nrD p hp)
 exact q _ _ _ _ _ _ _ _ _ hk R9 (X1.trans (X2.trans (X8.trans X9))) (.head _) (hmono _ _ _ _ X9 ar) low hnsC nlC nrC
end
end Mine
end
section
namespace Mine
open PySem PySem.W PySem.Spec PySem.Calls PyProof.Rows PySem.SeqAt
theorem compTurn2 (elt t it t2 it2:Expr) (ifs ifs2:List Expr) (sc2:Scope) (pos:Pos) (I acc:Value) (env:Env) :
 compTurn (.ListComp elt [⟨t,it,ifs,0⟩,⟨t2,it2,ifs2,0⟩] sc2 pos) 0 I acc env=(do
   standAt it.pos
   match ← pyNext I with
   | none=>pure (.done .next)
   | some v =>
    letOwnedTupleGo t I v
    assign t env v
    let mut ok:=true
    for c in ifs do
     if ok then ok ← PySem.isTrue c env (eval c env)
    if ok then
     (eval it2 env >>= fun x=>standAt it2.pos >>= fun z0=>foldedSetIterable it2 env x >>= fun x=>holding [x] (pyIter x) >>= fun i=>runOwn (.compStart (.ListComp elt [⟨t,it,ifs,0⟩,⟨t2,it2,ifs2,0⟩] sc2 pos) 1 i acc env) env >>= fun z0=>pure ())
    again (.compLoop (.ListComp elt [⟨t,it,ifs,0⟩,⟨t2,it2,ifs2,0⟩] sc2 pos) 0 I acc env)):=by
 have e:compTurn (.ListComp elt [⟨t,it,ifs,0⟩,⟨t2,it2,ifs2,0⟩] sc2 pos) 0 I acc env=(do
   standAt it.pos
   match ← pyNext I with
   | none=>pure (.done .next)
   | some v =>
    letOwnedTupleGo t I v
    assign t env v
    let mut ok:=true
    for c in ifs do
     if ok then ok ← PySem.isTrue c env (eval c env)
    if ok then
     let x ← eval it2 env
     standAt it2.pos
     let x ← foldedSetIterable it2 env x
     let _ ← runOwn (.compStart (.ListComp elt [⟨t,it,ifs,0⟩,⟨t2,it2,ifs2,0⟩] sc2 pos) 1 (← holding [x] (pyIter x)) acc env) env
    again (.compLoop (.ListComp elt [⟨t,it,ifs,0⟩,⟨t2,it2,ifs2,0⟩] sc2 pos) 0 I acc env)):=rfl
 rw [e]
 simp only [bind_assoc,pure_bind]
section
variable {C:Cx} {ih:IH R} {n:Nat} {B:Buf} {f:Fm} {rs:List (Addr×Obj)} {ρ:Loc} {σ:St} {g:G} {s:Shared} {E:Value→Shared→Prop}
noncomputable def LAcc (C:Cx) (B:Buf) (acc:List D) (o:Obj) (g:G):Prop:=∃ vs n,o=W.listOf vs.toArray n∧DReps C B g.fz acc vs
theorem LAcc.mono {a:List D} {o:Obj} {g g':G} (x:Ext g g') (h:LAcc C B a o g):LAcc C B a o g':=by
 revert h;refine exxa ?_;rintro vs n e hr;exact ⟨vs,n,e,hr.mono x.fz⟩
noncomputable def DAcc (C:Cx) (B:Buf) (acc:List (D×D)) (o:Obj) (g:G):Prop:=DictRep C B g.fz acc o
theorem DAcc.mono {a:List (D×D)} {o:Obj} {g g':G} (x:Ext g g') (h:DAcc C B a o g):DAcc C B a o g':=DictRep.mono x.fz h
theorem upd_mem {D:Addr} {oD o':Obj} (h:(D,oD)∈rs):(D,o')∈upd D o' rs:=bT.mpr ⟨_,h,if_pos rfl⟩
theorem mem_two (a b:Addr):b∈[a,b] := .tail _ (.head _)
theorem a6e (S:Snd C ih n) {elt:Expr} {D:Addr} {g1:G} (ok:FmOk C f) (rm:Room f n) (hD:D≠f.env.locals) :
  BodyOk C B f (LAcc C B) D g1 (b0e ih f.sc elt) (do let _ ← call (.builtin "list.append") [.ref D,← eval elt f.env]) r:=by
 intro ρ σ g rs acc k s Q E h Rl X0 ⟨oD,hoD,vs0,m0,eo,hr0⟩ q
 refine wpAny_bind (S.e h ok rm Rl fun v σ1 g1 s1 val h1 R1 X1 hv => ?_)
 induction to_D h1 ok R1 hv with | mk d σ2 g2 h2 R2 X2 _ _ dr =>
 subst eo
 have hz':=a1a (a0b h2)
 refine wpAny_bind (append_at (R2.get (a0l hoD)) (fun h' hs ho' => ?_) (by rw [hr0.length] at hz';rw [cG,sizeLine_eq];lia))
 have R3:=R2.chg (t:=s1.toks) hoD hD.symm (fun b o hb e=>(hs.2 b hb).trans e) ho'
 refine wpAny_pure (q _ _ _ _ _ (a0c h2) R3 (X1.trans X2) (.upd (mem_two _ _)) ⟨_,upd_mem hoD,vs0++[val],m0+1,?_,(hr0.mono (X1.trans X2).fz).app (.cons _ _ _ _ dr .nil)⟩)
 simp [W.listOf]
theorem dcElt_body (S:Snd C ih n) {kx vx:Expr} {D:Addr} {g1:G} {p:Pos} (ok:FmOk C f) (rm:Room f n) (hD:D≠f.env.locals) :
  BodyOk C B f (DAcc C B) D g1 (dcElt ih f.sc kx vx) (do
    let kv ← eval kx f.env
    let vv ← holding [kv] (eval vx f.env)
    standAt p
    holding [kv,vv] (dictSet D kv vv)) r:=by
 intro ρ σ g rs acc k s Q E h Rl X0 ⟨oD,hoD,hr⟩ q
 refine wpAny_bind (S.e h ok rm Rl fun v σ1 g1 s1 val h1 R1 X1 hv=>wpAny_bind (wpAny_holding (S.e h1 ok rm R1 fun v2 σ2 g2 s2 val2 h2 R2 X2 hv2 => ?_)))
 induction a0p h2 hv with | mk d hd h2 =>
 induction a7k h2 hd with | mk x t h2 =>
 induction to_D h2 ok R2 hv2 with | mk d σ3 g3 h3 R3 X3 _ _ dr =>
 have X03:=X1.trans (X2.trans X3)
 refine exa ?_ (b2a (DictRep.mono X03.fz hr) (a0k (a0b h3)));rintro kvs hd hk
 have hg:=R3.get (a0l hoD)
 refine wpAny_bind (wpAny_standAt (wpAny_holding (wpAny_dictSet_pairs (strKind_is _ _ _ _) (Heap.dictOf_iff.mpr ⟨_,hg,hd⟩) (fun h' hd2 hs2 => ?_) (by rw [← hk.length];exact a2n (a0e (a0b h3))))))
 refine exa ?_ (Heap.dictOf_iff.mp hd2);rintro ob' ho' hd'
 have hn:(kvs.map (·.1)).Nodup:=by revert hd;refine exxa ?_;rintro _ _ _;refine eaaa ?_;rintro _ _ _ hn;exact hn
 rw [a3e hn] at hd'
 have R4:=R3.chg (t:=s2.toks+1) hoD hD.symm (fun b o hb e=>(hs2.2 b hb).trans e) ho'
 exact q _ _ _ _ _ (a0c h3) R4 X03 (.upd (mem_two _ _)) ⟨_,upd_mem hoD,RDE.strs _ _ (a7l _ _ _) hd' (hk.put dr)⟩
theorem compStart1 {prog:Program} {w:World} {A:Around} {Rr:Result→Shared→Prop} {elt target iter ifs target2 iter2 ifs2 rest scope pos it acc env}
  (h0:codeAny (model prog w) A (.compLoop (.ListComp elt (⟨target,iter,ifs,0⟩::⟨target2,iter2,ifs2,0⟩::rest) scope pos) 1 it acc env) Rr s)
  (h:∀ E,wpAny (model prog w) A (pyIter it) (fun it' s'=>codeAny (model prog w) A (.compLoop (.ListComp elt (⟨target,iter,ifs,0⟩::⟨target2,iter2,ifs2,0⟩::rest) scope pos) 1 it' acc env) Rr s') E s) :
  codeAny (model prog w) A (.compStart (.ListComp elt (⟨target,iter,ifs,0⟩::⟨target2,iter2,ifs2,0⟩::rest) scope pos) 1 it acc env) Rr s:=by
 refine codeAny_of_tree (wpAny_notedAt (wpAny_bind (wpAny_askSetting (wpAny_ite ?_))))
 split
 ·exact wpAny_pure ⟨rfl,h0⟩
 ·exact wpAny_bind (wpAny_rule (wpAny_bind (wpAny_standAt (wpAny_bind (wpAny_mono (h _) (fun it' s' z=>wpAny_pure ⟨rfl,z⟩) fun z0 z0 z=>z)))))
theorem comp2_body (S:Snd C ih n) {elt t it t2 it2:Expr} {ifs ifs2:List Expr} {sc2:Scope} {pos:Pos} {D:Addr} {g1:G} (hset:a2a it2=false) (ok:FmOk C f) (rm:Room f n) (hD:D≠f.env.locals) :
  BodyOk C B f (LAcc C B) D g1 (fun ρ' σ acc k=>ih.e f.sc it2 ρ' σ fun v σ=>toD v σ fun v σ=>itemsOf v fun ys=>a2l ih f.sc t2 ifs2 (b0e ih f.sc elt) ys ρ' σ acc k)
   (eval it2 f.env >>= fun x=>standAt it2.pos >>= fun z0=>foldedSetIterable it2 f.env x >>= fun x=>holding [x] (pyIter x) >>= fun i=>runOwn (.compStart (.ListComp elt [⟨t,it,ifs,0⟩,⟨t2,it2,ifs2,0⟩] sc2 pos) 1 i (.ref D) f.env) f.env >>= fun z0=>pure ()) r:=by
 intro ρ σ g rs acc k s Q E h Rl X0 a0 q
 refine wpAny_bind (S.e h ok rm Rl fun v σ1 g1 s1 val h1 R1 X1 hv=>wpAny_bind (wpAny_standAt (wpAny_bind (wpAny_of_eq (forSet hset f.env val) (wpAny_bind (wpAny_holding ?_))))))
 induction to_D h1 ok R1 hv with | mk d σ2 g2 h2 R2 X2 _ _ dr =>
 refine b0v h2 ok R2 dr fun ds o fp P St h3 W st ho => ?_
 have R3:Rel C B f ((s1.heap.objs.size,o)::rs) ρ σ2 g2 { s1 with heap:=s1.heap.push o }:=R2.push (t:=s1.toks) (fun b o' e=>Heap.get?_push_of_some _ e) (cQ _) ho
 have a3:AccAt (LAcc C B) D acc rs g2:=by
  revert a0;refine exa ?_;rintro oD hD ar
  exact ⟨oD,hD,ar.mono (X1.trans X2)⟩
 have hID:s1.heap.objs.size≠D:=by
  revert a0;refine exa ?_;rintro oD hD _
  exact (cX (R2.lt (a0l hD))).symm
 have hloop:codeAny C.M f.A (.compLoop (.ListComp elt [⟨t,it,ifs,0⟩,⟨t2,it2,ifs2,0⟩] sc2 pos) 1 (.ref s1.heap.objs.size) (.ref D) f.env) (fun r s'=>match r with | .ok _=>Q () s' | .error e=>cameBackBy C.M f.A f.env E e s') { s1 with heap:=s1.heap.push o } :=
  a9t (ARep:=LAcc C B) (fun z0 z0 z0 z0 x h=>LAcc.mono x h) S rfl rfl rfl ok rm W hID (cX R2.locLt) hD (fun p hp=>cX (R2.lt (a0l hp))) (a6e S ok rm hD) h3 R3 a3 st
   (fun acc' σ' g' rs' s' hk R' X' M' a'=>q _ _ _ _ _ hk R' (X1.trans (X2.trans X')) M' a')
 refine wpAny_bind (wpAny_runOwn (codeAny_mono (compStart1 hloop fun E=>W.walks.self 0 _ _ _ st hloop) fun r s' hr => ?_))
 induction r with
 | ok f'=>exact wpAny_pure hr
 | error e=>exact hr
theorem listNew (s:Shared) {A:Around} (Q:Value→Shared→Prop) (E:Value→Shared→Prop) (h:∀ o,(∀ g,LAcc C B [] o g)→(s.heap.push o).get? s.heap.objs.size=some o→Q (.ref s.heap.objs.size) { s with heap:=s.heap.push o }):wpAny C.M A (newList []) Q E s :=
 wpAny_newObj_type (h _ (fun g=>⟨[],0,rfl,.nil⟩) (Heap.get?_push_size _ rfl))
theorem dictNew (s:Shared) {A:Around} (Q:Value→Shared→Prop) (E:Value→Shared→Prop) (h:∀ o,(∀ g,DAcc C B [] o g)→(s.heap.push o).get? s.heap.objs.size=some o→Q (.ref s.heap.objs.size) { s with heap:=s.heap.push o }):wpAny C.M A newDict Q E s :=
 wpAny_newObj_type (h _ (fun g => .empty _ (by
  refine exa ?_ (Heap.dictOf_iff.mp (Heap.DictOf.new (knd:=PySem.intKind C.prog C.w) s.heap));rintro o ho hd
  rw [Heap.get?_push_size _ rfl] at ho;cases ho;exact hd) (by
  refine exa ?_ (Heap.dictOf_iff.mp (Heap.DictOf.new (knd:=PySem.strKind C.prog C.w) s.heap));rintro o ho hd
  rw [Heap.get?_push_size _ rfl] at ho;cases ho;exact hd)) (Heap.get?_push_size _ rfl))
noncomputable abbrev QC (C:Cx) (B:Buf) (f:Fm) (rs:List (Addr×Obj)) (ρ:Loc) (g:G) (E:Value→Shared→Prop) {α:Type} (F:α→D) (k:α→St→Option R) (r:R) (use:Option (Value→Sem Unit)) (Q:Value→Shared→Prop):Prop :=
 ∀ ds σ' g' s' val Cad oC m,k ds σ'=some r→Rel C B f ((Cad,oC)::rs) ρ σ' g' s'→Ext g g'→DRep C B g'.fz (F ds) val→s'.heap.Ns Cad m→f.env.locals≠Cad→(∀ p∈rs,p.1≠Cad)→compPost C.M f.A E use Q val Cad (.ok .next) s'
variable {elt kx vx t it t2 it2:Expr} {ifs ifs2:List Expr} {sc2:Scope} {pos pos2:Pos} {use:Option (Value→Sem Unit)} {Q:Value→Shared→Prop}
theorem b2s {e:Expr} (h:(!a2a e)=true):a2a e=false:=aC _▸h
theorem comp_fin {k:List D→St→Option R} (q:QC C B f rs ρ g E .lst k r use Q):∀ acc σ' g' s' D oD Cad oC m,k acc σ'=some r→Rel C B f ((Cad,oC)::rs) ρ σ' g' s'→Ext g g'→(D,oD)∈g'.fz→LAcc C B acc oD g'→(D==sysModules)=false→s'.heap.Ns Cad m→f.env.locals≠Cad→(∀ p∈rs,p.1≠Cad) →
   compPost C.M f.A E use Q (.ref D) Cad (.ok .next) s':=by
 intro acc σ' g' s' D oD Cad oC m hk R' X' hD ⟨vs,n,e,hr⟩ _ hns h1 h2
 subst e
 exact q _ _ _ _ _ _ _ _ hk R' X' (.lst _ _ _ _ (.inl hD) hr) hns h1 h2
theorem comp1_snd (S:Snd C ih n) {k:List D→St→Option R} (h:comp1 ih f.sc elt t it ifs sc2 ρ σ k=some r) (ok:FmOk C f) (rm:Room f n) (Rl:Rel C B f rs ρ σ g s) (q:QC C B f rs ρ g E .lst k r use Q) :
  wpAny C.M f.A (comprehension (.ListComp elt [⟨t,it,ifs,0⟩] sc2 pos) sc2 f.env pos2 (newList []) false (firstIter [⟨t,it,ifs,0⟩] f.env) use) Q E s :=
 a4l (ARep:=LAcc C B) (fun z0 z0 z0 z0 x h=>LAcc.mono x h) S (emit:=fun env D=>(do let _ ← call (.builtin "list.append") [.ref D,← eval elt env])) (p:=it.pos) rfl (b2s (a0e (a0b h))) (a7y (a0k (a0b h))) (a0c h) ok rm Rl (fun s Q E h=>listNew s Q E h) (fun z0 z0 z0=>rfl) (fun z0 z0 z0=>rfl) (fun z0 z0 z0=>rfl)
  (fun I D env Rr s h0 h1=>codeAny_compStart_list h0 (h1 _ _ h0)) (fun f1 D g1 ok1 rm1 e1 e2 hD=>by subst e1;exact a6e S ok1 rm1 hD) (comp_fin q)
theorem comp2_snd (S:Snd C ih n) {k:List D→St→Option R} (h:comp2 ih f.sc elt t it ifs t2 it2 ifs2 sc2 ρ σ k=some r) (ok:FmOk C f) (rm:Room f n) (Rl:Rel C B f rs ρ σ g s) (q:QC C B f rs ρ g E .lst k r use Q) :
  wpAny C.M f.A (comprehension (.ListComp elt [⟨t,it,ifs,0⟩,⟨t2,it2,ifs2,0⟩] sc2 pos) sc2 f.env pos2 (newList []) false (firstIter [⟨t,it,ifs,0⟩,⟨t2,it2,ifs2,0⟩] f.env) use) Q E s :=
 a4l (ARep:=LAcc C B) (fun z0 z0 z0 z0 x h=>LAcc.mono x h) S (emit:=fun env D=>(eval it2 env >>= fun x=>standAt it2.pos >>= fun z0=>foldedSetIterable it2 env x >>= fun x=>holding [x] (pyIter x) >>= fun i=>runOwn (.compStart (.ListComp elt [⟨t,it,ifs,0⟩,⟨t2,it2,ifs2,0⟩] sc2 pos) 1 i (.ref D) env) env >>= fun z0=>pure ())) (p:=it.pos) rfl (b2s (a0k (a0e (a0b h)))) (a7y (a0k (a0b h))) (a0c h) ok rm Rl (fun s Q E h=>listNew s Q E h) (fun z0 z0 z0=>rfl) (fun z0 z0 z0=>rfl) (fun I D env=>congrArg (fun m:Sem Fin=>m.onRaise fun x=>do noteFrame x env;theTreesLotGoes x) (compTurn2 elt t it t2 it2 ifs ifs2 sc2 pos (.ref I) (.ref D) env))
  (fun I D env Rr s h0 h1=>codeAny_compStart_list h0 (h1 _ _ h0)) (fun f1 D g1 ok1 rm1 e1 e2 hD=>by subst e1;exact comp2_body S (b2s (a0e (a0e (a0b h)))) ok1 rm1 hD) (comp_fin q)
theorem gen_is {c:Comprehension} {F:Expr→Expr→List Expr→Option R} (h:gen? c F=some r):∃ t it ifs,c=⟨t,it,ifs,0⟩∧F t it ifs=some r:=by
 obtain ⟨t,it,ifs,a⟩:=c
 have h:(bif decide (a=0) then F t it ifs else none)=some r:=h
 have e:=of_decide_eq_true (a0b h)
 subst e
 exact ⟨t,it,ifs,rfl,a0c h⟩
theorem b0w (S:Snd C ih n) {gens:List Comprehension} {k:List D→St→Option R} (h:a9c ih f.sc elt gens sc2 ρ σ k=some r) (ok:FmOk C f) (rm:Room f n) (Rl:Rel C B f rs ρ σ g s) (q:QC C B f rs ρ g E .lst k r use Q) :
  firstAsync gens=false∧wpAny C.M f.A (comprehension (.ListComp elt gens sc2 pos) sc2 f.env pos2 (newList []) false (firstIter gens f.env) use) Q E s:=by
 induction gens using aK with
 | nil=>exact no h
 | cons c gs =>
  refine exxx ?_ (gen_is (F:=compR ih f.sc elt gs sc2 ρ σ k) h);rintro t it ifs;refine aE ?_;rintro e h
  subst e
  induction gs using aK with
  | nil=>exact ⟨rfl,comp1_snd S h ok rm Rl q⟩
  | cons c2 gs =>
   refine exxx ?_ (gen_is (F:=fun t2 it2 ifs2=>bif gs.isEmpty then comp2 ih f.sc elt t it ifs t2 it2 ifs2 sc2 ρ σ k else none) h);rintro t2 it2 ifs2;refine aE ?_;rintro e h
   subst e
   induction gs using aK with
   | nil=>exact ⟨rfl,comp2_snd S h ok rm Rl q⟩
   | cons _ _=>exact no h
theorem dcomp1_snd (S:Snd C ih n) {k:List (D×D)→St→Option R} (h:(bif a9b f.sc sc2 ρ && !a2a it then ih.e f.sc it ρ σ fun v σ=>toD v σ fun v σ=>itemsOf v fun xs=>a2l ih sc2 t ifs (dcElt ih sc2 kx vx) xs (a2h sc2 ρ) σ [] k else none)=some r) (ok:FmOk C f) (rm:Room f n) (Rl:Rel C B f rs ρ σ g s) (q:QC C B f rs ρ g E .dct k r use Q) :
  wpAny C.M f.A (comprehension (.DictComp kx vx [⟨t,it,ifs,0⟩] sc2 pos) sc2 f.env pos2 newDict false (firstIter [⟨t,it,ifs,0⟩] f.env) use) Q E s :=
 a4l (ARep:=DAcc C B) (fun z0 z0 z0 z0 x h=>DAcc.mono x h) S (emit:=fun env D=>(do
    let kv ← eval kx env
    let vv ← holding [kv] (eval vx env)
    standAt { kx.pos with endLine:=vx.pos.endLine,endCol:=vx.pos.endCol }
    holding [kv,vv] (dictSet D kv vv))) (p:=it.pos) rfl (b2s (a0e (a0b h))) (a7y (a0k (a0b h))) (a0c h) ok rm Rl (fun s Q E h=>dictNew s Q E h) (fun z0 z0 z0=>rfl) (fun z0 z0 z0=>rfl) (fun z0 z0 z0=>rfl)
    (fun I D env Rr s h0 h1=>codeAny_compStart_dict h0 (h1 _ _ h0)) (fun f1 D g1 ok1 rm1 e1 e2 hD=>by subst e1;exact dcElt_body S ok1 rm1 hD) fun acc σ' g' s' D oD Cad oC m hk R' X' hD hr low hns h1 h2=>q _ _ _ _ _ _ _ _ hk R' X' (.dct _ _ _ (.inl hD) low hr) hns h1 h2
theorem dcomp_snd (S:Snd C ih n) {gens:List Comprehension} {k:List (D×D)→St→Option R} (h:a5m ih f.sc kx vx gens sc2 ρ σ k=some r) (ok:FmOk C f) (rm:Room f n) (Rl:Rel C B f rs ρ σ g s) (q:QC C B f rs ρ g E .dct k r use Q) :
  firstAsync gens=false∧wpAny C.M f.A (comprehension (.DictComp kx vx gens sc2 pos) sc2 f.env pos2 newDict false (firstIter gens f.env) use) Q E s:=by
 induction gens using aK with
 | nil=>exact no h
 | cons c gs =>
  induction gs using aK with
  | cons _ _=>exact no h
  | nil =>
   refine exxx ?_ (gen_is (F:=dcompR ih f.sc kx vx sc2 ρ σ k) h);rintro t it ifs;refine aE ?_;rintro e h
   subst e
   exact ⟨rfl,dcomp1_snd S h ok rm Rl q⟩
theorem a3f {val:Value} {Cad:Addr} {oC:Obj} {m:Str→Option Value} (Rl:Rel C B f ((Cad,oC)::rs) ρ σ g s) (hns:s.heap.Ns Cad m) (h1:f.env.locals≠Cad) (h2:∀ p∈rs,p.1≠Cad) (q:∀ s',Rel C B f rs ρ σ g s'→Q val s') :
  compPost C.M f.A E none Q val Cad (.ok .next) s :=
 ⟨m,hns,fun h' hs'=>q _ (Rl.done (tk:=s.toks) h1 h2 fun b o hb e=>(hs'.2 b hb).trans e)⟩
theorem lcomp_snd (S:Snd C ih n) {gens:List Comprehension} {k:V→St→Option R} (h:(a9c ih f.sc elt gens sc2 ρ σ fun ds σ=>k (.d (.lst ds)) σ)=some r) (ok:FmOk C f) (rm:Room f n) (Rl:Rel C B f rs ρ σ g s) (q:QV C B f rs ρ g k r Q) :
  wpAny C.M f.A (eval (.ListComp elt gens sc2 pos) f.env) Q E s:=by
 refine aE ?_ (b0w (use:=none) (pos:=pos) (pos2:=firstIterPos gens pos) (E:=E) (Q:=Q) S h ok rm Rl fun ds σ' g' s' val Cad oC m hk R' X' dr hns h1 h2=>a3f R' hns h1 h2 fun s'' R''=>q _ _ _ _ _ hk R'' X' dr);rintro ha hw
 show wpAny _ _ (comprehension _ _ _ _ _ (firstAsync gens) _ _) _ _ _
 rw [ha];exact hw
theorem b2t (S:Snd C ih n) {gens:List Comprehension} {k:V→St→Option R} (h:(a5m ih f.sc kx vx gens sc2 ρ σ fun es σ=>k (.d (.dct es)) σ)=some r) (ok:FmOk C f) (rm:Room f n) (Rl:Rel C B f rs ρ σ g s) (q:QV C B f rs ρ g k r Q) :
  wpAny C.M f.A (eval (.DictComp kx vx gens sc2 pos) f.env) Q E s:=by
 refine aE ?_ (dcomp_snd (use:=none) (pos:=pos) (pos2:=firstIterPos gens pos) (E:=E) (Q:=Q) S h ok rm Rl fun ds σ' g' s' val Cad oC m hk R' X' dr hns h1 h2=>a3f R' hns h1 h2 fun s'' R''=>q _ _ _ _ _ hk R'' X' dr);rintro ha hw
 show wpAny _ _ (comprehension _ _ _ _ _ (firstAsync gens) _ _) _ _ _
 rw [ha];exact hw
end
end Mine
end
section
namespace Mine
open PySem PySem.W PySem.Spec PySem.Calls PyProof.Rows PySem.SeqAt
section
variable {C:Cx} {ih:IH R} {n:Nat} {B:Buf} {f:Fm} {rs:List (Addr×Obj)} {ρ:Loc} {σ:St} {g:G} {s:Shared} {E:Value→Shared→Prop}
theorem a8a {value:Expr} (h:b1m value=false) (t:Option Expr) (line:Nat) (env:Env):swapsWith value t line env=pure false:=by
 induction value using Expr.casesOn with
 | ListComp _ _ _ _=>exact nob h.symm
 | DictComp _ _ _ _ _=>exact nob h.symm
 | SetComp _ _ _ _=>exact nob h.symm
 | _=>rfl
noncomputable def isASI (e:Expr):Bool:=Nat.beq e.ctorIdx 20||(Nat.beq e.ctorIdx 21||Nat.beq e.ctorIdx 25)
theorem a3x {t value:Expr} (h:isASI t=true) (line:Nat) (env:Env):swapsWith value (some t) line env=pure false:=by
 cases hc:b1m value with
 | false=>exact a8a hc _ _ _
 | true=>induction t using Expr.casesOn with
  | Attribute _ _ _=>induction value using Expr.casesOn with
   | ListComp _ _ _ _=>rfl
   | DictComp _ _ _ _ _=>rfl
   | SetComp _ _ _ _=>rfl
   | _=>exact nob hc
  | Subscript _ _ _=>induction value using Expr.casesOn with
   | ListComp _ _ _ _=>rfl
   | DictComp _ _ _ _ _=>rfl
   | SetComp _ _ _ _=>rfl
   | _=>exact nob hc
  | Tuple _ _ _=>induction value using Expr.casesOn with
   | ListComp _ _ _ _=>rfl
   | DictComp _ _ _ _ _=>rfl
   | SetComp _ _ _ _=>rfl
   | _=>exact nob hc
  | _=>exact nob h
theorem swaps_name {elt:Expr} {gens:List Comprehension} {sc2:Scope} {pos2:Pos} {x:Str} {p:Pos} (line:Nat) (env:Env):∃ b,swapsWith (.ListComp elt gens sc2 pos2) (some (.Name x p)) line env=pure b:=⟨_,rfl⟩
theorem a5d {x:Str} {v:V} {val:Value} {k:Loc→St→Option R} {Q:Unit→Shared→Prop} (h:putName f.sc x v ρ σ k=some r) (ok:FmOk C f) (el:f.env.locals=f.L) (Rl:Rel C B f rs ρ σ g s) (hv:VRep C B g v val)
  (q:∀ ρ' σ' g' s',k ρ' σ'=some r→Rel C B f rs ρ' σ' g' s'→Ext g g'→Q () s'):wpAny C.M f.A (storeName f.env x val) Q E s :=
 a4k h ok Rl hv fun ρ' σ' g' rs' s' hk R' X' T' z0=>by
  obtain rfl:=T'.fn (by rw [el];exact Rl.offL)
  exact q _ _ _ _ hk R' X'
theorem used_snd {x:Str} {p:Pos} {d:D} {val:Value} {Cad:Addr} {oC:Obj} {m:Str→Option Value} {K:KS R} {Q:Flow→Shared→Prop} (h:putName f.sc x (.d d) ρ σ K.next=some r) (ok:FmOk C f) (el:f.env.locals=f.L) (Rl:Rel C B f ((Cad,oC)::rs) ρ σ g s) (hv:DRep C B g.fz d val)
  (hns:s.heap.Ns Cad m) (h1:f.env.locals≠Cad) (h2:∀ p∈rs,p.1≠Cad) (q:QS C B f rs g K r Q) :
  compPost C.M f.A E (some (assign (.Name x p) f.env)) (fun z0 s=>Q .next s) val Cad (.ok .next) s:=by
 show wpAny _ _ (assign (.Name x p) f.env val) _ _ _
 refine wpAny_assign_Name (a5d (v := .d d) h ok el Rl hv fun ρ' σ' g' s' hk R' X' => ?_)
 refine ⟨m,hns.at' fun o e => ?_,fun h' hs' => ?_⟩
 ·have e1:=Rl.get (a0l (.head _))
  rw [e1] at e;cases e
  exact R'.get (a0l (.head _))
 ·exact q.next _ _ _ _ hk (R'.done (tk:=s'.toks) h1 h2 fun b o hb e=>(hs'.2 b hb).trans e) X'
theorem a8w (S:Snd C ih n) {x:Str} {p pos:Pos} {e:Expr} {K:KS R} {Q:Flow→Shared→Prop} (hne:b1m e=false) (h:(evM2 ih f.sc e ρ σ fun v σ=>putName f.sc x v ρ σ K.next)=some r) (ok:FmOk C f) (el:f.env.locals=f.L) (rm:Room f n) (Rl:Rel C B f rs ρ σ g s) (q:QS C B f rs g K r Q) :
  wpAny C.M f.A (exec (.Assign [.Name x p] e pos) f.env) Q E s :=
 wpAny_Assign_Name (m2_snd S h ok rm Rl fun v σ1 g1 s1 val h1 R1 X1 hv=>a5d h1 ok el R1 hv fun ρ' σ' g' s' hk R' X'=>q.next _ _ _ _ hk R' (X1.trans X')) (a8a hne _ _ _)
variable {t e:Expr} {pos:Pos} {K:KS R} {Q:Flow→Shared→Prop}
theorem a8x (S:Snd C ih n) {x:Str} {p pos2:Pos} {elt:Expr} {gens:List Comprehension} {sc2:Scope} (h:(a9c ih f.sc elt gens sc2 ρ σ fun ds σ=>putName f.sc x (.d (.lst ds)) ρ σ K.next)=some r) (ok:FmOk C f) (el:f.env.locals=f.L) (rm:Room f n) (Rl:Rel C B f rs ρ σ g s) (q:QS C B f rs g K r Q) :
  wpAny C.M f.A (exec (.Assign [.Name x p] (.ListComp elt gens sc2 pos2) pos) f.env) Q E s:=by
 refine xE ?_ (swaps_name (elt:=elt) (gens:=gens) (sc2:=sc2) (pos2:=pos2) (x:=x) (p:=p) pos.line f.env);rintro b hb
 induction b with
 | false =>
  refine wpAny_Assign_Name ?_ hb
  refine aE ?_ (b0w (use:=none) (pos:=pos2) (pos2:=firstIterPos gens pos2) (E:=E) (Q:=fun v s=>wpAny C.M f.A (storeName f.env x v) (fun z0 s=>Q .next s) E s) S h ok rm Rl fun ds σ' g' s' val Cad oC m hk R' X' dr hns h1 h2=>a3f R' hns h1 h2 fun s'' R''=>a5d (v := .d (.lst ds)) hk ok el R'' dr fun ρ' σ' g' s' hk R' X2=>q.next _ _ _ _ hk R' (X'.trans X2));rintro ha hw
  show wpAny _ _ (comprehension _ _ _ _ _ (firstAsync gens) _ _) _ _ _
  rw [ha];exact hw
 | true =>
  rw [exec_Assign_Name_used _ _ _ _ hb]
  refine wpAny_bind (wpAny_standAt (wpAny_bind (wpAny_mono (Q:=fun z0 s=>Q .next s) ?_ (fun z0 z0 h=>wpAny_pure h) fun z0 z0 h=>h)))
  refine aE ?_ (b0w (use:=some (assign (.Name x p) f.env)) (pos:=pos2) (pos2:=firstIterPos gens pos2) (E:=E) (Q:=fun z0 s=>Q .next s) S h ok rm Rl fun ds σ' g' s' val Cad oC m hk R' X' dr hns h1 h2=>used_snd hk ok el R' dr hns h1 h2 (q.ext X'));rintro ha hw
  show wpAny _ _ (comprehension _ _ _ _ _ (firstAsync gens) _ _ >>= fun z0=>pure ()) _ _ _
  rw [ha];exact wpAny_bind (wpAny_mono hw (fun z0 z0 h=>wpAny_pure h) fun z0 z0 h=>h)
theorem lc_eq {q:Expr×List Comprehension×Scope} (h:lc? e=some q):∃ p,e = .ListComp q.1 q.2.1 q.2.2 p :=
 (a0w h).elim fun hc hf=>Expr.ListComp.elim (motive_1:=fun e=>∀ hc,Expr.ListComp.elim e hc (fun elt gens sc2 z0=>some (elt,gens,sc2))=some q→∃ p,e = .ListComp q.1 q.2.1 q.2.2 p) e hc (fun z0 z0 z0 pp z0 hf=>⟨pp,Option.some.inj hf▸rfl⟩) hc hf
theorem sName_snd (S:Snd C ih n) {x:Str} {p:Pos} (h:sName ih f.sc x e ρ σ K=some r) (ok:FmOk C f) (el:f.env.locals=f.L) (rm:Room f n) (Rl:Rel C B f rs ρ σ g s) (q:QS C B f rs g K r Q) :
  wpAny C.M f.A (exec (.Assign [.Name x p] e pos) f.env) Q E s:=by
 have h:(match lc? e with | some p=>a9c ih f.sc p.1 p.2.1 p.2.2 ρ σ fun ds σ=>putName f.sc x (.d (.lst ds)) ρ σ K.next | none=>bif b1m e then none else evM2 ih f.sc e ρ σ fun v σ=>putName f.sc x v ρ σ K.next)=some r:=h
 cases e1:lc? e with
 | none=>rw [e1] at h;exact a8w S (a7u h) (a4d h) ok el rm Rl q
 | some d=>rw [e1] at h;refine xE ?_ (lc_eq e1);rintro p2 rfl;exact a8x S h ok el rm Rl q
theorem sAttr_snd (tk:TabsOk C) (S:Snd C ih n) {o:Expr} {a:Str} {p:Pos} (h:sAttr C.T ih f.sc o a e ρ σ K=some r) (ok:FmOk C f) (rm:Room f n) (Rl:Rel C B f rs ρ σ g s) (q:QS C B f rs g K r Q) :
  wpAny C.M f.A (exec (.Assign [.Attribute o a p] e pos) f.env) Q E s :=
 plainObj_wpAny_Assign_Attribute (m2_snd S h ok rm Rl fun v σ1 g1 s1 val h1 R1 X1 hv=>S.e h1 ok rm R1 fun ov σ2 g2 s2 oval h2 R2 X2 hov =>
  b3z tk h2 ok R2 hov (hv.ext X2) fun σ' g' s' hk R' X'=>q.next _ _ _ _ hk R' (X1.trans (X2.trans X'))) (a3x rfl _ _)
theorem sItem_snd (S:Snd C ih n) {o i:Expr} {p:Pos} (h:sItem ih f.sc o i e ρ σ K=some r) (ok:FmOk C f) (rm:Room f n) (Rl:Rel C B f rs ρ σ g s) (q:QS C B f rs g K r Q) :
  wpAny C.M f.A (exec (.Assign [.Subscript o i p] e pos) f.env) Q E s:=by
 refine wpAny_Assign_Subscript (S.e (a4d h) ok rm Rl fun v σ1 g1 s1 val h1 R1 X1 hv => ?_) (a3x rfl _ _)
 induction to_D h1 ok R1 hv with | mk d σ2 g2 h2 R2 X2 _ _ dr =>
 refine S.e h2 ok rm R2 fun ov σ3 g3 s3 oval h3 R3 X3 hov=>S.e h3 ok rm R3 fun iv σ4 g4 s4 ival h4 R4 X4 hiv => ?_
 induction a0p h4 hiv with | mk iv hi h4 =>
 exact b4d h4 ok R4 (hov.ext X4) hi (dr.mono (X3.trans X4).fz) fun σ' g' s' hk R' X'=>q.next _ _ _ _ hk R' (X1.trans (X2.trans (X3.trans (X4.trans X'))))
theorem sTup_snd (S:Snd C ih n) {ts:List Expr} {k:Nat} {p:Pos} (h:sTup ih f.sc ts e ρ σ K=some r) (ok:FmOk C f) (el:f.env.locals=f.L) (rm:Room f n) (Rl:Rel C B f rs ρ σ g s) (q:QS C B f rs g K r Q) :
  wpAny C.M f.A (exec (.Assign [.Tuple ts k p] e pos) f.env) Q E s:=by
 have ht:=a7u h
 refine Assign_Tuple (S.e (a4d h) ok rm Rl fun v σ1 g1 s1 val h1 R1 X1 hv => ?_) (show swapsWith e (some (.Tuple ts k p)) pos.line f.env=pure false from a3x rfl _ _) (by cases e <;> first | rfl | exact nob ht.symm)
 induction a0p h1 hv with | mk d hd h1 =>
 induction d using D.casesOn with
 | tup xs =>
  exact a5b ok.handled h1 ok R1 hd fun ρ' σ' g' rs' s' hk R' X' T' z0=>by
   have e:=T'.fn (by rw [el];exact R1.offL)
   subst e
   exact q.next _ _ _ _ hk R' (X1.trans X')
 | _=>exact no h1
theorem assign_snd (tk:TabsOk C) (S:Snd C ih n) (h:sAssign C.T ih f.sc t e ρ σ K=some r) (ok:FmOk C f) (el:f.env.locals=f.L) (rm:Room f n) (Rl:Rel C B f rs ρ σ g s) (q:QS C B f rs g K r Q) :
  wpAny C.M f.A (exec (.Assign [t] e pos) f.env) Q E s:=by
 induction t using Expr.casesOn with
 | Name x p=>exact sName_snd S h ok el rm Rl q
 | Attribute o a p=>exact sAttr_snd tk S h ok rm Rl q
 | Subscript o i p=>exact sItem_snd S h ok rm Rl q
 | Tuple ts k p=>exact sTup_snd S h ok el rm Rl q
 | _=>exact no h
end
end Mine
end
section
namespace Mine
open PySem PySem.W PySem.Spec PySem.Calls PyProof.Rows
theorem a3l {α:Type}:∀ {l:List (Str×α)},(l.map (·.1)).Nodup→(l.map (·.1)).filterMap (fun n=>(l.lookup n).map (n,·))=l
 | [],_=>rfl
 | (x,v)::r,h=>by
  rw [bK,bY] at h
  rw [bK,aO]
  simp only [List.lookup_cons_self,Option.map_some]
  congr 1
  have congr':∀ {β:Type} (l:List Str) (f g:Str→Option β),(∀ x∈l,f x=g x)→l.filterMap f=l.filterMap g:=by
   intro β l f g h
   induction l with
   | nil=>rfl
   | cons x l ih=>rw [aO,aO,h x (.head _),ih fun y hy=>h y (.tail _ hy)]
  have e:(r.map (·.1)).filterMap (fun n=>(List.lookup n ((x,v)::r)).map (n,·))=(r.map (·.1)).filterMap (fun n=>(r.lookup n).map (n,·)):=by
   refine congr' _ _ _ fun n hn => ?_
   have:(n==x)=false:=beq_eq_false_iff_ne.mpr fun e=>h.1 (e▸hn)
   rw [bH,this]
  rw [e];exact a3l h.2
theorem a1y {α:Type}:∀ {l:List (Str×α)} {n:Str},n∉l.map (·.1)→l.lookup n=none
 | [],_,_=>rfl
 | (x,v)::r,n,h=>by
  simp only [bK,bP,not_or] at h
  rw [bH,beq_eq_false_iff_ne.mpr h.1];exact a1y h.2
theorem a2t {α:Type}:∀ {l:List (Str×α)} {n:Str},n∈l.map (·.1)→(l.lookup n).isNone=false
 | [],_,h=>by cases h
 | (x,v)::r,n,h=>by
  rw [bH]
  cases e:n==x with
  | true=>rfl
  | false =>
   simp only [bK,bP] at h
   rcases h with h | h
   ·exact absurd h (beq_eq_false_iff_ne.mp e)
   ·exact a2t h
theorem b2u:∀ (l:List (Str×Value)) (slots:List (Str×Value)),(l.map (·.1)).Nodup→(∀ p∈l,p.1∉slots.map (·.1)) →
  (forIn l slots fun x slots=>if (slots.lookup x.fst).isNone=true then pure (ForInStep.yield (slots++[(x.fst,x.snd)])) else pure (ForInStep.yield slots):Sem (List (Str×Value)))=pure (slots++l)
 | [],slots,_,_=>by rw [aJ];rfl
 | (x,v)::l,slots,hn,h=>by
  rw [bK,bY] at hn
  rw [aQ]
  simp only [a1y (h _ (.head _)),Option.isNone_none,if_true,pure_bind]
  refine (b2u l (slots++[(x,v)]) hn.2 fun p hp => ?_).trans (by rw [aI];rfl)
  rw [bI,bM,not_or]
  refine ⟨h p (.tail _ hp),fun e => ?_⟩
  exact hn.1 (bT.mpr ⟨p,hp,bV.mp e⟩)
theorem fill:∀ (a b:List (Str×Value)) (slots:List (Str×Value)),(∀ p∈a,p.1∈slots.map (·.1))→(b.map (·.1)).Nodup→(∀ p∈b,p.1∉slots.map (·.1)) →
  (forIn (a++b) slots fun x slots=>if (slots.lookup x.fst).isNone=true then pure (ForInStep.yield (slots++[(x.fst,x.snd)])) else pure (ForInStep.yield slots):Sem (List (Str×Value)))=pure (slots++b)
 | [],b,slots,_,h2,h3=>b2u b slots h2 h3
 | (x,v)::l,b,slots,h1,h2,h3=>by
  rw [aM,aQ]
  simp only [a2t (h1 _ (.head _)),Bool.false_eq_true,if_false,pure_bind]
  exact fill l b slots (fun p hp=>h1 p (.tail _ hp)) h2 h3
theorem zip_app {α β:Type}:∀ {a:List α} {b c:List β},b.length≤a.length→a.zip (b++c)=a.zip b++(a.drop b.length).zip c
 | a,[],c,_=>by simp
 | [],_::_,_,h=>by simp at h
 | x::a,y::b,c,h=>by
  simp only [aM,List.zip_cons_cons,bE,List.drop_succ_cons]
  rw [zip_app (by simpa using h)]
theorem map_fst_zip {α β:Type}:∀ {a:List α} {b:List β},a.length≤b.length→(a.zip b).map (·.1)=a
 | [],_,_=>rfl
 | _::_,[],h=>by simp at h
 | x::a,y::b,h=>by
  simp only [List.zip_cons_cons,bK]
  rw [map_fst_zip (by simpa using h)]
theorem a2s {α β:Type}:∀ {a:List α} {b:List β},b.length≤a.length→(a.zip b).map (·.1)=a.take b.length
 | _,[],_=>by simp
 | [],_::_,h=>by simp at h
 | x::a,y::b,h=>by
  simp only [List.zip_cons_cons,bK,bE,List.take_succ_cons]
  rw [a2s (by simpa using h)]
theorem fill_w {M:Model} {A:Around} {E:Value→Shared→Prop} {s:Shared} {Q:List (Str×Value)→Shared→Prop} {l a b slots:List (Str×Value)} (hl:l=a++b) (h1:∀ p∈a,p.1∈slots.map (·.1)) (h2:(b.map (·.1)).Nodup) (h3:∀ p∈b,p.1∉slots.map (·.1)) (q:Q (slots++b) s) :
  wpAny M A (forIn l slots fun x slots=>if (slots.lookup x.fst).isNone=true then pure (ForInStep.yield (slots++[(x.fst,x.snd)])) else pure (ForInStep.yield slots)) Q E s:=by
 rw [hl,fill a b slots h1 h2 h3]
 exact wpAny_pure q
theorem bp_mem {N:List Str} {vals dvs:List Value} (h1:vals.length≤N.length) (h2:N.length≤vals.length+dvs.length) {n:Str} (hn:n∈N.take (N.length - dvs.length)):n∈(N.zip vals).map (·.1):=by
 rw [a2s h1]
 exact List.take_subset_take_left N (Nat.sub_le_iff_le_add.mpr h2) hn
theorem bp_miss {N:List Str} {vals dvs:List Value} (h1:vals.length≤N.length) (h2:N.length≤vals.length+dvs.length):(!((N.take (N.length - dvs.length)).filter fun n=>((N.zip vals).lookup n).isNone).isEmpty)=false:=by
 have e:(N.take (N.length - dvs.length)).filter (fun n=>((N.zip vals).lookup n).isNone)=[] :=
  List.filter_eq_nil_iff.mpr fun n hn' e=>Bool.noConfusion (e.symm.trans (a2t (bp_mem h1 h2 hn')))
 rw [e];rfl
theorem bp_j {a b c:Nat} (h2:a≤b+c) (h3:c≤a):a - c+(b+c - a)=b:=by
 refine xE ?_ (Nat.exists_eq_add_of_le' h3);rintro d rfl
 rw [Nat.add_sub_cancel,Nat.add_sub_add_right,Nat.add_sub_cancel' (Nat.le_of_add_le_add_right h2)]
theorem bp_len {n v d:Nat} (h1:v≤n) (h2:n≤v+d):d - (v+d - n)=n - v:=by
 refine xE ?_ (Nat.exists_eq_add_of_le h1);rintro e rfl
 rw [Nat.add_sub_add_left,Nat.sub_sub_self (Nat.le_of_add_le_add_left h2),Nat.add_sub_cancel_left]
theorem bp_split {N:List Str} {vals dvs:List Value} (h2:N.length≤vals.length+dvs.length) (h3:dvs.length≤N.length):(N.drop (N.length - dvs.length)).zip dvs =
  (((N.drop (N.length - dvs.length)).zip dvs).take (vals.length+dvs.length - N.length))++(N.drop vals.length).zip (dvs.drop (vals.length+dvs.length - N.length)):=by
 refine (List.take_append_drop (vals.length+dvs.length - N.length) _).symm.trans ?_
 rw [List.zip,List.drop_zipWith,List.drop_drop,bp_j h2 h3]
theorem bp_a {N:List Str} {vals dvs:List Value} (h1:vals.length≤N.length) (h2:N.length≤vals.length+dvs.length) (h3:dvs.length≤N.length) (p:Str×Value) (hp:p∈((N.drop (N.length - dvs.length)).zip dvs).take (vals.length+dvs.length - N.length)):p.1∈(N.zip vals).map (·.1):=by
 rw [a2s h1]
 rw [List.zip,List.take_zipWith] at hp
 have h5:=(List.of_mem_zip (a:=p.1) (b:=p.2) hp).1
 rw [List.take_drop] at h5
 have:=List.mem_of_mem_drop h5
 rwa [bp_j h2 h3] at this
theorem bp_fst {N:List Str} {vals dvs:List Value} (h1:vals.length≤N.length) (h2:N.length≤vals.length+dvs.length) (h3:dvs.length≤N.length):((N.drop vals.length).zip (dvs.drop (vals.length+dvs.length - N.length))).map (·.1)=N.drop vals.length:=map_fst_zip (cP (by rw [List.length_drop,List.length_drop,bp_len h1 h2]))
theorem bp_b {N:List Str} {vals dvs:List Value} (hnd:N.Nodup) (h1:vals.length≤N.length) (h2:N.length≤vals.length+dvs.length) (h3:dvs.length≤N.length) (p:Str×Value) (hp:p∈(N.drop vals.length).zip (dvs.drop (vals.length+dvs.length - N.length))):p.1∉(N.zip vals).map (·.1):=by
 rw [a2s h1]
 intro a
 have h:p.1∈N.drop vals.length:=by
  rw [← bp_fst h1 h2 h3];exact bT.mpr ⟨p,hp,rfl⟩
 rw [← List.take_append_drop vals.length N,bX] at hnd
 exact hnd.2.2 _ a _ h rfl
theorem bp_all {N:List Str} {vals dvs:List Value} (hnd:N.Nodup) (h1:vals.length≤N.length) (h2:N.length≤vals.length+dvs.length) (h3:dvs.length≤N.length) :
  (N++[]).filterMap (fun n=>((N.zip vals++(N.drop vals.length).zip (dvs.drop (vals.length+dvs.length - N.length))).lookup n).map (n,·))=N.zip (vals++dvs.drop (vals.length+dvs.length - N.length)):=by
 have kf:(N.zip (vals++dvs.drop (vals.length+dvs.length - N.length))).map (·.1)=N:=map_fst_zip (cP (by rw [bD,List.length_drop,bp_len h1 h2,Nat.add_sub_cancel' h1]))
 have:=a3l (l:=N.zip (vals++dvs.drop (vals.length+dvs.length - N.length))) (kf.symm▸hnd)
 rw [kf] at this
 rw [aJ,← zip_app h1]
 exact this
theorem bp_missX {N:List Str} {vals dvs ds:List Value} (hz:ds=dvs) (h1:vals.length≤N.length) (h2:N.length≤vals.length+dvs.length):(!((N.take (N.length - ds.length)).filter fun n=>((N.zip vals).lookup n).isNone).isEmpty)=false:=by subst hz;exact bp_miss h1 h2
theorem bp_splitX {N:List Str} {vals dvs ds:List Value} (hz:ds=dvs) (h2:N.length≤vals.length+dvs.length) (h3:dvs.length≤N.length):(N.drop (N.length - ds.length)).zip ds =
  (((N.drop (N.length - dvs.length)).zip dvs).take (vals.length+dvs.length - N.length))++(N.drop vals.length).zip (dvs.drop (vals.length+dvs.length - N.length)):=by subst hz;exact bp_split h2 h3
theorem bp_end {M:Model} {A:Around} {E:Value→Shared→Prop} {Q:List (Str×Value)→Shared→Prop} {s:Shared} {x y:List (Str×Value)} (h:x=y) (hQ:Q y s):wpAny M A (pure x) Q E s:=wpAny_pure (h▸hQ)
theorem bp_core {M:Model} {A:Around} {E:Value→Shared→Prop} {Q:List (Str×Value)→Shared→Prop} {s:Shared} {a1 a2:Str} {a4:FuncBody} {a5:Scope} {a6:Addr} {a7:List (Str×Addr)} {a8 a9 a10 a11:Value} {a12:Option Addr} {a13 a14:Value} {a15:Addr} {b2:List Arg} {b5:List (Option Expr)} {b7:List Expr} {vals dvs:List Value}
  (hd:∀ (M:Model) (A:Around) (E:Value→Shared→Prop) (Q:Option (Array Value)→Shared→Prop),(∀ r,(r.getD #[]).toList=dvs→Q r s)→wpAny M A (seqItems? a8) Q E s)
  (hnd:(b2.map (·.arg)).Nodup) (h1:vals.length≤(b2.map (·.arg)).length) (h2:(b2.map (·.arg)).length≤vals.length+dvs.length) (h3:dvs.length≤(b2.map (·.arg)).length)
  (hQ:Q ((b2.map (·.arg)).zip (vals++dvs.drop (vals.length+dvs.length - (b2.map (·.arg)).length))) s) :
  wpAny M A (bindArgs ⟨a1,a2,⟨[],b2,none,[],b5,none,b7⟩,a4,a5,a6,a7,a8,a9,a10,a11,a12,a13,a14,a15⟩ ⟨vals,[]⟩) Q E s:=by
 refine wpAny_bind (m:=seqItems? a8) (hd M A _ _ fun r hr => ?_)
 subst hr
 have hz:(r.getD #[]).toList.drop ((r.getD #[]).toList.length - (b2.map (·.arg)).length)=(r.getD #[]).toList:=by rw [Nat.sub_eq_zero_of_le h3];rfl
 refine wpAny_ite_false (decide_eq_false fun e=>absurd (of_decide_eq_true (aA.mp e).1) (Nat.not_lt_of_le h1)) ?_
 refine wpAny_ite_false (decide_eq_false fun e=>Bool.noConfusion (e.symm.trans (bp_missX hz h1 h2))) ?_
 refine wpAny_bind (fill_w (bp_splitX hz h2 h3) (bp_a h1 h2 h3) ((bp_fst h1 h2 h3).symm▸hnd.sublist (List.drop_sublist _ _)) (bp_b hnd h1 h2 h3) (bp_end (bp_all hnd h1 h2 h3) hQ))
theorem bp_any {M:Model} {A:Around} {E:Value→Shared→Prop} {Q:List (Str×Value)→Shared→Prop} {s:Shared} {b1 c1:List Arg} {b3 c3:Option Arg} {b4 c4:List Arg} {b6 c6:Option Arg} {f:List Arg→Option Arg→List Arg→Option Arg→FuncData} {a:Args} (h1:b1=c1) (h3:b3=c3) (h4:b4=c4) (h6:b6=c6) (h:wpAny M A (bindArgs (f c1 c3 c4 c6) a) Q E s) :
  wpAny M A (bindArgs (f b1 b3 b4 b6) a) Q E s:=by subst h1 h3 h4 h6;exact h
theorem a8b {s:Shared} {fd:FuncData} {names:List Str} {vals dvs:List Value} (hp:fd.params.posonlyargs=[]) (hn:fd.params.args.map (·.arg)=names) (hk:fd.params.kwonlyargs=[]) (hv:fd.params.vararg=none) (hw:fd.params.kwarg=none)
  (hd:∀ (M:Model) (A:Around) (E:Value→Shared→Prop) (Q:Option (Array Value)→Shared→Prop),(∀ r,(r.getD #[]).toList=dvs→Q r s)→wpAny M A (seqItems? fd.defaults) Q E s)
  (hnd:names.Nodup) (h1:vals.length≤names.length) (h2:names.length≤vals.length+dvs.length) (h3:dvs.length≤names.length) :
  BindsTo s fd ⟨vals,[]⟩ (names.zip (vals++dvs.drop (vals.length+dvs.length - names.length))):=by
 subst hn
 induction fd with
 | mk a1 a2 pa a4 a5 a6 a7 a8 a9 a10 a11 a12 a13 a14 a15 =>
 cases pa with
 | mk b1 b2 b3 b4 b5 b6 b7 =>
 exact fun M A E Q hQ=>bp_any (f:=fun b1 b3 b4 b6=>⟨a1,a2,⟨b1,b2,b3,b4,b5,b6,b7⟩,a4,a5,a6,a7,a8,a9,a10,a11,a12,a13,a14,a15⟩) hp hv hk hw (bp_core hd hnd h1 h2 h3 hQ)
end Mine
end
section
namespace Mine
open PySem PySem.W PySem.Spec PySem.Calls PyProof.Rows PySem.SeqAt
structure Own (C:Cx) (B:Buf) (rs:List (Addr×Obj)) (σ:St) (g:G):Prop where
 lenA:g.as.length=σ.length
 lenO:g.os.length=σ.length
 nodup:g.as.Nodup
 own:∀ (i:Nat) o a ob,σ[i]?=some o→g.as[i]?=some a→g.os[i]?=some ob→ORep C B g o ob∧(a1u o=true→∀ q∈g.fz,q.1≠a)∧(a1u o=false→(a,ob)∈g.fz)∧(∀ x,o = .frz x→DRep C B g.fz x (.ref a))∧(a==sysModules)=false
 rsF:∀ q∈rs,∀ p∈g.fz,p.1≠q.1
 rsA:∀ q∈rs,∀ a∈g.as,a≠q.1
noncomputable def cn:List (Str×NameKind)→List Str
 | []=>[]
 | (x,.cell)::r=>x::cn r
 | _::r=>cn r
theorem cn_c (x:Str) (r:List (Str×NameKind)):cn ((x,.cell)::r)=x::cn r:=rfl
theorem cn_mem:∀ {l:List (Str×NameKind)} {x:Str},x∈cn l↔(x,NameKind.cell)∈l
 | [],x=>by show x∈[]↔_;simp
 | (y,k)::r,x=>by
  cases k <;> first | (show x∈y::cn r↔_;simp [cn_mem (l:=r)];done) | (show x∈cn r↔_;simp [cn_mem (l:=r)])
noncomputable def fwd (n:Nat):List Str→List (Str×Addr)
 | []=>[]
 | x::r=>(x,n)::fwd (n+1) r
theorem b4o:∀ {l:List Str} {n:Nat},(fwd n l).map (·.1)=l:=by
 intro x_
 induction x_ with
 | nil =>
  intro _
  exact rfl
 | cons x r IH_ =>
  intro n
  show x::(fwd (n+1) r).map (·.1)=_
  rw [IH_]
theorem b4p:∀ {l:List Str} {n j:Nat} {x:Str},l[j]?=some x→(fwd n l)[j]?=some (x,n+j)
 | [],_,_,_,h=>by simp at h
 | y::r,n,0,x,h=>by simp at h;subst h;rfl
 | y::r,n,j+1,x,h=>by
  simp at h
  show (fwd (n+1) r)[j]?=_
  rw [b4p h];congr 2;omega
theorem a5r {l:List Str} {n:Nat}:(fwd n l).length=l.length:=by
 have:=congrArg List.length (b4o (l:=l) (n:=n));simpa using this
theorem a1i:∀ (l:List (Str×NameKind)) (n:Nat) (acc:List (Str×Addr)),cellsFrom n l acc=(fwd n (cn l)).reverse++acc
 | [],_,_=>rfl
 | (x,k)::r,n,acc=>by
  unfold cellsFrom
  cases k <;> first
   | (show cellsFrom n r acc=_;rw [a1i r n acc];rfl)
   | (show cellsFrom (n+1) r ((x,n)::acc)=_;rw [a1i r (n+1)];show _=((x,n)::fwd (n+1) (cn r)).reverse++acc;rw [List.reverse_cons,aI];rfl)
theorem a5s:∀ {l:List (Str×NameKind)} {ρ:Loc} {σ:St},(cn l).Nodup→(a0s l ρ σ).2=σ++(cn l).map (fun x=>O.cell (lk x ρ)) ∧
  (∀ x,x∉cn l→(a0s l ρ σ).1.lookup x=ρ.lookup x)∧∀ j x,(cn l)[j]?=some x→(a0s l ρ σ).1.lookup x=some (.r (σ.length+j))
 | [],ρ,σ,_=>⟨(aJ σ).symm,fun x z0=>rfl,fun j x h=>by exact nNS h⟩
 | (y,k)::r,ρ,σ,hn=>by
  by_cases hk:k = .cell
  ·subst hk
   have hn':y∉cn r∧(cn r).Nodup:=bY.mp hn
   refine eaa ?_ (a5s (l:=r) (ρ:=put y (.r σ.length) ρ) (σ:=σ++[.cell (lk y ρ)]) hn'.2);rintro h1 h2 h3
   refine ⟨?_,?_,?_⟩
   ·show (a0s r (put y (.r σ.length) ρ) (σ++[.cell (lk y ρ)])).2=_
    rw [h1]
    simp only [cn_c,bK,aI,aM,bW]
    congr 2
    apply bJ
    intro x hx
    rw [a3o,a3o,a2i,if_neg]
    rintro rfl;exact hn'.1 hx
   ·intro x hx
    have hx':x≠y∧x∉cn r:=⟨fun e=>hx (by rw [e];exact List.mem_cons_self),fun e=>hx (.tail _ e)⟩
    show (a0s r (put y (.r σ.length) ρ) (σ++[.cell (lk y ρ)])).1.lookup x=_
    rw [h2 x hx'.2,a2i,if_neg hx'.1]
   ·intro j x hj
    show (a0s r (put y (.r σ.length) ρ) (σ++[.cell (lk y ρ)])).1.lookup x=_
    induction j using cK with
    | zero =>
     have hj:y=x:=Option.some.inj hj
     subst hj
     rw [h2 _ hn'.1,a2i,if_pos rfl];rfl
    | succ j =>
     have hj:(cn r)[j]?=some x:=hj
     rw [h3 j x hj,bD]
     show some (V.r (σ.length+1+j))=some (V.r (σ.length+(j+1)))
     rw [Nat.add_assoc,Nat.add_comm 1 j]
  ·have e:a0s ((y,k)::r) ρ σ=a0s r ρ σ:=by cases k <;> first | rfl | exact absurd rfl hk
   have e2:cn ((y,k)::r)=cn r:=by cases k <;> first | rfl | exact absurd rfl hk
   rw [e2] at hn
   rw [e,e2]
   exact a5s hn
theorem CellsAre.get {cm:Str→Option Value} {cs:List (Str×Addr)} {cells:List (Addr×Obj)} (h:CellsAre cm cs cells):cells.map (·.1)=cs.map (·.2)∧∀ (j:Nat) (x:Str) (c:Addr),cs[j]?=some (x,c)→∃ o:Obj,cells[j]?=some (c,o)∧o.data = .cell (cm x):=by
 induction h with
 | nil=>exact ⟨rfl,fun j x c h=>by exact nNS h⟩
 | @cons n c o cs cells hd r ih =>
  refine ⟨congrArg (c::·) ih.1,fun j x c' h => ?_⟩
  induction j using cK with
  | zero=>simp at h;revert h;refine aE ?_;rintro rfl rfl;exact ⟨o,rfl,hd⟩
  | succ j=>exact ih.2 j x c' h
theorem cells_fwd {cm:Str→Option Value} {n:Nat} {l:List (Str×NameKind)} {cells:List (Addr×Obj)} (h:CellsAre cm (cellsFrom n l []) cells) :
  cells.length=(cn l).length∧∀ (j:Nat) (x:Str),(cn l)[j]?=some x→∃ o:Obj,cells.reverse[j]?=some (n+j,o)∧o.data = .cell (cm x):=by
 rw [a1i,aJ] at h
 refine aE ?_ (CellsAre.get h);rintro h1 h2
 have hlen:cells.length=(cn l).length:=by
  have:=congrArg List.length h1
  simpa [a5r] using this
 refine ⟨hlen,fun j x hj => ?_⟩
 have hjl:=(aW.mp hj).1
 have e:(fwd n (cn l)).reverse[(cn l).length - 1 - j]?=some (x,n+j):=by
  rw [List.getElem?_reverse (by rw [a5r];exact Nat.lt_of_le_of_lt (Nat.sub_le _ _) (Nat.sub_one_lt_of_lt hjl)),a5r]
  rw [show (cn l).length - 1 - ((cn l).length - 1 - j)=j from Nat.sub_sub_self (Nat.le_sub_one_of_lt hjl)]
  exact b4p hj
 refine exa ?_ (h2 _ _ _ e);rintro o ho hd
 refine ⟨o,?_,hd⟩
 rw [List.getElem?_reverse (by omega),hlen];exact ho
inductive Bd (C:Cx) (B:Buf) (g:G):Loc→List (Str×Value)→Prop
 | nil:Bd C B g [] []
 | cons (x:Str) (v:V) (val:Value) (ρ:Loc) (bs:List (Str×Value)):VRep C B g v val→Bd C B g ρ bs→Bd C B g ((x,v)::ρ) ((x,val)::bs)
section
variable {C:Cx} {B:Buf} {g:G}
theorem Bd.get {ρ:Loc} {bs:List (Str×Value)} (h:Bd C B g ρ bs) (x:Str):(∀ v,ρ.lookup x=some v→∃ val,bs.lookup x=some val∧VRep C B g v val)∧(ρ.lookup x=none→bs.lookup x=none):=by
 induction h with
 | nil=>exact ⟨fun v h=>nNS h,fun z0=>rfl⟩
 | cons y v val ρ bs hv r ih =>
  rw [bH,bH]
  induction x==y with
  | true=>exact ⟨fun v' h=>Option.some.inj h▸⟨val,rfl,hv⟩,fun h=>nSN h⟩
  | false=>exact ih
theorem Bd.of_zip:∀ {ps:List Str} {vs:List V} {vals:List Value},VReps C B g vs vals→Bd C B g (ps.zip vs) (ps.zip vals)
 | [],_,_,_ => .nil
 | p::ps,[],_,h=>by subst h;exact .nil
 | p::ps,_::vs,_,h=>by induction h with | mk v vals h r=>exact .cons _ _ _ _ _ h (Bd.of_zip (vs:=vs) r)
theorem VReps.app:∀ {a b:List V} {x y:List Value},VReps C B g a x→VReps C B g b y→VReps C B g (a++b) (x++y):=by
 intro x_
 induction x_ with
 | nil =>
  intro _ _ _ h k
  subst h;exact k
 | cons _ a IH_ =>
  intro _ _ _ h k
  induction h with | mk v vs h r=>exact .mk _ _ h (IH_ r k)
theorem VReps.drop:∀ {n:Nat} {a:List V} {x:List Value},VReps C B g a x→VReps C B g (a.drop n) (x.drop n)
 | 0,_,_,h=>h
 | n+1,[],_,h=>by subst h;exact .nil
 | n+1,_::a,_,h=>by induction h with | mk v vs h r=>exact VReps.drop (n:=n) (a:=a) r
theorem VReps.of_D {fz:List (Addr×Obj)}:∀ {ds:List D} {vs:List Value},DReps C B g.fz ds vs→VReps C B g (ds.map .d) vs
 | [],_,h=>by subst h;exact .nil
 | _::ds,_,h=>by induction h with | mk v vs h r=>exact .mk _ _ h (VReps.of_D (fz:=fz) (ds:=ds) r)
theorem VReps.length:∀ {a:List V} {x:List Value},VReps C B g a x→a.length=x.length:=by
 intro x_
 induction x_ with
 | nil =>
  intro _ h
  subst h;rfl
 | cons _ a IH_ =>
  intro _ h
  induction h with | mk v vs h r=>exact congrArg (· + 1) (IH_ r)
end
theorem b2v {kindOf:Str→Option NameKind}:∀ {bs:List (Str×Value)} {m:Str→Option Value} {x:Str},(bs.map (·.1)).Nodup→kindOf x=some .local→bindL kindOf bs m x=(match bs.lookup x with | some v=>some v | none=>m x)
 | [],_,_,_,_=>rfl
 | (y,v)::r,m,x,hn,hk=>by
  rw [bK,bY] at hn
  unfold bindL
  rw [b2v hn.2 hk,bH]
  cases e:x==y with
  | true =>
   have e:=eq_of_beq e;subst e
   rw [a1y hn.1,if_pos hk];simp
  | false =>
   have ne:x≠y:=beq_eq_false_iff_ne.mp e
   induction r.lookup x with
   | some u=>rfl
   | none=>dsimp only;split <;> simp [ne]
theorem b2w {kindOf:Str→Option NameKind}:∀ {bs:List (Str×Value)} {m:Str→Option Value} {x:Str},(bs.map (·.1)).Nodup→kindOf x≠some .local→bindC kindOf bs m x=(match bs.lookup x with | some v=>some v | none=>m x)
 | [],_,_,_,_=>rfl
 | (y,v)::r,m,x,hn,hk=>by
  rw [bK,bY] at hn
  unfold bindC
  rw [b2w hn.2 hk,bH]
  cases e:x==y with
  | true =>
   have e:=eq_of_beq e;subst e
   rw [a1y hn.1,if_neg hk];simp
  | false =>
   have ne:x≠y:=beq_eq_false_iff_ne.mp e
   induction r.lookup x with
   | some u=>rfl
   | none=>dsimp only;split <;> simp [ne]
theorem a3g:∀ {ps:List Str} {vs:List V} {ds:List D} {ρ ρ':Loc},bindParams ps vs ds ρ=some ρ' →
  vs.length≤ps.length∧ps.length≤vs.length+ds.length∧ρ'=ρ++ps.zip (vs++(ds.map V.d).drop (vs.length+ds.length - ps.length))
 | ps,[],ds,ρ,ρ',h=>by
  unfold bindParams at h
  cases he:Nat.beq ps.length ds.length with
  | true =>
   rw [he] at h;cases h
   have:=cL he
   simp only [List.length_nil,Nat.zero_add,bW]
   exact ⟨cY _,cP this,by rw [this,Nat.sub_self];rfl⟩
  | false =>
   rw [he] at h
   cases hl:cI ps.length ds.length with
   | false=>rw [hl] at h;exact nNS h
   | true =>
    rw [hl] at h;cases h
    have:=cJ.mp hl
    simp only [List.length_nil,Nat.zero_add,bW]
    refine ⟨cY _,Nat.le_of_lt this,?_⟩
    rw [List.map_drop]
 | p::ps,v::vs,ds,ρ,ρ',h=>by
  unfold bindParams at h
  refine eaa ?_ (a3g h);rintro h1 h2 h3
  refine ⟨by simp;exact h1,by rw [bE,bE,Nat.add_right_comm];exact Nat.succ_le_succ h2,?_⟩
  rw [h3]
  simp only [bE,aM,List.zip_cons_cons,aI,bW]
  rw [show vs.length+1+ds.length - (ps.length+1)=vs.length+ds.length - ps.length by rw [Nat.add_right_comm,Nat.add_sub_add_right]]
 | [],_::_,_,_,_,h=>by unfold bindParams at h;exact nNS h
end Mine
end
section
namespace Mine
open PySem PySem.W PySem.Spec PySem.Calls PyProof.Rows PySem.SeqAt
inductive FnAt (C:Cx) (a:Addr) (fd:FnRec):Prop
 | mk {oc:Value} {od} {osl name qual params dV kV doc pm an cdv ct dvs}:C.K.lookup a=some ⟨oc,od,.func (fnOf name qual params fd.body fd.scope dV kV doc pm an cdv ct),osl⟩→codeIn C.K cdv qual=true →
  params.posonlyargs=[]→params.args.map (·.arg)=fd.params→params.kwonlyargs=[]→params.vararg=none→params.kwarg=none →
  ((dV = .none∧dvs=[])∨∃ t to n,dV = .ref t∧C.K.lookup t=some to∧to.data = .seq (List.toArray dvs) n)→(∀ B fz,DReps C B fz fd.dflts dvs)→FnAt C a fd
structure FnOk (C:Cx) (a:Addr) (fd:FnRec):Prop where
 at_:FnAt C a fd
 dl:fd.dflts.length≤fd.params.length
 nodup:fd.params.Nodup
 par:∀ y∈fd.params,fd.scope.names.lookup y=some .local∨fd.scope.names.lookup y=some .cell
 names:namesOk fd.scope=true
 nofree:∀ x∈fd.scope.names,x.2 ≠ .free
 cells:(cn fd.scope.names).Nodup
 cellAt:∀ x∈cn fd.scope.names,fd.scope.names.lookup x=some .cell
 co:fd.scope.isCoroutine=false
 gen:fd.scope.isGenerator=false
 kind:fd.scope.kind = .function
section
variable {C:Cx} {ih:IH R} {n:Nat} {B:Buf} {f:Fm} {rs:List (Addr×Obj)} {ρ:Loc} {σ:St} {g:G} {s:Shared} {E:Value→Shared→Prop}
theorem Rel.toOwn (Rl:Rel C B f rs ρ σ g s):Own C B rs σ g:=⟨Rl.lenA,Rl.lenO,Rl.nodup,Rl.own,Rl.rsF,Rl.rsA⟩
theorem Own.toRel (O:Own C B rs σ g) {m:Str→Option Value} (F:Fr f.h₀ f.L s.heap m) (l:LocD C B f rs ρ g s.heap m) (N:News f.h₀ f.L s.heap (g.led rs)) (e1:s.gens=f.gens) (e2:s.os=f.os):Rel C B f rs ρ σ g s :=
 ⟨⟨m,F,l⟩,N,O.lenA,O.lenO,O.nodup,O.own,O.rsF,O.rsA,e1,e2⟩
theorem a8c {α:Type} {l:List α} (h:l.Nodup):l.reverse.Nodup:=(List.reverse_perm l).nodup_iff.mpr h
theorem zip_fst_snd {α β:Type}:∀ (l:List (α×β)),(l.map (·.1)).zip (l.map (·.2))=l:=by
 intro x_
 induction x_ with
 | nil =>
  exact rfl
 | cons x l IH_ =>
  simp [IH_]
theorem b2x {fd:FnRec} (fc:(cn fd.scope.names).Nodup) (fca:∀ x∈cn fd.scope.names,fd.scope.names.lookup x=some .cell) (fnf:∀ x∈fd.scope.names,x.2 ≠ .free) {qual:Str} {a:Addr} {cdv:Value} {gH h₁:Heap} {L':Addr} {tk:Nat} {cells news:List (Addr×Obj)} {binds:List (Str×Value)} {f1:Fm}
  (fe:f1.env=envOfC qual fd.scope L' a cdv) (fl:f1.L=L') (fh:f1.h₀=gH) (hg:s.gens=f1.gens) (hos:s.os=f1.os)
  (F':Fr gH L' h₁ (bindL (envOfC qual fd.scope L' a cdv).kindOf binds fun z0=>none)) (N':News gH L' h₁ (cells++news)) (Ce:CellsAre (bindC (envOfC qual fd.scope L' a cdv).kindOf binds fun z0=>none) (cellsFrom (L'+1) fd.scope.names []) cells) (big:sysModules < L') (lt:∀ p∈news,p.1 < L')
  {rs0:List (Addr×Obj)} {σ0:St} {g0:G} (O:Own C B rs0 σ0 g0) (sub:∀ p∈g0.led rs0,p∈news) {ρ0:Loc} (bd:Bd C B g0 ρ0 binds) (hnd:(binds.map (·.1)).Nodup) :
  ∃ g1,Rel C B f1 rs0 (a0s fd.scope.names ρ0 σ0).1 (a0s fd.scope.names ρ0 σ0).2 g1 { s with heap:=h₁,toks:=tk }∧Ext g0 g1:=by
 refine aE ?_ (cells_fwd Ce);rintro cl cg
 refine eaa ?_ (a5s (l:=fd.scope.names) (ρ:=ρ0) (σ:=σ0) fc);rintro m1 m2 m3
 generalize hmk:a0s fd.scope.names ρ0 σ0=mk at m1 m2 m3 ⊢
 obtain ⟨ρ1,σ1⟩:=mk
 dsimp only at m1 m2 m3 ⊢
 subst m1
 let g1:G:=⟨g0.as++cells.reverse.map (·.1),g0.os++cells.reverse.map (·.2),g0.fz⟩
 have x1:Ext g0 g1:=⟨List.prefix_append _ _,fun z0 h=>h⟩
 have led1:∀ p∈g1.led rs0,p∈cells++news:=by
  intro p hp
  rcases bM.mp hp with hp | hp
  ·show p∈cells++news
   have hz:g1.as.zip g1.os=g0.as.zip g0.os++cells.reverse:=by
    show (g0.as++_).zip (g0.os++_)=_
    rw [List.zip_append (by rw [O.lenA,O.lenO]),zip_fst_snd]
   rw [hz] at hp
   rcases bM.mp hp with hp | hp
   ·exact bO _ (sub _ (bN _ hp))
   ·exact bN _ (List.mem_reverse.mp hp)
  ·exact bO _ (sub _ (bO _ hp))
 have N1:News gH L' h₁ (g1.led rs0):=fun p hp=>N' p (led1 p hp)
 have asLt:∀ b∈g0.as,b < L':=by
  intro b hb
  refine xE ?_ (bS.mp hb);rintro i hi
  have hlt:=(aW.mp hi).1
  exact lt (b,g0.os[i]'(by rw [O.lenO,← O.lenA];exact hlt)) (sub _ (a2f hi (by simp)))
 have cAt:∀ (j:Nat) (p:Addr×Obj),cells.reverse[j]?=some p→∃ x,(cn fd.scope.names)[j]?=some x∧p.1=L'+1+j∧p.2.data = .cell (bindC (envOfC qual fd.scope L' a cdv).kindOf binds (fun z0=>none) x):=by
  intro j p hp
  have hj:=(aW.mp hp).1
  rw [List.length_reverse,cl] at hj
  refine exa ?_ (cg j _ (aV hj));rintro o e1 e2
  rw [hp] at e1;cases e1
  exact ⟨_,aV hj,rfl,e2⟩
 have O1:Own C B rs0 (σ0++(cn fd.scope.names).map fun x=>Mine.O.cell (lk x ρ0)) g1:=by
  refine ⟨by simp [g1,O.lenA,cl],by simp [g1,O.lenO,cl],?_,?_,O.rsF,?_⟩
  ·show (g0.as++_).Nodup
   rw [bX]
   refine ⟨O.nodup,?_,?_⟩
   ·rw [List.nodup_iff_pairwise_ne,List.pairwise_iff_getElem]
    intro i j hi hj hij
    simp only [bF] at hi hj
    refine exaa ?_ (cAt i _ (aV hi));rintro _ _ e1 _
    refine exaa ?_ (cAt j _ (aV hj));rintro _ _ e2 _
    simp only [List.getElem_map]
    intro e
    have e:(cells.reverse[i]).1=(cells.reverse[j]).1:=e
    rw [e1,e2] at e
    exact absurd (Nat.add_left_cancel e) (cX hij)
   ·intro b hb c hc e
    refine exa ?_ (bT.mp hc);rintro p hp e2
    refine xE ?_ (bS.mp hp);rintro j hj
    refine exaa ?_ (cAt j _ hj);rintro _ _ e1 _
    have b1:=asLt b hb
    rw [e,← e2,e1] at b1
    exact absurd b1 (Nat.not_lt.mpr (cS (cR _) (cN _ _)))
  ·intro j oj aj obj hj haj hoj
   by_cases hlt:j < σ0.length
   ·rw [aS hlt] at hj
    have haj':g0.as[j]?=some aj:=by rw [← haj];exact (aS (by rw [O.lenA];exact hlt)).symm
    have hoj':g0.os[j]?=some obj:=by rw [← hoj];exact (aS (by rw [O.lenO];exact hlt)).symm
    have qq:=O.own j oj aj obj hj haj' hoj'
    exact ⟨qq.1.ext x1,qq.2.1,qq.2.2.1,qq.2.2.2.1,qq.2.2.2.2⟩
   ·have hge:σ0.length≤j:=Nat.not_lt.mp hlt
    rw [aT hge] at hj
    have haj':(cells.reverse.map (·.1))[j - σ0.length]?=some aj:=by rw [← haj];show _=(g0.as++_)[j]?;rw [aT (by rw [O.lenA];exact hge),O.lenA]
    have hoj':(cells.reverse.map (·.2))[j - σ0.length]?=some obj:=by rw [← hoj];show _=(g0.os++_)[j]?;rw [aT (by rw [O.lenO];exact hge),O.lenO]
    rw [aX] at hj haj' hoj'
    refine exa ?_ (Option.map_eq_some_iff.mp haj');rintro p hp rfl
    rw [hp] at hoj';cases hoj'
    refine exaa ?_ (cAt _ _ hp);rintro x hx e1 e2
    rw [hx] at hj;cases hj
    have hxm:=bU hx
    have hk:=fca x hxm
    have hkn:(envOfC qual fd.scope L' a cdv).kindOf x≠some .local:=by
     show fd.scope.names.lookup x≠_
     rw [hk];exact fun e=>by cases e
    rw [b2w hnd hkn] at e2
    refine ⟨?_,fun z0 q hq => ?_,fun e=>(by exact nTF e),fun y e=>(by cases e),?_⟩
    ·dsimp only
     rw [a3o]
     refine aE ?_ (bd.get x);rintro g1' g2'
     cases hl:ρ0.lookup x with
     | none =>
      rw [g2' hl] at e2;exact e2
     | some v =>
      refine exa ?_ (g1' v hl);rintro val hval hr
      rw [hval] at e2
      exact ⟨val,e2,hr.ext x1⟩
    ·have:q.1 < L':=lt q (sub _ (a1g hq))
     rw [e1];exact cX (cU this (cS (cR _) (cN _ _)))
    ·rw [e1];exact beq_eq_false_iff_ne.mpr (Nat.ne_of_gt (cU big (cS (cR _) (cN _ _))))
  ·intro q hq b hb
   rcases bM.mp hb with hb | hb
   ·exact O.rsA q hq b hb
   ·refine exa ?_ (bT.mp hb);rintro p hp e2
    refine xE ?_ (bS.mp hp);rintro j hj
    refine exaa ?_ (cAt j _ hj);rintro _ _ e1 _
    have:q.1 < L':=lt q (sub _ (a0l hq))
    rw [← e2,e1];exact Nat.ne_of_gt (cU this (cS (cR _) (cN _ _)))
 have lr:LRep C B f1.env ρ1 g1 (bindL (envOfC qual fd.scope L' a cdv).kindOf binds fun z0=>none):=by
  rw [fe]
  intro x v hx
  refine ⟨fun hk => ?_,fun hk i e => ?_⟩
  ·have hnc:x∉cn fd.scope.names:=fun hm=>by
    have:=fca x hm
    have hk:fd.scope.names.lookup x=some .local:=hk
    rw [this] at hk;cases hk
   rw [m2 x hnc] at hx
   refine exa ?_ ((bd.get x).1 v hx);rintro val h1 h2
   exact ⟨val,by rw [b2v hnd hk,h1],h2.ext x1⟩
  ·have hk:fd.scope.names.lookup x=some .cell:=by
    rcases hk with hk | hk
    ·exact hk
    ·exact absurd rfl (fnf _ (lookup_mem hk))
   have hxm:=cn_mem.mpr (lookup_mem hk)
   refine xE ?_ (bS.mp hxm);rintro j hj
   rw [m3 j x hj] at hx
   subst e;cases hx
   refine exa ?_ (cg j x hj);rintro o e1 e2
   refine ⟨L'+1+j,?_,?_⟩
   ·show (g0.as++_)[σ0.length+j]?=_
    rw [aT (by rw [O.lenA];exact cN _ _),O.lenA,Nat.add_sub_cancel_left,aX,e1];rfl
   ·show (cellsFrom (L'+1) fd.scope.names []).lookup x=_
    refine lookup_of_mem_nodup (by rw [a1i,aJ,List.map_reverse,b4o];exact a8c fc) ?_
    rw [a1i,aJ,List.mem_reverse]
    exact bU (b4p hj)
 refine ⟨g1,O1.toRel (f:=f1) (by rw [fh,fl];exact F') (.inl ⟨by rw [fe,fl];rfl,lr⟩) (by rw [fh,fl];exact N1) hg hos,x1⟩
structure Entered (f f1:Fm) (m:Str→Option Value):Prop where
 A:f1.A=f.A.deeper f1.env
 A₀:f1.A₀=f.A
 env₀:f1.env₀=f1.env
 outer:f1.outer=f.env₀::f.outer
 base:f1.base=f.base
 L:f1.env.locals=f1.L
 gens:f1.gens=f.gens
 os:f1.os=f.os
 fr:Fr f.h₀ f.L f1.h₀ m
theorem b2y {a:Addr} {fd:FnRec} (fo:FnOk C a fd) (ok:FmOk C f) (rd:f.A.depth+1+2 * n≤900) (ru:f.A.units+3+8 * n≤9700) {m:Str→Option Value} (F:Fr f.h₀ f.L s.heap m) {news:List (Addr×Obj)} (N:News f.h₀ f.L s.heap news) (hg:s.gens=f.gens) (hos:s.os=f.os)
  {rs0:List (Addr×Obj)} {σ0:St} {g0:G} (O:Own C B rs0 σ0 g0) (sub:∀ p∈g0.led rs0,p∈news) {args:List V} {vals:List Value} (hv:VReps C B g0 args vals) {ρ0:Loc} (hb:bindParams fd.params args fd.dflts []=some ρ0)
  {Rr:Result→Shared→Prop}
  (q:∀ (f1:Fm) (g1:G) (s1:Shared),FmOk C f1→Room f1 n→f1.sc=fd.scope→Entered f f1 m→Rel C B f1 rs0 (a0s fd.scope.names ρ0 σ0).1 (a0s fd.scope.names ρ0 σ0).2 g1 s1→Ext g0 g1 →
   wpAny C.M f1.A (execs fd.body f1.env) (fun fl s'=>LeaveK f.h₀ f.L m f1.h₀ Rr (match fl with | .ret v=>v | _ => .none) s') (fun e s'=>wpAny C.M f1.A (leaving f1.env e) (fun z0 s''=>Rr (.error e) s'') (fun e' s''=>Rr (.error e') s'') s') s1) :
  codeAny C.M f.A (.call (.ref a) ⟨vals,[]⟩) Rr s:=by
 induction fo.at_ with
 | @mk oc od osl name qual params dV kV doc pm an cdv ct dvs hK hcd p1 p2 p3 p4 p5 hdv hds =>
  have X:=ok.inK.keeps F.keep
  refine eaa ?_ (a3g hb);rintro b1 b2 b3
  rw [bW] at b3
  have hdl:fd.dflts.length=dvs.length:=(hds B []).length
  have hal:args.length=vals.length:=hv.length
  have bd:Bd C B g0 ρ0 (fd.params.zip (vals++dvs.drop (vals.length+dvs.length - fd.params.length))):=by
   rw [b3,hal,hdl]
   exact Bd.of_zip (hv.app (VReps.drop (VReps.of_D (fz:=g0.fz) (hds B g0.fz))))
  generalize hbs:fd.params.zip (vals++dvs.drop (vals.length+dvs.length - fd.params.length))=binds at bd
  have hbind:BindsTo s (fnOf name qual params fd.body fd.scope dV kV doc pm an cdv ct) ⟨vals,[]⟩ binds:=by
   rw [← hbs]
   refine a8b (fd:=fnOf name qual params fd.body fd.scope dV kV doc pm an cdv ct) p1 p2 p3 p4 p5 ?_ fo.nodup (by omega) (by omega) (by have:=fo.dl;omega)
   intro M A E Q hQ
   rcases hdv with z0_ | z1_
   ·revert z0_;refine aE ?_;rintro rfl rfl
    exact wpAny_pure (hQ none rfl)
   ·revert z1_;refine exxx ?_;rintro t to nn;refine eaa ?_;rintro rfl ht hd
    exact wpAny_seqItems (X _ _ ht) hd (hQ _ (by simp))
  have hkeys:binds.map (·.1)=fd.params:=by
   rw [← hbs];exact map_fst_zip (by simp;omega)
  have hnd:(binds.map (·.1)).Nodup:=by rw [hkeys];exact fo.nodup
  refine code_defC ok.below F ok.inK N ok.top ok.frames ok.frame ok.kind₀ hK hcd (by show _ < 1000;omega) hbind (aF.mpr fun y hy => ?_) (by
   rw [a1i,aJ,List.map_reverse,b4o]
   exact a8c fo.cells) (fun gH L' h₁ tk cells FG F' N' Ce Bl Kin Tp lt => ?_) fo.co fo.gen fo.kind
  ·have:y.1∈fd.params:=by rw [← hkeys];exact bT.mpr ⟨y,hy,rfl⟩
   rcases fo.par _ this with e | e <;> rw [e] <;> rfl
  ·let f1:Fm:={ A:=f.A.deeper (envOfC qual fd.scope L' a cdv),A₀:=f.A,env:=envOfC qual fd.scope L' a cdv,env₀:=envOfC qual fd.scope L' a cdv,outer:=f.env₀::f.outer,base:=f.base,h₀:=gH,L:=L',p:=f.p,loose:=f.loose,mean:=f.mean,mg:=f.mg,mb:=f.mb,sc:=fd.scope,gens:=f.gens,os:=f.os,mL:=fun z0=>none }
   have ok1:FmOk C f1:=by
    refine ⟨fo.names,Bl,Kin,Tp,Around.frames_deeper ok.frames,rfl,fo.kind,fo.kind,ok.handled,rfl,rfl,?_⟩
    intro x kd hx
    have hx':f1.env.kindOf x=some kd:=hx
    refine ⟨fun e=>by rw [hx',e],fun e=>by rw [hx',e],fun e => ?_,fun e=>by rw [hx',e]⟩
    rcases e with e | e
    ·exact .inl (by rw [hx',e])
    ·exact .inr (by rw [hx',e])
   refine exa ?_ (b2x (s:=s) (f1:=f1) (tk:=tk) fo.cells fo.cellAt fo.nofree rfl rfl rfl hg hos F' N' Ce (cU (modules_low Tp.nolimit) F'.above) lt O sub bd hnd);rintro g1 R1 x1
   exact q f1 g1 _ ok1 ⟨rd,ru⟩ rfl ⟨rfl,rfl,rfl,rfl,rfl,rfl,rfl,rfl,FG⟩ R1 x1
theorem a5e (S:Snd C ih n) {a:Addr} {fd:FnRec} (fo:FnOk C a fd) (ok:FmOk C f) (rd:f.A.depth+1+2 * n≤900) (ru:f.A.units+3+8 * n≤9700) {m:Str→Option Value} (F:Fr f.h₀ f.L s.heap m) {news:List (Addr×Obj)} (N:News f.h₀ f.L s.heap news) (hg:s.gens=f.gens) (hos:s.os=f.os)
  {rs0:List (Addr×Obj)} {σ0:St} {g0:G} (O:Own C B rs0 σ0 g0) (sub:∀ p∈g0.led rs0,p∈news) {args:List V} {vals:List Value} (hv:VReps C B g0 args vals) {k:V→St→Option R} (h:a0f ih fd args σ0 k=some r)
  {Rr:Result→Shared→Prop}
  (q:∀ v u σ' g' s',k v σ'=some r→Own C B rs0 σ' g'→Ext g0 g'→VRep C B g' v u→Fr f.h₀ f.L s'.heap m→News f.h₀ f.L s'.heap (g'.led rs0)→s'.gens=f.gens→s'.os=f.os→Rr (.ok (.ret u)) s') :
  codeAny C.M f.A (.call (.ref a) ⟨vals,[]⟩) Rr s:=by
 refine exa ?_ (a0i (show optK (bindParams fd.params args fd.dflts []) _=_ from h));rintro ρ0 hb h
 refine b2y fo ok rd ru F N hg hos O sub hv hb fun f1 g1 s1 ok1 rm1 e1 en R1 x1 => ?_
 have h':evSs ih f1.sc fd.body (a0s fd.scope.names ρ0 σ0).1 (a0s fd.scope.names ρ0 σ0).2 ⟨fun z0 σ=>k (.d .none) σ,k,fun z0 z0=>none,fun z0 z0=>none⟩=some r:=by rw [e1];exact h
 have fin:∀ (v:V) (u:Value) ρ' σ' g' s',k v σ'=some r→Rel C B f1 rs0 ρ' σ' g' s'→Ext g1 g'→VRep C B g' v u→LeaveK f.h₀ f.L m f1.h₀ Rr u s':=by
  intro v u ρ' σ' g' s' hk R' X' hu
  refine exa ?_ R'.loc;rintro m' F'' _
  exact leaveK_ F'' R'.news fun Fo No=>q v u σ' g' s' hk R'.toOwn (x1.trans X') hu Fo No (R'.gens.trans en.gens) (R'.os.trans en.os)
 exact a2p S h' ok1 en.L rm1 R1 ⟨fun ρ' σ' g' s' hk R' X'=>fin (.d .none) .none ρ' σ' g' s' hk R' X' rfl,fun ρ' v u σ' g' s' hk R' X' hu=>fin v u ρ' σ' g' s' hk R' X' hu,fun z0 z0 z0 z0 hk=>no hk,fun z0 z0 z0 z0 hk=>no hk⟩
end
end Mine
end
section
namespace Mine
open PySem PySem.W PySem.Spec PySem.Calls PyProof.Rows PySem.SeqAt
noncomputable def mo (g:G):List (Addr×Obj):=(g.as.zip g.os).filter fun p=>g.fz.all fun q => !(q.1==p.1)
theorem mo_mem {g:G} {p:Addr×Obj}:p∈mo g↔p∈g.as.zip g.os∧∀ q∈g.fz,q.1≠p.1:=by
 unfold mo
 rw [bQ,aF]
 simp
section
variable {C:Cx} {ih:IH R} {n:Nat} {B:Buf} {f:Fm} {rs:List (Addr×Obj)} {ρ:Loc} {σ:St} {g:G} {s:Shared} {E:Value→Shared→Prop}
theorem Rel.iso (Rl:Rel C B f rs ρ σ g s) (B':Buf):Own C B' (mo g++rs) [] ⟨[],[],g.fz⟩∧∀ p∈G.led ⟨[],[],g.fz⟩ (mo g++rs),p∈g.led rs:=by
 refine ⟨⟨rfl,rfl,bZ,fun i o a ob h=>by simp at h,fun q hq p hp => ?_,fun q hq a ha=>by cases ha⟩,fun p hp => ?_⟩
 ·rcases bM.mp hq with hq | hq
  ·exact (mo_mem.mp hq).2 p hp
  ·exact Rl.rsF q hq p hp
 ·rcases bM.mp hp with hp | hp
  ·cases hp
  ·rcases bM.mp hp with hp | hp
   ·exact a1g hp
   ·rcases bM.mp hp with hp | hp
    ·exact bN _ (mo_mem.mp hp).1
    ·exact a0l hp
theorem Rel.back (Rl:Rel C B f rs ρ σ g s) {m:Str→Option Value} (l:LocD C B f rs ρ g s.heap m) {fz':List (Addr×Obj)} (hs:g.fz⊆fz') (hF:∀ q∈mo g++rs,∀ p∈fz',p.1≠q.1) {s':Shared} (Fo:Fr f.h₀ f.L s'.heap m)
  (No:∀ p∈fz'++(mo g++rs),s'.heap.get? p.1=some p.2∧p.1≠f.L∧f.h₀.get? p.1=none) (e1:s'.gens=f.gens) (e2:s'.os=f.os):Rel C B f rs ρ σ ⟨g.as,g.os,fz'⟩ s'∧Ext g ⟨g.as,g.os,fz'⟩:=by
 have x:Ext g ⟨g.as,g.os,fz'⟩:=⟨cD _,hs⟩
 have N':News f.h₀ f.L s'.heap (G.led ⟨g.as,g.os,fz'⟩ rs):=by
  intro p hp
  rcases bM.mp hp with hp | hp
  ·by_cases hc:∀ q∈g.fz,q.1≠p.1
   ·exact No p (bO _ (bN _ (mo_mem.mpr ⟨hp,hc⟩)))
   ·have:∃ q∈g.fz,q.1=p.1:=by
     apply Classical.byContradiction
     intro hne
     exact hc fun q hq e=>hne ⟨q,hq,e⟩
    revert this;refine exa ?_;rintro q hq e
    have a1:=(Rl.news p (bN _ hp)).1
    have a2:=(Rl.news q (a1g hq)).1
    rw [e,a1] at a2
    have:p=q:=Prod.ext e.symm (Option.some.inj a2)
    rw [this]
    exact No q (bN _ (hs hq))
  ·rcases bM.mp hp with hp | hp
   ·exact No p (bN _ hp)
   ·exact No p (bO _ (bO _ hp))
 refine ⟨⟨⟨m,Fo,LocD.move x Rl.news N' l⟩,N',Rl.lenA,Rl.lenO,Rl.nodup,fun i o a ob h1 h2 h3 => ?_,fun q hq p hp=>hF q (bO _ hq) p hp,Rl.rsA,e1,e2⟩,x⟩
 have qq:=Rl.own i o a ob h1 h2 h3
 refine ⟨qq.1.ext x,fun e p hp => ?_,fun e=>hs (qq.2.2.1 e),fun y e=>(qq.2.2.2.1 y e).mono hs,qq.2.2.2.2⟩
 have hz:(a,ob)∈g.as.zip g.os:=bS.mpr ⟨i,bB.mpr ⟨h2,h3⟩⟩
 exact hF (a,ob) (bN _ (mo_mem.mpr ⟨hz,qq.2.1 e⟩)) p hp
theorem Rel.away (Rl:Rel C B f rs ρ σ g s) {m:Str→Option Value} (l:LocD C B f rs ρ g s.heap m) {B':Buf} {rs0:List (Addr×Obj)} {σ':St} {g':G} {s':Shared} (O:Own C B' rs0 σ' g') (Fo:Fr f.h₀ f.L s'.heap m) (No:News f.h₀ f.L s'.heap (g'.led rs0)) (hr:∀ p∈rs,p∈rs0) (e1:s'.gens=f.gens) (e2:s'.os=f.os) :
  Rel C B' f rs0 [] σ' g' s':=by
 have nil:∀ m,LRep C B' f.env [] g' m:=fun m x v h=>by exact nNS h
 refine O.toRel Fo ?_ No e1 e2
 rcases l with z0_ | z1_
 ·revert z0_;refine aE ?_;rintro e _
  exact .inl ⟨e,nil _⟩
 ·obtain ⟨em,o,mC,hm,ns,_⟩:=z1_
  refine .inr ⟨em,o,mC,hr _ hm,ns.at' fun o' e => ?_,nil _⟩
  have a1:=(Rl.news _ (a0l hm)).1
  have a2:=(No _ (a0l (hr _ hm))).1
  dsimp only at a1 a2
  rw [a1] at e;cases e;exact a2
theorem b2z:∀ {args:List V} {vals:List Value} {ds:List D} {g':G},allD args=some ds→VReps C B g args vals→g'.fz=g.fz→VReps C B g' args vals∧args=ds.map .d:=by
 intro x_
 induction x_ with
 | nil =>
  intro _ ds g' h hv e
  subst hv;have h_:=Option.some.inj h;subst h_;exact ⟨.nil,rfl⟩
 | cons v a IH_ =>
  intro _ ds g' h hv e
  induction hv with | mk val vals h1 h2 =>
  induction v with
  | r _=>exact no h
  | d x =>
   have h:(match allD a with | some xs=>some (x::xs) | none=>none)=some ds:=h
   cases h3:allD a with
   | none=>rw [h3] at h;exact no h
   | some xs =>
    rw [h3] at h
    have h_:=Option.some.inj h;subst h_
    refine aE ?_ (IH_ (g':=g') h3 h2 e);rintro i1 i2
    exact ⟨.mk _ _ (show DRep C B g'.fz x _ from e▸h1) i1,by rw [i2];rfl⟩
theorem a6u (ok:FmOk C f) (Rl:Rel C B f rs ρ σ g s) {m:Str→Option Value} (l:LocD C B f rs ρ g s.heap m) {B':Buf} {σ':St} {g0 g':G} {s':Shared} (h0:g0.fz=g.fz) (O:Own C B' (mo g++rs) σ' g') (X:Ext g0 g') (Fo:Fr f.h₀ f.L s'.heap m) (No:News f.h₀ f.L s'.heap (g'.led (mo g++rs))) (e1:s'.gens=f.gens) (e2:s'.os=f.os)
  {v:V} {u:Value} (hu:VRep C B' g' v u) {k:D→St→Option R} (h:toD v σ' k=some r):∃ d σ'' fz'',k d σ''=some r∧Rel C B f rs ρ σ ⟨g.as,g.os,fz''⟩ s'∧Ext g ⟨g.as,g.os,fz''⟩∧DRep C B' fz'' d u:=by
 have R1:=Rl.away l O Fo No (fun p hp=>bO _ hp) e1 e2
 induction to_D h ok R1 hu with | mk d σ2 g2 h2 R2 X2 _ _ dr =>
 refine aE ?_ (Rl.back l (fz':=g2.fz) (fun z0 hx=>X2.fz (X.fz (h0▸hx))) R2.rsF Fo (fun p hp=>R2.news p (bO _ hp)) e1 e2);rintro R3 X3
 exact ⟨d,σ2,g2.fz,h2,R3,X3,dr⟩
theorem onList_inv {F:List D→Option R} {o:O} (h:a4q o F=some r):∃ xs,o = .list xs∧F xs=some r:=by
 induction o with
 | list xs=>exact ⟨xs,rfl,h⟩
 | _=>exact no h
theorem Rel.old (Rl:Rel C B f rs ρ σ g s) {g':G} {aa:Addr} (hf:∀ q∈g'.fz,q.1≠aa) (hA:∀ q∈mo g++rs,aa≠q.1) (hs:g.fz⊆g'.fz) {p:Addr×Obj} (hp:p∈g.as.zip g.os):p.1≠aa:=by
 by_cases hc:∀ q∈g.fz,q.1≠p.1
 ·exact (hA p (bN _ (mo_mem.mpr ⟨hp,hc⟩))).symm
 ·have:∃ q∈g.fz,q.1=p.1:=Classical.byContradiction fun hne=>hc fun q hq e=>hne ⟨q,hq,e⟩
  revert this;refine exa ?_;rintro q hq e
  exact e▸hf q (hs hq)
theorem own_back (ok:FmOk C f) (Rl:Rel C B f rs ρ σ g s) {m:Str→Option Value} (l:LocD C B f rs ρ g s.heap m) {σ':St} {g0 g':G} {s':Shared} (h0:g0.fz=g.fz) (O:Own C B (mo g++rs) σ' g') (X:Ext g0 g') (Fo:Fr f.h₀ f.L s'.heap m) (No:News f.h₀ f.L s'.heap (g'.led (mo g++rs))) (e1:s'.gens=f.gens) (e2:s'.os=f.os)
  {i:Nat} {u:Value} (hu:VRep C B g' (.r i) u) {k:V→St→Option R} (h:(own σ' i fun o=>a4q o fun xs=>k (.r σ.length) (σ++[.list xs]))=some r) :
  ∃ σ2 g2,k (.r σ.length) σ2=some r∧Rel C B f rs ρ σ2 g2 s'∧Ext g g2∧VRep C B g2 (.r σ.length) u:=by
 have R1:=Rl.away l O Fo No (fun p hp=>bO _ hp) e1 e2
 induction a4w h R1 hu with | mk o aa ob ho haa hob hg w1 w5 h =>
 refine exa ?_ (onList_inv h);rintro xs rfl h
 have hs:g.fz⊆g'.fz:=fun z0 hx=>X.fz (h0▸hx)
 have w2:=(O.own i _ _ _ ho haa hob).2.1 rfl
 have hA:∀ q∈mo g++rs,aa≠q.1:=fun q hq=>O.rsA q hq aa (bU haa)
 refine aE ?_ (Rl.back l hs O.rsF Fo (fun p hp=>No p (bO _ hp)) e1 e2);rintro R3 X3
 refine exa ?_ R3.loc;rintro m3 F3 l3
 have nw:∀ p∈(aa,ob)::G.led ⟨g.as,g.os,g'.fz⟩ rs,s'.heap.get? p.1=some p.2∧p.1≠f.L∧f.h₀.get? p.1=none:=fun p hp=>by
  rcases bP.mp hp with e | hp
  ·exact e▸No _ (a2f haa hob)
  ·exact R3.news p hp
 have nq:∀ p∈G.led ⟨g.as,g.os,g'.fz⟩ rs,p.1≠aa:=fun p hp=>by
  rcases bM.mp hp with hp | hp
  ·exact Rl.old w2 hA hs hp
  ·rcases bM.mp hp with hp | hp
   ·exact w2 p hp
   ·exact (hA p (bO _ hp)).symm
 refine aE ?_ (R3.allocA (a₀:=aa) (o := .list xs) (ob:=ob) (h':=s'.heap) (t:=s'.toks) rfl l3 F3 nw w1 nq w5);rintro R4 X4
 exact ⟨_,_,h,R4,X3.trans X4,aa,by show (g.as++[aa])[σ.length]?=_;rw [← Rl.lenA,aU],rfl⟩
theorem iso_snd (S:Snd C ih n) {a:Addr} {fd:FnRec} (fo:FnOk C a fd) (ok:FmOk C f) (rd:f.A.depth+1+2 * n≤900) (ru:f.A.units+3+8 * n≤9700) (Rl:Rel C B f rs ρ σ g s) {args:List V} {vals:List Value} {ds:List D} (hd:allD args=some ds) (hv:VReps C B g args vals) {own:Bool} {k:V→St→Option R} {Q:Value→Shared→Prop}
  (h:a0f ih fd args [] (fun v σ'=>a4s own v σ' σ k)=some r) (q:QV C B f rs ρ g k r Q):wpAny C.M f.A (call (.ref a) vals) Q E s:=by
 refine exa ?_ Rl.loc;rintro m F l
 refine aE ?_ (Rl.iso B);rintro O0 sub
 refine wpAny_call (a5e S fo ok rd ru F Rl.news Rl.gens Rl.os O0 sub (b2z (g':=⟨[],[],g.fz⟩) hd hv rfl).1 h fun v u σ' g' s' hk O' X' hu Fo No e1 e2 => ?_)
 show Q u s'
 induction v with
 | d x =>
  refine aE ?_ (Rl.back l X'.fz O'.rsF Fo (fun p hp=>No p (bO _ hp)) e1 e2);rintro R3 X3
  exact q _ _ _ _ _ hk R3 X3 hu
 | r i =>
  induction own with
  | false =>
   refine exxx ?_ (a6u ok Rl l (g0:=⟨[],[],g.fz⟩) rfl O' X' Fo No e1 e2 hu (show toD (.r i) σ' (fun x z0=>k (.d x) σ)=some r from hk));rintro d σ'' fz'';refine eaaa ?_;rintro h2 R3 X3 dr
   exact q (.d d) _ _ _ _ h2 R3 X3 dr
  | true =>
   refine exxa ?_ (own_back ok Rl l (g0:=⟨[],[],g.fz⟩) rfl O' X' Fo No e1 e2 hu hk);rintro σ2 g2 h2;refine eaa ?_;rintro R3 X3 vr
   exact q (.r σ.length) _ _ _ _ h2 R3 X3 vr
theorem buf_snd (S:Snd C ih n) {a:Addr} {fd:FnRec} (fo:FnOk C a fd) (ok:FmOk C f) (rd:f.A.depth+1+2 * n≤900) (ru:f.A.units+3+8 * n≤9700) (Rl:Rel C B f rs ρ σ g s) (B':Buf) {args:List V} {vals:List Value} (hv:VReps C B' ⟨[],[],g.fz⟩ args vals) {k:V→St→Option R} {Q:Value→Shared→Prop}
  (h:a0f ih fd args [] (fun v σ'=>a0x v σ' σ k)=some r) (q:QV C B f rs ρ g k r Q):wpAny C.M f.A (call (.ref a) vals) Q E s:=by
 refine exa ?_ Rl.loc;rintro m F l
 refine aE ?_ (Rl.iso B');rintro O0 sub
 refine wpAny_call (a5e S fo ok rd ru F Rl.news Rl.gens Rl.os O0 sub hv h fun v u σ' g' s' hk O' X' hu Fo No e1 e2 => ?_)
 show Q u s'
 refine exxx ?_ (a6u ok Rl l (g0:=⟨[],[],g.fz⟩) rfl O' X' Fo No e1 e2 hu (show toD v σ' (fun x z0=>bif a8v x then k (.d x) σ else none)=some r from hk));rintro d σ'' fz'';refine eaaa ?_;rintro h2 R3 X3 dr
 refine aE ?_ (a4u h2);rintro hz h2
 exact q (.d d) _ _ _ _ h2 R3 X3 (dr.anyB hz)
end
end Mine
end
section
namespace Mine
open PySem PySem.W PySem.Spec PySem.Calls PyProof.Rows PySem.SeqAt
noncomputable def G.take (n:Nat) (g:G):G:=⟨g.as.take n,g.os.take n,g.fz⟩
noncomputable def G.cat (g g':G):G:=⟨g.as++g'.as,g.os++g'.os,g'.fz⟩
section
variable {C:Cx} {B:Buf} {g g':G} {n:Nat}
theorem VRep.take:∀ {v:V} {val:Value},a9a n v=true→VRep C B g v val→VRep C B (g.take n) v val
 | .d _,_,_,h=>h
 | .r i,_,e,⟨a,ha,hv⟩=>⟨a,by
  have:i < n:=cJ.mp e
  show (g.as.take n)[i]?=_
  rw [bA,if_pos this];exact ha,hv⟩
theorem RRefs.take:∀ {is:List Nat} {vs:List Value},RRefs g.as is vs→(is.all fun i=>cI i n)=true→RRefs (g.as.take n) is vs:=by
 intro x_
 induction x_ with
 | nil =>
  intro _ h _
  exact h
 | cons i is IH_ =>
  intro _ h e
  have e:(cI i n&&is.all fun i=>cI i n)=true:=e
  induction h with | mk v vs a r=>induction a with | mk a h=>exact .mk _ _ (.mk a (by rw [bA,if_pos (cJ.mp (a0k e))];exact h)) (IH_ r (a0e e))
theorem NReps.take:∀ {fs:List (Str×V)} {es:List DictEntry},NReps C B g fs es→(fs.all fun x=>a9a n x.2)=true→NReps C B (g.take n) fs es
 | [],_,h,_=>h
 | (x,d)::fs,_,h,e=>by
  have e:(a9a n d&&fs.all fun x=>a9a n x.2)=true:=e
  induction h with | mk v h t es a r=>exact .mk v h t es (a.take (a0k e)) (NReps.take (fs:=fs) r (a0e e))
theorem ORep.take {o:O} {ob:Obj} (e:a4p n o=true) (h:ORep C B g o ob):ORep C B (g.take n) o ob:=by
 induction o with
 | list _=>exact h
 | dict _=>exact h
 | refs _=>revert h;refine exxa ?_;rintro vs m h r;exact ⟨vs,m,h,RRefs.take r e⟩
 | inst _ j=>revert h;refine exa ?_;rintro dx h k;exact ⟨dx,by show (g.as.take n)[j]?=_;rw [bA,if_pos (cJ.mp e)];exact h,k⟩
 | ns _=>revert h;refine exxa ?_;rintro es m h r;exact ⟨es,m,h,NReps.take r e⟩
 | cell w=>induction w with
  | none=>exact h
  | some _=>revert h;refine exa ?_;rintro v h r;exact ⟨v,h,r.take e⟩
 | _=>trivial
theorem catGet {i:Nat} {a:Addr} (h:g'.as[i]?=some a):(g.cat g').as[g.as.length+i]?=some a:=by
 show (g.as++g'.as)[_]?=_
 rw [aT (cN _ _),Nat.add_sub_cancel_left];exact h
theorem VRep.sh:∀ {v:V} {val:Value},VRep C B g' v val→VRep C B (g.cat g') (shV g.as.length v) val
 | .d _,_,h=>h
 | .r i,_,⟨a,ha,hv⟩=>⟨a,catGet ha,hv⟩
theorem RRefs.sh:∀ {is:List Nat} {vs:List Value},RRefs g'.as is vs→RRefs (g.cat g').as (is.map fun i=>g.as.length+i) vs:=by
 intro x_
 induction x_ with
 | nil =>
  intro _ h
  exact h
 | cons _ is IH_ =>
  intro _ h
  induction h with | mk v vs a r=>induction a with | mk a h=>exact .mk _ _ (.mk a (catGet h)) (IH_ r)
theorem NReps.sh:∀ {fs:List (Str×V)} {es:List DictEntry},NReps C B g' fs es→NReps C B (g.cat g') (fs.map fun x=>(x.1,shV g.as.length x.2)) es
 | [],_,h=>h
 | (x,d)::fs,_,h=>by induction h with | mk v h t es a r=>exact .mk v h t es a.sh (NReps.sh (fs:=fs) r)
theorem ORep.sh {o:O} {ob:Obj} (h:ORep C B g' o ob):ORep C B (g.cat g') (shO g.as.length o) ob:=by
 induction o with
 | list _=>exact h
 | dict _=>exact h
 | refs _=>revert h;refine exxa ?_;rintro vs m h r;exact ⟨vs,m,h,RRefs.sh r⟩
 | inst _ j=>revert h;refine exa ?_;rintro dx h k;exact ⟨dx,catGet h,k⟩
 | ns _=>revert h;refine exxa ?_;rintro es m h r;exact ⟨es,m,h,NReps.sh r⟩
 | cell w=>induction w with
  | none=>exact h
  | some _=>revert h;refine exa ?_;rintro v h r;exact ⟨v,h,r.sh⟩
 | _=>trivial
theorem isMut_sh (m:Nat) (o:O):a1u (shO m o)=a1u o:=by cases o <;> rfl
end
section
variable {C:Cx} {ih:IH R} {n:Nat} {B:Buf} {f:Fm} {rs:List (Addr×Obj)} {ρ:Loc} {σ:St} {g:G} {s:Shared} {E:Value→Shared→Prop}
theorem Rel.cut (Rl:Rel C B f rs ρ σ g s) {m:Str→Option Value} (l:LocD C B f rs ρ g s.heap m) {σ':St} {g':G} {s':Shared} (O:Own C B rs σ' g') (x:Ext g g') (Fo:Fr f.h₀ f.L s'.heap m) (No:News f.h₀ f.L s'.heap (g'.led rs)) (e1:s'.gens=f.gens) (e2:s'.os=f.os)
  (hall:(σ'.take σ.length).all (a4p σ.length)=true):Rel C B f rs ρ (σ'.take σ.length) (g'.take σ.length) s'∧Ext g (g'.take σ.length):=by
 have hx:Ext g (g'.take σ.length):=by
  refine ⟨?_,x.fz⟩
  refine xE ?_ x.as;rintro t ht
  show g.as <+: g'.as.take σ.length
  rw [← ht,← Rl.lenA,List.take_left']
  ·exact cD _
  ·rfl
 have le:σ.length≤σ'.length:=by
  refine xE ?_ x.as;rintro t ht
  have:=congrArg List.length ht
  rw [bD,Rl.lenA,O.lenA] at this;lia
 have N':News f.h₀ f.L s'.heap ((g'.take σ.length).led rs):=by
  intro p hp
  rcases bM.mp hp with hp | hp
  ·refine No p (bN _ ?_)
   have hp:p∈(g'.as.take σ.length).zip (g'.os.take σ.length):=hp
   rw [List.zip,← List.take_zipWith] at hp
   exact List.mem_of_mem_take hp
  ·exact No p (bO _ hp)
 refine ⟨⟨⟨m,Fo,LocD.move hx Rl.news N' l⟩,N',?_,?_,?_,?_,O.rsF,fun q hq a ha=>O.rsA q hq a (List.mem_of_mem_take ha),e1,e2⟩,hx⟩
 ·show (g'.as.take _).length=_
  rw [bG,bG,O.lenA]
 ·show (g'.os.take _).length=_
  rw [bG,bG,O.lenO]
 ·exact O.nodup.sublist (List.take_sublist _ _)
 ·intro i o a ob h1 h2 h3
  have hom:=bU h1
  rw [bA] at h1
  have h2:(g'.as.take σ.length)[i]?=some a:=h2
  have h3:(g'.os.take σ.length)[i]?=some ob:=h3
  rw [bA] at h2 h3
  by_cases hi:i < σ.length
  ·rw [if_pos hi] at h1 h2 h3
   have qq:=O.own i o a ob h1 h2 h3
   exact ⟨qq.1.take (aF.mp hall o hom),qq.2⟩
  ·rw [if_neg hi] at h1;exact nNS h1
theorem a8d (S:Snd C ih n) {a:Addr} {fd:FnRec} (fo:FnOk C a fd) (ok:FmOk C f) (rd:f.A.depth+1+2 * n≤900) (ru:f.A.units+3+8 * n≤9700) (Rl:Rel C B f rs ρ σ g s) {args:List V} {vals:List Value} (hv:VReps C B g args vals) {k:V→St→Option R} {Q:Value→Shared→Prop}
  (h:runGen ih fd args σ k=some r) (q:QV C B f rs ρ g k r Q):wpAny C.M f.A (call (.ref a) vals) Q E s:=by
 refine exa ?_ Rl.loc;rintro m F l
 refine wpAny_call (a5e S fo ok rd ru F Rl.news Rl.gens Rl.os Rl.toOwn (fun z0 h=>h) hv h fun v u σ' g' s' hk O' X' hu Fo No e1 e2 => ?_)
 show Q u s'
 induction v with
 | d x =>
  refine aE ?_ (a4u (show (bif (σ'.take σ.length).all (a4p σ.length) then k (.d x) (σ'.take σ.length) else none)=some r from hk));rintro hz hk
  refine aE ?_ (Rl.cut l O' X' Fo No e1 e2 hz);rintro R3 X3
  exact q _ _ _ _ _ hk R3 X3 hu
 | r i =>
  replace hk:(bif cI i σ.length then (bif (σ'.take σ.length).all (a4p σ.length) then k (.r i) (σ'.take σ.length) else none) else toD (.r i) σ' fun x σ'=>bif (σ'.take σ.length).all (a4p σ.length) then k (.d x) (σ'.take σ.length) else none)=some r:=hk
  cases hi:cI i σ.length with
  | true =>
   rw [hi] at hk
   refine aE ?_ (a4u hk);rintro hz hk
   refine aE ?_ (Rl.cut l O' X' Fo No e1 e2 hz);rintro R3 X3
   exact q _ _ _ _ _ hk R3 X3 (hu.take hi)
  | false =>
   rw [hi] at hk
   have R1:Rel C B f rs ρ σ' g' s':=O'.toRel Fo (LocD.move X' Rl.news No l) No e1 e2
   induction to_D (show toD (.r i) σ' (fun x σ'=>bif (σ'.take σ.length).all (a4p σ.length) then k (.d x) (σ'.take σ.length) else none)=some r from hk) ok R1 hu with | mk d σ2 g2 h2 R2 X2 ea eo dr =>
   refine aE ?_ (a4u h2);rintro hz h2
   refine aE ?_ (Rl.cut l R2.toOwn (X'.trans X2) Fo R2.news e1 e2 hz);rintro R3 X3
   exact q (.d d) _ _ _ _ h2 R3 X3 dr
noncomputable def G.one (aa:Addr) (ob:Obj) (g:G):G:=⟨[aa],[ob],g.fz⟩
noncomputable def rsOne (g:G) (rs:List (Addr×Obj)) (aa:Addr):List (Addr×Obj):=(mo g).filter (fun p => !(p.1==aa))++rs
theorem a8e {aa:Addr} {p:Addr×Obj} (hA:∀ q∈rs,aa≠q.1) (hp:p∈rsOne g rs aa):p∈mo g++rs∧p.1≠aa:=by
 rcases bM.mp hp with hp | hp
 ·refine aE ?_ (bQ.mp hp);rintro h1 h2
  exact ⟨bN _ h1,by simpa using h2⟩
 ·exact ⟨bO _ hp,(hA p hp).symm⟩
theorem b3a {aa:Addr} {p:Addr×Obj} (h:p∈mo g) (hne:p.1≠aa):p∈rsOne g rs aa:=bN _ (bQ.mpr ⟨h,by simpa using hne⟩)
theorem list_frz {ys:List D} {ob:Obj} {aa:Addr} (w1:ORep C B g (.list ys) ob) (g':G) (hz:g.fz⊆g'.fz) (w2:∀ q∈g'.fz,q.1≠aa) (w5:(aa==sysModules)=false) :
  ORep C B g' (.list ys) ob∧(a1u (.list ys)=true→∀ q∈g'.fz,q.1≠aa)∧(a1u (.list ys)=false→(aa,ob)∈g'.fz)∧(∀ x,O.list ys = .frz x→DRep C B g'.fz x (.ref aa))∧(aa==sysModules)=false:=by
 revert w1;refine exxa ?_;rintro vs m e hr
 exact ⟨⟨vs,m,e,hr.mono hz⟩,fun z0=>w2,fun e=>(nomatch e),fun y e=>(nomatch e),w5⟩
theorem Rel.one (Rl:Rel C B f rs ρ σ g s) {i:Nat} {ys:List D} {aa:Addr} {ob:Obj} (hσ:σ[i]?=some (.list ys)) (haa:g.as[i]?=some aa) (hob:g.os[i]?=some ob) :
  Own C B (rsOne g rs aa) [.list ys] (g.one aa ob)∧∀ p∈(g.one aa ob).led (rsOne g rs aa),p∈g.led rs:=by
 refine eaaa ?_ (Rl.own i _ _ _ hσ haa hob);rintro w1 w2 _;refine aE ?_;rintro _ w5
 have hA:∀ q∈rs,aa≠q.1:=fun q hq=>Rl.rsA q hq aa (bU haa)
 refine aE ?_ (Rl.iso B);rintro Oi _
 refine ⟨⟨rfl,rfl,bY.mpr ⟨cB,bZ⟩,fun j o a ob' h1 h2 h3 => ?_,fun q hq p hp=>Oi.rsF q (a8e hA hq).1 p hp,fun q hq a ha => ?_⟩,fun p hp => ?_⟩
 ·induction j using cK with
  | zero=>have h_:=Option.some.inj h1;subst h_;have h_:=Option.some.inj h2;subst h_;have h_:=Option.some.inj h3;subst h_;exact list_frz w1 _ (fun z0 h=>h) (w2 rfl) w5
  | succ j=>exact nNS h1
 ·cases bV.mp ha;exact (a8e hA hq).2.symm
 ·rcases bM.mp hp with hp | hp
  ·exact bV.mp hp▸a2f haa hob
  ·rcases bM.mp hp with hp | hp
   ·exact a1g hp
   ·rcases bM.mp (a8e hA hp).1 with hp | hp
    ·exact bN _ (mo_mem.mp hp).1
    ·exact a0l hp
theorem headL_inv {σ:St} {F:List D→Option R} (h:headL σ F=some r):∃ ys t,σ = .list ys::t∧F ys=some r:=by
 induction σ using aK with
 | nil=>exact no h
 | cons o t=>induction o with
  | list ys=>exact ⟨ys,t,rfl,h⟩
  | _=>exact no h
theorem Rel.oneIdx (Rl:Rel C B f rs ρ σ g s) {i j:Nat} {aa:Addr} (haa:g.as[i]?=some aa) {p:Addr×Obj} (hp:(g.as.zip g.os)[j]?=some p) (e:p.1=aa):j=i:=by
 have h1:=(bB.mp hp).1
 exact (List.getElem?_inj (aW.mp h1).1 Rl.nodup).mp (h1.trans (by rw [e];exact haa.symm))
theorem Rel.oneBack (Rl:Rel C B f rs ρ σ g s) {m:Str→Option Value} (l:LocD C B f rs ρ g s.heap m) {i:Nat} {ys zs:List D} {aa:Addr} {ob ob2:Obj} (hσ:σ[i]?=some (.list ys)) (haa:g.as[i]?=some aa) (hob:g.os[i]?=some ob)
  {fz':List (Addr×Obj)} {s':Shared} (hz:g.fz⊆fz') (hF:∀ q∈rsOne g rs aa,∀ p∈fz',p.1≠q.1) (w2:∀ q∈fz',q.1≠aa) (Fo:Fr f.h₀ f.L s'.heap m) (No:∀ p∈(aa,ob2)::(fz'++rsOne g rs aa),s'.heap.get? p.1=some p.2∧p.1≠f.L∧f.h₀.get? p.1=none) (e1:s'.gens=f.gens) (e2:s'.os=f.os)
  (z1:ORep C B ⟨g.as,g.os.set i ob2,fz'⟩ (.list zs) ob2):Rel C B f rs ρ (setAt σ i (.list zs)) ⟨g.as,g.os.set i ob2,fz'⟩ s'∧Ext g ⟨g.as,g.os.set i ob2,fz'⟩:=by
 have x3:Ext g ⟨g.as,g.os.set i ob2,fz'⟩:=⟨cD _,hz⟩
 have w5:=(Rl.own i _ _ _ hσ haa hob).2.2.2.2
 have hlt:i < g.os.length:=(aW.mp hob).1
 have back:∀ p∈g.as.zip g.os,p.1≠aa→s'.heap.get? p.1=some p.2∧p.1≠f.L∧f.h₀.get? p.1=none:=by
  intro p hp hne
  by_cases hc:∀ q∈g.fz,q.1≠p.1
  ·exact No p (.tail _ (bO _ (b3a (mo_mem.mpr ⟨hp,hc⟩) hne)))
  ·have:∃ q∈g.fz,q.1=p.1:=Classical.byContradiction fun hne=>hc fun q hq e=>hne ⟨q,hq,e⟩
   revert this;refine exa ?_;rintro q hq e
   have a1:=(Rl.news p (bN _ hp)).1
   have a2:=(Rl.news q (a1g hq)).1
   rw [e,a1] at a2
   rw [show p=q from Prod.ext e.symm (Option.some.inj a2)]
   exact No q (.tail _ (bN _ (hz hq)))
 have N3:News f.h₀ f.L s'.heap (G.led ⟨g.as,g.os.set i ob2,fz'⟩ rs):=by
  intro p hp
  rcases bM.mp hp with hp | hp
  ·refine xE ?_ (bS.mp hp);rintro j hj
   refine aE ?_ (bB.mp hj);rintro h1 h2
   by_cases hij:i=j
   ·subst hij
    rw [aZ hlt] at h2
    rw [show p=(aa,ob2) from Prod.ext (Option.some.inj (h1.symm.trans haa)) (Option.some.inj h2).symm]
    exact No _ (.head _)
   ·rw [aY hij] at h2
    have hm:(g.as.zip g.os)[j]?=some p:=bB.mpr ⟨h1,h2⟩
    exact back p (bU hm) fun e=>hij (Rl.oneIdx haa hm e).symm
  ·rcases bM.mp hp with hp | hp
   ·exact No p (.tail _ (bN _ hp))
   ·exact No p (.tail _ (bO _ (bO _ hp)))
 refine ⟨⟨⟨m,Fo,LocD.move x3 Rl.news N3 l⟩,N3,?_,?_,Rl.nodup,fun j o a ob' h1 h2 h3 => ?_,fun q hq p hp=>hF q (bO _ hq) p hp,Rl.rsA,e1,e2⟩,x3⟩
 ·rw [a6a];exact Rl.lenA
 ·rw [a6a];exact (List.length_set ..).trans Rl.lenO
 ·rw [a1x] at h1
  by_cases hij:i=j
  ·subst hij
   rw [aZ (by rw [← Rl.lenO];exact hlt)] at h1
   rw [show a=aa from Option.some.inj (h2.symm.trans haa)]
   rw [show ob'=ob2 from Option.some.inj (h3.symm.trans (aZ hlt))]
   have h_:=Option.some.inj h1;subst h_
   exact list_frz z1 _ (fun z0 h=>h) w2 w5
  ·rw [aY hij] at h1
   have h3:g.os[j]?=some ob':=(aY hij).symm.trans h3
   have qq:=Rl.own j o a ob' h1 h2 h3
   have hm:(g.as.zip g.os)[j]?=some (a,ob'):=bB.mpr ⟨h2,h3⟩
   exact ⟨qq.1.ext x3,fun e p hp=>hF (a,ob') (b3a (mo_mem.mpr ⟨bU hm,qq.2.1 e⟩) fun e=>hij (Rl.oneIdx haa hm e).symm) p hp,fun e=>hz (qq.2.2.1 e),fun y e=>(qq.2.2.2.1 y e).mono hz,qq.2.2.2.2⟩
theorem VRep.ref0 {i:Nat} {aa:Addr} (h:g.as[i]?=some aa):VRep C B g (.r i) (.ref aa):=⟨aa,h,rfl⟩
theorem oneCall (S:Snd C ih n) {a:Addr} {fd:FnRec} (fo:FnOk C a fd) (ok:FmOk C f) (rd:f.A.depth+1+2 * n≤900) (ru:f.A.units+3+8 * n≤9700) (Rl:Rel C B f rs ρ σ g s) {rest:List V} {vals:List Value} {i:Nat} {xs ds:List D} {val:Value} (hσ:σ[i]?=some (.list xs)) (hd:allD rest=some ds) (hx:VRep C B g (.r i) val) (hv:VReps C B g rest vals) {k:V→St→Option R} {Q:Value→Shared→Prop}
  (h:a0f ih fd (.r 0::ds.map .d) [.list xs] (fun v σ'=>a6r i v σ' σ k)=some r) (q:QV C B f rs ρ g k r Q):wpAny C.M f.A (call (.ref a) (val::vals)) Q E s:=by
 induction own_is Rl hσ hx with | mk aa ob haa hob hg w1 w5 =>
 refine aE ?_ (Rl.one hσ haa hob);rintro O0 sub
 refine exa ?_ Rl.loc;rintro m F l
 refine aE ?_ (b2z (g':=g.one aa ob) hd hv rfl);rintro h1 h2
 refine wpAny_call (a5e S fo ok rd ru F Rl.news Rl.gens Rl.os O0 sub (VReps.cons (.r 0) _ (.ref aa) _ (VRep.ref0 rfl) (h2▸h1)) h fun v u σ' g' s' hk O' X' hu Fo No e1 e2 => ?_)
 show Q u s'
 have R1:=Rl.away l O' Fo No (fun p hp=>bO _ hp) e1 e2
 induction to_D hk ok R1 hu with | mk d σ2 g2 h2 R2 X2 ea eo dr =>
 refine exxa ?_ (headL_inv h2);rintro zs t rfl h2
 have X02:=X'.trans X2
 have ha2:g2.as[0]?=some aa:=X02.get rfl
 refine exxa ?_ (R2.at_ (i:=0) rfl);rintro a' ob2 ha3 hob2
 have h_:=Option.some.inj (ha2.symm.trans ha3);subst h_
 refine eaaa ?_ (R2.own 0 _ _ _ rfl ha2 hob2);rintro z1 z2 _;refine aE ?_;rintro _ _
 revert z1;refine exxa ?_;rintro vs mm e hr
 obtain ⟨R3,X3⟩:=Rl.oneBack l (zs:=zs) (ob2:=ob2) hσ haa hob (fz':=g2.fz) (s':=s') X02.fz R2.rsF (z2 rfl) Fo (fun p hp=>R2.news p (by
  rcases bP.mp hp with e | hp
  ·exact e▸a2f ha2 hob2
  ·exact bO _ hp)) e1 e2 ⟨vs,mm,e,hr⟩
 exact q (.d d) _ _ _ _ h2 R3 X3 dr
theorem one_snd (S:Snd C ih n) {a:Addr} {fd:FnRec} (fo:FnOk C a fd) (ok:FmOk C f) (rd:f.A.depth+1+2 * n≤900) (ru:f.A.units+3+8 * n≤9700) (Rl:Rel C B f rs ρ σ g s) {args:List V} {vals:List Value} (hv:VReps C B g args vals) {k:V→St→Option R} {Q:Value→Shared→Prop}
  (h:runOne ih fd args σ k=some r) (q:QV C B f rs ρ g k r Q):wpAny C.M f.A (call (.ref a) vals) Q E s:=by
 induction args using aK with
 | nil=>exact a8d S fo ok rd ru Rl hv h q
 | cons x rest=>induction x with
  | d _=>exact a8d S fo ok rd ru Rl hv h q
  | r i =>
   have h:oneGo i rest σ (fun xs ds=>a0f ih fd (.r 0::ds.map .d) [.list xs] fun v σ'=>a6r i v σ' σ k) (runGen ih fd (.r i::rest) σ k)=some r:=h
   unfold oneGo at h
   cases ho:σ[i]? with
   | none=>rw [ho] at h;exact a8d S fo ok rd ru Rl hv h q
   | some o =>
    rw [ho] at h
    induction o with
    | list xs =>
     cases hd:allD rest with
     | none=>dsimp only at h;rw [hd] at h;exact a8d S fo ok rd ru Rl hv h q
     | some ds =>
      dsimp only at h;rw [hd] at h
      induction hv with | mk val vals h1 h2=>exact oneCall S fo ok rd ru Rl ho hd h1 h2 h q
    | _=>exact a8d S fo ok rd ru Rl hv h q
end
end Mine
end
section
namespace Mine
open PySem PySem.W PySem.Spec PySem.Calls PyProof.Rows PySem.SeqAt
section
variable {C:Cx} {ih:IH R} {n:Nat} {B:Buf} {f:Fm} {rs:List (Addr×Obj)} {ρ:Loc} {σ:St} {g:G} {s:Shared} {E:Value→Shared→Prop}
theorem Rel.join (Rl:Rel C B f rs ρ σ g s) {m:Str→Option Value} (l:LocD C B f rs ρ g s.heap m) {σ':St} {g':G} {s':Shared} (O:Own C B (mo g++rs) σ' g') (hs:g.fz⊆g'.fz) (hm:σ'.all a1u=true) (Fo:Fr f.h₀ f.L s'.heap m) (No:News f.h₀ f.L s'.heap (g'.led (mo g++rs))) (e1:s'.gens=f.gens) (e2:s'.os=f.os) :
  Rel C B f rs ρ (σ++σ'.map (shO σ.length)) (g.cat g') s'∧Ext g (g.cat g'):=by
 refine aE ?_ (Rl.back l hs O.rsF Fo (fun p hp=>No p (bO _ hp)) e1 e2);rintro R3 X3
 have x4:Ext ⟨g.as,g.os,g'.fz⟩ (g.cat g'):=⟨List.prefix_append _ _,fun z0 h=>h⟩
 have N4:News f.h₀ f.L s'.heap ((g.cat g').led rs):=by
  intro p hp
  rcases bM.mp hp with hp | hp
  ·have hp:p∈(g.as++g'.as).zip (g.os++g'.os):=hp
   rw [List.zip_append (by rw [Rl.lenA,Rl.lenO])] at hp
   rcases bM.mp hp with hp | hp
   ·exact R3.news p (bN _ hp)
   ·exact No p (bN _ hp)
  ·exact R3.news p (bO _ hp)
 have mutf:∀ a∈g'.as,∀ q∈g'.fz,q.1≠a:=by
  intro a ha q hq
  refine xE ?_ (bS.mp ha);rintro i hi
  have hlt:=(aW.mp hi).1
  have h1:σ'[i]?=some (σ'[i]'(by rw [← O.lenA];exact hlt)):=aV _
  have h3:g'.os[i]?=some (g'.os[i]'(by rw [O.lenO,← O.lenA];exact hlt)):=aV _
  exact (O.own i _ _ _ h1 hi h3).2.1 (aF.mp hm _ (bU h1)) q hq
 have disj:∀ a∈g.as,∀ b∈g'.as,a≠b:=by
  intro a ha b hb e
  subst e
  refine xE ?_ (bS.mp ha);rintro i hi
  have hlt:=(aW.mp hi).1
  have h3:g.os[i]?=some (g.os[i]'(by rw [Rl.lenO,← Rl.lenA];exact hlt)):=aV _
  have hz0:(g.as.zip g.os)[i]?=some (a,g.os[i]'(by rw [Rl.lenO,← Rl.lenA];exact hlt)):=bB.mpr ⟨hi,h3⟩
  have hz:=bU hz0
  by_cases hc:∀ q∈g.fz,q.1≠a
  ·exact O.rsA _ (bN _ (mo_mem.mpr ⟨hz,hc⟩)) a hb rfl
  ·have:∃ q∈g.fz,q.1=a:=by
    apply Classical.byContradiction
    intro hne
    exact hc fun q hq e=>hne ⟨q,hq,e⟩
   revert this;refine exa ?_;rintro q hq e
   exact mutf a hb q (hs hq) e
 refine exa ?_ R3.loc;rintro m3 F3 l3
 refine ⟨⟨⟨m3,F3,LocD.move x4 R3.news N4 l3⟩,N4,?_,?_,?_,?_,R3.rsF,?_,e1,e2⟩,X3.trans x4⟩
 ·show (g.as++g'.as).length=_
  simp [Rl.lenA,O.lenA]
 ·show (g.os++g'.os).length=_
  simp [Rl.lenO,O.lenO]
 ·show (g.as++g'.as).Nodup
  rw [bX]
  exact ⟨Rl.nodup,O.nodup,disj⟩
 ·intro i o a ob h1 h2 h3
  have h2:(g.as++g'.as)[i]?=some a:=h2
  have h3:(g.os++g'.os)[i]?=some ob:=h3
  by_cases hlt:i < σ.length
  ·rw [aS hlt] at h1
   rw [aS (by rw [Rl.lenA];exact hlt)] at h2
   rw [aS (by rw [Rl.lenO];exact hlt)] at h3
   have qq:=R3.own i o a ob h1 h2 h3
   exact ⟨qq.1.ext x4,qq.2⟩
  ·have hge:=Nat.not_lt.mp hlt
   rw [aT hge,aX] at h1
   rw [aT (by rw [Rl.lenA];exact hge),Rl.lenA] at h2
   rw [aT (by rw [Rl.lenO];exact hge),Rl.lenO] at h3
   refine exa ?_ (Option.map_eq_some_iff.mp h1);rintro o' ho' rfl
   have qq:=O.own _ _ _ _ ho' h2 h3
   have hmut:=aF.mp hm _ (bU ho')
   refine ⟨?_,fun z0=>qq.2.1 hmut,fun e => ?_,fun y e => ?_,qq.2.2.2.2⟩
   ·rw [← Rl.lenA];exact qq.1.sh
   ·rw [isMut_sh,hmut] at e;exact nTF e
   ·have:a1u (shO σ.length o')=true:=by rw [isMut_sh];exact hmut
    rw [e] at this;exact nFT this
 ·intro q hq a ha
  rcases bM.mp ha with ha | ha
  ·exact Rl.rsA q hq a ha
  ·exact O.rsA q (bO _ hq) a ha
theorem three_eq {α β:Type} {xs:List α} {F:α→α→α→Option β} {r:β} (h:three? xs F=some r):∃ a b c,xs=[a,b,c]∧F a b c=some r:=by
 induction xs using aK with
 | nil=>exact no h
 | cons a xs=>induction xs using aK with
  | nil=>exact no h
  | cons b xs=>induction xs using aK with
   | nil=>exact no h
   | cons c xs=>induction xs using aK with
    | nil=>exact ⟨a,b,c,rfl,h⟩
    | cons _ _=>exact no h
theorem isBuf_eq {d:D} (h:isBuf d=true):d = .buf:=by
 induction d using D.casesOn with
 | buf=>rfl
 | _=>exact nob h
theorem full_eq {d:D} {full:List Nat} (h:full? d=some full):d = .endp (some full):=by
 induction d using D.casesOn with
 | endp w=>exact congrArg D.endp h
 | _=>exact no h
theorem cur_rep {fz:List (Addr×Obj)} {full:List Nat} {vals:List Value} {y z:D} (h:DReps C B fz [.buf,y,z] vals) (hy:(onI y fun i=>bif decide (i=0) then full? z else none)=some full):DReps C B fz [.buf,.pos full 0,.endp none] vals:=by
 induction h with | mk _ _ h1 h =>
 induction h with | mk _ _ h2 h =>
 induction h with | mk _ _ h3 h =>
 induction a1e hy h2 with | mk i t hi =>
 have h0:i=0:=of_decide_eq_true (a0b hi)
 rw [full_eq (a0c hi)] at h3
 induction h3 with | mk u hw =>
 have hf:=hw _ rfl
 have hl:full.length=B.e:=by rw [hf,bG];exact Nat.min_eq_left B.ok
 refine .mk _ _ h1 (.mk _ _ (.mk _ t ⟨?_,fun e=>absurd rfl e,cP hl,?_⟩) (.mk _ _ (.mk u fun l e=>no e) h))
 ·rw [h0,hl,Int.sub_self];rfl
 ·rw [hl,Nat.sub_self];exact hf
theorem b4q {fz:List (Addr×Obj)} {ds:List D} {vals:List Value} (h:DReps C B fz ds vals):DReps C B fz (a7g ds) vals:=by
 unfold a7g
 cases hc:cur? ds with
 | none=>exact h
 | some full =>
  refine exxx ?_ (three_eq hc);rintro x y z;refine aE ?_;rintro e hc
  subst e
  cases isBuf_eq (a0b hc)
  exact cur_rep h (show (onI y fun i=>bif decide (i=0) then full? z else none)=some full from hc)
theorem cls_snd (tk:TabsOk C) (S:Snd C ih n) {a:Addr} {init:Nat} {keep:Bool} {fd:FnRec} (hc:C.T.cls a=some (init,keep)) (fo:FnOk C init fd) (ok:FmOk C f) (rm:Room f (n+1)) (Rl:Rel C B f rs ρ σ g s) {args:List V} {vals:List Value} (hv:VReps C B g args vals) {k:V→St→Option R} {Q:Value→Shared→Prop}
  (h:b0h ih a fd keep args σ k=some r) (q:QV C B f rs ρ g k r Q):wpAny C.M f.A (call (.ref a) vals) Q E s:=by
 refine eaa ?_ (tk.cls a init keep hc);rintro c1 c2 c3
 induction a4x ok h Rl hv with | mk ds σ1 g1 h1 R1 X1 _ _ dr =>
 refine exa ?_ R1.loc;rintro m F l
 have X:=R1.inK ok
 have big:sysModules < s.heap.objs.size:=cW (cU (modules_low ok.top.nolimit) F.above) F.ns.lt
 refine wpAny_call ?_
 obtain ⟨hh,gn,dn,t,os⟩:=s
 dsimp only at F big
 refine make_core (makes_of X c1) (looks_findIn X c2) (fun self=>bind_fn X self (beq_iff_eq.mp c3)) (.inl rfl) ?_
 have N:News f.h₀ f.L ((hh.push emptyDict).push (instObj a hh.objs.size)) ((hh.objs.size+1,instObj a hh.objs.size)::(hh.objs.size,emptyDict)::g1.led rs):=by
  have:=(R1.news.push F emptyDict).push (F.push _) (instObj a hh.objs.size)
  rwa [Heap.size_push] at this
 let f2:Fm:={ f with A:=f.A.under (.builtin "type.__call__" ⟨.ref a::vals,[]⟩) }
 have dep:f2.A.depth=f.A.depth+1:=rfl
 have ok2:FmOk C f2:=⟨ok.names,ok.below,ok.inK,ok.top,ok.frames,ok.frame,ok.kind₀,ok.kind,ok.handled,ok.globals,ok.builtins,ok.kinds⟩
 refine aE ?_ (R1.iso B);rintro Oi subi
 let g0:G:=⟨[hh.objs.size+1,hh.objs.size],[instObj a hh.objs.size,emptyDict],g1.fz⟩
 have ltl:∀ p∈g1.led rs,p.1 < hh.objs.size:=fun p hp=>R1.lt hp
 have O0:Own C B (mo g1++rs) [.inst a 1,.ns []] g0:=by
  refine ⟨rfl,rfl,?_,?_,fun q hq p hp=>Oi.rsF q hq p hp,?_⟩
  ·show [hh.objs.size+1,hh.objs.size].Nodup
   simp
  ·intro i o a' ob' h1 h2 h3
   have h2:[hh.objs.size+1,hh.objs.size][i]?=some a':=h2
   have h3:[instObj a hh.objs.size,emptyDict][i]?=some ob':=h3
   match i,h1,h2,h3 with
   | 0,h1,h2,h3 =>
    simp at h1 h2 h3;subst h1 h2 h3
    exact ⟨⟨hh.objs.size,rfl,rfl⟩,fun z0 q hq=>cX (Nat.lt_succ_of_lt (ltl q (a1g hq))),fun e=>(by exact nTF e),fun y e=>(by cases e),beq_eq_false_iff_ne.mpr (Nat.ne_of_gt (Nat.lt_succ_of_lt big))⟩
   | 1,h1,h2,h3 =>
    simp at h1 h2 h3;subst h1 h2 h3
    exact ⟨⟨[],0,rfl,.nil⟩,fun z0 q hq=>cX (ltl q (a1g hq)),fun e=>(by exact nTF e),fun y e=>(by cases e),beq_eq_false_iff_ne.mpr (Nat.ne_of_gt big)⟩
   | i+2,h1,_,_=>simp at h1
  ·intro q hq b hb
   have hb:b∈[hh.objs.size+1,hh.objs.size]:=hb
   have hlt:q.1 < hh.objs.size:=ltl q (subi q (bO _ (bO _ hq)))
   simp at hb
   rcases hb with rfl | rfl
   ·exact Nat.ne_of_gt (Nat.lt_succ_of_lt hlt)
   ·exact Nat.ne_of_gt hlt
 have sub:∀ p∈g0.led (mo g1++rs),p∈(hh.objs.size+1,instObj a hh.objs.size)::(hh.objs.size,emptyDict)::g1.led rs:=by
  intro p hp
  rcases bM.mp hp with hp | hp
  ·have hp:p∈[(hh.objs.size+1,instObj a hh.objs.size),(hh.objs.size,emptyDict)]:=hp
   simp only [bP,cB,or_false] at hp ⊢
   rcases hp with h | h <;> simp [h]
  ·exact .tail _ (.tail _ (subi p (bO _ hp)))
 have hv0:VReps C B g0 (.r 0::(a7g ds).map .d) (.ref (hh.objs.size+1)::vals) := .cons _ _ _ _ ⟨_,rfl,rfl⟩ (VReps.of_D (fz:=g1.fz) (b4q dr))
 refine a5e (f:=f2) (s:=⟨(hh.push emptyDict).push (instObj a hh.objs.size),gn,dn,t,os⟩) S fo ok2 (by rw [dep];have:=rm.depth;lia) (by have:=rm.units;show f.A.units+1+3+8 * n≤9700;lia) ((F.push _).push _) N R1.gens R1.os O0 sub hv0 h1 fun v u σ' g' s' hk O' X' hu Fo No e1 e2 => ?_
 show u = .none∧Q (.ref (hh.objs.size+1)) s'
 induction v with
 | r i=>exact no hk
 | d d =>
  induction d using D.casesOn with
  | none =>
   have hu:DRep C B g'.fz .none u:=hu
   subst hu
   have hs:g1.fz⊆g'.fz:=X'.fz
   have hx0:g'.as[0]?=some (hh.objs.size+1):=X'.get rfl
   refine ⟨rfl,?_⟩
   induction keep with
   | true =>
    have hk:(bif σ'.all a1u then k (.r σ1.length) (σ1++σ'.map (shO σ1.length)) else none)=some r:=hk
    refine aE ?_ (R1.join l O' hs (a0b hk) Fo No e1 e2);rintro R4 X4
    refine q (.r σ1.length) _ _ _ _ (a0c hk) R4 (X1.trans X4) ⟨_,?_,rfl⟩
    have:=catGet (g:=g1) hx0
    rwa [Nat.add_zero,R1.lenA] at this
   | false =>
    refine exxx ?_ (a6u ok R1 l (g0:=g0) rfl O' X' Fo No e1 e2 (v := .r 0) (u := .ref (hh.objs.size+1)) ⟨_,hx0,rfl⟩ (show toD (.r 0) σ' (fun x z0=>k (.d x) σ1)=some r from hk));rintro d σ'' fz'';refine eaaa ?_;rintro h2 R3 X3 dr
    exact q (.d d) _ _ _ _ h2 R3 (X1.trans X3) dr
  | _=>exact no hk
end
end Mine
end
section
namespace Mine
open PySem PySem.W PySem.Spec PySem.Calls PyProof.Rows PySem.SeqAt
structure LamSc (ps:List Str) (sc:Scope):Prop where
 nodup:ps.Nodup
 kind:sc.kind = .function
 co:sc.isCoroutine=false
 gen:sc.isGenerator=false
 par:∀ x∈ps,sc.names.lookup x=some .local
 names:namesOk sc=true
 cell:∀ x∈sc.names,x.2 ≠ .cell
 free:∀ x∈sc.names,x.2 ≠ .free
theorem a5t:∀ {l:List Str},a9d l=true→l.Nodup:=by
 intro x_
 induction x_ with
 | nil =>
  intro _
  exact bZ
 | cons x r IH_ =>
  intro h
  unfold a9d at h
  refine aE ?_ (bool_and h);rintro h1 h2
  rw [bY]
  refine ⟨fun hm => ?_,IH_ h2⟩
  have:=aF.mp h1 x hm
  rw [a2m] at this;simp at this
theorem lamOk_of {ps:List Str} {sc:Scope} (h:lamOk ps sc=true):LamSc ps sc:=by
 unfold lamOk at h
 refine aE ?_ (bool_and h);rintro h1 h
 refine aE ?_ (bool_and h);rintro h2 h
 refine aE ?_ (bool_and h);rintro h3 h
 refine aE ?_ (bool_and h);rintro h4 h
 refine aE ?_ (bool_and h);rintro h5 h6
 have h5:=aF.mp h5
 have h6:=aF.mp h6
 refine ⟨a5t h1,?_,by simpa using h3,by simpa using h4,fun x hx => ?_,?_,?_,?_⟩
 ·revert h2
  cases sc.kind <;> intro h2 <;> first | rfl | cases h2
 ·have:=h5 x hx
  rw [a3o] at this
  revert this
  induction sc.names.lookup x with
  | none=>intro this;exact nFT this
  | some k=>cases k <;> intro this <;> first | rfl | cases this
 ·unfold namesOk
  refine aF.mpr fun x hx => ?_
  have:=(bool_and (h6 x hx)).1
  rw [a2m,a2m] at this
  revert this
  generalize (x.1==oS "__debug__")=a
  generalize (x.1==oS "__classdict__")=b
  cases a <;> cases b <;> decide
 ·rintro q1_ hx hk
  obtain ⟨x,k⟩:=q1_
  have:=(bool_and (h6 _ hx)).2
  dsimp only at hk this;subst hk
  exact nFT this
 ·rintro q1_ hx hk
  obtain ⟨x,k⟩:=q1_
  have:=(bool_and (h6 _ hx)).2
  dsimp only at hk this;subst hk
  exact nFT this
theorem a9u {α:Type} {l:List (Str×α)} (hn:(l.map (·.1)).Nodup) {x:Str} {v:α} (h:l.lookup x=some v):l.reverse.lookup x=some v:=by
 have hm:(x,v)∈l.reverse:=List.mem_reverse.mpr (lookup_mem h)
 have hn':(l.reverse.map (·.1)).Nodup:=by rw [List.map_reverse];exact a8c hn
 clear h
 generalize l.reverse=l' at hm hn'
 induction l' with
 | nil=>cases hm
 | cons y r ih =>
  obtain ⟨z,u⟩:=y
  rw [bK,bY] at hn'
  rw [bH]
  rcases bP.mp hm with e | hm
  ·cases e;simp
  ·have:(x==z)=false:=beq_eq_false_iff_ne.mpr fun e=>hn'.1 (bT.mpr ⟨_,hm,e⟩)
   rw [this];exact ih hm hn'.2
section
variable {C:Cx} {R:Result→Shared→Prop} {f:Fm} {s:Shared}
theorem lam_code (ok:FmOk C f) {m:Str→Option Value} {news:List (Addr×Obj)} (F:Fr f.h₀ f.L s.heap m) (N:News f.h₀ f.L s.heap news) (hroom:f.A.depth < recursionLimit) {a c:Addr} {ps:List Str} {body:Expr} {sc:Scope} {name qual:Str} {params:Arguments} {pm ct:Value} {args:Args} {binds:List (Str×Value)} (ls:LamSc ps sc)
  (ho:s.heap.get? a=some (kla_obj name qual params body sc [] pm c ct)) (hcd:s.heap.CodeRec (.ref c) qual) (hbind:BindsTo s (kla_fn name qual params body sc [] pm (.ref c) ct) args binds) (hk:binds.map (·.1)=ps)
  (h:∀ g L' h₁,Fr f.h₀ f.L g m→Fr g L' h₁ (fun y=>binds.reverse.lookup y)→News g L' h₁ news→Below f.A f.base (f.env₀::f.outer) g→C.K.In g→Top f.p f.loose f.mean f.mg f.mb g →
   wpAny C.M (f.A.deeper (envX qual sc L' a (.ref c) [])) (eval body (envX qual sc L' a (.ref c) [])) (fun v s'=>LeaveK f.h₀ f.L m g R v s')
    (fun e s'=>wpAny C.M (f.A.deeper (envX qual sc L' a (.ref c) [])) (leaving (envX qual sc L' a (.ref c) []) e) (fun z0 s''=>R (.error e) s'') (fun e' s''=>R (.error e') s'') s') { s with heap:=h₁,toks:=s.toks+binds.length }) :
  codeAny C.M f.A (.call (.ref a) args) R s:=by
 have gr:=groundX (R:=R) ok.below F N ok.frames ok.frame ok.kind₀
 have nl:=ok.top.nolimit.keeps F.keep
 have par:∀ y∈binds,sc.names.lookup y.1=some .local:=fun y hy=>ls.par _ (hk▸bT.mpr ⟨y,hy,rfl⟩)
 refine kla_callFunE hroom ho rfl ls.co ls.gen rfl hcd (hbind _ _ _ _ (wpAny_newFunctionEnv ls.cell par (fun h₁ hns hsb=>⟨nl.fresh _ hsb,kla_codeExpr ?_⟩) ls.kind))
 have kp:∀ b o,s.heap.get? b=some o→h₁.get? b=some o:=fun b o e=>hsb.extBut b o (cX (Heap.lt_size e)) (Heap.get?_push_of_some _ e)
 refine wpAny_mono (h _ _ h₁ gr.1 ⟨hns,fun b o e=>kp b o (of_hideAll _ e),cP (hideAll_size _ _)⟩ (fun p hp => ?_) gr.2.1 (ok.inK.keeps gr.2.2.1) (ok.top.keeps gr.2.2.1)) (fun v s' z=>gr.2.2.2 v s' z) fun z0 z0 z=>z
 exact ⟨kp _ _ (N p hp).1,cX (Heap.lt_size (N p hp).1),hideAll_none _ (List.mem_map_of_mem hp)⟩
end
section
variable {C:Cx} {ih:IH R} {n:Nat} {B:Buf} {f:Fm} {rs:List (Addr×Obj)} {ρ:Loc} {σ:St} {g:G} {s:Shared} {E:Value→Shared→Prop}
theorem lam_snd (S:Snd C ih n) {ps:List Str} {body:Expr} {sc:Scope} {val:Value} (ok:FmOk C f) (rm:Room f (n+1)) (Rl:Rel C B f rs ρ σ g s) (hf:DRep C B g.fz (.lam ps body sc) val) {args:List V} {vals:List Value} (hv:VReps C B g args vals) {k:V→St→Option R} {Q:Value→Shared→Prop}
  (h0:callLam ih ps body sc args σ k=some r) (q:QV C B f rs ρ g k r Q):wpAny C.M f.A (call val vals) Q E s:=by
 have ls:=lamOk_of (a0e (a0b h0))
 have hl:ps.length=args.length:=cL (a0k (a0b h0))
 have h:=a0c h0
 induction hf with
 | mk a o c oc ho hoc hlam =>
 induction a4x ok h Rl hv with | mk ds σ1 g1 h1 R1 X1 _ _ dr =>
 refine exa ?_ R1.loc;rintro m F l
 have go:=R1.kn ok (ho.mono X1.fz)
 have gc:=R1.kn ok (hoc.mono X1.fz)
 revert hlam;refine exxx ?_;rintro name qual params;refine exxx ?_;rintro pm ct vs;refine exaa ?_;rintro t e1 e2;refine eaaa ?_;rintro e3 p1 p2;refine eaa ?_;rintro p3 p4 p5
 subst e1
 have hlen:ps.length=vals.length:=by rw [hl,hv.length]
 have hbind:BindsTo s { name:=name,qualname:=qual,params:=params,body := .expr body,scope:=sc,globals:=mainGlobals,closure:=[],defaults := .none,kwdefaults := .none,doc := .none,pyModule:=pm,annotations:=none,code := .ref c,closureTuple:=ct,builtins:=builtinsNs } ⟨vals,[]⟩ (ps.zip vals):=by
  have:=a8b (s:=s) (fd:={ name:=name,qualname:=qual,params:=params,body := .expr body,scope:=sc,globals:=mainGlobals,closure:=[],defaults := .none,kwdefaults := .none,doc := .none,pyModule:=pm,annotations:=none,code := .ref c,closureTuple:=ct,builtins:=builtinsNs }) (names:=ps) (vals:=vals) (dvs:=[]) p1 p2 p3 p4 p5 (fun M A E Q hQ=>wpAny_pure (hQ none rfl)) ls.nodup (by lia) (by simp;lia) (by simp)
  simpa using this
 have keys:(ps.zip vals).map (·.1)=ps:=map_fst_zip (by lia)
 refine wpAny_call (lam_code ok F R1.news (by have:=rm.depth;show _ < 1000;lia) ls go ⟨c,oc,vs,t,rfl,gc,e2,e3⟩ hbind keys fun gH L' h₁ FG F' N' Bl Kin Tp => ?_)
 let f1:Fm:={ A:=f.A.deeper (envX qual sc L' a (.ref c) []),A₀:=f.A,env:=envX qual sc L' a (.ref c) [],env₀:=envX qual sc L' a (.ref c) [],outer:=f.env₀::f.outer,base:=f.base,h₀:=gH,L:=L',p:=f.p,loose:=f.loose,mean:=f.mean,mg:=f.mg,mb:=f.mb,sc:=sc,gens:=f.gens,os:=f.os,mL:=fun z0=>none }
 have ok1:FmOk C f1:=by
  refine ⟨ls.names,Bl,Kin,Tp,Around.frames_deeper ok.frames,rfl,ls.kind,ls.kind,ok.handled,rfl,rfl,?_⟩
  intro x kd hx
  have hx':f1.env.kindOf x=some kd:=hx
  refine ⟨fun e=>by rw [hx',e],fun e=>by rw [hx',e],fun e => ?_,fun e=>by rw [hx',e]⟩
  rcases e with e | e
  ·exact .inl (by rw [hx',e])
  ·exact .inr (by rw [hx',e])
 have rm1:Room f1 n:=⟨by have:=rm.depth;show f.A.depth+1+2 * n≤900;lia,by have:=rm.units;show f.A.units+3+8 * n≤9700;lia⟩
 refine aE ?_ (R1.iso B);rintro O0 sub
 have bd:Bd C B ⟨[],[],g1.fz⟩ (ps.zip (ds.map .d)) (ps.zip vals):=Bd.of_zip (VReps.of_D (fz:=g1.fz) dr)
 have lr:LRep C B f1.env (ps.zip (ds.map .d)) ⟨[],[],g1.fz⟩ (fun y=>(ps.zip vals).reverse.lookup y):=by
  intro x v hx
  refine ⟨fun hk => ?_,fun hk i e => ?_⟩
  ·refine exa ?_ ((bd.get x).1 v hx);rintro val h1 h2
   exact ⟨val,a9u (by rw [keys];exact ls.nodup) h1,h2⟩
  ·exfalso
   rcases hk with hk | hk
   ·exact ls.cell _ (lookup_mem hk) rfl
   ·exact ls.free _ (lookup_mem hk) rfl
 have R2:Rel C B f1 (mo g1++rs) (ps.zip (ds.map .d)) [] ⟨[],[],g1.fz⟩ { s with heap:=h₁,toks:=s.toks+(ps.zip vals).length } :=
  O0.toRel F' (.inl ⟨rfl,lr⟩) (fun p hp=>N' p (sub p hp)) R1.gens R1.os
 refine S.e (f:=f1) h1 ok1 rm1 R2 fun v σ' g' s' u hk R' X' hu => ?_
 refine exa ?_ R'.loc;rintro m' F'' _
 refine leaveK_ F'' R'.news fun Fo No => ?_
 show Q u s'
 refine exxx ?_ (a6u ok R1 l (g0:=⟨[],[],g1.fz⟩) rfl R'.toOwn X' Fo No R'.gens R'.os hu hk);rintro d σ'' fz'';refine eaaa ?_;rintro h2 R3 X3 dr
 exact q (.d d) _ _ _ _ h2 R3 (X1.trans X3) dr
end
end Mine
end
section
namespace Mine
open PySem PySem.W PySem.Spec PySem.Calls PyProof.Rows PySem.SeqAt
structure Facts (C:Cx):Prop where
 tk:TabsOk C
 io:IsiOk C
 fns:∀ a fd,C.T.fn a=some fd→FnOk C a fd
 keepC:∀ a p,C.T.cls a=some p→keepIn C.K (.ref a)=true
 keepF:∀ a fd,C.T.fn a=some fd→keepIn C.K (.ref a)=true
section
variable {C:Cx} {ih:IH R} {n:Nat} {B:Buf} {f:Fm} {rs:List (Addr×Obj)} {ρ:Loc} {σ:St} {g:G} {s:Shared} {E:Value→Shared→Prop}
theorem a6f {α:Type} {o:Option α} {F:α→Option R} {x:Option R} {P:Prop} (h:alt o F x=some r) (a:∀ y,o=some y→F y=some r→P) (b:o=none→x=some r→P):P:=by
 induction o with
 | some y=>exact a y rfl h
 | none=>exact b rfl h
theorem bif_none {α:Type} {b:Bool} {x:Option α} {y:α} (h:(bif b then x else none)=some y):x=some y:=a0c h
inductive Args3 {α:Type} (C:Cx) (B:Buf) (g:G) (F:V→V→V→Option α) (r:α):List Value→Prop | mk (u v w:V) (ual val wal:Value):VRep C B g u ual→VRep C B g v val→VRep C B g w wal→F u v w=some r→Args3 C B g F r [ual,val,wal]
theorem args3_is {α:Type} {args:List V} {vals:List Value} {F:V→V→V→Option α} {r:α} (h:three? args F=some r) (hv:VReps C B g args vals):Args3 C B g F r vals:=by
 induction args using aK with
 | nil=>exact no h
 | cons a args=>induction args using aK with
  | nil=>exact no h
  | cons b args=>induction args using aK with
   | nil=>exact no h
   | cons c args=>induction args using aK with
    | nil=>induction hv with | mk v vs h1 h2=>induction h2 with | mk w ws h2 h3=>induction h3 with | mk w ws h3 h4=>subst h4;exact .mk _ _ _ _ _ _ h1 h2 h3 h
    | cons _ _=>exact no h
theorem bufAt_is {dt:List Nat} {b e:Int} {p:List Nat×Nat×Nat} (h:bufAt dt b e=some p):∃ b' e':Nat,b=b'∧e=e'∧b'≤e'∧e'≤dt.length∧dt.length≤1000000∧p=(dt,b',e'):=by
 have hz:=a0b h
 have h1:=of_decide_eq_true (a0k hz)
 have h2:=of_decide_eq_true (a0k (a0e hz))
 have h3:=of_decide_eq_true (a0k (a0e (a0e hz)))
 have h4:=a1a (a0e (a0e (a0e hz)))
 refine xE ?_ (Int.eq_ofNat_of_zero_le h1);rintro b' rfl
 refine xE ?_ (Int.eq_ofNat_of_zero_le (Int.le_trans h1 h2));rintro e' rfl
 exact ⟨b',e',rfl,rfl,Int.ofNat_le.mp h2,Int.ofNat_le.mp h3,h4,(Option.some.inj (a0c h)).symm⟩
theorem bufAt2_is {dt:List Nat} {e m:Int} {p:List Nat×Nat×Int} (h:bufAt2 dt e m=some p):∃ e':Nat,e=e'∧e'≤dt.length∧dt.length≤1000000∧p=(dt,e',m):=by
 have hz:=a0b h
 have h1:=of_decide_eq_true (a0k hz)
 have h3:=of_decide_eq_true (a0k (a0e hz))
 refine xE ?_ (Int.eq_ofNat_of_zero_le h1);rintro e' rfl
 exact ⟨e',rfl,Int.ofNat_le.mp h3,a1a (a0e (a0e hz)),(Option.some.inj (a0c h)).symm⟩
inductive BufV (B':Buf) (b:Nat):List Value→Prop | mk (t t2 t3:Tok):BufV B' b [.bytes (toBA B'.dt) t,.int b t2,.int B'.e t3]
theorem bufArgs_is {args:List V} {vals:List Value} {p:List Nat×Nat×Nat} (h:b0g args=some p) (hv:VReps C B g args vals):∃ (B':Buf) (b:Nat),b≤B'.e∧p=(B'.dt,b,B'.e)∧BufV B' b vals:=by
 induction args3_is h hv with | mk x b e xv bv ev h1 h2 h3 h =>
 induction a0p h h1 with | mk x h1 h =>
 induction onB_is h h1 with | mk dt t hlt h =>
 induction a1d h h2 with | mk b t2 h =>
 induction a1d h h3 with | mk e t3 h =>
 refine exxa ?_ (bufAt_is h);rintro b' e' rfl;refine eaaa ?_;rintro rfl l1 l2;refine aE ?_;rintro l3 rfl
 exact ⟨⟨dt,e',l2,l3,hlt⟩,b',l1,rfl,.mk t t2 t3⟩
inductive BufV2 (B':Buf) (m:Int):List Value→Prop | mk (t t2 t3:Tok):BufV2 B' m [.bytes (toBA B'.dt) t,.int B'.e t2,.int m t3]
theorem b4r {args:List V} {vals:List Value} {p:List Nat×Nat×Int} (h:a6q args=some p) (hv:VReps C B g args vals):∃ (B':Buf) (m:Int),p=(B'.dt,B'.e,m)∧BufV2 B' m vals:=by
 induction args3_is h hv with | mk x b e xv bv ev h1 h2 h3 h =>
 induction a0p h h1 with | mk x h1 h =>
 induction onB_is h h1 with | mk dt t hlt h =>
 induction a1d h h2 with | mk e t2 h =>
 induction a1d h h3 with | mk m t3 h =>
 refine exaa ?_ (bufAt2_is h);rintro e' rfl l2;refine aE ?_;rintro l3 rfl
 exact ⟨⟨dt,e',l2,l3,hlt⟩,m,rfl,.mk t t2 t3⟩
theorem bufV_reps {B':Buf} {b:Nat} {vals:List Value} (hb:b≤B'.e) (h:BufV B' b vals):VReps C B' ⟨[],[],g.fz⟩ [.d .buf,.d (.pos ((B'.dt.take B'.e).drop b) 0),.d (.endp none)] vals:=by
 induction h with | mk t t2 t3 =>
 have hl:((B'.dt.take B'.e).drop b).length=B'.e - b:=by rw [List.length_drop,bG,Nat.min_eq_left B'.ok]
 have hp:a3d B' ((B'.dt.take B'.e).drop b) 0 b:=by
  refine ⟨?_,fun e=>absurd rfl e,?_,?_⟩
  ·rw [hl];lia
  ·rw [hl];lia
  ·rw [hl,Nat.sub_sub_self hb]
 exact VReps.of_D (fz:=g.fz) (ds:=[.buf,.pos _ 0,.endp none]) (.mk _ _ (.buf t) (.mk _ _ (.pos _ _ _ t2 hp) (.mk _ _ (.endp none t3 fun l h=>nomatch h) .nil)))
theorem bufV2_reps {B':Buf} {m:Int} {vals:List Value} (h:BufV2 B' m vals):VReps C B' ⟨[],[],g.fz⟩ [.d .buf,.d (.endp (some (B'.dt.take B'.e))),.d (.int m)] vals:=by
 induction h with | mk t t2 t3 =>
 exact VReps.of_D (fz:=g.fz) (ds:=[.buf,.endp _,.int _]) (.mk _ _ (.buf t) (.mk _ _ (.endp _ t2 fun l h=>(Option.some.inj h).symm) (.mk _ _ (.int _ t3) .nil)))
theorem fn_snd (S:Snd C ih n) {a:Addr} {fd:FnRec} {own:Bool} (fo:FnOk C a fd) (ok:FmOk C f) (rm:Room f (n+1)) (Rl:Rel C B f rs ρ σ g s) {args:List V} {vals:List Value} (hv:VReps C B g args vals) {k:V→St→Option R} {Q:Value→Shared→Prop}
  (h:a5n C.T ih a fd own args σ k=some r) (q:QV C B f rs ρ g k r Q):wpAny C.M f.A (call (.ref a) vals) Q E s:=by
 have rd:f.A.depth+1+2 * n≤900:=by have:=rm.depth;lia
 have ru:f.A.units+3+8 * n≤9700:=by have:=rm.units;lia
 refine a6f h (fun p hp h => ?_) fun z0 h=>a6f h (fun p hp h => ?_) fun z0 h=>a6f h (fun ds hd h=>iso_snd S fo ok rd ru Rl hd hv h q) fun z0 h=>one_snd S fo ok rd ru Rl hv h q
 ·refine exxa ?_ (bufArgs_is (bif_none hp) hv);rintro B' b hb;refine aE ?_;rintro rfl hb2
  exact buf_snd S fo ok rd ru Rl B' (bufV_reps hb hb2) h q
 ·refine exxa ?_ (b4r (bif_none hp) hv);rintro B' m rfl hb2
  exact buf_snd S fo ok rd ru Rl B' (bufV2_reps hb2) h q
theorem callG_snd (fc:Facts C) (S:Snd C ih n) {a:Nat} {args:List V} {vals:List Value} {k:V→St→Option R} {Q:Value→Shared→Prop} (h:b0i C.T ih a args σ k=some r) (ok:FmOk C f) (rm:Room f (n+1)) (Rl:Rel C B f rs ρ σ g s) (hv:VReps C B g args vals) (q:QV C B f rs ρ g k r Q) :
  wpAny C.M f.A (call (.ref a) vals) Q E s:=by
 unfold b0i at h
 cases hr:Nat.beq a C.T.refused with
 | true=>rw [hr] at h;exact no h
 | false =>
  rw [hr] at h
  refine a6f h (fun p hc h => ?_) fun z0 h => ?_
  ·refine exa ?_ (a0i h);rintro fd hfn h
   exact cls_snd fc.tk S hc (fc.fns _ _ hfn) ok rm Rl hv h q
  ·refine exa ?_ (a0i h);rintro fd hfn h
   exact fn_snd S (fc.fns _ _ hfn) ok rm Rl hv h q
theorem call_snd (fc:Facts C) (S:Snd C ih n) {fv:V} {args:List V} {val:Value} {vals:List Value} {k:V→St→Option R} {Q:Value→Shared→Prop} (h:a0g C.T ih fv args σ k=some r) (ok:FmOk C f) (rm:Room f (n+1)) (Rl:Rel C B f rs ρ σ g s) (hf:VRep C B g fv val) (hv:VReps C B g args vals) (q:QV C B f rs ρ g k r Q) :
  wpAny C.M f.A (call val vals) Q E s:=by
 induction a0p h hf with | mk x hf h =>
 induction x using D.casesOn with
 | g a=>induction hf with | mk o _=>exact callG_snd fc S h ok rm Rl hv q
 | bi b=>subst hf;exact b4f fc.io h ok.handled ok Rl hv fun d g' s' val hk R' X' dr=>q (.d d) _ _ _ _ hk R' X' dr
 | ty t =>
  subst hf
  have h:tyCall t args σ (fun d=>k (.d d) σ)=some r:=h
  exact tyCall_snd h ok.handled ok Rl hv fun d g' s' val hk R' X' dr=>q (.d d) _ _ _ _ hk R' X' dr
 | lam ps body sc=>exact lam_snd S ok rm Rl hf hv h q
 | _=>exact no h
theorem keepG (fc:Facts C) {a:Nat} {args:List V} {k:V→St→Option R} (h:b0i C.T ih a args σ k=some r):keepIn C.K (.ref a)=true:=by
 unfold b0i at h
 cases hr:Nat.beq a C.T.refused with
 | true=>rw [hr] at h;exact no h
 | false =>
  rw [hr] at h
  exact a6f h (fun p hc z0=>fc.keepC _ _ hc) fun z0 h=>(a0i h).elim fun fd h=>fc.keepF _ _ h.1
theorem keep_snd (fc:Facts C) {fv:V} {args:List V} {val:Value} {k:V→St→Option R} (h:a0g C.T ih fv args σ k=some r) (ok:FmOk C f) (Rl:Rel C B f rs ρ σ g s) (hf:VRep C B g fv val) :
  ∃ kp,(kp=Keeper.frame∨kp=Keeper.machine∨kp=Keeper.boundFrame)∧Looks C.M s.heap (keeperOf val) kp:=by
 induction a0p h hf with | mk x hf h =>
 induction x using D.casesOn with
 | g a=>induction hf with | mk o _=>exact keeps_K (keepG fc h) s.heap (Rl.inK ok)
 | bi b=>subst hf;exact ⟨.machine,.inr (.inl rfl),Looks.of_pure rfl⟩
 | ty t=>subst hf;exact ⟨.machine,.inr (.inl rfl),Looks.of_pure rfl⟩
 | lam ps body sc =>
  induction hf with | mk a o c oc ho hoc hlam =>
  have go:=Rl.kn ok ho
  revert hlam;refine exxx ?_;rintro name qual params;refine exxx ?_;rintro pm ct vs;refine exa ?_;rintro t e1 _
  subst e1
  exact ⟨.frame,.inl rfl,(Looks.ld go).andThen .now⟩
 | _=>exact no h
theorem stmt_snd (fc:Facts C) (S:Snd C ih n) {st:Stmt} {K:KS R} {Q:Flow→Shared→Prop} (h:stepS C.T ih f.sc st ρ σ K=some r) (ok:FmOk C f) (el:f.env.locals=f.L) (rm:Room f n) (Rl:Rel C B f rs ρ σ g s) (q:QS C B f rs g K r Q):wpAny C.M f.A (exec st f.env) Q E s:=by
 induction st using Stmt.casesOn with
 | Expr e pos =>
  induction e using Expr.casesOn with
  | Call fn args kws p2 =>
   have hi:interactive f.env=false:=by unfold interactive;rw [ok.kind];rfl
   exact wpAny_Expr_any (S.e h ok rm Rl fun v σ1 g1 s1 val h1 R1 X1 hv=>q.next _ _ _ _ h1 R1 X1) hi rfl
  | _=>exact no h
 | Return e pos =>
  induction e with
  | none=>exact wpAny_Return_none (q.ret ρ (.d .none) .none σ g s h Rl (Ext.refl _) rfl)
  | some e=>exact wpAny_Return_some (m_snd S h ok rm Rl fun v σ1 g1 s1 val h1 R1 X1 hv=>q.ret ρ v val σ1 g1 s1 h1 R1 X1 hv)
 | Assign ts e pos =>
  induction ts using aK with
  | nil=>exact no h
  | cons t ts =>
   induction ts using aK with
   | nil=>exact assign_snd fc.tk S h ok el rm Rl q
   | cons _ _=>exact no h
 | If t b o pos =>
  refine wpAny_If (S.t h ok rm Rl fun c σ1 g1 s1 h1 R1 X1 => ?_)
  induction c with
  | true=>rw [if_pos rfl];exact a2p S h1 ok el rm R1 (q.ext X1)
  | false=>rw [if_neg Bool.false_ne_true];exact a2p S h1 ok el rm R1 (q.ext X1)
 | While t b o pos =>
  induction o using aK with
  | nil=>exact while_snd S h ok el rm Rl q
  | cons _ _=>exact no h
 | For t it b o pos =>
  induction o using aK with
  | nil=>exact for_snd S h ok el rm Rl q
  | cons _ _=>exact no h
 | _=>exact no h
theorem expr_snd (fc:Facts C) (S:Snd C ih n) {e:Expr} {k:V→St→Option R} {Q:Value→Shared→Prop} (h:stepE C.T ih f.sc e ρ σ k=some r) (ok:FmOk C f) (rm:Room f n) (Rl:Rel C B f rs ρ σ g s) (q:QV C B f rs ρ g k r Q):wpAny C.M f.A (eval e f.env) Q E s:=by
 induction e using Expr.casesOn with
 | Constant c kd pos=>exact const_snd h Rl q
 | Name x pos=>exact name_snd' fc.tk h ok Rl q
 | BinOp l op e2 pos=>exact bin_snd S h ok rm Rl q
 | UnaryOp op x pos=>exact unary_snd S h ok rm Rl q
 | IfExp t b o pos=>exact ifexp_snd S h ok rm Rl q
 | BoolOp op vs pos=>exact a9o S h ok rm Rl q
 | Compare l ops es pos=>exact b4m S h ok rm Rl q
 | Tuple es kd pos=>exact tuple_snd S h ok rm Rl q
 | List es pos=>exact list_snd S h ok rm Rl q
 | Dict ks vs pos=>exact dict_snd S h ok rm Rl q
 | Attribute o a pos=>exact attr_snd fc.tk S h ok rm Rl q
 | Subscript o i pos=>exact sub_snd S h ok rm Rl q
 | ListComp elt gens sc2 pos=>exact lcomp_snd S h ok rm Rl q
 | DictComp kx vx gens sc2 pos=>exact b2t S h ok rm Rl q
 | Call fn args kws pos=>exact ecall_snd fc.tk S h ok rm Rl q
 | _=>exact no h
theorem step_snd (fc:Facts C) (S:Snd C ih n):Snd C (step C.T ih) (n+1) :=
 ⟨fun h ok rm Rl q=>expr_snd fc S h ok (rm.lt (cR n)) Rl q,fun h ok rm Rl q=>test_snd S h ok (rm.lt (cR n)) Rl q,fun h ok el rm Rl q=>stmt_snd fc S h ok el (rm.lt (cR n)) Rl q,
  fun h ok rm Rl hf hv q=>call_snd fc S h ok rm Rl hf hv q,fun h ok Rl hf=>keep_snd fc h ok Rl hf⟩
theorem ev_snd (fc:Facts C):∀ n,Snd C (ev C.T n:IH R) n
 | 0=>⟨fun h=>(nomatch h),fun h=>(nomatch h),fun h=>(nomatch h),fun h=>(nomatch h),fun h=>(nomatch h)⟩
 | n+1=>step_snd fc (ev_snd fc n)
end
end Mine
end
section
namespace Mine
open PySem
noncomputable def a6v (a:Arguments):Bool:=a.posonlyargs.isEmpty&&(a.kwonlyargs.isEmpty&&(a.kw_defaults.isEmpty&&(a.defaults.isEmpty&&(a.vararg.isNone&&a.kwarg.isNone))))
noncomputable def notFree:NameKind→Bool
 | .free=>false
 | _=>true
noncomputable def a8f (sc:Scope):Bool:=sc.names.all fun x=>notFree x.2
structure LamX where
 args:Arguments
 body:Expr
 scope:Scope
 pos:Pos
noncomputable def lam? (e:Expr):Option LamX:=if h:_ then Expr.Lambda.elim e h fun a b sc p=>some ⟨a,b,sc,p⟩ else none
noncomputable def b0x (args:List Expr):Option (List Expr×LamX):=optK args.getLast? fun e=>optK (lam? e) fun l=>some (args.dropLast,l)
noncomputable def asg? (s:Stmt):Option (List Expr×Expr):=if h:_ then Stmt.Assign.elim s h fun ts e z0=>some (ts,e) else none
noncomputable def callN? (e:Expr):Option (Expr×List Expr×List Keyword):=if h:_ then Expr.Call.elim e h fun f as ks z0=>some (f,as,ks) else none
noncomputable def for? (s:Stmt):Option (Expr×Expr×List Stmt×List Stmt):=if h:_ then Stmt.For.elim s h fun t it b o z0=>some (t,it,b,o) else none
structure LamAsg where
 x:Str
 f:Expr
 es:List Expr
 l:LamX
noncomputable def lamFor (x:Str) (q:Expr×List Expr×List Keyword):Option LamAsg:=bif q.2.2.isEmpty&&(nm? q.1).isSome then optK (b0x q.2.1) fun r=>some ⟨x,q.1,r.1,r.2⟩ else none
noncomputable def lamAsg? (s:Stmt):Option LamAsg:=optK (asg? s) fun p=>one? p.1 fun t=>optK (nm? t) fun x=>optK (callN? p.2) (lamFor x)
noncomputable def hasLamS (s:Stmt):Bool:=(lamAsg? s).isSome
noncomputable def forLam? (s:Stmt):Option (Expr×Expr×List Stmt×List Stmt):=optK (for? s) fun p=>bif p.2.2.2.isEmpty&&(p.2.2.1.any hasLamS && !a2a p.2.1) then some p else none
structure RefIf where
 a:Expr
 fn:Expr
 args:List Expr
 b:List Stmt
 o:List Stmt
noncomputable def if? (s:Stmt):Option (Expr×List Stmt×List Stmt):=if h:_ then Stmt.If.elim s h fun t b o z0=>some (t,b,o) else none
noncomputable def isOr (op:BoolOp):Bool:=Nat.beq op.ctorIdx BoolOp.Or.ctorIdx
noncomputable def isNot (op:UnaryOp):Bool:=Nat.beq op.ctorIdx UnaryOp.Not.ctorIdx
noncomputable def or? (e:Expr):Option (List Expr):=if h:_ then Expr.BoolOp.elim e h fun op vs z0=>bif isOr op then some vs else none else none
noncomputable def not? (e:Expr):Option Expr:=if h:_ then Expr.UnaryOp.elim e h fun op x z0=>bif isNot op then some x else none else none
noncomputable def refFor (a:Expr) (b o:List Stmt) (q:Expr×List Expr×List Keyword):Option RefIf:=optK (nm? q.1) fun x=>bif q.2.2.isEmpty&&seq x (oS "_law_is_refused") then some ⟨a,q.1,q.2.1,b,o⟩ else none
noncomputable def refIf? (s:Stmt):Option RefIf:=optK (if? s) fun p=>optK (or? p.1) fun vs=>two? vs fun a x=>optK (not? x) fun y=>optK (callN? y) (refFor a p.2.1 p.2.2)
noncomputable def onLst {R:Type} (d:D) (x:Option R):Option R:=match d with
 | .lst _=>x
 | _=>none
noncomputable def onG {R:Type} (n:Nat) (d:D) (x:Option R):Option R:=match d with
 | .g a=>bif Nat.beq a n then x else none
 | _=>none
noncomputable def b4s {R:Type} (args:List V) (x:Option R):Option R:=args2 args fun a b=>onDv a fun a=>onLst a (onIv b fun i=>bif decide (i < 1) then x else none)
section
variable {R:Type} (ih:IH R)
noncomputable def refGo (rf:Nat) (sc:Scope) (ρ:Loc) (σ:St) (K:KS R) (p:RefIf):Option R:=ih.t sc p.a ρ σ fun c σ=>bif c then evSs ih sc p.b ρ σ K else
 bif p.args.all fun e => !isStar e then ih.e sc p.fn ρ σ fun fv σ=>evL ih sc p.args ρ σ fun vs σ=>onDv fv fun d=>onG rf d (b4s vs (evSs ih sc p.o ρ σ K)) else none
noncomputable def lamD (l:LamX):V := .d (.lam (l.args.args.map (·.arg)) l.body l.scope)
noncomputable def lamGo (sc:Scope) (ρ:Loc) (σ:St) (K:KS R) (a:LamAsg):Option R:=bif a6v a.l.args&&(a8f a.l.scope&&a.es.all fun e => !isStar e) then ih.e sc a.f ρ σ fun fv σ=>evL ih sc a.es ρ σ fun vs σ=>ih.call fv (vs++[lamD a.l]) σ fun v σ=>putName sc a.x v ρ σ K.next else none
noncomputable def a4m (sc:Scope) (s:Stmt) (ρ:Loc) (σ:St) (K:KS R):Option R:=alt (lamAsg? s) (lamGo ih sc ρ σ K) (ih.s sc s ρ σ K)
noncomputable def seqS (st:Stmt→Loc→St→KS R→Option R):List Stmt→Loc→St→KS R→Option R
 | [],ρ,σ,K=>K.next ρ σ
 | s::r,ρ,σ,K=>st s ρ σ { K with next:=fun ρ σ=>seqS st r ρ σ K }
noncomputable def b4t (sc:Scope) (b:List Stmt) (ρ:Loc) (σ:St) (K:KS R):Option R:=seqS (a4m ih sc) b ρ σ K
noncomputable def a1b (sc:Scope) (s:Stmt) (ρ:Loc) (σ:St) (K:KS R):Option R:=alt (forLam? s) (fun p=>ih.e sc p.2.1 ρ σ fun v σ=>toD v σ fun v σ=>itemsOf v fun xs=>a1v sc p.1 (b4t ih sc) p.2.2.1 xs ρ σ K) (alt (refIf? s) (refGo ih 975 sc ρ σ K) (ih.s sc s ρ σ K))
noncomputable def b4u (sc:Scope) (b:List Stmt) (ρ:Loc) (σ:St) (K:KS R):Option R:=seqS (a1b ih sc) b ρ σ K
noncomputable def runTop (fd:FnRec) (args:List V) (σ:St) (k:V→St→Option R):Option R:=optK (bindParams fd.params args fd.dflts []) fun ρ=>b4u ih fd.scope fd.body (a0s fd.scope.names ρ σ).1 (a0s fd.scope.names ρ σ).2 ⟨fun z0 σ=>k (.d .none) σ,k,fun z0 z0=>none,fun z0 z0=>none⟩
end
noncomputable def isTrueB:Bool→Option Unit
 | true=>some ()
 | false=>none
noncomputable def isTrueD:D→Option Unit
 | .bool b=>isTrueB b
 | _=>none
noncomputable def isTrueV:V→Option Unit
 | .d d=>isTrueD d
 | .r _=>none
end Mine
end
section
namespace Mine
open PySem PySem.W PySem.Spec PySem.Calls PyProof.Rows PySem.SeqAt
structure LawF (C:Cx) (f:Fm) (c P:Addr):Prop where
 el:f.env.locals=f.L
 env:∃ cn a cl,f.env=envX cn f.sc f.L a (.ref c) cl
 hd:CodeHd f.h₀ c P
noncomputable def TabI (f:Fm) (fz:List (Addr×Obj)) (ps:Array Value):Prop:=TriplesOk ps.toList∧∀ pos v,codeAmong pos ps.toList=some v→∃ c' oc vs t,v = .ref c'∧(c',oc)∈fz∧oc.data = .fields vs∧vs[1]?=some (.str (f.env.qual ++ "<lambda>") t)
theorem TabI.mono {f:Fm} {fz fz':List (Addr×Obj)} {ps:Array Value} (h:TabI f fz ps) (hs:fz⊆fz'):TabI f fz' ps :=
 ⟨h.1,fun pos v e=>by
  refine exxx ?_ (h.2 pos v e);rintro c' oc vs;refine exaa ?_;rintro t a b;refine aE ?_;rintro d e
  exact ⟨c',oc,vs,t,a,hs b,d,e⟩⟩
theorem b0y {pos:Pos} {a b:Int} {c v:Value} (l:List Value) (h:TriplesOk l) (e:codeAmong pos (l++[rawInt a,rawInt b,c])=some v):v=c∨codeAmong pos l=some v:=by
 fun_induction TriplesOk l with
 | case1 =>
  simp only [bW,rawInt,codeAmong] at e
  split at e
  ·exact .inl (Option.some.inj e).symm
  ·exact nNS e
 | case2 x t y u z rest ih =>
  simp only [aM,codeAmong] at e ⊢
  split at e
  ·rename_i hc;rw [if_pos hc];exact .inr e
  ·rename_i hc;rw [if_neg hc];exact ih h e
 | case3 l h1 h2=>exact h.elim
section
variable {C:Cx} {ih:IH R} {n:Nat} {B:Buf} {f:Fm} {rs:List (Addr×Obj)} {ρ:Loc} {σ:St} {g:G} {s:Shared} {E:Value→Shared→Prop} {c P:Addr} {ps:Array Value}
theorem b3b {a:Arguments} (h:a6v a=true):a.posonlyargs=[]∧a.kwonlyargs=[]∧a.kw_defaults=[]∧a.defaults=[]∧a.vararg=none∧a.kwarg=none:=by
 have h2:=a0e h
 have h3:=a0e h2
 have h4:=a0e h3
 have h5:=a0e h4
 exact ⟨bC.mp (a0k h),bC.mp (a0k h2),bC.mp (a0k h3),bC.mp (a0k h4),Option.isNone_iff_eq_none.mp (a0k h5),Option.isNone_iff_eq_none.mp (a0e h5)⟩
theorem lam_eval {l:LamX} (lf:LawF C f c P) (ok:FmOk C f) (hp:a6v l.args=true) (hnf:a8f l.scope=true) (hP:∀ p∈rs,p.1≠P) (ti:TabI f g.fz ps) (Rl:Rel C B f ((P,tabObj ps)::rs) ρ σ g s) {Q:Value→Shared→Prop}
  (q:∀ ps' g' s' val,TabI f g'.fz ps'→Rel C B f ((P,tabObj ps')::rs) ρ σ g' s'→Ext g g'→DRep C B g'.fz (.lam (l.args.args.map (·.arg)) l.body l.scope) val→Q val s') :
  wpAny C.M f.A (eval (.Lambda l.args l.body l.scope l.pos) f.env) Q E s:=by
 refine eaaa ?_ (b3b hp);rintro p1 p2 p3;refine eaa ?_;rintro p4 p5 p6
 refine exxx ?_ lf.env;rintro cn a cl he
 refine exa ?_ Rl.loc;rintro m F lc
 have hcl:closureFor l.scope f.env=pure []:=closureFor_none fun x hx e=>by
  have:=aF.mp hnf x hx
  obtain ⟨y,k⟩:=x
  dsimp only at e;subst e;exact nFT this
 have hap:=Rl.apart hP
 have N1:News f.h₀ f.L s.heap ((P,tabObj ps)::g.led rs):=by
  intro p hp
  rcases bP.mp hp with rfl | hp
  ·exact Rl.news _ (a0l (.head _))
  ·refine Rl.news p ?_
   rcases bM.mp hp with hp | hp
   ·exact bN _ hp
   ·rcases bM.mp hp with hp | hp
    ·exact a1g hp
    ·exact a0l (.tail _ hp)
 have back:∀ {ps':Array Value} {fa c':Addr} {fo oc:Obj} {new:List (Addr×Obj)} {h':Heap} {tk:Nat},(∀ p∈new,p=(fa,fo)∨p=(c',oc))→Fr f.h₀ f.L h' m→(∀ p∈new++(P,tabObj ps')::g.led rs,h'.get? p.1=some p.2∧p.1≠f.L∧f.h₀.get? p.1=none) →
   (∀ p∈new,∀ q∈(P,tabObj ps)::g.led rs,q.1 < p.1)→Rel C B f ((P,tabObj ps')::rs) ρ σ ⟨g.as,g.os,new++g.fz⟩ { s with heap:=h',toks:=tk }∧Ext g ⟨g.as,g.os,new++g.fz⟩:=by
  intro ps' fa c' fo oc new h' tk hnew F' N' lt
  have x:Ext g ⟨g.as,g.os,new++g.fz⟩:=⟨cD _,fun z0 h=>bO _ h⟩
  have N2:News f.h₀ f.L h' (G.led ⟨g.as,g.os,new++g.fz⟩ ((P,tabObj ps')::rs)):=by
   intro p hp
   refine N' p ?_
   rcases bM.mp hp with hp | hp
   ·exact bO _ (.tail _ (bN _ hp))
   ·rcases bM.mp hp with hp | hp
    ·rcases bM.mp hp with hp | hp
     ·exact bN _ hp
     ·exact bO _ (.tail _ (a1g hp))
    ·rcases bP.mp hp with rfl | hp
     ·exact bO _ (.head _)
     ·exact bO _ (.tail _ (a0l hp))
  have ledOf:∀ q∈g.fz,q∈(P,tabObj ps)::g.led rs:=fun q hq => .tail _ (a1g hq)
  refine ⟨⟨⟨m,F',.inl ⟨lf.el,?_⟩⟩,N2,Rl.lenA,Rl.lenO,Rl.nodup,?_,?_,?_,Rl.gens,Rl.os⟩,x⟩
  ·rcases lc with z0_ | z1_
   ·revert z0_;refine aE ?_;rintro _ lr
    exact lr.ext x
   ·obtain ⟨_,o,mC,hm,_,_⟩:=z1_
    have:=(Rl.news _ (a0l hm)).2.1
    exact absurd lf.el this
  ·intro i o a' ob h1 h2 h3
   have qq:=Rl.own i o a' ob h1 h2 h3
   refine ⟨qq.1.ext x,fun e p hp => ?_,fun e=>x.fz (qq.2.2.1 e),fun y e=>(qq.2.2.2.1 y e).mono x.fz,qq.2.2.2.2⟩
   rcases bM.mp hp with hp | hp
   ·exact (cX (lt p hp _ (.tail _ (a2f h2 h3)))).symm
   ·exact qq.2.1 e p hp
  ·intro q hq p hp
   rcases bM.mp hp with hp | hp
   ·rcases bP.mp hq with rfl | hq
    ·exact (cX (lt p hp (P,tabObj ps) (.head _))).symm
    ·exact (cX (lt p hp q (.tail _ (a0l hq)))).symm
   ·rcases bP.mp hq with rfl | hq
    ·exact Rl.rsF (P,tabObj ps) (.head _) p hp
    ·exact Rl.rsF q (.tail _ hq) p hp
  ·intro q hq b hb
   rcases bP.mp hq with rfl | hq
   ·exact Rl.rsA (P,tabObj ps) (.head _) b hb
   ·exact Rl.rsA q (.tail _ hq) b hb
 have hlam:∀ {qual:Str} {c':Addr} {oc:Obj} {pm ctv:Value} {vs:Array Value} {t:Tok},oc.data = .fields vs→vs[1]?=some (.str qual t)→LamOk (l.args.args.map (·.arg)) l.body l.scope (kla_obj "<lambda>" qual l.args l.body l.scope [] pm c' ctv) c' oc :=
  fun e1 e2=>⟨_,_,_,_,_,_,_,rfl,e1,e2,p1,rfl,p2,p5,p6⟩
 refine kla_eval (by obtain ⟨al,bb,sc,pp⟩:=l;obtain ⟨a1,a2,a3,a4,a5,a6,a7⟩:=al;dsimp only at p3 p4;subst p3 p4;rfl) ?_
 rw [he] at hcl ⊢
 cases hca:codeAmong l.pos ps.toList with
 | none =>
  refine kla_nest F N1 ok.top lf.hd rfl (.head hap) ti.1 hca hcl fun fa c' oc vs t ctv h' tk F' N' e1 e2 l1 l2 => ?_
  obtain ⟨R',X'⟩:=back (new:=[(fa,_),(c',oc)]) (tk:=tk) (fun p hp=>by simpa using hp) F' (fun p hp=>N' p (by simpa using hp)) (fun p hp q hq=>by
   simp only [bP,cB,or_false] at hp
   rcases hp with rfl | rfl
   ·exact cW (l1 q hq) l2
   ·exact l1 q hq)
  refine q _ _ _ _ ⟨by rw [Array.toList_append];exact TriplesOk_snoc _ _ _ _ ti.1,fun pos v e => ?_⟩ R' X' (.lam _ _ _ _ _ _ _ (.inl (.head _)) (.inl (.tail _ (.head _))) (hlam e1 e2))
  rw [Array.toList_append] at e
  rcases b0y _ ti.1 e with rfl | e
  ·refine ⟨c',oc,vs,t,rfl,.tail _ (.head _),e1,?_⟩
   rw [he];exact e2
  ·refine exxx ?_ (ti.2 pos v e);rintro c'' oc' vs';refine exaa ?_;rintro t' a1 a2;refine aE ?_;rintro a3 a4
   exact ⟨c'',oc',vs',t',a1,.tail _ (.tail _ a2),a3,a4⟩
 | some v =>
  refine exxx ?_ (ti.2 _ _ hca);rintro c' oc vs;refine exaa ?_;rintro t rfl hm;refine aE ?_;rintro e1 e2
  refine kla_hit F N1 ok.top lf.hd rfl (.head _) ti.1 hca hcl fun fa ctv h' tk F' N' l1 => ?_
  obtain ⟨R',X'⟩:=back (ps':=ps) (fa:=fa) (c':=fa) (oc:=default) (new:=[(fa,_)]) (tk:=tk) (fun p hp=>by simp at hp;exact .inl hp) F' (fun p hp=>N' p (by simpa using hp)) (fun p hp q hq=>by
   simp only [bP,cB,or_false] at hp
   subst hp
   exact l1 q hq)
  rw [he] at e2
  exact q _ _ _ _ (ti.mono X'.fz) R' X' (.lam _ _ _ _ _ _ _ (.inl (.head _)) (.inl (.tail _ hm)) (hlam e1 e2))
noncomputable abbrev RelL (C:Cx) (B:Buf) (f:Fm) (P:Addr) (rs:List (Addr×Obj)) (ρ:Loc) (σ:St) (g:G) (s:Shared):Prop:=RelX C B f (fun ps g=>TabI f g.fz ps) (fun ps=>(P,tabObj ps)::rs) ρ σ g s
noncomputable abbrev QSL (C:Cx) (B:Buf) (f:Fm) (P:Addr) (rs:List (Addr×Obj)) (g:G) (K:KS R) (r:R) (Q:Flow→Shared→Prop):Prop:=QSX C B f (fun ps g=>TabI f g.fz ps) (fun ps=>(P,tabObj ps)::rs) g K r Q
theorem callN_eq {e:Expr} {q:Expr×List Expr×List Keyword} (h:callN? e=some q):∃ p,e = .Call q.1 q.2.1 q.2.2 p :=
 (a0w h).elim fun hc hf=>Expr.Call.elim (motive_1:=fun e=>∀ hc,Expr.Call.elim e hc (fun f as ks z0=>some (f,as,ks))=some q→∃ p,e = .Call q.1 q.2.1 q.2.2 p) e hc (fun z0 z0 z0 pp z0 hf=>⟨pp,Option.some.inj hf▸rfl⟩) hc hf
theorem lam_eq {e:Expr} {l:LamX} (h:lam? e=some l):e = .Lambda l.args l.body l.scope l.pos :=
 (a0w h).elim fun hc hf=>Expr.Lambda.elim (motive_1:=fun e=>∀ hc,Expr.Lambda.elim e hc (fun a b sc p=>some (LamX.mk a b sc p))=some l→e = .Lambda l.args l.body l.scope l.pos) e hc (fun z0 z0 z0 z0 z0 hf=>Option.some.inj hf▸rfl) hc hf
theorem asg_eq {st:Stmt} {q:List Expr×Expr} (h:asg? st=some q):∃ p,st = .Assign q.1 q.2 p :=
 (a0w h).elim fun hc hf=>Stmt.Assign.elim (motive_2:=fun st=>∀ hc,Stmt.Assign.elim st hc (fun ts e z0=>some (ts,e))=some q→∃ p,st = .Assign q.1 q.2 p) st hc (fun z0 z0 pp z0 hf=>⟨pp,Option.some.inj hf▸rfl⟩) hc hf
theorem for_eq {st:Stmt} {q:Expr×Expr×List Stmt×List Stmt} (h:for? st=some q):∃ p,st = .For q.1 q.2.1 q.2.2.1 q.2.2.2 p :=
 (a0w h).elim fun hc hf=>Stmt.For.elim (motive_2:=fun st=>∀ hc,Stmt.For.elim st hc (fun t it b o z0=>some (t,it,b,o))=some q→∃ p,st = .For q.1 q.2.1 q.2.2.1 q.2.2.2 p) st hc (fun z0 z0 z0 z0 pp z0 hf=>⟨pp,Option.some.inj hf▸rfl⟩) hc hf
theorem one_eq {α β:Type} {xs:List α} {F:α→Option β} {r:β} (h:one? xs F=some r):∃ x,xs=[x]∧F x=some r:=by
 induction xs using aK with
 | nil=>exact no h
 | cons x xs=>induction xs using aK with
  | nil=>exact ⟨x,rfl,h⟩
  | cons _ _=>exact no h
theorem b4v {args:List Expr} {q:List Expr×LamX} (h:b0x args=some q):args=q.1++[.Lambda q.2.args q.2.body q.2.scope q.2.pos]:=by
 refine exa ?_ (a0i h);rintro e he h
 refine exa ?_ (a0i h);rintro l hl h
 have h_:=Option.some.inj h;subst h_
 refine xE ?_ (List.getLast?_eq_some_iff.mp he);rintro ys hy
 rw [hy,List.dropLast_concat,lam_eq hl]
theorem lamAsg_eq {st:Stmt} {a:LamAsg} (h:lamAsg? st=some a):∃ p1 cp sp,st = .Assign [.Name a.x p1] (.Call a.f (a.es++[.Lambda a.l.args a.l.body a.l.scope a.l.pos]) [] cp) sp∧∃ y p,a.f = .Name y p:=by
 refine exa ?_ (a0i h);rintro p hp h1
 refine exa ?_ (one_eq h1);rintro t ht h2
 refine exa ?_ (a0i h2);rintro x hx h3
 refine exa ?_ (a0i h3);rintro q hq h4
 refine exa ?_ (a0i (a0c h4));rintro w hw h5
 refine xE ?_ (asg_eq hp);rintro sp es
 refine xE ?_ (nm_eq hx);rintro p1 et
 refine xE ?_ (callN_eq hq);rintro cp hc
 refine xE ?_ (Option.isSome_iff_exists.mp (a0e (a0b h4)));rintro y hy
 have e5:=Option.some.inj h5
 exact ⟨p1,cp,sp,by rw [es,ht,hc,et,bC.mp (a0k (a0b h4)),b4v hw,← e5],y,(nm_eq hy).imp fun p e=>e5▸e⟩
theorem b4w (S:Snd C ih n) {l:LamX} {pos:Pos} (lf:LawF C f c P) (hp:a6v l.args=true) (hnf:a8f l.scope=true) (hP:∀ p∈rs,p.1≠P) {es:List Expr} {σ:St} {g:G} {s:Shared} {ps:Array Value} {k:List V→St→Option R} {Q:List Value→Shared→Prop} (h:evL ih f.sc es ρ σ k=some r) (ok:FmOk C f) (rm:Room f n) (ti:TabI f g.fz ps) (Rl:Rel C B f ((P,tabObj ps)::rs) ρ σ g s)
  (q:∀ vs σ' g' s' ps' vals,k vs σ'=some r→TabI f g'.fz ps'→Rel C B f ((P,tabObj ps')::rs) ρ σ' g' s'→Ext g g'→VReps C B g' (vs++[lamD l]) vals→Q vals s') :
  wpAny C.M f.A (spliced (backTo pos (starEach (es++[.Lambda l.args l.body l.scope l.pos]) f.env))) Q E s:=by
 induction es generalizing σ g s ps k Q with
 | nil=>exact spliced_cons (lam_eval lf ok hp hnf hP ti Rl fun ps' g' s' val ti' R' X' dr=>wpAny_pure (q [] σ g' s' ps' [val] h ti' R' X' (.cons _ _ _ _ dr .nil)))
 | cons e es IH =>
  rw [aM,a1w (a7u h)]
  exact spliced_cons (S.e (a4d h) ok rm Rl fun v σ1 g1 s1 val h1 R1 X1 hv=>IH h1 (ti.mono X1.fz) R1 fun vs σ2 g2 s2 ps2 vals h2 t2 R2 X2 hvs=>q (v::vs) σ2 g2 s2 ps2 (val::vals) h2 t2 R2 (X1.trans X2) (.cons _ _ _ _ (hv.ext X2) hvs))
theorem star_lam {es:List Expr} {l:LamX} (h:es.all (fun e => !isStar e)=true):(es++[Expr.Lambda l.args l.body l.scope l.pos]).all (fun e => !isStar e)=true:=by
 rw [List.all_append,h];rfl
theorem args_ne {pos:Pos} {fv:Value} {args:List Expr} {A:Around} {Q:Args→Shared→Prop} (hne:args≠[]) (hst:args.all (fun e => !isStar e)=true) (h:wpAny C.M A (spliced (backTo pos (starEach args f.env))) (fun vs s'=>Q { pos:=vs } s') E s) :
  wpAny C.M A (evalArgs fv true (backTo pos (starEach args f.env)) []) Q E s:=by
 induction args using aK with
 | nil=>exact absurd rfl hne
 | cons e es =>
  have hs:isStar e=false:=aC _▸a0k (show (!isStar e&&es.all fun e => !isStar e)=true from hst)
  rw [a1w hs] at h ⊢
  exact evalArgs_plain h
theorem app_ne {es:List Expr} {x:Expr}:es++[x]≠[]:=fun h=>nomatch (List.append_eq_nil_iff.mp h).2
theorem lamGo_snd (S:Snd C ih n) {a:LamAsg} {p1 cp sp:Pos} {K:KS R} {Q:Flow→Shared→Prop} (lf:LawF C f c P) (hP:∀ p∈rs,p.1≠P) {y:Str} {fp:Pos} (hf:a.f = .Name y fp) (h:lamGo ih f.sc ρ σ K a=some r) (ok:FmOk C f) (rm:Room f n) (ti:TabI f g.fz ps) (Rl:Rel C B f ((P,tabObj ps)::rs) ρ σ g s) (q:QSL C B f P rs g K r Q) :
  wpAny C.M f.A (exec (.Assign [.Name a.x p1] (.Call a.f (a.es++[.Lambda a.l.args a.l.body a.l.scope a.l.pos]) [] cp) sp) f.env) Q E s:=by
 have hz:=a0b h
 have hst:=a0e (a0e hz)
 have h:=a0c h
 rw [hf] at h ⊢
 refine wpAny_Assign_Name (Call_ (S.e h ok rm Rl fun fv σ1 g1 s1 val h1 R1 X1 hv => ?_)) rfl
 refine callWith_of (P:=fun h=>∃ kp,(kp=Keeper.frame∨kp=Keeper.machine∨kp=Keeper.boundFrame)∧Looks C.M h (keeperOf val) kp) (by rw [a9m (star_lam hst)];rfl) (fun z0 x=>x) (args_ne app_ne (star_lam hst) ?_)
 exact b4w S lf (a0k hz) (a0k (a0e hz)) hP h1 ok rm (ti.mono X1.fz) R1 fun vs σ2 g2 s2 ps2 vals h2 t2 R2 X2 hvs=>⟨S.keep h2 ok R2 (hv.ext X2),S.call h2 ok rm R2 (hv.ext X2) hvs fun u σ3 g3 s3 u' h3 R3 X3 hu =>
  a5d h3 ok lf.el R3 hu fun ρ' σ' g' s' hk R' X'=>q.next _ _ _ _ hk ⟨ps2,t2.mono (X3.trans X').fz,R'⟩ (X1.trans (X2.trans (X3.trans X')))⟩
theorem TabI.ext {g g':G} {ps:Array Value} (h:TabI f g.fz ps) (x:Ext g g'):TabI f g'.fz ps:=h.mono x.fz
theorem plainS (S:Snd C ih n) {st:Stmt} {K:KS R} {Q:Flow→Shared→Prop} (el:f.env.locals=f.L) (h:ih.s f.sc st ρ σ K=some r) (ok:FmOk C f) (rm:Room f n) (ti:TabI f g.fz ps) (Rl:Rel C B f ((P,tabObj ps)::rs) ρ σ g s) (q:QSL C B f P rs g K r Q):wpAny C.M f.A (exec st f.env) Q E s :=
 S.s h ok el rm Rl (q.plain (x:=ps) fun g' X=>ti.ext X)
theorem b4x (S:Snd C ih n) {st:Stmt} {K:KS R} {Q:Flow→Shared→Prop} (lf:LawF C f c P) (hP:∀ p∈rs,p.1≠P) (h:a4m ih f.sc st ρ σ K=some r) (ok:FmOk C f) (rm:Room f n) (Rl:RelL C B f P rs ρ σ g s) (q:QSL C B f P rs g K r Q) :
  wpAny C.M f.A (exec st f.env) Q E s:=by
 revert Rl;refine exa ?_;rintro ps ti Rl
 refine a6f h (fun a ha h => ?_) fun z0 h=>plainS S lf.el h ok rm ti Rl q
 obtain ⟨p1,cp,sp,e,y,fp,hf⟩:=lamAsg_eq ha
 exact e▸lamGo_snd S lf hP hf h ok rm ti Rl q
theorem seqS_snd {st:Stmt→Loc→St→KS R→Option R} (hst:∀ {a:Stmt} {ρ:Loc} {σ:St} {g:G} {s:Shared} {K:KS R} {Q:Flow→Shared→Prop} {E:Value→Shared→Prop},st a ρ σ K=some r→RelL C B f P rs ρ σ g s→QSL C B f P rs g K r Q→wpAny C.M f.A (exec a f.env) Q E s)
  {ss:List Stmt} {K:KS R} {Q:Flow→Shared→Prop} (h:seqS st ss ρ σ K=some r) (Rl:RelL C B f P rs ρ σ g s) (q:QSL C B f P rs g K r Q):wpAny C.M f.A (execs ss f.env) Q E s:=by
 induction ss generalizing ρ σ g s with
 | nil=>exact wpAny_pure (q.next _ _ _ _ h Rl (Ext.refl _))
 | cons a ss IH=>exact wpAny_execs_cons (hst h Rl ⟨fun ρ' σ' g' s' h1 R1 X1=>IH h1 R1 (q.ext X1),q.ret,q.cont,q.brk⟩)
theorem lawFor_snd (S:Snd C ih n) {p:Expr×Expr×List Stmt×List Stmt} {pos:Pos} {K:KS R} {Q:Flow→Shared→Prop} (lf:LawF C f c P) (hP:∀ p∈rs,p.1≠P) (hs:a2a p.2.1=false)
  (h:(ih.e f.sc p.2.1 ρ σ fun v σ=>toD v σ fun v σ=>itemsOf v fun xs=>a1v f.sc p.1 (b4t ih f.sc) p.2.2.1 xs ρ σ K)=some r) (ok:FmOk C f) (rm:Room f n) (ti:TabI f g.fz ps) (Rl:Rel C B f ((P,tabObj ps)::rs) ρ σ g s) (q:QSL C B f P rs g K r Q) :
  wpAny C.M f.A (exec (.For p.1 p.2.1 p.2.2.1 [] pos) f.env) Q E s:=by
 refine for_any (J:=fun ps g=>TabI f g.fz ps) (rsOf:=fun ps=>(P,tabObj ps)::rs) (x0:=ps) S hs h ok lf.el rm (fun z0 z0 z0 h X=>h.ext X) ti Rl q (fun {I oI ρ σ g s K Q E x} hn h1 t1 R1 q1 => ?_) fun z0 z0=>rfl
 have sw:∀ {y:Array Value} {o:Obj} {a b:Addr×Obj} (p:Addr×Obj),p∈a::b::rs→p∈b::a::rs:=fun p hp=>by
  rcases bP.mp hp with e | hp
  ·exact e ▸ .tail _ (.head _)
  ·rcases bP.mp hp with e | hp
   ·exact e ▸ .head _
   ·exact .tail _ (.tail _ hp)
 have hP':∀ p∈(I,oI)::rs,p.1≠P:=fun p hp=>by
  rcases bP.mp hp with e | hp
  ·exact e▸(hn x _ (.head _)).symm
  ·exact hP p hp
 have swap:∀ {ρ':Loc} {σ':Mine.St} {g':G} {s':Shared},RelL C B f P ((I,oI)::rs) ρ' σ' g' s'→RelX C B f (fun ps g=>TabI f g.fz ps) (fun ps=>(I,oI)::(P,tabObj ps)::rs) ρ' σ' g' s':=fun ⟨y,ty,R⟩=>⟨y,ty,R.sel (sw (y:=y) (o:=oI)) fun o h=>sw (y:=y) (o:=oI) _ h⟩
 exact seqS_snd (rs:=(I,oI)::rs) (fun h R q=>b4x S lf hP' h ok rm R q) h1 ⟨x,t1,R1.sel (sw (y:=x) (o:=oI)) fun o h=>sw (y:=x) (o:=oI) _ h⟩
  ⟨fun z0 z0 z0 z0 a b c=>q1.next _ _ _ _ a (swap b) c,fun z0 z0 z0 z0 z0 z0 a b c d=>q1.ret _ _ _ _ _ _ a (swap b) c d,fun z0 z0 z0 z0 a b c=>q1.cont _ _ _ _ a (swap b) c,fun z0 z0 z0 z0 a b c=>q1.brk _ _ _ _ a (swap b) c⟩
structure RefOk (C:Cx) (f:Fm) (n:Nat):Prop where
 keep:keepIn C.K (.ref n)=true
 go:∀ {B:Buf} {rs:List (Addr×Obj)} {ρ:Loc} {σ:St} {g:G} {s:Shared} {E:Value→Shared→Prop} {Q:Value→Shared→Prop} {xs:List D} {i:Int} {vals:List Value},i < 1→Rel C B f rs ρ σ g s→DReps C B g.fz [.lst xs,.int i] vals →
  (∀ s',Rel C B f rs ρ σ g s'→Q (.bool true) s')→wpAny C.M f.A (call (.ref n) vals) Q E s
theorem if_eq {st:Stmt} {q:Expr×List Stmt×List Stmt} (h:if? st=some q):∃ p,st = .If q.1 q.2.1 q.2.2 p :=
 (a0w h).elim fun hc hf=>Stmt.If.elim (motive_2:=fun st=>∀ hc,Stmt.If.elim st hc (fun t b o z0=>some (t,b,o))=some q→∃ p,st = .If q.1 q.2.1 q.2.2 p) st hc (fun z0 z0 z0 pp z0 hf=>⟨pp,Option.some.inj hf▸rfl⟩) hc hf
theorem or_eq {e:Expr} {vs:List Expr} (h:or? e=some vs):∃ p,e = .BoolOp .Or vs p :=
 (a0w h).elim fun hc hf=>Expr.BoolOp.elim (motive_1:=fun e=>∀ hc,Expr.BoolOp.elim e hc (fun op vs z0=>bif isOr op then some vs else none)=some vs→∃ p,e = .BoolOp .Or vs p) e hc (fun op z0 p z0 hf=>match op,hf with | .Or,hf=>⟨p,Option.some.inj hf▸rfl⟩ | .And,hf=>nomatch hf) hc hf
theorem not_eq {e x:Expr} (h:not? e=some x):∃ p,e = .UnaryOp .Not x p :=
 (a0w h).elim fun hc hf=>Expr.UnaryOp.elim (motive_1:=fun e=>∀ hc,Expr.UnaryOp.elim e hc (fun op x z0=>bif isNot op then some x else none)=some x→∃ p,e = .UnaryOp .Not x p) e hc (fun op z0 p z0 hf=>by
  induction op with
  | Not=>exact ⟨p,Option.some.inj hf▸rfl⟩
  | _=>exact no hf) hc hf
theorem two_eq {α β:Type} {xs:List α} {F:α→α→Option β} {r:β} (h:two? xs F=some r):∃ a b,xs=[a,b]∧F a b=some r:=by
 induction two_is h with | mk a b h=>exact ⟨a,b,rfl,h⟩
theorem refIf_eq {st:Stmt} {a:RefIf} (h:refIf? st=some a):∃ p0 p1 p2 cp x fp,a.fn = .Name x fp∧st = .If (.BoolOp .Or [a.a,.UnaryOp .Not (.Call a.fn a.args [] cp) p2] p1) a.b a.o p0:=by
 refine exa ?_ (a0i h);rintro p hp h1
 refine exa ?_ (a0i h1);rintro vs hv h2
 refine exxa ?_ (two_eq h2);rintro x y hxy h3
 refine exa ?_ (a0i h3);rintro z hz h4
 refine exa ?_ (a0i h4);rintro q hq h5
 refine exa ?_ (a0i h5);rintro w hw h6
 refine xE ?_ (if_eq hp);rintro p0 e0
 refine xE ?_ (or_eq hv);rintro p1 e1
 refine xE ?_ (not_eq hz);rintro p2 e2
 refine xE ?_ (callN_eq hq);rintro cp e3
 refine xE ?_ (nm_eq hw);rintro fp e4
 have e5:=Option.some.inj (a0c h6)
 exact ⟨p0,p1,p2,cp,w,fp,e5▸e4,by rw [e0,e1,hxy,e2,e3,bC.mp (a0k (a0b h6)),← e5]⟩
theorem onG_is {m:Nat} {d:D} {F:Option R} {val:Value} {fz:List (Addr×Obj)} (h:onG m d F=some r) (hd:DRep C B fz d val):val = .ref m∧F=some r:=by
 induction d using D.casesOn with
 | g a=>induction hd with | mk o _=>exact ⟨cL (a0b h)▸rfl,a0c h⟩
 | _=>exact no h
theorem refArgs_is {args:List V} {vals:List Value} {F:Option R} (h:b4s args F=some r) (hv:VReps C B g args vals):∃ xs i,i < 1∧DReps C B g.fz [.lst xs,.int i] vals∧F=some r:=by
 induction a4y h hv with | mk a b av bv h1 h2 h =>
 induction a0p h h1 with | mk x h1 h =>
 induction x using D.casesOn with
 | lst xs=>induction a1d h h2 with | mk i t h=>exact ⟨xs,i,of_decide_eq_true (a0b h),.mk _ _ h1 (.mk _ _ (.int i t) .nil),a0c h⟩
 | _=>exact no h
theorem refGo_snd (S:Snd C ih n) {rf:Nat} (hR:RefOk C f rf) {a:RefIf} {p0 p1 p2 cp fp:Pos} {x:Str} (hf:a.fn = .Name x fp) {K:KS R} {Q:Flow→Shared→Prop} (h:refGo ih rf f.sc ρ σ K a=some r) (ok:FmOk C f) (el:f.env.locals=f.L) (rm:Room f n) (Rl:Rel C B f rs ρ σ g s) (q:QS C B f rs g K r Q) :
  wpAny C.M f.A (exec (.If (.BoolOp .Or [a.a,.UnaryOp .Not (.Call a.fn a.args [] cp) p2] p1) a.b a.o p0) f.env) Q E s:=by
 refine wpAny_If (wpAny_isTrue_BoolOp (wpAny_allTrue_Or_cons (S.t h ok rm Rl fun c σ1 g1 s1 h1 R1 X1 => ?_)))
 induction c with
 | true=>rw [if_pos rfl];exact a2p S h1 ok el rm R1 (q.ext X1)
 | false =>
  rw [hf] at h1 ⊢
  have hst:=a0b h1
  refine wpAny_allTrue_Or_cons (wpAny_isTrue_Not (wpAny_isTrue_value (Call_ (S.e (a0c h1) ok rm R1 fun fv σ2 g2 s2 val h2 R2 X2 hv=>a2x S hst h2 ok rm R2 fun vs σ3 g3 s3 vals h3 R3 X3 hvs => ?_)) rfl))
  induction a0p h3 (hv.ext X3) with | mk d hd h3 =>
  refine aE ?_ (onG_is h3 hd);rintro rfl h3
  refine exxa ?_ (refArgs_is h3 hvs);rintro xs i hi;refine aE ?_;rintro dr h4
  refine ⟨keeps_K hR.keep s3.heap (R3.inK ok),hR.go hi R3 dr fun s4 R4=>wpAny_truthy_bool ?_⟩
  exact wpAny_allTrue_Or_nil (a2p S h4 ok el rm R4 (q.ext (X1.trans (X2.trans X3))))
theorem lawTop_snd (S:Snd C ih n) (hR:RefOk C f 975) {st:Stmt} {K:KS R} {Q:Flow→Shared→Prop} (lf:LawF C f c P) (hP:∀ p∈rs,p.1≠P) (h:a1b ih f.sc st ρ σ K=some r) (ok:FmOk C f) (rm:Room f n) (Rl:RelL C B f P rs ρ σ g s) (q:QSL C B f P rs g K r Q) :
  wpAny C.M f.A (exec st f.env) Q E s:=by
 revert Rl;refine exa ?_;rintro ps ti Rl
 refine a6f h (fun a ha h => ?_) fun z0 h=>a6f h (fun a ha h => ?_) fun z0 h=>plainS S lf.el h ok rm ti Rl q
 case refine_2 =>
  refine exxx ?_ (refIf_eq ha);rintro p0 p1 p2;refine exxx ?_;rintro cp x fp;refine aE ?_;rintro hf e
  exact e▸refGo_snd S hR hf h ok lf.el rm Rl (q.plain (x:=ps) fun g' X=>ti.ext X)
 refine exa ?_ (a0i ha);rintro b hb ha
 have hz:=a0b ha
 have e:=Option.some.inj (a0c ha)
 refine xE ?_ (for_eq hb);rintro p hp
 rw [hp,bC.mp (a0k hz),e]
 exact lawFor_snd S lf hP (e▸b2s (a0e (a0e hz))) h ok rm ti Rl q
theorem lawSs_snd (S:Snd C ih n) (hR:RefOk C f 975) (lf:LawF C f c P) (hP:∀ p∈rs,p.1≠P) {ss:List Stmt} {K:KS R} {Q:Flow→Shared→Prop} (h:b4u ih f.sc ss ρ σ K=some r) (ok:FmOk C f) (rm:Room f n) (Rl:RelL C B f P rs ρ σ g s) (q:QSL C B f P rs g K r Q) :
  wpAny C.M f.A (execs ss f.env) Q E s:=seqS_snd (fun h R q=>lawTop_snd S hR lf hP h ok rm R q) h Rl q
end
end Mine
end
section
namespace Mine
open PySem PySem.W PySem.Spec PySem.Calls PyProof.Rows PySem.SeqAt
theorem ints_rep {C:Cx} {B:Buf} {fz:List (Addr×Obj)}:∀ {ns:List Int} {vs:List Value},IntsAre vs ns→DReps C B fz (ns.map .int) vs:=by
 intro x_
 induction x_ with
 | nil =>
  intro vs h
  cases h;exact .nil
 | cons n ns IH_ =>
  intro vs h
  cases h with
  | cons _ _ r=>exact .cons _ _ _ _ (.int _ _) (IH_ r)
theorem nodup_one {l:List Str} (h:l.length=1):l.Nodup:=by
 induction l using aK with
 | nil=>exact bZ
 | cons x r=>induction r using aK with
  | nil=>exact bY.mpr ⟨cB,bZ⟩
  | cons _ _=>exact nomatch h
theorem told_true {C:Cx} {B:Buf} {g:G} {v:V} {u:Value} (hk:isTrueV v=some ()) (hv:VRep C B g v u):u = .bool true:=by
 induction v with
 | r _=>exact no hk
 | d d=>induction d using D.casesOn with
  | bool b=>induction b with
   | true=>exact hv
   | false=>exact no hk
  | _=>exact no hk
theorem top_walk {C:Cx} (fc:Facts C) (hR:∀ f,FmOk C f→f.outer=[]→f.base=f.h₀→Room f 12→RefOk C f 975) {n:Nat} (hn:n≤290) (hn12:12≤n) {fd:FnRec} (fcl:(cn fd.scope.names).Nodup) (fca:∀ x∈cn fd.scope.names,fd.scope.names.lookup x=some .cell) (fnf:∀ x∈fd.scope.names,x.2 ≠ .free) (fnm:namesOk fd.scope=true) (fk:fd.scope.kind = .function) (fpar:fd.params.length=1) (fdl:fd.dflts=[])
  {qual:Str} {a c P:Addr} {gh h₁:Heap} {L:Addr} {tk:Nat} {cells:List (Addr×Obj)} {s:Shared} {p:Program} {loose:List Str} {mean:ExcName→Option Value} {mg mb:Str→Option Value} {ax:Addr} {vs:List Value} {ns:List Int}
  (F':Fr gh L h₁ (bindL (envOfC qual fd.scope L a (.ref c)).kindOf (fd.params.zip [.ref ax]) fun z0=>none)) (N':News gh L h₁ (cells++[(P,tabObj #[])])) (Ce:CellsAre (bindC (envOfC qual fd.scope L a (.ref c)).kindOf (fd.params.zip [.ref ax]) fun z0=>none) (cellsFrom (L+1) fd.scope.names []) cells)
  (K':Below callerA gh [] gh) (X':C.K.In gh) (T':Top p loose mean mg mb gh) (hcd:CodeHd gh c P) (hP:P < L) (hx:C.K.lookup ax=some (W.listOf vs.toArray 0)) (hI:IntsAre vs ns)
  (hev:runTop (ev C.T n) fd [.d (.lst (ns.map .int))] [] (fun v z0=>isTrueV v)=some ())
  {E:Value→Shared→Prop} {Q:Flow→Shared→Prop} (q:∀ s' ps,s'.heap.get? P=some (tabObj ps)→(∀ b o,gh.get? b=some o→s'.heap.get? b=some o)→s'.gens=s.gens→s'.os=s.os→Q (.ret (.bool true)) s') :
  wpAny C.M (callerA.deeper (envOfC qual fd.scope L a (.ref c))) (execs fd.body (envOfC qual fd.scope L a (.ref c))) Q E { s with heap:=h₁,toks:=tk }:=by
 let f1:Fm:={ A:=callerA.deeper (envOfC qual fd.scope L a (.ref c)),A₀:=callerA,env:=envOfC qual fd.scope L a (.ref c),env₀:=envOfC qual fd.scope L a (.ref c),outer:=[],base:=gh,h₀:=gh,L:=L,p:=p,loose:=loose,mean:=mean,mg:=mg,mb:=mb,sc:=fd.scope,gens:=s.gens,os:=s.os,mL:=fun z0=>none }
 have ok1:FmOk C f1:=by
  refine ⟨fnm,K',X',T',rfl,rfl,fk,fk,rfl,rfl,rfl,?_⟩
  intro x kd hx
  have hx':f1.env.kindOf x=some kd:=hx
  refine ⟨fun e=>by rw [hx',e],fun e=>by rw [hx',e],fun e => ?_,fun e=>by rw [hx',e]⟩
  rcases e with e | e
  ·exact .inl (by rw [hx',e])
  ·exact .inr (by rw [hx',e])
 have rm1:Room f1 n:=⟨by show 1+300+1+2 * n≤900;lia,by show 4+3+8 * n≤9700;lia⟩
 let B:Buf:=⟨[],0,cQ _,cY _,fun x h=>by cases h⟩
 let g0:G:=⟨[],[],[]⟩
 have O:Own C B [(P,tabObj #[])] [] g0:=⟨rfl,rfl,bZ,fun i o a ob h=>(by simp at h),fun q hq p hp=>(by cases hp),fun q hq a ha=>(by cases ha)⟩
 have sub:∀ p∈g0.led [(P,tabObj #[])],p∈[(P,tabObj #[])]:=fun p hp=>hp
 have hlst:DRep C B [] (.lst (ns.map .int)) (.ref ax) := .lst _ vs ax 0 (.inr hx) (ints_rep hI)
 refine exa ?_ (a0i (show optK (bindParams fd.params [.d (.lst (ns.map .int))] fd.dflts []) _=_ from hev));rintro ρ0 hb hev
 refine eaa ?_ (a3g hb);rintro b1 b2 b3
 have bd:Bd C B g0 ρ0 (fd.params.zip [.ref ax]):=by
  rw [b3,fdl]
  refine Bd.of_zip ?_
  rw [List.map_nil,List.drop_nil]
  exact .cons _ _ _ _ hlst .nil
 have hnd:((fd.params.zip [Value.ref ax]).map (·.1)).Nodup:=by
  rw [map_fst_zip (by rw [fpar];exact cQ _)]
  exact nodup_one fpar
 have big:sysModules < L:=cU (modules_low T'.nolimit) F'.above
 refine exa ?_ (b2x (s:=s) (f1:=f1) (tk:=tk) fcl fca fnf rfl rfl rfl rfl rfl F' N' Ce big (fun p hp=>by cases bV.mp hp;exact hP) O sub bd hnd);rintro g1 R1 x1
 have lf:LawF C f1 c P:=⟨rfl,⟨qual,a,_,rfl⟩,hcd⟩
 have ti:TabI f1 g1.fz #[]:=⟨trivial,fun pos v e=>no e⟩
 exact lawSs_snd (rs:=[]) (ev_snd fc n) (hR _ ok1 rfl rfl (rm1.lt hn12)) lf (fun p hp=>nomatch hp) hev ok1 rm1 ⟨#[],ti,R1⟩ ⟨fun z0 z0 z0 z0 hk z0 z0=>no hk,fun ρ' v u σ' g' s' hk ⟨ps,_,R'⟩ X' hv=>by
  cases told_true hk hv
  refine exa ?_ R'.loc;rintro m' F'' _
  exact q s' ps (R'.get (a0l (.head _))) F''.keep R'.gens R'.os,fun z0 z0 z0 z0 hk z0 z0=>no hk,fun z0 z0 z0 z0 hk z0 z0=>no hk⟩
end Mine
end
section
namespace Mine
open PySem PySem.W PySem.Spec PySem.Calls PyProof.Rows PySem.SeqAt
noncomputable def isIntV (i:Int) (v:Value):Bool:=match v with
 | .int j _=>decide (i=j)
 | _=>false
noncomputable def isBytV (b:List Nat) (v:Value):Bool:=match v with
 | .bytes a _=>decide (a=toBA b)&&b.all fun x=>cI x 256
 | _=>false
noncomputable def onRef (v:Value) (f:Addr→Bool):Bool:=match v with
 | .ref a=>f a
 | _=>false
noncomputable def onSeq (d:Data) (f:Array Value→Bool):Bool:=match d with
 | .seq vs _=>f vs
 | _=>false
noncomputable def onFunc (d:Data) (f:FuncData→Bool):Bool:=match d with
 | .func x=>f x
 | _=>false
noncomputable def onO (o:Option Obj) (f:Obj→Bool):Bool:=match o with
 | some o=>f o
 | none=>false
noncomputable def prim:D→Value→Bool
 | .none=>fun v=>v == .none
 | .bool b=>fun v=>v == .bool b
 | .int i=>isIntV i
 | _=>fun z0=>false
noncomputable def prims:List D→List Value→Bool
 | []=>fun vs=>vs.isEmpty
 | d::ds=>fun vs=>match vs with
  | []=>false
  | v::vs=>prim d v&&prims ds vs
noncomputable def b4y (K:Frag):D→Value→Bool
 | .bytes b=>isBytV b
 | .bi b=>fun v=>v == .builtin (b1p b)
 | .ty t=>fun v=>v == .type (tyName t)
 | .g a=>fun v=>v == .ref a&&(K.lookup a).isSome
 | .tup xs=>fun v=>onRef v fun b=>onO (K.lookup b) fun o=>o.cls == .type "tuple" && onSeq o.data fun vs=>prims xs vs.toList
 | d=>prim d
section
variable {C:Cx} {B:Buf} {fz:List (Addr×Obj)}
theorem onRef_is {v:Value} {F:Addr→Bool} (h:onRef v F=true):∃ a,v = .ref a∧F a=true:=by
 induction v with
 | ref a=>exact ⟨a,rfl,h⟩
 | _=>exact nob h
theorem onSeq_is {d:Data} {F:Array Value→Bool} (h:onSeq d F=true):∃ vs n,d = .seq vs n∧F vs=true:=by
 induction d with
 | seq vs n=>exact ⟨vs,n,rfl,h⟩
 | _=>exact nob h
theorem onFunc_is {d:Data} {F:FuncData→Bool} (h:onFunc d F=true):∃ x,d = .func x∧F x=true:=by
 induction d with
 | func x=>exact ⟨x,rfl,h⟩
 | _=>exact nob h
theorem onO_is {o:Option Obj} {F:Obj→Bool} (h:onO o F=true):∃ x,o=some x∧F x=true:=by
 induction o with
 | some x=>exact ⟨x,rfl,h⟩
 | none=>exact nob h
theorem b3c {i:Int} {v:Value} (h:isIntV i v=true):RInt i v:=by
 induction v with
 | int j t=>exact of_decide_eq_true h ▸ .mk t
 | _=>exact nob h
theorem isBytV_is {b:List Nat} {v:Value} (h:isBytV b v=true):RBytes b v:=by
 induction v with
 | bytes a t=>exact (of_decide_eq_true (a0k h):a=toBA b) ▸ .mk t fun x hx=>cJ.mp (aF.mp (a0e h) x hx)
 | _=>exact nob h
theorem prim_of {d:D} {v:Value} (h:prim d v=true):DRep C B fz d v:=by
 induction d using D.casesOn with
 | none=>exact eq_of_beq h
 | bool b=>exact eq_of_beq h
 | int i=>exact b3c h
 | _=>exact nob h
theorem b0z:∀ {ds:List D} {vs:List Value},prims ds vs=true→DReps C B fz ds vs
 | [],_,h=>bC.mp h
 | _::_,[],h=>nob h
 | _::_,_::_,h => .mk _ _ (prim_of (a0k h)) (b0z (a0e h))
theorem a9v {d:D} {v:Value} (h:b4y C.K d v=true):DRep C B fz d v:=by
 induction d using D.casesOn with
 | bytes b=>exact isBytV_is h
 | bi b=>exact eq_of_beq h
 | ty t=>exact eq_of_beq h
 | g a =>
  refine xE ?_ (Option.isSome_iff_exists.mp (a0e h));rintro o ho
  exact (eq_of_beq (a0k h):v = .ref a) ▸ .mk o ho
 | tup xs =>
  refine exa ?_ (onRef_is h);rintro b rfl h
  refine exa ?_ (onO_is h);rintro o ho h
  refine exxa ?_ (onSeq_is (a0e h));rintro vs n hd h2
  exact .mk vs.toList b o n (.inr ho) (eq_of_beq (a0k h)) (hd.trans (by rw [Array.toArray_toList])) (b0z h2)
 | none=>exact eq_of_beq h
 | bool b=>exact eq_of_beq h
 | int i=>exact b3c h
 | _=>exact nob h
end
theorem lk_mem {α:Type} {x:Str} {v:α}:∀ {l:List (Str×α)},lk x l=some v→(x,v)∈l:=by
 intro l h;rw [a3o] at h;exact lookup_mem h
theorem a8g {c:Nat} {x:Str}:∀ {l:List (Nat×Str)},a7j c x l=true→(c,x)∈l
 | [],h=>by exact nFT h
 | (d,n)::r,h=>by
  have h:cond (Nat.beq c d&&seq x n) true (a7j c x r)=true:=h
  cases hc:(Nat.beq c d&&seq x n) with
  | true =>
   refine aE ?_ (bool_and hc);rintro h1 h2
   rw [cL h1,seq_iff.mp h2];exact .head _
  | false=>rw [hc] at h;exact .tail _ (a8g h)
theorem a6g {c k:Nat} {x:Str}:∀ {l:List (Nat×Str×Nat)},a4t c x l=some k→(c,x,k)∈l
 | [],h=>by exact nNS h
 | (d,n,a)::r,h=>by
  have h:cond (Nat.beq c d&&seq x n) (some a) (a4t c x r)=some k:=h
  cases hc:(Nat.beq c d&&seq x n) with
  | true =>
   refine aE ?_ (bool_and hc);rintro h1 h2
   rw [hc] at h;cases h
   rw [cL h1,seq_iff.mp h2];exact .head _
  | false=>rw [hc] at h;exact .tail _ (a6g h)
theorem a8h {c i:Nat} {b:Bool}:∀ {l:List (Nat×Nat×Bool)},a7i c l=some (i,b)→(c,i,b)∈l
 | [],h=>by exact nNS h
 | (d,n,a)::r,h=>by
  have h:cond (Nat.beq c d) (some (n,a)) (a7i c r)=some (i,b):=h
  cases hc:Nat.beq c d with
  | true =>
   rw [hc] at h;cases h
   rw [cL hc];exact .head _
  | false=>rw [hc] at h;exact .tail _ (a8h h)
theorem a8i {c:Nat}:∀ {l:List (Nat×Nat×Bool)},clsIs c l=true→∃ i b,(c,i,b)∈l
 | [],h=>by exact nFT h
 | (d,n,a)::r,h=>by
  have h:cond (Nat.beq c d) true (clsIs c r)=true:=h
  cases hc:Nat.beq c d with
  | true=>rw [cL hc];exact ⟨n,a,.head _⟩
  | false=>rw [hc] at h;refine exx ?_ (a8i h);rintro i b hm;exact ⟨i,b,.tail _ hm⟩
theorem a9w {a:Nat} {fd:FnRec}:∀ {l:List (Nat×Nat×Option Nat×List D)},b1o a l=some fd→∃ i j ds,(a,i,j,ds)∈l∧recOf (inS (topS i) j) ds=some fd
 | [],h=>by exact nNS h
 | (b,i,j,ds)::r,h=>by
  have h:cond (Nat.beq a b) (recOf (inS (topS i) j) ds) (b1o a r)=some fd:=h
  cases hc:Nat.beq a b with
  | true=>rw [hc] at h;rw [cL hc];exact ⟨i,j,ds,.head _,h⟩
  | false=>rw [hc] at h;refine exxx ?_ (a9w h);rintro i j ds;refine aE ?_;rintro hm e;exact ⟨i,j,ds,.tail _ hm,e⟩
noncomputable def globChk (K:Frag) (r:Str×D):Bool := !(r.1==("__name__" : Str))&&(match nsIn K mainGlobals r.1 with
 | some (some v)=>b4y K r.2 v
 | some none=>(match bootBuiltins r.1 with | some v=>b4y K r.2 v | none=>false)
 | none=>false)
noncomputable def fldChk (K:Frag) (r:Nat×Str):Bool:=plainGet K r.1 r.2&&(hasDictIn K r.1&&((match findIn K (.ref r.1) r.2 with | some attr=>noGet K attr | none=>false) &&
 (findIn K (.ref r.1) "__setattr__" == some (some (.builtin "object.__setattr__"))&&(plainOver K r.1&&takerIn K r.1 r.2==some none))))
noncomputable def methChk (K:Frag) (r:Nat×Str×Nat):Bool:=findIn K (.ref r.1) "__getattribute__" == some (some (.builtin "object.__getattribute__"))&&(findIn K (.ref r.1) "__getattr__" == some none &&
 (findIn K (.ref r.1) r.2.1==some (some (.ref r.2.2))&&(typeIn K (.ref r.2.2)==some (.type "function")&&(keepIn K (.ref r.2.2)&&(K.lookup r.2.2).isSome))))
noncomputable def clsChk (K:Frag) (r:Nat×Nat×Bool):Bool:=makesIn K r.1&&(findIn K (.ref r.1) "__init__" == some (some (.ref r.2.1))&&(isFn K (.ref r.2.1)&&keepIn K (.ref r.1)))
noncomputable def isiT (r:List (Nat×Nat×Bool)):List KT:=[.none,.int,.list,.dict]++r.map fun p => .own p.1
noncomputable def isiC (r:List (Nat×Nat×Bool)):List D:=[.ty .bool,.ty .int,.ty .list,.ty .dict]++r.map fun p => .g p.1
noncomputable def isiChk (K:Frag) (t:KT) (c:D):Bool:=match a2r tabs t c,cVal c with
 | some b,some v=>kitOne K (ktVal t) v==some b
 | some _,none=>false
 | none,_=>true
noncomputable def ownChk (K:Frag) (r:Nat×Nat×Bool):Bool:=plainGet K r.1 "__class__" && (hasDictIn K r.1&&(findIn K (.ref r.1) "__class__" == some (some (.builtin "object.__class__")) &&
 (specialIn K (.builtin "object.__class__") "__get__" == some (some (.builtin "getset_descriptor.__get__"))&&(takesIn K (.builtin "object.__class__")==some true&&mroIn K r.1 (.type "object")==some true))))
noncomputable def strsB:List Str→List Str→Bool
 | [],[]=>true
 | a::x,b::y=>seq a b&&strsB x y
 | _,_=>false
noncomputable def isPar (sc:Scope) (y:Str):Bool:=match lk y sc.names with
 | some .local=>true
 | some .cell=>true
 | _=>false
noncomputable def isFree:NameKind→Bool
 | .free=>true
 | _=>false
noncomputable def isCellK (o:Option NameKind):Bool:=match o with
 | some .cell=>true
 | _=>false
noncomputable def isFnK:ScopeKind→Bool
 | .function=>true
 | _=>false
noncomputable def fnScope (fd:FnRec):Bool:=a9d fd.params&&(fd.params.all (isPar fd.scope)&&(namesOk fd.scope&&(fd.scope.names.all (fun x => !isFree x.2) &&
 (a9d (cn fd.scope.names)&&((cn fd.scope.names).all (fun x=>isCellK (lk x fd.scope.names))&&(!fd.scope.isCoroutine&&(!fd.scope.isGenerator&&isFnK fd.scope.kind)))))))
noncomputable def dfChk (K:Frag) (ds:List D) (v:Value):Bool:=bif ds.isEmpty then v == .none else onRef v fun t=>onO (K.lookup t) fun o=>onSeq o.data fun vs=>prims ds vs.toList
noncomputable def fChk (K:Frag) (fd:FnRec) (f:FuncData):Bool:=codeIn K f.code f.qualname&&(f.params.posonlyargs.isEmpty&&(strsB (f.params.args.map (·.arg)) fd.params&&(f.params.kwonlyargs.isEmpty&&(f.params.vararg.isNone&&(f.params.kwarg.isNone&&dfChk K fd.dflts f.defaults)))))
noncomputable def fnChk (K:Frag) (a:Nat) (fd:FnRec):Bool:=onO (K.lookup a) (fun o=>onFunc o.data (fChk K fd))&&(Nat.ble fd.dflts.length fd.params.length&&(keepIn K (.ref a)&&fnScope fd))
noncomputable def funcOf (d:Data):Option FuncData:=match d with
 | .func f=>some f
 | _=>none
noncomputable def fEq (fd:FnRec) (o:Option FuncData):Prop:=match o with
 | some f=>f.body = .stmts fd.body∧f.scope=fd.scope∧f.globals=mainGlobals∧f.closure=[]∧f.builtins=builtinsNs
 | none=>False
noncomputable def fnAt (o:Option Obj):Option FuncData:=match o with
 | some o=>funcOf o.data
 | none=>none
noncomputable def FnEq (K:Frag) (a:Nat) (fd:FnRec):Prop:=fEq fd (fnAt (K.lookup a))
noncomputable def rowEq (K:Frag) (r:Nat×Nat×Option Nat×List D):Prop:=match recOf (inS (topS r.2.1) r.2.2.1) r.2.2.2 with
 | some fd=>FnEq K r.1 fd
 | none=>True
noncomputable def rowChk (K:Frag) (r:Nat×Nat×Option Nat×List D):Bool:=match recOf (inS (topS r.2.1) r.2.2.1) r.2.2.2 with
 | some fd=>fnChk K r.1 fd
 | none=>true
noncomputable def AllRows (K:Frag):List (Nat×Nat×Option Nat×List D)→Prop
 | []=>True
 | r::l=>rowEq K r∧AllRows K l
theorem AllRows.get {K:Frag} {l:List (Nat×Nat×Option Nat×List D)} (h:AllRows K l):∀ r∈l,rowEq K r:=by
 induction l with
 | nil=>intro r hm;cases hm
 | cons x l ih =>
  intro r hm
  rcases bP.mp hm with rfl | hm
  ·exact h.1
  ·exact ih h.2 r hm
theorem b3d:∀ {a b:List Str},strsB a b=true→a=b
 | [],[],_=>rfl
 | [],_::_,h=>by exact nFT h
 | _::_,[],h=>by exact nFT h
 | a::x,b::y,h=>by
  refine aE ?_ (bool_and h);rintro h1 h2
  rw [seq_iff.mp h1,b3d h2]
theorem isPar_is {sc:Scope} {y:Str} (h:isPar sc y=true):sc.names.lookup y=some .local∨sc.names.lookup y=some .cell:=by
 unfold isPar at h
 rw [a3o] at h
 generalize sc.names.lookup y=o at h ⊢
 induction o with
 | none=>exact nob h
 | some k=>induction k with
  | «local» => exact .inl rfl
  | cell=>exact .inr rfl
  | _=>exact nob h
theorem isCellK_is {o:Option NameKind} (h:isCellK o=true):o=some .cell:=by
 induction o with
 | none=>exact nob h
 | some k=>induction k with
  | cell=>rfl
  | _=>exact nob h
theorem isFnK_is {k:ScopeKind} (h:isFnK k=true):k = .function:=by
 induction k with
 | function=>rfl
 | _=>exact nob h
theorem not_f {b:Bool} (h:(!b)=true):b=false:=by
 induction b with
 | false=>rfl
 | true=>exact nob h
theorem dfChk_is {K:Frag} {ds:List D} {v:Value} (h:dfChk K ds v=true):∃ dvs,((v = .none∧dvs=[])∨∃ t to n,v = .ref t∧K.lookup t=some to∧to.data = .seq (List.toArray dvs) n)∧∀ (C:Cx) B fz,DReps C B fz ds dvs:=by
 induction ds using aK with
 | nil=>exact ⟨[],.inl ⟨eq_of_beq h,rfl⟩,fun z0 z0 z0 => .nil⟩
 | cons d ds =>
  refine exa ?_ (onRef_is h);rintro t e h
  refine exa ?_ (onO_is h);rintro to ho h
  refine exxa ?_ (onSeq_is h);rintro vs n hd h
  exact ⟨vs.toList,.inr ⟨t,to,n,e,ho,hd.trans (by rw [Array.toArray_toList])⟩,fun z0 z0 z0=>b0z h⟩
theorem fnAt_of {C:Cx} {a:Nat} {fd:FnRec} {o:Obj} {f:FuncData} (hK:C.K.lookup a=some o) (hf:o.data = .func f) (h:fChk C.K fd f=true) (he:f.body = .stmts fd.body∧f.scope=fd.scope∧f.globals=mainGlobals∧f.closure=[]∧f.builtins=builtinsNs) :
  FnAt C a fd:=by
 refine exa ?_ (dfChk_is (a0e (a0e (a0e (a0e (a0e (a0e h)))))));rintro dvs h1 h2
 refine @FnAt.mk _ _ _ o.cls o.dict o.slots f.name f.qualname f.params f.defaults f.kwdefaults f.doc f.pyModule f.annotations f.code f.closureTuple dvs (hK.trans (congrArg some ?_)) (a0k h) (bC.mp (a0k (a0e h))) (b3d (a0k (a0e (a0e h)))) (bC.mp (a0k (a0e (a0e (a0e h))))) (Option.isNone_iff_eq_none.mp (a0k (a0e (a0e (a0e (a0e h)))))) (Option.isNone_iff_eq_none.mp (a0k (a0e (a0e (a0e (a0e (a0e h))))))) h1 (h2 C)
 revert he;refine eaaa ?_;rintro e1 e2 e3;refine aE ?_;rintro e4 e5
 show (⟨o.cls,o.dict,o.data,o.slots⟩:Obj)=_
 rw [hf,fnOf,← e1,← e2,← e3,← e4,← e5]
theorem fnOk_of {C:Cx} {a:Nat} {fd:FnRec} (h:fnChk C.K a fd=true) (he:FnEq C.K a fd):FnOk C a fd∧keepIn C.K (.ref a)=true:=by
 refine exa ?_ (onO_is (a0k h));rintro o hK hf
 refine exa ?_ (onFunc_is hf);rintro f hd hf
 have h8:=a0k (a0e h)
 have d1:=a0e (a0e (a0e h))
 have d2:=a0e d1
 have d3:=a0e d2
 have d4:=a0e d3
 have d5:=a0e d4
 have d6:=a0e d5
 have d7:=a0e d6
 exact ⟨⟨fnAt_of hK hd hf (show fEq fd (some f) from (show fnAt (C.K.lookup a)=some f by rw [hK];show funcOf o.data=some f;rw [hd];rfl)▸he),cO h8,a5t (a0k d1),fun y hy=>isPar_is (aF.mp (a0k d2) y hy),a0k d3,fun x hx e=>by
  have:=not_f (aF.mp (a0k d4) x hx)
  rw [e] at this;exact nob this.symm,a5t (a0k d5),fun x hx=>(a3o x _)▸isCellK_is (aF.mp (a0k d6) x hx),not_f (a0k d7),not_f (a0k (a0e d7)),isFnK_is (a0e (a0e d7))⟩,a0k (a0e (a0e h))⟩
theorem facts_of {prog:Program} {w:World} {K:Frag} (h1:globRows.all (globChk K)=true) (h2:fldRows.all (fldChk K)=true) (h3:methRows.all (methChk K)=true) (h4:clsRows.all (clsChk K)=true)
  (h5:(isiT isiRows).all (fun t=>(isiC isiRows).all fun c=>isiChk K t c)=true) (h6:isiRows.all (ownChk K)=true) (h7:fnRows.all (rowChk K)=true) (h8:AllRows K fnRows):Facts ⟨prog,w,K,tabs⟩:=by
 have fnF:∀ a fd,tabs.fn a=some fd→FnOk ⟨prog,w,K,tabs⟩ a fd∧keepIn K (.ref a)=true:=by
  intro a fd h
  refine exxx ?_ (a9w (show b1o a fnRows=some fd from h));rintro i j ds;refine aE ?_;rintro hm e
  have c1:=aF.mp h7 _ hm
  have c2:=h8.get _ hm
  unfold rowChk at c1
  unfold rowEq at c2
  dsimp only at c1 c2
  rw [e] at c1 c2
  exact fnOk_of (C:=⟨prog,w,K,tabs⟩) c1 c2
 have cl:∀ c i b,tabs.cls c=some (i,b)→clsChk K (c,i,b)=true:=fun c i b h=>aF.mp h4 _ (a8h (show a7i c clsRows=some (i,b) from h))
 refine ⟨⟨?_,?_,?_,?_⟩,⟨?_,?_⟩,fun a fd h=>(fnF a fd h).1,?_,fun a fd h=>(fnF a fd h).2⟩
 ·intro x d h
  have hc:=aF.mp h1 _ (lk_mem (show lk x globRows=some d from h))
  unfold globChk at hc
  refine aE ?_ (bool_and hc);rintro e1 e2
  dsimp only at e1 e2
  refine ⟨fun e=>by rw [e] at e1;simp at e1,fun B => ?_⟩
  cases hn:nsIn K mainGlobals x with
  | none=>rw [hn] at e2;exact nFT e2
  | some ov =>
   rw [hn] at e2
   induction ov with
   | some v=>exact .inl ⟨v,rfl,a9v (C:=⟨prog,w,K,tabs⟩) e2⟩
   | none =>
    dsimp only at e2
    cases hb:bootBuiltins x with
    | none=>rw [hb] at e2;exact nFT e2
    | some v=>rw [hb] at e2;exact .inr ⟨rfl,v,rfl,a9v (C:=⟨prog,w,K,tabs⟩) e2⟩
 ·intro c x h
  have hc:=aF.mp h2 _ (a8g (show a7j c x fldRows=true from h))
  unfold fldChk at hc
  refine aE ?_ (bool_and hc);rintro e1 hc
  refine aE ?_ (bool_and hc);rintro e2 hc
  refine aE ?_ (bool_and hc);rintro e3 hc
  refine aE ?_ (bool_and hc);rintro e4 hc
  refine aE ?_ (bool_and hc);rintro e5 e6
  dsimp only at e1 e2 e3 e4 e5 e6
  refine ⟨e1,e2,?_,beq_iff_eq.mp e4,e5,beq_iff_eq.mp e6⟩
  cases ha:findIn K (.ref c) x with
  | none=>rw [ha] at e3;exact nFT e3
  | some attr=>rw [ha] at e3;exact ⟨attr,rfl,e3⟩
 ·intro c m k h
  have hc:=aF.mp h3 _ (a6g (show a4t c m methRows=some k from h))
  unfold methChk at hc
  refine aE ?_ (bool_and hc);rintro e1 hc
  refine aE ?_ (bool_and hc);rintro e2 hc
  refine aE ?_ (bool_and hc);rintro e3 hc
  refine aE ?_ (bool_and hc);rintro e4 hc
  refine aE ?_ (bool_and hc);rintro e5 e6
  exact ⟨beq_iff_eq.mp e1,beq_iff_eq.mp e2,beq_iff_eq.mp e3,beq_iff_eq.mp e4,e5,Option.isSome_iff_exists.mp e6⟩
 ·intro c i b h
  have hc:=cl c i b h
  unfold clsChk at hc
  refine aE ?_ (bool_and hc);rintro e1 hc
  refine aE ?_ (bool_and hc);rintro e2 hc
  refine aE ?_ (bool_and hc);rintro e3 e4
  exact ⟨e1,beq_iff_eq.mp e2,e3⟩
 ·intro t c b h
  have hcm:∀ {c},tabs.isCls c=true→∃ i b,(c,i,b)∈isiRows:=fun h=>a8i h
  have ht:t∈isiT isiRows:=by
   induction t with
   | none=>exact .head _
   | int=>exact .tail _ (.head _)
   | list=>exact .tail _ (.tail _ (.head _))
   | dict=>exact .tail _ (.tail _ (.tail _ (.head _)))
   | own k =>
    refine exx ?_ (hcm (a5p h));rintro i b' hm
    exact bO _ (bT.mpr ⟨_,hm,rfl⟩)
  have hcc:c∈isiC isiRows:=by
   induction c using D.casesOn with
   | ty u=>induction u with
    | bool=>exact .head _
    | int=>exact .tail _ (.head _)
    | list=>exact .tail _ (.tail _ (.head _))
    | dict=>exact .tail _ (.tail _ (.tail _ (.head _)))
    | _=>exact no h
   | g k =>
    refine exx ?_ (hcm (a0b h));rintro i b' hm
    exact bO _ (bT.mpr ⟨_,hm,rfl⟩)
   | _=>exact no h
  have hx:=aF.mp (aF.mp h5 t ht) c hcc
  unfold isiChk at hx
  have h':a2r tabs t c=some b:=h
  rw [h'] at hx
  cases hv:cVal c with
  | none=>rw [hv] at hx;exact nFT hx
  | some v=>rw [hv] at hx;exact ⟨v,rfl,beq_iff_eq.mp hx⟩
 ·intro c h
  refine exx ?_ (a8i (show clsIs c isiRows=true from h));rintro i b hm
  have hc:=aF.mp h6 _ hm
  unfold ownChk at hc
  refine aE ?_ (bool_and hc);rintro e1 hc
  refine aE ?_ (bool_and hc);rintro e2 hc
  refine aE ?_ (bool_and hc);rintro e3 hc
  refine aE ?_ (bool_and hc);rintro e4 hc
  refine aE ?_ (bool_and hc);rintro e5 e6
  exact ⟨e1,e2,beq_iff_eq.mp e3,beq_iff_eq.mp e4,beq_iff_eq.mp e5,beq_iff_eq.mp e6⟩
 ·intro a p h
  obtain ⟨i,b⟩:=p
  have hc:=cl a i b h
  unfold clsChk at hc
  refine aE ?_ (bool_and hc);rintro _ hc
  refine aE ?_ (bool_and hc);rintro _ hc
  exact (bool_and hc).2
end Mine
end
section
namespace Mine
open PySem PySem.W PySem.Spec PySem.Calls PyProof.Rows PySem.SeqAt
noncomputable abbrev bmP (P:Addr):List Value:=[.ref P,.type "Exception",.type "BaseException",.type "object"]
structure XV where
 nm:Str
 q:Str
 N:Addr
 bs:List Value
 sn:List Str
 sub:List Value
 ab:Bool
 col:Option Bool
 dd:Option Addr
 k0:Option Value
 k1:Option Value
 k2:Option Value
 k3:Option Value
 k5:Option Value
noncomputable abbrev exo (C P:Addr) (x:XV):Obj:=excClassObj x.nm x.q C x.N x.bs (bmP P) true x.sn x.sub x.ab x.col x.dd x.k0 x.k1 x.k2 x.k3 x.k5 "Exception.__new__"
noncomputable def a3m (C P:Addr) (o:Obj):Prop:=∃ x,o=exo C P x
section
variable {M:Model} {A:Around} {E:Value→Shared→Prop} {h:Heap} {g:Array GenState} {d:Drawn} {t:Nat} {os:OsState} {C P:Addr} {oC:Obj} {rest:List Value}
theorem a9x {X:String} {b:Bool} (e:List.contains [Value.type "Exception",.type "BaseException",.type "object"] (.type X)=b):(Value.ref C::bmP P).contains (.type X)=b:=by
 rw [List.contains_cons,List.contains_cons,e];rfl
structure EL (M:Model) (h:Heap) (C P:Addr):Prop where
 ty:Looks M h (typeOf (.ref C)) (.type "type")
 ist:Looks M h (isType (.ref C)) true
 mro:Looks M h (mroOf (.ref C)) (.ref C::bmP P)
 sub:∀ {X:Value} {b:Bool},(Value.ref C::bmP P).contains X=b→Looks M h (isSubtype (.ref C) X) b
 made:Looks M h (Bind.madeBy (.ref C)) (some "Exception.__new__")
 del:Looks M h (classHasDel C) false
 here:Looks M h (Bind.madeHere "BaseException.__new__" (.ref C)) ()
theorem el_of (hC:h.get? C=some oC) (hc:a3m C P oC):EL M h C P:=by
 revert hc;refine xE ?_;rintro x rfl
 exact ⟨(Looks.ld hC).andThen .now,(Looks.ld hC).andThen .now,fun _ _ _ _ k q=>wpAny_mroOf_exc (k _ _ hC) q,fun e _ _ _ _ k q=>wpAny_isSubtype_exc (k _ _ hC) (e.symm▸q),fun _ _ _ _ k q=>wpAny_madeBy_exc (k _ _ hC) q,(Looks.ld (part:=none) hC).andThen .now,
  fun _ _ _ _ k q=>wpAny_madeHere_exc PySem.F.excBase_Exception.canon (k _ _ hC) q⟩
theorem EL.inst (L:EL M h C P) {e:Addr} {oe:Obj} (he:h.get? e=some oe) (hcls:oe.cls = .ref C) {X:Value} {b:Bool} (q:(Value.ref C::bmP P).contains X=b):Looks M h (isInstance (.ref e) X) b :=
 (hcls▸(Looks.ld he).andThen .now:Looks M h (typeOf (.ref e)) (.ref C)).andThen (L.sub q)
theorem ex_check {Q:Unit→Shared→Prop} (hC:h.get? C=some oC) (hc:a3m C P oC) (hq:Q () ⟨h,g,d,t,os⟩):wpAny M A (checkBuiltinCall "Exception.__new__" ⟨.ref C::rest,[]⟩) Q E ⟨h,g,d,t,os⟩:=by
 revert hc;refine xE ?_;rintro x rfl
 exact wpAny_check_new_subU PySem.F.excBase_Exception (bmB:=bmP P) rfl .base hC hq
end
section
variable {prog:Program} {w:World} {A:Around} {E:Value→Shared→Prop} {h:Heap} {g:Array GenState} {d:Drawn} {t:Nat} {os:OsState} {C P:Addr} {oC:Obj} {rest:List Value}
theorem ex_new {R:Result→Shared→Prop} (L:EL (model prog w) h C P) (hrest:rest.length≤sizeLine)
  (hq:R (.ok (.ret (.ref (h.objs.size+1)))) ⟨(h.push { cls := .type "tuple",data := .seq rest.toArray }).push { cls := .ref C,data := .fields #[.ref h.objs.size,.none,.none,.none,.bool false,.none] },g,d,t,os⟩) :
  codeAny (model prog w) A (.builtin "Exception.__new__" ⟨.ref C::rest,[]⟩) R ⟨h,g,d,t,os⟩:=by
 refine codeAny_builtinAt PySem.F.excBase_Exception.entry (PySem.wpAt_bind (PySem.wpAt_bind (PySem.wpAt_stack fun p below=>PySem.wpAt_of_wpAny ?_)))
 have F:=PySem.F.excBase_Exception
 have s1:=L.sub (X := .type "Exception") (b:=true) (a9x (by decide))
 have s2:=L.sub (X := .type "AttributeError") (b:=false) (a9x (by decide))
 have s3:=L.sub (X := .type "NameError") (b:=false) (a9x (by decide))
 refine wpAny_of_eq ((if_pos F.ends).trans (congrArg pure F.owner)) (PySem.wpAt_of_wpAny ?_)
 refine wpAny_bind (L.ist.at (wpAny_bind (s1.at (wpAny_bind (L.here.at (wpAny_bind (wpAny_bind (s2.at (wpAny_bind (s3.at (wpAny_pure ?_)))))))))))
 refine wpAny_bind (wpAny_newObj_type (wpAny_bind ?_) (cS (cP (cG ..)) hrest))
 show wpAny _ _ (newObjAsIs _ _ _) _ _ _
 unfold newObjAsIs
 refine wpAny_bind (wpAny_alloc (wpAny_bind (L.del _ _ _ _ (fun b o e=>Heap.get?_push_of_some _ (Heap.get?_push_of_some _ e)) (wpAny_pure (wpAny_pure ?_)))))
 show R _ _
 rw [Heap.size_push]
 exact hq
theorem ex_call {K:Frag} {fI:Addr} {Q:Value→Shared→Prop} (hC:h.get? C=some oC) (hc:a3m C P oC) (X:K.In h) (hi:findIn K (.ref C) "__init__" = some (some (.ref fI))) (hf:typeIn K (.ref fI)=some (.type "function")) (hrest:rest.length≤sizeLine)
  (hq:∀ h' e,Heap.MadeExcOf h h' e (.ref C) rest→wpAny (model prog w) (A.under (.builtin "type.__call__" ⟨.ref C::rest,[]⟩)) (call (.ref fI) (.ref e::rest)) (fun r s'=>r = .none∧Q (.ref e) s') E ⟨h',g,d,t,os⟩) :
  wpAny (model prog w) A (call (.ref C) rest) Q E ⟨h,g,d,t,os⟩:=by
 have L:=el_of (M:=model prog w) hC hc
 have typ:Looks (model prog w) h (isInstance (.ref C) (.type "type")) true:=L.ty.andThen (Looks.of_pure tc_sub)
 have cal:Looks (model prog w) h (specialOf (.ref C) "__call__") (some (.builtin "type.__call__")):=L.ty.andThen (Looks.of_pure tc_lookup)
 refine wpAny_call (codeAny_of_tree ?_)
 show wpAny _ _ (callAny (.ref C) _) _ _ _
 revert hc;refine xE ?_;rintro xv rfl
 refine wpAny_bind (wpAny_load hC ?_)
 show wpAny _ _ (callAny.viaDunder (.ref C) _) _ _ _
 refine wpAny_bind (cal.at (wpAny_bind (wpAny_of_eq (tc_bind _) (wpAny_bind (wpAny_pure (wpAny_pure (a:=Fin.again (.call (.builtin "type.__call__") ⟨.ref C::rest,[]⟩)) (And.intro rfl ?_)))))))
 refine codeAny_call_builtin_at (Code.quiet_builtin _ (by decide +kernel)) entry_typeCall (@check_slot (model prog w) _ _ ⟨h,g,d,t,os⟩ "type.__call__" "type" "__call__" (.ref C) rest [] _ tc_kind tc_split typ (tc_args _ _ _) ?_)
 refine wpAny_bind (L.mro.at (wpAny_bind (L.made.at (wpAny_bind (wpAny_pure (wpAny_bind (wpAny_holding (wpAny_call ?_))))))))
 refine codeAny_call_builtin_code (Code.quiet_builtin _ PySem.F.excBase_Exception.quiet) (ex_check hC ⟨xv,rfl⟩ (ex_new L hrest ?_))
 show wpAny _ _ _ _ _ _
 have k:∀ b o,h.get? b=some o→((h.push { cls := .type "tuple",data := .seq rest.toArray }).push { cls := .ref C,data := .fields #[.ref h.objs.size,.none,.none,.none,.bool false,.none] }).get? b=some o:=fun b o e=>Heap.get?_push_of_some _ (Heap.get?_push_of_some _ e)
 have he:=Heap.get?_push_at (h:=h.push { cls := .type "tuple",data := .seq rest.toArray }) (o:={ cls := .ref C,data := .fields #[.ref h.objs.size,.none,.none,.none,.bool false,.none] }) rfl rfl
 have ht:=Heap.get?_push_of_some { cls := .ref C,data := .fields #[.ref h.objs.size,.none,.none,.none,.bool false,.none] } (Heap.get?_push_at (h:=h) (o:={ cls := .type "tuple",data := .seq rest.toArray }) rfl rfl)
 rw [Heap.size_push] at he
 generalize (h.push { cls := .type "tuple",data := .seq rest.toArray }).push { cls := .ref C,data := .fields #[.ref h.objs.size,.none,.none,.none,.bool false,.none] }=h' at k he ht ⊢
 have ii:=(el_of (M:=model prog w) (k _ _ hC) ⟨xv,rfl⟩).inst he rfl (X := .ref C) (b:=true) (by simp)
 refine wpAny_bind (ii.at (wpAny_bind (wpAny_holding (special_fn (s:=⟨h',g,d,t,os⟩) (od:=none) (X.keeps k) ⟨he,rfl,rfl,trivial⟩ hi hf (wpAny_mono (hq h' (h.objs.size+1) ⟨k,Heap.get?_none_of_le (cR _),_,he,Heap.get?_none_of_le (cQ _),ht⟩) (fun r s' hr => ?_) fun z0 z0 z=>z)))))
 revert hr;refine aE ?_;rintro rfl hQ
 exact wpAny_pure hQ
end
section
variable {M:Model} {prog:Program} {w:World} {A:Around} {E:Value→Shared→Prop} {h:Heap} {g:Array GenState} {d:Drawn} {t:Nat} {os:OsState} {C P:Addr} {oC oe:Obj} {e:Addr} {rest:List Value}
theorem b3e {Q:Unit→Shared→Prop} (hC:h.get? C=some oC) (hc:a3m C P oC) (he:h.get? e=some oe) (hcls:oe.cls = .ref C) (hq:Q () ⟨h,g,d,t,os⟩) :
  wpAny M A (checkBuiltinCall "Exception.__init__" ⟨.ref e::rest,[]⟩) Q E ⟨h,g,d,t,os⟩:=by
 have F:=PySem.F.excBase_Exception
 have L:=(el_of (M:=M) hC hc).inst he hcls (X := .type "Exception") (b:=true) (a9x (by decide))
 have ty:Looks M h (typeOf (.ref e)) (.ref C):=hcls▸(Looks.ld he).andThen .now
 have nm:∃ n,Looks M h (typeNameWhole (.ref C)) n:=by
  revert hc;refine xE ?_;rintro xv rfl
  exact ⟨_,(Looks.ld (part:=none) hC).andThen .now⟩
 revert nm;refine xE ?_;rintro n nm
 simp only [checkBuiltinCall,F.initKind,F.initSplit,F.initRow]
 refine wpAny_bind (L.at (wpAny_bind (wpAny_bind (ty.at (wpAny_bind (nm.at (wpAny_pure (wpAny_bind (wpAny_pure (wpAny_onRaise ?_))))))))))
 exact wpAny_of_eq (check_star_args _ _ _ _ _ _) hq
theorem b4z {vs:Array Value} {t0:Addr} {Q:Value→Shared→Prop} (hC:h.get? C=some oC) (hc:a3m C P oC) (he:h.get? e=some oe) (hcls:oe.cls = .ref C) (hd:oe.data = .fields vs) (h0:vs[0]?=some (.ref t0)) (hrest:rest.length≤sizeLine)
  (hq:Q .none ⟨(h.push { cls := .type "tuple",data := .seq rest.toArray }).update e (Obj.mapFields (·.setIfInBounds 0 (.ref h.objs.size))),g,d,t,os⟩) :
  wpAny (model prog w) A (call (.builtin "Exception.__init__") (.ref e::rest)) Q E ⟨h,g,d,t,os⟩:=by
 have F:=PySem.F.excBase_Exception
 refine wpAny_call (codeAny_call_builtin F.init.plain F.initEntry (b3e hC hc he hcls ?_))
 unfold Builtin.«BaseException.__init__»
 refine wpAny_bind ?_
 refine wpAny_newObj_type (wpAny_bind (wpAny_bind ?_)) (cS (cP (cG ..)) hrest)
 have he₁:=Heap.get?_push_of_some (h:=h) { cls := .type "tuple",data := .seq rest.toArray } he
 exact wpAny_field he₁ hd h0 (wpAny_bind (wpAny_setField he₁ hd (Array.getElem?_eq_some_iff.mp h0).1 (wpAny_letGo (wpAny_pure hq))))
end
section
variable {M:Model} {A:Around} {E:Value→Shared→Prop} {env:Env} {C P:Addr}
theorem ex_raise {s:Shared} {x:Sem Value} {Q:Flow→Shared→Prop} (hh:A.handled=none)
  (h:wpAny M A x (fun v s₁=>∃ e od tt sl oC,v = .ref e∧s₁.heap.get? C=some oC∧a3m C P oC∧s₁.heap.get? e=some { cls := .ref C,dict:=od,data := .fields #[.ref tt,.none,.none,.none,.bool false,.none],slots:=sl }∧E (.ref e) s₁) E s):wpAny M A (raiseStmt env (some x) none) Q E s:=by
 refine wpAny_bind (wpAny_mono h (fun v s₁ h₁ => ?_) fun z0 z0 x=>x)
 revert h₁;refine exxx ?_;rintro e od tt;refine exxa ?_;rintro sl oC rfl;refine eaaa ?_;rintro hC hc he hE
 obtain ⟨hp,g,d,tk,os⟩:=s₁
 have L:=el_of (M:=M) hC hc
 have i:=L.inst he rfl (X := .type "BaseException") (b:=true) (a9x (by decide))
 have ty:Looks M hp (typeOf (.ref e)) (.ref C):=(Looks.ld he).andThen .now
 have no:Looks M hp (isType (.ref e)) false:=(Looks.ld he).andThen .now
 have ri:Looks M hp (raisedInstance (.ref e)) (.ref e):=ty.andThen (L.ty.andThen .now)
 have xc:Looks M hp (isExcClass (.ref e)) false:=no.andThen .now
 have ef:Looks M hp (excFromValue (.ref e) "exceptions must derive from BaseException") (.ref e):=xc.andThen (i.andThen .now)
 refine wpAny_bind (wpAny_pure (wpAny_bind (wpAny_holding (ef.at (wpAny_bind (no.at (wpAny_bind (ri.at (wpAny_bind ?_)))))))))
 refine wpAny_bind (wpAny_field he rfl rfl ?_)
 exact wpAny_pure (wpAny_raiseNew_none hh hE)
end
end Mine
end
section
namespace Mine
open PySem PySem.W PySem.Spec PySem.Calls PyProof.Rows PySem.SeqAt
open PySem.Builtin PySem.Builtin.ObjectAttr
section
variable {prog:Program} {w:World} {A:Around} {E:Value→Shared→Prop} {h:Heap} {g:Array GenState} {d:Drawn} {t:Nat} {os:OsState} {C P x:Addr} {oC:Obj} {m:Str→Option Value} {name:Str} {v:Value} {ns:List Str}
variable {K:Frag} {odt:Data} {osl:Array (Option Value)} {D:Addr}
theorem store_in {M:Model} {tk:Tok} {Q:PySem.Fin→Shared→Prop} (hn:h.Ns1 D m) (hw:Within m ns) (hz:ns.length≤sizeLine)
  (q:∀ h' tk',h'.Ns1 D (fun y=>if y=name then some v else m y)→Heap.SameBut D h h'→Q (.done (.ret .none)) ⟨h',g,d,tk',os⟩):wpAny M A (storeInDict D (.str name tk) name v) Q E ⟨h,g,d,t,os⟩:=by
 refine wpAny_bind (wpAny_pure (wpAny_bind (wpAny_nsSet1 hn fun h' hn' hs=>wpAny_bind ?_)))
 refine exxx ?_ (hn'.count (Within.cons name v hw));rintro o es ep;refine eaa ?_;rintro ho hd hc
 exact wpAny_lookBehind ho (hd▸pastItsLine_dict (cS hc (Nat.succ_le_succ hz))) (wpAny_pure (q h' _ hn' hs))
structure Stored1 (h h':Heap) (x C:Addr) (vs:Array Value) (name:Str) (v:Value) (D:Addr):Prop where
 new:h.get? D=none
 at_:h'.get? x=some { cls := .ref C,dict:=some D,data := .fields vs }
 dict:h'.Ns1 D (fun y=>if y=name then some v else none)
 keep:∀ b o,b≠x→h.get? b=some o→h'.get? b=some o
structure Stored2 (h h':Heap) (m:Str→Option Value) (name:Str) (v:Value) (D:Addr):Prop where
 dict:h'.Ns1 D (fun y=>if y=name then some v else m y)
 keep:∀ b o,b≠D→h.get? b=some o→h'.get? b=some o
variable {vs:Array Value}
theorem has_dict {M:Model} (hC:h.get? C=some oC) (hc:a3m C P oC):∃ cd,Looks M h (classData C) cd∧cd.hasDict=true:=by
 revert hc;refine xE ?_;rintro xv rfl
 exact ⟨_,(Looks.ld (part:=none) hC).andThen .now,rfl⟩
theorem store_1 {M:Model} {Q:PySem.Fin→Shared→Prop} {tk:Tok} (hC:h.get? C=some oC) (hc:a3m C P oC) (hx:h.get? x=some { cls := .ref C,data := .fields vs })
  (q:∀ h' D tk',Stored1 h h' x C vs name v D→Q (.done (.ret .none)) ⟨h',g,d,tk',os⟩):wpAny M A (storeInOwnDict (.ref x) (.ref C) (.str name tk) name v false) Q E ⟨h,g,d,t,os⟩:=by
 refine exa ?_ (has_dict (M:=M) hC hc);rintro cd L hd
 refine wpAny_bind (wpAny_pure (wpAny_bind (wpAny_bind (wpAny_loadPart hx (wpAny_bind (L.at ?_))))))
 rw [hd]
 have hxs:=cX (Heap.lt_size hx)
 have hx1:=Heap.get?_push_of_some { cls := .type "dict",data := .dict #[] } hx
 refine wpAny_bind (wpAny_alloc' (wpAny_bind (wpAny_update' hx1 (wpAny_pure ?_))))
 have hD:=(Heap.get?_update_other (h.push { cls := .type "dict",data := .dict #[] }) (fun o=>{ cls:=o.cls,dict:=some h.objs.size,data:=o.data,slots:=o.slots }) hxs).trans (Heap.get?_push_at rfl rfl)
 have hX:=Heap.get?_update_self (fun o=>{ cls:=o.cls,dict:=some h.objs.size,data:=o.data,slots:=o.slots }) hx1 rfl
 have kk:∀ b o,b≠x→h.get? b=some o→((h.push { cls := .type "dict",data := .dict #[] }).update x fun o=>{ cls:=o.cls,dict:=some h.objs.size,data:=o.data,slots:=o.slots }).get? b=some o:=fun b o hb ho=>(Heap.get?_update_other _ _ hb.symm).trans (Heap.get?_push_of_some _ ho)
 generalize (h.push { cls := .type "dict",data := .dict #[] }).update x _=h1 at hD hX kk ⊢
 have hn:h1.Ns h.objs.size (fun z0=>none):=⟨_, #[],_,hD,rfl,fun e he=>absurd he (by simp),fun z0=>rfl⟩
 refine store_in (Heap.Ns1.of_empty hn) Within.nil (cY _) fun h' tk' hn' hs => ?_
 exact q h' _ tk' ⟨Heap.get?_none_of_le (cQ _),(hs.2 x hxs).trans hX,hn',fun b o hb ho=>(hs.2 b (cX (Heap.lt_size ho))).trans (kk b o hb ho)⟩
theorem store_2 {M:Model} {Q:PySem.Fin→Shared→Prop} {tk:Tok} {ox:Obj} (hC:h.get? C=some oC) (hc:a3m C P oC) (hx:h.get? x=some ox) (hcl:ox.cls = .ref C) (hdi:ox.dict=some D) (hn:h.Ns1 D m) (hw:Within m ns) (hz:ns.length≤sizeLine)
  (q:∀ h' tk',Stored2 h h' m name v D→Q (.done (.ret .none)) ⟨h',g,d,tk',os⟩):wpAny M A (storeInOwnDict (.ref x) (.ref C) (.str name tk) name v false) Q E ⟨h,g,d,t,os⟩:=by
 refine exa ?_ (has_dict (M:=M) hC hc);rintro cd L hd
 obtain ⟨c,di,dt,sl⟩:=ox
 dsimp only at hcl hdi
 subst hcl hdi
 refine wpAny_bind (wpAny_pure (wpAny_bind (wpAny_bind (wpAny_loadPart hx (wpAny_bind (L.at ?_))))))
 rw [hd]
 exact wpAny_pure (a:=some D) (store_in hn hw hz fun h' tk' hn' hs=>q h' tk' ⟨hn',fun b o hb ho=>(hs.2 b hb).trans ho⟩)
theorem ex_set {Q:Unit→Shared→Prop} {ox:Obj} {od:Option Obj} (hC:h.get? C=some oC) (hc:a3m C P oC) (X:K.In h) (I:InstAt h x ox C od) (hl:findIn K (.ref C) name=some none) (hs:findIn K (.ref C) "__setattr__" = some (some (.builtin "object.__setattr__")))
  (q:∀ {A':Around} {Q':PySem.Fin→Shared→Prop} {E':Value→Shared→Prop},(∀ s',Q () s'→Q' (.done (.ret .none)) s')→wpAny (model prog w) A' (storeInOwnDict (.ref x) (.ref C) (.str name t) name v false) Q' E' ⟨h,g,d,t+1,os⟩) :
  wpAny (model prog w) A (setAttr (.ref x) name v) Q E ⟨h,g,d,t,os⟩:=by
 have SF:=PySem.F.store_object
 have L:=el_of (M:=model prog w) hC hc
 have ii:=L.inst I.at_ I.cls (X := .type "object") (b:=true) (a9x (by decide))
 have ty:Looks (model prog w) h (typeOf (.ref x)) (.ref C):=I.type
 refine set_plain (s:=⟨h,g,d,t,os⟩) X I hs (codeAny_call_builtin SF.slot.plain SF.entry (@check_slot (model prog w) _ _ ⟨h,g,d,t+1,os⟩ "object.__setattr__" "object" "__setattr__" (.ref x) [.str name t,v] [] _ SF.kind SF.split ii (SF.args _ _ _) ?_))
 rw [osa_eq,refuse_eq]
 refine wpAny_bind (wpAny_bind (ty.at (wpAny_bind (L.mro.at ?_))))
 rw [refuseLoop_ref,refuseLoop_ref,PySem.F.store_Exception.passes]
 exact wpAny_pure (wpAny_bind (ty.at (wpAny_bind ((looks_findIn X hl).at (wpAny_bind (wpAny_pure (q fun s' z=>z)))))))
end
end Mine
end
section
namespace Mine
open PySem PySem.W PySem.Spec PySem.Calls PyProof.Rows PySem.SeqAt
noncomputable abbrev So (x:String):Str:=oS x
structure RefFacts (C:Cx):Prop where
 cls:∃ oC,C.K.lookup 83=some oC∧a3m 83 46 oC
 name:nsIn C.K mainGlobals (So "DraftFault")=some (some (.ref 83))
 keep:keepIn C.K (.ref 83)=true
 kts:ktsIn C.K 83 "BaseException" = true
 init:findIn C.K (.ref 83) "__init__" = some (some (.ref 36))
 isf:isFn C.K (.ref 36)=true
 sa:findIn C.K (.ref 83) "__setattr__" = some (some (.builtin "object.__setattr__"))
 what:findIn C.K (.ref 83) (So "what")=some none
 at_:findIn C.K (.ref 83) (So "at")=some none
 exc:nsIn C.K mainGlobals (So "Exception")=some none
 exi:findCls C.K (.type "Exception") (.type "type") "__init__" = some (.val (.builtin "Exception.__init__"))
inductive BodyI:List Stmt→Prop
 | mk (p1 p2 p3 p4 p5 p6 p7 p8 p9 p10 p11 p12 p13 p14:Pos):p2.endLine=p5.line→BodyI ([.Expr (.Call (.Attribute (.Name (So "Exception") p1) (So "__init__") p2) [.Name (So "self") p3,.Name (So "what") p4] [] p5) p6,.Assign [.Attribute (.Name (So "self") p7) (So "what") p8] (.Name (So "what") p9) p10,.Assign [.Attribute (.Name (So "self") p11) (So "at") p12] (.Name (So "at") p13) p14])
structure InitShape (fd:FnRec):Prop where
 body:BodyI fd.body
 params:fd.params=[So "self",So "what",So "at"]
 dflts:fd.dflts=[.int (-1)]
 loc:∀ y∈fd.params,fd.scope.names.lookup y=some .local
 exc:fd.scope.names.lookup (So "Exception")=some .globalImplicit
 nocell:∀ x∈fd.scope.names,x.2 ≠ .cell
section
variable {C:Cx} {A:Around} {E:Value→Shared→Prop} {s:Shared} {h:Heap} {p:Program} {loose:List Str} {mean:ExcName→Option Value} {mg mb:Str→Option Value}
theorem b3f {a:Addr} {fd:FnRec} (fo:FnOk C a fd) (X:C.K.In s.heap) (nl:s.heap.NoLimit) (hr:A.depth < recursionLimit) (hloc:∀ y∈fd.params,fd.scope.names.lookup y=some .local) (hcell:∀ x∈fd.scope.names,x.2 ≠ .cell) {vals:List Value} (l1:vals.length≤fd.params.length) (l2:fd.params.length≤vals.length+fd.dflts.length) {R:Result→Shared→Prop}
  (q:∀ qual cdv dvs h₀ tk,(∀ B fz,DReps C B fz fd.dflts dvs)→h₀.Ns s.heap.objs.size (fun x=>(fd.params.zip (vals++dvs.drop (vals.length+dvs.length - fd.params.length))).reverse.lookup x)→(∀ b o,s.heap.get? b=some o→h₀.get? b=some o) →
   wpAny C.M (A.deeper (envOf qual fd.scope s.heap.objs.size a cdv)) (execs fd.body (envOf qual fd.scope s.heap.objs.size a cdv)) (fun f s'=>R (.ok (.ret (match f with | .ret v=>v | _ => .none))) s')
    (fun e s'=>wpAny C.M (A.deeper (envOf qual fd.scope s.heap.objs.size a cdv)) (leaving (envOf qual fd.scope s.heap.objs.size a cdv) e) (fun z0 s''=>R (.error e) s'') (fun e' s''=>R (.error e') s'') s') { s with heap:=h₀,toks:=tk }) :
  codeAny C.M A (.call (.ref a) ⟨vals,[]⟩) R s:=by
 induction fo.at_ with
 | @mk oc od osl name qual params dV kV doc pm an cdv ct dvs hK hcd p1 p2 p3 p4 p5 hdv hds =>
  have hdl:fd.dflts.length=dvs.length:=(hds ⟨[],0,cQ _,cY _,fun x h=>nomatch h⟩ []).length
  have hbind:BindsTo s (fnOf name qual params fd.body fd.scope dV kV doc pm an cdv ct) ⟨vals,[]⟩ (fd.params.zip (vals++dvs.drop (vals.length+dvs.length - fd.params.length))):=by
   refine a8b (fd:=fnOf name qual params fd.body fd.scope dV kV doc pm an cdv ct) p1 p2 p3 p4 p5 (fun M A E Q hQ => ?_) fo.nodup l1 (hdl▸l2) (hdl▸fo.dl)
   rcases hdv with z0_ | z1_
   ·revert z0_;refine aE ?_;rintro rfl rfl
    exact wpAny_pure (hQ none rfl)
   ·revert z1_;refine exxx ?_;rintro t to nn;refine eaa ?_;rintro rfl ht hd
    exact wpAny_seqItems (X _ _ ht) hd (hQ _ (List.toList_toArray ..))
  refine codeAny_call_def hr (X _ _ hK) rfl nl (codeRec_of X hcd) rfl hbind hcell (fun y hy=>hloc _ (List.of_mem_zip (a:=y.1) (b:=y.2) hy).1) (fun h₀ hns hk=>q qual cdv dvs h₀ _ hds hns hk) fo.co fo.gen fo.kind
theorem a2y {env:Env} {x:Str} {pos:Pos} {m:Str→Option Value} {v:Value} {Q:Value→Shared→Prop} (hk:env.scope.kind = .function) (hl:env.kindOf x=some .local) (hn:s.heap.Ns env.locals m) (hv:m x=some v) (d1:(x==("__debug__" : Str))=false) (q:Q v s):wpAny C.M A (eval (.Name x pos) env) Q E s :=
 wpAny_Name (wpAny_loadName_local hk hl hn hv q) d1
theorem init_snd (rf:RefFacts C) {fd:FnRec} (fo:FnOk C 36 fd) (sh:InitShape fd) (hr:A.depth < recursionLimit) (T:Top p loose mean mg mb h) {g0:Heap} {L0:Addr} {m0:Str→Option Value} (F0:Fr g0 L0 h m0) (X0:C.K.In g0) {e:Addr} {v:Value} (hm:Heap.MadeExcOf h s.heap e (.ref 83) [v]) {Q:Value→Shared→Prop}
  (q:∀ h' tk t' dx,(∀ b o,h.get? b=some o→h'.get? b=some o)→h'.get? e=some { cls := .ref 83,dict:=some dx,data := .fields #[.ref t',.none,.none,.none,.bool false,.none] }→h'.TupAt t' [v]→h.get? t'=none→Q .none { s with heap:=h',toks:=tk }) :
  wpAny C.M A (call (.ref 36) [.ref e,v]) Q E s:=by
 have X:=X0.keeps F0.keep
 refine exaa ?_ hm.there;rintro t0 he ht0n ht0
 have k1:=hm.keeps
 refine exa ?_ rf.cls;rintro oC hC0 hcl
 have hB:=sh.body
 generalize hb:fd.body=bd at hB
 induction hB with | mk p1 p2 p3 p4 p5 p6 p7 p8 p9 p10 p11 p12 p13 p14 hline =>
 refine wpAny_call (b3f fo (X.keeps k1) (T.nolimit.keeps k1) hr sh.loc sh.nocell (by rw [sh.params];exact cO rfl) (by rw [sh.params,sh.dflts];exact cO rfl) fun qual cdv dvs h₁ tk hds hns hk₁ => ?_)
 obtain ⟨t3,rfl⟩:∃ t3,dvs=[.int (-1) t3]:=by
  have:=hds ⟨[],0,cQ _,cY _,fun x h=>nomatch h⟩ []
  rw [sh.dflts] at this
  induction this with | mk v vs a b=>induction a with | mk t3=>subst b;exact ⟨t3,rfl⟩
 rw [sh.params] at hns
 have hloc:=sh.loc
 rw [sh.params] at hloc
 generalize hL:s.heap.objs.size=L at hns ⊢
 generalize henv:envOf qual fd.scope L 36 cdv=env
 have ek:env.scope.kind = .function:=by rw [← henv];exact fo.kind
 have eg:env.globals=mainGlobals:=by rw [← henv];rfl
 have eb:env.builtins=builtinsNs:=by rw [← henv];rfl
 have el:env.locals=L:=by rw [← henv];rfl
 have ks:env.kindOf (So "self")=some .local:=by rw [← henv];exact hloc _ (.head _)
 have kw:env.kindOf (So "what")=some .local:=by rw [← henv];exact hloc _ (.tail _ (.head _))
 have ka:env.kindOf (So "at")=some .local:=by rw [← henv];exact hloc _ (.tail _ (.tail _ (.head _)))
 have ke:env.kindOf (So "Exception")=some .globalImplicit:=by rw [← henv];exact sh.exc
 have hi:interactive env=false:=by unfold interactive;rw [ek];rfl
 have k2:∀ b o,h.get? b=some o→h₁.get? b=some o:=fun b o e=>hk₁ b o (k1 b o e)
 have he1:=hk₁ _ _ he
 have neL:e≠L:=hL▸cX (Heap.lt_size he)
 have F1:Fr g0 L h₁ (fun x=>([So "self",So "what",So "at"].zip ([.ref e,v]++[.int (-1) t3])).reverse.lookup x):=⟨hns,fun b o e=>k2 b o (F0.keep b o e),by
  refine exxx ?_ F0.ns;rintro oL _ _;refine aE ?_;rintro hoL _
  exact hL▸cS F0.above (Nat.le_of_lt (Heap.lt_size (k1 _ _ hoL)))⟩
 rw [hb]
 refine wpAny_execs_cons (wpAny_Expr_any ?_ hi rfl)
 rw [mcall_eq rfl hline (cO rfl) rfl]
 refine wpAny_bind (Name_function_global ek ke (loadGlobal_builtin (by rw [eg];exact T.g.keeps k2) (mg_none_of X T.g rf.exc) (by rw [eb];exact T.b.keeps k2) (T.builtins _ (by decide)) ?_) (by decide))
 refine wpAny_bind (wpAny_standAt (wpAny_bind (wpAny_holding (method_type F1 X0 (by first | rfl | kernel_rfl) (by decide +kernel) rf.exi (by decide +kernel) ?_))))
 refine callWith_of (P:=fun z0=>True) rfl (fun z0 z0=>⟨.machine,.inr (.inl rfl),Looks.of_pure rfl⟩) ?_
 refine evalArgs_plain (spliced_cons (a2y ek ks (by rw [el];exact hns) rfl (by decide) (spliced_cons (a2y ek kw (by rw [el];exact hns) rfl (by decide) (wpAny_pure ⟨trivial,?_⟩)))))
 have hC1:=k2 _ _ (X _ _ hC0)
 refine b4z hC1 hcl he1 rfl rfl rfl (cS (cO rfl:1≤10) (by rw [sizeLine_eq];decide)) ?_
 have neE:e≠h₁.objs.size:=cX (Heap.lt_size he1)
 have he2:((h₁.push { cls := .type "tuple",data := .seq [v].toArray }).update e (Obj.mapFields (·.setIfInBounds 0 (.ref h₁.objs.size)))).get? e=some { cls := .ref 83,data := .fields #[.ref h₁.objs.size,.none,.none,.none,.bool false,.none] }:=Heap.get?_update_self _ (Heap.get?_push_of_some _ he1) rfl
 have k3:∀ b o,b≠e→h₁.get? b=some o→((h₁.push { cls := .type "tuple",data := .seq [v].toArray }).update e (Obj.mapFields (·.setIfInBounds 0 (.ref h₁.objs.size)))).get? b=some o:=fun b o hb ho=>(Heap.get?_update_other _ _ hb.symm).trans (Heap.get?_push_of_some _ ho)
 have ht2:((h₁.push { cls := .type "tuple",data := .seq [v].toArray }).update e (Obj.mapFields (·.setIfInBounds 0 (.ref h₁.objs.size)))).get? h₁.objs.size=some { cls := .type "tuple",data := .seq [v].toArray }:=(Heap.get?_update_other _ _ neE).trans (Heap.get?_push_at rfl rfl)
 have tn:h.get? h₁.objs.size=none:=by
  cases hq:h.get? h₁.objs.size with
  | none=>rfl
  | some o=>exact absurd (Heap.lt_size (k2 _ _ hq)) (Nat.lt_irrefl _)
 generalize h₁.objs.size=t' at he2 k3 ht2 tn neE ⊢
 generalize (h₁.push { cls := .type "tuple",data := .seq [v].toArray }).update e (Obj.mapFields (·.setIfInBounds 0 (.ref t')))=h₂ at he2 k3 ht2 ⊢
 have k4:∀ b o,h.get? b=some o→h₂.get? b=some o:=fun b o ho=>k3 b o (fun e1=>by rw [e1,hm.new] at ho;exact nNS ho) (k2 b o ho)
 have hn2:h₂.Ns L _:=hns.at' fun o ho=>k3 L o neL.symm ho
 refine wpAny_execs_cons (plainObj_wpAny_Assign_Attribute (a2y ek kw (by rw [el];exact hn2) rfl (by decide) (a2y ek ks (by rw [el];exact hn2) rfl (by decide) ?_)) (a3x rfl _ _))
 refine ex_set (od:=none) (k4 _ _ (X _ _ hC0)) hcl (X.keeps k4) ⟨he2,rfl,rfl,True.intro⟩ rf.what rf.sa fun qq=>store_1 (k4 _ _ (X _ _ hC0)) hcl he2 fun h₃ D tk3 st=>qq _ ?_
 have hn3:h₃.Ns L _:=hn2.at' fun o ho=>st.keep L o neL.symm ho
 have ne:∀ b o,h.get? b=some o→b≠e:=fun b o ho e1=>by rw [e1,hm.new] at ho;exact nNS ho
 have k6:∀ b o,h.get? b=some o→h₃.get? b=some o:=fun b o ho=>st.keep b o (ne b o ho) (k4 b o ho)
 have hoD:∃ o,h₃.get? D=some o:=let ⟨o,_,_,e,_⟩:=st.dict; ⟨o,e⟩
 revert hoD;refine xE ?_;rintro oD hoD
 have nD:∀ b o,h₂.get? b=some o→b≠D:=fun b o ho e1=>by rw [e1,st.new] at ho;exact nNS ho
 refine wpAny_execs_cons (plainObj_wpAny_Assign_Attribute (a2y ek ka (by rw [el];exact hn3) rfl (by decide) (a2y ek ks (by rw [el];exact hn3) rfl (by decide) ?_)) (a3x rfl _ _))
 refine ex_set (od:=some oD) (k6 _ _ (X _ _ hC0)) hcl (X.keeps k6) ⟨st.at_,rfl,rfl,hoD⟩ rf.at_ rf.sa fun qq=>store_2 (k6 _ _ (X _ _ hC0)) hcl st.at_ rfl rfl st.dict (Within.cons _ _ Within.nil) (by rw [sizeLine_eq];decide) fun h₄ tk4 st4=>qq _ ?_
 exact wpAny_pure (q h₄ tk4 t' D (fun b o ho=>st4.keep b o (nD b o (k4 b o ho)) (k6 b o ho)) (st4.keep e _ (nD e _ he2) st.at_) ⟨_,_,st4.keep _ _ (nD _ _ ht2) (st.keep _ _ neE.symm ht2),rfl,rfl⟩ tn)
end
end Mine
end
section
namespace Mine
open PySem PySem.W PySem.Spec PySem.Calls PyProof.Rows PySem.SeqAt
noncomputable def fdT (a:Nat):FnRec:=match tabs.fn a with
 | some fd=>fd
 | none=>⟨[],[],{ kind := .function,names:=[],isGenerator:=false,isCoroutine:=false },[]⟩
theorem bodyI:InitShape (fdT 36):=⟨.mk _ _ _ _ _ _ _ _ _ _ _ _ _ _ rfl,by kernel_rfl,by kernel_rfl,by decide +kernel,by kernel_rfl,by decide +kernel⟩
noncomputable def grpIf:Expr:=match (fdT 921).body with
 | s::_=>if h:_ then Stmt.If.elim s h fun t z0 z0 z0=>t else default
 | []=>default
theorem bodyG:∃ p1 p2 p3 p4 p5 kd msg rest,(fdT 921).body = .If grpIf [.Raise (some (.Call (.Name (So "DraftFault") p1) [.Constant (.str msg) kd p2] [] p3)) none p4] [] p5::rest:=⟨_,_,_,_,_,_,_,_,rfl⟩
noncomputable def is83 (fv:V) (vs:List V):Option Unit:=onDv fv fun d=>onG 83 d (a3n vs fun a=>onDv a fun a=>onS a fun z0=>some ())
section
variable {prog:Program} {w:World} {K:Frag}
noncomputable abbrev CT (prog:Program) (w:World) (K:Frag):Cx:=⟨prog,w,K,tabs⟩
theorem b3g {base h:Heap} {env:Env} {l:List Env} {L:Addr} (hf:env.frame=some L) (hk:env.scope.kind = .function) (hb:base.get? L=none) {o:Obj} (ho:h.get? L=some o) (hd:∀ vs,o.data ≠ .fields vs) (r:h.FunFrames base l):h.FunFrames base (env::l) :=
 ⟨fun e=>(by rw [hk] at e;cases e),⟨L,o,hf,hb,ho,hd⟩,r⟩
theorem in_frames {env:Env} {l:List Env}:∀ env'∈env::l,∀ b,env'.frame=some b→b∈(env::l).filterMap (·.frame):=fun env' he b hb=>bR.mpr ⟨env',he,hb⟩
theorem leave_own {f:Fm} {m:Str→Option Value} {h:Heap} {C:Cx} (ok:FmOk C f) (he0:f.env₀=f.env) (F:Fr f.h₀ f.L h m) {news:List (Addr×Obj)} (N:News f.h₀ f.L h news) {s:Shared} {e t' dx:Addr} {v:Value} (kp:∀ b o,h.get? b=some o→s.heap.get? b=some o) (hn:h.get? e=none) (ht:h.get? t'=none) (hA:f.A.frames=some (f.env::f.outer))
  (he:s.heap.get? e=some { cls := .ref 83,dict:=some dx,data := .fields #[.ref t',.none,.none,.none,.bool false,.none] }) (tu:s.heap.TupAt t' [v]) {M:Model} {Q:Unit→Shared→Prop} {E:Value→Shared→Prop}
  (q:∀ h',RaisedS f.base f.h₀ f.outer e (.ref 83) t' [v] news h'→f.h₀.UpToSlots h'→Q () { s with heap:=h' }):wpAny M f.A (leaving f.env (.ref e)) Q E s:=by
 have hf:f.env.frame=some f.L:=he0▸ok.frame
 refine exxx ?_ F.ns;rintro oL es ep;refine eaa ?_;rintro hoL hdL _
 have nL:f.h₀.get? f.L=none:=kts_self F
 have nb:f.base.get? f.L=none:=by
  cases hq:f.base.get? f.L with
  | none=>rfl
  | some o=>have:=ok.below.stays _ _ hq;rw [nL] at this;exact nNS this
 have fr0:h.FunFrames f.base f.outer:=ok.below.frames.of_keeps fun b o e z0=>⟨o,F.keep b o e,rfl⟩
 have fr1:h.FunFrames f.base (f.env::f.outer):=b3g hf ok.kind nb hoL (fun vs e=>by rw [hdL] at e;cases e) fr0
 have st:f.base.StaysIn (hideAll h ((f.env::f.outer).filterMap (·.frame))):=fun b o q=>hideAll_get _ (F.keep _ _ (ok.below.stays b o q)) fun hm=>by
  rw [(fr1.mem hm).1] at q;exact nNS q
 have sg:∀ b o,f.h₀.get? b=some o→b∉f.outer.filterMap (·.frame)→(hideAll h ((f.env::f.outer).filterMap (·.frame))).get? b=some o:=fun b o q nm=>hideAll_get _ (F.keep b o q) fun hm=>by
  refine exa ?_ (bR.mp hm);rintro env' he' hf'
  rcases bP.mp he' with rfl | he'
  ·rw [← Option.some.inj (hf.symm.trans hf'),nL] at q;exact nNS q
  ·exact nm (bR.mpr ⟨env',he',hf'⟩)
 have hl:∀ q∈news,(hideAll h ((f.env::f.outer).filterMap (·.frame))).get? q.1=some q.2∧f.h₀.get? q.1=none∧f.base.get? q.1=none:=fun q hq=>by
  refine ⟨hideAll_get _ (N q hq).1 fun hm => ?_,(N q hq).2.2,fresh_of_stays ok.below.stays (N q hq).2.2⟩
  refine exa ?_ (bR.mp hm);rintro env' he' hf'
  rcases bP.mp he' with rfl | he'
  ·exact (N q hq).2.1 (Option.some.inj (hf.symm.trans hf')).symm
  ·refine exa ?_ ((ok.below.frames.mem (bR.mpr ⟨env',he',hf'⟩)).2);rintro o ho _
   rw [(N q hq).2.2] at ho;exact nNS ho
 have hid:∀ b,h.get? b=none→(hideAll h ((f.env::f.outer).filterMap (·.frame))).get? b=none:=fun b hb=>by
  cases hq:(hideAll h ((f.env::f.outer).filterMap (·.frame))).get? b with
  | none=>rfl
  | some o=>have:=of_hideAll _ hq;rw [hb] at this;exact nNS this
 refine wpAny_leaving_firstW (a0 := .ref t') hA ((funFrames_hide fr1 in_frames).of_keeps fun b o e z0=>⟨o,kp _ _ e,rfl⟩) hf he (fun b o e=>kp _ _ (of_hideAll _ e)) (hid _ hn) rfl rfl rfl fun h' hL => ?_
 revert hL;refine eaaa ?_;rintro k1 ⟨_,_,k2⟩ k3 k4
 exact q h' ⟨⟨_,st,sg,hl,⟨k1,hid _ hn,k2,k3⟩,hid _ ht⟩,tu.of_slots k4⟩ (((Heap.UpToSlots.of_keeps F.keep).trans (Heap.UpToSlots.of_keeps kp)).trans k4)
theorem b3h (fc:Facts (CT prog w K)) (rf:RefFacts (CT prog w K)) {f:Fm} {B:Buf} {rs:List (Addr×Obj)} {ρ:Loc} {σ:St} {g:G} {s:Shared} (ok:FmOk (CT prog w K) f) (rm:Room f 8) (Rl:Rel (CT prog w K) B f rs ρ σ g s) {m:Str→Option Value} (F:Fr f.h₀ f.L s.heap m) {xs:List D} {i:Int} {vals:List Value} (hi:i < 1) (hv:DReps (CT prog w K) B g.fz [.lst xs,.int i] vals) {Q:Value→Shared→Prop} {E:Value→Shared→Prop}
  (q:∀ G e t vs (s':Shared),Fr f.h₀ f.L G m→RaisedS f.base G (f.env₀::f.outer) e (.ref 83) t vs (g.fz++(mo g++rs)) s'.heap→G.UpToSlots s'.heap→s'.gens=f.gens→s'.os=f.os→E (.ref e) s'):wpAny (CT prog w K).M f.A (call (.ref 921) vals) Q E s:=by
 have S:Snd (CT prog w K) (ev tabs 7) 7:=ev_snd fc 7
 have fo:=fc.fns 921 (fdT 921) (by kernel_rfl)
 refine aE ?_ (Rl.iso B);rintro O0 sub
 refine wpAny_call (b2y (n:=7) (ρ0:=[(So "numbers",.d (.lst xs)),(So "most",.d (.int i))]) fo ok (by have:=rm.depth;lia) (by have:=rm.units;lia) F Rl.news Rl.gens Rl.os O0 sub (VReps.of_D (fz:=g.fz) hv) (by kernel_rfl) fun f1 g1 s1 ok1 rm1 esc en R1 x1 => ?_)
 refine exxx ?_ bodyG;rintro p1 p2 p3;refine exxx ?_;rintro p4 p5 kd;refine exx ?_;rintro msg rest hb
 rw [hb]
 refine wpAny_execs_cons (wpAny_If (S.t (k:=fun b z0=>bif b then some () else none) ?_ ok1 rm1 R1 fun c σ2 g2 s2 hc R2 X2 => ?_))
 ·rw [esc]
  have hd:decide (i < 1)=true:=decide_eq_true hi
  conv=>lhs;whnf
  rw [hd]
 induction c with
 | false=>exact no hc
 | true =>
 rw [if_pos rfl]
 refine wpAny_execs_cons ?_
 rw [arm_exec_Raise]
 refine wpAny_bind (wpAny_standAt (ex_raise (C:=83) (P:=46) ok1.handled (wpAny_bind (Call_ (S.e (k:=fun fv σ=>evL (ev tabs 7) f1.sc [.Constant (.str msg) kd p2] (a0s (fdT 921).scope.names [(So "numbers",.d (.lst xs)),(So "most",.d (.int i))] []).1 σ fun vs z0=>is83 fv vs) ?_ ok1 rm1 R2 fun fv σ3 g3 s3 val h3 R3 X3 hfv=>a2x S rfl h3 ok1 rm1 R3 fun vs σ4 g4 s4 vals4 h4 R4 X4 hvs => ?_)))))
 ·rw [esc]
  kernel_rfl
 induction a0p h4 (hfv.ext X4) with | mk d hd h4 =>
 refine aE ?_ (onG_is h4 hd);rintro rfl h4
 induction a0y h4 hvs with | mk a av ha h4 =>
 induction a0p h4 ha with | mk d2 hd2 h4 =>
 induction a7k h4 hd2 with | mk txt tt _ =>
 refine ⟨keeps_K rf.keep s4.heap (R4.inK ok1),?_⟩
 refine exa ?_ R4.loc;rintro m4 F4 _
 refine exa ?_ rf.cls;rintro oC hC0 hcl
 have X4':=R4.inK ok1
 have T4:=ok1.top.keeps F4.keep
 refine ex_call (X4' _ _ hC0) hcl X4' rf.init (beq_iff_eq.mp rf.isf) (cS (cO rfl:1≤10) (by rw [sizeLine_eq];decide)) fun h' e hm => ?_
 refine init_snd rf (fc.fns 36 (fdT 36) (by kernel_rfl)) bodyI (by have:=rm1.depth;show f1.A.depth+1 < 1000;lia) T4 F4 ok1.inK hm fun h5 tk t' dx k5 he5 tu ht'=>⟨rfl,?_⟩
 refine wpAny_bind (wpAny_standAt (wpAny_pure ⟨e,some dx,t', #[],oC,rfl,k5 _ _ (X4' _ _ hC0),hcl,he5,?_⟩))
 refine leave_own ok1 en.env₀ F4 (news:=g.fz++(mo g++rs)) (fun p hp=>R4.news p (by
  rcases bM.mp hp with hp | hp
  ·exact a1g ((x1.trans (X2.trans (X3.trans X4))).fz hp)
  ·exact a0l hp)) k5 hm.new ht' (by rw [ok1.frames,en.env₀]) he5 tu fun h6 hR hU => ?_
 rw [en.base,en.outer] at hR
 exact q f1.h₀ e t' [.str txt tt] _ en.fr hR hU (R4.gens.trans en.gens) (R4.os.trans en.os)
end
end Mine
end
section
namespace Mine
open PySem PySem.W PySem.Spec PySem.Calls PyProof.Rows PySem.SeqAt
inductive BodyR:List Stmt→Prop
 | mk (p1 p2 p3 p4 p5 p6:Pos) (kd:Nat) (p7 p8 p9 p10:Pos) (rest:List Stmt):BodyR (.Try [.Expr (.Call (.Name (So "groups_of") p1) [.Name (So "numbers") p2,.Name (So "most") p3] [] p4) p5] [.ExceptHandler (some (.Name (So "DraftFault") p6)) none [.Return (some (.Constant (.bool true) kd p7)) p8] p9] [] [] p10::rest)
theorem bodyR:BodyR (fdT 975).body := .mk _ _ _ _ _ _ _ _ _ _ _ _
theorem kindR:(fdT 975).scope.kind = .function:=by kernel_rfl
theorem parR:(fdT 975).params=[So "numbers",So "most"]:=by kernel_rfl
theorem dflR:(fdT 975).dflts=[]:=by kernel_rfl
theorem locR:∀ y∈(fdT 975).params,(fdT 975).scope.names.lookup y=some .local:=by decide +kernel
theorem celR:∀ x∈(fdT 975).scope.names,x.2 ≠ .cell:=by decide +kernel
theorem freR:∀ x∈(fdT 975).scope.names,x.2 ≠ .free:=by decide +kernel
theorem excR:(fdT 975).scope.names.lookup (So "DraftFault")=some .globalImplicit:=by kernel_rfl
noncomputable def is921 (xs:List D) (i:Int) (fv:V) (vs:List V):Option Unit:=onDv fv fun d=>onG 921 d (args2 vs fun a b=>onDv a fun a=>onL a fun z0=>onIv b fun j=>bif decide (j < 1) then some () else none)
section
variable {prog:Program} {w:World} {K:Frag}
theorem ref_ok (fc:Facts (CT prog w K)) (rf:RefFacts (CT prog w K)) (kp:keepIn K (.ref 975)=true) (kg:keepIn K (.ref 921)=true) {f:Fm} (ok:FmOk (CT prog w K) f) (ho:f.outer=[]) (hbase:f.base=f.h₀) (rm:Room f 12):RefOk (CT prog w K) f 975:=by
 refine ⟨kp,fun {B rs ρ σ g s E Q xs i vals} hi Rl dr q => ?_⟩
 have S:Snd (CT prog w K) (ev tabs 7) 7:=ev_snd fc 7
 have fo:=fc.fns 975 (fdT 975) (by kernel_rfl)
 refine exa ?_ Rl.loc;rintro m F l
 have hlen:vals.length=2:=dr.length.symm
 refine wpAny_call (b3f fo (Rl.inK ok) (ok.top.nolimit.keeps F.keep) (by have:=rm.depth;show f.A.depth < 1000;lia) locR celR (by rw [hlen,parR];exact cQ _) (by rw [hlen,parR,dflR];exact cQ _) fun qual cdv dvs h₁ tk hds hns hk => ?_)
 have hdv:dvs=[]:=by
  have:=hds B []
  rw [dflR] at this
  exact this
 subst hdv
 refine eaaa ?_ (groundX (R:=fun z0 z0=>True) ok.below F Rl.news ok.frames ok.frame ok.kind₀);rintro FG BG st _
 have hL:f.h₀.get? f.L=none:=kts_self F
 rw [parR] at hns
 have e0:[So "numbers",So "most"].zip (vals++List.drop (vals.length+0 - 2) [])=[So "numbers",So "most"].zip vals:=by rw [List.drop_nil,aJ]
 have hns:h₁.Ns s.heap.objs.size (fun x=>([So "numbers",So "most"].zip vals).reverse.lookup x):=e0▸hns
 have sz:(hideAll s.heap ((g.led rs).map (·.1))).objs.size≤s.heap.objs.size:=cP (hideAll_size _ _)
 generalize hH:hideAll s.heap ((g.led rs).map (·.1))=H at FG BG st sz
 have kH:∀ b o,H.get? b=some o→s.heap.get? b=some o:=fun b o e=>of_hideAll _ (hH▸e)
 have hidn:∀ p∈g.led rs,H.get? p.1=none:=fun p hp=>hH▸hideAll_none _ (List.mem_map_of_mem hp)
 let f1:Fm:={ A:=f.A.deeper (envOf qual (fdT 975).scope s.heap.objs.size 975 cdv),A₀:=f.A,env:=envOf qual (fdT 975).scope s.heap.objs.size 975 cdv,env₀:=envOf qual (fdT 975).scope s.heap.objs.size 975 cdv,outer:=f.env₀::f.outer,base:=f.base,h₀:=H,L:=s.heap.objs.size,p:=f.p,loose:=f.loose,mean:=f.mean,mg:=f.mg,mb:=f.mb,sc:=(fdT 975).scope,gens:=f.gens,os:=f.os,mL:=fun z0=>none }
 have ok1:FmOk (CT prog w K) f1:=by
  refine ⟨fo.names,BG,ok.inK.keeps st,ok.top.keeps st,Around.frames_deeper ok.frames,rfl,kindR,kindR,ok.handled,rfl,rfl,?_⟩
  intro x kd hx
  have hx':f1.env.kindOf x=some kd:=hx
  refine ⟨fun e=>by rw [hx',e],fun e=>by rw [hx',e],fun e => ?_,fun e=>by rw [hx',e]⟩
  rcases e with e | e
  ·exact .inl (by rw [hx',e])
  ·exact .inr (by rw [hx',e])
 have rm1:Room f1 8:=⟨by have:=rm.depth;show f.A.depth+1+2 * 8≤900;lia,by have:=rm.units;show f.A.units+3+8 * 8≤9700;lia⟩
 refine aE ?_ (Rl.iso B);rintro O0 sub
 have bd0:Bd (CT prog w K) B ⟨[],[],g.fz⟩ ([So "numbers",So "most"].zip ([D.lst xs,.int i].map .d)) ([So "numbers",So "most"].zip vals):=Bd.of_zip (VReps.of_D (fz:=g.fz) dr)
 have bd:Bd (CT prog w K) B ⟨[],[],g.fz⟩ [(So "numbers",.d (.lst xs)),(So "most",.d (.int i))] ([So "numbers",So "most"].zip vals):=bd0
 have keys:([So "numbers",So "most"].zip vals).map (·.1)=[So "numbers",So "most"]:=map_fst_zip (by rw [hlen];exact cQ _)
 have nd:[So "numbers",So "most"].Nodup:=by decide
 have lr:LRep (CT prog w K) B f1.env [(So "numbers",.d (.lst xs)),(So "most",.d (.int i))] ⟨[],[],g.fz⟩ (fun x=>([So "numbers",So "most"].zip vals).reverse.lookup x):=by
  intro x v hx
  refine ⟨fun hk => ?_,fun hk i e => ?_⟩
  ·refine exa ?_ ((bd.get x).1 v hx);rintro val h1 h2
   exact ⟨val,a9u (by rw [keys];exact nd) h1,h2⟩
  ·exfalso
   rcases hk with hk | hk
   ·exact celR _ (lookup_mem hk) rfl
   ·exact freR _ (lookup_mem hk) rfl
 have F1:Fr H s.heap.objs.size h₁ (fun x=>([So "numbers",So "most"].zip vals).reverse.lookup x):=⟨hns,fun b o e=>hk b o (kH b o e),sz⟩
 have N1:News H s.heap.objs.size h₁ (g.led rs):=fun p hp=>⟨hk _ _ (Rl.news p hp).1,cX (Rl.lt hp),hidn p hp⟩
 have R1:Rel (CT prog w K) B f1 (mo g++rs) [(So "numbers",.d (.lst xs)),(So "most",.d (.int i))] [] ⟨[],[],g.fz⟩ { s with heap:=h₁,toks:=tk }:=O0.toRel F1 (.inl ⟨rfl,lr⟩) (fun p hp=>N1 p (sub p hp)) Rl.gens Rl.os
 have hB:=bodyR
 generalize hb:(fdT 975).body=bd at hB
 induction hB with | mk p1 p2 p3 p4 p5 p6 kd p7 p8 p9 p10 rest =>
 rw [hb]
 have hi2:interactive f1.env=false:=by unfold interactive;rw [show f1.env.scope.kind = .function from kindR];rfl
 show wpAny (CT prog w K).M f1.A _ _ _ _
 refine wpAny_mono (E:=fun z0 z0=>False) (wpAny_execs_cons (wpAny_Try_except (wpAny_execs_cons (wpAny_Expr_any (Call_ (S.e (k:=fun fv σ=>evL (ev tabs 7) f1.sc [.Name (So "numbers") p2,.Name (So "most") p3] [(So "numbers",.d (.lst xs)),(So "most",.d (.int i))] σ fun vs z0=>is921 xs i fv vs) ?_ ok1 (rm1.lt (by decide)) R1 fun fv σ3 g3 s3 val h3 R3 X3 hfv=>a2x S rfl h3 ok1 (rm1.lt (by decide)) R3 fun vs σ4 g4 s4 vals4 h4 R4 X4 hvs => ?_)) hi2 rfl)))) (fun z0 z0 x=>x) fun z0 z0 x=>x.elim
 ·show (ev tabs 7).e f1.sc _ _ _ _=_
  have hd:decide (i < 1)=true:=decide_eq_true hi
  conv=>lhs;whnf
  rw [hd]
 ·induction a0p h4 (hfv.ext X4) with | mk d hd h4 =>
  refine aE ?_ (onG_is h4 hd);rintro rfl h4
  induction a4y h4 hvs with | mk a b av bv ha hb2 h4 =>
  induction a0p h4 ha with | mk a ha h4 =>
  induction a using D.casesOn with
  | lst ys =>
   induction a1d h4 hb2 with | mk j tj h4 =>
   have hj:j < 1:=of_decide_eq_true (a0b h4)
   refine ⟨keeps_K kg s4.heap (R4.inK ok1),?_⟩
   refine exa ?_ R4.loc;rintro m4 F4 l4
   refine b3h fc rf ok1 rm1 R4 F4 hj (.mk _ _ ha (.mk _ _ (.int j tj) .nil)) fun G e t vs s5 FG5 hR hU eg eo => ?_
   refine exxx ?_ FG.ns;rintro oL es ep;refine eaaa ?_;rintro hoL hdL hns1 hns2
   have fr:(f.env₀::f.outer).filterMap (·.frame)=[f.L]:=by rw [ho,aO,ok.frame];rfl
   have D:KtsDicts ((f.env₀::f.outer).filterMap (·.frame)) H:=fun b hb=>by
    rw [fr] at hb
    cases bV.mp hb
    exact ⟨oL,es,ep,hoL,hdL⟩
   refine caught_SO0 (x:=So "DraftFault") (KF:=K) hR FG5 BG hU (hbase▸ok.inK) (hbase▸ok.top) D KtsTurn.refl rf.name rf.kts (fun h' g' news₂ TT F5 N5 z0 Nl K5 X5 P5 D5 => ?_) kindR excR (by decide) PassesOwnAt.never
   refine wpAny_execs_cons (wpAny_Return_some (wpAny_Constant_bool ?_))
   show Q (.bool true) { s5 with heap:=h' }
   refine xE ?_ (TT.up hoL);rintro sl hsl
   have Fo:Fr f.h₀ f.L h' m:=⟨⟨_,es,ep,F5.keep _ _ hsl,hdL,hns1,hns2⟩,fun b o e=>F5.keep b o (TT.other b o (FG.keep b o e) fun hm=>by
    rw [fr] at hm
    rw [bV.mp hm,hL] at e;exact nNS e),F.above⟩
   have No:∀ p∈g.fz++(mo g++rs),h'.get? p.1=some p.2∧p.1≠f.L∧f.h₀.get? p.1=none:=fun p hp=>⟨(Nl p (by
    rcases bM.mp hp with hp | hp
    ·exact bN _ ((X3.trans X4).fz hp)
    ·exact bO _ (bO _ hp))).1,(Rl.news p (sub p hp)).2⟩
   exact q _ (Rl.back (s':={ s5 with heap:=h' }) l (fz':=g.fz) (fun z0 h=>h) O0.rsF Fo No eg eo).1
  | _=>exact no h4
end
end Mine
end
section
set_option maxHeartbeats 8000000
namespace Mine
open PySem PySem.W PySem.Spec PySem.Calls PyProof.Rows
noncomputable def xN (o:Obj):Str:=match o.data with | .cls b=>b.name | _=>oS ""
noncomputable def xQ (o:Obj):Str:=match o.data with | .cls b=>b.qualname | _=>oS ""
noncomputable def xNs (o:Obj):Addr:=match o.data with | .cls b=>b.ns | _=>0
noncomputable def xBs (o:Obj):List Value:=match o.data with | .cls b=>b.bases | _=>[]
noncomputable def xSn (o:Obj):List Str:=match o.data with | .cls b=>b.slotNames | _=>[]
noncomputable def xSub (o:Obj):List Value:=match o.data with | .cls b=>b.subclasses | _=>[]
noncomputable def xAb (o:Obj):Bool:=match o.data with | .cls b=>b.abstract | _=>false
noncomputable def xCol (o:Obj):Option Bool:=match o.data with | .cls b=>b.collection | _=>none
noncomputable def xSl (o:Obj) (i:Nat):Option Value:=(o.slots[i]?).getD none
noncomputable def x83 (K:Frag):Obj:=(K.lookup 83).getD (W.listOf #[] 0)
theorem xc_of (o:Obj) (h:o=exo 83 46 ⟨xN o,xQ o,xNs o,xBs o,xSn o,xSub o,xAb o,xCol o,o.dict,xSl o 0,xSl o 1,xSl o 2,xSl o 3,xSl o 5⟩):a3m 83 46 o:=⟨_,h⟩
theorem rf_of {prog:Program} {w:World} (K:Frag) (a1:K.lookup 83=some (x83 K)) (a2:x83 K=exo 83 46 ⟨xN (x83 K),xQ (x83 K),xNs (x83 K),xBs (x83 K),xSn (x83 K),xSub (x83 K),xAb (x83 K),xCol (x83 K),(x83 K).dict,xSl (x83 K) 0,xSl (x83 K) 1,xSl (x83 K) 2,xSl (x83 K) 3,xSl (x83 K) 5⟩)
  (b1:nsIn K mainGlobals (So "DraftFault")=some (some (.ref 83))) (b2:keepIn K (.ref 83)=true) (b3:ktsIn K 83 "BaseException" = true) (b4:findIn K (.ref 83) "__init__" = some (some (.ref 36))) (b5:isFn K (.ref 36)=true)
  (b6:findIn K (.ref 83) "__setattr__" = some (some (.builtin "object.__setattr__"))) (b7:findIn K (.ref 83) (So "what")=some none) (b8:findIn K (.ref 83) (So "at")=some none) (b9:nsIn K mainGlobals (So "Exception")=some none)
  (b10:findCls K (.type "Exception") (.type "type") "__init__" = some (.val (.builtin "Exception.__init__"))):RefFacts (CT prog w K):=⟨⟨x83 K,a1,xc_of _ a2⟩,b1,b2,b3,b4,b5,b6,b7,b8,b9,b10⟩
theorem list_at {h:Heap} {P:Params} {ax:Addr} {vs:Array Value} {xs:List WData} (hl:h.IsList ax vs) (hw:Well P h (.ref ax) (.list xs)):h.get? ax=some (W.listOf vs 0):=by
 obtain ⟨o,ho,_,n,hd⟩:=hl
 cases hw with
 | list hg _ =>
  rw [hg] at ho
  cases ho
  cases hd
  exact hg
theorem frag_app {K:Frag} {h:Heap} {a:Addr} {o:Obj} (X:K.In h) (hg:h.get? a=some o):(K++[(a,o)]).In h∧(K++[(a,o)]).lookup a=some o:=by
 have key:∀ b,(K++[(a,o)]).lookup b=(K.lookup b).or (if b==a then some o else none):=by
  intro b
  rw [List.lookup_append]
  congr 1
  show (match b==a with | true=>some o | false=>none)=_
  cases b==a <;> rfl
 constructor
 ·intro b ob e
  rw [key] at e
  cases hk:K.lookup b with
  | some o'=>rw [hk] at e;cases e;exact X b _ hk
  | none =>
   rw [hk,Option.none_or] at e
   split at e
   ·next h=>cases e;rw [eq_of_beq h];exact hg
   ·cases e
 ·rw [key]
  cases hk:K.lookup a with
  | some o' =>
   have:=X a o' hk
   rw [hg] at this
   cases this
   rfl
  | none=>rw [Option.none_or,beq_self_eq_true];rfl
theorem fd1:(cn (fdT 980).scope.names).Nodup:=by decide +kernel
theorem fd2:∀ x∈cn (fdT 980).scope.names,(fdT 980).scope.names.lookup x=some .cell:=by decide +kernel
theorem fd3:∀ x∈(fdT 980).scope.names,x.2 ≠ .free:=by decide +kernel
theorem fd4:namesOk (fdT 980).scope=true:=by kernel_rfl
theorem fd5:(fdT 980).scope.kind = .function:=by kernel_rfl
theorem fd6:(fdT 980).params.length=1:=by kernel_rfl
theorem fd7:(fdT 980).dflts=[]:=by kernel_rfl
theorem end_walk (hlaw:∀ ns:List Int,ns.length≤63→runTop (ev tabs 290) (fdT 980) [.d (.lst (ns.map .int))] [] (fun v _=>isTrueV v)=some ())
  {prog:Program} {w:World} {qual:Str} {a:Addr} {gh h₁:Heap} {L:Addr} {tk:Nat} {cells:List (Addr×Obj)} {s:Shared} {p:Program} {loose:List Str} {mean:ExcName→Option Value} {mg mb:Str→Option Value} {ax:Addr} {vs:List Value} {ns:List Int} {sc:Scope} {bs:List (Str×Value)} {body:List Stmt}
  (hsc:sc=(fdT 980).scope) (hbs:bs=(fdT 980).params.zip [.ref ax]) (hbo:body=(fdT 980).body)
  {H:Frag} (X':H.In gh)
  (F':Fr gh L h₁ (bindL (envOfC qual sc L a (.ref 979)).kindOf bs fun _=>none)) (N':News gh L h₁ (cells++[(977,tabObj #[])])) (Ce:CellsAre (bindC (envOfC qual sc L a (.ref 979)).kindOf bs fun _=>none) (cellsFrom (L+1) sc.names []) cells)
  (K':Below callerA gh [] gh) (T':Top p loose mean mg mb gh) (hcd:CodeHd gh 979 977) (hP:977 < L) (hgx:gh.get? ax=some (W.listOf vs.toArray 0)) (hI:IntsAre vs ns) (hlen:¬ 63 < ns.length)
  (fc:Facts (CT prog w (H++[(ax,W.listOf vs.toArray 0)]))) (rf:RefFacts (CT prog w (H++[(ax,W.listOf vs.toArray 0)]))) (kp:keepIn (H++[(ax,W.listOf vs.toArray 0)]) (.ref 975)=true) (kg:keepIn (H++[(ax,W.listOf vs.toArray 0)]) (.ref 921)=true)
  {E:Value→Shared→Prop} {Q:Flow→Shared→Prop} (q:∀ s' ps,s'.heap.get? 977=some (tabObj ps)→(∀ b o,gh.get? b=some o→s'.heap.get? b=some o)→s'.gens=s.gens→s'.os=s.os→Q (.ret (.bool true)) s') :
  wpAny (model prog w) (callerA.deeper (envOfC qual sc L a (.ref 979))) (execs body (envOfC qual sc L a (.ref 979))) Q E { s with heap:=h₁,toks:=tk }:=by
 subst hsc hbs hbo
 obtain ⟨XK,hx⟩:=frag_app X' hgx
 exact top_walk (C:=CT prog w (H++[(ax,W.listOf vs.toArray 0)])) fc (fun f ok ho hb rm=>ref_ok fc rf kp kg ok ho hb rm) (n:=290) (cQ _) (by decide) (fd:=fdT 980) fd1 fd2 fd3 fd4 fd5 fd6 fd7
  F' N' Ce K' XK T' hcd hP hx hI (hlaw ns (Nat.le_of_not_lt hlen)) q
end Mine
end
section
namespace Mine.Lw
open PySem
noncomputable def fdOf (a:Nat):FnRec:=match tabs.fn a with | some fd=>fd | none=>⟨[],[],{ kind := .function,names:=[],isGenerator:=false,isCoroutine:=false },[]⟩
theorem mS {α:Type} {β:Type _} {o:Option α} {v:α} {f:α→β} {g:Unit→β} {r:β} (h:o=some v) (q:f v=r):pickL.match_1 (fun _=>β) o f g=r:=by rw [h];exact q
theorem mQ {β:Type _} {o:Option Bool} {v:Bool} {f:Bool→β} {g:Unit→β} {r:β} (h:o=some v) (q:f v=r):memK.match_1 (fun _=>β) o f g=r:=by rw [h];exact q
theorem mI {β:Type _} {d:D} {v:Int} {f:Int→β} {g r:β} (h:d = .int v) (q:f v=r):dI g f d=r:=by rw [h];exact q
theorem mT {β:Type _} {d:D} {v:List D} {k1 k2:List D→β} {k3:List Nat→β} {k4:List (D×D)→β} {k5:Unit→β} {k6:D→β} {r:β} (h:d = .tup v) (q:k2 v=r):itemD.match_1 (fun _=>β) d k1 k2 k3 k4 k5 k6=r:=by rw [h];exact q
noncomputable def penL (cells:List Int) (g s p:Int):List D:=[.lst (cells.map .int),.int g,.int s,.int p]
theorem a2b {x:Int} (h:x.natAbs < 18446744073709551616):a1f x=true:=decide_eq_true h
noncomputable def szInt (x:Int):Prop:=0≤x∧x < 2147483647
theorem draw_great (R:Type) (m:Nat) (cells:List Int) (g s p lim:Int) (k:V→St→Option R) (hg:decide (0 < g)=true) (hl:decide (0 < lim)=true) (hs:a1f lim=true) :
  a0f (ev tabs (m+20)) (fdOf 954) [.r 0,.d (.int lim)] [.list (penL cells g s p)] k=k (.d (.int (g.fmod lim))) [.list (penL cells (g.fdiv lim) s (p+1))]:=by
 unfold penL
 refine cT hg ?_
 refine cT hl ?_
 refine cA hl ?_
 refine cT hs ?_
 rfl
theorem draw_list (R:Type) (m:Nat) (cells:List Int) (g s p lim:Int) (k:V→St→Option R) (hg:decide (0 < g)=false) (h1:a1f s=true) (h2:a1f p=true) (hz:szOk (cells.map D.int).length=true) (hp:decide (p < ((cells.map D.int).length:Int))=true) (hn:decide (p < 0)=false) (hl:decide (0 < lim)=true)
  (x:Int) (hx:(cells.map D.int).getD p.toNat default = .int x) :
  a0f (ev tabs (m+20)) (fdOf 954) [.r 0,.d (.int lim)] [.list (penL cells g s p)] k=k (.d (.int (x.fmod lim))) [.list (penL cells g ((s * 16807+p * p+7).fmod 2147483647) (p+1))]:=by
 unfold penL
 refine cF hg ?_
 refine cT h1 ?_
 refine cT h2 ?_
 refine cT hz ?_
 refine cT hp ?_
 refine cT hz ?_
 refine cF hn ?_
 refine cT hp ?_
 refine mI hx ?_
 refine cT hl ?_
 rfl
theorem draw_state (R:Type) (m:Nat) (cells:List Int) (g s p lim:Int) (k:V→St→Option R) (hg:decide (0 < g)=false) (h1:a1f s=true) (h2:a1f p=true) (hz:szOk (cells.map D.int).length=true) (hp:decide (p < ((cells.map D.int).length:Int))=false) (hl:decide (0 < lim)=true) :
  a0f (ev tabs (m+20)) (fdOf 954) [.r 0,.d (.int lim)] [.list (penL cells g s p)] k=k (.d (.int ((((s * 16807+p * p+7).fmod 2147483647).fdiv 5).fmod lim))) [.list (penL cells g ((s * 16807+p * p+7).fmod 2147483647) (p+1))]:=by
 unfold penL
 refine cF hg ?_
 refine cT h1 ?_
 refine cT h2 ?_
 refine cT hz ?_
 refine cF hp ?_
 refine cT hl ?_
 rfl
noncomputable abbrev Cal (R:Type):=Nat→V→List V→St→(V→St→Option R)→Option R
noncomputable def evC {R:Type} (T:Tabs) (C:Cal R):Nat→IH R
 | 0=>⟨fun z0 z0 z0 z0 z0=>none,fun z0 z0 z0 z0 z0=>none,fun z0 z0 z0 z0 z0=>none,C 0⟩
 | n+1=>⟨stepE T (evC T C n),stepT (evC T C n),stepS T (evC T C n),C (n+1)⟩
noncomputable def cal {R:Type}:Cal R:=fun n=>(ev tabs n).call
theorem evC_eq {R:Type}:∀ n,evC tabs (cal:Cal R) n=ev tabs n
 | 0=>rfl
 | n+1=>by
  show (⟨stepE tabs (evC tabs cal n),stepT (evC tabs cal n),stepS tabs (evC tabs cal n),cal (n+1)⟩:IH R)=_
  rw [evC_eq n]
  rfl
theorem cal_fn {R:Type} {a:Nat} {fd:FnRec} (h1:Nat.beq a tabs.refused=false) (h2:tabs.cls a=none) (h3:tabs.fn a=some fd) (m:Nat) (args:List V) (σ:St) (k:V→St→Option R) :
  cal (m+1) (.d (.g a)) args σ k=a5n tabs (evC tabs cal m) a fd (Nat.beq a 947) args σ k:=by
 show b0i tabs (ev tabs m) a args σ k=_
 unfold b0i
 rw [h1,h2,h3,evC_eq];rfl
theorem run_one {R:Type} {ih:IH R} {a:Nat} {fd:FnRec} {own:Bool} {i:Nat} {rest:List V} {ds xs:List D} {σ:St} {k:V→St→Option R} (h1:Nat.beq a tabs.reader=false) (h2:Nat.beq a tabs.reader2=false) (hσ:σ[i]?=some (.list xs)) (hd:allD rest=some ds) :
  a5n tabs ih a fd own (.r i::rest) σ k=a0f ih fd (.r 0::ds.map .d) [.list xs] (fun v σ'=>a6r i v σ' σ k):=by
 unfold a5n
 rw [h1,h2]
 show oneGo i rest σ _ _=_
 unfold oneGo
 rw [hσ]
 dsimp only
 rw [hd]
theorem b5a {R:Type} {ih:IH R} {a:Nat} {fd:FnRec} {own:Bool} {args:List V} {ds:List D} {σ:St} {k:V→St→Option R} (h1:Nat.beq a tabs.reader=false) (h2:Nat.beq a tabs.reader2=false) (hd:allD args=some ds) :
  a5n tabs ih a fd own args σ k=a0f ih fd args [] (fun v σ'=>a4s own v σ' σ k):=by
 unfold a5n
 rw [h1,h2,hd]
 rfl
theorem run_r1 {R:Type} {ih:IH R} {a:Nat} {fd:FnRec} {own:Bool} {args:List V} {p:List Nat×Nat×Nat} {σ:St} {k:V→St→Option R} (h1:Nat.beq a tabs.reader=true) (hb:b0g args=some p):a5n tabs ih a fd own args σ k=runBuf ih fd σ k p:=by
 unfold a5n
 rw [h1,hb]
 rfl
theorem run_r2 {R:Type} {ih:IH R} {a:Nat} {fd:FnRec} {own:Bool} {args:List V} {p:List Nat×Nat×Int} {σ:St} {k:V→St→Option R} (h1:Nat.beq a tabs.reader=false) (h2:Nat.beq a tabs.reader2=true) (hb:a6q args=some p):a5n tabs ih a fd own args σ k=b3t ih fd σ k p:=by
 unfold a5n
 rw [h1,h2,hb]
 rfl
noncomputable def Pen (n:Nat) (P:List D):Prop:=∃ cells g s p,P=penL cells g s p∧cells.length≤48∧0≤s∧s < 2147483647∧0≤p∧p+n≤1000
theorem a0h {n:Nat} (h:n≤1000000):szOk n=true:=Nat.ble_eq_true_of_le h
theorem draw_body {n:Nat} {P:List D} (hP:Pen (n+1) P) {lim:Int} (hl:0 < lim) (hs:lim < 1000):∃ d P',0≤d∧d < lim∧Pen n P'∧∀ (R:Type) (m:Nat) (k:V→St→Option R),a0f (ev tabs (m+20)) (fdOf 954) [.r 0,.d (.int lim)] [.list P] k=k (.d (.int d)) [.list P']:=by
 revert hP;refine exxx ?_;rintro cells g s;refine exaa ?_;rintro p rfl hc;refine eaaa ?_;rintro s1 s2 p1 p2
 have sl:a1f lim=true:=a2b (by lia)
 have dl:decide (0 < lim)=true:=decide_eq_true hl
 have ss:a1f s=true:=a2b (by lia)
 have sp:a1f p=true:=a2b (by push_cast at p2;lia)
 have hz:szOk (cells.map D.int).length=true:=a0h (by rw [bF];lia)
 have nxt:Pen n (penL cells g ((s * 16807+p * p+7).fmod 2147483647) (p+1)):=⟨cells,g,_,_,rfl,hc,Int.fmod_nonneg_of_pos _ (by decide),Int.fmod_lt_of_pos _ (by decide),by lia,by push_cast at p2;lia⟩
 by_cases hg:0 < g
 ·exact ⟨_,_,Int.fmod_nonneg_of_pos _ hl,Int.fmod_lt_of_pos _ hl,⟨cells,_,s,p+1,rfl,hc,s1,s2,by lia,by push_cast at p2;lia⟩,fun R m k=>draw_great R m cells g s p lim k (decide_eq_true hg) dl sl⟩
 ·have hg:=decide_eq_false hg
  by_cases hp:p < ((cells.map D.int).length:Int)
  ·have hlt:p.toNat < cells.length:=by rw [bF] at hp;lia
   have hx:(cells.map D.int).getD p.toNat default = .int (cells[p.toNat]'hlt):=by
    rw [aR,aX,aV hlt];rfl
   exact ⟨_,_,Int.fmod_nonneg_of_pos _ hl,Int.fmod_lt_of_pos _ hl,nxt,fun R m k=>draw_list R m cells g s p lim k hg ss sp hz (decide_eq_true hp) (decide_eq_false (by lia)) dl _ hx⟩
  ·exact ⟨_,_,Int.fmod_nonneg_of_pos _ hl,Int.fmod_lt_of_pos _ hl,nxt,fun R m k=>draw_state R m cells g s p lim k hg ss sp hz (decide_eq_false hp) dl⟩
theorem fd954:tabs.fn 954=some (fdOf 954):=by kernel_rfl
theorem draw_call {n:Nat} {P:List D} (hP:Pen (n+1) P) {lim:Int} (hl:0 < lim) (hs:lim < 1000):∃ d P',0≤d∧d < lim∧Pen n P'∧∀ (R:Type) (m i:Nat) (σ:St) (k:V→St→Option R),σ[i]?=some (.list P)→cal (m+21) (.d (.g 954)) [.r i,.d (.int lim)] σ k=k (.d (.int d)) (setAt σ i (.list P')):=by
 refine exxa ?_ (draw_body hP hl hs);rintro d P' h1;refine eaa ?_;rintro h2 h3 h4
 refine ⟨d,P',h1,h2,h3,fun R m i σ k hσ => ?_⟩
 rewrite [cal_fn (by rfl) (by rfl) fd954]
 refine Eq.trans (run_one (by rfl) (by rfl) hσ (ds:=[.int lim]) rfl) ?_
 rw [evC_eq]
 exact (h4 R m _).trans rfl
end Mine.Lw
end
section
namespace Mine.Lw
open PySem
noncomputable abbrev S (x:String):Str:=oS x
noncomputable def refD (r:Int):D := .obj 415 [(S "number",.int r),(S "generation",.int 0)]
noncomputable def a8j (len:D) (b:List Nat):D := .obj 387 [(S "head",.dct [(.str (S "Length"),len)]),(S "octets",.bytes b)]
inductive Kind where
 | k17 | name | arr | dict | zero | neg | str3 | strR (r:Int) | ref (r:Int)
noncomputable def enc:Kind→D
 | .k17 => .int 17
 | .name => .obj 344 [(S "text",.str (S "A b"))]
 | .arr => .lst [.int 1,refD 2]
 | .dict => .dct [(.str (S "K"),.none),(.str (S "L"),.int 5)]
 | .zero => .int 0
 | .neg => .int (-4)
 | .str3=>a8j (.int 3) [97,98,99]
 | .strR r=>a8j (refD r) [97,98,99]
 | .ref r=>refD r
theorem a8k (x y:D):a7g [x,y]=[x,y]:=rfl
section
variable {R:Type}
theorem name_call (m:Nat) (x:D) (σ:St) (k:V→St→Option R):cal (m+21) (.d (.g 344)) [.d x] σ k=k (.d (.obj 344 [(S "text",x)])) σ:=by
 show a0g tabs (ev tabs (m+20)) (.d (.g 344)) [.d x] σ k=_
 conv=>lhs;whnf
 try rw [curArgs_1]
 try (conv=>lhs;whnf)
theorem ref_call (m:Nat) (x y:D) (σ:St) (k:V→St→Option R):cal (m+21) (.d (.g 415)) [.d x,.d y] σ k=k (.d (.obj 415 [(S "number",x),(S "generation",y)])) σ:=by
 show a0g tabs (ev tabs (m+20)) (.d (.g 415)) [.d x,.d y] σ k=_
 conv=>lhs;whnf
 try rw [a8k]
 try (conv=>lhs;whnf)
theorem b5b (m:Nat) (x y:D) (σ:St) (k:V→St→Option R):cal (m+21) (.d (.g 387)) [.d x,.d y] σ k=k (.d (.obj 387 [(S "head",x),(S "octets",y)])) σ:=by
 show a0g tabs (ev tabs (m+20)) (.d (.g 387)) [.d x,.d y] σ k=_
 conv=>lhs;whnf
 try rw [a8k]
 try (conv=>lhs;whnf)
end
end Mine.Lw
end
section
namespace Mine.Lw
open PySem
section
variable {R:Type} {ih:IH R} {sc:Scope} {t:Expr} {ifs:List Expr} {ρ:Loc} {σ:St}
theorem a1h {body:Loc→St→List D→(List D→St→Option R)→Option R} (f:D→Option D) :
  ∀ (ds:List D) (acc:List D) (k:List D→St→Option R),(∀ d∈ds,∀ acc (k':List D→St→Option R),acc.length≤1000→(bif freshT t ρ then a6l sc t d ρ σ fun ρ' σ=>a7d ih sc ifs ρ' σ fun b σ=>(bif b then body ρ' σ acc k' else k' acc σ) else none)=k' (acc++(f d).toList) σ) →
   acc.length+ds.length≤1000→a2l ih sc t ifs body ds ρ σ acc k=k (acc++ds.filterMap f) σ
 | [],acc,k,_,_=>by rw [List.filterMap_nil,aJ];rfl
 | d::ds,acc,k,H,hl=>by
  have h1:=H d (.head _) acc (fun acc σ=>a2l ih sc t ifs body ds ρ σ acc k) (by rw [bE] at hl;lia)
  refine Eq.trans ?_ (h1.trans ?_)
  ·rfl
  ·have hlen:(f d).toList.length≤1:=by cases f d <;> simp
   refine Eq.trans (a1h f ds (acc++(f d).toList) k (fun d' h=>H d' (.tail _ h)) (by rw [bD];rw [bE] at hl;lia)) ?_
   rw [aO]
   induction f d with
   | none=>simp
   | some x=>simp
theorem for_inv {b:List Stmt} {body:List Stmt→Loc→St→KS R→Option R} (I:List D→Loc→St→Prop)
  (H:∀ d ds ρ σ,I (d::ds) ρ σ→∃ ρ' σ',I ds ρ' σ'∧∀ nx rt,(a6l sc t d ρ σ fun ρ σ=>body b ρ σ ⟨nx,rt,nx,fun z0 z0=>none⟩)=nx ρ' σ') :
  ∀ (ds:List D) (ρ:Loc) (σ:St) (K:KS R),I ds ρ σ→∃ ρ' σ',I [] ρ' σ'∧a1v sc t body b ds ρ σ K=K.next ρ' σ'
 | [],ρ,σ,K,h=>⟨ρ,σ,h,rfl⟩
 | d::ds,ρ,σ,K,h=>by
  refine exxa ?_ (H d ds ρ σ h);rintro ρ' σ' h1 h2
  refine exxa ?_ (for_inv I H ds ρ' σ' K h1);rintro ρ2 σ2 h3 h4
  exact ⟨ρ2,σ2,h3,(h2 _ _).trans h4⟩
theorem a6w {b:List Stmt} {body:List Stmt→Loc→St→KS R→Option R} (I:List D→Loc→St→Prop)
  (H:∀ d ds ρ σ,I (d::ds) ρ σ→∃ ρ' σ',I ds ρ' σ'∧∀ nx rt,(a6l sc t d ρ σ fun ρ σ=>body b ρ σ ⟨nx,rt,nx,fun z0 z0=>none⟩)=nx ρ' σ')
  {ds:List D} {ρ:Loc} {σ:St} {K:KS R} {r:Option R} (h:I ds ρ σ) (fin:∀ ρ' σ',I [] ρ' σ'→K.next ρ' σ'=r):a1v sc t body b ds ρ σ K=r:=by
 refine exxa ?_ (for_inv I H ds ρ σ K h);rintro ρ' σ' h1 h2
 rw [h2];exact fin ρ' σ' h1
end
noncomputable def absI (c:Int):Int:=bif decide (c < 0) then -c else c
noncomputable def stF (s c:Int):Int:=(s * 48271+c.fmod 2147483647+12345).fmod 2147483647
theorem take_slice (ns:List Int) (n:Nat):slice (ns.map D.int) none (some (n:Int))=(ns.take n).map D.int:=by
 unfold slice a6z
 simp only [Int.ofNat_eq_natCast,bF,List.drop_zero,Nat.sub_zero]
 rw [show decide ((n:Int) < 0)=false from decide_eq_false (by lia)]
 simp only [cond_false,Int.toNat_natCast,List.map_take]
 by_cases h:n≤ns.length
 ·rw [Nat.min_eq_left h]
 ·rewrite [Nat.min_eq_right (by lia)]
  refine Eq.trans (List.take_of_length_le (by simp)) ?_
  rw [List.take_of_length_le (by simp;lia)]
theorem stF_b (s c:Int):0≤stF s c∧stF s c < 2147483647:=⟨Int.fmod_nonneg_of_pos _ (by decide),Int.fmod_lt_of_pos _ (by decide)⟩
theorem pen_rest (ns cs:List Int) (hc:cs.length≤48) (g:Int) (R:Type) (m:Nat) (K:KS R) :
  evSs (ev tabs (m+30)) (fdOf 947).scope ((fdOf 947).body.drop 3) [(S "script",.d (.lst (ns.map .int))),(S "cells",.d (.lst (cs.map .int))),(S "great",.d (.int g))] [] K=K.ret (.r 0) [.list (penL cs g (cs.foldl stF 1) 0)]:=by
 refine a6w (fun ds ρ σ=>∃ xs s,ds=xs.map D.int∧0≤s∧s < 2147483647∧xs.foldl stF s=cs.foldl stF 1∧σ=[]∧(ρ=[(S "script",.d (.lst (ns.map .int))),(S "cells",.d (.lst (cs.map .int))),(S "great",.d (.int g)),(S "state",.d (.int s))] ∨
   ∃ c,ρ=[(S "script",.d (.lst (ns.map .int))),(S "cells",.d (.lst (cs.map .int))),(S "great",.d (.int g)),(S "state",.d (.int s)),(S "cell",.d (.int c))])) ?_ ⟨cs,1,rfl,by decide,by decide,rfl,rfl,.inl rfl⟩ ?_
 ·rintro d ds ρ σ q1_
  revert q1_;refine exxa ?_;rintro xs s h1;refine eaaa ?_;rintro h2 h3 h4;refine aE ?_;rintro rfl h5
  induction xs using aK with
  | nil=>exact nCN h1
  | cons c xs =>
   refine aE ?_ (aL.inj h1);rintro rfl rfl
   refine ⟨_,_,⟨xs,stF s c,rfl,(stF_b s c).1,(stF_b s c).2,h4,rfl,.inr ⟨c,rfl⟩⟩,fun nx rt => ?_⟩
   have hs:a1f s=true:=a2b (by lia)
   rcases h5 with rfl | ⟨c',rfl⟩
   ·refine cT hs ?_
    rfl
   ·refine cT hs ?_
    rfl
 ·rintro ρ σ q1_
  revert q1_;refine exxa ?_;rintro xs s h1;refine eaaa ?_;rintro h2 h3 h4;refine aE ?_;rintro rfl h5
  induction xs using aK with
  | cons c xs=>exact nNC h1
  | nil =>
   subst h4
   rcases h5 with rfl | ⟨c',rfl⟩
   ·conv=>lhs;whnf
    rfl
   ·conv=>lhs;whnf
    rfl
theorem pen_run (ns:List Int) (hn:ns.length≤63):∃ P,Pen 900 P∧∀ (R:Type) (m:Nat) (k:V→St→Option R),a0f (ev tabs (m+30)) (fdOf 947) [.d (.lst (ns.map .int))] [] k=k (.r 0) [.list P]:=by
 have hz:szOk (ns.map D.int).length=true:=a0h (by rw [bF];lia)
 have hz2:slice (ns.map D.int) none (some 48)=(ns.take 48).map D.int:=take_slice ns 48
 have hc:(ns.take 48).length≤48:=by rw [bG];lia
 generalize ns.take 48=cs at hz2 hc
 have hz3:szOk (cs.map D.int).length=true:=a0h (by rw [bF];lia)
 have fF:0≤cs.foldl stF 1∧cs.foldl stF 1 < 2147483647:=by
  have:∀ (xs:List Int) (s:Int),0≤s∧s < 2147483647→0≤xs.foldl stF s∧xs.foldl stF s < 2147483647:=by
   intro xs
   induction xs with
   | nil=>intro s h;exact h
   | cons c xs ih=>intro s h;exact ih _ (stF_b s c)
  exact this cs 1 (by decide)
 have pn:∀ g,Pen 900 (penL cs g (cs.foldl stF 1) 0):=fun g=>⟨cs,g,_,0,rfl,hc,fF.1,fF.2,by decide,by decide⟩
 have pre:∀ (R:Type) (m:Nat) (k:V→St→Option R),a0f (ev tabs (m+30)) (fdOf 947) [.d (.lst (ns.map .int))] [] k=evSs (ev tabs (m+30)) (fdOf 947).scope ((fdOf 947).body.drop 2) [(S "script",.d (.lst (ns.map .int))),(S "cells",.d (.lst (cs.map .int))),(S "great",.d (.int 0))] [] ⟨fun z0 σ=>k (.d .none) σ,k,fun z0 z0=>none,fun z0 z0=>none⟩:=by
  intro R m k
  refine cT hz ?_
  conv=>lhs;whnf
  rw [show (slice (ns.map D.int) none (some 48))=cs.map D.int from hz2]
  rw [a1h some _ _ _ (by
   intro d hd acc k' hl
   refine exa ?_ (bT.mp hd);rintro i _ rfl
   conv=>lhs;whnf
   rw [a0h (n:=acc.length) (by lia)]
   rfl) (by rw [bF];simp;lia)]
  rw [List.filterMap_some,bW]
  rfl
 induction cs using aK with
 | nil =>
  refine ⟨_,pn 0,fun R m k=>(pre R m k).trans ?_⟩
  conv=>lhs;whnf
  rfl
 | cons c r =>
  have hz4:decide ((0:Int) < (((c::r).map D.int).length:Int))=true:=decide_eq_true (by rw [bF,bE];lia)
  have he:(!((c::r).map D.int).isEmpty)=true:=rfl
  have hx:((c::r).map D.int).getD 0 default = .int c:=rfl
  generalize c::r=cs at pre hz3 hz4 he hx pn hc
  by_cases hb:(10:Int) ^ Int.toNat 15≤absI c
  ·refine ⟨_,pn ((absI c).fdiv 2 |>.fmod (10 ^ Int.toNat 240)),fun R m k=>(pre R m k).trans ?_⟩
   conv=>lhs;whnf
   refine cT hz3 ?_
   refine cT he ?_
   conv=>lhs;whnf
   refine cT hz3 ?_
   conv=>lhs;whnf
   refine cT hz4 ?_
   refine mI (show (cs.map D.int).getD (Int.toNat 0) default = .int c from hx) ?_
   conv=>lhs;whnf
   refine cT (decide_eq_true hb) ?_
   conv=>lhs;whnf
   refine cT hz3 ?_
   conv=>lhs;whnf
   refine cT hz4 ?_
   refine mI (show (cs.map D.int).getD (Int.toNat 0) default = .int c from hx) ?_
   conv=>lhs;whnf
   have fin:=pen_rest ns cs hc ((absI c).fdiv 2 |>.fmod (10 ^ Int.toNat 240)) R m ⟨fun z0 σ=>k (.d .none) σ,k,fun z0 z0=>none,fun z0 z0=>none⟩
   conv at fin=>lhs;whnf
   exact fin
  ·refine ⟨_,pn 0,fun R m k=>(pre R m k).trans ?_⟩
   conv=>lhs;whnf
   refine cT hz3 ?_
   refine cT he ?_
   conv=>lhs;whnf
   refine cT hz3 ?_
   conv=>lhs;whnf
   refine cT hz4 ?_
   refine mI (show (cs.map D.int).getD (Int.toNat 0) default = .int c from hx) ?_
   conv=>lhs;whnf
   refine cF (decide_eq_false hb) ?_
   conv=>lhs;whnf
   have fin:=pen_rest ns cs hc 0 R m ⟨fun z0 σ=>k (.d .none) σ,k,fun z0 z0=>none,fun z0 z0=>none⟩
   conv at fin=>lhs;whnf
   exact fin
end Mine.Lw
end
section
namespace Mine.Lw
open PySem
noncomputable abbrev CalG (R:Type):=Nat→Nat→List V→St→(V→St→Option R)→Option R
noncomputable def calX {R:Type}:CalG R:=fun n a args σ k=>cal n (.d (.g a)) args σ k
noncomputable def calG {R:Type} (C:CalG R):Cal R:=fun n f args σ k=>match f with
 | .d (.g a)=>C n a args σ k
 | f=>cal n f args σ k
theorem calG_eq {R:Type}:(calG calX:Cal R)=cal:=by
 funext n f args σ k
 unfold calG calX
 induction f with
 | r i=>rfl
 | d x=>cases x <;> rfl
noncomputable abbrev EV {R:Type} (C:CalG R) (n:Nat):IH R:=evC tabs (calG C) n
theorem a2z {R:Type} (n:Nat):EV (calX:CalG R) n=ev tabs n:=by unfold EV;rw [calG_eq];exact evC_eq n
theorem a4n {R:Type} {a:Nat} {fd:FnRec} (h1:Nat.beq a tabs.refused=false) (h2:tabs.cls a=none) (h3:tabs.fn a=some fd) (m:Nat) (args:List V) (σ:St) (k:V→St→Option R) :
  calX (m+1) a args σ k=a5n tabs (EV calX m) a fd (Nat.beq a 947) args σ k:=by
 show cal (m+1) (.d (.g a)) args σ k=_
 rw [cal_fn h1 h2 h3,EV,calG_eq]
theorem a0z {R:Type} (a:Nat) (m:Nat) (args:List V) (σ:St) (k:V→St→Option R) :
  calX (m+1) a args σ k=a0g tabs (EV calX m) (.d (.g a)) args σ k:=by
 rw [a2z];rfl
theorem Pen.mono {n m:Nat} {P:List D} (h:Pen n P) (hm:m≤n):Pen m P:=by
 revert h;refine exxx ?_;rintro c g s;refine exaa ?_;rintro p a b;refine eaaa ?_;rintro d e f i
 exact ⟨c,g,s,p,a,b,d,e,f,by push_cast at i ⊢;lia⟩
noncomputable abbrev a2g {R:Type} (C:CalG R) (M:Nat) (P:List D) (lim d:Int) (P':List D):Prop:=∀ n,M≤n→∀ (i:Nat) (σ:St) (k:V→St→Option R),σ[i]?=some (.list P)→C n 954 [.r i,.d (.int lim)] σ k=k (.d (.int d)) (setAt σ i (.list P'))
noncomputable abbrev ObjC {R:Type} (C:CalG R) (M:Nat) (P:List D) (x:D) (P':List D):Prop:=∀ n,M≤n→∀ (i:Nat) (σ:St) (k:V→St→Option R),σ[i]?=some (.list P)→C n 961 [.r i] σ k=k (.d x) (setAt σ i (.list P'))
theorem up {p:Nat→Prop} {c:Nat} (h:∀ m,p (m+c)):∀ n,c≤n→p n:=fun n hn=>by
 have:=h (n - c)
 rwa [Nat.sub_add_cancel hn] at this
theorem a8l {n:Nat} {P:List D} (hP:Pen (n+1) P) {lim:Int} (hl:0 < lim) (hs:lim < 1000):∃ d P',0≤d∧d < lim∧Pen n P'∧∀ (R:Type),a2g (calX:CalG R) 21 P lim d P':=by
 refine exxa ?_ (draw_call hP hl hs);rintro d P' h1;refine eaa ?_;rintro h2 h3 h4
 exact ⟨d,P',h1,h2,h3,fun R=>up fun m i σ k hσ=>h4 R m i σ k hσ⟩
noncomputable abbrev b5c {R:Type} (C:CalG R) (M:Nat):Prop:=∀ n,M≤n→∀ (x:D) (σ:St) (k:V→St→Option R),C n 344 [.d x] σ k=k (.d (.obj 344 [(S "text",x)])) σ
noncomputable abbrev RefC {R:Type} (C:CalG R) (M:Nat):Prop:=∀ n,M≤n→∀ (x y:D) (σ:St) (k:V→St→Option R),C n 415 [.d x,.d y] σ k=k (.d (.obj 415 [(S "number",x),(S "generation",y)])) σ
noncomputable abbrev b5d {R:Type} (C:CalG R) (M:Nat):Prop:=∀ n,M≤n→∀ (x y:D) (σ:St) (k:V→St→Option R),C n 387 [.d x,.d y] σ k=k (.d (.obj 387 [(S "head",x),(S "octets",y)])) σ
section
variable {R:Type}
theorem nameX:b5c (calX:CalG R) 21:=up fun m x σ k=>name_call m x σ k
theorem refX:RefC (calX:CalG R) 21:=up fun m x y σ k=>ref_call m x y σ k
theorem streamX:b5d (calX:CalG R) 21:=up fun m x y σ k=>b5b m x y σ k
end
theorem lift {p:Nat→Prop} {a b:Nat} (hab:a≤b) (h:∀ n,a≤n→p n):∀ n,b≤n→p n:=fun n hn=>h n (cS hab hn)
noncomputable def Kind.ok:Kind→Prop
 | .strR r=>1≤r∧r≤9
 | .ref r=>1≤r∧r≤9
 | _=>True
theorem seven {d:Int} (h1:0≤d) (h2:d < 7):d=0∨d=1∨d=2∨d=3∨d=4∨d=5∨d=6:=by
 refine xE ?_ (Int.eq_ofNat_of_zero_le h1);rintro n rfl
 exact (by decide +kernel:∀ n:Nat,n < 7→(n:Int)=0∨(n:Int)=1∨(n:Int)=2∨(n:Int)=3∨(n:Int)=4∨(n:Int)=5∨(n:Int)=6) n (Int.ofNat_lt.mp h2)
theorem fd961:tabs.fn 961=some (fdOf 961):=by kernel_rfl
section
variable {R:Type} {C:CalG R} {M:Nat} {P P1 P2 P3:List D}
theorem obj_0 (hN:b5c C M) (hR:RefC C M) (h:a2g C M P 7 0 P1) (k:V→St→Option R):a0f (EV C (M+12)) (fdOf 961) [.r 0] [.list P] k=k (.d (enc .k17)) [.list P1]:=by
 refine (h _ (by exact cN _ 10) _ _ _ rfl).trans ?_
 refine (hN _ (by exact cN _ 8) _ _ _).trans ?_
 refine (hR _ (by exact cN _ 7) _ _ _ _).trans ?_
 kernel_rfl
theorem obj_1 (hN:b5c C M) (hR:RefC C M) (h:a2g C M P 7 1 P1) (k:V→St→Option R):a0f (EV C (M+12)) (fdOf 961) [.r 0] [.list P] k=k (.d (enc .name)) [.list P1]:=by
 refine (h _ (by exact cN _ 10) _ _ _ rfl).trans ?_
 refine (hN _ (by exact cN _ 8) _ _ _).trans ?_
 refine (hR _ (by exact cN _ 7) _ _ _ _).trans ?_
 kernel_rfl
theorem obj_2 (hN:b5c C M) (hR:RefC C M) (h:a2g C M P 7 2 P1) (k:V→St→Option R):a0f (EV C (M+12)) (fdOf 961) [.r 0] [.list P] k=k (.d (enc .arr)) [.list P1]:=by
 refine (h _ (by exact cN _ 10) _ _ _ rfl).trans ?_
 refine (hN _ (by exact cN _ 8) _ _ _).trans ?_
 refine (hR _ (by exact cN _ 7) _ _ _ _).trans ?_
 kernel_rfl
theorem obj_3 (hN:b5c C M) (hR:RefC C M) (h:a2g C M P 7 3 P1) (k:V→St→Option R):a0f (EV C (M+12)) (fdOf 961) [.r 0] [.list P] k=k (.d (enc .dict)) [.list P1]:=by
 refine (h _ (by exact cN _ 10) _ _ _ rfl).trans ?_
 refine (hN _ (by exact cN _ 8) _ _ _).trans ?_
 refine (hR _ (by exact cN _ 7) _ _ _ _).trans ?_
 kernel_rfl
theorem obj_6 (hN:b5c C M) (hR:RefC C M) (h:a2g C M P 7 6 P1) (k:V→St→Option R):a0f (EV C (M+12)) (fdOf 961) [.r 0] [.list P] k=k (.d (enc .neg)) [.list P1]:=by
 refine (h _ (by exact cN _ 10) _ _ _ rfl).trans ?_
 refine (hN _ (by exact cN _ 8) _ _ _).trans ?_
 refine (hR _ (by exact cN _ 7) _ _ _ _).trans ?_
 kernel_rfl
theorem obj_4a (hR:RefC C M) (hS:b5d C M) (h:a2g C M P 7 4 P1) {r:Int} (h2:a2g C M P1 9 r P2) (h3:a2g C M P2 2 0 P3) (k:V→St→Option R):a0f (EV C (M+12)) (fdOf 961) [.r 0] [.list P] k=k (.d (enc .str3)) [.list P3]:=by
 refine (h _ (by exact cN _ 10) _ _ _ rfl).trans ?_
 refine (h2 _ (by exact cN _ 3) _ _ _ rfl).trans ?_
 refine (hR _ (by exact cN _ 5) _ _ _ _).trans ?_
 refine (h3 _ (by exact cN _ 6) _ _ _ rfl).trans ?_
 refine (hS _ (by exact cN _ 9) _ _ _ _).trans ?_
 kernel_rfl
theorem obj_4b (hR:RefC C M) (hS:b5d C M) (h:a2g C M P 7 4 P1) {r:Int} (h2:a2g C M P1 9 r P2) (h3:a2g C M P2 2 1 P3) (k:V→St→Option R):a0f (EV C (M+12)) (fdOf 961) [.r 0] [.list P] k=k (.d (enc (.strR (1+r)))) [.list P3]:=by
 refine (h _ (by exact cN _ 10) _ _ _ rfl).trans ?_
 refine (h2 _ (by exact cN _ 3) _ _ _ rfl).trans ?_
 refine (hR _ (by exact cN _ 5) _ _ _ _).trans ?_
 refine (h3 _ (by exact cN _ 6) _ _ _ rfl).trans ?_
 refine (hS _ (by exact cN _ 9) _ _ _ _).trans ?_
 kernel_rfl
theorem obj_5 (hR:RefC C M) (h:a2g C M P 7 5 P1) {r:Int} (h2:a2g C M P1 9 r P2) (k:V→St→Option R):a0f (EV C (M+12)) (fdOf 961) [.r 0] [.list P] k=k (.d (enc (.ref (1+r)))) [.list P2]:=by
 refine (h _ (by exact cN _ 10) _ _ _ rfl).trans ?_
 refine (h2 _ (by exact cN _ 7) _ _ _ rfl).trans ?_
 refine (hR _ (by exact cN _ 9) _ _ _ _).trans ?_
 kernel_rfl
end
theorem b5e {n:Nat} {P:List D} (hP:Pen (n+3) P):∃ kd P',Kind.ok kd∧Pen n P'∧∀ (R:Type),ObjC (calX:CalG R) 40 P (enc kd) P':=by
 refine exxa ?_ (a8l hP (lim:=7) (by decide) (by decide));rintro d P1 h1;refine eaa ?_;rintro h2 h3 h4
 have go:∃ kd P',Kind.ok kd∧Pen n P'∧∀ (R:Type) (m:Nat) (k:V→St→Option R),a0f (EV calX (m+21+12)) (fdOf 961) [.r 0] [.list P] k=k (.d (enc kd)) [.list P']:=by
  rcases seven h1 h2 with rfl | rfl | rfl | rfl | rfl | rfl | rfl
  ·exact ⟨.k17,P1,trivial,h3.mono (by exact cN _ 2),fun R m k=>obj_0 (lift (cM 21 m) nameX) (lift (cM 21 m) refX) (lift (cM 21 m) (h4 R)) k⟩
  ·exact ⟨.name,P1,trivial,h3.mono (by exact cN _ 2),fun R m k=>obj_1 (lift (cM 21 m) nameX) (lift (cM 21 m) refX) (lift (cM 21 m) (h4 R)) k⟩
  ·exact ⟨.arr,P1,trivial,h3.mono (by exact cN _ 2),fun R m k=>obj_2 (lift (cM 21 m) nameX) (lift (cM 21 m) refX) (lift (cM 21 m) (h4 R)) k⟩
  ·exact ⟨.dict,P1,trivial,h3.mono (by exact cN _ 2),fun R m k=>obj_3 (lift (cM 21 m) nameX) (lift (cM 21 m) refX) (lift (cM 21 m) (h4 R)) k⟩
  ·refine exxa ?_ (a8l h3 (lim:=9) (by decide) (by decide));rintro r P2 r1;refine eaa ?_;rintro r2 r3 r4
   refine exxa ?_ (a8l r3 (lim:=2) (by decide) (by decide));rintro e P3 e1;refine eaa ?_;rintro e2 e3 e4
   have he:e=0∨e=1:=by lia
   rcases he with rfl | rfl
   ·exact ⟨.str3,P3,trivial,e3.mono (by exact cN _ 0),fun R m k=>obj_4a (lift (cM 21 m) refX) (lift (cM 21 m) streamX) (lift (cM 21 m) (h4 R)) (lift (cM 21 m) (r4 R)) (lift (cM 21 m) (e4 R)) k⟩
   ·exact ⟨.strR (1+r),P3,⟨by lia,by lia⟩,e3.mono (by exact cN _ 0),fun R m k=>obj_4b (lift (cM 21 m) refX) (lift (cM 21 m) streamX) (lift (cM 21 m) (h4 R)) (lift (cM 21 m) (r4 R)) (lift (cM 21 m) (e4 R)) k⟩
  ·refine exxa ?_ (a8l h3 (lim:=9) (by decide) (by decide));rintro r P2 r1;refine eaa ?_;rintro r2 r3 r4
   exact ⟨.ref (1+r),P2,⟨by lia,by lia⟩,r3.mono (by exact cN _ 1),fun R m k=>obj_5 (lift (cM 21 m) refX) (lift (cM 21 m) (h4 R)) (lift (cM 21 m) (r4 R)) k⟩
  ·exact ⟨.neg,P1,trivial,h3.mono (by exact cN _ 2),fun R m k=>obj_6 (lift (cM 21 m) nameX) (lift (cM 21 m) refX) (lift (cM 21 m) (h4 R)) k⟩
 revert go;refine exxa ?_;rintro kd P' a;refine aE ?_;rintro b c
 refine ⟨kd,P',a,b,fun R=>up fun m i σ k hσ => ?_⟩
 rewrite [a4n (by rfl) (by rfl) fd961]
 refine Eq.trans (run_one (by rfl) (by rfl) hσ (ds:=[]) rfl) ?_
 exact (c R (m+6) _).trans rfl
end Mine.Lw
end
section
namespace Mine.Lw
open PySem
theorem b3i (a b:Int):∀ l,insI a (insI b l)=insI b (insI a l)
 | []=>by
  simp only [b1n,insI_c]
  by_cases h:a≤b <;> by_cases h':b≤a <;> simp [h,h'] <;> lia
 | c::r=>by
  simp only [b1n,insI_c]
  by_cases h1:a≤c <;> by_cases h2:b≤c <;> simp only [h1,h2,decide_true,decide_false,cond_true,cond_false,b1n,insI_c]
  ·by_cases h:a≤b <;> by_cases h':b≤a <;> simp [h,h',h1,h2] <;> lia
  ·have:¬ b≤a:=by lia
   simp [this,h1,h2]
  ·have:¬ a≤b:=by lia
   simp [this,h1,h2]
  ·rw [b3i a b r]
theorem sortI_perm {a b:List Int} (h:a.Perm b):sortI a=sortI b:=by
 induction h with
 | nil=>rfl
 | cons x _ ih=>simp only [sortI_n,sortI_c,ih]
 | swap x y l=>simp only [sortI_n,sortI_c];exact b3i _ _ _
 | trans _ _ ih1 ih2=>exact ih1.trans ih2
theorem insI_perm (a:Int):∀ l,(insI a l).Perm (a::l)
 | [] => .refl _
 | b::r=>by
  simp only [b1n,insI_c]
  by_cases h:a≤b
  ·simp only [h,decide_true,cond_true];exact .refl _
  ·simp only [h,decide_false,cond_false]
   exact ((insI_perm a r).cons b).trans (.swap a b r)
theorem a2q:∀ l:List Int,(sortI l).Perm l
 | [] => .refl _
 | a::r=>(insI_perm a _).trans ((a2q r).cons a)
theorem mem_sortI {x:Int} {l:List Int}:x∈sortI l↔x∈l:=(a2q l).mem_iff
theorem a1n (l:List Int):(sortI l).length=l.length:=(a2q l).length_eq
theorem b5f {l:List Int} (h:l.Nodup):(sortI l).Nodup:=(a2q l).nodup_iff.mpr h
theorem a0v:∀ l:List Int,intsOf (l.map D.int)=some l
 | []=>rfl
 | a::r=>congrArg (Option.map (a::·)) (a0v r)
structure TabOk (es:List (D×D)) (keys:List Int) (gen:Int→Int) (kd:Int→Kind):Prop where
 fst:es.map Prod.fst=keys.map D.int
 nd:keys.Nodup
 get:∀ n∈keys,a2k (.int n) es = .tup [.int (gen n),enc (kd n)]
 rng:∀ n∈keys,1≤n∧n≤9
 g2:∀ n∈keys,gen n=0∨gen n=2
 ok:∀ n∈keys,(kd n).ok
theorem a0t {es:List (D×D)} {keys:List Int} (h:es.map Prod.fst=keys.map D.int) (n:Int):keysOk (.int n) es=true:=by
 unfold keysOk
 refine aF.mpr fun e he => ?_
 have:e.1∈keys.map D.int:=by rw [← h];exact bT.mpr ⟨e,he,rfl⟩
 refine exa ?_ (bT.mp this);rintro i _ hi
 rw [← hi];rfl
theorem a1z:∀ {es:List (D×D)} {keys:List Int},es.map Prod.fst=keys.map D.int→∀ n,dhas (.int n) es=decide (n∈keys)
 | [],[],_,n=>by simp [dhas_n,a9e]
 | (x,v)::r,k::ks,h,n=>by
  simp only [bK,aL.injEq] at h
  revert h;refine aE ?_;rintro h1 h2
  have h1:x = .int k:=h1
  subst h1
  simp only [dhas_n,a9e,keq_i]
  rw [a1z h2 n]
  by_cases hk:k=n
  ·subst hk;simp
  ·have:n≠k:=fun e=>hk e.symm
   simp [hk,this]
noncomputable def insK (n:Int) (keys:List Int):List Int:=if n∈keys then keys else keys++[n]
noncomputable def upd {α:Type} (f:Int→α) (n:Int) (v:α):Int→α:=fun m=>if m=n then v else f m
theorem a5f:∀ {es:List (D×D)} {keys:List Int},es.map Prod.fst=keys.map D.int→∀ n v,(dput (.int n) v es).map Prod.fst=(insK n keys).map D.int
 | [],[],_,n,v=>rfl
 | (x,u)::r,k::ks,h,n,v=>by
  simp only [bK,aL.injEq] at h
  revert h;refine aE ?_;rintro h1 h2
  have h1:x = .int k:=h1
  subst h1
  have ih:=a5f h2 n v
  simp only [dput_n,dput_c,keq_i]
  by_cases hk:k=n
  ·subst hk
   simp [insK,h2]
  ·simp only [hk,decide_false,cond_false,bK,ih]
   unfold insK
   have:n≠k:=fun e=>hk e.symm
   by_cases hm:n∈ks <;> simp [hm,this]
theorem a8m:∀ {es:List (D×D)} {keys:List Int},es.map Prod.fst=keys.map D.int→∀ n v m,a2k (.int m) (dput (.int n) v es)=if m=n then v else a2k (.int m) es
 | [],[],_,n,v,m=>by
  simp only [dput_n,dput_c,b3u,a4i,keq_i]
  by_cases h:n=m
  ·subst h;simp
  ·have:m≠n:=fun e=>h e.symm
   simp [h,this]
 | (x,u)::r,k::ks,h,n,v,m=>by
  simp only [bK,aL.injEq] at h
  revert h;refine aE ?_;rintro h1 h2
  have h1:x = .int k:=h1
  subst h1
  have ih:=a8m h2 n v m
  simp only [dput_n,dput_c,keq_i]
  by_cases hk:k=n
  ·subst hk
   simp only [decide_true,cond_true,b3u,a4i,keq_i]
   by_cases hm:k=m
   ·subst hm;simp
   ·have:m≠k:=fun e=>hm e.symm
    simp [hm,this]
  ·simp only [hk,decide_false,cond_false,b3u,a4i,keq_i,ih]
   by_cases hm:k=m
   ·subst hm;simp [hk]
   ·simp [hm]
theorem insK_mem {n m:Int} {keys:List Int}:m∈insK n keys↔m=n∨m∈keys:=by
 unfold insK
 by_cases h:n∈keys
 ·simp only [h,if_true]
  exact ⟨.inr,fun e=>e.elim (fun e=>e▸h) id⟩
 ·simp only [h,if_false,bM,bV]
  exact ⟨fun e=>e.symm,fun e=>e.symm⟩
theorem insK_len (n:Int) (keys:List Int):(insK n keys).length≤keys.length+1:=by
 unfold insK
 by_cases h:n∈keys <;> simp [h]
theorem TabOk.put {es:List (D×D)} {keys:List Int} {gen:Int→Int} {kd:Int→Kind} (h:TabOk es keys gen kd) {n g:Int} {k:Kind} (hn:1≤n∧n≤9) (hg:g=0∨g=2) (hk:k.ok):TabOk (dput (.int n) (.tup [.int g,enc k]) es) (insK n keys) (upd gen n g) (upd kd n k):=by
 refine ⟨a5f h.fst _ _,?_,?_,?_,?_,?_⟩
 ·unfold insK
  by_cases hm:n∈keys
  ·simp only [hm,if_true];exact h.nd
  ·simp only [hm,if_false]
   refine bX.mpr ⟨h.nd,by simp,?_⟩
   intro a ha b hb
   simp only [bV] at hb
   subst hb
   intro e;subst e;exact hm ha
 ·intro m hm
  rw [a8m h.fst]
  unfold upd
  by_cases e:m=n
  ·subst e;simp
  ·simp only [e,if_false]
   exact h.get m ((insK_mem.mp hm).resolve_left e)
 ·intro m hm
  rcases insK_mem.mp hm with rfl | hm
  ·exact hn
  ·exact h.rng m hm
 ·intro m hm
  unfold upd
  by_cases e:m=n
  ·simp only [e,if_true];exact hg
  ·simp only [e,if_false]
   exact h.g2 m ((insK_mem.mp hm).resolve_left e)
 ·intro m hm
  unfold upd
  by_cases e:m=n
  ·simp only [e,if_true];exact hk
  ·simp only [e,if_false]
   exact h.ok m ((insK_mem.mp hm).resolve_left e)
theorem TabOk.nil {gen:Int→Int} {kd:Int→Kind}:TabOk [] [] gen kd:=⟨rfl,bZ,by simp,by simp,by simp,by simp⟩
theorem rangeL_length (a c:Int):∀ n,(a1p a c n).length=n:=by
 intro n
 induction n generalizing a with
 | zero=>rfl
 | succ n ih=>simp only [a6s,bE,ih]
theorem eight {d:Int} (h1:0≤d) (h2:d < 8):Builtin.Range.small 0 (1+d) 1=true∧1≤(Builtin.Range.rangeSize 0 (1+d) 1).toNat∧(Builtin.Range.rangeSize 0 (1+d) 1).toNat≤8:=by
 refine xE ?_ (Int.eq_ofNat_of_zero_le h1);rintro n rfl
 exact (by decide +kernel:∀ n:Nat,n < 8→Builtin.Range.small 0 (1+(n:Int)) 1=true∧1≤(Builtin.Range.rangeSize 0 (1+(n:Int)) 1).toNat∧(Builtin.Range.rangeSize 0 (1+(n:Int)) 1).toNat≤8) n (Int.ofNat_lt.mp h2)
theorem four {d:Int} (h1:0≤d) (h2:d < 4):d=0∨d=1∨d=2∨d=3:=by
 refine xE ?_ (Int.eq_ofNat_of_zero_le h1);rintro n rfl
 exact (by decide +kernel:∀ n:Nat,n < 4→(n:Int)=0∨(n:Int)=1∨(n:Int)=2∨(n:Int)=3) n (Int.ofNat_lt.mp h2)
end Mine.Lw
end
section
namespace Mine.Lw
open PySem
theorem fd947:tabs.fn 947=some (fdOf 947):=by kernel_rfl
noncomputable abbrev PenC {R:Type} (C:CalG R) (M:Nat) (ns:List Int) (P:List D):Prop:=∀ n,M≤n→∀ (σ:St) (k:V→St→Option R),C n 947 [.d (.lst (ns.map .int))] σ k=k (.r σ.length) (σ++[.list P])
theorem penX (ns:List Int) (hn:ns.length≤63):∃ P,Pen 900 P∧∀ (R:Type),PenC (calX:CalG R) 40 ns P:=by
 refine exa ?_ (pen_run ns hn);rintro P hP h
 refine ⟨P,hP,fun R=>up fun m σ k => ?_⟩
 rewrite [a4n (by rfl) (by rfl) fd947]
 refine Eq.trans (b5a (by rfl) (by rfl) (ds:=[.lst (ns.map .int)]) rfl) ?_
 rw [a2z]
 exact (h R _ _).trans rfl
noncomputable abbrev a0o:Scope:=(fdOf 980).scope
noncomputable def a0u (i:Nat):Stmt:=match (fdOf 980).body[i]? with | some s=>s | none => .Pass default
noncomputable def lawB (i:Nat):List Stmt:=(fdOf 980).body.drop i
noncomputable def forB (i:Nat):List Stmt:=if h:_ then Stmt.For.elim (a0u i) h fun z0 z0 b z0 z0=>b else []
theorem a0a {R:Type} {ih:IH R} {sc:Scope} {s:Stmt} {r:List Stmt} {ρ ρ':Loc} {σ σ':St} {K:KS R} {x:Option R} (h:∀ nx,ih.s sc s ρ σ ⟨nx,K.ret,K.cont,K.brk⟩=nx ρ' σ') (h2:evSs ih sc r ρ' σ' K=x):evSs ih sc (s::r) ρ σ K=x:=(h _).trans h2
theorem a0j {R:Type} {ih:IH R} {sc:Scope} {s:Stmt} {r:List Stmt} {ρ:Loc} {σ:St} {K:KS R} {x:Option R} (h:∀ nx,ih.s sc s ρ σ ⟨nx,K.ret,K.cont,K.brk⟩=x):evSs ih sc (s::r) ρ σ K=x:=h _
theorem a1c {R:Type} {ih:IH R} {sc:Scope} {s:Stmt} {b r:List Stmt} (hb:b=s::r) {ρ ρ':Loc} {σ σ':St} {K:KS R} {x:Option R} (h:∀ nx,a1b ih sc s ρ σ ⟨nx,K.ret,K.cont,K.brk⟩=nx ρ' σ') (h2:b4u ih sc r ρ' σ' K=x):b4u ih sc b ρ σ K=x:=by
 rw [hb];exact (h _).trans h2
noncomputable def stAt (b:List Stmt) (i:Nat):Stmt:=match b[i]? with | some s=>s | none => .Pass default
theorem a5g {es:List (D×D)} {keys:List Int} (h:es.map Prod.fst=keys.map D.int):es.length=keys.length:=by
 have:=congrArg List.length h
 rwa [bF,bF] at this
theorem lb0:lawB 0=a0u 0::lawB 1:=by kernel_rfl
theorem lb1:lawB 1=a0u 1::lawB 2:=by kernel_rfl
theorem lb2:lawB 2=a0u 2::lawB 3:=by kernel_rfl
noncomputable def ρA (ns:List Int):Loc:=[(S "script",.d (.lst (ns.map .int))),(S "table",.r 0),(S "shelf",.r 1),(S "back",.r 2)]
noncomputable def ρ0 (ns:List Int):Loc:=[(S "script",.d (.lst (ns.map .int))),(S "table",.r 0),(S "shelf",.r 1),(S "back",.r 2),(S "pen",.r 3)]
noncomputable def ρ1 (ns:List Int) (t n:Int):Loc:=[(S "script",.d (.lst (ns.map .int))),(S "table",.r 0),(S "shelf",.r 1),(S "back",.r 2),(S "pen",.r 3),(S "turn",.d (.int t)),(S "number",.d (.int n))]
noncomputable def σ1 (P:List D) (es:List (D×D)):St:=[.cell (some (.r 4)),.cell none,.cell none,.list P,.dict es]
section
variable {R:Type} {C:CalG R} {M:Nat} {P P1 P2 P3:List D}
theorem top_w {ns:List Int} (m:Nat) (k:V→St→Option R):runTop (EV C m) (fdOf 980) [.d (.lst (ns.map .int))] [] k=b4u (EV C m) a0o (lawB 0) (ρA ns) [.cell none,.cell none,.cell none] ⟨fun z0 σ=>k (.d .none) σ,k,fun z0 z0=>none,fun z0 z0=>none⟩:=by
 kernel_rfl
theorem st0_w {ns:List Int} (h:PenC C M ns P) (K:KS R):a1b (EV C (M+12)) a0o (a0u 0) (ρA ns) [.cell none,.cell none,.cell none] K=K.next (ρ0 ns) [.cell none,.cell none,.cell none,.list P]:=by
 refine (h _ (by exact cN _ 10) _ _).trans ?_
 kernel_rfl
theorem st1_w {ns:List Int} (K:KS R):a1b (EV C (M+12)) a0o (a0u 1) (ρ0 ns) [.cell none,.cell none,.cell none,.list P] K=K.next (ρ0 ns) (σ1 P []):=by
 kernel_rfl
theorem fb2:forB 2=[stAt (forB 2) 0,stAt (forB 2) 1]:=by kernel_rfl
theorem turn_a {ns:List Int} {es:List (D×D)} {d t:Int} {ρ:Loc} {K:KS R} (h1:a2g C M P 9 d P1) (hρ:ρ=put (S "turn") (.d (.int t)) (ρ0 ns)∨∃ n0,ρ=ρ1 ns t n0) :
  (EV C (M+12)).s a0o (stAt (forB 2) 0) ρ (σ1 P es) K=K.next (ρ1 ns t (1+d)) (σ1 P1 es):=by
 rcases hρ with rfl | ⟨n0,rfl⟩
 ·conv=>lhs;whnf
  refine (h1 _ (by exact cN _ 9) _ _ _ rfl).trans ?_
  kernel_rfl
 ·conv=>lhs;whnf
  refine (h1 _ (by exact cN _ 9) _ _ _ rfl).trans ?_
  kernel_rfl
theorem turn_b {ns:List Int} {es:List (D×D)} {n g t:Int} {x:D} {K:KS R} (h2:a2g C M P1 4 g P2) (h3:ObjC C M P2 x P3) {gg:Int} (g0:decide (g < 0)=false) (g1:decide (g < (([D.int 0,.int 0,.int 0,.int 2]:List D).length:Int))=true) (g2:([D.int 0,.int 0,.int 0,.int 2]:List D).getD g.toNat default = .int gg) (ko:keysOk (.int n) es=true) (sz:szOk es.length=true) :
  (EV C (M+12)).s a0o (stAt (forB 2) 1) (ρ1 ns t n) (σ1 P1 es) K=K.next (ρ1 ns t n) (σ1 P3 (dput (.int n) (.tup [.int gg,x]) es)):=by
 refine (h2 _ (by exact cN _ 8) _ _ _ rfl).trans ?_
 refine cF g0 ?_
 refine cT g1 ?_
 conv=>lhs;whnf
 rw [g2]
 refine (h3 _ (by exact cN _ 9) _ _ _ rfl).trans ?_
 refine cA ko ?_
 refine cT sz ?_
 kernel_rfl
theorem turn_w {ns:List Int} {es:List (D×D)} {d g t:Int} {x:D} {ρ:Loc} {nx:Loc→St→Option R} {rt:V→St→Option R} (h1:a2g C M P 9 d P1) (h2:a2g C M P1 4 g P2) (h3:ObjC C M P2 x P3) {gg:Int} (g0:decide (g < 0)=false) (g1:decide (g < (([D.int 0,.int 0,.int 0,.int 2]:List D).length:Int))=true) (g2:([D.int 0,.int 0,.int 0,.int 2]:List D).getD g.toNat default = .int gg) (ko:keysOk (.int (1+d)) es=true) (sz:szOk es.length=true) (hρ:ρ=ρ0 ns∨∃ t0 n0,ρ=ρ1 ns t0 n0) :
  (putName a0o (S "turn") (.d (.int t)) ρ (σ1 P es) fun ρ σ=>evSs (EV C (M+12)) a0o (forB 2) ρ σ ⟨nx,rt,nx,fun z0 z0=>none⟩)=nx (ρ1 ns t (1+d)) (σ1 P3 (dput (.int (1+d)) (.tup [.int gg,x]) es)):=by
 have h:∀ (k:Loc→St→Option R),∃ ρ',(ρ'=put (S "turn") (.d (.int t)) (ρ0 ns)∨∃ n0,ρ'=ρ1 ns t n0)∧putName a0o (S "turn") (.d (.int t)) ρ (σ1 P es) k=k ρ' (σ1 P es):=by
  intro k
  rcases hρ with rfl | ⟨t0,n0,rfl⟩
  ·exact ⟨_,.inl rfl,by kernel_rfl⟩
  ·exact ⟨_,.inr ⟨n0,rfl⟩,by kernel_rfl⟩
 refine exa ?_ (h fun ρ σ=>evSs (EV C (M+12)) a0o (forB 2) ρ σ ⟨nx,rt,nx,fun z0 z0=>none⟩);rintro ρ' h4 h5
 refine h5.trans ?_
 rw [fb2]
 exact a0a (fun nx=>turn_a h1 h4) (a0a (fun nx=>turn_b h2 h3 g0 g1 g2 ko sz) rfl)
end
inductive TurnR (ns:List Int) (P:List D) (es:List (D×D)) (l n:Nat):Prop
 | mk (P':List D) (es':List (D×D)) (keys':List Int) (gen':Int→Int) (kd':Int→Kind) (nn:Int):Pen n P'→TabOk es' keys' gen' kd'→keys'.length≤l →
  (∀ (R:Type) (M:Nat),60≤M→∀ (t:Int) (ρ:Loc) (nx:Loc→St→Option R) (rt:V→St→Option R),(ρ=ρ0 ns∨∃ t0 n0,ρ=ρ1 ns t0 n0) →
  (putName a0o (S "turn") (.d (.int t)) ρ (σ1 P es) fun ρ σ=>evSs (EV calX (M+12)) a0o (forB 2) ρ σ ⟨nx,rt,nx,fun z0 z0=>none⟩)=nx (ρ1 ns t nn) (σ1 P' es'))→TurnR ns P es l n
theorem turn_run (ns:List Int) {es:List (D×D)} {keys:List Int} {gen:Int→Int} {kd:Int→Kind} (h:TabOk es keys gen kd) (hl:keys.length≤100) {n:Nat} {P:List D} (hP:Pen (n+5) P):TurnR ns P es (keys.length+1) n:=by
 refine exxa ?_ (a8l hP (lim:=9) (by decide) (by decide));rintro d P1 d1;refine eaa ?_;rintro d2 d3 d4
 refine exxa ?_ (a8l d3 (lim:=4) (by decide) (by decide));rintro g P2 g1;refine eaa ?_;rintro g2 g3 g4
 refine exxa ?_ (b5e g3);rintro kk P3 k1;refine aE ?_;rintro k2 k3
 have ko:keysOk (.int (1+d)) es=true:=a0t h.fst _
 have sz:szOk es.length=true:=a0h (by rw [a5g h.fst];lia)
 have hg:∃ gg:Int,(gg=0∨gg=2)∧decide (g < 0)=false∧decide (g < (([D.int 0,.int 0,.int 0,.int 2]:List D).length:Int))=true∧([D.int 0,.int 0,.int 0,.int 2]:List D).getD g.toNat default = .int gg:=by
  rcases four g1 g2 with rfl | rfl | rfl | rfl
  ·exact ⟨0,.inl rfl,rfl,rfl,rfl⟩
  ·exact ⟨0,.inl rfl,rfl,rfl,rfl⟩
  ·exact ⟨0,.inl rfl,rfl,rfl,rfl⟩
  ·exact ⟨2,.inr rfl,rfl,rfl,rfl⟩
 revert hg;refine exaa ?_;rintro gg e1 e2;refine aE ?_;rintro e3 e4
 exact .mk P3 _ _ _ _ (1+d) k2 (h.put (n:=1+d) (g:=gg) (k:=kk) (by lia) e1 k1) (insK_len _ _) fun R M hM t ρ nx rt hρ=>turn_w (lift (by lia) (d4 R)) (lift (by lia) (g4 R)) (lift (by lia) (k3 R)) e2 e3 e4 ko sz hρ
end Mine.Lw
end
section
namespace Mine.Lw
open PySem
noncomputable def forT (i:Nat):Expr:=match a0u i with | Stmt.For t _ _ _ _=>t | _ => .Constant .none 0 default
inductive LoopR (ns:List Int) (P:List D) (es:List (D×D)) (ds:List Int) (n:Nat):Prop
 | mk (P':List D) (es':List (D×D)) (keys':List Int) (gen':Int→Int) (kd':Int→Kind) (t nn:Int):Pen n P'→TabOk es' keys' gen' kd'→keys'.length≤8 →
  (∀ (R:Type) (M:Nat),60≤M→∀ (ρ:Loc) (K:KS R),(ρ=ρ0 ns∨∃ t0 n0,ρ=ρ1 ns t0 n0) →
   a1v a0o (forT 2) (evSs (EV calX (M+12)) a0o) (forB 2) (ds.map .int) ρ (σ1 P es) K=K.next (ρ1 ns t nn) (σ1 P' es'))→LoopR ns P es ds n
theorem table_loop (ns:List Int):∀ (ds:List Int) (d:Int) (P:List D) (es:List (D×D)) (keys:List Int) (gen:Int→Int) (kd:Int→Kind) (n:Nat),Pen (n+5 * (d::ds).length) P→TabOk es keys gen kd→keys.length+(d::ds).length≤8→LoopR ns P es (d::ds) n:=by
 intro ds
 induction ds with
 | nil =>
  intro d P es keys gen kd n hP h hl
  induction turn_run ns (n:=n) h (by lia) hP with | mk P' es' keys' gen' kd' nn h1 h2 h3 h4 =>
  exact .mk P' es' keys' gen' kd' d nn h1 h2 (by simp at hl;lia) fun R M hM ρ K hρ=>h4 R M hM d ρ K.next K.ret hρ
 | cons d2 ds ih =>
  intro d P es keys gen kd n hP h hl
  induction turn_run ns (n:=n+5 * (d2::ds).length) h (by lia) (hP.mono (by simp;exact cN _ 0)) with | mk P' es' keys' gen' kd' nn h1 h2 h3 h4 =>
  induction ih d2 P' es' keys' gen' kd' n h1 h2 (by simp at hl ⊢;lia) with | mk P2 es2 keys2 gen2 kd2 t2 nn2 g1 g2 g3 g4 =>
  exact .mk P2 es2 keys2 gen2 kd2 t2 nn2 g1 g2 g3 fun R M hM ρ K hρ =>
   (h4 R M hM d ρ (fun ρ σ=>a1v a0o (forT 2) (evSs (EV calX (M+12)) a0o) (forB 2) ((d2::ds).map .int) ρ σ K) K.ret hρ).trans (g4 R M hM _ K (.inr ⟨_,_,rfl⟩))
theorem table_st {R:Type} {C:CalG R} {M:Nat} {P P1:List D} {ns:List Int} {d:Int} (h:a2g C M P 8 d P1) (hs:Builtin.Range.small 0 (1+d) 1=true) (K:KS R) :
  a1b (EV C (M+13)) a0o (a0u 2) (ρ0 ns) (σ1 P []) K=a1v a0o (forT 2) (evSs (EV C (M+12)) a0o) (forB 2) ((a1p 0 1 (Builtin.Range.rangeSize 0 (1+d) 1).toNat).map .int) (ρ0 ns) (σ1 P1 []) K:=by
 refine (h _ (by exact cN _ 9) _ _ _ rfl).trans ?_
 refine cT hs ?_
 kernel_rfl
inductive TabR (ns:List Int) (P:List D):Prop
 | mk (P':List D) (es:List (D×D)) (keys:List Int) (gen:Int→Int) (kd:Int→Kind) (t n:Int):Pen 800 P'→TabOk es keys gen kd→keys.length≤8 →
  (∀ (R:Type) (M:Nat) (K:KS R),60≤M→a1b (EV calX (M+13)) a0o (a0u 2) (ρ0 ns) (σ1 P []) K=K.next (ρ1 ns t n) (σ1 P' es))→TabR ns P
theorem table_w (ns:List Int) {P:List D} (hP:Pen 900 P):TabR ns P:=by
 refine exxa ?_ (a8l hP (lim:=8) (by decide) (by decide));rintro d P1 d1;refine eaa ?_;rintro d2 d3 d4
 refine eaa ?_ (eight d1 d2);rintro e1 e2 e3
 have hlen:=rangeL_length 0 1 (Builtin.Range.rangeSize 0 (1+d) 1).toNat
 have st:=fun (R:Type) (M:Nat) (hM:60≤M) (K:KS R)=>table_st (C:=calX) (M:=M) (ns:=ns) (lift (by lia) (d4 R)) e1 K
 generalize a1p 0 1 (Builtin.Range.rangeSize 0 (1+d) 1).toNat=ds at st hlen
 induction ds using aK with
 | nil=>simp at hlen;lia
 | cons a r =>
  induction table_loop ns r a P1 [] [] (fun z0=>0) (fun z0 => .zero) 800 (d3.mono (by lia)) .nil (by rw [hlen];simpa using e3) with | mk P2 es2 keys2 gen2 kd2 t2 nn2 g1 g2 g3 g4 =>
  exact .mk P2 es2 keys2 gen2 kd2 t2 nn2 g1 g2 g3 fun R M K hM=>(st R M hM K).trans (g4 R M hM _ K (.inl rfl))
end Mine.Lw
end
section
namespace Mine.Lw
open PySem
noncomputable def encL:Option Int→List (D×D)
 | none=>[]
 | some r=>[(.str (S "Encrypt"),refD r)]
noncomputable def a0m (es:List (D×D)) (e:Option Int):D := .obj 536 [(S "table",.dct es),(S "trailer",.dct (encL e))]
noncomputable def σ3 (P:List D) (es:List (D×D)) (e:Option Int):St:=[.cell (some (.r 4)),.cell (some (.d (a0m es e))),.cell none,.list P,.frz (.dct es)]
noncomputable abbrev ShelfC {R:Type} (C:CalG R) (M:Nat):Prop:=∀ n,M≤n→∀ (i:Nat) (es:List (D×D)) (e:Option Int) (σ:St) (k:V→St→Option R),σ[i]?=some (.dict es)→C n 536 [.r i,.d (.dct (encL e))] σ k=k (.d (a0m es e)) (setAt σ i (.frz (.dct es)))
theorem cls_call {R:Type} {ih:IH R} {a:Nat} {p:Nat×Bool} {fd:FnRec} (h1:Nat.beq a tabs.refused=false) (h2:tabs.cls a=some p) (h3:tabs.fn p.1=some fd) (args:List V) (σ:St) (k:V→St→Option R) :
  a0g tabs ih (.d (.g a)) args σ k=b0h ih a fd p.2 args σ k:=by
 show b0i tabs ih a args σ k=_
 unfold b0i
 refine cF h1 ?_
 refine mS h2 ?_
 show optK (tabs.fn p.1) _=_
 rw [h3];rfl
theorem own_eq {R:Type} {σ:St} {i:Nat} {o:O} {f:O→Option R} (h:σ[i]?=some o):own σ i f=f o:=by unfold own;rw [h]
theorem toD_dict {R:Type} {i:Nat} {es:List (D×D)} {σ:St} {k:D→St→Option R} (h:σ[i]?=some (.dict es)):toD (.r i) σ k=k (.dct es) (setAt σ i (.frz (.dct es))):=by
 show optK (own σ i _) _=_
 rw [own_eq h];rfl
theorem fd465:tabs.fn 465=some (fdOf 465):=by kernel_rfl
theorem shelf_init {R:Type} {M:Nat} {C:CalG R} {es:List (D×D)} {e:Option Int} {k:V→St→Option R}:a0f (EV C (M+12)) (fdOf 465) [.r 0,.d (.dct es),.d (.dct (encL e))] [.inst 536 1,.ns []] k=k (.d .none) [.inst 536 1,.ns [(S "table",.d (.dct es)),(S "trailer",.d (.dct (encL e)))]]:=by
 kernel_rfl
theorem shelfX {R:Type}:ShelfC (calX:CalG R) 21:=up fun m i es e σ k hσ=>by
 rw [a0z,cls_call (p:=(465,false)) (fd:=fdOf 465) (by rfl) (by rfl) fd465]
 unfold b0h toDs
 refine Eq.trans (toD_dict hσ) ?_
 unfold toDs toDs toD
 dsimp only
 rw [a8k]
 exact (shelf_init (M:=m+8)).trans (by rfl)
section
variable {R:Type} {C:CalG R} {M:Nat} {P P1 P2 P3:List D}
theorem st3_a {ns:List Int} {es:List (D×D)} {t n r:Int} {K:KS R} (h1:a2g C M P 3 1 P1) (h2:a2g C M P1 9 r P2) (hR:RefC C M) (hS:ShelfC C M) :
  a1b (EV C (M+13)) a0o (a0u 3) (ρ1 ns t n) (σ1 P es) K=K.next (ρ1 ns t n) (σ3 P2 es (some (1+r))):=by
 refine (h1 _ (by exact cN _ 8) _ _ _ rfl).trans ?_
 refine (h2 _ (by exact cN _ 6) _ _ _ rfl).trans ?_
 refine (hR _ (by exact cN _ 8) _ _ _ _).trans ?_
 refine (hS _ (by exact cN _ 11) _ es (some (1+r)) _ _ rfl).trans ?_
 kernel_rfl
theorem st3_b {ns:List Int} {es:List (D×D)} {t n r d:Int} {K:KS R} (hd:deq (.int d) (.int 1)=false) (h1:a2g C M P 3 d P1) (hS:ShelfC C M) :
  a1b (EV C (M+13)) a0o (a0u 3) (ρ1 ns t n) (σ1 P es) K=K.next (ρ1 ns t n) (σ3 P1 es none):=by
 refine (h1 _ (by exact cN _ 8) _ _ _ rfl).trans ?_
 conv=>lhs;whnf
 rw [hd]
 refine (hS _ (by exact cN _ 11) _ es none _ _ rfl).trans ?_
 kernel_rfl
end
theorem st3_w (ns:List Int) {P:List D} {k:Nat} (hP:Pen (k+2) P) (es:List (D×D)) (t n:Int):∃ P' e,Pen k P'∧(∀ r,e=some r→1≤r∧r≤9) ∧
  ∀ (R:Type) (M:Nat) (K:KS R),60≤M→a1b (EV calX (M+13)) a0o (a0u 3) (ρ1 ns t n) (σ1 P es) K=K.next (ρ1 ns t n) (σ3 P' es e):=by
 refine exxa ?_ (a8l hP (lim:=3) (by decide) (by decide));rintro d P1 d1;refine eaa ?_;rintro d2 d3 d4
 by_cases hd:d=1
 ·subst hd
  refine exxa ?_ (a8l d3 (lim:=9) (by decide) (by decide));rintro g P2 g1;refine eaa ?_;rintro g2 g3 g4
  refine ⟨P2,some (1+g),g3,fun r he=>(by injection he with he;lia),fun R M K hM => ?_⟩
  exact st3_a (lift (by lia) (d4 R)) (lift (by lia) (g4 R)) (lift (by lia) refX) (lift (by lia) shelfX)
 ·refine ⟨P1,none,d3.mono (by exact cN _ 1),fun r he=>(by exact nNS he),fun R M K hM => ?_⟩
  exact st3_b (r:=0) (show decide (d=1)=false from decide_eq_false hd) (lift (by lia) (d4 R)) (lift (by lia) shelfX)
end Mine.Lw
end
section
namespace Mine.Lw
open PySem
noncomputable abbrev IsoC {R:Type} (C:CalG R) (M a:Nat) (args:List V) (x:D):Prop:=∀ n,M≤n→∀ (σ:St) (k:V→St→Option R),C n a args σ k=k (.d x) σ
theorem iso_of {a c:Nat} {fd:FnRec} {args:List V} {ds:List D} {v:V} {σ':St} {x:D} (h1:Nat.beq a tabs.refused=false) (h2:tabs.cls a=none) (h3:tabs.fn a=some fd) (h4:Nat.beq a tabs.reader=false) (h5:Nat.beq a tabs.reader2=false) (hd:allD args=some ds)
  (hv:∀ (R:Type) (σ:St) (k:V→St→Option R),a4s (Nat.beq a 947) v σ' σ k=k (.d x) σ) (h:∀ (R:Type) (M:Nat),c≤M→∀ (k:V→St→Option R),a0f (EV calX (M+12)) fd args [] k=k v σ'):∀ (R:Type),IsoC (calX:CalG R) (c+13) a args x:=by
 intro R n hn σ k
 refine exa ?_ (exM (k:=13) hn);rintro M rfl hM
 show calX (M+12+1) a args σ k=_
 rewrite [a4n h1 h2 h3]
 refine Eq.trans (b5a h4 h5 hd) ?_
 exact (h R M (by lia) _).trans (hv R σ k)
theorem a0d {α:Type} (x:Str) (v:α):∀ l:List (Str×α),seq x x=true→lk x (put x v l)=some v
 | [],h=>by simp only [a6m,a7h,lk_n,lk_c,h,cond_true]
 | (y,u)::r,h=>by
  simp only [a6m,a7h]
  cases hs:seq x y with
  | true=>simp only [cond_true,lk_n,lk_c,hs]
  | false=>simp only [cond_false,lk_n,lk_c,hs];exact a0d x v r h
theorem beq_eq {a b:Nat} (h:Nat.beq a b=true):a=b:=cL h
theorem natsEq_iff:∀ {a b:List Nat},a3r a b=true→a=b
 | [],[],_=>rfl
 | [],_::_,h=>by exact nFT h
 | _::_,[],h=>by exact nFT h
 | a::x,b::y,h=>by
  have h:cond (Nat.beq a b) (a3r x y) false=true:=h
  cases hb:Nat.beq a b with
  | false=>rw [hb] at h;exact nFT h
  | true=>rw [hb] at h;rw [beq_eq hb,natsEq_iff h]
theorem seq_eq {a b:Str} (h:seq a b=true):a=b:=by
 unfold seq at h
 cases hb:Nat.beq (codeOf a) (codeOf b) with
 | false=>rw [hb] at h;exact nFT h
 | true =>
  rw [hb] at h
  have:=natsEq_iff h
  cases a;cases b
  simp only [Str.mk.injEq]
  exact Array.toList_inj.mp this
theorem a0q {α:Type} {x y:Str} (v:α) (hxy:seq y x=false):∀ l:List (Str×α),lk y (put x v l)=lk y l
 | []=>by simp only [a6m,a7h,lk_n,lk_c,hxy,cond_false]
 | (z,u)::r=>by
  simp only [a6m,a7h]
  cases hs:seq x z with
  | true =>
   have:x=z:=seq_eq hs
   subst this
   simp only [cond_true,lk_n,lk_c,hxy,cond_false]
  | false =>
   simp only [cond_false,lk_n,lk_c]
   induction seq y z with
   | true=>rfl
   | false=>exact a0q v hxy r
noncomputable def isStr:Kind→Bool
 | .str3=>true
 | .strR _=>true
 | _=>false
noncomputable def a5h:Kind→Bool
 | .ref _=>true
 | _=>false
noncomputable def b1a:Kind→Str
 | .k17=>S "int"
 | .name=>S "name"
 | .arr=>S "array"
 | .dict=>S "dict"
 | .zero=>S "int"
 | .neg=>S "int"
 | .str3=>S "stream"
 | .strR _=>S "stream"
 | .ref _=>S "ref"
theorem kindX (kk:Kind):∀ (R:Type),IsoC (calX:CalG R) 21 426 [.d (enc kk)] (.str (b1a kk)):=fun R=>up fun m σ k=>by
 show a0g tabs (ev tabs (m+20)) (.d (.g 426)) [.d (enc kk)] σ k=_
 cases kk <;> kernel_rfl
theorem fd521:tabs.fn 521=some (fdOf 521):=by kernel_rfl
theorem run_w {R:Type} {ih:IH R} {fd:FnRec} {args:List V} {σ σ':St} {k:V→St→Option R} {ρ0 ρ:Loc} (h1:bindParams fd.params args fd.dflts []=some ρ0) (h2:a0s fd.scope.names ρ0 σ=(ρ,σ')) {r:Option R}
  (h:evSs ih fd.scope fd.body ρ σ' ⟨fun z0 σ=>k (.d .none) σ,k,fun z0 z0=>none,fun z0 z0=>none⟩=r):a0f ih fd args σ k=r:=by
 unfold a0f
 refine mS h1 ?_
 show evSs ih fd.scope fd.body (a0s fd.scope.names ρ0 σ).1 (a0s fd.scope.names ρ0 σ).2 _=_
 rw [h2]
 exact h
theorem nums_s {R:Type} {C:CalG R} {M:Nat} {K:KS R} {es:List (D×D)} {keys:List Int} (h:es.map Prod.fst=keys.map D.int) (hl:keys.length < 64) (e:Option Int) :
  (EV C (M+12)).s (fdOf 521).scope (stAt (fdOf 521).body 0) [(S "self",.d (a0m es e))] [] K=K.ret (.d (.lst ((sortI keys).map .int))) []:=by
 have hb:(keys.map D.int).length.blt 64=true:=by rw [bF];exact cJ.mpr hl
 conv=>lhs;whnf
 rewrite [h]
 refine cT hb ?_
 conv=>lhs;whnf
 rw [a0v]
theorem numsX {es:List (D×D)} {keys:List Int} (h:es.map Prod.fst=keys.map D.int) (hl:keys.length < 64) (e:Option Int):∀ (R:Type),IsoC (calX:CalG R) 13 521 [.d (a0m es e)] (.lst ((sortI keys).map .int)) :=
 iso_of (c:=0) (ds:=[a0m es e]) (by rfl) (by rfl) fd521 (by rfl) (by rfl) rfl (fun z0 z0 z0=>rfl) fun R M hM k =>
  run_w (ρ:=[(S "self",.d (a0m es e))]) (σ':=[]) rfl rfl ((congrArg (fun b=>evSs _ _ b _ _ _) (by kernel_rfl:(fdOf 521).body=[stAt (fdOf 521).body 0])).trans (a0j fun nx=>nums_s h hl e))
end Mine.Lw
end
section
set_option tactic.hygienic true
namespace Mine.Lw
open PySem
noncomputable def isIf (s:Stmt):Bool:=Nat.beq s.ctorIdx 12
noncomputable def a1j (s:Stmt):Expr:=if h:_ then Stmt.If.elim s h fun t z0 z0 z0=>t else .Constant .none 0 default
noncomputable def a1r (s:Stmt):List Stmt:=if h:_ then Stmt.If.elim s h fun z0 b z0 z0=>b else []
noncomputable def iElse (s:Stmt):List Stmt:=if h:_ then Stmt.If.elim s h fun z0 z0 o z0=>o else []
noncomputable def fTgt (s:Stmt):Expr:=if h:_ then Stmt.For.elim s h fun t z0 z0 z0 z0=>t else .Constant .none 0 default
noncomputable def a5u (s:Stmt):Expr:=if h:_ then Stmt.For.elim s h fun z0 t z0 z0 z0=>t else .Constant .none 0 default
noncomputable def fOr (s:Stmt):List Stmt:=if h:_ then Stmt.For.elim s h fun z0 z0 z0 o z0=>o else []
noncomputable def isFor (s:Stmt):Bool:=Nat.beq s.ctorIdx 9&&((fOr s).isEmpty && !a2a (a5u s))
theorem not_t {b:Bool} (h:(!b)=true):b=false:=by cases b <;> first | rfl | exact nFT h
noncomputable def fBody (s:Stmt):List Stmt:=if h:_ then Stmt.For.elim s h fun z0 z0 b z0 z0=>b else []
section
variable {R:Type} {C:CalG R} {n:Nat} {sc:Scope} {s:Stmt} {ρ:Loc} {σ σ':St} {K:KS R} {r:Option R}
theorem if_T (hs:isIf s=true) (h:∀ k,(EV C n).t sc (a1j s) ρ σ k=k true σ') (h2:evSs (EV C n) sc (a1r s) ρ σ' K=r):(EV C (n+1)).s sc s ρ σ K=r:=by
 revert h h2
 exact Stmt.If.elim (motive_2:=fun s=>(∀ k,(EV C n).t sc (a1j s) ρ σ k=k true σ')→evSs (EV C n) sc (a1r s) ρ σ' K=r→(EV C (n+1)).s sc s ρ σ K=r) s (cL hs) fun t b o p h h2=>(h _).trans h2
theorem if_F (hs:isIf s=true) (h:∀ k,(EV C n).t sc (a1j s) ρ σ k=k false σ') (h2:evSs (EV C n) sc (iElse s) ρ σ' K=r):(EV C (n+1)).s sc s ρ σ K=r:=by
 revert h h2
 exact Stmt.If.elim (motive_2:=fun s=>(∀ k,(EV C n).t sc (a1j s) ρ σ k=k false σ')→evSs (EV C n) sc (iElse s) ρ σ' K=r→(EV C (n+1)).s sc s ρ σ K=r) s (cL hs) fun t b o p h h2=>(h _).trans h2
theorem if_B {b:Bool} (hs:isIf s=true) (h:∀ k,(EV C n).t sc (a1j s) ρ σ k=k b σ') (h2:b=true→evSs (EV C n) sc (a1r s) ρ σ' K=r) (h3:b=false→evSs (EV C n) sc (iElse s) ρ σ' K=r):(EV C (n+1)).s sc s ρ σ K=r:=by
 induction b with
 | true=>exact if_T hs h (h2 rfl)
 | false=>exact if_F hs h (h3 rfl)
theorem for_wv {σ'':St} {v:V} {d:D} {xs:List D} (hs:isFor s=true) (h:∀ k,(EV C n).e sc (a5u s) ρ σ k=k v σ') (hv:∀ k:D→St→Option R,toD v σ' k=k d σ'') (hi:∀ k:List D→Option R,itemsOf d k=k xs) (h2:a1v sc (fTgt s) (evSs (EV C n) sc) (fBody s) xs ρ σ'' K=r):(EV C (n+1)).s sc s ρ σ K=r:=by
 have hb:=aA.mp hs
 have hc:=aA.mp hb.2
 revert hc h h2
 refine Stmt.For.elim (motive_2:=fun s=>(∀ k,(EV C n).e sc (a5u s) ρ σ k=k v σ')→a1v sc (fTgt s) (evSs (EV C n) sc) (fBody s) xs ρ σ'' K=r→(fOr s).isEmpty=true∧(!a2a (a5u s))=true→(EV C (n+1)).s sc s ρ σ K=r) s (cL hb.1) fun t it b o p h h2 hc => ?_
 have ho:o=[]:=bC.mp hc.1
 subst ho
 show (bif a2a it then none else (EV C n).e sc it ρ σ fun v σ=>toD v σ fun v σ=>itemsOf v fun xs=>a1v sc t (evSs (EV C n) sc) b xs ρ σ K)=r
 exact cF (not_t hc.2) ((h _).trans ((hv _).trans ((hi _).trans h2)))
theorem for_w {d:D} {xs:List D} (hs:isFor s=true) (h:∀ k,(EV C n).e sc (a5u s) ρ σ k=k (.d d) σ') (hi:∀ k:List D→Option R,itemsOf d k=k xs) (h2:a1v sc (fTgt s) (evSs (EV C n) sc) (fBody s) xs ρ σ' K=r):(EV C (n+1)).s sc s ρ σ K=r:=for_wv hs h (fun k=>rfl) hi h2
end
theorem a3y {R:Type} {ih:IH R} {fd:FnRec} {args:List V} {σ σ':St} {k:V→St→Option R} {ρ0 ρ:Loc} {l:List Stmt} (hb:fd.body=l) (h1:bindParams fd.params args fd.dflts []=some ρ0) (h2:a0s fd.scope.names ρ0 σ=(ρ,σ')) {r:Option R}
  (h:evSs ih fd.scope l ρ σ' ⟨fun z0 σ=>k (.d .none) σ,k,fun z0 z0=>none,fun z0 z0=>none⟩=r):a0f ih fd args σ k=r:=by
 subst hb
 exact run_w h1 h2 h
theorem a3a (q:Nat) {a c:Nat} {fd:FnRec} {args:List V} {ds:List D} {v:V} {σ':St} {x:D} (h1:Nat.beq a tabs.refused=false) (h2:tabs.cls a=none) (h3:tabs.fn a=some fd) (h4:Nat.beq a tabs.reader=false) (h5:Nat.beq a tabs.reader2=false) (hd:allD args=some ds)
  (hv:∀ (R:Type) (σ:St) (k:V→St→Option R),a4s (Nat.beq a 947) v σ' σ k=k (.d x) σ) (h:∀ (R:Type) (M:Nat),c≤M→∀ (k:V→St→Option R),a0f (EV calX (M+q)) fd args [] k=k v σ'):∀ (R:Type),IsoC (calX:CalG R) (c+q+1) a args x:=by
 intro R n hn σ k
 refine exa ?_ (exM (k:=q+1) hn);rintro M rfl hM
 show calX (M+q+1) a args σ k=_
 rewrite [a4n h1 h2 h3]
 refine Eq.trans (b5a h4 h5 hd) ?_
 exact (h R M hM _).trans (hv R σ k)
theorem for_go {R:Type} {sc:Scope} {t:Expr} {b:List Stmt} {body:List Stmt→Loc→St→KS R→Option R} (I:List D→Loc→St→Prop)
  (H:∀ d ds ρ σ,I (d::ds) ρ σ→∃ ρ' σ',I ds ρ' σ'∧∀ K:KS R,(∀ ρ σ,K.cont ρ σ=K.next ρ σ)→(a6l sc t d ρ σ fun ρ σ=>body b ρ σ K)=K.next ρ' σ')
  {ds:List D} {ρ:Loc} {σ:St} {K:KS R} {r:Option R} (h:I ds ρ σ) (fin:∀ ρ' σ',I [] ρ' σ'→K.next ρ' σ'=r):a1v sc t body b ds ρ σ K=r :=
 a6w I (fun d ds ρ σ h=>by
  refine exxa ?_ (H d ds ρ σ h);rintro ρ' σ' h1 h2
  exact ⟨ρ',σ',h1,fun nx rt=>h2 ⟨nx,rt,nx,fun z0 z0=>none⟩ fun z0 z0=>rfl⟩) h fin
theorem b1b {R:Type} {ih:IH R} {sc:Scope} {s:Stmt} {r:List Stmt} {ρ:Loc} {σ:St} {K:KS R} {x:Option R} (h:ih.s sc s ρ σ ⟨fun ρ σ=>evSs ih sc r ρ σ K,K.ret,K.cont,K.brk⟩=x):evSs ih sc (s::r) ρ σ K=x:=h
theorem b1c {R:Type} {C:CalG R} {n:Nat} {sc:Scope} {s:Stmt} {r:List Stmt} {ρ:Loc} {σ σ':St} {K:KS R} {d:D} {xs:List D} {x:Option R} (I:List D→Loc→St→Prop) (hs:isFor s=true) (h:∀ k,(EV C n).e sc (a5u s) ρ σ k=k (.d d) σ') (hi:∀ k:List D→Option R,itemsOf d k=k xs)
  (H:∀ d ds ρ σ,I (d::ds) ρ σ→∃ ρ' σ',I ds ρ' σ'∧∀ K:KS R,(∀ ρ σ,K.cont ρ σ=K.next ρ σ)→(a6l sc (fTgt s) d ρ σ fun ρ σ=>evSs (EV C n) sc (fBody s) ρ σ K)=K.next ρ' σ')
  (h0:I xs ρ σ') (fin:∀ ρ' σ',I [] ρ' σ'→evSs (EV C (n+1)) sc r ρ' σ' K=x):evSs (EV C (n+1)) sc (s::r) ρ σ K=x :=
 b1b (for_w hs h hi (for_go I H h0 fin))
noncomputable def a1t:Kind→Option Int
 | .strR r=>some r
 | _=>none
noncomputable def refs (keys:List Int) (kd:Int→Kind):List Int→List Int→List Int
 | [],acc=>acc
 | n::r,acc=>refs keys kd r (match a1t (kd n) with | some x=>if x∈acc then acc else acc++[x] | none=>acc)
theorem refs_n (keys:List Int) (kd:Int→Kind) (acc:List Int):refs keys kd [] acc=acc:=rfl
theorem refs_c (keys:List Int) (kd:Int→Kind) (n:Int) (r acc:List Int):refs keys kd (n::r) acc=refs keys kd r (match a1t (kd n) with | some x=>if x∈acc then acc else acc++[x] | none=>acc):=rfl
theorem lenRef_r (r:Int):a1t (.strR r)=some r:=rfl
end Mine.Lw
end
section
namespace Mine.Lw
open PySem
noncomputable abbrev b909:List Stmt:=(fdOf 909).body
noncomputable abbrev a5v:Scope:=(fdOf 909).scope
noncomputable def bs9 (es:List (D×D)) (e:Option Int) (tl:Loc):Loc:=(oS "shelf",.d (a0m es e))::(oS "found",.r 0)::tl
noncomputable def lenKd:Kind→D
 | .str3 => .int 3
 | .strR r=>refD r
 | _ => .none
noncomputable def f909:List Stmt:=fBody (stAt b909 1)
noncomputable def i909:List Stmt:=a1r (stAt f909 1)
section
variable {R:Type} {C:CalG R} {M:Nat} {K:KS R} {es:List (D×D)} {e:Option Int} {tl:Loc} {σ:St}
theorem lens_0:(EV C (M+12)).s a5v (stAt b909 0) [(oS "shelf",.d (a0m es e))] [] K=K.next (bs9 es e []) [.list []]:=by kernel_rfl
theorem lens_it {ks:List Int} (h:IsoC C M 521 [.d (a0m es e)] (.lst (ks.map .int))) (k:V→St→Option R):(EV C (M+12)).e a5v (a5u (stAt b909 1)) (bs9 es e tl) σ k=k (.d (.lst (ks.map .int))) σ:=by
 exact (h _ (by exact cN _ 11) _ _).trans rfl
theorem lens_a {n:Int} {x:D} {g:Int} (hn:lk (oS "number") (bs9 es e tl)=some (.d (.int n))) (hk:keysOk (.int n) es=true) (hh:dhas (.int n) es=true) (hg:a2k (.int n) es = .tup [.int g,x]) :
  (EV C (M+12)).s a5v (stAt f909 0) (bs9 es e tl) σ K=K.next (bs9 es e (put (oS "value") (.d x) tl)) σ:=by
 refine mS hn ?_
 refine cA hk ?_
 refine cT hh ?_
 refine mT hg ?_
 kernel_rfl
theorem lens_t {kk:Kind} (hv:lk (oS "value") (bs9 es e tl)=some (.d (enc kk))) (k:Bool→St→Option R) :
  (EV C (M+12)).t a5v (a1j (stAt f909 1)) (bs9 es e tl) σ k=k (isStr kk) σ:=by
 refine mS hv ?_
 cases kk <;> kernel_rfl
theorem lens_b {kk:Kind} (hs:isStr kk=true) (hv:lk (oS "value") (bs9 es e tl)=some (.d (enc kk))) :
  (EV C (M+12)).s a5v (stAt i909 0) (bs9 es e tl) σ K=K.next (bs9 es e (put (oS "length") (.d (lenKd kk)) tl)) σ:=by
 refine mS hv ?_
 cases kk <;> first | (cases hs;done) | kernel_rfl
theorem lens_t3 (hv:lk (oS "length") (bs9 es e tl)=some (.d (.int 3))) (k:Bool→St→Option R) :
  (EV C (M+12)).t a5v (a1j (stAt i909 1)) (bs9 es e tl) σ k=k false σ:=by
 refine mS hv ?_
 kernel_rfl
theorem lens_tr {r:Int} {fs:List Int} (hv:lk (oS "length") (bs9 es e tl)=some (.d (refD r))) (k:Bool→St→Option R) :
  (EV C (M+12)).t a5v (a1j (stAt i909 1)) (bs9 es e tl) [.list (fs.map .int)] k=k (!(fs.any fun j=>decide (j=r))) [.list (fs.map .int)]:=by
 have hi:memD (.int r) (fs.map .int)=some (fs.any fun j=>decide (j=r)):=by show anyOf (intsOf (fs.map D.int)) _=_;rw [a0v];rfl
 refine mS hv ?_
 refine mS hv ?_
 refine mQ hi ?_
 generalize (fs.any fun j=>decide (j=r))=b
 cases b <;> kernel_rfl
theorem lens_c {r:Int} {fs:List Int} (hv:lk (oS "length") (bs9 es e tl)=some (.d (refD r))) (hz:szOk (fs.map D.int).length=true) :
  (EV C (M+12)).s a5v (stAt (a1r (stAt i909 1)) 0) (bs9 es e tl) [.list (fs.map .int)] K=K.next (bs9 es e tl) [.list (fs.map .int++[.int r])]:=by
 refine mS hv ?_
 refine cT hz ?_
 kernel_rfl
theorem lens_r {fs:List Int} (hl:fs.length < 64):(EV C (M+12)).s a5v (stAt b909 2) (bs9 es e tl) [.list (fs.map .int)] K=K.ret (.d (.lst ((sortI fs).map .int))) [.list (fs.map .int)]:=by
 have hb:(fs.map D.int).length.blt 64=true:=by rw [bF];exact cJ.mpr hl
 refine cT hb ?_
 conv=>lhs;whnf
 rw [a0v]
theorem bs9_put (x:Str) (v:V) (h1:seq x (oS "shelf")=false) (h2:seq x (oS "found")=false):put x v (bs9 es e tl)=bs9 es e (put x v tl):=by
 unfold bs9
 simp only [a6m,a7h,h1,h2,cond_false]
theorem bs9_lk (x:Str) (h1:seq x (oS "shelf")=false) (h2:seq x (oS "found")=false):lk x (bs9 es e tl)=lk x tl:=by
 unfold bs9
 simp only [lk_n,lk_c,h1,h2,cond_false]
end
theorem fd909:tabs.fn 909=some (fdOf 909):=by kernel_rfl
theorem bd909:(fdOf 909).body=[stAt b909 0,stAt b909 1,stAt b909 2]:=by kernel_rfl
theorem bf909:fBody (stAt b909 1)=[stAt f909 0,stAt f909 1]:=by kernel_rfl
theorem bi909:a1r (stAt f909 1)=[stAt i909 0,stAt i909 1]:=by kernel_rfl
theorem bi909':a1r (stAt i909 1)=[stAt (a1r (stAt i909 1)) 0]:=by kernel_rfl
theorem lens_turn {R:Type} {C:CalG R} {M:Nat} {es:List (D×D)} {e:Option Int} {tl:Loc} {n g:Int} {kk:Kind} {fs:List Int} (hn:lk (oS "number") tl=some (.d (.int n))) (hk:keysOk (.int n) es=true) (hh:dhas (.int n) es=true) (hg:a2k (.int n) es = .tup [.int g,enc kk]) (hl:fs.length≤100) :
  ∃ tl',∀ K:KS R,(∀ ρ σ,K.cont ρ σ=K.next ρ σ)→evSs (EV C (M+20)) a5v f909 (bs9 es e tl) [.list (fs.map .int)] K=K.next (bs9 es e tl') [.list ((match a1t kk with | some x=>if x∈fs then fs else fs++[x] | none=>fs).map .int)]:=by
 have hn':lk (oS "number") (bs9 es e tl)=some (.d (.int n)):=(bs9_lk _ rfl rfl).trans hn
 have hz:szOk (fs.map D.int).length=true:=a0h (by rw [bF];lia)
 have hv:lk (oS "value") (bs9 es e (put (oS "value") (.d (enc kk)) tl))=some (.d (enc kk)):=(bs9_lk _ rfl rfl).trans (a0d _ _ _ rfl)
 have hL:∀ x t,lk (oS "length") (bs9 es e (put (oS "length") (.d x) t))=some (.d x):=fun x t=>(bs9_lk _ rfl rfl).trans (a0d _ _ _ rfl)
 have s0:=fun (K:KS R)=>lens_a (C:=C) (M:=M+8) (K:=K) (σ:=[.list (fs.map .int)]) hn' hk hh hg
 cases hs:isStr kk with
 | false =>
  have:a1t kk=none:=by cases kk <;> first | rfl | cases hs
  refine ⟨put (oS "value") (.d (enc kk)) tl,fun K hK => ?_⟩
  rw [f909,bf909]
  refine a0a (fun nx=>s0 _) (a0a (fun nx => ?_) rfl)
  rw [this]
  exact if_F rfl (fun k=>(lens_t (M:=M+7) hv k).trans (by rw [hs])) rfl
 | true =>
  refine ⟨put (oS "length") (.d (lenKd kk)) (put (oS "value") (.d (enc kk)) tl),fun K hK => ?_⟩
  rw [f909,bf909]
  refine a0a (fun nx=>s0 _) (a0a (fun nx => ?_) rfl)
  refine if_T rfl (fun k=>(lens_t (M:=M+7) hv k).trans (by rw [hs])) ?_
  rw [bi909]
  refine a0a (fun nx=>lens_b (M:=M+7) hs hv) (a0a (fun nx => ?_) rfl)
  cases kk <;> first | (cases hs;done) | skip
  ·exact if_F rfl (fun k=>lens_t3 (M:=M+6) (hL _ _) k) rfl
  ·rename_i r
   refine if_B rfl (fun k=>lens_tr (M:=M+6) (hL _ _) k) (fun hb => ?_) (fun hb => ?_)
   ·have hm:¬ r∈fs:=by
     intro hm
     have:(fs.any fun j=>decide (j=r))=true:=aH.mpr ⟨r,hm,by simp⟩
     rw [this] at hb;exact nFT hb
    rw [bi909']
    refine a0a (fun nx=>lens_c (M:=M+6) (hL _ _) hz) ?_
    simp only [lenRef_r,hm,if_false,bI,bK,List.map_nil]
    rfl
   ·have hm:r∈fs:=by
     have hb':(fs.any fun j=>decide (j=r))=true:=by simpa using hb
     refine exa ?_ (aH.mp hb');rintro x hx e
     have:=of_decide_eq_true e
     subst this;exact hx
    simp only [lenRef_r,hm,if_true]
    rfl
inductive I9 (es:List (D×D)) (e:Option Int) (keys:List Int) (kd:Int→Kind) (ds:List D):Loc→St→Prop
 | mk (tl:Loc) (fs xs:List Int):ds=xs.map D.int→refs keys kd xs fs=refs keys kd (sortI keys) []→(∀ x∈xs,x∈keys)→fs.length+xs.length≤90→I9 es e keys kd ds (bs9 es e tl) [O.list (fs.map .int)]
theorem lensX {es:List (D×D)} {keys:List Int} {gen:Int→Int} {kd:Int→Kind} (h:TabOk es keys gen kd) (hl:keys.length≤9) (e:Option Int):∀ (R:Type),IsoC (calX:CalG R) 60 909 [.d (a0m es e)] (.lst ((sortI (refs keys kd (sortI keys) [])).map .int)):=by
 have fl:∀ (xs acc:List Int),(refs keys kd xs acc).length≤acc.length+xs.length:=by
  intro xs
  induction xs with
  | nil=>intro acc;exact cQ _
  | cons x r ih =>
   intro acc
   refine cS (ih _) ?_
   induction a1t (kd x) with
   | none=>simp <;> omega
   | some y=>by_cases hm:y∈acc <;> simp [hm] <;> lia
 refine a3a 24 (c:=35) (ds:=[a0m es e]) (v := .d (.lst ((sortI (refs keys kd (sortI keys) [])).map .int))) (σ':=[.list ((refs keys kd (sortI keys) []).map .int)]) (by rfl) (by rfl) fd909 (by rfl) (by rfl) rfl (fun z0 z0 z0=>rfl) fun R M hM k => ?_
 refine a3y (ρ:=[(oS "shelf",.d (a0m es e))]) (σ':=[]) bd909 rfl rfl ?_
 refine a0a (fun nx=>lens_0 (M:=M+12)) (b1b ?_)
 refine for_w (xs:=(sortI keys).map .int) rfl (fun k=>lens_it (M:=M+11) (lift (by lia) (numsX h.fst (by lia) e R)) k) (fun k=>rfl) ?_
 refine for_go (I9 es e keys kd) ?_ (.mk [] [] (sortI keys) rfl rfl (fun x hx=>mem_sortI.mp hx) (by simp [a1n];lia)) ?_
 ·rintro d ds ρ σ q1_
  induction q1_ with | mk tl fs xs h1 h4 h5 h6 =>
  induction xs using aK with
  | nil=>exact nCN h1
  | cons x xs =>
   refine aE ?_ (aL.inj h1);rintro rfl rfl
   have hx:=h5 x (.head _)
   simp only [bE] at h6
   refine xE ?_ (lens_turn (R:=R) (C:=calX) (M:=M+3) (es:=es) (e:=e) (tl:=put (oS "number") (.d (.int x)) tl) (fs:=fs) (kk:=kd x) (a0d _ _ _ rfl) (a0t h.fst _) (by rw [a1z h.fst];exact decide_eq_true hx) (h.get x hx) (by lia));rintro tl' ht
   refine ⟨_,_,.mk tl' _ xs rfl h4 (fun y hy=>h5 y (.tail _ hy)) ?_,fun K hK => ?_⟩
   ·induction a1t (kd x) with
    | none=>simp <;> lia
    | some y=>by_cases hm:y∈fs <;> simp [hm] <;> lia
   ·refine Eq.trans ?_ (ht K hK)
    show putName a5v (oS "number") (.d (.int x)) (bs9 es e tl) _ (fun ρ σ=>evSs (EV calX (M+23)) a5v f909 ρ σ K)=_
    refine Eq.trans (b:=evSs (EV calX (M+23)) a5v f909 (put (oS "number") (.d (.int x)) (bs9 es e tl)) [.list (fs.map .int)] K) rfl ?_
    rw [bs9_put _ _ rfl rfl]
 ·rintro ρ σ q1_
  induction q1_ with | mk tl fs xs h1 h4 h5 h6 =>
  induction xs using aK with
  | cons x xs=>exact nNC h1
  | nil =>
   have h4:fs=refs keys kd (sortI keys) []:=h4
   subst h4
   dsimp only
   refine a0j fun nx => ?_
   exact lens_r (M:=M+12) (by have:=fl (sortI keys) [];rw [a1n] at this;simp at this;lia)
end Mine.Lw
end
section
namespace Mine.Lw
open PySem
noncomputable abbrev b902:List Stmt:=(fdOf 902).body
noncomputable abbrev sc902:Scope:=(fdOf 902).scope
noncomputable def ρ902 (n g:Int) (kk:Kind) (e:Option Int):Loc:=[(oS "number",.d (.int n)),(oS "generation",.d (.int g)),(oS "value",.d (enc kk)),(oS "trailer",.d (.dct (encL e)))]
noncomputable def ρ902' (n g:Int) (kk:Kind) (e:Option Int) (s:D):Loc:=[(oS "number",.d (.int n)),(oS "generation",.d (.int g)),(oS "value",.d (enc kk)),(oS "trailer",.d (.dct (encL e))),(oS "secret",.d s)]
noncomputable def secD:Option Int→D
 | none => .none
 | some r=>refD r
section
variable {R:Type} {C:CalG R} {M:Nat} {K:KS R} {e:Option Int} {σ:St} {n g:Int} {kk:Kind}
theorem may_t1 (hn:decide (n < 1)=false) (hg:deq (.int g) (.int 0)=false) (k:Bool→St→Option R):(EV C (M+12)).t sc902 (a1j (stAt b902 0)) (ρ902 n g kk e) σ k=k true σ:=by
 refine cF hn ?_
 conv=>lhs;whnf
 rw [hg]
 kernel_rfl
theorem may_t2 (hn:decide (n < 1)=false) (hc:IsoC C M 426 [.d (enc kk)] (.str (b1a kk))) (k:Bool→St→Option R):(EV C (M+12)).t sc902 (a1j (stAt b902 0)) (ρ902 n 0 kk e) σ k=k (isStr kk||a5h kk) σ:=by
 refine cF hn ?_
 refine (hc _ (by exact cN _ 9) _ _).trans ?_
 cases kk <;> kernel_rfl
theorem may_1:(EV C (M+12)).s sc902 (stAt b902 1) (ρ902 n g kk e) σ K=K.next (ρ902' n g kk e (secD e)) σ:=by
 cases e <;> kernel_rfl
theorem may_r:(EV C (M+12)).s sc902 (stAt (a1r (stAt b902 0)) 0) (ρ902 n g kk e) σ K=K.ret (.d (.bool false)) σ:=by
 kernel_rfl
theorem may_2n:(EV C (M+12)).s sc902 (stAt b902 2) (ρ902' n g kk e .none) σ K=K.ret (.d (.bool true)) σ:=by
 kernel_rfl
theorem may_2s {r:Int}:(EV C (M+12)).s sc902 (stAt b902 2) (ρ902' n g kk e (refD r)) σ K=K.ret (.d (.bool (!decide (r=n)))) σ:=by
 kernel_rfl
end
theorem fd902:tabs.fn 902=some (fdOf 902):=by kernel_rfl
theorem bd902:b902=[stAt b902 0,stAt b902 1,stAt b902 2]:=by kernel_rfl
theorem bi902:a1r (stAt b902 0)=[stAt (a1r (stAt b902 0)) 0]:=by kernel_rfl
noncomputable def mayB (n g:Int) (kk:Kind) (e:Option Int):Bool:=decide (g=0)&&(!(isStr kk||a5h kk) && !decide (e=some n))
theorem mayX (n g:Int) (hn:1≤n) (kk:Kind) (e:Option Int):∀ (R:Type),IsoC (calX:CalG R) 60 902 [.d (.int n),.d (.int g),.d (enc kk),.d (.dct (encL e))] (.bool (mayB n g kk e)):=by
 have hn':decide (n < 1)=false:=decide_eq_false (by lia)
 refine a3a 24 (c:=35) (ds:=[.int n,.int g,enc kk,.dct (encL e)]) (v := .d (.bool (mayB n g kk e))) (σ':=[]) (by rfl) (by rfl) fd902 (by rfl) (by rfl) rfl (fun z0 z0 z0=>rfl) fun R M hM k => ?_
 refine a3y (ρ:=ρ902 n g kk e) (σ':=[]) bd902 rfl rfl ?_
 by_cases hg:g=0
 ·subst hg
  cases hb:(isStr kk||a5h kk) with
  | true =>
   refine a0j fun nx=>if_T rfl (fun k=>(may_t2 (M:=M+11) hn' (lift (by lia) (kindX kk R)) k).trans (by rw [hb])) ?_
   rw [bi902]
   refine a0j fun nx=>may_r.trans ?_
   unfold mayB
   rw [hb];rfl
  | false =>
   refine a0a (fun nx=>if_F rfl (fun k=>(may_t2 (M:=M+11) hn' (lift (by lia) (kindX kk R)) k).trans (by rw [hb])) rfl) (a0a (fun nx=>may_1 (M:=M+12)) (a0j fun nx => ?_))
   induction e with
   | none =>
    refine (may_2n (M:=M+12)).trans ?_
    unfold mayB;rw [hb];rfl
   | some r =>
    refine (may_2s (M:=M+12)).trans ?_
    unfold mayB;rw [hb]
    by_cases hr:r=n <;> simp [hr]
 ·refine a0j fun nx=>if_T rfl (fun k=>may_t1 (M:=M+11) hn' (show decide (g=0)=false from decide_eq_false hg) k) ?_
  rw [bi902]
  refine a0j fun nx=>may_r.trans ?_
  unfold mayB
  simp [hg]
end Mine.Lw
end
section
namespace Mine.Lw
open PySem
noncomputable abbrev b916:List Stmt:=(fdOf 916).body
noncomputable abbrev a8y:Scope:=(fdOf 916).scope
noncomputable def bs6 (es:List (D×D)) (e:Option Int) (ls:List Int) (tl:Loc):Loc:=(oS "shelf",.d (a0m es e))::(oS "lengths",.d (.lst (ls.map .int)))::(oS "found",.r 0)::tl
noncomputable def f916:List Stmt:=fBody (stAt b916 2)
section
variable {R:Type} {C:CalG R} {M:Nat} {K:KS R} {es:List (D×D)} {e:Option Int} {tl:Loc} {σ:St} {ls:List Int}
theorem pk_0 (h:IsoC C M 909 [.d (a0m es e)] (.lst (ls.map .int))):(EV C (M+12)).s a8y (stAt b916 0) [(oS "shelf",.d (a0m es e))] [] K=K.next [(oS "shelf",.d (a0m es e)),(oS "lengths",.d (.lst (ls.map .int)))] []:=by
 refine (h _ (by exact cN _ 10) _ _).trans ?_
 kernel_rfl
theorem pk_1:(EV C (M+12)).s a8y (stAt b916 1) [(oS "shelf",.d (a0m es e)),(oS "lengths",.d (.lst (ls.map .int)))] [] K=K.next (bs6 es e ls []) [.list []]:=by
 kernel_rfl
theorem pk_it {ks:List Int} (h:IsoC C M 521 [.d (a0m es e)] (.lst (ks.map .int))) (k:V→St→Option R):(EV C (M+12)).e a8y (a5u (stAt b916 2)) (bs6 es e ls tl) σ k=k (.d (.lst (ks.map .int))) σ:=by
 exact (h _ (by exact cN _ 11) _ _).trans rfl
theorem pk_a {n:Int} {x:D} {g:Int} (hn:lk (oS "number") (bs6 es e ls tl)=some (.d (.int n))) (hk:keysOk (.int n) es=true) (hh:dhas (.int n) es=true) (hg:a2k (.int n) es = .tup [.int g,x]) :
  (EV C (M+12)).s a8y (stAt f916 0) (bs6 es e ls tl) σ K=K.next (bs6 es e ls (put (oS "value") (.d x) (put (oS "generation") (.d (.int g)) tl))) σ:=by
 refine mS hn ?_
 refine cA hk ?_
 refine cT hh ?_
 conv=>lhs;whnf
 rw [hg]
 kernel_rfl
theorem pk_t1 {n:Int} (hn:lk (oS "number") (bs6 es e ls tl)=some (.d (.int n))) (hb:(ls.any fun j=>decide (j=n))=true) (k:Bool→St→Option R) :
  (EV C (M+12)).t a8y (a1j (stAt f916 1)) (bs6 es e ls tl) σ k=k false σ:=by
 have hi:memD (.int n) (ls.map .int)=some true:=by show anyOf (intsOf (ls.map D.int)) _=_;rw [a0v,← hb];rfl
 refine mS hn ?_
 refine mQ hi ?_
 kernel_rfl
theorem pk_t2 {n g:Int} {kk:Kind} {b:Bool} (hn:lk (oS "number") (bs6 es e ls tl)=some (.d (.int n))) (hg:lk (oS "generation") (bs6 es e ls tl)=some (.d (.int g))) (hv:lk (oS "value") (bs6 es e ls tl)=some (.d (enc kk))) (hb:(ls.any fun j=>decide (j=n))=false)
  (hm:IsoC C M 902 [.d (.int n),.d (.int g),.d (enc kk),.d (.dct (encL e))] (.bool b)) (k:Bool→St→Option R) :
  (EV C (M+12)).t a8y (a1j (stAt f916 1)) (bs6 es e ls tl) σ k=k b σ:=by
 have hi:memD (.int n) (ls.map .int)=some false:=by show anyOf (intsOf (ls.map D.int)) _=_;rw [a0v,← hb];rfl
 refine mS hn ?_
 refine mQ hi ?_
 refine mS hn ?_
 refine mS hg ?_
 refine mS hv ?_
 refine (hm _ (by exact cN _ 9) _ _).trans ?_
 cases b <;> kernel_rfl
theorem pk_c {n:Int} {fs:List Int} (hn:lk (oS "number") (bs6 es e ls tl)=some (.d (.int n))) (hz:szOk (fs.map D.int).length=true) :
  (EV C (M+12)).s a8y (stAt (a1r (stAt f916 1)) 0) (bs6 es e ls tl) [.list (fs.map .int)] K=K.next (bs6 es e ls tl) [.list (fs.map .int++[.int n])]:=by
 refine mS hn ?_
 refine cT hz ?_
 kernel_rfl
theorem pk_r {fs:List Int}:(EV C (M+12)).s a8y (stAt b916 3) (bs6 es e ls tl) [.list (fs.map .int)] K=K.ret (.r 0) [.list (fs.map .int)]:=by
 kernel_rfl
theorem bs6_put (x:Str) (v:V) (h1:seq x (oS "shelf")=false) (h2:seq x (oS "found")=false) (h3:seq x (oS "lengths")=false):put x v (bs6 es e ls tl)=bs6 es e ls (put x v tl):=by
 unfold bs6
 simp only [a6m,a7h,h1,h2,h3,cond_false]
theorem bs6_lk (x:Str) (h1:seq x (oS "shelf")=false) (h2:seq x (oS "found")=false) (h3:seq x (oS "lengths")=false):lk x (bs6 es e ls tl)=lk x tl:=by
 unfold bs6
 simp only [lk_n,lk_c,h1,h2,h3,cond_false]
end
theorem fd916:tabs.fn 916=some (fdOf 916):=by kernel_rfl
theorem bd916:b916=[stAt b916 0,stAt b916 1,stAt b916 2,stAt b916 3]:=by kernel_rfl
theorem bf916:fBody (stAt b916 2)=[stAt f916 0,stAt f916 1]:=by kernel_rfl
theorem bi916:a1r (stAt f916 1)=[stAt (a1r (stAt f916 1)) 0]:=by kernel_rfl
noncomputable def pkB (keys:List Int) (kd:Int→Kind) (gen:Int→Int) (e:Option Int) (n:Int):Bool := !((refs keys kd (sortI keys) []).any fun j=>decide (j=n))&&mayB n (gen n) (kd n) e
theorem b3j (p:Int→Bool) (l:List Int):(sortI l).any p=l.any p:=by
 rw [aB,aH,aH]
 exact ⟨fun ⟨x,h,e⟩=>⟨x,mem_sortI.mp h,e⟩,fun ⟨x,h,e⟩=>⟨x,mem_sortI.mpr h,e⟩⟩
theorem pk_turn {R:Type} {M:Nat} (hM:60≤M) {es:List (D×D)} {keys:List Int} {gen:Int→Int} {kd:Int→Kind} (h:TabOk es keys gen kd) (e:Option Int) {tl:Loc} {n:Int} {fs:List Int} (hx:n∈keys) (hn:lk (oS "number") tl=some (.d (.int n))) (hl:fs.length≤100) :
  ∃ tl',∀ K:KS R,(∀ ρ σ,K.cont ρ σ=K.next ρ σ)→evSs (EV calX (M+20)) a8y f916 (bs6 es e (sortI (refs keys kd (sortI keys) [])) tl) [.list (fs.map .int)] K=K.next (bs6 es e (sortI (refs keys kd (sortI keys) [])) tl') [.list ((fs++[n].filter (pkB keys kd gen e)).map .int)]:=by
 have hz:szOk (fs.map D.int).length=true:=a0h (by rw [bF];lia)
 have hn':lk (oS "number") (bs6 es e (sortI (refs keys kd (sortI keys) [])) tl)=some (.d (.int n)):=(bs6_lk _ rfl rfl rfl).trans hn
 refine ⟨put (oS "value") (.d (enc (kd n))) (put (oS "generation") (.d (.int (gen n))) tl),fun K hK => ?_⟩
 have hn2:lk (oS "number") (bs6 es e (sortI (refs keys kd (sortI keys) [])) (put (oS "value") (.d (enc (kd n))) (put (oS "generation") (.d (.int (gen n))) tl)))=some (.d (.int n)):=by
  rw [bs6_lk _ rfl rfl rfl,a0q _ rfl,a0q _ rfl,hn]
 have hg2:lk (oS "generation") (bs6 es e (sortI (refs keys kd (sortI keys) [])) (put (oS "value") (.d (enc (kd n))) (put (oS "generation") (.d (.int (gen n))) tl)))=some (.d (.int (gen n))):=by
  rw [bs6_lk _ rfl rfl rfl,a0q _ rfl,a0d _ _ _ rfl]
 have hv2:lk (oS "value") (bs6 es e (sortI (refs keys kd (sortI keys) [])) (put (oS "value") (.d (enc (kd n))) (put (oS "generation") (.d (.int (gen n))) tl)))=some (.d (enc (kd n))):=by
  rw [bs6_lk _ rfl rfl rfl,a0d _ _ _ rfl]
 rw [f916,bf916]
 refine a0a (fun nx=>pk_a (M:=M+8) hn' (a0t h.fst _) (by rw [a1z h.fst];exact decide_eq_true hx) (h.get n hx)) (a0a (fun nx => ?_) rfl)
 have hany:=b3j (fun j=>decide (j=n)) (refs keys kd (sortI keys) [])
 cases hb:((refs keys kd (sortI keys) []).any fun j=>decide (j=n)) with
 | true =>
  have hp:pkB keys kd gen e n=false:=by unfold pkB;rw [hb];rfl
  rw [hb] at hany
  refine if_F rfl (fun k=>pk_t1 (M:=M+7) hn2 hany k) ?_
  rw [aP,hp]
  simp only [List.filter_nil,aJ,Bool.false_eq_true,if_false]
  rfl
 | false =>
  have hp:pkB keys kd gen e n=mayB n (gen n) (kd n) e:=by unfold pkB;rw [hb];rfl
  rw [hb] at hany
  refine if_B rfl (fun k=>pk_t2 (M:=M+7) hn2 hg2 hv2 hany (lift (by exact Mine.le_up ‹_›) (mayX n (gen n) (h.rng n hx).1 (kd n) e R)) k) (fun hm => ?_) (fun hm => ?_)
  ·rw [bi916]
   refine a0a (fun nx=>pk_c (M:=M+7) hn2 hz) ?_
   rw [aP,hp,hm]
   simp only [List.filter_nil,if_true,bI,bK,List.map_nil]
   rfl
  ·rw [aP,hp,hm]
   simp only [List.filter_nil,aJ,Bool.false_eq_true,if_false]
   rfl
inductive I6 (es:List (D×D)) (e:Option Int) (keys:List Int) (kd:Int→Kind) (gen:Int→Int) (ds:List D):Loc→St→Prop
 | mk (tl:Loc) (fs xs:List Int):ds=xs.map D.int→fs++xs.filter (pkB keys kd gen e)=(sortI keys).filter (pkB keys kd gen e)→(∀ x∈xs,x∈keys)→fs.length+xs.length≤90→I6 es e keys kd gen ds (bs6 es e (sortI (refs keys kd (sortI keys) [])) tl) [O.list (fs.map .int)]
theorem packX {es:List (D×D)} {keys:List Int} {gen:Int→Int} {kd:Int→Kind} (h:TabOk es keys gen kd) (hl:keys.length≤9) (e:Option Int):∀ (R:Type),IsoC (calX:CalG R) 100 916 [.d (a0m es e)] (.lst (((sortI keys).filter (pkB keys kd gen e)).map .int)):=by
 refine a3a 24 (c:=75) (ds:=[a0m es e]) (v := .r 0) (σ':=[.list (((sortI keys).filter (pkB keys kd gen e)).map .int)]) (by rfl) (by rfl) fd916 (by rfl) (by rfl) rfl (fun z0 z0 z0=>rfl) fun R M hM k => ?_
 refine a3y (ρ:=[(oS "shelf",.d (a0m es e))]) (σ':=[]) bd916 rfl rfl ?_
 refine a0a (fun nx=>pk_0 (M:=M+12) (lift (by lia) (lensX h hl e R))) (a0a (fun nx=>pk_1 (M:=M+12)) ?_)
 refine b1c (n:=M+23) (xs:=(sortI keys).map .int) (I6 es e keys kd gen) rfl (fun k=>pk_it (M:=M+11) (lift (by lia) (numsX h.fst (by lia) e R)) k) (fun k=>rfl) ?_ (.mk [] [] (sortI keys) rfl rfl (fun x hx=>mem_sortI.mp hx) (by simp [a1n];lia)) ?_
 ·rintro d ds ρ σ q1_
  induction q1_ with | mk tl fs xs h1 h4 h5 h6 =>
  induction xs using aK with
  | nil=>exact nCN h1
  | cons x xs =>
   refine aE ?_ (aL.inj h1);rintro rfl rfl
   simp only [bE] at h6
   refine xE ?_ (pk_turn (R:=R) (M:=M+3) (by lia) h e (tl:=put (oS "number") (.d (.int x)) tl) (fs:=fs) (h5 x (.head _)) (a0d _ _ _ rfl) (by lia));rintro tl' ht
   refine ⟨_,_,.mk tl' (fs++[x].filter (pkB keys kd gen e)) xs rfl ?_ (fun y hy=>h5 y (.tail _ hy)) ?_,fun K hK => ?_⟩
   ·rw [← h4,aI,← List.filter_append];rfl
   ·have:=List.length_filter_le (pkB keys kd gen e) [x]
    simp only [bD,bE,List.length_nil] at this ⊢
    lia
   ·refine Eq.trans ?_ (ht K hK)
    refine Eq.trans (b:=evSs (EV calX (M+23)) a8y f916 (put (oS "number") (.d (.int x)) (bs6 es e (sortI (refs keys kd (sortI keys) [])) tl)) [.list (fs.map .int)] K) rfl ?_
    rw [bs6_put _ _ rfl rfl rfl]
 ·rintro ρ σ q1_
  induction q1_ with | mk tl fs xs h1 h4 h5 h6 =>
  induction xs using aK with
  | cons x xs=>exact nNC h1
  | nil =>
   simp only [List.filter_nil,aJ] at h4
   subst h4
   exact a0j fun nx=>pk_r (M:=M+12)
end Mine.Lw
end
section
namespace Mine.Lw
open PySem
theorem for_any {R:Type} {sc:Scope} {t:Expr} {b:List Stmt} {body:List Stmt→Loc→St→KS R→Option R} {σ:St} {v:V} (I:Loc→Prop) (p:D→Bool) :
  ∀ ds:List D,(∀ d∈ds,∀ ρ,I ρ→∃ ρ',I ρ'∧∀ K:KS R,(∀ ρ σ,K.cont ρ σ=K.next ρ σ)→(a6l sc t d ρ σ fun ρ σ=>body b ρ σ K)=bif p d then K.ret v σ else K.next ρ' σ) →
  ∀ ρ (K:KS R),I ρ→∃ ρ',I ρ'∧a1v sc t body b ds ρ σ K=bif ds.any p then K.ret v σ else K.next ρ' σ
 | [],_,ρ,K,h=>⟨ρ,h,rfl⟩
 | d::ds,H,ρ,K,h=>by
  refine exa ?_ (H d (.head _) ρ h);rintro ρ1 h1 h2
  refine exa ?_ (for_any I p ds (fun d hd=>H d (.tail _ hd)) ρ1 K h1);rintro ρ2 h3 h4
  refine ⟨ρ2,h3,(h2 ⟨fun ρ σ=>a1v sc t body b ds ρ σ K,K.ret,fun ρ σ=>a1v sc t body b ds ρ σ K,fun z0 z0=>none⟩ fun z0 z0=>rfl).trans ?_⟩
  rw [aG]
  induction p d with
  | true=>rfl
  | false =>
   refine Eq.trans (b:=a1v sc t body b ds ρ1 σ K) rfl ?_
   refine Eq.trans h4 ?_
   rw [Bool.false_or]
theorem for_any_e {R:Type} {sc:Scope} {t:Expr} {b:List Stmt} {body:List Stmt→Loc→St→KS R→Option R} {σ:St} {v:V} (I:Loc→Prop) (p:D→Bool) {ds:List D} {ρ:Loc} {K:KS R} {r:Option R} (h:I ρ)
  (hT:ds.any p=true→K.ret v σ=r) (hF:ds.any p=false→∀ ρ',I ρ'→K.next ρ' σ=r)
  (H:∀ d∈ds,∀ ρ,I ρ→∃ ρ',I ρ'∧∀ K:KS R,(∀ ρ σ,K.cont ρ σ=K.next ρ σ)→(a6l sc t d ρ σ fun ρ σ=>body b ρ σ K)=bif p d then K.ret v σ else K.next ρ' σ):a1v sc t body b ds ρ σ K=r:=by
 refine exa ?_ (for_any I p ds H ρ K h);rintro ρ' h1 h2
 refine Eq.trans h2 ?_
 cases hb:ds.any p with
 | true=>exact hT hb
 | false=>exact hF hb ρ' h1
noncomputable abbrev b968:List Stmt:=(fdOf 968).body
noncomputable abbrev a8n:Scope:=(fdOf 968).scope
noncomputable def bs8 (es:List (D×D)) (e:Option Int) (n g:Int) (x:D) (tl:Loc):Loc:=(oS "shelf",.d (a0m es e))::(oS "number",.d (.int n))::(oS "generation",.d (.int g))::(oS "value",.d x)::tl
noncomputable def f968:List Stmt:=fBody (stAt b968 2)
section
variable {R:Type} {C:CalG R} {M:Nat} {K:KS R} {es:List (D×D)} {e:Option Int} {tl:Loc} {σ:St} {n g:Int} {x:D} {kk:Kind}
theorem is_0 (hk:keysOk (.int n) es=true) (hh:dhas (.int n) es=true) (hg:a2k (.int n) es = .tup [.int g,x]) :
  (EV C (M+12)).s a8n (stAt b968 0) [(oS "shelf",.d (a0m es e)),(oS "number",.d (.int n))] σ K=K.next (bs8 es e n g x []) σ:=by
 refine cA hk ?_
 refine cT hh ?_
 conv=>lhs;whnf
 rw [hg]
 kernel_rfl
theorem is_t1 (hg:deq (.int g) (.int 0)=false) (k:Bool→St→Option R):(EV C (M+12)).t a8n (a1j (stAt b968 1)) (bs8 es e n g x tl) σ k=k true σ:=by
 conv=>lhs;whnf
 rw [hg]
 kernel_rfl
theorem is_t2 (k:Bool→St→Option R):(EV C (M+12)).t a8n (a1j (stAt b968 1)) (bs8 es e n 0 (enc kk) tl) σ k=k (isStr kk||a5h kk) σ:=by
 cases kk <;> kernel_rfl
theorem is_ret:(EV C (M+12)).s a8n (stAt (a1r (stAt b968 1)) 0) (bs8 es e n g x tl) σ K=K.ret (.d (.bool false)) σ:=by kernel_rfl
theorem is_it (k:V→St→Option R):(EV C (M+12)).e a8n (a5u (stAt b968 2)) (bs8 es e n g x tl) σ k=k (.d (.dct es)) σ:=by kernel_rfl
theorem is_a {o g':Int} {y:D} (ho:lk (oS "other") (bs8 es e n g x tl)=some (.d (.int o))) (hk:keysOk (.int o) es=true) (hh:dhas (.int o) es=true) (hg:a2k (.int o) es = .tup [.int g',y]) :
  (EV C (M+12)).s a8n (stAt f968 0) (bs8 es e n g x tl) σ K=K.next (bs8 es e n g x (put (oS "stream") (.d y) tl)) σ:=by
 refine mS ho ?_
 refine cA hk ?_
 refine cT hh ?_
 refine mT hg ?_
 kernel_rfl
theorem is_t3 (hv:lk (oS "stream") (bs8 es e n g x tl)=some (.d (enc kk))) (k:Bool→St→Option R):(EV C (M+12)).t a8n (a1j (stAt f968 1)) (bs8 es e n g x tl) σ k=k (decide (a1t kk=some n)) σ:=by
 induction kk with
 | strR r =>
  have hd:decide (a1t (.strR r)=some n)=deq (.int r) (.int n):=by
   show decide (some r=some n)=decide (r=n)
   by_cases h:r=n <;> simp [h]
  rw [hd]
  refine mS hv ?_
  refine mS hv ?_
  refine mS hv ?_
  conv=>lhs;whnf
  generalize deq (.int r) (.int n)=b
  cases b <;> kernel_rfl
 | str3 =>
  refine mS hv ?_
  refine mS hv ?_
  kernel_rfl
 | _ =>
  refine mS hv ?_
  kernel_rfl
theorem is_ret2:(EV C (M+12)).s a8n (stAt (a1r (stAt f968 1)) 0) (bs8 es e n g x tl) σ K=K.ret (.d (.bool false)) σ:=by kernel_rfl
theorem is_3:(EV C (M+12)).s a8n (stAt b968 3) (bs8 es e n g x tl) σ K=K.next (bs8 es e n g x (put (oS "secret") (.d (secD e)) tl)) σ:=by
 cases e <;> kernel_rfl
theorem is_4 (hs:lk (oS "secret") (bs8 es e n g x tl)=some (.d (secD e))):(EV C (M+12)).s a8n (stAt b968 4) (bs8 es e n g x tl) σ K=K.ret (.d (.bool (!decide (e=some n)))) σ:=by
 induction e with
 | none =>
  refine mS hs ?_
  kernel_rfl
 | some r =>
  have hd:decide (some r=some n)=deq (.int r) (.int n):=by
   show decide (some r=some n)=decide (r=n)
   by_cases h:r=n <;> simp [h]
  rw [hd]
  refine mS hs ?_
  refine mS hs ?_
  kernel_rfl
theorem bs8_put (y:Str) (v:V) (h1:seq y (oS "shelf")=false) (h2:seq y (oS "number")=false) (h3:seq y (oS "generation")=false) (h4:seq y (oS "value")=false):put y v (bs8 es e n g x tl)=bs8 es e n g x (put y v tl):=by
 unfold bs8
 simp only [a6m,a7h,h1,h2,h3,h4,cond_false]
theorem bs8_lk (y:Str) (h1:seq y (oS "shelf")=false) (h2:seq y (oS "number")=false) (h3:seq y (oS "generation")=false) (h4:seq y (oS "value")=false):lk y (bs8 es e n g x tl)=lk y tl:=by
 unfold bs8
 simp only [lk_n,lk_c,h1,h2,h3,h4,cond_false]
end
theorem fd968:tabs.fn 968=some (fdOf 968):=by kernel_rfl
theorem bd968:b968=[stAt b968 0,stAt b968 1,stAt b968 2,stAt b968 3,stAt b968 4]:=by kernel_rfl
theorem bf968:fBody (stAt b968 2)=[stAt f968 0,stAt f968 1]:=by kernel_rfl
theorem bi968:a1r (stAt f968 1)=[stAt (a1r (stAt f968 1)) 0]:=by kernel_rfl
theorem bi968':a1r (stAt b968 1)=[stAt (a1r (stAt b968 1)) 0]:=by kernel_rfl
noncomputable def isB (keys:List Int) (kd:Int→Kind) (gen:Int→Int) (e:Option Int) (n:Int):Bool:=(decide (gen n=0) && !(isStr (kd n)||a5h (kd n)))&&(!(keys.any fun o=>decide (a1t (kd o)=some n)) && !decide (e=some n))
noncomputable def oKey (kd:Int→Kind) (n:Int):D→Bool
 | .int o=>decide (a1t (kd o)=some n)
 | _=>false
theorem b1d (kd:Int→Kind) (n:Int):∀ keys:List Int,(keys.map D.int).any (oKey kd n)=keys.any fun o=>decide (a1t (kd o)=some n)
 | []=>rfl
 | a::r=>by simp only [bK,aG,b1d kd n r];rfl
theorem isX {es:List (D×D)} {keys:List Int} {gen:Int→Int} {kd:Int→Kind} (h:TabOk es keys gen kd) (e:Option Int) {n:Int} (hn:n∈keys):∀ (R:Type),IsoC (calX:CalG R) 100 968 [.d (a0m es e),.d (.int n)] (.bool (isB keys kd gen e n)):=by
 refine a3a 24 (c:=75) (ds:=[a0m es e,.int n]) (v := .d (.bool (isB keys kd gen e n))) (σ':=[]) (by rfl) (by rfl) fd968 (by rfl) (by rfl) rfl (fun z0 z0 z0=>rfl) fun R M hM k => ?_
 refine a3y (ρ:=[(oS "shelf",.d (a0m es e)),(oS "number",.d (.int n))]) (σ':=[]) bd968 rfl rfl ?_
 refine a0a (fun nx=>is_0 (M:=M+12) (a0t h.fst _) (by rw [a1z h.fst];exact decide_eq_true hn) (h.get n hn)) ?_
 by_cases hg:gen n=0
 ·rw [hg]
  cases hb:(isStr (kd n)||a5h (kd n)) with
  | true =>
   have hr:isB keys kd gen e n=false:=by unfold isB;rw [hb];simp
   rw [hr]
   refine a0j fun nx=>if_T rfl (fun k=>(is_t2 (M:=M+11) k).trans (by rw [hb])) ?_
   rw [bi968']
   exact a0j fun nx=>is_ret
  | false =>
   have hr:isB keys kd gen e n=(!(keys.any fun o=>decide (a1t (kd o)=some n)) && !decide (e=some n)):=by unfold isB;rw [hb,hg];simp
   rw [hr]
   refine a0a (fun nx=>if_F rfl (fun k=>(is_t2 (M:=M+11) k).trans (by rw [hb])) rfl) (b1b ?_)
   refine for_w (xs:=keys.map .int) rfl (fun k=>is_it (M:=M+11) k) (fun k=>(show k (es.map Prod.fst)=_ by rw [h.fst])) ?_
   refine for_any_e (v := .d (.bool false)) (fun ρ=>∃ tl,ρ=bs8 es e n 0 (enc (kd n)) tl) (oKey kd n) ⟨[],rfl⟩ (fun hT => ?_) (fun hF => ?_) ?_
   ·rw [b1d] at hT
    rw [hT];rfl
   ·rw [b1d] at hF
    rintro ρ' q1_
    revert q1_;refine xE ?_;rintro tl rfl
    rw [hF]
    dsimp only
    refine a0a (fun nx=>is_3 (M:=M+12)) (a0j fun nx => ?_)
    exact is_4 (M:=M+12) ((bs8_lk _ rfl rfl rfl rfl).trans (a0d _ _ _ rfl))
   ·rintro d hd ρ q1_
    revert q1_;refine xE ?_;rintro tl rfl
    refine exa ?_ (bT.mp hd);rintro o ho rfl
    refine ⟨_,⟨put (oS "stream") (.d (enc (kd o))) (put (oS "other") (.d (.int o)) tl),rfl⟩,fun K hK => ?_⟩
    refine Eq.trans (b:=evSs (EV calX (M+23)) a8n f968 (put (oS "other") (.d (.int o)) (bs8 es e n 0 (enc (kd n)) tl)) [] K) rfl ?_
    rw [bs8_put _ _ rfl rfl rfl rfl,f968,bf968]
    refine a0a (fun nx=>is_a (M:=M+11) ((bs8_lk _ rfl rfl rfl rfl).trans (a0d _ _ _ rfl)) (a0t h.fst _) (by rw [a1z h.fst];exact decide_eq_true ho) (h.get o ho)) ?_
    have hs:lk (oS "stream") (bs8 es e n 0 (enc (kd n)) (put (oS "stream") (.d (enc (kd o))) (put (oS "other") (.d (.int o)) tl)))=some (.d (enc (kd o))):=(bs8_lk _ rfl rfl rfl rfl).trans (a0d _ _ _ rfl)
    show _=bif decide (a1t (kd o)=some n) then _ else _
    cases hd:decide (a1t (kd o)=some n) with
    | true =>
     refine a0j fun nx=>if_T rfl (fun k=>(is_t3 (M:=M+10) hs k).trans (by rw [hd])) ?_
     rw [bi968]
     exact a0j fun nx=>is_ret2
    | false =>
     exact a0a (fun nx=>if_F rfl (fun k=>(is_t3 (M:=M+10) hs k).trans (by rw [hd])) rfl) rfl
 ·have hr:isB keys kd gen e n=false:=by unfold isB;simp [hg]
  rw [hr]
  refine a0j fun nx=>if_T rfl (fun k=>is_t1 (M:=M+11) (show decide (gen n=0)=false from decide_eq_false hg) k) ?_
  rw [bi968']
  exact a0j fun nx=>is_ret
end Mine.Lw
end
section
namespace Mine.Lw
open PySem
theorem a8o {R:Type} {ih:IH R} {sc:Scope} {s:Stmt} {ρ:Loc} {σ:St} {K:KS R} (hs:((forLam? s).isNone&&(refIf? s).isNone)=true):a1b ih sc s ρ σ K=ih.s sc s ρ σ K:=by
 have h:=aA.mp hs
 unfold a1b
 rw [Option.isNone_iff_eq_none.mp h.1,Option.isNone_iff_eq_none.mp h.2]
 rfl
theorem a4o:∀ b:List Nat,a3r b b=true
 | []=>rfl
 | a::x=>cT (Nat.beq_refl a) (a4o x)
noncomputable def plain:Nat→D→Bool
 | 0,_=>false
 | n+1,x=>match x with
  | .int _=>true
  | .str _=>true
  | .tup a=>a.all (plain n)
  | .lst a=>a.all (plain n)
  | .bytes _=>true
  | _=>false
theorem b1e {p:D→Bool} {g:D→D→Bool} (hp:∀ x,p x=true→g x x=true∧deq x x=true):∀ l:List D,l.all p=true→a1o g l l=true∧deqs l l=true
 | [],_=>⟨rfl,rfl⟩
 | a::r,h=>by
  have h:(p a&&r.all p)=true:=h
  have ⟨h1,h2⟩:=hp a (aA.mp h).1
  have ⟨h3,h4⟩:=b1e hp r (aA.mp h).2
  refine ⟨?_,?_⟩
  ·exact cT h1 h3
  ·exact cT h2 h4
theorem a2j:∀ (n:Nat) (x:D),plain n x=true→a1l n x x=true∧deq x x=true
 | 0,_,h=>nomatch h
 | n+1,x,h=>by
  induction x using D.casesOn with
  | int i=>exact ⟨rfl,decide_eq_true rfl⟩
  | str s=>exact ⟨rfl,by show seq s s=true;unfold seq;rw [Nat.beq_refl];exact a4o _⟩
  | bytes b=>exact ⟨rfl,a4o b⟩
  | tup a=>exact b1e (a2j n) a h
  | lst a=>exact b1e (a2j n) a h
  | _=>exact nomatch h
theorem a5w (n:Nat):∀ l:List Int,(l.map D.int).all (plain (n+1))=true
 | []=>rfl
 | _::r=>a5w n r
theorem a2c (l:List Int):a1l 60 (.lst (l.map D.int)) (.lst (l.map D.int))=true:=(a2j 60 (.lst (l.map D.int)) (a5w 58 l)).1
theorem a5i (l:List Int):deq (.lst (l.map D.int)) (.lst (l.map D.int))=true:=(a2j 60 (.lst (l.map D.int)) (a5w 58 l)).2
noncomputable def ρ4 (ns:List Int) (t n:Int) (nums:List Int):Loc:=[(S "script",.d (.lst (ns.map .int))),(S "table",.r 0),(S "shelf",.r 1),(S "back",.r 2),(S "pen",.r 3),(S "turn",.d (.int t)),(S "number",.d (.int n)),(S "numbers",.d (.lst (nums.map .int)))]
noncomputable def ρ6 (ns:List Int) (t n:Int) (nums:List Int) (most:Int):Loc:=[(S "script",.d (.lst (ns.map .int))),(S "table",.r 0),(S "shelf",.r 1),(S "back",.r 2),(S "pen",.r 3),(S "turn",.d (.int t)),(S "number",.d (.int n)),(S "numbers",.d (.lst (nums.map .int))),(S "most",.d (.int most))]
noncomputable def ρ7 (ns:List Int) (t n:Int) (nums:List Int) (most:Int) (gs:List (List Int)):Loc:=[(S "script",.d (.lst (ns.map .int))),(S "table",.r 0),(S "shelf",.r 1),(S "back",.r 2),(S "pen",.r 3),(S "turn",.d (.int t)),(S "number",.d (.int n)),(S "numbers",.d (.lst (nums.map .int))),(S "most",.d (.int most)),(S "groups",.d (.lst (gs.map fun g => .lst (g.map .int))))]
noncomputable def fB (p:Int→Bool):D→Option D
 | .int n=>bif p n then some (.int n) else none
 | _=>none
theorem a3z (p:Int→Bool):∀ l:List Int,(l.map D.int).filterMap (fB p)=(l.filter p).map D.int
 | []=>rfl
 | a::r=>by
  have:fB p (.int a)=bif p a then some (.int a) else none:=rfl
  rewrite [bK]
  refine Eq.trans aO ?_
  rw [aP,this]
  induction p a with
  | true=>simp [a3z p r]
  | false=>simp [a3z p r]
section
variable {R:Type} {C:CalG R} {M:Nat} {K:KS R} {es:List (D×D)} {e:Option Int} {P P1:List D} {ns nums:List Int} {t n most:Int}
theorem st4_w (h:IsoC C M 916 [.d (a0m es e)] (.lst (nums.map .int))):a1b (EV C (M+13)) a0o (a0u 4) (ρ1 ns t n) (σ3 P es e) K=K.next (ρ4 ns t n nums) (σ3 P es e):=by
 refine (h _ (by exact cN _ 11) _ _).trans ?_
 kernel_rfl
theorem st5_t {keys:List Int} {p:Int→Bool} (hf:es.map Prod.fst=keys.map D.int) (hl:keys.length < 64) (hn:nums=(sortI keys).filter p) (hI:∀ n∈keys,IsoC C M 968 [.d (a0m es e),.d (.int n)] (.bool (p n))) (k:Bool→St→Option R) :
  (EV C (M+12)).t a0o (a1j (a0u 5)) (ρ4 ns t n nums) (σ3 P es e) k=k false (σ3 P es e):=by
 have hb:(keys.map D.int).length.blt 64=true:=by rw [bF];exact cJ.mpr hl
 conv=>lhs;whnf
 rewrite [hf]
 refine cT hb ?_
 conv=>lhs;whnf
 rw [a0v]
 conv=>lhs;whnf
 rw [a1h (fB p) _ _ _ (by
  intro d hd acc k' hl
  refine exa ?_ (bT.mp hd);rintro o ho rfl
  have hz:szOk acc.length=true:=a0h (by lia)
  refine (hI o (mem_sortI.mp ho) _ (by exact cN _ 8) _ _).trans ?_
  show _=k' (acc++(bif p o then some (D.int o) else none).toList) _
  induction p o with
  | true =>
   refine cT hz ?_
   kernel_rfl
  | false =>
   conv=>lhs;whnf
   rw [show acc++(bif false then some (D.int o) else none).toList=acc from aJ _]) (by rw [bF,a1n];simp;lia)]
 rw [a3z,bW,← hn]
 conv=>lhs;whnf
 rw [a2c]
 conv=>lhs;whnf
 rw [a5i]
 kernel_rfl
theorem st6_w {d:Int} (h:a2g C M P 4 d P1):a1b (EV C (M+13)) a0o (a0u 6) (ρ4 ns t n nums) (σ3 P es e) K=K.next (ρ6 ns t n nums (1+d)) (σ3 P1 es e):=by
 refine (h _ (by exact cN _ 10) _ _ _ rfl).trans ?_
 kernel_rfl
theorem st7_w {gs:List (List Int)} (h:IsoC C M 921 [.d (.lst (nums.map .int)),.d (.int most)] (.lst (gs.map fun g => .lst (g.map .int)))):a1b (EV C (M+13)) a0o (a0u 7) (ρ6 ns t n nums most) (σ3 P es e) K=K.next (ρ7 ns t n nums most gs) (σ3 P es e):=by
 refine (h _ (by exact cN _ 11) _ _).trans ?_
 kernel_rfl
end
theorem st5_w {R:Type} {C:CalG R} {M:Nat} {K:KS R} {es:List (D×D)} {e:Option Int} {P:List D} {ns nums:List Int} {t n:Int} {keys:List Int} {p:Int→Bool} (hf:es.map Prod.fst=keys.map D.int) (hl:keys.length < 64) (hn:nums=(sortI keys).filter p) (hI:∀ n∈keys,IsoC C M 968 [.d (a0m es e),.d (.int n)] (.bool (p n))) :
  a1b (EV C (M+13)) a0o (a0u 5) (ρ4 ns t n nums) (σ3 P es e) K=K.next (ρ4 ns t n nums) (σ3 P es e) :=
 (a8o (by rfl)).trans (if_F (by rfl) (fun k=>st5_t hf hl hn hI k) (by rfl))
end Mine.Lw
end
section
namespace Mine.Lw
open PySem
noncomputable def a3h (nums:List Int) (most:Int):List (List Int):=(a1p 0 most (Builtin.Range.rangeSize 0 nums.length most).toNat).map fun s=>slice nums (some s) (some (s+most))
theorem b3k {α β:Type} (f:α→β) (xs:List α) (a b:Option Int):slice (xs.map f) a b=(slice xs a b).map f:=by
 unfold slice
 simp only [bF,List.map_take,List.map_drop]
theorem five {m:Int} (h1:1≤m) (h2:m≤4):m=1∨m=2∨m=3∨m=4:=by lia
structure GrpOk (nums:List Int) (most:Int) (gs:List (List Int)):Prop where
 flat:gs.flatten=nums
 full:gs.dropLast.map (fun g=>(g.length:Int))=List.replicate (gs.length - 1) most
 last:∀ g,gs.getLast?=some g→1≤g.length∧(g.length:Int)≤most
 small:∀ g∈gs,g≠[]∧g.length≤4
 num:gs.length≤9
noncomputable def gX {α:Type} (xs:List α) (most:Int):List (List α):=(a1p 0 most (Builtin.Range.rangeSize 0 xs.length most).toNat).map fun s=>slice xs (some s) (some (s+most))
theorem gX_map {α β:Type} (f:α→β) (xs:List α) (m:Int):gX (xs.map f) m=(gX xs m).map (List.map f):=by
 unfold gX
 rw [bF,bL]
 exact bJ fun s hs=>b3k f xs _ _
noncomputable def gChk (n:Nat) (m:Nat):Bool :=
 let gs:=gX (cE n) (m+1:Nat)
 (gs.flatten==cE n)&&((gs.dropLast.map List.length==List.replicate (gs.length - 1) (m+1))&&((match gs.getLast? with | some g=>Nat.ble 1 g.length&&Nat.ble g.length (m+1) | none=>true)&&((gs.all fun g=>Nat.ble 1 g.length&&Nat.ble g.length 4) &&
  (Nat.ble gs.length 9&&Builtin.Range.small 0 n (m+1:Nat)))))
theorem gChk_all:((cE 10).all fun n=>(cE 4).all fun m=>gChk n m)=true:=by kernel_rfl
theorem self_map (xs:List Int):(cE xs.length).map (fun i=>xs.getD i 0)=xs:=by
 refine List.ext_getElem (by rw [bF,List.length_range]) fun i h1 h2 => ?_
 rw [List.getElem_map,List.getElem_range,aR,aV h2]
 rfl
theorem grp_nat (xs:List Int) (m:Nat) (h:gChk xs.length m=true):GrpOk xs (m+1:Nat) (a3h xs (m+1:Nat))∧Builtin.Range.small 0 xs.length (m+1:Nat)=true:=by
 have e:a3h xs (m+1:Nat)=(gX (cE xs.length) (m+1:Nat)).map (List.map fun i=>xs.getD i 0):=by
  rw [← gX_map,self_map];rfl
 unfold gChk at h
 rw [e]
 generalize gX (cE xs.length) (m+1:Nat)=gs at h
 refine aE ?_ (aA.mp h);rintro a h
 refine aE ?_ (aA.mp h);rintro b h
 refine aE ?_ (aA.mp h);rintro c h
 refine aE ?_ (aA.mp h);rintro d h
 refine aE ?_ (aA.mp h);rintro f k
 refine ⟨⟨?_,?_,fun g hg => ?_,fun g hg => ?_,?_⟩,k⟩
 ·rw [← List.map_flatten,eq_of_beq a,self_map]
 ·rw [← List.map_dropLast,bL,bF]
  have:=congrArg (List.map fun n:Nat=>(n:Int)) (eq_of_beq b)
  rw [bL,List.map_replicate] at this
  refine Eq.trans (bJ fun g hg => ?_) this
  exact congrArg _ (bF _)
 ·rw [List.getLast?_map] at hg
  cases hl:gs.getLast? with
  | none=>rw [hl] at hg;exact nNS hg
  | some g0 =>
   rw [hl] at hg c
   have hg:=Option.some.inj hg
   subst hg
   rw [bF]
   refine aE ?_ (aA.mp c);rintro c1 c2
   exact ⟨cO c1,Int.ofNat_le.mpr (cO c2)⟩
 ·refine exa ?_ (bT.mp hg);rintro g0 h0 rfl
  refine aE ?_ (aA.mp (aF.mp d g0 h0));rintro c1 c2
  rw [bF]
  refine ⟨fun e => ?_,cO c2⟩
  rw [List.map_eq_nil_iff.mp e] at c1
  exact nFT c1
 ·rw [bF];exact cO f
theorem b3l (nums:List Int) (most:Int) (h:nums.length≤9) (h1:1≤most) (h2:most≤4):GrpOk nums most (a3h nums most)∧Builtin.Range.small 0 nums.length most=true∧(a1p 0 most (Builtin.Range.rangeSize 0 nums.length most).toNat).length≤9:=by
 have go:∀ m:Nat,m < 4→GrpOk nums (m+1:Nat) (a3h nums (m+1:Nat))∧Builtin.Range.small 0 nums.length (m+1:Nat)=true∧(a1p 0 (m+1:Nat) (Builtin.Range.rangeSize 0 nums.length (m+1:Nat)).toNat).length≤9:=by
  intro m hm
  have:=grp_nat nums m (aF.mp (aF.mp gChk_all nums.length (List.mem_range.mpr (Nat.lt_succ_of_le h))) m (List.mem_range.mpr hm))
  refine ⟨this.1,this.2,?_⟩
  have e:=this.1.num
  unfold a3h at e
  rwa [bF] at e
 rcases five h1 h2 with rfl | rfl | rfl | rfl
 ·exact go 0 (by decide)
 ·exact go 1 (by decide)
 ·exact go 2 (by decide)
 ·exact go 3 (by decide)
noncomputable abbrev b921:List Stmt:=(fdOf 921).body
noncomputable abbrev sc921:Scope:=(fdOf 921).scope
noncomputable def ρ921:Loc:=[(S "numbers",.r 0),(S "most",.r 1)]
noncomputable def σ921 (nums:List Int) (most:Int):St:=[.cell (some (.d (.lst (nums.map .int)))),.cell (some (.d (.int most)))]
noncomputable def fG (nums:List Int) (most:Int):D→Option D
 | .int s=>some (.lst ((slice nums (some s) (some (s+most))).map .int))
 | _=>none
theorem a6h (nums:List Int) (most:Int):∀ l:List Int,(l.map D.int).filterMap (fG nums most)=(l.map fun s=>slice nums (some s) (some (s+most))).map fun g => .lst (g.map .int)
 | []=>rfl
 | a::r=>by
  have:fG nums most (.int a)=some (.lst ((slice nums (some a) (some (a+most))).map .int)):=rfl
  rewrite [bK]
  refine Eq.trans aO ?_
  rw [this]
  simp [a6h nums most r]
section
variable {R:Type} {C:CalG R} {M:Nat} {K:KS R} {nums:List Int} {most:Int}
theorem gr_t (h:decide (most < 1)=false) (k:Bool→St→Option R):(EV C (M+12)).t sc921 (a1j (stAt b921 0)) ρ921 (σ921 nums most) k=k false (σ921 nums most):=by
 conv=>lhs;whnf
 rw [h]
theorem gr_1 (hl:nums.length≤9) (hs:Builtin.Range.small 0 nums.length most=true) (hp:decide (0 < most)=true) (hm:a1f most=true) (hr:(a1p 0 most (Builtin.Range.rangeSize 0 nums.length most).toNat).length≤9) :
  (EV C (M+12)).s sc921 (stAt b921 1) ρ921 (σ921 nums most) K=K.ret (.d (.lst ((a3h nums most).map fun g => .lst (g.map .int)))) (σ921 nums most):=by
 have hz:szOk (nums.map D.int).length=true:=a0h (by rw [bF];lia)
 obtain ⟨N,hN⟩:∃ N:Int,N=((nums.map D.int).length:Int):=⟨_,rfl⟩
 have hN2:(nums.length:Int)=N:=by rw [hN,bF]
 unfold a3h
 rw [hN2] at hs hr ⊢
 conv=>lhs;whnf
 rw [hz,← hN]
 conv=>lhs;whnf
 rw [hs]
 conv=>lhs;whnf
 rw [hp]
 conv=>lhs;whnf
 rw [hm]
 conv=>lhs;whnf
 rw [a1h (fG nums most) _ _ _ (by
  intro d hd acc k' hl
  refine exa ?_ (bT.mp hd);rintro o ho rfl
  have hz2:szOk acc.length=true:=a0h (by lia)
  conv=>lhs;whnf
  rw [hz]
  conv=>lhs;whnf
  rw [hz2]
  conv=>lhs;whnf
  rw [b3k]
  kernel_rfl) (by rw [bF];simp;lia)]
 rw [a6h,bW]
end
theorem fd921:tabs.fn 921=some (fdOf 921):=by kernel_rfl
theorem bd921:b921=[stAt b921 0,stAt b921 1]:=by kernel_rfl
theorem groupsX {nums:List Int} {most:Int} (hl:nums.length≤9) (h1:1≤most) (h2:most≤4):∀ (R:Type),IsoC (calX:CalG R) 60 921 [.d (.lst (nums.map .int)),.d (.int most)] (.lst ((a3h nums most).map fun g => .lst (g.map .int))):=by
 refine eaa ?_ (b3l nums most hl h1 h2);rintro _ g1 g2
 refine a3a 24 (c:=35) (ds:=[.lst (nums.map .int),.int most]) (v := .d (.lst ((a3h nums most).map fun g => .lst (g.map .int)))) (σ':=σ921 nums most) (by rfl) (by rfl) fd921 (by rfl) (by rfl) rfl (fun z0 z0 z0=>rfl) fun R M hM k => ?_
 refine a3y (ρ:=ρ921) (σ':=σ921 nums most) bd921 rfl (by kernel_rfl) ?_
 refine a0a (fun nx=>if_F (by rfl) (fun k=>gr_t (M:=M+11) (decide_eq_false (by lia)) k) (by rfl)) (a0j fun nx => ?_)
 exact gr_1 (M:=M+12) hl g1 (decide_eq_true (by assumption)) (a2b (by lia)) g2
end Mine.Lw
end
section
namespace Mine.Lw
open PySem
theorem b3m {R:Type} {ih:IH R} {sc:Scope} {t:Expr} {ifs:List Expr} {ρ:Loc} {σ:St} {body:Loc→St→List D→(List D→St→Option R)→Option R} (F:D→List D) :
  ∀ (ds:List D) (acc:List D) (k:List D→St→Option R),(∀ d∈ds,∀ acc (k':List D→St→Option R),acc.length+(F d).length≤1000→(bif freshT t ρ then a6l sc t d ρ σ fun ρ' σ=>a7d ih sc ifs ρ' σ fun b σ=>(bif b then body ρ' σ acc k' else k' acc σ) else none)=k' (acc++F d) σ) →
   acc.length+(ds.flatMap F).length≤1000→a2l ih sc t ifs body ds ρ σ acc k=k (acc++ds.flatMap F) σ
 | [],acc,k,_,_=>by rw [List.flatMap_nil,aJ];rfl
 | d::ds,acc,k,H,hl=>by
  rw [List.flatMap_cons,bD] at hl
  have h1:=H d (.head _) acc (fun acc σ=>a2l ih sc t ifs body ds ρ σ acc k) (by lia)
  refine Eq.trans ?_ (h1.trans ?_)
  ·rfl
  ·refine Eq.trans (b3m F ds (acc++F d) k (fun d' h=>H d' (.tail _ h)) (by rw [bD];lia)) ?_
   rw [List.flatMap_cons,aI]
noncomputable def unL:D→List D
 | .lst xs=>xs
 | _=>[]
theorem b1f:∀ gs:List (List Int),(gs.map fun g=>D.lst (g.map .int)).flatMap unL=gs.flatten.map .int
 | []=>rfl
 | g::r=>by
  rw [bK,List.flatMap_cons,b1f r,List.flatten_cons,bI];rfl
noncomputable def lenF:D→Option D
 | .lst xs=>some (.int xs.length)
 | _=>none
theorem a4h:∀ gs:List (List Int),(gs.map fun g=>D.lst (g.map .int)).filterMap lenF=(gs.map fun g=>(g.length:Int)).map .int
 | []=>rfl
 | g::r=>by
  have:lenF (.lst (g.map .int))=some (.int ((g.map D.int).length)):=rfl
  rewrite [bK]
  refine Eq.trans aO ?_
  rw [this,bF]
  simp [a4h r]
theorem slice_last {α:Type} (xs:List α):slice xs none (some (-1))=xs.dropLast:=by
 unfold slice a6z
 have:decide ((-1:Int) < 0)=true:=rfl
 rw [List.dropLast_eq_take]
 show List.take ((-1+(xs.length:Int)).toNat - 0) xs=_
 induction xs using aK with
 | nil=>rfl
 | cons x xs =>
  have e:Int.toNat (-1+((xs.length:Int)+1))=xs.length:=by
   rw [Int.add_comm,Int.add_assoc]
   exact congrArg Int.toNat (Int.add_zero _)
  exact congrArg (fun n=>List.take n (x::xs)) e
theorem b1g {α β:Type} (f:α→β) (l:List α):(l.map f).dropLast=l.dropLast.map f:=by
 refine Eq.trans List.dropLast_eq_take ?_
 rw [List.dropLast_eq_take,bF,List.map_take]
noncomputable def opA (e:Expr):Expr:=if h:_ then Expr.BoolOp.elim e h fun z0 vs z0=>vs.getD 0 e else e
noncomputable def opB (e:Expr):Expr:=if h:_ then Expr.BoolOp.elim e h fun z0 vs z0=>vs.getD 1 e else e
noncomputable def opP (e:Expr):Pos:=if h:_ then Expr.BoolOp.elim e h fun z0 z0 p=>p else default
section
variable {R:Type} {C:CalG R} {M:Nat} {K:KS R} {es:List (D×D)} {e:Option Int} {P P1:List D} {ns nums:List Int} {t n most:Int} {gs:List (List Int)}
theorem st8_a (hn:nums.length≤9) (hg:GrpOk nums most gs) (k:Bool→St→Option R):(EV C (M+12)).t a0o (opA (a1j (a0u 8))) (ρ7 ns t n nums most gs) (σ3 P es e) k=k false (σ3 P es e):=by
 conv=>lhs;whnf
 rw [b3m unL _ _ _ (by
  intro d hd acc k' hl
  refine exa ?_ (bT.mp hd);rintro g hg' rfl
  have hl':acc.length+(g.map D.int).length≤1000:=hl
  conv=>lhs;whnf
  rw [a1h some _ _ _ (by
   intro d hd acc k' hl
   refine exa ?_ (bT.mp hd);rintro o ho rfl
   have hz2:szOk acc.length=true:=a0h (by lia)
   conv=>lhs;whnf
   rw [hz2]
   kernel_rfl) hl']
  rw [List.filterMap_some]
  rfl) (by rw [b1f,hg.flat,bF];simp;lia)]
 rw [b1f,hg.flat,bW]
 conv=>lhs;whnf
 rw [a2c]
 conv=>lhs;whnf
 rw [a5i]
 kernel_rfl
theorem st8_b (hn:nums.length≤9) (hm:1≤most∧most≤4) (hg:GrpOk nums most gs) (k:Bool→St→Option R):(EV C (M+12)).t a0o (opB (a1j (a0u 8))) (ρ7 ns t n nums most gs) (σ3 P es e) k=k false (σ3 P es e):=by
 have hgl:=hg.num
 have hz:szOk (gs.map fun g=>D.lst (g.map .int)).length=true:=a0h (by rw [bF];lia)
 obtain ⟨N,hN⟩:∃ N:Int,N=((gs.map fun g=>D.lst (g.map .int)).length:Int):=⟨_,rfl⟩
 have hN2:(gs.length:Int)=N:=by rw [hN,bF]
 obtain ⟨X,hX⟩:∃ X:Int,X=(bif decide (0 < N - 1) then N - 1 else 0):=⟨_,rfl⟩
 have hX0:X.toNat=gs.length - 1∧0≤X∧X≤200:=by
  rw [hX,← hN2]
  exact (by decide +kernel:∀ l:Nat,l≤9→(bif decide (0 < (l:Int) - 1) then (l:Int) - 1 else 0).toNat=l - 1∧0≤(bif decide (0 < (l:Int) - 1) then (l:Int) - 1 else 0)∧(bif decide (0 < (l:Int) - 1) then (l:Int) - 1 else 0)≤200) gs.length hgl
 refine cT hz ?_
 conv=>lhs;whnf
 rw [show slice (gs.map fun g=>D.lst (g.map .int)) none (some (-1))=gs.dropLast.map fun g=>D.lst (g.map .int) from by rw [slice_last,b1g]]
 conv=>lhs;whnf
 rw [a1h lenF _ _ _ (by
  intro d hd acc k' hl
  refine exa ?_ (bT.mp hd);rintro g hg' rfl
  have hs:=(hg.small g (List.dropLast_subset _ hg')).2
  have hz1:szOk (g.map D.int).length=true:=a0h (by rw [bF];lia)
  have hz2:szOk acc.length=true:=a0h (by lia)
  conv=>lhs;whnf
  rw [hz1]
  refine cT hz2 ?_
  kernel_rfl) (by rw [bF,List.length_dropLast];simp;lia)]
 rw [a4h,bW,hg.full]
 conv=>lhs;whnf
 rw [hz,← hN]
 conv=>lhs;whnf
 rw [← hX,decide_eq_true hX0.2.1]
 refine cT (decide_eq_true hX0.2.2) ?_
 conv=>lhs;whnf
 rw [hX0.1,show List.replicate (gs.length - 1) (D.int most)=(List.replicate (gs.length - 1) most).map .int from by rw [List.map_replicate],a2c]
 conv=>lhs;whnf
 rw [a5i]
 kernel_rfl
end
end Mine.Lw
end
section
namespace Mine.Lw
open PySem
theorem or_FF {R:Type} {C:CalG R} {n:Nat} {sc:Scope} {x:Expr} {ρ:Loc} {σ σ' σ'':St} (hx:x = .BoolOp .Or [opA x,opB x] (opP x)) (ha:∀ k,(EV C n).t sc (opA x) ρ σ k=k false σ') (hb:∀ k,(EV C n).t sc (opB x) ρ σ' k=k false σ'') (k:Bool→St→Option R):(EV C (n+1)).t sc x ρ σ k=k false σ'':=by
 rw [hx]
 exact (ha _).trans (hb _)
noncomputable def σ10 (P:List D) (es:List (D×D)) (e:Option Int) (bk:List (D×D)):St:=[.cell (some (.r 4)),.cell (some (.d (a0m es e))),.cell (some (.r 5)),.list P,.frz (.dct es),.dict bk]
noncomputable def rIf:RefIf:=match refIf? (a0u 9) with | some a=>a | none=>⟨default,default,[],[],[]⟩
theorem rIf_is:refIf? (a0u 9)=some rIf:=by kernel_rfl
section
variable {R:Type} {C:CalG R} {M:Nat} {K:KS R} {es:List (D×D)} {e:Option Int} {P P1:List D} {ns nums:List Int} {t n most:Int} {gs:List (List Int)}
theorem st8_w (hn:nums.length≤9) (hm:1≤most∧most≤4) (hg:GrpOk nums most gs):a1b (EV C (M+14)) a0o (a0u 8) (ρ7 ns t n nums most gs) (σ3 P es e) K=K.next (ρ7 ns t n nums most gs) (σ3 P es e) :=
 (a8o (by rfl)).trans (if_F (by rfl) (or_FF (by kernel_rfl) (fun k=>st8_a hn hg k) (fun k=>st8_b hn hm hg k)) (by rfl))
theorem st9_a (hm:1≤most∧most≤4) (hg:GrpOk nums most gs) (k:Bool→St→Option R):(EV C (M+12)).t a0o (opA (a1j (a0u 9))) (ρ7 ns t n nums most gs) (σ3 P es e) k=k false (σ3 P es e):=by
 cases hgs:gs with
 | nil=>kernel_rfl
 | cons g0 gr =>
  rw [← hgs]
  obtain ⟨last,hlast⟩:∃ last,gs.getLast?=some last:=by
   rw [hgs];exact ⟨_,List.getLast?_eq_some_getLast (by simp)⟩
  refine aE ?_ (hg.last last hlast);rintro l1 l2
  have hgl:=hg.num
  have hpos:1≤gs.length:=by rw [hgs];simp
  have he:(gs.map fun g=>D.lst (g.map .int)).isEmpty=false:=by rw [hgs];rfl
  have hz:szOk (gs.map fun g=>D.lst (g.map .int)).length=true:=a0h (by rw [bF];lia)
  obtain ⟨N,hN⟩:∃ N:Int,N=((gs.map fun g=>D.lst (g.map .int)).length:Int):=⟨_,rfl⟩
  have hN2:(gs.length:Int)=N:=by rw [hN,bF]
  have h0:decide (0 ≤ -1+N)=true:=decide_eq_true (by clear he;lia)
  have hx:(gs.map fun g=>D.lst (g.map .int)).getD (-1+N).toNat default = .lst (last.map .int):=by
   have:(-1+N).toNat=gs.length - 1:=by lia
   rw [this,aR,aX,← List.getLast?_eq_getElem?,hlast]
   rfl
  have hz2:szOk (last.map D.int).length=true:=a0h (by rw [bF];lia)
  obtain ⟨X,hX⟩:∃ X:Int,X=((last.map D.int).length:Int):=⟨_,rfl⟩
  have hX2:(last.length:Int)=X:=by rw [hX,bF]
  have h1:decide (1≤X)=true:=decide_eq_true (by lia)
  have h2:decide (X≤most)=true:=decide_eq_true (by lia)
  refine cT hz ?_
  conv=>lhs;whnf
  rw [he]
  refine cT hz ?_
  conv=>lhs;whnf
  rewrite [← hN]
  refine cT h0 ?_
  conv=>lhs;whnf
  rw [hx]
  refine cT hz2 ?_
  conv=>lhs;whnf
  rw [← hX]
  refine cT h1 ?_
  conv=>lhs;whnf
  rw [h2]
  kernel_rfl
theorem st9_b {d:Int} (hd:0≤d) (h:a2g C M P 3 d P1):(bif rIf.args.all fun e => !isStar e then (EV C (M+12)).e a0o rIf.fn (ρ7 ns t n nums most gs) (σ3 P es e) fun fv σ=>evL (EV C (M+12)) a0o rIf.args (ρ7 ns t n nums most gs) σ fun vs σ=>onDv fv fun d=>onG 975 d (b4s vs (evSs (EV C (M+12)) a0o rIf.o (ρ7 ns t n nums most gs) σ K)) else none)=K.next (ρ7 ns t n nums most gs) (σ3 P1 es e):=by
 have hi:decide (-d < 1)=true:=decide_eq_true (by lia)
 refine (h _ (by lia) _ _ _ rfl).trans ?_
 refine cT hi ?_
 kernel_rfl
theorem st9_w {d:Int} (hm:1≤most∧most≤4) (hg:GrpOk nums most gs) (hd:0≤d) (h:a2g C M P 3 d P1):a1b (EV C (M+12)) a0o (a0u 9) (ρ7 ns t n nums most gs) (σ3 P es e) K=K.next (ρ7 ns t n nums most gs) (σ3 P1 es e):=by
 unfold a1b
 rw [rIf_is,show forLam? (a0u 9)=none by kernel_rfl]
 show refGo (EV C (M+12)) 975 a0o (ρ7 ns t n nums most gs) (σ3 P es e) K rIf=_
 exact (st9_a hm hg _).trans (st9_b hd h)
theorem st10_w:a1b (EV C (M+14)) a0o (a0u 10) (ρ7 ns t n nums most gs) (σ3 P es e) K=K.next (ρ7 ns t n nums most gs) (σ10 P es e []):=by
 kernel_rfl
end
end Mine.Lw
end
section
namespace Mine.Lw
open PySem
noncomputable def octs:Kind→List Nat
 | .k17=>[49,55]
 | .name=>[47,65,35,50,48,98]
 | .arr=>[91,49,32,50,32,48,32,82,93]
 | .dict=>[60,60,47,76,32,53,62,62]
 | .zero=>[48]
 | .neg=>[45,52]
 | _=>[]
noncomputable def isP (kk:Kind):Bool := !(isStr kk||a5h kk)
noncomputable def a3i:Kind→D
 | .k17 => .tup [.str (S "int"),.int 17]
 | .name => .tup [.str (S "name"),.str (S "A b")]
 | .arr => .tup [.str (S "array"),.tup [.str (S "int"),.int 1],.tup [.str (S "ref"),.int 2,.int 0]]
 | .dict => .tup [.str (S "dict"),.tup [.str (S "L"),.tup [.str (S "int"),.int 5]]]
 | .zero => .tup [.str (S "int"),.int 0]
 | .neg => .tup [.str (S "int"),.int (-4)]
 | .str3 => .tup [.str (S "stream"),.tup [.str (S "dict"),.tup [.str (S "Length"),.tup [.str (S "int"),.int 3]]],.bytes [97,98,99]]
 | .strR r => .tup [.str (S "stream"),.tup [.str (S "dict"),.tup [.str (S "Length"),.tup [.str (S "ref"),.int r,.int 0]]],.bytes [97,98,99]]
 | .ref r => .tup [.str (S "ref"),.int r,.int 0]
theorem told_k17 (R:Type) (m:Nat) (σ:St) (k:V→St→Option R):a0g tabs (ev tabs (m+80)) (.d (.g 438)) [.d (enc .k17)] σ k=k (.d (a3i .k17)) σ:=by kernel_rfl
theorem told_name (R:Type) (m:Nat) (σ:St) (k:V→St→Option R):a0g tabs (ev tabs (m+80)) (.d (.g 438)) [.d (enc .name)] σ k=k (.d (a3i .name)) σ:=by kernel_rfl
theorem told_arr (R:Type) (m:Nat) (σ:St) (k:V→St→Option R):a0g tabs (ev tabs (m+80)) (.d (.g 438)) [.d (enc .arr)] σ k=k (.d (a3i .arr)) σ:=by kernel_rfl
theorem told_dict (R:Type) (m:Nat) (σ:St) (k:V→St→Option R):a0g tabs (ev tabs (m+80)) (.d (.g 438)) [.d (enc .dict)] σ k=k (.d (a3i .dict)) σ:=by kernel_rfl
theorem told_zero (R:Type) (m:Nat) (σ:St) (k:V→St→Option R):a0g tabs (ev tabs (m+80)) (.d (.g 438)) [.d (enc .zero)] σ k=k (.d (a3i .zero)) σ:=by kernel_rfl
theorem told_neg (R:Type) (m:Nat) (σ:St) (k:V→St→Option R):a0g tabs (ev tabs (m+80)) (.d (.g 438)) [.d (enc .neg)] σ k=k (.d (a3i .neg)) σ:=by kernel_rfl
theorem told_str3 (R:Type) (m:Nat) (σ:St) (k:V→St→Option R):a0g tabs (ev tabs (m+80)) (.d (.g 438)) [.d (enc .str3)] σ k=k (.d (a3i .str3)) σ:=by kernel_rfl
theorem told_strR (r:Int) (R:Type) (m:Nat) (σ:St) (k:V→St→Option R):a0g tabs (ev tabs (m+80)) (.d (.g 438)) [.d (enc (.strR r))] σ k=k (.d (a3i (.strR r))) σ:=by kernel_rfl
theorem told_ref (r:Int) (R:Type) (m:Nat) (σ:St) (k:V→St→Option R):a0g tabs (ev tabs (m+80)) (.d (.g 438)) [.d (enc (.ref r))] σ k=k (.d (a3i (.ref r))) σ:=by kernel_rfl
theorem write_k17 (R:Type) (m:Nat) (σ:St) (k:V→St→Option R):a0g tabs (ev tabs (m+120)) (.d (.g 813)) [.d (enc .k17),.d (.bool true)] σ k=k (.d (.bytes (octs .k17))) σ:=by kernel_rfl
theorem write_name (R:Type) (m:Nat) (σ:St) (k:V→St→Option R):a0g tabs (ev tabs (m+120)) (.d (.g 813)) [.d (enc .name),.d (.bool true)] σ k=k (.d (.bytes (octs .name))) σ:=by kernel_rfl
theorem write_arr (R:Type) (m:Nat) (σ:St) (k:V→St→Option R):a0g tabs (ev tabs (m+120)) (.d (.g 813)) [.d (enc .arr),.d (.bool true)] σ k=k (.d (.bytes (octs .arr))) σ:=by kernel_rfl
theorem write_dict (R:Type) (m:Nat) (σ:St) (k:V→St→Option R):a0g tabs (ev tabs (m+120)) (.d (.g 813)) [.d (enc .dict),.d (.bool true)] σ k=k (.d (.bytes (octs .dict))) σ:=by kernel_rfl
theorem write_zero (R:Type) (m:Nat) (σ:St) (k:V→St→Option R):a0g tabs (ev tabs (m+120)) (.d (.g 813)) [.d (enc .zero),.d (.bool true)] σ k=k (.d (.bytes (octs .zero))) σ:=by kernel_rfl
theorem write_neg (R:Type) (m:Nat) (σ:St) (k:V→St→Option R):a0g tabs (ev tabs (m+120)) (.d (.g 813)) [.d (enc .neg),.d (.bool true)] σ k=k (.d (.bytes (octs .neg))) σ:=by kernel_rfl
theorem toldS (kk:Kind) (R:Type) (m:Nat) (σ:St) (k:V→St→Option R):a0g tabs (ev tabs (m+80)) (.d (.g 438)) [.d (enc kk)] σ k=k (.d (a3i kk)) σ:=by
 induction kk with
 | k17=>exact told_k17 R m σ k
 | name=>exact told_name R m σ k
 | arr=>exact told_arr R m σ k
 | dict=>exact told_dict R m σ k
 | zero=>exact told_zero R m σ k
 | neg=>exact told_neg R m σ k
 | str3=>exact told_str3 R m σ k
 | strR r=>exact told_strR r R m σ k
 | ref r=>exact told_ref r R m σ k
theorem writeS (kk:Kind) (h:isP kk=true) (R:Type) (m:Nat) (σ:St) (k:V→St→Option R):a0g tabs (ev tabs (m+120)) (.d (.g 813)) [.d (enc kk),.d (.bool true)] σ k=k (.d (.bytes (octs kk))) σ:=by
 induction kk with
 | k17=>exact write_k17 R m σ k
 | name=>exact write_name R m σ k
 | arr=>exact write_arr R m σ k
 | dict=>exact write_dict R m σ k
 | zero=>exact write_zero R m σ k
 | neg=>exact write_neg R m σ k
 | str3=>exact nFT h
 | strR r=>exact nFT h
 | ref r=>exact nFT h
theorem b5g (kk:Kind) (R:Type):IsoC (calX:CalG R) 81 438 [.d (enc kk)] (a3i kk):=up fun m σ k=>by
 rw [show m+81=(m+80)+1 from rfl,a0z,a2z];exact toldS kk R m σ k
theorem writeX (kk:Kind) (h:isP kk=true) (R:Type):IsoC (calX:CalG R) 121 813 [.d (enc kk),.d (.bool true)] (.bytes (octs kk)):=up fun m σ k=>by
 rw [show m+121=(m+120)+1 from rfl,a0z,a2z];exact writeS kk h R m σ k
end Mine.Lw
end
section
namespace Mine.Lw
open PySem
noncomputable def isPk (kk:Kind):Bool := !(isStr kk||a5h kk)
noncomputable def pairD (x:Int×Kind):D := .tup [.int x.1,enc x.2]
noncomputable abbrev b928:List Stmt:=(fdOf 928).body
noncomputable abbrev sc928:Scope:=(fdOf 928).scope
noncomputable def f928:List Stmt:=fBody (stAt b928 1)
noncomputable def a3p (ps:D) (tl:Loc):Loc:=(oS "pairs",.d ps)::(oS "seen",.r 0)::tl
section
variable {R:Type} {C:CalG R} {M:Nat} {K:KS R} {ps:D} {tl:Loc} {σ:St} {n:Int} {kk:Kind} {seen:List (D×D)}
theorem ck_0:(EV C (M+12)).s sc928 (stAt b928 0) [(oS "pairs",.d ps)] [] K=K.next (a3p ps []) [.dict []]:=by kernel_rfl
theorem ck_t (hn:lk (oS "number") (a3p ps tl)=some (.d (.int n))) (h1:decide (n < 1)=false) (hk:keysOk (.int n) seen=true) (hh:dhas (.int n) seen=false) (k:Bool→St→Option R) :
  (EV C (M+12)).t sc928 (a1j (stAt f928 0)) (a3p ps tl) [.dict seen] k=k false [.dict seen]:=by
 refine mS hn ?_
 conv=>lhs;whnf
 rw [h1]
 refine mS hn ?_
 conv=>lhs;whnf
 rw [hk]
 refine cF hh ?_
 kernel_rfl
theorem ck_a (hn:lk (oS "number") (a3p ps tl)=some (.d (.int n))) (hk:keysOk (.int n) seen=true) (hz:szOk seen.length=true) :
  (EV C (M+12)).s sc928 (stAt f928 1) (a3p ps tl) [.dict seen] K=K.next (a3p ps tl) [.dict (dput (.int n) (.bool true) seen)]:=by
 refine mS hn ?_
 refine cA hk ?_
 refine cT hz ?_
 kernel_rfl
theorem ck_t2 (hv:lk (oS "value") (a3p ps tl)=some (.d (enc kk))) (hp:isPk kk=true) (hc:IsoC C M 426 [.d (enc kk)] (.str (b1a kk))) (k:Bool→St→Option R) :
  (EV C (M+12)).t sc928 (a1j (stAt f928 2)) (a3p ps tl) σ k=k false σ:=by
 refine mS hv ?_
 refine (hc _ (by exact cN _ 10) _ _).trans ?_
 cases kk <;> first | (cases hp;done) | kernel_rfl
theorem bs928_lk (y:Str) (h1:seq y (oS "pairs")=false) (h2:seq y (oS "seen")=false):lk y (a3p ps tl)=lk y tl:=by
 unfold a3p
 simp only [lk_n,lk_c,h1,h2,cond_false]
theorem b3n (y:Str) (v:V) (h1:seq y (oS "pairs")=false) (h2:seq y (oS "seen")=false):put y v (a3p ps tl)=a3p ps (put y v tl):=by
 unfold a3p
 simp only [a6m,a7h,h1,h2,cond_false]
end
theorem fd928:tabs.fn 928=some (fdOf 928):=by kernel_rfl
theorem bd928:b928=[stAt b928 0,stAt b928 1]:=by kernel_rfl
theorem bf928:fBody (stAt b928 1)=[stAt f928 0,stAt f928 1,stAt f928 2]:=by kernel_rfl
structure PkOk (pk:List (Int×Kind)):Prop where
 nd:(pk.map Prod.fst).Nodup
 rng:∀ x∈pk,1≤x.1∧x.1≤9
 kinds:∀ x∈pk,isPk x.2=true
 few:pk.length≤4
inductive I928 (pk:List (Int×Kind)) (ds:List D):Loc→St→Prop
 | mk (tl:Loc) (xs:List (Int×Kind)) (seen:List (D×D)) (keys:List Int):ds=xs.map pairD→xs.foldl (fun s x=>dput (.int x.1) (.bool true) s) seen=pk.foldl (fun s x=>dput (.int x.1) (.bool true) s) []→seen.map Prod.fst=keys.map D.int→(∀ x∈xs,x∈pk∧x.1∉keys)→(xs.map Prod.fst).Nodup→keys.length+xs.length≤4 →
  I928 pk ds (a3p (.lst (pk.map pairD)) tl) [O.dict seen]
theorem checkX {pk:List (Int×Kind)} (h:PkOk pk):∀ (R:Type),IsoC (calX:CalG R) 60 928 [.d (.lst (pk.map pairD))] .none:=by
 let ends:List (Int×Kind)→List (D×D)→List (D×D):=fun xs seen=>xs.foldl (fun s x=>dput (.int x.1) (.bool true) s) seen
 refine a3a 24 (c:=35) (ds:=[.lst (pk.map pairD)]) (v := .d .none) (σ':=[.dict (ends pk [])]) (by rfl) (by rfl) fd928 (by rfl) (by rfl) rfl (fun z0 z0 z0=>rfl) fun R M hM k => ?_
 refine a3y (ρ:=[(oS "pairs",.d (.lst (pk.map pairD)))]) (σ':=[]) bd928 rfl rfl ?_
 refine a0a (fun nx=>ck_0 (M:=M+12)) ?_
 refine b1c (n:=M+23) (xs:=pk.map pairD) (I928 pk) (by rfl) (fun k=>(by kernel_rfl:(EV calX (M+23)).e sc928 (a5u (stAt b928 1)) (a3p (.lst (pk.map pairD)) []) [O.dict []] k=k (.d (.lst (pk.map pairD))) [O.dict []])) (fun k=>rfl) ?_ (.mk [] pk [] [] rfl rfl rfl (fun x hx=>⟨hx,by simp⟩) h.nd (by have:=h.few;simp;assumption)) ?_
 ·rintro d ds ρ σ q1_
  induction q1_ with | mk tl xs seen keys h1 h4 h5 h6 h7 h8 =>
  induction xs using aK with
  | nil=>exact nCN h1
  | cons x xs =>
   refine aE ?_ (aL.inj h1);rintro rfl rfl
   refine aE ?_ (h6 x (.head _));rintro hx hxk
   have hr:=h.rng x hx
   have hkd:=h.kinds x hx
   simp only [bK,bY] at h7
   simp only [bE] at h8
   have hsl:seen.length=keys.length:=a5g h5
   have hin:insK x.1 keys=keys++[x.1]:=by unfold insK;rw [if_neg hxk]
   refine ⟨_,_,.mk (put (oS "value") (.d (enc x.2)) (put (oS "number") (.d (.int x.1)) tl)) xs (dput (.int x.1) (.bool true) seen) (insK x.1 keys) rfl h4 (a5f h5 _ _) ?_ h7.2 ?_,fun K hK => ?_⟩
   ·intro y hy
    refine ⟨(h6 y (.tail _ hy)).1,fun hm => ?_⟩
    rcases insK_mem.mp hm with e | hm
    ·exact h7.1 (e▸bT.mpr ⟨y,hy,rfl⟩)
    ·exact (h6 y (.tail _ hy)).2 hm
   ·rw [hin];simp;lia
   ·have hn:lk (oS "number") (a3p (.lst (pk.map pairD)) (put (oS "value") (.d (enc x.2)) (put (oS "number") (.d (.int x.1)) tl)))=some (.d (.int x.1)):=by
     rw [bs928_lk _ rfl rfl,a0q _ rfl,a0d _ _ _ rfl]
    have hv:lk (oS "value") (a3p (.lst (pk.map pairD)) (put (oS "value") (.d (enc x.2)) (put (oS "number") (.d (.int x.1)) tl)))=some (.d (enc x.2)):=by
     rw [bs928_lk _ rfl rfl,a0d _ _ _ rfl]
    refine Eq.trans (b:=evSs (EV calX (M+23)) sc928 f928 (put (oS "value") (.d (enc x.2)) (put (oS "number") (.d (.int x.1)) (a3p (.lst (pk.map pairD)) tl))) [O.dict seen] K) rfl ?_
    rw [b3n _ _ rfl rfl,b3n _ _ rfl rfl,f928,bf928]
    refine a0a (fun nx=>if_F (by rfl) (fun k=>ck_t (M:=M+10) hn (decide_eq_false (by lia)) (a0t h5 _) (by rw [a1z h5];exact decide_eq_false hxk) k) (by rfl)) ?_
    refine a0a (fun nx=>ck_a (M:=M+11) hn (a0t h5 _) (a0h (by lia))) ?_
    exact a0a (fun nx=>if_F (by rfl) (fun k=>ck_t2 (M:=M+10) hv hkd (lift (by lia) (kindX x.2 R)) k) (by rfl)) rfl
 ·rintro ρ σ q1_
  induction q1_ with | mk tl xs seen keys h1 h4 h5 h6 h7 h8 =>
  induction xs using aK with
  | cons x xs=>exact nNC h1
  | nil =>
   have h4:seen=ends pk []:=h4
   subst h4
   rfl
end Mine.Lw
end
section
set_option tactic.hygienic true
namespace Mine.Lw
open PySem
noncomputable def figChk (o:Nat):Bool:=match digitsOf (o:Int) with
 | [a]=>Nat.ble 48 a&&(Nat.ble a 57&&Nat.beq (a - 48) o)
 | [a,b]=>Nat.ble 48 a&&(Nat.ble a 57&&(Nat.ble 48 b&&(Nat.ble b 57&&Nat.beq ((a - 48) * 10+(b - 48)) o)))
 | _=>false
theorem figs_all:(cE 50).all figChk=true:=by kernel_rfl
theorem bnd {a:Nat} {b:Bool} (h:(Nat.ble 48 a&&(Nat.ble a 57&&b))=true):48≤a∧a≤57∧b=true :=
 ⟨cO (aA.mp h).1,cO (aA.mp (aA.mp h).2).1,(aA.mp (aA.mp h).2).2⟩
theorem fig_1 {a n:Nat} (h:48≤a) (e:a - 48=n):(a:Int) - 48=n:=e▸(Int.ofNat_sub h).symm
theorem fig_2 {a b n:Nat} (h:48≤a) (k:48≤b) (e:(a - 48) * 10+(b - 48)=n):((a:Int) - 48) * 10+b - 48=n:=by
 rw [← e,Int.natCast_add,Int.natCast_mul,Int.ofNat_sub h,Int.ofNat_sub k,Int.add_sub_assoc];rfl
theorem figs_of {n:Nat} (h:figChk n=true):(∃ a:Nat,digitsOf (n:Int)=[a]∧48≤a∧a≤57∧(a:Int) - 48=(n:Int))∨(∃ a b:Nat,digitsOf (n:Int)=[a,b]∧48≤a∧a≤57∧48≤b∧b≤57∧((a:Int) - 48) * 10+b - 48=(n:Int)):=by
 unfold figChk at h
 generalize digitsOf (n:Int)=l at h
 induction l using aK with
 | nil=>exact nFT h
 | cons a l=>induction l using aK with
  | nil =>
   refine eaa ?_ (bnd h);rintro h1 h2 h3
   exact .inl ⟨a,rfl,h1,h2,fig_1 h1 (cL h3)⟩
  | cons b l=>induction l using aK with
   | nil =>
    refine eaa ?_ (bnd h);rintro h1 h2 h3
    refine eaa ?_ (bnd h3);rintro k1 k2 k3
    exact .inr ⟨a,b,rfl,h1,h2,k1,k2,fig_2 h1 k1 (cL k3)⟩
   | cons _ _=>exact nFT h
theorem figs {o:Int} (h1:0≤o) (h2:o < 50):(∃ a:Nat,digitsOf o=[a]∧48≤a∧a≤57∧(a:Int) - 48=o)∨(∃ a b:Nat,digitsOf o=[a,b]∧48≤a∧a≤57∧48≤b∧b≤57∧((a:Int) - 48) * 10+b - 48=o):=by
 obtain ⟨n,rfl⟩:∃ n:Nat,o=n:=⟨o.toNat,by lia⟩
 have:=aF.mp figs_all n (List.mem_range.mpr (by lia))
 exact figs_of this
theorem a6x {o:Int} (h1:0≤o) (h2:o < 50):(digitsOf o).length≤2∧∀ c∈digitsOf o,c < 128:=by
 rcases figs h1 h2 with ⟨a,h,a1,a2,_⟩ | ⟨a,b,h,a1,a2,b1,b2,_⟩
 ·rw [h];exact ⟨cR 1,fun c hc=>bV.mp hc▸Nat.lt_of_le_of_lt a2 (by decide)⟩
 ·rw [h];exact ⟨by simp,by intro c hc;simp at hc;lia⟩
noncomputable def a3b (n o:Int):Str:=sCat (sCat ⟨(digitsOf n).toArray⟩ (oS " ")) ⟨(digitsOf o).toArray⟩
noncomputable def a3j:Int→List (Int×Kind)→List Str
 | _,[]=>[]
 | o,x::r=>a3b x.1 o::a3j (o+((octs x.2).length:Int)+1) r
theorem rowsL_c (o:Int) (x:Int×Kind) (r:List (Int×Kind)):a3j o (x::r)=a3b x.1 o::a3j (o+((octs x.2).length:Int)+1) r:=rfl
noncomputable def b5h (pk:List (Int×Kind)):Str:=sCat ⟨(a1m (oS " ").cps.toList ((a3j 0 pk).map fun x=>x.cps.toList)).toArray⟩ (oS "\n")
noncomputable def a0n (pk:List (Int×Kind)):List Nat:=(b5h pk).cps.toList
noncomputable def a3k (ks:List Kind):List Nat:=a1m [10] (ks.map octs)
theorem a5j (kk:Kind):(octs kk).length≤9:=by cases kk <;> exact cO rfl
theorem a9y:∀ l:List Str,strsOf (l.map D.str)=some l
 | []=>rfl
 | a::r=>congrArg (Option.map (a::·)) (a9y r)
theorem a8p:∀ l:List (List Nat),bytesOf? (l.map D.bytes)=some l
 | []=>rfl
 | a::r=>congrArg (Option.map (a::·)) (a8p r)
theorem joinL_len {α:Type} (sep:List α) (m:Nat):∀ l:List (List α),(∀ x∈l,x.length≤m)→(a1m sep l).length≤l.length * (m+sep.length)
 | [],_=>cY _
 | [a],h=>by have:=h a (.head _);rw [joinL_1];simp;exact Mine.le_up ‹_›
 | a::b::r,h=>by
  have h1:=h a (.head _)
  have h2:=joinL_len sep m (b::r) (fun x hx=>h x (.tail _ hx))
  simp only [joinL_2,bD,bE] at h2 ⊢
  rw [Nat.add_one_mul]
  lia
theorem a5x (n o:Int):(a3b n o).cps.toList=digitsOf n++[32]++digitsOf o:=by
 unfold a3b sCat
 rfl
theorem rowStr_ok {n o:Int} (h1:0≤n) (h2:n < 50) (h3:0≤o) (h4:o < 50):(a3b n o).cps.toList.length≤5∧∀ c∈(a3b n o).cps.toList,c < 128:=by
 refine aE ?_ (a6x h1 h2);rintro a1 a2
 refine aE ?_ (a6x h3 h4);rintro b1 b2
 rw [a5x]
 refine ⟨by simp;lia,fun c hc => ?_⟩
 simp only [bM,bV] at hc
 rcases hc with (hc | hc) | hc
 ·exact a2 c hc
 ·lia
 ·exact b2 c hc
noncomputable abbrev b935:List Stmt:=(fdOf 935).body
noncomputable abbrev a5k:Scope:=(fdOf 935).scope
noncomputable def f935:List Stmt:=fBody (stAt b935 4)
noncomputable def bs35 (ps:D) (o:Int) (tl:Loc):Loc:=(oS "pairs",.d ps)::(oS "rows",.r 0)::(oS "parts",.r 1)::(oS "offset",.d (.int o))::tl
noncomputable def σ35 (rs:List Str) (bs:List (List Nat)):St:=[.list (rs.map .str),.list (bs.map .bytes)]
section
variable {R:Type} {C:CalG R} {M:Nat} {K:KS R} {ps:D} {tl:Loc} {σ:St} {n o:Int} {kk:Kind} {rs:List Str} {bs:List (List Nat)}
theorem a8q (y:Str) (h1:seq y (oS "pairs")=false) (h2:seq y (oS "rows")=false) (h3:seq y (oS "parts")=false) (h4:seq y (oS "offset")=false):lk y (bs35 ps o tl)=lk y tl:=by
 unfold bs35
 simp only [lk_n,lk_c,h1,h2,h3,h4,cond_false]
theorem bs35_put (y:Str) (v:V) (h1:seq y (oS "pairs")=false) (h2:seq y (oS "rows")=false) (h3:seq y (oS "parts")=false) (h4:seq y (oS "offset")=false):put y v (bs35 ps o tl)=bs35 ps o (put y v tl):=by
 unfold bs35
 simp only [a6m,a7h,h1,h2,h3,h4,cond_false]
theorem la_0 (h:IsoC C M 928 [.d ps] .none):(EV C (M+12)).s a5k (stAt b935 0) [(oS "pairs",.d ps)] [] K=K.next [(oS "pairs",.d ps)] []:=by
 refine (h _ (by exact cN _ 10) _ _).trans ?_
 kernel_rfl
theorem la_1:(EV C (M+12)).s a5k (stAt b935 1) [(oS "pairs",.d ps)] [] K=K.next [(oS "pairs",.d ps),(oS "rows",.r 0)] [.list []]:=by
 kernel_rfl
theorem la_2:(EV C (M+12)).s a5k (stAt b935 2) [(oS "pairs",.d ps),(oS "rows",.r 0)] [.list []] K=K.next [(oS "pairs",.d ps),(oS "rows",.r 0),(oS "parts",.r 1)] (σ35 [] []):=by
 kernel_rfl
theorem la_3:(EV C (M+12)).s a5k (stAt b935 3) [(oS "pairs",.d ps),(oS "rows",.r 0),(oS "parts",.r 1)] (σ35 [] []) K=K.next (bs35 ps 0 []) (σ35 [] []):=by
 kernel_rfl
theorem lf_0 (hv:lk (oS "value") (bs35 ps o tl)=some (.d (enc kk))) (hw:IsoC C M 813 [.d (enc kk),.d (.bool true)] (.bytes (octs kk))) :
  (EV C (M+12)).s a5k (stAt f935 0) (bs35 ps o tl) (σ35 rs bs) K=K.next (bs35 ps o (put (oS "part") (.d (.bytes (octs kk))) tl)) (σ35 rs bs):=by
 refine mS hv ?_
 refine (hw _ (by exact cN _ 10) _ _).trans ?_
 kernel_rfl
theorem lf_1 (hn:lk (oS "number") (bs35 ps o tl)=some (.d (.int n))) (n1:0≤n) (n2:n < 50) (o1:0≤o) (o2:o < 50) (hr:rs.length≤4) :
  (EV C (M+12)).s a5k (stAt f935 1) (bs35 ps o tl) (σ35 rs bs) K=K.next (bs35 ps o tl) (σ35 (rs++[a3b n o]) bs):=by
 have a1:=(a6x n1 n2).1
 have a2:=(a6x o1 o2).1
 have hz:szOk (rs.map D.str).length=true:=a0h (by rw [bF];lia)
 have s1:a1f n=true:=a2b (by lia)
 have s2:a1f o=true:=a2b (by lia)
 have e1:szOk ((digitsOf n).length+1)=true:=a0h (by lia)
 have e2:szOk ((digitsOf n++[32]).length+(digitsOf o).length)=true:=a0h (by rw [bD];simp;lia)
 have fin:σ35 (rs++[a3b n o]) bs=[.list (rs.map .str++[.str (a3b n o)]),.list (bs.map .bytes)]:=by unfold σ35;rw [bI];rfl
 rw [fin]
 refine mS hn ?_
 refine cT s1 ?_
 refine cT e1 ?_
 refine cT s2 ?_
 refine cT e2 ?_
 refine cT hz ?_
 kernel_rfl
theorem lf_2 (hp:lk (oS "part") (bs35 ps o tl)=some (.d (.bytes (octs kk)))) (hr:bs.length≤4) :
  (EV C (M+12)).s a5k (stAt f935 2) (bs35 ps o tl) (σ35 rs bs) K=K.next (bs35 ps o tl) (σ35 rs (bs++[octs kk])):=by
 have hz:szOk (bs.map D.bytes).length=true:=a0h (by rw [bF];lia)
 have fin:σ35 rs (bs++[octs kk])=[.list (rs.map .str),.list (bs.map .bytes++[.bytes (octs kk)])]:=by unfold σ35;rw [bI];rfl
 rw [fin]
 refine mS hp ?_
 refine cT hz ?_
 kernel_rfl
theorem lf_3 (hp:lk (oS "part") (bs35 ps o tl)=some (.d (.bytes (octs kk)))) :
  (EV C (M+12)).s a5k (stAt f935 3) (bs35 ps o tl) (σ35 rs bs) K=K.next (bs35 ps (o+((octs kk).length:Int)+1) tl) (σ35 rs bs):=by
 have hz:szOk (octs kk).length=true:=a0h (by have:=a5j kk;lia)
 refine mS hp ?_
 refine cT hz ?_
 kernel_rfl
theorem la_5:(EV C (M+12)).s a5k (stAt b935 5) (bs35 ps o tl) (σ35 rs bs) K=K.next (bs35 ps o (put (oS "lead") (.d (.bytes [])) tl)) (σ35 rs bs):=by
 kernel_rfl
theorem la_6t (hr:rs.length≤4) (hne:(rs.map D.str).isEmpty=false) (k:Bool→St→Option R):(EV C (M+12)).t a5k (a1j (stAt b935 6)) (bs35 ps o tl) (σ35 rs bs) k=k true (σ35 rs bs):=by
 have hz:szOk (rs.map D.str).length=true:=a0h (by rw [bF];lia)
 refine cT hz ?_
 conv=>lhs;whnf
 rw [hne]
 kernel_rfl
theorem la_6a (l:Str) (hl:l=sCat ⟨(a1m (oS " ").cps.toList (rs.map fun x=>x.cps.toList)).toArray⟩ (oS "\n")) (g0:szOk (rs.map D.str).length=true) (g1:Nat.ble ((rs.map fun x=>x.cps.toList.length).sum+rs.length * (oS " ").cps.toList.length) 1000000=true) (g2:szOk ((a1m (oS " ").cps.toList (rs.map fun x=>x.cps.toList)).length+1)=true) (g3:(l.cps.toList.all (fun c=>cI c 128)&&szOk l.cps.toList.length)=true) :
  (EV C (M+12)).s a5k (stAt (a1r (stAt b935 6)) 0) (bs35 ps o tl) (σ35 rs bs) K=K.next (bs35 ps o (put (oS "lead") (.d (.bytes l.cps.toList)) tl)) (σ35 rs bs):=by
 subst hl
 refine cT g0 ?_
 conv=>lhs;whnf
 rw [a9y]
 refine cT g1 ?_
 refine cT g2 ?_
 refine cT g3 ?_
 kernel_rfl
theorem la_7 (l:List Nat) (hl:lk (oS "lead") (bs35 ps o tl)=some (.d (.bytes l))) (g0:szOk (bs.map D.bytes).length=true) (g1:szOk (a1m [10] bs).length=true) (g2:szOk (l.length+(a1m [10] bs).length)=true) (g3:szOk l.length=true) :
  (EV C (M+12)).s a5k (stAt b935 7) (bs35 ps o tl) (σ35 rs bs) K=K.ret (.d (.tup [.bytes (l++a1m [10] bs),.int l.length])) (σ35 rs bs):=by
 refine mS hl ?_
 refine cT g0 ?_
 conv=>lhs;whnf
 rw [a8p]
 refine cT g1 ?_
 refine cT g2 ?_
 refine mS hl ?_
 refine cT g3 ?_
 kernel_rfl
end
end Mine.Lw
end
section
namespace Mine.Lw
open PySem
theorem fd935:tabs.fn 935=some (fdOf 935):=by kernel_rfl
theorem bd935:b935=[stAt b935 0,stAt b935 1,stAt b935 2,stAt b935 3,stAt b935 4,stAt b935 5,stAt b935 6,stAt b935 7]:=by kernel_rfl
theorem bf935:fBody (stAt b935 4)=[stAt f935 0,stAt f935 1,stAt f935 2,stAt f935 3]:=by kernel_rfl
theorem bi935:a1r (stAt b935 6)=[stAt (a1r (stAt b935 6)) 0]:=by kernel_rfl
theorem a8r:∀ (o:Int) (pk:List (Int×Kind)),(a3j o pk).length=pk.length
 | _,[]=>rfl
 | o,x::r=>by simp only [rowsL_c,bE,a8r]
theorem rowsL_ok:∀ (pk:List (Int×Kind)) (o:Int),0≤o→o+10 * pk.length≤40→(∀ x∈pk,1≤x.1∧x.1≤9)→∀ s∈a3j o pk,s.cps.toList.length≤5∧∀ c∈s.cps.toList,c < 128
 | [],_,_,_,_,s,hs=>by cases hs
 | x::r,o,h1,h2,h3,s,hs=>by
  have hx:=h3 x (.head _)
  have hl:=a5j x.2
  simp only [bE] at h2
  rcases bP.mp hs with rfl | hs
  ·exact rowStr_ok (by lia) (by lia) h1 (by lia)
  ·exact rowsL_ok r _ (by lia) (by lia) (fun y hy=>h3 y (.tail _ hy)) s hs
theorem b3o {α:Type} (p:α→Prop) (sep:List α) (hs:∀ c∈sep,p c):∀ l:List (List α),(∀ x∈l,∀ c∈x,p c)→∀ c∈a1m sep l,p c
 | [],_,c,hc=>by cases hc
 | [a],h,c,hc=>h a (.head _) c hc
 | a::b::r,h,c,hc=>by
  simp only [joinL_2,bM] at hc
  rcases hc with (hc | hc) | hc
  ·exact h a (.head _) c hc
  ·exact hs c hc
  ·exact b3o p sep hs (b::r) (fun x hx=>h x (.tail _ hx)) c hc
theorem sum_le (m:Nat):∀ l:List Nat,(∀ x∈l,x≤m)→l.sum≤l.length * m
 | [],_=>by simp
 | a::r,h=>by
  have h1:=h a (.head _)
  have h2:=sum_le m r (fun x hx=>h x (.tail _ hx))
  simp only [List.sum_cons,bE]
  rw [Nat.add_one_mul]
  lia
theorem a8s (pk:List (Int×Kind)):(b5h pk).cps.toList=a1m [32] ((a3j 0 pk).map fun x=>x.cps.toList)++[10]:=by
 unfold b5h sCat
 rfl
theorem a9z {pk:List (Int×Kind)} (h:PkOk pk):(a1m [32] ((a3j 0 pk).map fun x=>x.cps.toList)).length≤24∧(∀ c∈a0n pk,c < 128)∧(a0n pk).length≤25∧(((a3j 0 pk).map fun x=>x.cps.toList.length).sum)≤20:=by
 have hk:=rowsL_ok pk 0 (by decide) (by have:=h.few;lia) h.rng
 have hl:=a8r 0 pk
 have hf:=h.few
 have j:=joinL_len [32] 5 ((a3j 0 pk).map fun x=>x.cps.toList) (fun x hx=>by
  refine exa ?_ (bT.mp hx);rintro s hs rfl
  exact (hk s hs).1)
 have ja:=b3o (· < 128) [32] (by intro c hc;simp at hc;lia) ((a3j 0 pk).map fun x=>x.cps.toList) (fun x hx=>by
  refine exa ?_ (bT.mp hx);rintro s hs rfl
  exact (hk s hs).2)
 have sm:=sum_le 5 ((a3j 0 pk).map fun x=>x.cps.toList.length) (fun x hx=>by
  refine exa ?_ (bT.mp hx);rintro s hs rfl
  exact (hk s hs).1)
 simp only [bF,hl,bE,List.length_nil] at j sm
 refine ⟨by lia,?_,?_,by lia⟩
 ·intro c hc
  unfold a0n at hc
  rw [a8s] at hc
  rcases bM.mp hc with hc | hc
  ·exact ja c hc
  ·simp at hc;lia
 ·unfold a0n
  rw [a8s,bD]
  simp only [bE,List.length_nil]
  lia
theorem body_len (ks:List Kind):(a3k ks).length≤ks.length * 10:=by
 have:=joinL_len [10] 9 (ks.map octs) (fun x hx=>by
  refine exa ?_ (bT.mp hx);rintro s hs rfl
  exact a5j s)
 simpa [a3k] using this
inductive I35 (pk:List (Int×Kind)) (ds:List D):Loc→St→Prop
 | mk (tl:Loc) (xs:List (Int×Kind)) (rs:List Str) (bs:List (List Nat)) (o:Int):ds=xs.map pairD→rs++a3j o xs=a3j 0 pk→bs++xs.map (fun x=>octs x.2)=pk.map (fun x=>octs x.2)→0≤o→o+10 * xs.length≤40→(∀ x∈xs,x∈pk)→I35 pk ds (bs35 (.lst (pk.map pairD)) o tl) (σ35 rs bs)
theorem laidX {pk:List (Int×Kind)} (h:PkOk pk) (hne:pk≠[]):∀ (R:Type),IsoC (calX:CalG R) 140 935 [.d (.lst (pk.map pairD))] (.tup [.bytes (a0n pk++a3k (pk.map (·.2))),.int (a0n pk).length]):=by
 refine eaaa ?_ (a9z h);rintro l1 l2 l3 l4
 have l5:=body_len (pk.map (·.2))
 rw [bF] at l5
 have hf:=h.few
 have hrl:=a8r 0 pk
 have hbs:(pk.map fun x=>octs x.2)=(pk.map (·.2)).map octs:=by rw [bL];rfl
 refine a3a 24 (c:=115) (ds:=[.lst (pk.map pairD)]) (v := .d (.tup [.bytes (a0n pk++a3k (pk.map (·.2))),.int (a0n pk).length])) (σ':=σ35 (a3j 0 pk) (pk.map fun x=>octs x.2)) (by rfl) (by rfl) fd935 (by rfl) (by rfl) rfl (fun z0 z0 z0=>rfl) fun R M hM k => ?_
 refine a3y (ρ:=[(oS "pairs",.d (.lst (pk.map pairD)))]) (σ':=[]) bd935 rfl rfl ?_
 refine a0a (fun nx=>la_0 (M:=M+12) (lift (by lia) (checkX h R))) ?_
 refine a0a (fun nx=>la_1 (M:=M+12)) ?_
 refine a0a (fun nx=>la_2 (M:=M+12)) ?_
 refine a0a (fun nx=>la_3 (M:=M+12)) ?_
 refine b1c (n:=M+23) (xs:=pk.map pairD) (I35 pk) (by rfl) (fun k=>(by kernel_rfl:(EV calX (M+23)).e a5k (a5u (stAt b935 4)) (bs35 (.lst (pk.map pairD)) 0 []) (σ35 [] []) k=k (.d (.lst (pk.map pairD))) (σ35 [] []))) (fun k=>rfl) ?_ (.mk [] pk [] [] 0 rfl rfl rfl (by decide) (by lia) fun x hx=>hx) ?_
 ·rintro d ds ρ σ q1_
  induction q1_ with | mk tl xs rs bs o h1 h4 h5 h6 h7 h8 =>
  induction xs using aK with
  | nil=>exact nCN h1
  | cons x xs =>
   refine aE ?_ (aL.inj h1);rintro rfl rfl
   have hx:=h8 x (.head _)
   have hr:=h.rng x hx
   have hkd:=h.kinds x hx
   have hol:=a5j x.2
   simp only [bE] at h7
   have hrl':rs.length≤4:=by have:=congrArg List.length h4;rw [bD,hrl] at this;lia
   have hbl':bs.length≤4:=by have:=congrArg List.length h5;rw [bD,bF,bF] at this;lia
   refine ⟨_,_,.mk (put (oS "part") (.d (.bytes (octs x.2))) (put (oS "value") (.d (enc x.2)) (put (oS "number") (.d (.int x.1)) tl))) xs (rs++[a3b x.1 o]) (bs++[octs x.2]) (o+((octs x.2).length:Int)+1) rfl ?_ ?_ (by lia) (by lia) (fun y hy=>h8 y (.tail _ hy)),fun K hK => ?_⟩
   ·rw [aI];exact h4
   ·rw [aI];exact h5
   ·refine Eq.trans (b:=evSs (EV calX (M+23)) a5k f935 (put (oS "value") (.d (enc x.2)) (put (oS "number") (.d (.int x.1)) (bs35 (.lst (pk.map pairD)) o tl))) (σ35 rs bs) K) rfl ?_
    rw [bs35_put _ _ rfl rfl rfl rfl,bs35_put _ _ rfl rfl rfl rfl,f935,bf935]
    refine a0a (fun nx=>lf_0 (M:=M+11) (by rw [a8q _ rfl rfl rfl rfl,a0d _ _ _ rfl]) (lift (by lia) (writeX x.2 hkd R))) ?_
    refine a0a (fun nx=>lf_1 (M:=M+11) (n:=x.1) (by rw [a8q _ rfl rfl rfl rfl,a0q _ rfl,a0q _ rfl,a0d _ _ _ rfl]) (by lia) (by lia) h6 (by lia) hrl') ?_
    refine a0a (fun nx=>lf_2 (M:=M+11) (kk:=x.2) (by rw [a8q _ rfl rfl rfl rfl,a0d _ _ _ rfl]) hbl') ?_
    exact a0a (fun nx=>lf_3 (M:=M+11) (kk:=x.2) (by rw [a8q _ rfl rfl rfl rfl,a0d _ _ _ rfl])) rfl
 ·rintro ρ σ q1_
  induction q1_ with | mk tl xs rs bs o h1 h4 h5 h6 h7 h8 =>
  induction xs using aK with
  | cons x xs=>exact nNC h1
  | nil =>
   have h4:rs=a3j 0 pk:=(aJ rs).symm.trans h4
   have h5:bs=pk.map fun x=>octs x.2:=by simpa using h5
   subst h4 h5
   refine a0a (fun nx=>la_5 (M:=M+12)) ?_
   refine a0a (ρ':=bs35 (.lst (pk.map pairD)) o (put (oS "lead") (.d (.bytes (b5h pk).cps.toList)) (put (oS "lead") (.d (.bytes [])) tl))) (σ':=σ35 (a3j 0 pk) (pk.map fun x=>octs x.2)) (fun nx=>if_T (by rfl) (fun k=>la_6t (M:=M+11) (by lia) ?_ k) ?_) ?_
   ·induction pk using aK with
    | nil=>exact absurd rfl hne
    | cons x r=>rfl
   ·rw [bi935]
    exact a0a (fun nx=>la_6a (M:=M+11) (b5h pk) rfl (a0h (by rw [bF];lia)) (Nat.ble_eq_true_of_le (by rw [hrl];simp only [show (oS " ").cps.toList.length=1 from rfl];lia)) (a0h (by
     have:(oS " ").cps.toList=[32]:=rfl
     rw [this];lia)) (by
     have e1:((b5h pk).cps.toList.all fun c=>cI c 128)=true:=aF.mpr fun c hc=>cJ.mpr (l2 c hc)
     have e2:szOk (b5h pk).cps.toList.length=true:=a0h (by unfold a0n at l3;lia)
     rw [e1,e2];rfl)) rfl
   ·rw [hbs]
    have hB:a1m [10] ((pk.map (·.2)).map octs)=a3k (pk.map (·.2)):=rfl
    refine a0j fun nx=>(la_7 (M:=M+12) (a0n pk) (by rw [a8q _ rfl rfl rfl rfl,a0d _ _ _ rfl];rfl) (a0h (by rw [bF,bF,bF];lia)) (by rw [hB];exact a0h (by lia)) (by rw [hB];exact a0h (by lia)) (a0h (by lia))).trans rfl
end Mine.Lw
end
section
namespace Mine.Lw
open PySem
noncomputable def σC (rest:List Nat) (found:List D):St:=[.inst 211 1,.ns [(S "data",.d .buf),(S "at",.d (.pos rest 0)),(S "end",.d (.endp none))],.list found]
noncomputable abbrev AtC {R:Type} (C:CalG R) (M a:Nat) (rest:List Nat) (x:D) (rest':List Nat):Prop:=∀ n,M≤n→∀ (found:List D) (k:V→St→Option R),C n a [.r 0] (σC rest found) k=k (.d x) (σC rest' found)
theorem peekS (R:Type) (m c:Nat) (r:List Nat) (found:List D) (k:V→St→Option R):a0g tabs (ev tabs (m+20)) (.d (.g 138)) [.r 0] (σC (c::r) found) k=k (.d (.int c)) (σC (c::r) found):=by kernel_rfl
theorem takeS (R:Type) (m c:Nat) (r:List Nat) (found:List D) (k:V→St→Option R):a0g tabs (ev tabs (m+20)) (.d (.g 145)) [.r 0] (σC (c::r) found) k=k (.d (.int c)) (σC r found):=by kernel_rfl
noncomputable def b3p (c:Nat):Prop:=48≤c∧c≤57
theorem a8t {c:Nat} (h:b3p c):c=48∨c=49∨c=50∨c=51∨c=52∨c=53∨c=54∨c=55∨c=56∨c=57:=(by decide +kernel:∀ c,c≤57→48≤c→c=48∨c=49∨c=50∨c=51∨c=52∨c=53∨c=54∨c=55∨c=56∨c=57) c h.2 h.1
theorem figS {c:Nat} (h:b3p c) (R:Type) (m:Nat) (σ:St) (k:V→St→Option R):a0g tabs (ev tabs (m+20)) (.d (.g 108)) [.d (.int (c:Int))] σ k=k (.d (.bool true)) σ:=by
 rcases a8t h with rfl | rfl | rfl | rfl | rfl | rfl | rfl | rfl | rfl | rfl
 ·kernel_rfl
 ·kernel_rfl
 ·kernel_rfl
 ·kernel_rfl
 ·kernel_rfl
 ·kernel_rfl
 ·kernel_rfl
 ·kernel_rfl
 ·kernel_rfl
 ·kernel_rfl
noncomputable def isGap (c:Nat):Prop:=c=32∨c=10
theorem gapS {c:Nat} (h:isGap c) (R:Type) (m:Nat) (σ:St) (k:V→St→Option R):a0g tabs (ev tabs (m+20)) (.d (.g 108)) [.d (.int (c:Int))] σ k=k (.d (.bool false)) σ:=by
 rcases h with rfl | rfl
 ·kernel_rfl
 ·kernel_rfl
theorem skip0S {c:Nat} (h:b3p c) (R:Type) (m:Nat) (r:List Nat) (found:List D) (k:V→St→Option R):a0g tabs (ev tabs (m+30)) (.d (.g 166)) [.r 0] (σC (c::r) found) k=k (.d .none) (σC (c::r) found):=by
 rcases a8t h with rfl | rfl | rfl | rfl | rfl | rfl | rfl | rfl | rfl | rfl
 ·kernel_rfl
 ·kernel_rfl
 ·kernel_rfl
 ·kernel_rfl
 ·kernel_rfl
 ·kernel_rfl
 ·kernel_rfl
 ·kernel_rfl
 ·kernel_rfl
 ·kernel_rfl
theorem skip1S {c:Nat} (h:b3p c) (R:Type) (m:Nat) (r:List Nat) (found:List D) (k:V→St→Option R):a0g tabs (ev tabs (m+30)) (.d (.g 166)) [.r 0] (σC (32::c::r) found) k=k (.d .none) (σC (c::r) found):=by
 rcases a8t h with rfl | rfl | rfl | rfl | rfl | rfl | rfl | rfl | rfl | rfl
 ·kernel_rfl
 ·kernel_rfl
 ·kernel_rfl
 ·kernel_rfl
 ·kernel_rfl
 ·kernel_rfl
 ·kernel_rfl
 ·kernel_rfl
 ·kernel_rfl
 ·kernel_rfl
section
variable {R:Type} {c:Nat} {r:List Nat}
theorem peekX:AtC (calX:CalG R) 21 138 (c::r) (.int c) (c::r):=up fun m found k=>by
 rw [show m+21=(m+20)+1 from rfl,a0z,a2z];exact peekS R m c r found k
theorem takeX:AtC (calX:CalG R) 21 145 (c::r) (.int c) r:=up fun m found k=>by
 rw [show m+21=(m+20)+1 from rfl,a0z,a2z];exact takeS R m c r found k
theorem figX (h:b3p c):IsoC (calX:CalG R) 21 108 [.d (.int (c:Int))] (.bool true):=up fun m σ k=>by
 rw [show m+21=(m+20)+1 from rfl,a0z,a2z];exact figS h R m σ k
theorem gapX (h:isGap c):IsoC (calX:CalG R) 21 108 [.d (.int (c:Int))] (.bool false):=up fun m σ k=>by
 rw [show m+21=(m+20)+1 from rfl,a0z,a2z];exact gapS h R m σ k
theorem skip0X (h:b3p c):AtC (calX:CalG R) 31 166 (c::r) .none (c::r):=up fun m found k=>by
 rw [show m+31=(m+30)+1 from rfl,a0z,a2z];exact skip0S h R m r found k
theorem skip1X (h:b3p c):AtC (calX:CalG R) 31 166 (32::c::r) .none (c::r):=up fun m found k=>by
 rw [show m+31=(m+30)+1 from rfl,a0z,a2z];exact skip1S h R m r found k
end
end Mine.Lw
end
section
namespace Mine.Lw
open PySem
noncomputable abbrev b194:List Stmt:=(fdOf 194).body
noncomputable abbrev sc194:Scope:=(fdOf 194).scope
noncomputable def ρN (rest:List Nat) (v:Int):Loc:=[(oS "self",.r 0),(oS "first",.d (.pos rest 0)),(oS "number",.d (.int v))]
section
variable {R:Type} {C:CalG R} {M:Nat} {K:KS R} {a b t:Nat} {r full:List Nat} {found:List D} {v:Int}
theorem nu_0:(EV C (M+12)).s sc194 (stAt b194 0) [(oS "self",.r 0)] (σC full found) K=K.next [(oS "self",.r 0),(oS "first",.d (.pos full 0))] (σC full found):=by kernel_rfl
theorem nu_1:(EV C (M+12)).s sc194 (stAt b194 1) [(oS "self",.r 0),(oS "first",.d (.pos full 0))] (σC full found) K=K.next (ρN full 0) (σC full found):=by kernel_rfl
theorem nu_2a (p1:AtC C M 138 (a::t::r) (.int a) (a::t::r)) (f1:IsoC C M 108 [.d (.int (a:Int))] (.bool true)) (t1:AtC C M 145 (a::t::r) (.int a) (t::r)) (p2:AtC C M 138 (t::r) (.int t) (t::r)) (f2:IsoC C M 108 [.d (.int (t:Int))] (.bool false)) :
  (EV C (M+12)).s sc194 (stAt b194 2) (ρN full 0) (σC (a::t::r) found) K=K.next (ρN full (0 * 10+a - 48)) (σC (t::r) found):=by
 refine (p1 _ (by exact cN _ 8) _ _).trans ?_
 refine (f1 _ (by exact cN _ 9) _ _).trans ?_
 refine (t1 _ (by exact cN _ 7) _ _).trans ?_
 refine (p2 _ (by exact cN _ 8) _ _).trans ?_
 refine (f2 _ (by exact cN _ 9) _ _).trans ?_
 kernel_rfl
theorem nu_2b (hs:a1f (0 * 10+(a:Int) - 48)=true) (p1:AtC C M 138 (a::b::t::r) (.int a) (a::b::t::r)) (f1:IsoC C M 108 [.d (.int (a:Int))] (.bool true)) (t1:AtC C M 145 (a::b::t::r) (.int a) (b::t::r)) (p2:AtC C M 138 (b::t::r) (.int b) (b::t::r)) (f2:IsoC C M 108 [.d (.int (b:Int))] (.bool true)) (t2:AtC C M 145 (b::t::r) (.int b) (t::r)) (p3:AtC C M 138 (t::r) (.int t) (t::r)) (f3:IsoC C M 108 [.d (.int (t:Int))] (.bool false)) :
  (EV C (M+12)).s sc194 (stAt b194 2) (ρN full 0) (σC (a::b::t::r) found) K=K.next (ρN full ((0 * 10+a - 48) * 10+b - 48)) (σC (t::r) found):=by
 refine (p1 _ (by exact cN _ 8) _ _).trans ?_
 refine (f1 _ (by exact cN _ 9) _ _).trans ?_
 refine (t1 _ (by exact cN _ 7) _ _).trans ?_
 refine (p2 _ (by exact cN _ 8) _ _).trans ?_
 refine (f2 _ (by exact cN _ 9) _ _).trans ?_
 refine cT hs ?_
 refine (t2 _ (by exact cN _ 7) _ _).trans ?_
 refine (p3 _ (by exact cN _ 8) _ _).trans ?_
 refine (f3 _ (by exact cN _ 9) _ _).trans ?_
 kernel_rfl
theorem nu_3t {rest:List Nat} (h1:Nat.beq (rest.length+0) (full.length+0)=false) (h2:decide ((20:Int) < ((full.length:Int)+(0:Nat) - rest.length - (0:Nat)))=false) (k:Bool→St→Option R) :
  (EV C (M+12)).t sc194 (a1j (stAt b194 3)) (ρN full v) (σC rest found) k=k false (σC rest found):=by
 refine cF h1 ?_
 refine cF h2 ?_
 kernel_rfl
theorem nu_4:(EV C (M+12)).s sc194 (stAt b194 4) (ρN full v) (σC r found) K=K.ret (.d (.int v)) (σC r found):=by kernel_rfl
end
theorem beq_ne {a b:Nat} (h:a≠b):Nat.beq a b=false:=by
 cases hb:Nat.beq a b with
 | false=>rfl
 | true=>exact absurd (beq_eq hb) h
theorem fd194:tabs.fn 194=some (fdOf 194):=by kernel_rfl
theorem bd194:b194=[stAt b194 0,stAt b194 1,stAt b194 2,stAt b194 3,stAt b194 4]:=by kernel_rfl
theorem at_of {a c:Nat} {fd:FnRec} {x:D} {rest rest':List Nat} (q:Nat) (h1:Nat.beq a tabs.refused=false) (h2:tabs.cls a=none) (h3:tabs.fn a=some fd) (h4:Nat.beq a tabs.reader=false) (h5:Nat.beq a tabs.reader2=false)
  (h:∀ (R:Type) (M:Nat),c≤M→∀ (found:List D) (k:V→St→Option R),a0f (EV calX (M+q)) fd [.r 0] (σC rest found) k=k (.d x) (σC rest' found)):∀ (R:Type),AtC (calX:CalG R) (c+q+1) a rest x rest':=by
 intro R n hn found k
 refine exa ?_ (exM (k:=q+1) hn);rintro M rfl hM
 show calX (M+q+1) a [.r 0] (σC rest found) k=_
 rw [a4n h1 h2 h3]
 unfold a5n
 rw [h4,h5]
 refine Eq.trans (b:=runGen (EV calX (M+q)) fd [.r 0] (σC rest found) k) (by kernel_rfl) ?_
 exact (h R M hM found _).trans rfl
theorem numberX {o:Int} (h1:0≤o) (h2:o < 50) {t:Nat} (ht:isGap t) (r:List Nat):∀ (R:Type),AtC (calX:CalG R) 60 194 (digitsOf o++t::r) (.int o) (t::r):=by
 refine at_of 24 (c:=35) (by rfl) (by rfl) fd194 (by rfl) (by rfl) fun R M hM found k => ?_
 refine a3y (ρ:=[(oS "self",.r 0)]) (σ':=σC (digitsOf o++t::r) found) bd194 rfl rfl ?_
 refine a0a (fun nx=>nu_0 (M:=M+12)) (a0a (fun nx=>nu_1 (M:=M+12)) ?_)
 rcases figs h1 h2 with ⟨a,ha,a1,a2,a3⟩ | ⟨a,b,ha,a1,a2,b1,b2,a3⟩
 ·rw [ha]
  refine a0a (fun nx=>nu_2a (M:=M+12) (lift (by lia) peekX) (lift (by lia) (figX ⟨a1,a2⟩)) (lift (by lia) takeX) (lift (by lia) peekX) (lift (by lia) (gapX ht))) ?_
  have e:(0 * 10+(a:Int) - 48)=o:=by rw [Int.zero_mul,Int.zero_add];exact a3
  rw [e]
  refine a0a (fun nx=>if_F (by rfl) (fun k=>nu_3t (M:=M+11) ?_ ?_ k) (by rfl)) (a0j fun nx=>nu_4 (M:=M+12))
  ·exact beq_ne (by simp)
  ·exact decide_eq_false (by simp;lia)
 ·rw [ha]
  refine a0a (fun nx=>nu_2b (M:=M+12) (a2b (by lia)) (lift (by lia) peekX) (lift (by lia) (figX ⟨a1,a2⟩)) (lift (by lia) takeX) (lift (by lia) peekX) (lift (by lia) (figX ⟨b1,b2⟩)) (lift (by lia) takeX) (lift (by lia) peekX) (lift (by lia) (gapX ht))) ?_
  have e:(0 * 10+(a:Int) - 48) * 10+(b:Int) - 48=o:=by rw [Int.zero_mul,Int.zero_add];exact a3
  rw [e]
  refine a0a (fun nx=>if_F (by rfl) (fun k=>nu_3t (M:=M+11) ?_ ?_ k) (by rfl)) (a0j fun nx=>nu_4 (M:=M+12))
  ·exact beq_ne (by simp)
  ·exact decide_eq_false (by simp;lia)
noncomputable abbrev b834:List Stmt:=(fdOf 834).body
noncomputable abbrev sc834:Scope:=(fdOf 834).scope
section
variable {R:Type} {C:CalG R} {M:Nat} {K:KS R} {r r1 r2:List Nat} {found:List D} {v:Int}
theorem nc_0 (h:AtC C M 166 r .none r1):(EV C (M+12)).s sc834 (stAt b834 0) [(oS "cursor",.r 0)] (σC r found) K=K.next [(oS "cursor",.r 0)] (σC r1 found):=by
 refine (h _ (by exact cN _ 10) _ _).trans ?_
 kernel_rfl
theorem nc_1 (h:AtC C M 194 r1 (.int v) r2):(EV C (M+12)).s sc834 (stAt b834 1) [(oS "cursor",.r 0)] (σC r1 found) K=K.next [(oS "cursor",.r 0),(oS "number",.d (.int v))] (σC r2 found):=by
 refine (h _ (by exact cN _ 10) _ _).trans ?_
 kernel_rfl
theorem nc_2:(EV C (M+12)).s sc834 (stAt b834 2) [(oS "cursor",.r 0),(oS "number",.d (.int v))] (σC r found) K=K.next [(oS "cursor",.r 0),(oS "number",.d (.int v))] (σC r found):=by
 kernel_rfl
theorem nc_3:(EV C (M+12)).s sc834 (stAt b834 3) [(oS "cursor",.r 0),(oS "number",.d (.int v))] (σC r found) K=K.ret (.d (.int v)) (σC r found):=by
 kernel_rfl
end
theorem fd834:tabs.fn 834=some (fdOf 834):=by kernel_rfl
theorem bd834:b834=[stAt b834 0,stAt b834 1,stAt b834 2,stAt b834 3]:=by kernel_rfl
theorem digs_head {o:Int} (h1:0≤o) (h2:o < 50):∃ c l,digitsOf o=c::l∧b3p c:=by
 rcases figs h1 h2 with ⟨a,ha,a1,a2,_⟩ | ⟨a,b,ha,a1,a2,_⟩
 ·exact ⟨a,[],ha,a1,a2⟩
 ·exact ⟨a,[b],ha,a1,a2⟩
theorem nextX {o:Int} (h1:0≤o) (h2:o < 50) {t:Nat} (ht:isGap t) (r:List Nat):∀ (R:Type),AtC (calX:CalG R) 100 834 (digitsOf o++t::r) (.int o) (t::r)∧AtC (calX:CalG R) 100 834 (32::(digitsOf o++t::r)) (.int o) (t::r):=by
 refine exxa ?_ (digs_head h1 h2);rintro c l hc hd
 have e:digitsOf o++t::r=c::(l++t::r):=by rw [hc];rfl
 refine fun R=>⟨at_of 24 (c:=75) (by rfl) (by rfl) fd834 (by rfl) (by rfl) (fun R M hM found k => ?_) R,at_of 24 (c:=75) (by rfl) (by rfl) fd834 (by rfl) (by rfl) (fun R M hM found k => ?_) R⟩
 ·refine a3y (ρ:=[(oS "cursor",.r 0)]) (σ':=σC (digitsOf o++t::r) found) bd834 rfl rfl ?_
  refine a0a (fun nx=>nc_0 (M:=M+12) (r1:=digitsOf o++t::r) (by rw [e];exact lift (by lia) (skip0X hd))) ?_
  exact a0a (fun nx=>nc_1 (M:=M+12) (lift (by lia) (numberX h1 h2 ht r R))) (a0a (fun nx=>nc_2 (M:=M+12)) (a0j fun nx=>nc_3 (M:=M+12)))
 ·refine a3y (ρ:=[(oS "cursor",.r 0)]) (σ':=σC (32::(digitsOf o++t::r)) found) bd834 rfl rfl ?_
  refine a0a (fun nx=>nc_0 (M:=M+12) (r1:=digitsOf o++t::r) (by rw [e];exact lift (by lia) (skip1X hd))) ?_
  exact a0a (fun nx=>nc_1 (M:=M+12) (lift (by lia) (numberX h1 h2 ht r R))) (a0a (fun nx=>nc_2 (M:=M+12)) (a0j fun nx=>nc_3 (M:=M+12)))
end Mine.Lw
end
section
namespace Mine.Lw
open PySem
noncomputable def a2d:Int→List (Int×Kind)→List (Int×Int)
 | _,[]=>[]
 | o,x::r=>(x.1,o)::a2d (o+((octs x.2).length:Int)+1) r
theorem b5i (o:Int) (x:Int×Kind) (r:List (Int×Kind)):a2d o (x::r)=(x.1,o)::a2d (o+((octs x.2).length:Int)+1) r:=rfl
noncomputable def pO (x:Int×Int):D := .tup [.int x.1,.int x.2]
noncomputable def b1h:List (List Nat)→List Nat
 | []=>[10]
 | x::r=>32::(x++b1h r)
theorem b3q:∀ (x:List Nat) (r:List (List Nat)),a1m [32] (x::r)++[10]=x++b1h r
 | x,[]=>rfl
 | x,y::r=>by
  have:=b3q y r
  show x++[32]++a1m [32] (y::r)++[10]=x++32::(y++b1h r)
  rw [aI,this,aI]
  rfl
theorem tail_head (l:List (List Nat)):∃ t r,b1h l=t::r∧isGap t:=by
 induction l using aK with
 | nil=>exact ⟨10,[],rfl,.inr rfl⟩
 | cons x r=>exact ⟨32,_,rfl,.inl rfl⟩
noncomputable def cpsL (o:Int) (pk:List (Int×Kind)):List (List Nat):=(a3j o pk).map fun x=>x.cps.toList
theorem leadL_cons (x:Int×Kind) (r:List (Int×Kind)):a0n (x::r)=digitsOf x.1++32::(digitsOf 0++b1h (cpsL (0+((octs x.2).length:Int)+1) r)):=by
 unfold a0n
 refine Eq.trans (a8s _) ?_
 have:((a3j 0 (x::r)).map fun x=>x.cps.toList)=(a3b x.1 0).cps.toList::cpsL (0+((octs x.2).length:Int)+1) r:=rfl
 rewrite [this]
 refine Eq.trans (b3q _ _) ?_
 rw [a5x]
 simp
theorem cpsL_cons (o:Int) (x:Int×Kind) (r:List (Int×Kind)):b1h (cpsL o (x::r))=32::(digitsOf x.1++32::(digitsOf o++b1h (cpsL (o+((octs x.2).length:Int)+1) r))):=by
 have:cpsL o (x::r)=(a3b x.1 o).cps.toList::cpsL (o+((octs x.2).length:Int)+1) r:=rfl
 rw [this]
 show 32::((a3b x.1 o).cps.toList++_)=_
 rw [a5x]
 simp
noncomputable abbrev b841:List Stmt:=(fdOf 841).body
noncomputable abbrev a6p:Scope:=(fdOf 841).scope
noncomputable def f841:List Stmt:=fBody (stAt b841 2)
noncomputable def bs41 (H:List Nat) (m:Int) (tl:Loc):Loc:=(oS "data",.d .buf)::(oS "first",.d (.endp (some H)))::(oS "many",.d (.int m))::(oS "cursor",.r 0)::(oS "found",.r 2)::tl
noncomputable abbrev CurC {R:Type} (C:CalG R) (M:Nat) (H:List Nat):Prop:=∀ n,M≤n→∀ (k:V→St→Option R),C n 211 [.d .buf,.d (.int 0),.d (.endp (some H))] [] k=k (.r 0) [.inst 211 1,.ns [(S "data",.d .buf),(S "at",.d (.pos H 0)),(S "end",.d (.endp none))]]
theorem curS (R:Type) (m:Nat) (H:List Nat) (k:V→St→Option R):a0g tabs (ev tabs (m+20)) (.d (.g 211)) [.d .buf,.d (.int 0),.d (.endp (some H))] [] k=k (.r 0) [.inst 211 1,.ns [(S "data",.d .buf),(S "at",.d (.pos H 0)),(S "end",.d (.endp none))]]:=by kernel_rfl
theorem curX {R:Type} (H:List Nat):CurC (calX:CalG R) 21 H:=up fun m k=>by
 rw [show m+21=(m+20)+1 from rfl,a0z,a2z];exact curS R m H k
section
variable {R:Type} {C:CalG R} {M:Nat} {K:KS R} {H rest rest':List Nat} {m n o o':Int} {tl:Loc} {found:List D} {fs:List (Int×Int)}
theorem b1i (y:Str) (h1:seq y (oS "data")=false) (h2:seq y (oS "first")=false) (h3:seq y (oS "many")=false) (h4:seq y (oS "cursor")=false) (h5:seq y (oS "found")=false):lk y (bs41 H m tl)=lk y tl:=by
 unfold bs41
 simp only [lk_n,lk_c,h1,h2,h3,h4,h5,cond_false]
theorem bs41_put (y:Str) (v:V) (h1:seq y (oS "data")=false) (h2:seq y (oS "first")=false) (h3:seq y (oS "many")=false) (h4:seq y (oS "cursor")=false) (h5:seq y (oS "found")=false):put y v (bs41 H m tl)=bs41 H m (put y v tl):=by
 unfold bs41
 simp only [a6m,a7h,h1,h2,h3,h4,h5,cond_false]
theorem rp_0 (h:CurC C M H):(EV C (M+12)).s a6p (stAt b841 0) [(oS "data",.d .buf),(oS "first",.d (.endp (some H))),(oS "many",.d (.int m))] [] K=K.next [(oS "data",.d .buf),(oS "first",.d (.endp (some H))),(oS "many",.d (.int m)),(oS "cursor",.r 0)] [.inst 211 1,.ns [(S "data",.d .buf),(S "at",.d (.pos H 0)),(S "end",.d (.endp none))]]:=by
 refine (h _ (by exact cN _ 10) _).trans ?_
 kernel_rfl
theorem rp_1:(EV C (M+12)).s a6p (stAt b841 1) [(oS "data",.d .buf),(oS "first",.d (.endp (some H))),(oS "many",.d (.int m)),(oS "cursor",.r 0)] [.inst 211 1,.ns [(S "data",.d .buf),(S "at",.d (.pos H 0)),(S "end",.d (.endp none))]] K=K.next (bs41 H m []) (σC H []):=by
 kernel_rfl
theorem rp_it (hs:Builtin.Range.small 0 m 1=true) (k:V→St→Option R):(EV C (M+12)).e a6p (a5u (stAt b841 2)) (bs41 H m []) (σC H []) k=k (.d (.rng 0 m 1)) (σC H []):=by
 exact cT hs rfl
 all_goals kernel_rfl
theorem rf_0 (h:AtC C M 834 rest (.int n) rest'):(EV C (M+12)).s a6p (stAt f841 0) (bs41 H m tl) (σC rest found) K=K.next (bs41 H m (put (oS "number") (.d (.int n)) tl)) (σC rest' found):=by
 refine (h _ (by exact cN _ 10) _ _).trans ?_
 kernel_rfl
theorem rf_1 (h:AtC C M 834 rest (.int n) rest'):(EV C (M+12)).s a6p (stAt f841 1) (bs41 H m tl) (σC rest found) K=K.next (bs41 H m (put (oS "offset") (.d (.int n)) tl)) (σC rest' found):=by
 refine (h _ (by exact cN _ 10) _ _).trans ?_
 kernel_rfl
theorem rf_2 (hn:lk (oS "number") (bs41 H m tl)=some (.d (.int n))) (h:deq (.int n) (.int 0)=false) (k:Bool→St→Option R):(EV C (M+12)).t a6p (a1j (stAt f841 2)) (bs41 H m tl) (σC rest found) k=k false (σC rest found):=by
 refine mS hn ?_
 conv=>lhs;whnf
 rw [h]
theorem rf_3e (k:Bool→St→Option R):(EV C (M+12)).t a6p (a1j (stAt f841 3)) (bs41 H m tl) (σC rest []) k=k false (σC rest []):=by
 kernel_rfl
theorem rf_3c (hz:szOk found.length=true) (hne:found.isEmpty=false) (N:Int) (hN:N=(found.length:Int)) (h0:decide (0 ≤ -1+N)=true) (hx:found.getD (-1+N).toNat default = .tup [.int n,.int o']) (ho:lk (oS "offset") (bs41 H m tl)=some (.d (.int o))) (hlt:decide (o≤o')=false) (k:Bool→St→Option R):(EV C (M+12)).t a6p (a1j (stAt f841 3)) (bs41 H m tl) (σC rest found) k=k false (σC rest found):=by
 refine cT hz ?_
 refine cNF hne ?_
 refine mS ho ?_
 conv=>lhs;whnf
 rw [hz]
 conv=>lhs;whnf
 rewrite [← hN]
 refine cT h0 ?_
 refine mT hx ?_
 exact cF hlt rfl
theorem rf_4 (hn:lk (oS "number") (bs41 H m tl)=some (.d (.int n))) (ho:lk (oS "offset") (bs41 H m tl)=some (.d (.int o))) (hz:szOk found.length=true):(EV C (M+12)).s a6p (stAt f841 4) (bs41 H m tl) (σC rest found) K=K.next (bs41 H m tl) (σC rest (found++[.tup [.int n,.int o]])):=by
 refine mS hn ?_
 refine mS ho ?_
 refine cT hz ?_
 kernel_rfl
theorem rp_3:(EV C (M+12)).s a6p (stAt b841 3) (bs41 H m tl) (σC rest found) K=K.ret (.r 2) (σC rest found):=by
 kernel_rfl
end
end Mine.Lw
end
section
namespace Mine.Lw
open PySem
theorem fd841:tabs.fn 841=some (fdOf 841):=by kernel_rfl
theorem bd841:b841=[stAt b841 0,stAt b841 1,stAt b841 2,stAt b841 3]:=by kernel_rfl
theorem bf841:fBody (stAt b841 2)=[stAt f841 0,stAt f841 1,stAt f841 2,stAt f841 3,stAt f841 4]:=by kernel_rfl
theorem noAbs_pO:∀ l:List (Int×Int),a8z (l.map pO)=true
 | []=>rfl
 | a::r=>by
  exact (congrArg (fun b=>a8v (pO a)&&b) (noAbs_pO r)).trans rfl
theorem b3r {n:Nat} (h:n≤4):Builtin.Range.small 0 (n:Int) 1=true∧(a1p 0 1 (Builtin.Range.rangeSize 0 (n:Int) 1).toNat).length=n:=by
 have:n=0∨n=1∨n=2∨n=3∨n=4:=(by decide +kernel:∀ n,n≤4→n=0∨n=1∨n=2∨n=3∨n=4) n h
 rcases this with rfl | rfl | rfl | rfl | rfl <;> exact ⟨by kernel_rfl,by kernel_rfl⟩
theorem a4a:∀ (o:Int) (pk:List (Int×Kind)),(a2d o pk).length=pk.length
 | _,[]=>rfl
 | o,x::r=>by simp only [b5i,bE,a4a]
inductive PI (pk:List (Int×Kind)) (ds:List D):Loc→St→Prop
 | mk (tl:Loc) (xs:List (Int×Kind)) (is:List Int) (fs:List (Int×Int)) (o:Int) (rest:List Nat):ds=is.map D.int→is.length=xs.length→fs++a2d o xs=a2d 0 pk→0≤o→o+10 * xs.length≤40→((∀ x∈xs,x∈pk))→((∀ p,fs.getLast?=some p→p.2 < o))→((xs=[]→rest=[10]))→((∀ x xs',xs=x::xs'→∃ X,(rest=X∨rest=32::X)∧X=digitsOf x.1++32::(digitsOf o++b1h (cpsL (o+((octs x.2).length:Int)+1) xs'))))→PI pk ds (bs41 (a0n pk) pk.length tl) (σC rest (fs.map pO))
theorem pairsBody {pk:List (Int×Kind)} (h:PkOk pk) (hne:pk≠[]) (R:Type) (M:Nat) (hM:90≤M) (k:V→St→Option R) :
  a0f (EV calX (M+24)) (fdOf 841) [.d .buf,.d (.endp (some (a0n pk))),.d (.int pk.length)] [] k=k (.r 2) (σC [10] ((a2d 0 pk).map pO)):=by
 have hf:=h.few
 refine aE ?_ (b3r hf);rintro e1 e2
 have hol:=a4a 0 pk
 refine a3y (ρ:=[(oS "data",.d .buf),(oS "first",.d (.endp (some (a0n pk)))),(oS "many",.d (.int pk.length))]) (σ':=[]) bd841 rfl rfl ?_
 refine a0a (fun nx=>rp_0 (M:=M+12) (lift (by lia) (curX _))) (a0a (fun nx=>rp_1 (M:=M+12)) ?_)
 refine b1c (n:=M+23) (xs:=(a1p 0 1 (Builtin.Range.rangeSize 0 (pk.length:Int) 1).toNat).map .int) (PI pk) (by rfl) (fun k=>rp_it (M:=M+11) e1 k) (fun k=>rfl) ?_ ?_ ?_
 ·rintro d ds ρ σ q1_
  induction q1_ with | mk tl xs is fs o rest a1 a2 a5 a6 a7 a8 a9 a11 a10 =>
  induction is using aK with
  | nil=>cases a1
  | cons i is =>
   induction xs using aK with
   | nil=>cases a2
   | cons x xs =>
    cases a1
    have hx:=a8 x (.head _)
    have hr:=h.rng x hx
    have hl9:=a5j x.2
    simp only [bE] at a2 a7
    have hfl:fs.length≤4:=by have:=congrArg List.length a5;rw [bD,hol] at this;lia
    refine exa ?_ (a10 x xs rfl);rintro X hX hX2
    refine exxa ?_ (tail_head (cpsL (o+((octs x.2).length:Int)+1) xs));rintro t r ht hg
    rw [ht] at hX2
    have c1:AtC (calX:CalG R) 100 834 rest (.int x.1) (32::(digitsOf o++t::r)):=by
     rcases hX with rfl | rfl
     ·rw [hX2];exact (nextX (by lia) (by lia) (.inl rfl) _ R).1
     ·rw [hX2];exact (nextX (by lia) (by lia) (.inl rfl) _ R).2
    have c2:AtC (calX:CalG R) 100 834 (32::(digitsOf o++t::r)) (.int o) (t::r):=(nextX a6 (by lia) hg r R).2
    refine ⟨_,_,.mk (put (oS "offset") (.d (.int o)) (put (oS "number") (.d (.int x.1)) (put (oS "turn") (.d (.int i)) tl))) xs is (fs++[(x.1,o)]) (o+((octs x.2).length:Int)+1) (t::r) rfl (by lia) ?_ (by lia) (by lia) (fun y hy=>a8 y (.tail _ hy)) ?_ ?_ ?_,fun K hK => ?_⟩
    ·rw [aI];exact a5
    ·intro p hp
     rw [List.getLast?_append] at hp
     simp at hp
     subst hp
     show o < _
     lia
    ·intro e
     subst e
     exact ht.symm
    ·intro y ys e
     subst e
     refine ⟨digitsOf y.1++32::(digitsOf (o+((octs x.2).length:Int)+1)++b1h (cpsL (o+((octs x.2).length:Int)+1+((octs y.2).length:Int)+1) ys)),.inr ?_,rfl⟩
     rw [← ht,cpsL_cons]
    ·refine Eq.trans (b:=evSs (EV calX (M+23)) a6p f841 (put (oS "turn") (.d (.int i)) (bs41 (a0n pk) pk.length tl)) (σC rest (fs.map pO)) K) rfl ?_
     rw [bs41_put _ _ rfl rfl rfl rfl rfl,f841,bf841]
     refine a0a (fun nx=>rf_0 (M:=M+11) (lift (by lia) c1)) ?_
     refine a0a (fun nx=>rf_1 (M:=M+11) (lift (by lia) c2)) ?_
     refine a0a (fun nx=>if_F (by rfl) (fun k=>rf_2 (M:=M+10) (n:=x.1) (by rw [b1i _ rfl rfl rfl rfl rfl,a0q _ rfl,a0d _ _ _ rfl]) (show decide (x.1=0)=false from decide_eq_false (by lia)) k) (by rfl)) ?_
     have fin:∀ K:KS R,(EV calX (M+23)).s a6p (stAt f841 4) (bs41 (a0n pk) pk.length (put (oS "offset") (.d (.int o)) (put (oS "number") (.d (.int x.1)) (put (oS "turn") (.d (.int i)) tl)))) (σC (t::r) (fs.map pO)) K=K.next (bs41 (a0n pk) pk.length (put (oS "offset") (.d (.int o)) (put (oS "number") (.d (.int x.1)) (put (oS "turn") (.d (.int i)) tl)))) (σC (t::r) ((fs++[(x.1,o)]).map pO)):=by
      intro K
      have e:(fs++[(x.1,o)]).map pO=fs.map pO++[.tup [.int x.1,.int o]]:=by rw [bI];rfl
      rw [e]
      exact rf_4 (M:=M+11) (by rw [b1i _ rfl rfl rfl rfl rfl,a0q _ rfl,a0d _ _ _ rfl]) (by rw [b1i _ rfl rfl rfl rfl rfl,a0d _ _ _ rfl]) (a0h (by rw [bF];lia))
     refine a0a (fun nx=>if_F (by rfl) (fun k => ?_) (by rfl)) (a0a (fun nx=>fin _) rfl)
     cases hfs:fs.getLast? with
     | none =>
      have:fs=[]:=List.getLast?_eq_none_iff.mp hfs
      subst this
      exact rf_3e (M:=M+10) k
     | some p =>
      have hlt:=a9 p hfs
      have hpos:fs≠[]:=by intro e;subst e;exact nNS hfs
      have hlen:1≤fs.length:=by induction fs using aK with | nil=>exact absurd rfl hpos | cons _ _=>simp
      refine rf_3c (M:=M+10) (n:=p.1) (o:=o) (o':=p.2) (a0h (by rw [bF];lia)) ?_ ((fs.map pO).length:Int) rfl (decide_eq_true (by rw [bF];lia)) ?_ (by rw [b1i _ rfl rfl rfl rfl rfl,a0d _ _ _ rfl]) (decide_eq_false (by lia)) k
      ·induction fs using aK with
       | nil=>exact absurd rfl hpos
       | cons _ _=>rfl
      ·have:(-1+((fs.map pO).length:Int)).toNat=fs.length - 1:=by rw [bF];lia
       rewrite [this]
       refine Eq.trans (aR) ?_
       rw [aX,← List.getLast?_eq_getElem?,hfs]
       rfl
 ·refine .mk [] pk _ [] 0 (a0n pk) rfl e2 rfl (by decide) (by lia) (fun x hx=>hx) (fun p hp=>(by exact nNS hp)) (fun e=>absurd e hne) ?_
  intro x xs e
  subst e
  exact ⟨_,.inl rfl,leadL_cons x xs⟩
 ·rintro ρ σ q1_
  induction q1_ with | mk tl xs is fs o rest a1 a2 a5 a6 a7 a8 a9 a11 a10 =>
  induction is using aK with
  | cons _ _=>cases a1
  | nil =>
   induction xs using aK with
   | cons _ _=>cases a2
   | nil =>
    have a5:fs=a2d 0 pk:=(aJ fs).symm.trans a5
    have a11:=a11 rfl
    subst a5 a11
    exact a0j fun nx=>rp_3 (M:=M+12)
theorem pairsX {pk:List (Int×Kind)} (h:PkOk pk) (hne:pk≠[]) {data:List Nat} (hd:data.take (a0n pk).length=a0n pk) (hl:(a0n pk).length≤data.length) (hz:data.length≤1000000):∀ (R:Type),IsoC (calX:CalG R) 120 841 [.d (.bytes data),.d (.int (a0n pk).length),.d (.int pk.length)] (.lst ((a2d 0 pk).map pO)):=by
 intro R n hn σ k
 refine exa ?_ (exM (c:=95) (k:=25) hn);rintro M rfl hM
 show calX (M+24+1) _ _ _ _=_
 rw [a4n (by rfl) (by rfl) fd841]
 have b1:Nat.beq 841 tabs.reader=false:=by rfl
 have b2:Nat.beq 841 tabs.reader2=true:=by rfl
 have b3:a6q [.d (.bytes data),.d (.int (a0n pk).length),.d (.int pk.length)]=some (data,(a0n pk).length,(pk.length:Int)):=by
  show (bif decide ((0:Int)≤((a0n pk).length:Int))&&(decide (((a0n pk).length:Int)≤(data.length:Int))&&szOk data.length) then some (data,((a0n pk).length:Int).toNat,(pk.length:Int)) else none)=_
  refine cA (decide_eq_true (by lia)) ?_
  refine cA (decide_eq_true (by lia)) ?_
  refine cT (a0h hz) ?_
  rfl
 refine Eq.trans (run_r2 b1 b2 b3) ?_
 unfold b3t
 dsimp only
 rw [hd]
 refine (pairsBody h hne R M (by lia) _).trans ?_
 show (bif a8v (.lst ((a2d 0 pk).map pO)) then k (.d (.lst ((a2d 0 pk).map pO))) σ else none)=_
 refine cT (noAbs_pO _) ?_
 rfl
end Mine.Lw
end
section
namespace Mine.Lw
open PySem
noncomputable def a1s:Kind→D
 | .dict => .dct [(.str (S "L"),.int 5)]
 | k=>enc k
theorem read_k17_a (R:Type) (m:Nat) (σ:St) (k:V→St→Option R):a0f (ev tabs (m+150)) (fdOf 848) [.d .buf,.d (.pos (octs .k17) 0),.d (.endp none)] [] (fun v σ'=>a0x v σ' σ k)=k (.d (a1s .k17)) σ:=by kernel_rfl
theorem read_k17_b (R:Type) (m:Nat) (σ:St) (k:V→St→Option R):a0f (ev tabs (m+150)) (fdOf 848) [.d .buf,.d (.pos (octs .k17++[10]) 0),.d (.endp none)] [] (fun v σ'=>a0x v σ' σ k)=k (.d (a1s .k17)) σ:=by kernel_rfl
theorem b5j (R:Type) (m:Nat) (σ:St) (k:V→St→Option R):a0f (ev tabs (m+150)) (fdOf 848) [.d .buf,.d (.pos (octs .name) 0),.d (.endp none)] [] (fun v σ'=>a0x v σ' σ k)=k (.d (a1s .name)) σ:=by kernel_rfl
theorem b5k (R:Type) (m:Nat) (σ:St) (k:V→St→Option R):a0f (ev tabs (m+150)) (fdOf 848) [.d .buf,.d (.pos (octs .name++[10]) 0),.d (.endp none)] [] (fun v σ'=>a0x v σ' σ k)=k (.d (a1s .name)) σ:=by kernel_rfl
theorem read_arr_a (R:Type) (m:Nat) (σ:St) (k:V→St→Option R):a0f (ev tabs (m+150)) (fdOf 848) [.d .buf,.d (.pos (octs .arr) 0),.d (.endp none)] [] (fun v σ'=>a0x v σ' σ k)=k (.d (a1s .arr)) σ:=by kernel_rfl
theorem read_arr_b (R:Type) (m:Nat) (σ:St) (k:V→St→Option R):a0f (ev tabs (m+150)) (fdOf 848) [.d .buf,.d (.pos (octs .arr++[10]) 0),.d (.endp none)] [] (fun v σ'=>a0x v σ' σ k)=k (.d (a1s .arr)) σ:=by kernel_rfl
theorem b5l (R:Type) (m:Nat) (σ:St) (k:V→St→Option R):a0f (ev tabs (m+150)) (fdOf 848) [.d .buf,.d (.pos (octs .dict) 0),.d (.endp none)] [] (fun v σ'=>a0x v σ' σ k)=k (.d (a1s .dict)) σ:=by kernel_rfl
theorem b5m (R:Type) (m:Nat) (σ:St) (k:V→St→Option R):a0f (ev tabs (m+150)) (fdOf 848) [.d .buf,.d (.pos (octs .dict++[10]) 0),.d (.endp none)] [] (fun v σ'=>a0x v σ' σ k)=k (.d (a1s .dict)) σ:=by kernel_rfl
theorem b5n (R:Type) (m:Nat) (σ:St) (k:V→St→Option R):a0f (ev tabs (m+150)) (fdOf 848) [.d .buf,.d (.pos (octs .zero) 0),.d (.endp none)] [] (fun v σ'=>a0x v σ' σ k)=k (.d (a1s .zero)) σ:=by kernel_rfl
theorem b5o (R:Type) (m:Nat) (σ:St) (k:V→St→Option R):a0f (ev tabs (m+150)) (fdOf 848) [.d .buf,.d (.pos (octs .zero++[10]) 0),.d (.endp none)] [] (fun v σ'=>a0x v σ' σ k)=k (.d (a1s .zero)) σ:=by kernel_rfl
theorem read_neg_a (R:Type) (m:Nat) (σ:St) (k:V→St→Option R):a0f (ev tabs (m+150)) (fdOf 848) [.d .buf,.d (.pos (octs .neg) 0),.d (.endp none)] [] (fun v σ'=>a0x v σ' σ k)=k (.d (a1s .neg)) σ:=by kernel_rfl
theorem read_neg_b (R:Type) (m:Nat) (σ:St) (k:V→St→Option R):a0f (ev tabs (m+150)) (fdOf 848) [.d .buf,.d (.pos (octs .neg++[10]) 0),.d (.endp none)] [] (fun v σ'=>a0x v σ' σ k)=k (.d (a1s .neg)) σ:=by kernel_rfl
theorem readS (kk:Kind) (h:isP kk=true) (R:Type) (m:Nat) (σ:St) (k:V→St→Option R):a0f (ev tabs (m+150)) (fdOf 848) [.d .buf,.d (.pos (octs kk) 0),.d (.endp none)] [] (fun v σ'=>a0x v σ' σ k)=k (.d (a1s kk)) σ∧a0f (ev tabs (m+150)) (fdOf 848) [.d .buf,.d (.pos (octs kk++[10]) 0),.d (.endp none)] [] (fun v σ'=>a0x v σ' σ k)=k (.d (a1s kk)) σ:=by
 induction kk with
 | k17=>exact ⟨read_k17_a R m σ k,read_k17_b R m σ k⟩
 | name=>exact ⟨b5j R m σ k,b5k R m σ k⟩
 | arr=>exact ⟨read_arr_a R m σ k,read_arr_b R m σ k⟩
 | dict=>exact ⟨b5l R m σ k,b5m R m σ k⟩
 | zero=>exact ⟨b5n R m σ k,b5o R m σ k⟩
 | neg=>exact ⟨read_neg_a R m σ k,read_neg_b R m σ k⟩
 | str3=>exact nFT h
 | strR r=>exact nFT h
 | ref r=>exact nFT h
theorem fd848:tabs.fn 848=some (fdOf 848):=by kernel_rfl
theorem readX (kk:Kind) (h:isP kk=true) {data:List Nat} {b e:Int} (b0:0≤b) (be:b≤e) (el:e≤data.length) (hz:data.length≤1000000) (hd:(data.take e.toNat).drop b.toNat=octs kk∨(data.take e.toNat).drop b.toNat=octs kk++[10]):∀ (R:Type),IsoC (calX:CalG R) 151 848 [.d (.bytes data),.d (.int b),.d (.int e)] (a1s kk):=by
 intro R n hn σ k
 refine exa ?_ (exM (c:=0) (k:=151) hn);rintro M rfl hM
 show calX (M+150+1) _ _ _ _=_
 rw [a4n (by rfl) (by rfl) fd848]
 have b1:Nat.beq 848 tabs.reader=true:=by rfl
 have b3:b0g [.d (.bytes data),.d (.int b),.d (.int e)]=some (data,b.toNat,e.toNat):=by
  show (bif decide ((0:Int)≤b)&&(decide (b≤e)&&(decide (e≤(data.length:Int))&&szOk data.length)) then some (data,b.toNat,e.toNat) else none)=_
  rw [decide_eq_true b0,decide_eq_true be,decide_eq_true el,a0h hz]
  rfl
 rw [run_r1 b1 b3,a2z]
 unfold runBuf
 dsimp only
 rcases hd with hd | hd
 ·rw [hd];exact (readS kk h R M σ k).1
 ·rw [hd];exact (readS kk h R M σ k).2
end Mine.Lw
end
section
namespace Mine.Lw
open PySem
noncomputable def a1k (pk:List (Int×Kind)):List Nat:=a0n pk++a3k (pk.map (·.2))
noncomputable def offN:List Kind→Nat→Nat
 | _,0=>0
 | [],_+1=>0
 | k::r,i+1=>(octs k).length+1+offN r i
theorem b0a (k:Kind) (r:List Kind) (i:Nat):offN (k::r) (i+1)=(octs k).length+1+offN r i:=rfl
theorem b0b (k:Kind) (r:List Kind):offN (k::r) 0=0:=rfl
theorem a5y (k:Kind) (r:List Kind) (h:r≠[]):a3k (k::r)=octs k++10::a3k r:=by
 induction r using aK with
 | nil=>exact absurd rfl h
 | cons a r =>
  show octs k++[10]++a1m [10] ((a::r).map octs)=_
  rw [aI]
  rfl
theorem body_mid:∀ (ks:List Kind) (i:Nat) (k:Kind),ks[i]?=some k→i+1 < ks.length→((a3k ks).take (offN ks (i+1))).drop (offN ks i)=octs k++[10]∧offN ks (i+1)≤(a3k ks).length∧offN ks i≤offN ks (i+1)
 | [],i,k,h,_=>by simp at h
 | k0::r,0,k,h,hl=>by
  have h:k0=k:=by simpa using h
  subst h
  have hr:r≠[]:=by intro e;subst e;simp at hl
  rw [a5y _ _ hr]
  refine ⟨?_,?_,cY _⟩
  ·show ((octs k0++10::a3k r).take ((octs k0).length+1+offN r 0)).drop 0=_
   have:offN r 0=0:=by cases r <;> rfl
   rewrite [this]
   refine Eq.trans List.drop_zero ?_
   rewrite [Nat.add_zero]
   refine Eq.trans List.take_append ?_
   rw [List.take_of_length_le (by exact cN _ 1)]
   simp
  ·have:offN r 0=0:=by cases r <;> rfl
   simp [b0a,b0b,this]
 | k0::r,i+1,k,h,hl=>by
  have h:r[i]?=some k:=by simpa using h
  have hr:r≠[]:=by intro e;subst e;simp at h
  refine eaa ?_ (body_mid r i k h (by simpa using hl));rintro a b c
  rw [a5y _ _ hr]
  refine ⟨?_,?_,?_⟩
  ·show ((octs k0++10::a3k r).take ((octs k0).length+1+offN r (i+1))).drop ((octs k0).length+1+offN r i)=_
   rw [show octs k0++10::a3k r=(octs k0++[10])++a3k r by simp]
   have e:(octs k0).length+1=(octs k0++[10]).length:=by simp
   rw [e,List.take_length_add_append,aN]
   exact a
  ·simp only [b0a,b0b,bD,bE];lia
  ·simp only [b0a,b0b];lia
theorem b3s:∀ (ks:List Kind) (i:Nat) (k:Kind),ks[i]?=some k→i+1=ks.length→(a3k ks).drop (offN ks i)=octs k∧offN ks i≤(a3k ks).length
 | [],i,k,h,_=>by simp at h
 | k0::r,0,k,h,hl=>by
  have h:k0=k:=by simpa using h
  subst h
  have hr:r=[]:=by induction r using aK with | nil=>rfl | cons _ _=>simp at hl
  subst hr
  exact ⟨rfl,cY _⟩
 | k0::r,i+1,k,h,hl=>by
  have h:r[i]?=some k:=by simpa using h
  have hr:r≠[]:=by intro e;subst e;simp at h
  refine aE ?_ (b3s r i k h (by simpa using hl));rintro a b
  rw [a5y _ _ hr]
  refine ⟨?_,?_⟩
  ·show (octs k0++10::a3k r).drop ((octs k0).length+1+offN r i)=_
   rw [show octs k0++10::a3k r=(octs k0++[10])++a3k r by simp]
   have e:(octs k0).length+1=(octs k0++[10]).length:=by simp
   rw [e,aN]
   exact a
  ·simp only [b0a,b0b,bD,bE];lia
theorem a6y:∀ (pk:List (Int×Kind)) (o:Int) (i:Nat) (x:Int×Kind),pk[i]?=some x→(a2d o pk)[i]?=some (x.1,o+(offN (pk.map (·.2)) i:Nat))
 | [],_,i,x,h=>by simp at h
 | y::r,o,0,x,h=>by
  have h:y=x:=by simpa using h
  subst h
  simp [b5i,b0a,b0b]
 | y::r,o,i+1,x,h=>by
  have h:r[i]?=some x:=by simpa using h
  simp only [b5i,List.getElem?_cons_succ,bK,b0a,b0b]
  refine Eq.trans (a6y r _ i x h) ?_
  congr 2
  push_cast
  lia
theorem place_mid {pk:List (Int×Kind)} {i:Nat} {x:Int×Kind} (h:pk[i]?=some x) (hl:i+1 < pk.length):((a1k pk).take ((a0n pk).length+offN (pk.map (·.2)) (i+1))).drop ((a0n pk).length+offN (pk.map (·.2)) i)=octs x.2++[10]∧(a0n pk).length+offN (pk.map (·.2)) (i+1)≤(a1k pk).length∧offN (pk.map (·.2)) i≤offN (pk.map (·.2)) (i+1):=by
 refine eaa ?_ (body_mid (pk.map (·.2)) i x.2 (by rw [aX,h];rfl) (by rw [bF];exact hl));rintro a b c
 unfold a1k
 rw [List.take_length_add_append,aN,bD (as:=a0n pk)]
 exact ⟨a,by lia,c⟩
theorem place_last {pk:List (Int×Kind)} {i:Nat} {x:Int×Kind} (h:pk[i]?=some x) (hl:i+1=pk.length):((a1k pk).take (a1k pk).length).drop ((a0n pk).length+offN (pk.map (·.2)) i)=octs x.2∧(a0n pk).length+offN (pk.map (·.2)) i≤(a1k pk).length:=by
 refine aE ?_ (b3s (pk.map (·.2)) i x.2 (by rw [aX,h];rfl) (by rw [bF];exact hl));rintro a b
 rw [List.take_length]
 unfold a1k
 rw [aN,bD (as:=a0n pk)]
 exact ⟨a,by lia⟩
noncomputable abbrev b869:List Stmt:=(fdOf 869).body
noncomputable abbrev sc869:Scope:=(fdOf 869).scope
noncomputable def a2e (data:List Nat) (first:Int) (prs:List D):D := .obj 877 [(S "data",.bytes data),(S "first",.int first),(S "pairs",.lst prs)]
section
variable {R:Type} {C:CalG R} {M:Nat} {K:KS R} {data:List Nat} {first i n o n' o' b e:Int} {prs:List D} {x:D}
theorem oa_0 (hz:szOk prs.length=true) (h0:decide (i < 0)=false) (h1:decide (i < (prs.length:Int))=true) (hx:prs.getD i.toNat default = .tup [.int n,.int o]) :
  (EV C (M+12)).s sc869 (stAt b869 0) [(oS "self",.d (a2e data first prs)),(oS "index",.d (.int i))] [] K=K.next [(oS "self",.d (a2e data first prs)),(oS "index",.d (.int i)),(oS "begin",.d (.int (first+o)))] []:=by
 refine cT hz ?_
 refine cF h0 ?_
 refine cT h1 ?_
 refine mT hx ?_
 kernel_rfl
theorem oa_1 (hz:szOk data.length=true) :
  (EV C (M+12)).s sc869 (stAt b869 1) [(oS "self",.d (a2e data first prs)),(oS "index",.d (.int i)),(oS "begin",.d (.int b))] [] K=K.next [(oS "self",.d (a2e data first prs)),(oS "index",.d (.int i)),(oS "begin",.d (.int b)),(oS "end",.d (.int data.length))] []:=by
 refine cT hz ?_
 kernel_rfl
theorem oa_2t {q:Bool} (hz:szOk prs.length=true) (h1:decide (i+1 < (prs.length:Int))=q) (k:Bool→St→Option R) :
  (EV C (M+12)).t sc869 (a1j (stAt b869 2)) [(oS "self",.d (a2e data first prs)),(oS "index",.d (.int i)),(oS "begin",.d (.int b)),(oS "end",.d (.int e))] [] k=k q []:=by
 refine cT hz ?_
 conv=>lhs;whnf
 rw [h1]
 all_goals (cases q <;> kernel_rfl)
theorem oa_2b (hz:szOk prs.length=true) (h0:decide (i+1 < 0)=false) (h1:decide (i+1 < (prs.length:Int))=true) (hx:prs.getD (i+1).toNat default = .tup [.int n',.int o']) :
  (EV C (M+12)).s sc869 (stAt (a1r (stAt b869 2)) 0) [(oS "self",.d (a2e data first prs)),(oS "index",.d (.int i)),(oS "begin",.d (.int b)),(oS "end",.d (.int e))] [] K=K.next [(oS "self",.d (a2e data first prs)),(oS "index",.d (.int i)),(oS "begin",.d (.int b)),(oS "end",.d (.int (first+o')))] []:=by
 refine cT hz ?_
 refine cF h0 ?_
 refine cT h1 ?_
 refine mT hx ?_
 kernel_rfl
theorem oa_3 (h:IsoC C M 848 [.d (.bytes data),.d (.int b),.d (.int e)] x) :
  (EV C (M+12)).s sc869 (stAt b869 3) [(oS "self",.d (a2e data first prs)),(oS "index",.d (.int i)),(oS "begin",.d (.int b)),(oS "end",.d (.int e))] [] K=K.ret (.d x) []:=by
 exact h _ (by exact cN _ 10) _ _
end
theorem fd869:tabs.fn 869=some (fdOf 869):=by kernel_rfl
theorem bd869:b869=[stAt b869 0,stAt b869 1,stAt b869 2,stAt b869 3]:=by kernel_rfl
theorem bi869:a1r (stAt b869 2)=[stAt (a1r (stAt b869 2)) 0]:=by kernel_rfl
theorem getD_of {xs:List D} {i:Nat} {x:D} (h:xs[i]?=some x):xs.getD i default=x:=by
 rw [aR,h];rfl
theorem b1j {pk:List (Int×Kind)} (h:PkOk pk):(a1k pk).length≤100:=by
 have h1:=(a9z h).2.2.1
 have h2:=body_len (pk.map (·.2))
 have h3:=h.few
 rw [bF] at h2
 unfold a1k
 rw [bD]
 lia
theorem objectAtX {pk:List (Int×Kind)} (h:PkOk pk) {i:Nat} {x:Int×Kind} (hx:pk[i]?=some x):∀ (R:Type),IsoC (calX:CalG R) 165 869 [.d (a2e (a1k pk) (a0n pk).length ((a2d 0 pk).map pO)),.d (.int i)] (a1s x.2):=by
 have hf:=h.few
 have hil:i < pk.length:=(aW.mp hx).1
 have hxm:x∈pk:=bU hx
 have hdl:=b1j h
 have hz:szOk ((a2d 0 pk).map pO).length=true:=a0h (by rw [bF,a4a];lia)
 have hL:(((a2d 0 pk).map pO).length:Int)=pk.length:=by rw [bF,a4a]
 have g1:((a2d 0 pk).map pO).getD (i:Int).toNat default = .tup [.int x.1,.int (0+(offN (pk.map (·.2)) i:Nat))]:=by
  refine getD_of ?_
  rw [Int.toNat_natCast,aX,a6y pk 0 i x hx];rfl
 have hkd:=h.kinds x hxm
 refine a3a 24 (c:=140) (ds:=[a2e (a1k pk) (a0n pk).length ((a2d 0 pk).map pO),.int i]) (v := .d (a1s x.2)) (σ':=[]) (by rfl) (by rfl) fd869 (by rfl) (by rfl) rfl (fun z0 z0 z0=>rfl) fun R M hM k => ?_
 refine a3y (ρ:=[(oS "self",.d (a2e (a1k pk) (a0n pk).length ((a2d 0 pk).map pO))),(oS "index",.d (.int i))]) (σ':=[]) bd869 rfl rfl ?_
 refine a0a (fun nx=>oa_0 (M:=M+12) hz (decide_eq_false (by lia)) (decide_eq_true (by lia)) g1) ?_
 refine a0a (fun nx=>oa_1 (M:=M+12) (a0h (by lia))) ?_
 by_cases hl:i+1 < pk.length
 ·obtain ⟨y,hy⟩:∃ y,pk[i+1]?=some y:=⟨pk[i+1],aV hl⟩
  have g2:((a2d 0 pk).map pO).getD ((i:Int)+1).toNat default = .tup [.int y.1,.int (0+(offN (pk.map (·.2)) (i+1):Nat))]:=by
   refine getD_of ?_
   rw [show ((i:Int)+1).toNat=i+1 by lia,aX,a6y pk 0 (i+1) y hy];rfl
  refine eaa ?_ (place_mid hx hl);rintro p1 p2 p3
  refine a0a (ρ':=[(oS "self",.d (a2e (a1k pk) (a0n pk).length ((a2d 0 pk).map pO))),(oS "index",.d (.int i)),(oS "begin",.d (.int ((a0n pk).length+(0+(offN (pk.map (·.2)) i:Nat))))),(oS "end",.d (.int ((a0n pk).length+(0+(offN (pk.map (·.2)) (i+1):Nat)))))]) (σ':=[]) (fun nx=>if_T (by rfl) (fun k=>oa_2t (M:=M+11) hz (decide_eq_true (by lia)) k) ?_) ?_
  ·rw [bi869]
   exact a0a (fun nx=>oa_2b (M:=M+11) hz (decide_eq_false (by lia)) (decide_eq_true (by lia)) g2) rfl
  ·refine a0j fun nx=>oa_3 (M:=M+12) (lift (by lia) (readX x.2 hkd (by lia) (by lia) (by lia) (by lia) (.inr ?_) R))
   rw [show ((a0n pk).length+(0+(offN (pk.map (·.2)) (i+1):Nat)):Int).toNat=(a0n pk).length+offN (pk.map (·.2)) (i+1) by lia,show ((a0n pk).length+(0+(offN (pk.map (·.2)) i:Nat)):Int).toNat=(a0n pk).length+offN (pk.map (·.2)) i by lia]
   exact p1
 ·refine aE ?_ (place_last hx (by lia));rintro p1 p2
  refine a0a (fun nx=>if_F (by rfl) (fun k=>oa_2t (M:=M+11) hz (decide_eq_false (by lia)) k) (by rfl)) ?_
  refine a0j fun nx=>oa_3 (M:=M+12) (lift (by lia) (readX x.2 hkd (by lia) (by lia) (by lia) (by lia) (.inl ?_) R))
  rw [show ((a0n pk).length+(0+(offN (pk.map (·.2)) i:Nat)):Int).toNat=(a0n pk).length+offN (pk.map (·.2)) i by lia,Int.toNat_natCast]
  exact p1
end Mine.Lw
end
section
namespace Mine.Lw
open PySem
noncomputable abbrev b874:List Stmt:=(fdOf 874).body
noncomputable abbrev sc874:Scope:=(fdOf 874).scope
noncomputable def a3q (x:Int×Kind):D := .tup [.int x.1,a1s x.2]
noncomputable def nthP (pk:List (Int×Kind)) (i:Int):Int×Kind:=pk.getD i.toNat (0,.zero)
noncomputable def fA (pk:List (Int×Kind)):D→Option D
 | .int i=>some (a3q (nthP pk i))
 | _=>none
noncomputable def σA (x:D):St:=[.cell (some (.d x))]
theorem fA_all:∀ pk:List (Int×Kind),pk.length≤4→((a1p 0 1 (Builtin.Range.rangeSize 0 (pk.length:Int) 1).toNat).map D.int).filterMap (fA pk)=pk.map a3q
 | [],_=>by kernel_rfl
 | [a],_=>by kernel_rfl
 | [a,b],_=>by kernel_rfl
 | [a,b,c],_=>by kernel_rfl
 | [a,b,c,d],_=>by kernel_rfl
 | _::_::_::_::_::r,h=>absurd h (by simp)
theorem range_lt:∀ {n:Nat},n≤4→∀ i∈a1p 0 1 (Builtin.Range.rangeSize 0 (n:Int) 1).toNat,0≤i∧i < n
 | 0,_=>by decide
 | 1,_=>by decide
 | 2,_=>by decide
 | 3,_=>by decide
 | 4,_=>by decide
 | n+5,h=>absurd h (by lia)
section
variable {R:Type} {C:CalG R} {M:Nat} {K:KS R} {pk:List (Int×Kind)} {x:D} {data:List Nat} {first:Int} {prs:List D}
theorem al_0 (hf:pk.length≤4) (hp:prs.length=pk.length) (hget:∀ i:Int,0≤i→i < pk.length→∃ o,prs.getD i.toNat default = .tup [.int (nthP pk i).1,o]) (hI:∀ i:Int,0≤i→i < pk.length→IsoC C M 869 [.d (a2e data first prs),.d (.int i)] (a1s (nthP pk i).2)) :
  (EV C (M+12)).s sc874 (stAt b874 0) [(oS "self",.r 0)] (σA (a2e data first prs)) K=K.ret (.d (.lst (pk.map a3q))) (σA (a2e data first prs)):=by
 have hz:szOk prs.length=true:=a0h (by lia)
 refine aE ?_ (b3r hf);rintro e1 e2
 have fa:=fA_all pk hf
 have rl:=range_lt hf
 obtain ⟨N,hN⟩:∃ N:Int,N=(prs.length:Int):=⟨_,rfl⟩
 have hN2:(pk.length:Int)=N:=by rw [hN,hp]
 rw [hN2] at e1 e2 fa rl
 conv=>lhs;whnf
 rw [hz,← hN]
 conv=>lhs;whnf
 rw [e1]
 conv=>lhs;whnf
 rw [a1h (fA pk) _ _ _ (by
  intro d hd acc k' hl
  refine exa ?_ (bT.mp hd);rintro o ho rfl
  refine aE ?_ (rl o ho);rintro o1 o2
  have hz2:szOk acc.length=true:=a0h (by lia)
  refine xE ?_ (hget o o1 (by lia));rintro y hy
  conv=>lhs;whnf
  rw [hz]
  conv=>lhs;whnf
  rw [decide_eq_false (show ¬ o < 0 by lia)]
  conv=>lhs;whnf
  rw [← hN,decide_eq_true (show o < N by assumption)]
  conv=>lhs;whnf
  rw [hy]
  conv=>lhs;whnf
  refine (hI o o1 (by lia) _ (by exact cN _ 8) _ _).trans ?_
  conv=>lhs;whnf
  rw [hz2]
  kernel_rfl) (by rw [bF,e2];simp;lia)]
 rw [fa,bW]
end
theorem fd874:tabs.fn 874=some (fdOf 874):=by kernel_rfl
theorem bd874:b874=[stAt b874 0]:=by kernel_rfl
theorem allX {pk:List (Int×Kind)} (h:PkOk pk):∀ (R:Type),IsoC (calX:CalG R) 180 874 [.d (a2e (a1k pk) (a0n pk).length ((a2d 0 pk).map pO))] (.lst (pk.map a3q)):=by
 have hf:=h.few
 refine a3a 24 (c:=155) (ds:=[a2e (a1k pk) (a0n pk).length ((a2d 0 pk).map pO)]) (v := .d (.lst (pk.map a3q))) (σ':=σA (a2e (a1k pk) (a0n pk).length ((a2d 0 pk).map pO))) (by rfl) (by rfl) fd874 (by rfl) (by rfl) rfl (fun z0 z0 z0=>rfl) fun R M hM k => ?_
 have nth:∀ i:Int,0≤i→i < pk.length→pk[i.toNat]?=some (nthP pk i):=by
  intro i h1 h2
  unfold nthP
  rw [aR,aV (by lia)]
  rfl
 refine a3y (ρ:=[(oS "self",.r 0)]) (σ':=σA (a2e (a1k pk) (a0n pk).length ((a2d 0 pk).map pO))) bd874 rfl (by kernel_rfl) ?_
 refine a0j fun nx=>al_0 (M:=M+12) hf (by rw [bF,a4a]) ?_ ?_
 ·intro i h1 h2
  refine ⟨.int (0+(offN (pk.map (·.2)) i.toNat:Nat)),getD_of ?_⟩
  rw [aX,a6y pk 0 i.toNat _ (nth i h1 h2)];rfl
 ·intro i h1 h2
  have:=objectAtX h (nth i h1 h2) R
  rw [Int.toNat_of_nonneg h1] at this
  exact lift (by lia) this
noncomputable abbrev b888:List Stmt:=(fdOf 888).body
noncomputable abbrev sc888:Scope:=(fdOf 888).scope
noncomputable abbrev OpC {R:Type} (C:CalG R) (M:Nat):Prop:=∀ n,M≤n→∀ (data:List Nat) (first:Int) (prs:List D) (σ:St) (k:V→St→Option R),C n 877 [.d (.bytes data),.d (.int first),.d (.lst prs)] σ k=k (.d (a2e data first prs)) σ
theorem opS (R:Type) (m:Nat) (data:List Nat) (first:Int) (prs:List D) (σ:St) (k:V→St→Option R):a0g tabs (ev tabs (m+20)) (.d (.g 877)) [.d (.bytes data),.d (.int first),.d (.lst prs)] σ k=k (.d (a2e data first prs)) σ:=by kernel_rfl
theorem opX {R:Type}:OpC (calX:CalG R) 21:=up fun m data first prs σ k=>by
 rw [show m+21=(m+20)+1 from rfl,a0z,a2z];exact opS R m data first prs σ k
section
variable {R:Type} {C:CalG R} {M:Nat} {K:KS R} {data:List Nat} {first many:Int} {prs:List D}
noncomputable def ρ888 (data:List Nat) (first many:Int):Loc:=[(oS "data",.d (.bytes data)),(oS "first",.d (.int first)),(oS "many",.d (.int many))]
theorem oo_t (hz:szOk data.length=true) (h:decide ((data.length:Int) < first)=false) (k:Bool→St→Option R):(EV C (M+12)).t sc888 (a1j (stAt b888 0)) (ρ888 data first many) [] k=k false []:=by
 refine cT hz ?_
 conv=>lhs;whnf
 rw [h]
theorem oo_1 (hO:OpC C M) (h:IsoC C M 841 [.d (.bytes data),.d (.int first),.d (.int many)] (.lst prs)):(EV C (M+12)).s sc888 (stAt b888 1) (ρ888 data first many) [] K=K.ret (.d (a2e data first prs)) []:=by
 refine (h _ (by exact cN _ 9) _ _).trans ?_
 exact hO _ (by exact cN _ 10) _ _ _ _ _
end
theorem fd888:tabs.fn 888=some (fdOf 888):=by kernel_rfl
theorem bd888:b888=[stAt b888 0,stAt b888 1]:=by kernel_rfl
theorem openX {pk:List (Int×Kind)} (h:PkOk pk) (hne:pk≠[]):∀ (R:Type),IsoC (calX:CalG R) 135 888 [.d (.bytes (a1k pk)),.d (.int (a0n pk).length),.d (.int pk.length)] (a2e (a1k pk) (a0n pk).length ((a2d 0 pk).map pO)):=by
 have hdl:=b1j h
 have hle:(a0n pk).length≤(a1k pk).length:=by unfold a1k;rw [bD (as:=a0n pk)];exact cN _ _
 refine a3a 24 (c:=110) (ds:=[.bytes (a1k pk),.int (a0n pk).length,.int pk.length]) (v := .d (a2e (a1k pk) (a0n pk).length ((a2d 0 pk).map pO))) (σ':=[]) (by rfl) (by rfl) fd888 (by rfl) (by rfl) rfl (fun z0 z0 z0=>rfl) fun R M hM k => ?_
 refine a3y (ρ:=ρ888 (a1k pk) (a0n pk).length pk.length) (σ':=[]) bd888 rfl rfl ?_
 refine a0a (fun nx=>if_F (by rfl) (fun k=>oo_t (M:=M+11) (a0h (by lia)) (decide_eq_false (by lia)) k) (by rfl)) (a0j fun nx => ?_)
 refine oo_1 (M:=M+12) (lift (by lia) opX) (lift (by lia) (pairsX h hne ?_ hle (by lia) R))
 unfold a1k
 exact List.take_left' rfl
end Mine.Lw
end
section
namespace Mine.Lw
open PySem
noncomputable def lamOf (s:Stmt):D:=match s with
 | .Assign _ (.Call _ args _ _) _=>match b0x args with
  | some (_,l) => .lam (l.args.args.map (·.arg)) l.body l.scope
  | none => .none
 | _ => .none
noncomputable def a6i:D:=lamOf (stAt (forB 11) 1)
noncomputable def b1k:D:=lamOf (stAt (forB 11) 2)
noncomputable abbrev b942:List Stmt:=(fdOf 942).body
noncomputable abbrev sc942:Scope:=(fdOf 942).scope
noncomputable def a8u:D := .obj 344 [(S "text",.str (S "ObjStm"))]
noncomputable def headD (n first len:Int):D := .dct [(.str (S "Type"),a8u),(.str (S "N"),.int n),(.str (S "First"),.int first),(.str (S "Length"),.int len)]
noncomputable def wrD (data:List Nat) (n first:Int):D := .obj 387 [(S "head",headD n first data.length),(S "octets",.bytes data)]
noncomputable def ρW0 (ps:D):Loc:=[(oS "pairs",.d ps),(oS "names",.d (.lst [])),(oS "lay",.d a6i)]
noncomputable def ρW1 (ps:D) (data:List Nat) (first:Int):Loc:=[(oS "pairs",.d ps),(oS "names",.d (.lst [])),(oS "lay",.d a6i),(oS "data",.d (.bytes data)),(oS "first",.d (.int first))]
noncomputable def ρW2 (ps:D) (data:List Nat) (first:Int):Loc:=[(oS "pairs",.d ps),(oS "names",.d (.lst [])),(oS "lay",.d a6i),(oS "data",.d (.bytes data)),(oS "first",.d (.int first)),(oS "body",.d (a8j (.int data.length) data))]
noncomputable def ρW3 (ps:D) (data:List Nat) (first:Int):Loc:=[(oS "pairs",.d ps),(oS "names",.d (.lst [])),(oS "lay",.d a6i),(oS "data",.d (.bytes data)),(oS "first",.d (.int first)),(oS "body",.d (a8j (.int data.length) data)),(oS "head",.r 0)]
noncomputable def ρW4 (ps:D) (data:List Nat) (first:Int):Loc:=[(oS "pairs",.d ps),(oS "names",.d (.lst [])),(oS "lay",.d a6i),(oS "data",.d (.bytes data)),(oS "first",.d (.int first)),(oS "body",.d (a8j (.int data.length) data)),(oS "head",.r 0),(oS "key",.d (.str (S "Length")))]
section
variable {R:Type} {C:CalG R} {M:Nat} {K:KS R} {ps:List D} {data:List Nat} {first n:Int}
theorem wp_0 (h:IsoC C M 935 [.d (.lst ps)] (.tup [.bytes data,.int first])):(EV C (M+12)).s sc942 (stAt b942 0) (ρW0 (.lst ps)) [] K=K.next (ρW1 (.lst ps) data first) []:=by
 refine (h _ (by exact cN _ 10) _ _).trans ?_
 kernel_rfl
theorem wp_1 (hz:szOk data.length=true):(EV C (M+30)).s sc942 (stAt b942 1) (ρW1 (.lst ps) data first) [] K=K.next (ρW2 (.lst ps) data first) []:=by
 refine cT hz ?_
 kernel_rfl
theorem wp_2 (hN:b5c C M) (hz:szOk ps.length=true):(EV C (M+12)).s sc942 (stAt b942 2) (ρW2 (.lst ps) data first) [] K=K.next (ρW3 (.lst ps) data first) [.dict [(.str (S "Type"),a8u),(.str (S "N"),.int ps.length),(.str (S "First"),.int first)]]:=by
 refine (hN _ (by exact cN _ 10) _ _ _).trans ?_
 refine cT hz ?_
 kernel_rfl
theorem wp_3:(EV C (M+12)).s sc942 (stAt b942 3) (ρW3 (.lst ps) data first) [.dict [(.str (S "Type"),a8u),(.str (S "N"),.int n),(.str (S "First"),.int first)]] K=K.next (ρW4 (.lst ps) data first) [.dict [(.str (S "Type"),a8u),(.str (S "N"),.int n),(.str (S "First"),.int first),(.str (S "Length"),.int data.length)]]:=by
 kernel_rfl
theorem wp_4:(EV calX (M+30):IH R).s sc942 (stAt b942 4) (ρW4 (.lst ps) data first) [.dict [(.str (S "Type"),a8u),(.str (S "N"),.int n),(.str (S "First"),.int first),(.str (S "Length"),.int data.length)]] K=K.ret (.d (wrD data n first)) [.frz (headD n first data.length)]:=by
 rw [a2z]
 kernel_rfl
end
theorem fd942:tabs.fn 942=some (fdOf 942):=by kernel_rfl
theorem bd942:b942=[stAt b942 0,stAt b942 1,stAt b942 2,stAt b942 3,stAt b942 4]:=by kernel_rfl
theorem writeP {pk:List (Int×Kind)} (h:PkOk pk) (hne:pk≠[]):∀ (R:Type),IsoC (calX:CalG R) 170 942 [.d (.lst (pk.map pairD)),.d (.lst []),.d a6i] (wrD (a1k pk) pk.length (a0n pk).length):=by
 have hf:=h.few
 have hdl:=b1j h
 have e:((pk.map pairD).length:Int)=pk.length:=by rw [bF]
 refine a3a 32 (c:=137) (ds:=[.lst (pk.map pairD),.lst [],a6i]) (v := .d (wrD (a1k pk) pk.length (a0n pk).length)) (σ':=[.frz (headD pk.length (a0n pk).length (a1k pk).length)]) (by rfl) (by rfl) fd942 (by rfl) (by rfl) rfl (fun z0 z0 z0=>rfl) fun R M hM k => ?_
 refine a3y (ρ:=ρW0 (.lst (pk.map pairD))) (σ':=[]) bd942 rfl rfl ?_
 refine a0a (fun nx=>wp_0 (M:=M+20) (lift (by lia) (laidX h hne R))) ?_
 refine a0a (fun nx=>wp_1 (M:=M+2) (data:=a1k pk) (a0h (by lia))) ?_
 refine a0a (fun nx=>wp_2 (M:=M+20) (lift (by lia) nameX) (a0h (by rw [bF];lia))) ?_
 rw [e]
 exact a0a (fun nx=>wp_3 (M:=M+20)) (a0j fun nx=>wp_4 (M:=M+2))
noncomputable abbrev b895:List Stmt:=(fdOf 895).body
noncomputable abbrev sc895:Scope:=(fdOf 895).scope
noncomputable abbrev b827:List Stmt:=(fdOf 827).body
noncomputable abbrev sc827:Scope:=(fdOf 827).scope
section
variable {R:Type} {es:List (D×D)} {e:Option Int} {data:List Nat} {first n:Int}
theorem isosS (R:Type) (m:Nat) (es:List (D×D)) (e:Option Int) (data:List Nat) (n first:Int) (σ:St) (k:V→St→Option R):a0g tabs (ev tabs (m+60)) (.d (.g 820)) [.d (a0m es e),.d (wrD data n first)] σ k=k (.d (.bool true)) σ:=by kernel_rfl
theorem getNS (R:Type) (m:Nat) (es:List (D×D)) (e:Option Int) (len n first:Int) (σ:St) (k:V→St→Option R):a0g tabs (ev tabs (m+60)) (.d (.g 479)) [.d (a0m es e),.d (headD n first len),.d (.str (S "N"))] σ k=k (.d (.int n)) σ:=by kernel_rfl
theorem getFS (R:Type) (m:Nat) (es:List (D×D)) (e:Option Int) (len n first:Int) (σ:St) (k:V→St→Option R):a0g tabs (ev tabs (m+60)) (.d (.g 479)) [.d (a0m es e),.d (headD n first len),.d (.str (S "First"))] σ k=k (.d (.int first)) σ:=by kernel_rfl
theorem kindIS (R:Type) (m:Nat) (n:Int) (σ:St) (k:V→St→Option R):a0g tabs (ev tabs (m+20)) (.d (.g 426)) [.d (.int n)] σ k=k (.d (.str (S "int"))) σ:=by kernel_rfl
theorem isosX:IsoC (calX:CalG R) 61 820 [.d (a0m es e),.d (wrD data n first)] (.bool true):=up fun m σ k=>by
 rw [show m+61=(m+60)+1 from rfl,a0z,a2z];exact isosS R m es e data n first σ k
theorem getNX {len:Int}:IsoC (calX:CalG R) 61 479 [.d (a0m es e),.d (headD n first len),.d (.str (S "N"))] (.int n):=up fun m σ k=>by
 rw [show m+61=(m+60)+1 from rfl,a0z,a2z];exact getNS R m es e len n first σ k
theorem getFX {len:Int}:IsoC (calX:CalG R) 61 479 [.d (a0m es e),.d (headD n first len),.d (.str (S "First"))] (.int first):=up fun m σ k=>by
 rw [show m+61=(m+60)+1 from rfl,a0z,a2z];exact getFS R m es e len n first σ k
theorem kindIX:IsoC (calX:CalG R) 21 426 [.d (.int n)] (.str (S "int")):=up fun m σ k=>by
 rw [show m+21=(m+20)+1 from rfl,a0z,a2z];exact kindIS R m n σ k
end
noncomputable def ρC0 (es:List (D×D)) (e:Option Int) (hd:D) (key:Str):Loc:=[(oS "shelf",.d (a0m es e)),(oS "head",.d hd),(oS "key",.d (.str key))]
noncomputable def ρC1 (es:List (D×D)) (e:Option Int) (hd:D) (key:Str) (v:Int):Loc:=[(oS "shelf",.d (a0m es e)),(oS "head",.d hd),(oS "key",.d (.str key)),(oS "value",.d (.int v))]
noncomputable def ρR (es:List (D×D)) (e:Option Int) (data:List Nat) (n first:Int):Loc:=[(oS "shelf",.d (a0m es e)),(oS "stream",.d (wrD data n first)),(oS "undo",.d b1k)]
section
variable {R:Type} {C:CalG R} {M:Nat} {K:KS R} {es:List (D×D)} {e:Option Int} {hd x:D} {key:Str} {v n first:Int} {data:List Nat}
theorem co_0 (h:IsoC C M 479 [.d (a0m es e),.d hd,.d (.str key)] (.int v)):(EV C (M+12)).s sc827 (stAt b827 0) (ρC0 es e hd key) [] K=K.next (ρC1 es e hd key v) []:=by
 refine (h _ (by exact cN _ 10) _ _).trans ?_
 kernel_rfl
theorem co_t (h:IsoC C M 426 [.d (.int v)] (.str (S "int"))) (hv:decide (v < 0)=false) (k:Bool→St→Option R):(EV C (M+12)).t sc827 (a1j (stAt b827 1)) (ρC1 es e hd key v) [] k=k false []:=by
 refine (h _ (by exact cN _ 9) _ _).trans ?_
 conv=>lhs;whnf
 rw [hv]
 all_goals kernel_rfl
theorem co_2:(EV C (M+12)).s sc827 (stAt b827 2) (ρC1 es e hd key v) [] K=K.ret (.d (.int v)) []:=by kernel_rfl
theorem rk_t (h:IsoC C M 820 [.d (a0m es e),.d (wrD data n first)] (.bool true)) (k:Bool→St→Option R):(EV C (M+12)).t sc895 (a1j (stAt b895 0)) (ρR es e data n first) [] k=k false []:=by
 refine (h _ (by exact cN _ 9) _ _).trans ?_
 kernel_rfl
theorem rk_1 (h:IsoC C M 827 [.d (a0m es e),.d (headD n first data.length),.d (.str (S "N"))] (.int n)):(EV C (M+12)).s sc895 (stAt b895 1) (ρR es e data n first) [] K=K.next (ρR es e data n first++[(oS "many",.d (.int n))]) []:=by
 refine (h _ (by exact cN _ 10) _ _).trans ?_
 kernel_rfl
theorem rk_2 (h:IsoC C M 827 [.d (a0m es e),.d (headD n first data.length),.d (.str (S "First"))] (.int first)):(EV C (M+12)).s sc895 (stAt b895 2) (ρR es e data n first++[(oS "many",.d (.int n))]) [] K=K.next (ρR es e data n first++[(oS "many",.d (.int n)),(oS "first",.d (.int first))]) []:=by
 refine (h _ (by exact cN _ 10) _ _).trans ?_
 kernel_rfl
theorem rk_3 {prs:List D} (h:IsoC C M 888 [.d (.bytes data),.d (.int first),.d (.int n)] (a2e data first prs)) (h2:IsoC C M 874 [.d (a2e data first prs)] x):(EV C (M+30)).s sc895 (stAt b895 3) (ρR es e data n first++[(oS "many",.d (.int n)),(oS "first",.d (.int first))]) [] K=K.ret (.d x) []:=by
 refine (h _ (by exact cN _ 27) _ _).trans ?_
 exact h2 _ (by exact cN _ 28) _ _
end
theorem fd827:tabs.fn 827=some (fdOf 827):=by kernel_rfl
theorem bd827:b827=[stAt b827 0,stAt b827 1,stAt b827 2]:=by kernel_rfl
theorem countX {es:List (D×D)} {e:Option Int} {hd:D} {key:Str} {v:Int} (hv:0≤v) (hg:∀ R:Type,IsoC (calX:CalG R) 61 479 [.d (a0m es e),.d hd,.d (.str key)] (.int v)):∀ R:Type,IsoC (calX:CalG R) 100 827 [.d (a0m es e),.d hd,.d (.str key)] (.int v):=by
 refine a3a 24 (c:=75) (ds:=[a0m es e,hd,.str key]) (v := .d (.int v)) (σ':=[]) (by rfl) (by rfl) fd827 (by rfl) (by rfl) rfl (fun z0 z0 z0=>rfl) fun R M hM k => ?_
 refine a3y (ρ:=ρC0 es e hd key) (σ':=[]) bd827 rfl rfl ?_
 refine a0a (fun nx=>co_0 (M:=M+12) (lift (by lia) (hg R))) ?_
 exact a0a (fun nx=>if_F (by rfl) (fun k=>co_t (M:=M+11) (lift (by lia) kindIX) (decide_eq_false (by lia)) k) (by rfl)) (a0j fun nx=>co_2 (M:=M+12))
theorem fd895:tabs.fn 895=some (fdOf 895):=by kernel_rfl
theorem bd895:b895=[stAt b895 0,stAt b895 1,stAt b895 2,stAt b895 3]:=by kernel_rfl
theorem readP {pk:List (Int×Kind)} (h:PkOk pk) (hne:pk≠[]) (es:List (D×D)) (e:Option Int):∀ (R:Type),IsoC (calX:CalG R) 211 895 [.d (a0m es e),.d (wrD (a1k pk) pk.length (a0n pk).length),.d b1k] (.lst (pk.map a3q)):=by
 refine a3a 32 (c:=178) (ds:=[a0m es e,wrD (a1k pk) pk.length (a0n pk).length,b1k]) (v := .d (.lst (pk.map a3q))) (σ':=[]) (by rfl) (by rfl) fd895 (by rfl) (by rfl) rfl (fun z0 z0 z0=>rfl) fun R M hM k => ?_
 refine a3y (ρ:=ρR es e (a1k pk) pk.length (a0n pk).length) (σ':=[]) bd895 rfl rfl ?_
 refine a0a (fun nx=>if_F (by rfl) (fun k=>rk_t (M:=M+19) (lift (by lia) isosX) k) (by rfl)) ?_
 refine a0a (fun nx=>rk_1 (M:=M+20) (lift (by lia) (countX (by lia) (fun R=>getNX) R))) ?_
 refine a0a (fun nx=>rk_2 (M:=M+20) (lift (by lia) (countX (by lia) (fun R=>getFX) R))) ?_
 exact a0j fun nx=>rk_3 (M:=M+2) (lift (by lia) (openX h hne R)) (lift (by lia) (allX h R))
end Mine.Lw
end
section
namespace Mine.Lw
open PySem
theorem law_for {R:Type} {ih:IH R} {sc:Scope} {s:Stmt} {ρ:Loc} {σ σ':St} {K:KS R} {r:Option R} {d:D} {xs:List D} {p:Expr×Expr×List Stmt×List Stmt} (hs:forLam? s=some p) (h:∀ k,ih.e sc p.2.1 ρ σ k=k (.d d) σ') (hi:∀ k:List D→Option R,itemsOf d k=k xs) (h2:a1v sc p.1 (b4t ih sc) p.2.2.1 xs ρ σ' K=r):a1b ih sc s ρ σ K=r:=by
 unfold a1b
 refine mS hs ?_
 exact (h _).trans ((hi _).trans h2)
theorem a3c {R:Type} {ih:IH R} {sc:Scope} {s:Stmt} {r:List Stmt} {ρ ρ':Loc} {σ σ':St} {K:KS R} {x:Option R} (h:∀ nx,a4m ih sc s ρ σ ⟨nx,K.ret,K.cont,K.brk⟩=nx ρ' σ') (h2:b4t ih sc r ρ' σ' K=x):b4t ih sc (s::r) ρ σ K=x:=(h _).trans h2
noncomputable def f11:List Stmt:=forB 11
theorem bf11:f11=[stAt f11 0,stAt f11 1,stAt f11 2,stAt f11 3,stAt f11 4]:=by kernel_rfl
noncomputable def ρG (ns:List Int) (t n:Int) (nums:List Int) (most:Int) (gs:List (List Int)) (tl:Loc):Loc:=(oS "script",.d (.lst (ns.map .int)))::(oS "table",.r 0)::(oS "shelf",.r 1)::(oS "back",.r 2)::(oS "pen",.r 3)::(oS "turn",.d (.int t))::(oS "number",.d (.int n))::(oS "numbers",.d (.lst (nums.map .int)))::(oS "most",.d (.int most))::(oS "groups",.d (.lst (gs.map fun g => .lst (g.map .int))))::tl
noncomputable def baseN:List Str:=[oS "script",oS "table",oS "shelf",oS "back",oS "pen",oS "turn",oS "number",oS "numbers",oS "most",oS "groups"]
noncomputable def fP (kd:Int→Kind):D→Option D
 | .int o=>some (pairD (o,kd o))
 | _=>none
theorem a6j (kd:Int→Kind):∀ l:List Int,(l.map D.int).filterMap (fP kd)=(l.map fun o=>(o,kd o)).map pairD
 | []=>rfl
 | a::r=>by
  have:fP kd (.int a)=some (pairD (a,kd a)):=rfl
  rewrite [bK]
  refine Eq.trans aO ?_
  rw [this]
  simp [a6j kd r]
noncomputable def fN:D→Option D
 | .tup [.int n,_]=>some (.int n)
 | _=>none
theorem a6k:∀ l:List (Int×Kind),(l.map a3q).filterMap fN=(l.map (·.1)).map .int
 | []=>rfl
 | a::r=>by
  have:fN (a3q a)=some (.int a.1):=rfl
  rewrite [bK]
  refine Eq.trans aO ?_
  rw [this]
  simp [a6k r]
section
variable {R:Type} {C:CalG R} {M:Nat} {K:KS R} {ns nums g:List Int} {t n most:Int} {gs:List (List Int)} {tl:Loc} {P:List D} {es bk:List (D×D)} {e:Option Int} {kd:Int→Kind} {gen:Int→Int} {ps x y:D} {pk:List (Int×Kind)}
theorem ρG_lk (y:Str) (h:baseN.all (fun z => !seq y z)=true):lk y (ρG ns t n nums most gs tl)=lk y tl:=by
 simp only [baseN,List.all_cons,List.all_nil,Bool.and_true,Bool.and_eq_true,aC] at h
 revert h;refine eaaa ?_;rintro h1 h2 h3;refine eaaa ?_;rintro h4 h5 h6;refine eaaa ?_;rintro h7 h8 h9 h10
 unfold ρG
 simp only [lk_n,lk_c,h1,h2,h3,h4,h5,h6,h7,h8,h9,h10,cond_false]
theorem ρG_put (y:Str) (v:V) (h:baseN.all (fun z => !seq y z)=true):put y v (ρG ns t n nums most gs tl)=ρG ns t n nums most gs (put y v tl):=by
 simp only [baseN,List.all_cons,List.all_nil,Bool.and_true,Bool.and_eq_true,aC] at h
 revert h;refine eaaa ?_;rintro h1 h2 h3;refine eaaa ?_;rintro h4 h5 h6;refine eaaa ?_;rintro h7 h8 h9 h10
 unfold ρG
 simp only [a6m,a7h,h1,h2,h3,h4,h5,h6,h7,h8,h9,h10,cond_false]
theorem g_0 (hg:lk (oS "group") (ρG ns t n nums most gs tl)=some (.d (.lst (g.map .int)))) (hl:g.length≤4) (hk:∀ o∈g,keysOk (.int o) es=true∧dhas (.int o) es=true∧a2k (.int o) es = .tup [.int (gen o),enc (kd o)]) :
  a4m (EV C (M+12)) a0o (stAt f11 0) (ρG ns t n nums most gs tl) (σ10 P es e bk) K=K.next (ρG ns t n nums most gs (put (oS "pairs") (.d (.lst ((g.map fun o=>(o,kd o)).map pairD))) tl)) (σ10 P es e bk):=by
 refine mS hg ?_
 conv=>lhs;whnf
 rw [a1h (fP kd) _ _ _ (by
  intro d hd acc k' hl
  refine exa ?_ (bT.mp hd);rintro o ho rfl
  refine eaa ?_ (hk o ho);rintro k1 k2 k3
  have hz2:szOk acc.length=true:=a0h (by lia)
  refine cA k1 ?_
  refine cT k2 ?_
  refine mT k3 ?_
  refine cT hz2 ?_
  kernel_rfl) (by rw [bF];simp;lia)]
 rw [a6j,bW]
 kernel_rfl
theorem g_1 (hp:lk (oS "pairs") (ρG ns t n nums most gs tl)=some (.d ps)) (h:IsoC C M 942 [.d ps,.d (.lst []),.d a6i] x) :
  a4m (EV C (M+12)) a0o (stAt f11 1) (ρG ns t n nums most gs tl) (σ10 P es e bk) K=K.next (ρG ns t n nums most gs (put (oS "stream") (.d x) tl)) (σ10 P es e bk):=by
 refine mS hp ?_
 refine (h _ (by exact cN _ 12) _ _).trans ?_
 kernel_rfl
theorem g_2 (hp:lk (oS "stream") (ρG ns t n nums most gs tl)=some (.d x)) (h:IsoC C M 895 [.d (a0m es e),.d x,.d b1k] y) :
  a4m (EV C (M+12)) a0o (stAt f11 2) (ρG ns t n nums most gs tl) (σ10 P es e bk) K=K.next (ρG ns t n nums most gs (put (oS "read") (.d y) tl)) (σ10 P es e bk):=by
 refine mS hp ?_
 refine (h _ (by exact cN _ 12) _ _).trans ?_
 kernel_rfl
theorem g_3t (hr:lk (oS "read") (ρG ns t n nums most gs tl)=some (.d (.lst (pk.map a3q)))) (hg:lk (oS "group") (ρG ns t n nums most gs tl)=some (.d (.lst ((pk.map (·.1)).map .int)))) (hl:pk.length≤4) (k:Bool→St→Option R) :
  (EV C (M+12)).t a0o (a1j (stAt f11 3)) (ρG ns t n nums most gs tl) (σ10 P es e bk) k=k false (σ10 P es e bk):=by
 refine mS hr ?_
 conv=>lhs;whnf
 rw [a1h fN _ _ _ (by
  intro d hd acc k' hl
  refine exa ?_ (bT.mp hd);rintro o ho rfl
  have hz2:szOk acc.length=true:=a0h (by lia)
  conv=>lhs;whnf
  rw [hz2]
  kernel_rfl) (by rw [bF];simp;lia)]
 rw [a6k,bW]
 refine mS hg ?_
 conv=>lhs;whnf
 rw [a2c]
 conv=>lhs;whnf
 rw [a5i]
 kernel_rfl
end
end Mine.Lw
end
section
namespace Mine.Lw
open PySem
noncomputable def f114:List Stmt:=fBody (stAt f11 4)
theorem bf114:f114=[stAt f114 0]:=by kernel_rfl
noncomputable def putB (bk:List (D×D)) (x:Int×Kind):List (D×D):=dput (.int x.1) (.tup [.int 0,a1s x.2]) bk
noncomputable def putT (tl:Loc) (x:Int×Kind):Loc:=put (oS "value") (.d (a1s x.2)) tl
section
variable {R:Type} {C:CalG R} {M:Nat} {K:KS R} {ns nums g:List Int} {t n most:Int} {gs:List (List Int)} {tl:Loc} {P:List D} {es bk:List (D×D)} {e:Option Int} {kd:Int→Kind} {gen:Int→Int} {v y:D} {pk:List (Int×Kind)}
theorem gb_0 (hv:lk (oS "value") (ρG ns t n nums most gs tl)=some (.d v)) (hk:keysOk (.int n) bk=true) (hz:szOk bk.length=true) :
  (EV C (M+12)).s a0o (stAt f114 0) (ρG ns t n nums most gs tl) (σ10 P es e bk) K=K.next (ρG ns t n nums most gs tl) (σ10 P es e (dput (.int n) (.tup [.int 0,v]) bk)):=by
 refine mS hv ?_
 refine cA hk ?_
 refine cT hz ?_
 kernel_rfl
theorem gb_loop:∀ (pk:List (Int×Kind)) (n:Int) (tl:Loc) (bk:List (D×D)) (ks:List Int),bk.map Prod.fst=ks.map D.int→ks.length+pk.length≤100 →
  a1v a0o (fTgt (stAt f11 4)) (evSs (EV C (M+12)) a0o) f114 (pk.map a3q) (ρG ns t n nums most gs tl) (σ10 P es e bk) K=K.next (ρG ns t (pk.foldl (fun z0 x=>x.1) n) nums most gs (pk.foldl putT tl)) (σ10 P es e (pk.foldl putB bk))
 | [],n,tl,bk,ks,h,hl=>rfl
 | x::r,n,tl,bk,ks,h,hl=>by
  have hlen:bk.length=ks.length:=a5g h
  simp only [bE] at hl
  refine Eq.trans (b:=evSs (EV C (M+12)) a0o f114 (put (oS "value") (.d (a1s x.2)) (ρG ns t x.1 nums most gs tl)) (σ10 P es e bk) ⟨fun ρ σ=>a1v a0o (fTgt (stAt f11 4)) (evSs (EV C (M+12)) a0o) f114 (r.map a3q) ρ σ K,K.ret,fun ρ σ=>a1v a0o (fTgt (stAt f11 4)) (evSs (EV C (M+12)) a0o) f114 (r.map a3q) ρ σ K,fun z0 z0=>none⟩) (by rfl) ?_
  rw [ρG_put _ _ rfl]
  refine Eq.trans (congrArg (fun b=>evSs (EV C (M+12)) a0o b _ _ _) bf114) ?_
  refine a0a (fun nx=>gb_0 (by rw [ρG_lk _ rfl,a0d _ _ _ rfl]) (a0t h _) (a0h (by lia))) ?_
  exact gb_loop r x.1 (putT tl x) (putB bk x) (insK x.1 ks) (a5f h _ _) (by have:=insK_len x.1 ks;lia)
theorem g_4 (hr:lk (oS "read") (ρG ns t n nums most gs tl)=some (.d (.lst (pk.map a3q)))) {ks:List Int} (h:bk.map Prod.fst=ks.map D.int) (hl:ks.length+pk.length≤100) :
  a4m (EV C (M+13)) a0o (stAt f11 4) (ρG ns t n nums most gs tl) (σ10 P es e bk) K=K.next (ρG ns t (pk.foldl (fun z0 x=>x.1) n) nums most gs (pk.foldl putT tl)) (σ10 P es e (pk.foldl putB bk)):=by
 refine Eq.trans (b:=(EV C (M+13)).s a0o (stAt f11 4) (ρG ns t n nums most gs tl) (σ10 P es e bk) K) (by rfl) ?_
 refine for_w (n:=M+12) (d := .lst (pk.map a3q)) (xs:=pk.map a3q) (σ':=σ10 P es e bk) (by rfl) (fun k => ?_) (fun k=>rfl) ?_
 ·exact mS hr rfl
 ·exact gb_loop pk n tl bk ks h hl
end
structure BackOk (bk:List (D×D)) (done keys:List Int) (gen:Int→Int) (kd:Int→Kind):Prop where
 fst:bk.map Prod.fst=done.map D.int
 nd:done.Nodup
 get:∀ m∈done,m∈keys∧∃ v,a2k (.int m) bk = .tup [.int (gen m),v]∧(v=enc (kd m)∨(isP (kd m)=true∧v=a1s (kd m)))
theorem BackOk.put {bk:List (D×D)} {done keys:List Int} {gen:Int→Int} {kd:Int→Kind} (h:BackOk bk done keys gen kd) {n:Int} (hn:n∉done) (hk:n∈keys) {v:D} (hv:v=enc (kd n)∨(isP (kd n)=true∧v=a1s (kd n))):BackOk (dput (.int n) (.tup [.int (gen n),v]) bk) (done++[n]) keys gen kd:=by
 have hi:insK n done=done++[n]:=by unfold insK;rw [if_neg hn]
 refine ⟨by rw [a5f h.fst,hi],?_,?_⟩
 ·refine bX.mpr ⟨h.nd,by simp,?_⟩
  intro a ha b hb
  simp only [bV] at hb
  subst hb
  intro e;subst e;exact hn ha
 ·intro m hm
  rw [a8m h.fst]
  by_cases e:m=n
  ·subst e
   exact ⟨hk,v,by simp,hv⟩
  ·simp only [e,if_false]
   refine h.get m ?_
   rcases bM.mp hm with hm | hm
   ·exact hm
   ·exact absurd (bV.mp hm) e
theorem BackOk.group {keys:List Int} {gen:Int→Int} {kd:Int→Kind}:∀ (g:List Int) (bk:List (D×D)) (done:List Int),BackOk bk done keys gen kd→(∀ o∈g,o∈keys∧gen o=0∧isP (kd o)=true∧o∉done)→g.Nodup→BackOk ((g.map fun o=>(o,kd o)).foldl putB bk) (done++g) keys gen kd
 | [],bk,done,h,_,_=>by rw [aJ];exact h
 | o::r,bk,done,h,ho,hd=>by
  refine eaaa ?_ (ho o (.head _));rintro o1 o2 o3 o4
  refine aE ?_ (bY.mp hd);rintro d1 d2
  have h1:=h.put o4 o1 (v:=a1s (kd o)) (.inr ⟨o3,rfl⟩)
  rw [o2] at h1
  have h2:=BackOk.group r _ (done++[o]) h1 (fun x hx=>by
   refine eaaa ?_ (ho x (.tail _ hx));rintro x1 x2 x3 x4
   refine ⟨x1,x2,x3,fun hm => ?_⟩
   rcases bM.mp hm with hm | hm
   ·exact x4 hm
   ·rw [bV.mp hm] at hx;exact d1 hx) d2
  rw [aI] at h2
  exact h2
theorem group_turn {R:Type} {M:Nat} (hM:230≤M) {K:KS R} {ns nums g:List Int} {t n most:Int} {gs:List (List Int)} {tl:Loc} {P:List D} {es bk:List (D×D)} {e:Option Int} {keys done:List Int} {kd:Int→Kind} {gen:Int→Int} (h:TabOk es keys gen kd) (hb:BackOk bk done keys gen kd) (hdl:done.length≤50)
  (hg:lk (oS "group") (ρG ns t n nums most gs tl)=some (.d (.lst (g.map .int)))) (hl:g.length≤4) (hne:g≠[]) (hd:g.Nodup) (ho:∀ o∈g,o∈keys∧isP (kd o)=true) :
  b4t (EV calX (M+13)) a0o f11 (ρG ns t n nums most gs tl) (σ10 P es e bk) K=K.next (ρG ns t ((g.map fun o=>(o,kd o)).foldl (fun z0 x=>x.1) n) nums most gs ((g.map fun o=>(o,kd o)).foldl putT (put (oS "read") (.d (.lst ((g.map fun o=>(o,kd o)).map a3q))) (put (oS "stream") (.d (wrD (a1k (g.map fun o=>(o,kd o))) (g.map fun o=>(o,kd o)).length (a0n (g.map fun o=>(o,kd o))).length)) (put (oS "pairs") (.d (.lst ((g.map fun o=>(o,kd o)).map pairD))) tl))))) (σ10 P es e ((g.map fun o=>(o,kd o)).foldl putB bk)):=by
 have hfst:(g.map fun o=>(o,kd o)).map (·.1)=g:=by rw [bL];exact List.map_id' g
 have hpk:PkOk (g.map fun o=>(o,kd o)):=by
  refine ⟨by rw [show (g.map fun o=>(o,kd o)).map Prod.fst=g from hfst];exact hd,?_,?_,by rw [bF];exact hl⟩
  ·intro x hx
   refine exa ?_ (bT.mp hx);rintro o ho' rfl
   exact h.rng o (ho o ho').1
  ·intro x hx
   refine exa ?_ (bT.mp hx);rintro o ho' rfl
   exact (ho o ho').2
 have hne':(g.map fun o=>(o,kd o))≠[]:=by
  intro e;exact hne (List.map_eq_nil_iff.mp e)
 have hl':(g.map fun o=>(o,kd o)).length≤4:=by rw [bF];exact hl
 have w:=writeP hpk hne' R
 have r:=readP hpk hne' es e R
 have hgl:=hg
 rw [bf11]
 refine a3c (fun nx=>g_0 (M:=M+1) (gen:=gen) (kd:=kd) hg hl fun o hog=>⟨a0t h.fst o,by rw [a1z h.fst];exact decide_eq_true (ho o hog).1,h.get o (ho o hog).1⟩) ?_
 refine a3c (fun nx=>g_1 (M:=M+1) (by rw [ρG_lk _ rfl,a0d _ _ _ rfl]) (lift (by lia) w)) ?_
 refine a3c (fun nx=>g_2 (M:=M+1) (by rw [ρG_lk _ rfl,a0d _ _ _ rfl]) (lift (by lia) r)) ?_
 refine a3c (s:=stAt f11 3) (fun nx=>Eq.trans (b:=(EV calX (M+13)).s a0o (stAt f11 3) _ _ _) (by rfl) (if_F (by rfl) (fun k=>g_3t (M:=M) (by rw [ρG_lk _ rfl,a0d _ _ _ rfl]) (by rw [hfst,ρG_lk _ rfl,a0q _ rfl,a0q _ rfl,a0q _ rfl,← ρG_lk (ns:=ns) (t:=t) (n:=n) (nums:=nums) (most:=most) (gs:=gs) _ rfl];exact hg) hl' k) (by rfl))) ?_
 exact a3c (fun nx=>g_4 (M:=M) (by rw [ρG_lk _ rfl,a0d _ _ _ rfl]) hb.fst (by rw [bF];lia)) rfl
end Mine.Lw
end
section
set_option tactic.hygienic true
namespace Mine.Lw
open PySem
inductive I11 (ns nums:List Int) (t most:Int) (gs:List (List Int)) (P:List D) (es:List (D×D)) (e:Option Int) (keys:List Int) (kd:Int→Kind) (gen:Int→Int) (ds:List D):Loc→St→Prop
 | mk (tl:Loc) (n':Int) (rem:List (List Int)) (done:List Int) (bk:List (D×D)):ds=rem.map (fun g=>D.lst (g.map .int))→done++rem.flatten=nums→BackOk bk done keys gen kd→(∀ g∈rem,g∈gs)→I11 ns nums t most gs P es e keys kd gen ds (ρG ns t n' nums most gs tl) (σ10 P es e bk)
inductive I12 (ns nums:List Int) (t most:Int) (gs:List (List Int)) (tl:Loc) (P:List D) (es:List (D×D)) (e:Option Int) (keys:List Int) (kd:Int→Kind) (gen:Int→Int) (ds:List D):Loc→St→Prop
 | mk (n':Int) (pre rem:List Int) (bk:List (D×D)):ds=rem.map D.int→pre++rem=keys→BackOk bk (nums++pre.filter fun n => !(nums.any fun j=>decide (j=n))) keys gen kd→I12 ns nums t most gs tl P es e keys kd gen ds (ρG ns t n' nums most gs tl) (σ10 P es e bk)
theorem st11_run {R:Type} {M:Nat} (hM:230≤M) {K:KS R} {r:Option R} {ns nums:List Int} {t n most:Int} {gs:List (List Int)} {P:List D} {es:List (D×D)} {e:Option Int} {keys:List Int} {kd:Int→Kind} {gen:Int→Int} (h:TabOk es keys gen kd)
  (hflat:gs.flatten=nums) (hsm:∀ g∈gs,g≠[]∧g.length≤4) (hnd:nums.Nodup) (hn9:nums.length≤40) (ho:∀ o∈nums,o∈keys∧gen o=0∧isP (kd o)=true)
  (fin:∀ tl n' bk',BackOk bk' nums keys gen kd→K.next (ρG ns t n' nums most gs tl) (σ10 P es e bk')=r) :
  a1b (EV calX (M+13)) a0o (a0u 11) (ρ7 ns t n nums most gs) (σ10 P es e []) K=r:=by
 refine law_for (d := .lst (gs.map fun g => .lst (g.map .int))) (xs:=gs.map fun g => .lst (g.map .int)) (σ':=σ10 P es e []) (p:=(fTgt (a0u 11),a5u (a0u 11),forB 11,[])) (by kernel_rfl) (fun k=>by kernel_rfl) (fun k=>rfl) ?_
 refine a6w (I11 ns nums t most gs P es e keys kd gen) ?_ (.mk [] n gs [] [] rfl hflat ⟨rfl,bZ,by simp⟩ fun g hg=>hg) ?_
 ·rintro d ds ρ σ q1_
  induction q1_ with | mk tl n' rem done bk h1 h4 h5 h6 =>
  induction rem using aK with
  | nil=>exact nCN h1
  | cons g rem =>
   refine aE ?_ (aL.inj h1);rintro rfl rfl
   refine aE ?_ (hsm g (h6 g (.head _)));rintro s1 s2
   rw [List.flatten_cons] at h4
   have hgn:∀ o∈g,o∈nums:=fun o hog=>by rw [← h4];exact bO _ (bN _ hog)
   have hnd':=hnd
   rw [← h4] at hnd'
   refine eaa ?_ (bX.mp hnd');rintro _ nd2 nd3
   refine eaa ?_ (bX.mp nd2);rintro nd4 _ _
   have hlen:=congrArg List.length h4
   rw [bD] at hlen
   refine ⟨_,_,.mk ((g.map fun o=>(o,kd o)).foldl putT (put (oS "read") (.d (.lst ((g.map fun o=>(o,kd o)).map a3q))) (put (oS "stream") (.d (wrD (a1k (g.map fun o=>(o,kd o))) (g.map fun o=>(o,kd o)).length (a0n (g.map fun o=>(o,kd o))).length)) (put (oS "pairs") (.d (.lst ((g.map fun o=>(o,kd o)).map pairD))) (put (oS "group") (.d (.lst (g.map .int))) tl))))) ((g.map fun o=>(o,kd o)).foldl (fun z0 x=>x.1) n') rem (done++g) ((g.map fun o=>(o,kd o)).foldl putB bk) rfl (by rw [aI];exact h4) ?_ (fun x hx=>h6 x (.tail _ hx)),fun nx rt => ?_⟩
   ·refine h5.group g bk done (fun o hog => ?_) nd4
    refine eaa ?_ (ho o (hgn o hog));rintro o1 o2 o3
    exact ⟨o1,o2,o3,fun hm=>nd3 o hm o (bN _ hog) rfl⟩
   ·refine Eq.trans (b:=b4t (EV calX (M+13)) a0o f11 (put (oS "group") (.d (.lst (g.map .int))) (ρG ns t n' nums most gs tl)) (σ10 P es e bk) ⟨nx,rt,nx,fun z0 z0=>none⟩) (by rfl) ?_
    rw [ρG_put _ _ rfl]
    exact group_turn hM h h5 (by lia) (by rw [ρG_lk _ rfl,a0d _ _ _ rfl]) s2 s1 nd4 fun o hog=>⟨(ho o (hgn o hog)).1,(ho o (hgn o hog)).2.2⟩
 ·rintro ρ σ q1_
  induction q1_ with | mk tl n' rem done bk h1 h4 h5 h6 =>
  induction rem using aK with
  | cons g rem=>exact nNC h1
  | nil =>
   have h4:done=nums:=by simpa using h4
   subst h4
   exact fin tl n' bk h5
noncomputable def f12:List Stmt:=forB 12
theorem bf12:f12=[stAt f12 0]:=by kernel_rfl
theorem bi12:a1r (stAt f12 0)=[stAt (a1r (stAt f12 0)) 0]:=by kernel_rfl
section
variable {R:Type} {C:CalG R} {M:Nat} {K:KS R} {ns nums:List Int} {t n most:Int} {gs:List (List Int)} {tl:Loc} {P:List D} {es bk:List (D×D)} {e:Option Int} {x:D}
theorem re_t {b:Bool} (hb:(nums.any fun j=>decide (j=n))=b) (k:Bool→St→Option R):(EV C (M+12)).t a0o (a1j (stAt f12 0)) (ρG ns t n nums most gs tl) (σ10 P es e bk) k=k (!b) (σ10 P es e bk):=by
 have hi:memD (.int n) (nums.map .int)=some b:=by show anyOf (intsOf (nums.map D.int)) _=_;rw [a0v,← hb];rfl
 exact mQ hi rfl
 all_goals (cases b <;> kernel_rfl)
theorem re_0 (hk:keysOk (.int n) es=true) (hh:dhas (.int n) es=true) (hg:a2k (.int n) es=x) (hk2:keysOk (.int n) bk=true) (hz:szOk bk.length=true) :
  (EV C (M+12)).s a0o (stAt (a1r (stAt f12 0)) 0) (ρG ns t n nums most gs tl) (σ10 P es e bk) K=K.next (ρG ns t n nums most gs tl) (σ10 P es e (dput (.int n) x bk)):=by
 refine cA hk ?_
 refine cT hh ?_
 conv=>lhs;whnf
 rw [hg]
 refine cA hk2 ?_
 refine cT hz ?_
 kernel_rfl
end
theorem st12_run {R:Type} {M:Nat} {K:KS R} {r:Option R} {ns nums:List Int} {t n most:Int} {gs:List (List Int)} {tl:Loc} {P:List D} {es bk:List (D×D)} {e:Option Int} {keys:List Int} {kd:Int→Kind} {gen:Int→Int} (h:TabOk es keys gen kd) (hb:BackOk bk nums keys gen kd) (hl:nums.length+keys.length≤100)
  (fin:∀ n' bk',BackOk bk' (nums++keys.filter fun n => !(nums.any fun j=>decide (j=n))) keys gen kd→K.next (ρG ns t n' nums most gs tl) (σ10 P es e bk')=r) :
  a1b (EV calX (M+14)) a0o (a0u 12) (ρG ns t n nums most gs tl) (σ10 P es e bk) K=r:=by
 refine Eq.trans (b:=(EV calX (M+14)).s a0o (a0u 12) (ρG ns t n nums most gs tl) (σ10 P es e bk) K) (by rfl) ?_
 refine for_wv (n:=M+13) (v := .r 4) (d := .dct es) (xs:=keys.map .int) (σ':=σ10 P es e bk) (σ'':=σ10 P es e bk) (by rfl) (fun k=>by kernel_rfl) (fun k=>by rfl) (fun k=>congrArg k h.fst) ?_
 refine a6w (I12 ns nums t most gs tl P es e keys kd gen) ?_ (.mk n [] keys bk rfl rfl (by simpa using hb)) ?_
 ·rintro d ds ρ σ q1_
  induction q1_ with | mk n' pre rem bk h1 h4 h5 =>
  induction rem using aK with
  | nil=>exact nCN h1
  | cons o rem =>
   refine aE ?_ (aL.inj h1);rintro rfl rfl
   have hok:o∈keys:=by rw [← h4];simp
   have hlen:bk.length≤100:=by
    have a1:=a5g h5.fst
    have a2:=List.length_filter_le (fun n => !(nums.any fun j=>decide (j=n))) pre
    have a3:=congrArg List.length h4
    rw [bD] at a1 a3
    lia
   have hpre:o∉pre:=by
    have:=h.nd
    rw [← h4] at this
    intro hm
    exact (bX.mp this).2.2 o hm o (.head _) rfl
   cases hbq:(nums.any fun j=>decide (j=o)) with
   | true =>
    refine ⟨_,_,.mk o (pre++[o]) rem bk rfl (by rw [aI];exact h4) ?_,fun nx rt => ?_⟩
    ·rw [List.filter_append]
     have:[o].filter (fun n => !(nums.any fun j=>decide (j=n)))=[]:=by simp [aP,hbq]
     rw [this,aJ];exact h5
    ·refine Eq.trans (b:=evSs (EV calX (M+13)) a0o f12 (ρG ns t o nums most gs tl) (σ10 P es e bk) ⟨nx,rt,nx,fun z0 z0=>none⟩) (by rfl) ?_
     rw [bf12]
     exact a0a (fun nx=>if_F (by rfl) (fun k=>re_t (M:=M) hbq k) (by rfl)) rfl
   | false =>
    refine ⟨_,_,.mk o (pre++[o]) rem (dput (.int o) (.tup [.int (gen o),enc (kd o)]) bk) rfl (by rw [aI];exact h4) ?_,fun nx rt => ?_⟩
    ·rw [List.filter_append]
     have:[o].filter (fun n => !(nums.any fun j=>decide (j=n)))=[o]:=by simp [aP,hbq]
     rw [this,← aI]
     refine h5.put ?_ hok (.inl rfl)
     intro hm
     rcases bM.mp hm with hm | hm
     ·have:=aH (p:=fun j=>decide (j=o)).mpr ⟨o,hm,decide_eq_true rfl⟩
      rw [hbq] at this;exact nFT this
     ·exact hpre (bQ.mp hm).1
    ·refine Eq.trans (b:=evSs (EV calX (M+13)) a0o f12 (ρG ns t o nums most gs tl) (σ10 P es e bk) ⟨nx,rt,nx,fun z0 z0=>none⟩) (by rfl) ?_
     rw [bf12]
     refine a0a (fun nx=>if_T (by rfl) (fun k=>re_t (M:=M) hbq k) ?_) rfl
     rw [bi12]
     exact a0a (fun nx=>re_0 (M:=M) (a0t h.fst o) (by rw [a1z h.fst];exact decide_eq_true hok) (h.get o hok) (a0t h5.fst o) (a0h (by lia))) rfl
 ·rintro ρ σ q1_
  induction q1_ with | mk n' pre rem bk h1 h4 h5 =>
  induction rem using aK with
  | cons o rem=>exact nNC h1
  | nil =>
   have h4:pre=keys:=by simpa using h4
   subst h4
   exact fin n' bk h5
end Mine.Lw
end
section
namespace Mine.Lw
open PySem
theorem tolb_dict (R:Type) (m:Nat) (σ:St) (k:V→St→Option R):a0g tabs (ev tabs (m+80)) (.d (.g 438)) [.d (a1s .dict)] σ k=k (.d (a3i .dict)) σ:=by kernel_rfl
theorem tolbX (R:Type):IsoC (calX:CalG R) 81 438 [.d (a1s .dict)] (a3i .dict):=up fun m σ k=>by
 rw [show m+81=(m+80)+1 from rfl,a0z,a2z];exact tolb_dict R m σ k
theorem toldBX (kk:Kind) (h:isP kk=true) (R:Type):IsoC (calX:CalG R) 81 438 [.d (a1s kk)] (a3i kk):=by
 induction kk with
 | dict=>exact tolbX R
 | k17=>exact b5g .k17 R
 | name=>exact b5g .name R
 | arr=>exact b5g .arr R
 | zero=>exact b5g .zero R
 | neg=>exact b5g .neg R
 | str3=>exact nFT h
 | strR r=>exact nFT h
 | ref r=>exact nFT h
noncomputable def rowD (gen:Int→Int) (kd:Int→Kind) (m:Int):D := .tup [.int (gen m),a3i (kd m)]
theorem plain_told (kk:Kind) (n:Nat):plain (n+12) (a3i kk)=true:=by
 cases kk <;> rfl
theorem a5z (gen:Int→Int) (kd:Int→Kind):∀ l:List Int,(l.map (rowD gen kd)).all (plain 59)=true
 | []=>rfl
 | a::r=>by
  show ((true&&(plain 58 (a3i (kd a))&&true))&&(r.map (rowD gen kd)).all (plain 59))=true
  rw [plain_told (kd a) 46,a5z gen kd r];rfl
noncomputable def fE (gen:Int→Int) (kd:Int→Kind):D→Option D
 | .int m=>some (rowD gen kd m)
 | _=>none
theorem a4b (gen:Int→Int) (kd:Int→Kind):∀ l:List Int,(l.map D.int).filterMap (fE gen kd)=l.map (rowD gen kd)
 | []=>rfl
 | a::r=>by
  have:fE gen kd (.int a)=some (rowD gen kd a):=rfl
  rewrite [bK]
  refine Eq.trans aO ?_
  rw [this]
  simp [a4b gen kd r]
noncomputable def retE (s:Stmt):Expr:=if h:_ then Stmt.Return.elim s h fun e z0=>e.getD (.Constant .none 0 default) else .Constant .none 0 default
section
variable {R:Type} {C:CalG R} {M:Nat} {K:KS R} {ns nums keys done:List Int} {t n most:Int} {gs:List (List Int)} {tl:Loc} {P:List D} {es bk:List (D×D)} {e:Option Int} {kd:Int→Kind} {gen:Int→Int}
theorem st13_t (hb:bk.map Prod.fst=done.map D.int) (hf:es.map Prod.fst=keys.map D.int) (hp:sortI done=sortI keys) (l1:done.length < 64) (l2:keys.length < 64) (k:Bool→St→Option R) :
  (EV C (M+12)).t a0o (a1j (a0u 13)) (ρG ns t n nums most gs tl) (σ10 P es e bk) k=k false (σ10 P es e bk):=by
 have b1:(done.map D.int).length.blt 64=true:=by rw [bF];exact cJ.mpr l1
 have b2:(keys.map D.int).length.blt 64=true:=by rw [bF];exact cJ.mpr l2
 conv=>lhs;whnf
 rewrite [hb]
 refine cT b1 ?_
 conv=>lhs;whnf
 rw [a0v]
 conv=>lhs;whnf
 rewrite [hf]
 refine cT b2 ?_
 conv=>lhs;whnf
 rw [a0v]
 conv=>lhs;whnf
 rw [hp,a2c]
 conv=>lhs;whnf
 rw [a5i]
 kernel_rfl
theorem st14_r (hb:bk.map Prod.fst=done.map D.int) (hf:es.map Prod.fst=keys.map D.int) (hp:sortI done=sortI keys) (l1:done.length < 64) (l2:keys.length < 64)
  (hB:∀ m∈keys,∃ v,keysOk (.int m) bk=true∧dhas (.int m) bk=true∧a2k (.int m) bk = .tup [.int (gen m),v]∧IsoC C M 438 [.d v] (a3i (kd m)))
  (hT:∀ m∈keys,∃ v,keysOk (.int m) es=true∧dhas (.int m) es=true∧a2k (.int m) es = .tup [.int (gen m),v]∧IsoC C M 438 [.d v] (a3i (kd m))) :
  a1b (EV C (M+13)) a0o (a0u 14) (ρG ns t n nums most gs tl) (σ10 P es e bk) K=K.ret (.d (.bool true)) (σ10 P es e bk):=by
 have b1:(done.map D.int).length.blt 64=true:=by rw [bF];exact cJ.mpr l1
 have b2:(keys.map D.int).length.blt 64=true:=by rw [bF];exact cJ.mpr l2
 have lk2:(sortI keys).length≤64:=by rw [a1n];lia
 conv=>lhs;whnf
 rewrite [hb]
 refine cT b1 ?_
 conv=>lhs;whnf
 rw [a0v]
 conv=>lhs;whnf
 rw [hp]
 rw [a1h (fE gen kd) _ _ _ (by
  intro d hd acc k' hl
  refine exa ?_ (bT.mp hd);rintro o ho rfl
  refine exaa ?_ (hB o (mem_sortI.mp ho));rintro v k1 k2;refine aE ?_;rintro k3 k4
  have hz2:szOk acc.length=true:=a0h (by lia)
  refine cA k1 ?_
  refine cT k2 ?_
  refine mT k3 ?_
  refine cA k1 ?_
  refine cT k2 ?_
  refine mT k3 ?_
  refine (k4 _ (by exact cN _ 8) _ _).trans ?_
  refine cT hz2 ?_
  kernel_rfl) (by rw [bF];simp;lia)]
 rw [a4b,bW]
 conv=>lhs;whnf
 rewrite [hf]
 refine cT b2 ?_
 conv=>lhs;whnf
 rw [a0v]
 conv=>lhs;whnf
 rw [a1h (fE gen kd) _ _ _ (by
  intro d hd acc k' hl
  refine exa ?_ (bT.mp hd);rintro o ho rfl
  refine exaa ?_ (hT o (mem_sortI.mp ho));rintro v k1 k2;refine aE ?_;rintro k3 k4
  have hz2:szOk acc.length=true:=a0h (by lia)
  refine cA k1 ?_
  refine cT k2 ?_
  refine mT k3 ?_
  refine cA k1 ?_
  refine cT k2 ?_
  refine mT k3 ?_
  refine (k4 _ (by exact cN _ 8) _ _).trans ?_
  refine cT hz2 ?_
  kernel_rfl) (by rw [bF];simp;lia)]
 rw [a4b,bW]
 have c1:a1l 60 (.lst ((sortI keys).map (rowD gen kd))) (.lst ((sortI keys).map (rowD gen kd)))=true:=(a2j 60 (.lst ((sortI keys).map (rowD gen kd))) (a5z gen kd _)).1
 have c2:deq (.lst ((sortI keys).map (rowD gen kd))) (.lst ((sortI keys).map (rowD gen kd)))=true:=(a2j 60 (.lst ((sortI keys).map (rowD gen kd))) (a5z gen kd _)).2
 refine cT c1 ?_
 conv=>lhs;whnf
 rw [c2]
end
end Mine.Lw
end
section
namespace Mine.Lw
open PySem
theorem refs_any (keys:List Int) (kd:Int→Kind) (n:Int):∀ (l acc:List Int),(refs keys kd l acc).any (fun j=>decide (j=n))=(acc.any (fun j=>decide (j=n))||l.any fun o=>decide (a1t (kd o)=some n))
 | [],acc=>by simp [refs_n,refs_c]
 | a::r,acc=>by
  simp only [refs_n,refs_c]
  refine Eq.trans (refs_any keys kd n r _) ?_
  cases h:a1t (kd a) with
  | none=>simp [h]
  | some x =>
   by_cases hx:x∈acc
   ·simp only [hx,if_true,aG,h]
    by_cases hn:x=n
    ·subst hn
     have:acc.any (fun j=>decide (j=x))=true:=aH.mpr ⟨x,hx,decide_eq_true rfl⟩
     rw [this];simp
    ·have:decide (some x=some n)=false:=decide_eq_false (by simpa using hn)
     rw [this];simp
   ·simp only [hx,if_false,List.any_append,aG,List.any_nil,h,Option.some.injEq,Bool.or_false]
    rw [Bool.or_assoc]
theorem pk_is (keys:List Int) (kd:Int→Kind) (gen:Int→Int) (e:Option Int) (n:Int):pkB keys kd gen e n=isB keys kd gen e n:=by
 unfold pkB isB mayB
 rw [refs_any,b3j]
 simp only [List.any_nil,Bool.false_or]
 cases keys.any (fun o=>decide (a1t (kd o)=some n)) <;> cases decide (gen n=0) <;> cases (isStr (kd n)||a5h (kd n)) <;> cases decide (e=some n) <;> rfl
theorem back_perm (keys:List Int) (p:Int→Bool):((sortI keys).filter p++keys.filter fun n => !(((sortI keys).filter p).any fun j=>decide (j=n))).Perm keys:=by
 have h:(keys.filter fun n => !(((sortI keys).filter p).any fun j=>decide (j=n)))=keys.filter fun n => !p n:=by
  refine List.filter_congr fun n hn => ?_
  congr 1
  cases hp:p n with
  | true=>exact aH.mpr ⟨n,bQ.mpr ⟨mem_sortI.mpr hn,hp⟩,decide_eq_true rfl⟩
  | false =>
   refine List.any_eq_false.mpr fun j hj => ?_
   have hj:=(bQ.mp hj).2
   intro hd
   have:=of_decide_eq_true hd
   subst this
   rw [hp] at hj;exact nFT hj
 rw [h]
 exact (((a2q keys).filter p).append_right _).trans (List.filter_append_perm p keys)
theorem lb3:lawB 3=a0u 3::lawB 4:=by kernel_rfl
theorem lb4:lawB 4=a0u 4::lawB 5:=by kernel_rfl
theorem lb5:lawB 5=a0u 5::lawB 6:=by kernel_rfl
theorem lb6:lawB 6=a0u 6::lawB 7:=by kernel_rfl
theorem lb7:lawB 7=a0u 7::lawB 8:=by kernel_rfl
theorem lb8:lawB 8=a0u 8::lawB 9:=by kernel_rfl
theorem lb9:lawB 9=a0u 9::lawB 10:=by kernel_rfl
theorem lb10:lawB 10=a0u 10::lawB 11:=by kernel_rfl
theorem lb11:lawB 11=a0u 11::lawB 12:=by kernel_rfl
theorem lb12:lawB 12=a0u 12::lawB 13:=by kernel_rfl
theorem lb13:lawB 13=a0u 13::lawB 14:=by kernel_rfl
theorem lb14:lawB 14=a0u 14::lawB 15:=by kernel_rfl
theorem a5l {R:Type} {ih:IH R} {sc:Scope} {s:Stmt} {b r:List Stmt} (hb:b=s::r) {ρ:Loc} {σ:St} {K:KS R} {x:Option R} (h:a1b ih sc s ρ σ ⟨fun ρ σ=>b4u ih sc r ρ σ K,K.ret,K.cont,K.brk⟩=x):b4u ih sc b ρ σ K=x:=by
 rw [hb];exact h
theorem st13_w {R:Type} {C:CalG R} {M:Nat} {K:KS R} {ns nums keys done:List Int} {t n most:Int} {gs:List (List Int)} {tl:Loc} {P:List D} {es bk:List (D×D)} {e:Option Int} (hb:bk.map Prod.fst=done.map D.int) (hf:es.map Prod.fst=keys.map D.int) (hp:sortI done=sortI keys) (l1:done.length < 64) (l2:keys.length < 64) :
  a1b (EV C (M+13)) a0o (a0u 13) (ρG ns t n nums most gs tl) (σ10 P es e bk) K=K.next (ρG ns t n nums most gs tl) (σ10 P es e bk) :=
 (a8o (by rfl)).trans (if_F (by rfl) (fun k=>st13_t hb hf hp l1 l2 k) (by rfl))
noncomputable def lawK:V→St→Option Unit:=fun v z0=>isTrueV v
theorem law_trueM (M:Nat) (hM:276≤M) (ns:List Int) (hn:ns.length≤63):runTop (ev tabs (M+14)) (fdOf 980) [.d (.lst (ns.map .int))] [] lawK=some ():=by
 rw [← a2z]
 refine (top_w (M+14) _).trans ?_
 refine exa ?_ (penX ns hn);rintro P hP hpen
 refine a1c lb0 (fun nx=>st0_w (M:=M+2) (lift (by lia) (hpen Unit)) _) ?_
 refine a1c lb1 (fun nx=>st1_w (M:=M+2) _) ?_
 induction table_w ns hP with | mk P2 es keys gen kd t n hP2 hT hk8 htab =>
 refine a1c lb2 (fun nx=>htab Unit (M+1) _ (by lia)) ?_
 refine exxa ?_ (st3_w ns (k:=798) hP2 es t n);rintro P3 e hP3;refine aE ?_;rintro he hsh
 refine a1c lb3 (fun nx=>hsh Unit (M+1) _ (by lia)) ?_
 generalize hnums:(sortI keys).filter (pkB keys kd gen e)=nums
 have hpack:=packX hT (by lia) e Unit
 rw [hnums] at hpack
 refine a1c lb4 (fun nx=>st4_w (M:=M+1) (lift (by lia) hpack)) ?_
 have hnums2:nums=(sortI keys).filter (isB keys kd gen e):=by
  rw [← hnums]
  exact List.filter_congr fun n z0=>pk_is keys kd gen e n
 refine a1c lb5 (fun nx=>st5_w (M:=M+1) hT.fst (by lia) hnums2 fun n hn=>lift (by lia) (isX hT e hn Unit)) ?_
 refine exxa ?_ (a8l (n:=797) hP3 (lim:=4) (by decide) (by decide));rintro d P4 d1;refine eaa ?_;rintro d2 hP4 hd
 refine a1c lb6 (fun nx=>st6_w (M:=M+1) (lift (by lia) (hd Unit))) ?_
 have hnl:nums.length≤8:=by
  rw [hnums2]
  exact cS (List.length_filter_le _ _) (by rw [a1n];exact hk8)
 refine eaa ?_ (b3l nums (1+d) (by lia) (by lia) (by lia));rintro hG _ _
 refine a1c lb7 (fun nx=>st7_w (M:=M+1) (lift (by lia) (groupsX (by lia) (by lia) (by lia) Unit))) ?_
 refine a1c lb8 (fun nx=>st8_w (M:=M) (by lia) (by lia) hG) ?_
 refine exxa ?_ (a8l (n:=796) hP4 (lim:=3) (by decide) (by decide));rintro d3 P5 d4;refine eaa ?_;rintro d5 hP5 hd3
 refine a1c lb9 (fun nx=>st9_w (M:=M+2) (by lia) hG d4 (lift (by lia) (hd3 Unit))) ?_
 refine a1c lb10 (fun nx=>st10_w (M:=M)) ?_
 have hmem:∀ o∈nums,o∈keys∧gen o=0∧isP (kd o)=true:=by
  intro o ho
  rw [hnums2] at ho
  refine aE ?_ (bQ.mp ho);rintro h1 h2
  unfold isB at h2
  simp only [Bool.and_eq_true] at h2
  exact ⟨mem_sortI.mp h1,of_decide_eq_true h2.1.1,h2.1.2⟩
 have hnd:nums.Nodup:=by
  rw [hnums2]
  exact (b5f hT.nd).filter _
 refine a5l lb11 (st11_run (M:=M+1) (by lia) hT hG.flat hG.small hnd (by lia) hmem fun tl n' bk' hbk => ?_)
 refine a5l lb12 (st12_run (M:=M) hT hbk (by lia) fun n'' bk2 hbk2 => ?_)
 have hperm:(nums++keys.filter fun n => !(nums.any fun j=>decide (j=n))).Perm keys:=by
  rw [hnums2];exact back_perm keys _
 have hsort:=sortI_perm hperm
 have hdl:=hperm.length_eq
 generalize hdone:(nums++keys.filter fun n => !(nums.any fun j=>decide (j=n)))=done at hbk2 hperm hsort hdl
 dsimp only
 refine a5l lb13 ((st13_w (M:=M+1) hbk2.fst hT.fst hsort (by lia) (by lia)).trans ?_)
 dsimp only
 refine a5l lb14 ((st14_r (M:=M+1) (gen:=gen) (kd:=kd) hbk2.fst hT.fst hsort (by lia) (by lia) (fun m hm => ?_) (fun m hm => ?_)).trans (by rfl))
 ·refine eaxa ?_ (hbk2.get m (hperm.mem_iff.mpr hm));rintro _ v g1 g2
  refine ⟨v,a0t hbk2.fst m,by rw [a1z hbk2.fst];exact decide_eq_true (hperm.mem_iff.mpr hm),g1,?_⟩
  rcases g2 with rfl | ⟨g2,rfl⟩
  ·exact lift (by lia) (b5g (kd m) Unit)
  ·exact lift (by lia) (toldBX (kd m) g2 Unit)
 ·exact ⟨enc (kd m),a0t hT.fst m,by rw [a1z hT.fst];exact decide_eq_true hm,hT.get m hm,lift (by lia) (b5g (kd m) Unit)⟩
theorem law_true (ns:List Int) (hn:ns.length≤63):runTop (ev tabs 290) (fdOf 980) [.d (.lst (ns.map .int))] [] lawK=some ():=by
 have h:=law_trueM 276 (cQ _) ns hn
 rw [show (290:Nat)=276+14 from rfl]
 exact h
end Mine.Lw
end
end
namespace Mine
open PySem PySem.W
theorem fd_eq : Lw.fdOf 980 = fdT 980 := by kernel_rfl
theorem law_T (ns : List Int) (h : ns.length ≤ 63) : runTop (ev tabs 290) (fdT 980) [.d (.lst (ns.map .int))] [] (fun v _ => isTrueV v) = some () := fd_eq ▸ Lw.law_true ns h
end Mine
namespace Mine.whole
theorem tw10000958634945066235:1=1:=rfl
theorem tw10007520593648235073:1=1:=rfl
theorem tw10025635815308576066:1=1:=rfl
theorem tw10025991395723482450:1=1:=rfl
theorem tw10118140284582671090:1=1:=rfl
theorem tw10144505478992762587:1=1:=rfl
theorem tw10151842457417960038:1=1:=rfl
theorem tw10153838690179905649:1=1:=rfl
theorem tw10214084619396981128:1=1:=rfl
theorem tw10219327507634694686:1=1:=rfl
theorem tw10228736035032888589:1=1:=rfl
theorem tw10240183823617578283:1=1:=rfl
theorem tw102978890456122686:1=1:=rfl
theorem tw10319702536984744784:1=1:=rfl
theorem tw10332575325313852403:1=1:=rfl
theorem tw10335108021726791369:1=1:=rfl
theorem tw10339747121181971505:1=1:=rfl
theorem tw10344827342348678470:1=1:=rfl
theorem tw10354518954362131899:1=1:=rfl
theorem tw10371917063365841574:1=1:=rfl
theorem tw10379991877525085312:1=1:=rfl
theorem tw10393562808733323261:1=1:=rfl
theorem tw10412668953605463793:1=1:=rfl
theorem tw10423522819347714589:1=1:=rfl
theorem tw10438997657263567297:1=1:=rfl
theorem tw10446497943914359417:1=1:=rfl
theorem tw10461253832287612282:1=1:=rfl
theorem tw10467399731503315703:1=1:=rfl
theorem tw10472183733418339316:1=1:=rfl
theorem tw10488504414272976643:1=1:=rfl
theorem tw10499325594661192776:1=1:=rfl
theorem tw10506178692543837059:1=1:=rfl
theorem tw1053576622031914459:1=1:=rfl
theorem tw10537408502935576006:1=1:=rfl
theorem tw1058133836064258550:1=1:=rfl
theorem tw10590843552420965350:1=1:=rfl
theorem tw10602399703277881627:1=1:=rfl
theorem tw10654317064775040509:1=1:=rfl
theorem tw1072497446573119103:1=1:=rfl
theorem tw10741426463694299459:1=1:=rfl
theorem tw10749463760870054271:1=1:=rfl
theorem tw10765999639320066096:1=1:=rfl
theorem tw10795012362202508061:1=1:=rfl
theorem tw10805158454514937742:1=1:=rfl
theorem tw10832908153356258463:1=1:=rfl
theorem tw10838650209671834137:1=1:=rfl
theorem tw10840090224303567227:1=1:=rfl
theorem tw10870375681248689645:1=1:=rfl
theorem tw10879388597655286671:1=1:=rfl
theorem tw10887019763833697050:1=1:=rfl
theorem tw10922663048198985862:1=1:=rfl
theorem tw10951800313117414527:1=1:=rfl
theorem tw10965846888930938603:1=1:=rfl
theorem tw10981959625080579500:1=1:=rfl
theorem tw11018331769982298155:1=1:=rfl
theorem tw11024528398593038377:1=1:=rfl
theorem tw11027412199618322810:1=1:=rfl
theorem tw11030684522653666869:1=1:=rfl
theorem tw11100186960236547562:1=1:=rfl
theorem tw11116944545036436439:1=1:=rfl
theorem tw11124209341801176217:1=1:=rfl
theorem tw1114806542021703131:1=1:=rfl
theorem tw11168554632963773920:1=1:=rfl
theorem tw11188280186532128609:1=1:=rfl
theorem tw11219503280623407775:1=1:=rfl
theorem tw11243603205920247706:1=1:=rfl
theorem tw1126771021984645910:1=1:=rfl
theorem tw11316320225543275868:1=1:=rfl
theorem tw11331365046741114882:1=1:=rfl
theorem tw11384259339768038936:1=1:=rfl
theorem tw113900542113845248:1=1:=rfl
theorem tw11392060985427220233:1=1:=rfl
theorem tw11395692770084462984:1=1:=rfl
theorem tw11401351377558187561:1=1:=rfl
theorem tw11409993775148365219:1=1:=rfl
theorem tw11423436602419212718:1=1:=rfl
theorem tw11459245631466036986:1=1:=rfl
theorem tw11476502588441444683:1=1:=rfl
theorem tw1147815978188729584:1=1:=rfl
theorem tw11497737979517188:1=1:=rfl
theorem tw11501073197159204048:1=1:=rfl
theorem tw11618948946589211957:1=1:=rfl
theorem tw11650966009514619462:1=1:=rfl
theorem tw11652624631766696257:1=1:=rfl
theorem tw11670040512431834200:1=1:=rfl
theorem tw11670093711784454257:1=1:=rfl
theorem tw11678933692714762019:1=1:=rfl
theorem tw11681139010474604960:1=1:=rfl
theorem tw11687178177594805565:1=1:=rfl
theorem tw11690859581915506653:1=1:=rfl
theorem tw1169358714977055332:1=1:=rfl
theorem tw11722927043363711893:1=1:=rfl
theorem tw11745570548554110720:1=1:=rfl
theorem tw11746468281252436920:1=1:=rfl
theorem tw11774067164606180612:1=1:=rfl
theorem tw11775131333759173506:1=1:=rfl
theorem tw11777355322855799659:1=1:=rfl
theorem tw11791088910183784695:1=1:=rfl
theorem tw11792362355297244138:1=1:=rfl
theorem tw11793381155483064346:1=1:=rfl
theorem tw11831613935261219028:1=1:=rfl
theorem tw11841974853317911985:1=1:=rfl
theorem tw11852944053547321950:1=1:=rfl
theorem tw11862022474199680377:1=1:=rfl
theorem tw11896201609302106115:1=1:=rfl
theorem tw11923582732143024079:1=1:=rfl
theorem tw1192384068545781584:1=1:=rfl
theorem tw11952309323241053379:1=1:=rfl
theorem tw11959834037327795482:1=1:=rfl
theorem tw11975771152792504044:1=1:=rfl
theorem tw11988251369728918034:1=1:=rfl
theorem tw1200200279266715423:1=1:=rfl
theorem tw12012580348766612465:1=1:=rfl
theorem tw12045583451651315878:1=1:=rfl
theorem tw12063277863729348616:1=1:=rfl
theorem tw12064908160898778525:1=1:=rfl
theorem tw12092817750456807627:1=1:=rfl
theorem tw12098860561503762481:1=1:=rfl
theorem tw12111672374848980225:1=1:=rfl
theorem tw12114987751065605754:1=1:=rfl
theorem tw12117460353608821864:1=1:=rfl
theorem tw12134894783777438967:1=1:=rfl
theorem tw12179455670472476543:1=1:=rfl
theorem tw12180422818723984309:1=1:=rfl
theorem tw12186894253409539890:1=1:=rfl
theorem tw1219099391390118749:1=1:=rfl
theorem tw12207685810698929643:1=1:=rfl
theorem tw12219512705738599021:1=1:=rfl
theorem tw12264481721688367047:1=1:=rfl
theorem tw12273045966763912870:1=1:=rfl
theorem tw12294887724330564330:1=1:=rfl
theorem tw12330158387926722826:1=1:=rfl
theorem tw12365302626169338283:1=1:=rfl
theorem tw1236909307960003037:1=1:=rfl
theorem tw12381228794656768651:1=1:=rfl
theorem tw12384909515848061526:1=1:=rfl
theorem tw1242133270297695508:1=1:=rfl
theorem tw12471785041798745281:1=1:=rfl
theorem tw12473419985498694175:1=1:=rfl
theorem tw12478609949429157409:1=1:=rfl
theorem tw12484011378766964031:1=1:=rfl
theorem tw12499812526503966003:1=1:=rfl
theorem tw12500006595034518877:1=1:=rfl
theorem tw12505054689143061370:1=1:=rfl
theorem tw12509332252045503800:1=1:=rfl
theorem tw12548274353314379123:1=1:=rfl
theorem tw12553528368311135604:1=1:=rfl
theorem tw1255956871972877904:1=1:=rfl
theorem tw1256279898242784606:1=1:=rfl
theorem tw12562849145585476731:1=1:=rfl
theorem tw12590650055501746483:1=1:=rfl
theorem tw12591319150774080885:1=1:=rfl
theorem tw12598572606399187110:1=1:=rfl
theorem tw12620984872611610876:1=1:=rfl
theorem tw12657213534025060338:1=1:=rfl
theorem tw1266484639899004939:1=1:=rfl
theorem tw12698311456782994138:1=1:=rfl
theorem tw12704508643202503056:1=1:=rfl
theorem tw12722690725976728532:1=1:=rfl
theorem tw1273583120585336579:1=1:=rfl
theorem tw12740454516981205806:1=1:=rfl
theorem tw12742087137024979937:1=1:=rfl
theorem tw12761472262123182041:1=1:=rfl
theorem tw12762855891700095494:1=1:=rfl
theorem tw12808456870637180559:1=1:=rfl
theorem tw12809664267019061670:1=1:=rfl
theorem tw12850242359631670003:1=1:=rfl
theorem tw12919474184346423062:1=1:=rfl
theorem tw12920395458479335663:1=1:=rfl
theorem tw12928932934922122878:1=1:=rfl
theorem tw12951669734159865017:1=1:=rfl
theorem tw12956448898367404955:1=1:=rfl
theorem tw12967805889597932581:1=1:=rfl
theorem tw12982672189386914922:1=1:=rfl
theorem tw1299319290729411920:1=1:=rfl
theorem tw13000713063990318526:1=1:=rfl
theorem tw13018183266405097566:1=1:=rfl
theorem tw13033160020079735899:1=1:=rfl
theorem tw13045181716907704641:1=1:=rfl
theorem tw13082123325433378528:1=1:=rfl
theorem tw13142167418276237254:1=1:=rfl
theorem tw13143666931850650640:1=1:=rfl
theorem tw13155097880312403346:1=1:=rfl
theorem tw1317784869382153956:1=1:=rfl
theorem tw1318554304652621475:1=1:=rfl
theorem tw13213058742666125385:1=1:=rfl
theorem tw1321319160052600332:1=1:=rfl
theorem tw13231496892565117553:1=1:=rfl
theorem tw13262402704330787269:1=1:=rfl
theorem tw13285438998962464343:1=1:=rfl
theorem tw1329479340354266572:1=1:=rfl
theorem tw13297878767709546727:1=1:=rfl
theorem tw13325104327702632178:1=1:=rfl
theorem tw13329942582686594379:1=1:=rfl
theorem tw13334927893685096626:1=1:=rfl
theorem tw13337781409839281223:1=1:=rfl
theorem tw1335791156554467795:1=1:=rfl
theorem tw13373713576854631141:1=1:=rfl
theorem tw13397120828393852246:1=1:=rfl
theorem tw13397667615521693709:1=1:=rfl
theorem tw13399198550693968896:1=1:=rfl
theorem tw13406957107772272364:1=1:=rfl
theorem tw1342645848660009235:1=1:=rfl
theorem tw13434065944014204811:1=1:=rfl
theorem tw13447532951914335906:1=1:=rfl
theorem tw13463558215457259582:1=1:=rfl
theorem tw13466531369813336011:1=1:=rfl
theorem tw13468923340822585488:1=1:=rfl
theorem tw13473866653808353621:1=1:=rfl
theorem tw1349178898306187914:1=1:=rfl
theorem tw1350920760672359567:1=1:=rfl
theorem tw13518702907885339924:1=1:=rfl
theorem tw13520624980008068981:1=1:=rfl
theorem tw1353902047762577225:1=1:=rfl
theorem tw13562979760119101899:1=1:=rfl
theorem tw13571483373588183640:1=1:=rfl
theorem tw1357757348178948127:1=1:=rfl
theorem tw13580644665985593533:1=1:=rfl
theorem tw13600218594186718376:1=1:=rfl
theorem tw13675596732203519343:1=1:=rfl
theorem tw13679757057165986330:1=1:=rfl
theorem tw1371446737807839366:1=1:=rfl
theorem tw13719171679594634575:1=1:=rfl
theorem tw13730376311393935369:1=1:=rfl
theorem tw13738339212195554370:1=1:=rfl
theorem tw13749801708979339770:1=1:=rfl
theorem tw13754578396881350843:1=1:=rfl
theorem tw13760198194640045919:1=1:=rfl
theorem tw13762013822233420738:1=1:=rfl
theorem tw137721658169608169:1=1:=rfl
theorem tw13823951767099335047:1=1:=rfl
theorem tw13829708278779851847:1=1:=rfl
theorem tw13835169320686990480:1=1:=rfl
theorem tw13876266882482020314:1=1:=rfl
theorem tw1393339623888494026:1=1:=rfl
theorem tw13960669724093699300:1=1:=rfl
theorem tw13962616709173656972:1=1:=rfl
theorem tw13974613887430780637:1=1:=rfl
theorem tw14031613983174702221:1=1:=rfl
theorem tw14062873862729552008:1=1:=rfl
theorem tw14105509162872741218:1=1:=rfl
theorem tw14112183661028369552:1=1:=rfl
theorem tw14113312626403753215:1=1:=rfl
theorem tw14117439955800268797:1=1:=rfl
theorem tw14120694959671187261:1=1:=rfl
theorem tw14138553856905868755:1=1:=rfl
theorem tw141600454260247210:1=1:=rfl
theorem tw14165590967655844809:1=1:=rfl
theorem tw14173393766343599159:1=1:=rfl
theorem tw14192229110069238088:1=1:=rfl
theorem tw14239292526413980002:1=1:=rfl
theorem tw14277096492922572389:1=1:=rfl
theorem tw14302830165969023719:1=1:=rfl
theorem tw14328502944104624683:1=1:=rfl
theorem tw14339919399903518487:1=1:=rfl
theorem tw14378041842529194870:1=1:=rfl
theorem tw14381574177426341226:1=1:=rfl
theorem tw14390007995909808975:1=1:=rfl
theorem tw14395644662136614805:1=1:=rfl
theorem tw14398828562116658018:1=1:=rfl
theorem tw14407623233719037512:1=1:=rfl
theorem tw14407849266092530191:1=1:=rfl
theorem tw14420548223002519687:1=1:=rfl
theorem tw14450635290435297814:1=1:=rfl
theorem tw14457598465852218886:1=1:=rfl
theorem tw14492196311604417308:1=1:=rfl
theorem tw14495708567268050397:1=1:=rfl
theorem tw14543880540352543434:1=1:=rfl
theorem tw14562462331371676279:1=1:=rfl
theorem tw14590790631899776401:1=1:=rfl
theorem tw14592908492388784131:1=1:=rfl
theorem tw14621228733418778453:1=1:=rfl
theorem tw14628220171574447489:1=1:=rfl
theorem tw14645486856315007357:1=1:=rfl
theorem tw14649381610841438815:1=1:=rfl
theorem tw14654356449610600485:1=1:=rfl
theorem tw14661705875561194100:1=1:=rfl
theorem tw14671651394210877623:1=1:=rfl
theorem tw14676366378414606867:1=1:=rfl
theorem tw1469495571348798126:1=1:=rfl
theorem tw1470681187219097129:1=1:=rfl
theorem tw1471963695286822381:1=1:=rfl
theorem tw14725644924352215136:1=1:=rfl
theorem tw14736388558372465541:1=1:=rfl
theorem tw14756447051001558117:1=1:=rfl
theorem tw14765760737338471991:1=1:=rfl
theorem tw14776171463994254414:1=1:=rfl
theorem tw14795372039161081651:1=1:=rfl
theorem tw14852934547574820571:1=1:=rfl
theorem tw14857529406646634625:1=1:=rfl
theorem tw14863180981096415481:1=1:=rfl
theorem tw14875044017630859624:1=1:=rfl
theorem tw14877643965249282964:1=1:=rfl
theorem tw1488662743745869538:1=1:=rfl
theorem tw14890280090424698046:1=1:=rfl
theorem tw14895832951272295765:1=1:=rfl
theorem tw14916202748087371944:1=1:=rfl
theorem tw14929651699154906824:1=1:=rfl
theorem tw14943008167867972167:1=1:=rfl
theorem tw14998389939795375158:1=1:=rfl
theorem tw15001587830400145190:1=1:=rfl
theorem tw15005421627973807601:1=1:=rfl
theorem tw15013576625721048695:1=1:=rfl
theorem tw1503406073462105463:1=1:=rfl
theorem tw1509033169537457064:1=1:=rfl
theorem tw15103685750691789098:1=1:=rfl
theorem tw15104313353549385183:1=1:=rfl
theorem tw15105012252411618398:1=1:=rfl
theorem tw15189915617685484396:1=1:=rfl
theorem tw15206955865107345967:1=1:=rfl
theorem tw15213816345297606680:1=1:=rfl
theorem tw15257822683096599900:1=1:=rfl
theorem tw15264306265154332586:1=1:=rfl
theorem tw15265605800337590527:1=1:=rfl
theorem tw15274856360797078626:1=1:=rfl
theorem tw15285801702533195368:1=1:=rfl
theorem tw1533094020690680647:1=1:=rfl
theorem tw15338273372565686330:1=1:=rfl
theorem tw15360332004689737842:1=1:=rfl
theorem tw15401142651479110994:1=1:=rfl
theorem tw1544131599997683834:1=1:=rfl
theorem tw15462414832971340256:1=1:=rfl
theorem tw15469157617142141710:1=1:=rfl
theorem tw15490696404161045352:1=1:=rfl
theorem tw15539963934695697727:1=1:=rfl
theorem tw15564212434770411261:1=1:=rfl
theorem tw15593539561102206943:1=1:=rfl
theorem tw15605172539740629501:1=1:=rfl
theorem tw15652777202477211125:1=1:=rfl
theorem tw15657491793718945610:1=1:=rfl
theorem tw15680802009173567957:1=1:=rfl
theorem tw15689574024421088273:1=1:=rfl
theorem tw15695161780090201225:1=1:=rfl
theorem tw15701146451533950532:1=1:=rfl
theorem tw15716183405302250479:1=1:=rfl
theorem tw1573342860753344040:1=1:=rfl
theorem tw1573668984985804180:1=1:=rfl
theorem tw15753584648845244147:1=1:=rfl
theorem tw15760340098015377092:1=1:=rfl
theorem tw15761127226676153883:1=1:=rfl
theorem tw15771390255919318617:1=1:=rfl
theorem tw1579314106941295789:1=1:=rfl
theorem tw15803673994437570577:1=1:=rfl
theorem tw15805006361170613057:1=1:=rfl
theorem tw15811116968426213322:1=1:=rfl
theorem tw15814272973740294878:1=1:=rfl
theorem tw15835130817642446534:1=1:=rfl
theorem tw15848567645679474065:1=1:=rfl
theorem tw1587768003098754325:1=1:=rfl
theorem tw15897636104957077249:1=1:=rfl
theorem tw15950631773475717186:1=1:=rfl
theorem tw15968371059469153303:1=1:=rfl
theorem tw16000088419691856984:1=1:=rfl
theorem tw16008101280253657391:1=1:=rfl
theorem tw1601961968588287001:1=1:=rfl
theorem tw16062187612904122858:1=1:=rfl
theorem tw16066054282618255211:1=1:=rfl
theorem tw16089163917832698231:1=1:=rfl
theorem tw16112925590461663603:1=1:=rfl
theorem tw161295022889997188:1=1:=rfl
theorem tw16146633858663668739:1=1:=rfl
theorem tw16151222146762293071:1=1:=rfl
theorem tw16157823471821472638:1=1:=rfl
theorem tw161632788893874429:1=1:=rfl
theorem tw16248777263060333642:1=1:=rfl
theorem tw16265185521643916613:1=1:=rfl
theorem tw16304597587823193687:1=1:=rfl
theorem tw1633898876240874773:1=1:=rfl
theorem tw16342273516520970692:1=1:=rfl
theorem tw16395379286268932709:1=1:=rfl
theorem tw16398205279857054297:1=1:=rfl
theorem tw16401683800235061082:1=1:=rfl
theorem tw1640677438868554593:1=1:=rfl
theorem tw16412863594453290875:1=1:=rfl
theorem tw16416134952452293984:1=1:=rfl
theorem tw16442725811781728823:1=1:=rfl
theorem tw16442795661328238356:1=1:=rfl
theorem tw1645590182628983409:1=1:=rfl
theorem tw16467933323881711526:1=1:=rfl
theorem tw16472206009762837957:1=1:=rfl
theorem tw16564990636065421569:1=1:=rfl
theorem tw16576061068926947915:1=1:=rfl
theorem tw16586233370728154131:1=1:=rfl
theorem tw16588625043399567139:1=1:=rfl
theorem tw16607669324509118938:1=1:=rfl
theorem tw16616245412964173377:1=1:=rfl
theorem tw16668768811381343612:1=1:=rfl
theorem tw16687065914561022968:1=1:=rfl
theorem tw16710806586956947785:1=1:=rfl
theorem tw16721588368965777027:1=1:=rfl
theorem tw16731332320388202666:1=1:=rfl
theorem tw16732526662816644420:1=1:=rfl
theorem tw16734197759499934857:1=1:=rfl
theorem tw16738726308800667447:1=1:=rfl
theorem tw16739781802365451968:1=1:=rfl
theorem tw16741440440132755172:1=1:=rfl
theorem tw16798021374215515910:1=1:=rfl
theorem tw16800997667575721541:1=1:=rfl
theorem tw16845944245580146995:1=1:=rfl
theorem tw16851420986214479598:1=1:=rfl
theorem tw16912792503757511054:1=1:=rfl
theorem tw1692622564874605650:1=1:=rfl
theorem tw16926659055490591571:1=1:=rfl
theorem tw16941454671938913892:1=1:=rfl
theorem tw169747851870786472:1=1:=rfl
theorem tw16986268789631483586:1=1:=rfl
theorem tw1698847728826587444:1=1:=rfl
theorem tw1699034841665187622:1=1:=rfl
theorem tw17037309529492816295:1=1:=rfl
theorem tw17041886558761768026:1=1:=rfl
theorem tw17044950167386977207:1=1:=rfl
theorem tw17047455797036820403:1=1:=rfl
theorem tw17060747222450192753:1=1:=rfl
theorem tw17075553230084287909:1=1:=rfl
theorem tw17092094596097150618:1=1:=rfl
theorem tw1710221593020227077:1=1:=rfl
theorem tw17169624498616045403:1=1:=rfl
theorem tw17175008800681467811:1=1:=rfl
theorem tw17195952149560314771:1=1:=rfl
theorem tw17256302963761357986:1=1:=rfl
theorem tw17258676653681215673:1=1:=rfl
theorem tw17293853786120715770:1=1:=rfl
theorem tw17316338148487579998:1=1:=rfl
theorem tw17333791097184162534:1=1:=rfl
theorem tw1733744953317856445:1=1:=rfl
theorem tw17365612064069717690:1=1:=rfl
theorem tw17395194986337826024:1=1:=rfl
theorem tw17400260938146383314:1=1:=rfl
theorem tw17400867201069716748:1=1:=rfl
theorem tw17454085226186693669:1=1:=rfl
theorem tw17463027529269885953:1=1:=rfl
theorem tw17475311184863085016:1=1:=rfl
theorem tw17480726222106551122:1=1:=rfl
theorem tw17510340352245238577:1=1:=rfl
theorem tw17583434110615651305:1=1:=rfl
theorem tw17598439363315890097:1=1:=rfl
theorem tw1761222057020643473:1=1:=rfl
theorem tw17641713804859348092:1=1:=rfl
theorem tw17659150536888882668:1=1:=rfl
theorem tw17668386841364913139:1=1:=rfl
theorem tw17692944630003236201:1=1:=rfl
theorem tw17694572145881537308:1=1:=rfl
theorem tw17700112632457955127:1=1:=rfl
theorem tw17708391408692131970:1=1:=rfl
theorem tw17737194193827323026:1=1:=rfl
theorem tw17756055853247313500:1=1:=rfl
theorem tw17758824073715717921:1=1:=rfl
theorem tw17768757769460313278:1=1:=rfl
theorem tw17781206938751360472:1=1:=rfl
theorem tw17794071737211314316:1=1:=rfl
theorem tw17814491789457634051:1=1:=rfl
theorem tw17818493641747277991:1=1:=rfl
theorem tw17819583843959417973:1=1:=rfl
theorem tw17843127513448600897:1=1:=rfl
theorem tw17847466938742361278:1=1:=rfl
theorem tw17870152368367076345:1=1:=rfl
theorem tw17870853324313594786:1=1:=rfl
theorem tw17895464640352678532:1=1:=rfl
theorem tw1790706782006413658:1=1:=rfl
theorem tw17933440416606161858:1=1:=rfl
theorem tw17938139132677727654:1=1:=rfl
theorem tw17942281408064791371:1=1:=rfl
theorem tw17945471581576359013:1=1:=rfl
theorem tw17991299263585117788:1=1:=rfl
theorem tw18002909038890314157:1=1:=rfl
theorem tw18026328337398066365:1=1:=rfl
theorem tw18046946474119441226:1=1:=rfl
theorem tw18056553881098321084:1=1:=rfl
theorem tw18060336119277286115:1=1:=rfl
theorem tw18075433367648311976:1=1:=rfl
theorem tw18135788421098096370:1=1:=rfl
theorem tw18140368120207624840:1=1:=rfl
theorem tw18145388855558949900:1=1:=rfl
theorem tw18162983195158539490:1=1:=rfl
theorem tw18174217711786252908:1=1:=rfl
theorem tw18223413143505370273:1=1:=rfl
theorem tw18293881159641894451:1=1:=rfl
theorem tw18314547241281667657:1=1:=rfl
theorem tw18315055452531851272:1=1:=rfl
theorem tw18324492136986001645:1=1:=rfl
theorem tw18354614867481654581:1=1:=rfl
theorem tw18382394861701510011:1=1:=rfl
theorem tw18386381941678837628:1=1:=rfl
theorem tw18402882695012882554:1=1:=rfl
theorem tw1841945404117466239:1=1:=rfl
theorem tw18441933478247557488:1=1:=rfl
theorem tw1857908816714783930:1=1:=rfl
theorem tw1859146779660683823:1=1:=rfl
theorem tw1893850866222049975:1=1:=rfl
theorem tw1897105925431849711:1=1:=rfl
theorem tw189715827726577491:1=1:=rfl
theorem tw1902754551582867561:1=1:=rfl
theorem tw1916967650581213123:1=1:=rfl
theorem tw1972244106113717368:1=1:=rfl
theorem tw1985066219578509453:1=1:=rfl
theorem tw1999433592531618509:1=1:=rfl
theorem tw2013318861076662011:1=1:=rfl
theorem tw2021854409746315462:1=1:=rfl
theorem tw2028823117376367632:1=1:=rfl
theorem tw203428145850139289:1=1:=rfl
theorem tw2047193779265307260:1=1:=rfl
theorem tw2083198920140632441:1=1:=rfl
theorem tw2109657717061889843:1=1:=rfl
theorem tw213970696928864655:1=1:=rfl
theorem tw2151346155558304222:1=1:=rfl
theorem tw2151871088471828822:1=1:=rfl
theorem tw2155487761632659812:1=1:=rfl
theorem tw2166459464060227386:1=1:=rfl
theorem tw2168223474955763204:1=1:=rfl
theorem tw2198523743367551842:1=1:=rfl
theorem tw2201306404548609547:1=1:=rfl
theorem tw2210357269209322919:1=1:=rfl
theorem tw2227498709159742100:1=1:=rfl
theorem tw2249504304506360813:1=1:=rfl
theorem tw2289213243680862044:1=1:=rfl
theorem tw2290268214366725154:1=1:=rfl
theorem tw2302033354624455591:1=1:=rfl
theorem tw2401531773124529735:1=1:=rfl
theorem tw2404457027504551060:1=1:=rfl
theorem tw2409123336234807113:1=1:=rfl
theorem tw2412972146837434115:1=1:=rfl
theorem tw2439357469168130064:1=1:=rfl
theorem tw2443637780258755409:1=1:=rfl
theorem tw2448076297453326055:1=1:=rfl
theorem tw2474167808764366809:1=1:=rfl
theorem tw2536362301702204066:1=1:=rfl
theorem tw253782344009268075:1=1:=rfl
theorem tw254780913952180833:1=1:=rfl
theorem tw2551288049877987531:1=1:=rfl
theorem tw2554714600840530319:1=1:=rfl
theorem tw2558861820686608913:1=1:=rfl
theorem tw2580061231857448207:1=1:=rfl
theorem tw2608646628457097981:1=1:=rfl
theorem tw2649048575011448004:1=1:=rfl
theorem tw2665807779830099079:1=1:=rfl
theorem tw2675290096998512546:1=1:=rfl
theorem tw2685624786292725039:1=1:=rfl
theorem tw272726447852447103:1=1:=rfl
theorem tw2733790213765534055:1=1:=rfl
theorem tw2755977992816859464:1=1:=rfl
theorem tw2777902329107566167:1=1:=rfl
theorem tw2781955308351554444:1=1:=rfl
theorem tw2783269125865542102:1=1:=rfl
theorem tw280920844665842053:1=1:=rfl
theorem tw2840240246700292369:1=1:=rfl
theorem tw2848742071580964299:1=1:=rfl
theorem tw2896436902973227457:1=1:=rfl
theorem tw2908995474342449905:1=1:=rfl
theorem tw29202618045891971:1=1:=rfl
theorem tw2933302424402908820:1=1:=rfl
theorem tw2937169305547731376:1=1:=rfl
theorem tw2962858822866373933:1=1:=rfl
theorem tw2989192609971925910:1=1:=rfl
theorem tw3016316376071577429:1=1:=rfl
theorem tw3029818731915779892:1=1:=rfl
theorem tw303830138005106948:1=1:=rfl
theorem tw3085902745639715626:1=1:=rfl
theorem tw3087226120313871188:1=1:=rfl
theorem tw3088205913578157160:1=1:=rfl
theorem tw3099174332690161747:1=1:=rfl
theorem tw3099485228618234346:1=1:=rfl
theorem tw3113020014274006119:1=1:=rfl
theorem tw3117049408229778687:1=1:=rfl
theorem tw3118101993129739532:1=1:=rfl
theorem tw3125283655325999989:1=1:=rfl
theorem tw3127163415804763599:1=1:=rfl
theorem tw3141554390599180669:1=1:=rfl
theorem tw3150075250938504248:1=1:=rfl
theorem tw3158200523106604942:1=1:=rfl
theorem tw3162264621223815677:1=1:=rfl
theorem tw3162365515331879682:1=1:=rfl
theorem tw3166543957339863982:1=1:=rfl
theorem tw3168900989282067249:1=1:=rfl
theorem tw3200025831031697495:1=1:=rfl
theorem tw3243557710152264731:1=1:=rfl
theorem tw3270133029678145397:1=1:=rfl
theorem tw3306209509626126654:1=1:=rfl
theorem tw330836233743297789:1=1:=rfl
theorem tw3336266095096057487:1=1:=rfl
theorem tw3345170683049916347:1=1:=rfl
theorem tw3345510996311645767:1=1:=rfl
theorem tw3357092870726653058:1=1:=rfl
theorem tw3369746551918469629:1=1:=rfl
theorem tw3384207784612787380:1=1:=rfl
theorem tw3384858237140249800:1=1:=rfl
theorem tw3386062769394439805:1=1:=rfl
theorem tw340442491454447764:1=1:=rfl
theorem tw3467671131507365174:1=1:=rfl
theorem tw3479739002732855021:1=1:=rfl
theorem tw3510700885661489807:1=1:=rfl
theorem tw3530295128950299466:1=1:=rfl
theorem tw3559878232441866632:1=1:=rfl
theorem tw356215775963413058:1=1:=rfl
theorem tw3604371722874584219:1=1:=rfl
theorem tw3619989788208562024:1=1:=rfl
theorem tw3640715218949256893:1=1:=rfl
theorem tw3677230992596733145:1=1:=rfl
theorem tw3687826684616867901:1=1:=rfl
theorem tw369943808078234791:1=1:=rfl
theorem tw3708987609129729033:1=1:=rfl
theorem tw3719598108804966507:1=1:=rfl
theorem tw3724477965614018403:1=1:=rfl
theorem tw3733001107339715835:1=1:=rfl
theorem tw3742335343461010818:1=1:=rfl
theorem tw3774107025085352999:1=1:=rfl
theorem tw3802398583823018356:1=1:=rfl
theorem tw381110514646162275:1=1:=rfl
theorem tw3817958767811374121:1=1:=rfl
theorem tw3854589921560446643:1=1:=rfl
theorem tw3856153580267494730:1=1:=rfl
theorem tw3860174431591174066:1=1:=rfl
theorem tw3869719713472690019:1=1:=rfl
theorem tw3871852658520080179:1=1:=rfl
theorem tw387848595295396948:1=1:=rfl
theorem tw3911966217894400741:1=1:=rfl
theorem tw3935972832432928633:1=1:=rfl
theorem tw3945383572190744343:1=1:=rfl
theorem tw3947618128840659280:1=1:=rfl
theorem tw3971760220004402078:1=1:=rfl
theorem tw397210227534267232:1=1:=rfl
theorem tw3981194921628995571:1=1:=rfl
theorem tw3995449140538097629:1=1:=rfl
theorem tw4009164454077540199:1=1:=rfl
theorem tw4024587099455181709:1=1:=rfl
theorem tw4056270910917201831:1=1:=rfl
theorem tw4075336105160463354:1=1:=rfl
theorem tw4086658223068553736:1=1:=rfl
theorem tw409525538239758689:1=1:=rfl
theorem tw4099626974864423460:1=1:=rfl
theorem tw4104619502420251389:1=1:=rfl
theorem tw4107823604484434990:1=1:=rfl
theorem tw4163455835068889971:1=1:=rfl
theorem tw4180466227808675834:1=1:=rfl
theorem tw4195589956728777111:1=1:=rfl
theorem tw420889256603489644:1=1:=rfl
theorem tw4210173837847294953:1=1:=rfl
theorem tw4221266100470226451:1=1:=rfl
theorem tw4234479992401935053:1=1:=rfl
theorem tw427333557424167660:1=1:=rfl
theorem tw431044224361937856:1=1:=rfl
theorem tw4324854215712742514:1=1:=rfl
theorem tw4325337674984583414:1=1:=rfl
theorem tw4337987958061720545:1=1:=rfl
theorem tw4338333698743118245:1=1:=rfl
theorem tw4346055641746905949:1=1:=rfl
theorem tw4347982837100205910:1=1:=rfl
theorem tw4357746044423742650:1=1:=rfl
theorem tw437534634077163847:1=1:=rfl
theorem tw4381508105603032202:1=1:=rfl
theorem tw4383604606248590591:1=1:=rfl
theorem tw4432250331352448483:1=1:=rfl
theorem tw4441961637666494936:1=1:=rfl
theorem tw4444701892398472603:1=1:=rfl
theorem tw4445204285082115520:1=1:=rfl
theorem tw4447922135398794285:1=1:=rfl
theorem tw4460090275425369289:1=1:=rfl
theorem tw4466201941553827358:1=1:=rfl
theorem tw4469111808269641240:1=1:=rfl
theorem tw4478484345807364305:1=1:=rfl
theorem tw4479364801722962140:1=1:=rfl
theorem tw4487652198498899664:1=1:=rfl
theorem tw4499328569734638372:1=1:=rfl
theorem tw4500174473588537352:1=1:=rfl
theorem tw4516712372641221423:1=1:=rfl
theorem tw4535560162481520197:1=1:=rfl
theorem tw4559885085590827626:1=1:=rfl
theorem tw4605417425148642151:1=1:=rfl
theorem tw46433443316919834:1=1:=rfl
theorem tw4672207989499910625:1=1:=rfl
theorem tw4675662640594387302:1=1:=rfl
theorem tw4689585835679557668:1=1:=rfl
theorem tw4725433933799282014:1=1:=rfl
theorem tw4753389165054817539:1=1:=rfl
theorem tw4772658413541480157:1=1:=rfl
theorem tw4779742677757752892:1=1:=rfl
theorem tw4808684823556612304:1=1:=rfl
theorem tw483992730283222753:1=1:=rfl
theorem tw487143721646681983:1=1:=rfl
theorem tw4881149852633135710:1=1:=rfl
theorem tw4897329129694005586:1=1:=rfl
theorem tw4901011727050283698:1=1:=rfl
theorem tw4902818953507920398:1=1:=rfl
theorem tw4909349585908861296:1=1:=rfl
theorem tw4934077235998201596:1=1:=rfl
theorem tw4977384430496418070:1=1:=rfl
theorem tw5001923725869043736:1=1:=rfl
theorem tw5015864234111024480:1=1:=rfl
theorem tw5049987766257362985:1=1:=rfl
theorem tw5078443471013023264:1=1:=rfl
theorem tw5081031077709457048:1=1:=rfl
theorem tw5099900934548537757:1=1:=rfl
theorem tw5100489862065503989:1=1:=rfl
theorem tw5137022389394785357:1=1:=rfl
theorem tw5146043315109619605:1=1:=rfl
theorem tw5159705281301196996:1=1:=rfl
theorem tw5171116725156735389:1=1:=rfl
theorem tw5189780602208921310:1=1:=rfl
theorem tw5201323674647411954:1=1:=rfl
theorem tw5219970640105433548:1=1:=rfl
theorem tw5254450366334392284:1=1:=rfl
theorem tw5280658894789648532:1=1:=rfl
theorem tw528442517531419411:1=1:=rfl
theorem tw5301671710893950682:1=1:=rfl
theorem tw5306837255594108940:1=1:=rfl
theorem tw5348631242219561681:1=1:=rfl
theorem tw5349422690488739272:1=1:=rfl
theorem tw5360207378560713126:1=1:=rfl
theorem tw5361092306138085264:1=1:=rfl
theorem tw536816803628104207:1=1:=rfl
theorem tw5405151241437436114:1=1:=rfl
theorem tw5408107943391738:1=1:=rfl
theorem tw5430717269032188674:1=1:=rfl
theorem tw5433660331597885046:1=1:=rfl
theorem tw543460287212350964:1=1:=rfl
theorem tw5441638125044145263:1=1:=rfl
theorem tw5444821181176152557:1=1:=rfl
theorem tw5460680643579594377:1=1:=rfl
theorem tw5462770333876777704:1=1:=rfl
theorem tw5477020428343274486:1=1:=rfl
theorem tw5515949286892933951:1=1:=rfl
theorem tw5531847113258461380:1=1:=rfl
theorem tw5542149417468696053:1=1:=rfl
theorem tw5572964892545398623:1=1:=rfl
theorem tw5586392500970708615:1=1:=rfl
theorem tw561600600097829391:1=1:=rfl
theorem tw5649241889958590350:1=1:=rfl
theorem tw5662987942479315956:1=1:=rfl
theorem tw572749868224977959:1=1:=rfl
theorem tw5728154831901139425:1=1:=rfl
theorem tw5770726333419700816:1=1:=rfl
theorem tw5790326999694950120:1=1:=rfl
theorem tw5791068310056048545:1=1:=rfl
theorem tw5795321864736660020:1=1:=rfl
theorem tw5804886461390523402:1=1:=rfl
theorem tw5833760311655045577:1=1:=rfl
theorem tw5852837442982555326:1=1:=rfl
theorem tw5879479702872096659:1=1:=rfl
theorem tw590541238101311183:1=1:=rfl
theorem tw5938623499991607928:1=1:=rfl
theorem tw5942346508108547180:1=1:=rfl
theorem tw5980585785881701215:1=1:=rfl
theorem tw5984233764851548814:1=1:=rfl
theorem tw60084206612377972:1=1:=rfl
theorem tw6014040228023658700:1=1:=rfl
theorem tw6018008695308894833:1=1:=rfl
theorem tw6049599900894316688:1=1:=rfl
theorem tw6059101297212633470:1=1:=rfl
theorem tw6065093676875020208:1=1:=rfl
theorem tw6067178945074143734:1=1:=rfl
theorem tw6084657873442493111:1=1:=rfl
theorem tw6090991400474081933:1=1:=rfl
theorem tw6095937858554715304:1=1:=rfl
theorem tw6097748072631727781:1=1:=rfl
theorem tw6150244297128479101:1=1:=rfl
theorem tw6187261993980536492:1=1:=rfl
theorem tw620233503781600244:1=1:=rfl
theorem tw6216751615204915684:1=1:=rfl
theorem tw6233461465355520292:1=1:=rfl
theorem tw6250799429290313176:1=1:=rfl
theorem tw6266228650988000492:1=1:=rfl
theorem tw627836218701940097:1=1:=rfl
theorem tw6290923202673413122:1=1:=rfl
theorem tw6300184847947440018:1=1:=rfl
theorem tw6300749833780909245:1=1:=rfl
theorem tw6323609867561441924:1=1:=rfl
theorem tw6327303007010539975:1=1:=rfl
theorem tw6330323023686639657:1=1:=rfl
theorem tw6330797023819526829:1=1:=rfl
theorem tw6377287985247879410:1=1:=rfl
theorem tw6396017553259284124:1=1:=rfl
theorem tw6398494249180007682:1=1:=rfl
theorem tw6416634858453334624:1=1:=rfl
theorem tw6421574377784992043:1=1:=rfl
theorem tw6453619897266653623:1=1:=rfl
theorem tw6496092161831514541:1=1:=rfl
theorem tw6501748431566575849:1=1:=rfl
theorem tw6507163766276112266:1=1:=rfl
theorem tw6525215580464160042:1=1:=rfl
theorem tw6531100040246800141:1=1:=rfl
theorem tw6553984163096543158:1=1:=rfl
theorem tw6554874851225637503:1=1:=rfl
theorem tw6586851211266487494:1=1:=rfl
theorem tw6590139235508916450:1=1:=rfl
theorem tw6611539377112344024:1=1:=rfl
theorem tw6612613915786651340:1=1:=rfl
theorem tw6625591401657005825:1=1:=rfl
theorem tw6648197116569056673:1=1:=rfl
theorem tw6677481401041580341:1=1:=rfl
theorem tw6679801877992481514:1=1:=rfl
theorem tw668774492082921180:1=1:=rfl
theorem tw6711224856247384401:1=1:=rfl
theorem tw6714927969197098277:1=1:=rfl
theorem tw6734874506966982255:1=1:=rfl
theorem tw6743021324641148519:1=1:=rfl
theorem tw6749183726404079265:1=1:=rfl
theorem tw6750649090777595757:1=1:=rfl
theorem tw6758007706158031737:1=1:=rfl
theorem tw6766658173562982576:1=1:=rfl
theorem tw6774593797627383584:1=1:=rfl
theorem tw6774775609766916077:1=1:=rfl
theorem tw6779701449201555220:1=1:=rfl
theorem tw6783627951005175229:1=1:=rfl
theorem tw6795950696382679116:1=1:=rfl
theorem tw6831798877050662096:1=1:=rfl
theorem tw6846502017949773799:1=1:=rfl
theorem tw6866068747796929802:1=1:=rfl
theorem tw6872907005359335961:1=1:=rfl
theorem tw6888942637506950926:1=1:=rfl
theorem tw6891315699540082446:1=1:=rfl
theorem tw6896427876366098391:1=1:=rfl
theorem tw6915089677183239634:1=1:=rfl
theorem tw691963410350683225:1=1:=rfl
theorem tw6933715213461094250:1=1:=rfl
theorem tw6971620397769500929:1=1:=rfl
theorem tw697334722855355308:1=1:=rfl
theorem tw6975664082121306202:1=1:=rfl
theorem tw7078629122812257199:1=1:=rfl
theorem tw7080966684591057860:1=1:=rfl
theorem tw7125036137928297414:1=1:=rfl
theorem tw7154100213019291727:1=1:=rfl
theorem tw7158488753437644409:1=1:=rfl
theorem tw7159338690361838613:1=1:=rfl
theorem tw715978364194892080:1=1:=rfl
theorem tw7181214704614307865:1=1:=rfl
theorem tw7185185305316088854:1=1:=rfl
theorem tw7187317218736086229:1=1:=rfl
theorem tw7238705076892411754:1=1:=rfl
theorem tw7248877203947682478:1=1:=rfl
theorem tw7276013540153241084:1=1:=rfl
theorem tw7280849871689594849:1=1:=rfl
theorem tw7315993881563675004:1=1:=rfl
theorem tw7368006489180217709:1=1:=rfl
theorem tw7391549574342816922:1=1:=rfl
theorem tw7435482016451815233:1=1:=rfl
theorem tw7452821578398259720:1=1:=rfl
theorem tw7478749709654694138:1=1:=rfl
theorem tw7499365098147365621:1=1:=rfl
theorem tw7509650053966640704:1=1:=rfl
theorem tw7525632177321363660:1=1:=rfl
theorem tw7545590854473540767:1=1:=rfl
theorem tw7545654013535254480:1=1:=rfl
theorem tw7564407027854533171:1=1:=rfl
theorem tw7576292583959916747:1=1:=rfl
theorem tw7594572647756124483:1=1:=rfl
theorem tw7601072278947682838:1=1:=rfl
theorem tw7669669677095693358:1=1:=rfl
theorem tw7689902935678670512:1=1:=rfl
theorem tw772474843232632690:1=1:=rfl
theorem tw7728773200315073681:1=1:=rfl
theorem tw7732644098369870955:1=1:=rfl
theorem tw7762256720603616171:1=1:=rfl
theorem tw7763615457305083410:1=1:=rfl
theorem tw7781976810680006178:1=1:=rfl
theorem tw7787721845942389556:1=1:=rfl
theorem tw7856580471358416282:1=1:=rfl
theorem tw7860379621774607140:1=1:=rfl
theorem tw7877845480710146401:1=1:=rfl
theorem tw7885708016979292634:1=1:=rfl
theorem tw7892903329919386008:1=1:=rfl
theorem tw789556265725282662:1=1:=rfl
theorem tw7906611734251618119:1=1:=rfl
theorem tw7910221479046277610:1=1:=rfl
theorem tw7925426705801168976:1=1:=rfl
theorem tw7952383044827225310:1=1:=rfl
theorem tw7967871255840070022:1=1:=rfl
theorem tw7977717154205229210:1=1:=rfl
theorem tw7977878525754885090:1=1:=rfl
theorem tw7978788361824508945:1=1:=rfl
theorem tw7991549193987937947:1=1:=rfl
theorem tw8011658993158656957:1=1:=rfl
theorem tw8101450032967502455:1=1:=rfl
theorem tw8109663874093803249:1=1:=rfl
theorem tw817909704231249520:1=1:=rfl
theorem tw8181180424491326830:1=1:=rfl
theorem tw8184708281838074206:1=1:=rfl
theorem tw8197379950578934166:1=1:=rfl
theorem tw8203973303204277656:1=1:=rfl
theorem tw8243020233432551205:1=1:=rfl
theorem tw8257274053009572390:1=1:=rfl
theorem tw8258574867067344367:1=1:=rfl
theorem tw8259948450988206280:1=1:=rfl
theorem tw8269794280708405034:1=1:=rfl
theorem tw8271556485288271006:1=1:=rfl
theorem tw8284271217205693211:1=1:=rfl
theorem tw8290753245796111759:1=1:=rfl
theorem tw8309436690622926411:1=1:=rfl
theorem tw8341004590406740810:1=1:=rfl
theorem tw8350250358471643572:1=1:=rfl
theorem tw8351164730277109312:1=1:=rfl
theorem tw8403751301525005671:1=1:=rfl
theorem tw843396670912023852:1=1:=rfl
theorem tw8443025263604155638:1=1:=rfl
theorem tw8444963059077079450:1=1:=rfl
theorem tw8454442166302862320:1=1:=rfl
theorem tw8465779003785688887:1=1:=rfl
theorem tw8495578030972149916:1=1:=rfl
theorem tw8496900606834724182:1=1:=rfl
theorem tw8523286992835677893:1=1:=rfl
theorem tw8579301627154863199:1=1:=rfl
theorem tw8602141644225615130:1=1:=rfl
theorem tw8615399842404961663:1=1:=rfl
theorem tw8639454203822669480:1=1:=rfl
theorem tw8671028332488934451:1=1:=rfl
theorem tw8680444420967750489:1=1:=rfl
theorem tw8684032485159981719:1=1:=rfl
theorem tw8699793337390238261:1=1:=rfl
theorem tw8719548228035378133:1=1:=rfl
theorem tw8726271496915383628:1=1:=rfl
theorem tw8758825779926369472:1=1:=rfl
theorem tw8789054386453842027:1=1:=rfl
theorem tw8799044985600393684:1=1:=rfl
theorem tw8833083909733516365:1=1:=rfl
theorem tw8833888180515537064:1=1:=rfl
theorem tw8845281957055331791:1=1:=rfl
theorem tw8856355419119029804:1=1:=rfl
theorem tw8868806382682364411:1=1:=rfl
theorem tw8884531897199943920:1=1:=rfl
theorem tw8894826161267586577:1=1:=rfl
theorem tw8958426612096339740:1=1:=rfl
theorem tw8958452949930002773:1=1:=rfl
theorem tw8965215075514910880:1=1:=rfl
theorem tw8983756257105130227:1=1:=rfl
theorem tw899187281708718853:1=1:=rfl
theorem tw9000908037299752229:1=1:=rfl
theorem tw9016846152696716638:1=1:=rfl
theorem tw9018635070940762159:1=1:=rfl
theorem tw9033953771586226978:1=1:=rfl
theorem tw9036960110271754778:1=1:=rfl
theorem tw9043093919020774792:1=1:=rfl
theorem tw9046693723037758376:1=1:=rfl
theorem tw905634021204347684:1=1:=rfl
theorem tw9063790561628003831:1=1:=rfl
theorem tw9070123692017013846:1=1:=rfl
theorem tw9088682870026954680:1=1:=rfl
theorem tw9095261259357604559:1=1:=rfl
theorem tw9109949925144535516:1=1:=rfl
theorem tw9142887217227649140:1=1:=rfl
theorem tw9154937567484334560:1=1:=rfl
theorem tw9170513070990267023:1=1:=rfl
theorem tw9200330197067421115:1=1:=rfl
theorem tw9212966250080664162:1=1:=rfl
theorem tw9235561108164731721:1=1:=rfl
theorem tw9242471422690250210:1=1:=rfl
theorem tw9258520918328675761:1=1:=rfl
theorem tw9261806104794426953:1=1:=rfl
theorem tw9263590555730510648:1=1:=rfl
theorem tw9270384404020214776:1=1:=rfl
theorem tw9275448389876633987:1=1:=rfl
theorem tw927568089824032536:1=1:=rfl
theorem tw931279895210919617:1=1:=rfl
theorem tw9315315907157715723:1=1:=rfl
theorem tw9347626172496877827:1=1:=rfl
theorem tw9372551899067078669:1=1:=rfl
theorem tw9385414077733418526:1=1:=rfl
theorem tw9406530864695525851:1=1:=rfl
theorem tw9416693575131194153:1=1:=rfl
theorem tw9457907337654371817:1=1:=rfl
theorem tw9464417701048127947:1=1:=rfl
theorem tw9497405734684864187:1=1:=rfl
theorem tw949743934663060849:1=1:=rfl
theorem tw9501391760213346845:1=1:=rfl
theorem tw950895424614454216:1=1:=rfl
theorem tw9520642938864585524:1=1:=rfl
theorem tw9521756469634577901:1=1:=rfl
theorem tw9524161046149784534:1=1:=rfl
theorem tw9614074434444955867:1=1:=rfl
theorem tw9625973628771424018:1=1:=rfl
theorem tw964911493779461333:1=1:=rfl
theorem tw9649613761386221421:1=1:=rfl
theorem tw9685896690342822935:1=1:=rfl
theorem tw969329471758531242:1=1:=rfl
theorem tw9722750020625992282:1=1:=rfl
theorem tw9725988738643398560:1=1:=rfl
theorem tw9733464779038806419:1=1:=rfl
theorem tw9747230263235303430:1=1:=rfl
theorem tw9748834850448372353:1=1:=rfl
theorem tw9753940524135748638:1=1:=rfl
theorem tw9775085227918541326:1=1:=rfl
theorem tw978456291528864041:1=1:=rfl
theorem tw9787344453429475573:1=1:=rfl
theorem tw9831549134678401257:1=1:=rfl
theorem tw9838295914634562783:1=1:=rfl
theorem tw9841425051670495895:1=1:=rfl
theorem tw9851385603074314742:1=1:=rfl
theorem tw9884847805657258340:1=1:=rfl
theorem tw9907439585923661828:1=1:=rfl
theorem tw9945681253131214307:1=1:=rfl
theorem tw9951143050096045611:1=1:=rfl
theorem tw9994479494313819776:1=1:=rfl
end Mine.whole
open PySem PySem.W PyProof.Rows Mine
set_option tactic.hygienic true
set_option maxHeartbeats 8000000
set_option Elab.async true
theorem Mine.whole : PySem.Challenge.rw_og0199_01.Holds := by
  w_on
  o_law
  k_head
  (case hw => w_witness2)
  k_fill
  intro w s₀ s₁ mg mb G Y fa o pm cd doc dV kV ho hd hcd hD hmg hg args vals as hpre hlay hrd hwl hlo
  have hlo2 := hlo
  have hwl2 := hwl
  have hrd2 := hrd
  have KX := km_in_of Y
  have hT8 := km_tabs_of Y
  k_behind G ho hd hcd hD hmg hpre hlay hrd hwl hlo cd
  refine' end_walk law_T (cells := [_, _, _]) ?e1 ?e2 ?e3 ?eX ?eF ?eN ?e0 ?eK ?eT ?eH ?el ?eg ?eI ?e5 ?fc ?rf ?kp ?kg ?e6
  case eF => assumption
  case eN => assumption
  case eX => assumption
  case e0 => assumption
  case eK => assumption
  case eT => assumption
  case eH => assumption
  case el => assumption
  case eI => assumption
  case eg => exact ghost_get hT9 (list_at (by assumption) (by assumption)) (by intro h; cases h)
  case e1 => kernel_rfl
  case e2 => kernel_rfl
  case e3 => kernel_rfl
  case e5 => exact fun h => absurd (Int.ofNat_lt.mpr h) (by assumption)
  case fc =>
    refine facts_of (by kernel_rfl) (by kernel_rfl) (by kernel_rfl) (by kernel_rfl) (by kernel_rfl) (by kernel_rfl) (by kernel_rfl) ?_
    unfold fnRows
    repeat (first | exact True.intro | refine ⟨⟨by kernel_rfl, by kernel_rfl, by kernel_rfl, by kernel_rfl, by kernel_rfl⟩, ?_⟩)
  case rf => exact rf_of _ (by kernel_rfl) (by kernel_rfl) (by kernel_rfl) (by kernel_rfl) (by kernel_rfl) (by kernel_rfl) (by kernel_rfl) (by kernel_rfl) (by kernel_rfl) (by kernel_rfl) (by kernel_rfl) (by kernel_rfl)
  case kp => kernel_rfl
  case kg => kernel_rfl
  case e6 =>
    intro s' ps hP hk hgens hos
    refine ⟨⟨.inl ⟨_, .bool true, [], rfl, raisesW_false ?_, .bool true, ?_, unshared_nil⟩, hk, hos, hgens.trans hg⟩, ⟨ps, hP⟩, trivial⟩
    · wrow_none_raised
    · kc_post
theorem PySem.Challenge.cw_og0199_01_holds : PySem.Challenge.rw_og0199_01.Holds :=
  Mine.whole
