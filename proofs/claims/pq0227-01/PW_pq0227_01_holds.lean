import PyProof.Rows.All
import Wide.All
import OpenK.AllK
import Wide.FinOn
import PySem.Challenge.RW_pq0227_01
set_option Elab.async false
set_option genSizeOf false
set_option genInjectivity false
set_option tactic.hygienic false
set_option bootstrap.genMatcherCode false
set_option linter.all false
set_option genCtorIdx false
set_option backward.linearNoConfusionType false
set_option deriving.decEq.linear_construction_threshold 0
namespace Mine
section
structure And4 (a1 a2 a3 a4:Prop):Prop where
 h1:a1
 h2:a2
 h3:a3
 h4:a4
structure And5 (a1 a2 a3 a4 a5:Prop):Prop where
 h1:a1
 h2:a2
 h3:a3
 h4:a4
 h5:a5
structure And6 (a1 a2 a3 a4 a5 a6:Prop):Prop where
 h1:a1
 h2:a2
 h3:a3
 h4:a4
 h5:a5
 h6:a6
inductive And7 (a1 a2 a3 a4 a5 a6 a7:Prop):Prop
 | mk (h1:a1) (h2:a2) (h3:a3) (h4:a4) (h5:a5) (h6:a6) (h7:a7):And7 a1 a2 a3 a4 a5 a6 a7
inductive And8 (a1 a2 a3 a4 a5 a6 a7 a8:Prop):Prop
 | mk (h1:a1) (h2:a2) (h3:a3) (h4:a4) (h5:a5) (h6:a6) (h7:a7) (h8:a8):And8 a1 a2 a3 a4 a5 a6 a7 a8
inductive And9 (a1 a2 a3 a4 a5 a6 a7 a8 a9:Prop):Prop
 | mk (h1:a1) (h2:a2) (h3:a3) (h4:a4) (h5:a5) (h6:a6) (h7:a7) (h8:a8) (h9:a9):And9 a1 a2 a3 a4 a5 a6 a7 a8 a9
inductive And10 (a1 a2 a3 a4 a5 a6 a7 a8 a9 a10:Prop):Prop
 | mk (h1:a1) (h2:a2) (h3:a3) (h4:a4) (h5:a5) (h6:a6) (h7:a7) (h8:a8) (h9:a9) (h10:a10):And10 a1 a2 a3 a4 a5 a6 a7 a8 a9 a10
inductive And12 (a1 a2 a3 a4 a5 a6 a7 a8 a9 a10 a11 a12:Prop):Prop
 | mk (h1:a1) (h2:a2) (h3:a3) (h4:a4) (h5:a5) (h6:a6) (h7:a7) (h8:a8) (h9:a9) (h10:a10) (h11:a11) (h12:a12):And12 a1 a2 a3 a4 a5 a6 a7 a8 a9 a10 a11 a12
inductive Ex2 {t1 t2:Type} (p:t1→t2→Prop):Prop
 | mk (x1:t1) (x2:t2) (h:p x1 x2):Ex2 p
inductive Ex3 {t1 t2 t3:Type} (p:t1→t2→t3→Prop):Prop
 | mk (x1:t1) (x2:t2) (x3:t3) (h:p x1 x2 x3):Ex3 p
inductive Ex4 {t1 t2 t3 t4:Type} (p:t1→t2→t3→t4→Prop):Prop
 | mk (x1:t1) (x2:t2) (x3:t3) (x4:t4) (h:p x1 x2 x3 x4):Ex4 p
inductive Ex5 {t1 t2 t3 t4 t5:Type} (p:t1→t2→t3→t4→t5→Prop):Prop
 | mk (x1:t1) (x2:t2) (x3:t3) (x4:t4) (x5:t5) (h:p x1 x2 x3 x4 x5):Ex5 p
inductive Ex6 {t1 t2 t3 t4 t5 t6:Type} (p:t1→t2→t3→t4→t5→t6→Prop):Prop
 | mk (x1:t1) (x2:t2) (x3:t3) (x4:t4) (x5:t5) (x6:t6) (h:p x1 x2 x3 x4 x5 x6):Ex6 p
inductive Ex7 {t1 t2 t3 t4 t5 t6 t7:Type} (p:t1→t2→t3→t4→t5→t6→t7→Prop):Prop
 | mk (x1:t1) (x2:t2) (x3:t3) (x4:t4) (x5:t5) (x6:t6) (x7:t7) (h:p x1 x2 x3 x4 x5 x6 x7):Ex7 p
inductive Ex8 {t1 t2 t3 t4 t5 t6 t7 t8:Type} (p:t1→t2→t3→t4→t5→t6→t7→t8→Prop):Prop
 | mk (x1:t1) (x2:t2) (x3:t3) (x4:t4) (x5:t5) (x6:t6) (x7:t7) (x8:t8) (h:p x1 x2 x3 x4 x5 x6 x7 x8):Ex8 p
set_option genInjectivity true in
set_option genCtorIdx true in
inductive AV where
 | none | bool (b:Bool) | int (i:Int) | str (n:Nat) | nil | cons (a b:AV) | ref (i:Nat)
 deriving DecidableEq,Inhabited
noncomputable def AV.toL:AV→Option (List AV)
 | .nil=>some []
 | .cons a b=>b.toL.map (a :: ·)
 | _=>Option.none
noncomputable def AV.ofL:List AV→AV
 | []=>.nil
 | a :: r=>.cons a (AV.ofL r)
noncomputable def AV.isChain:AV→Bool
 | .nil | .cons ..=>true
 | _=>false
noncomputable def AV.isD0:AV→Bool
 | .int _ | .str _ | .nil=>true
 | .cons a b=>a.isD0 && b.isChain && b.isD0
 | _=>false
noncomputable def AV.depth:AV→Nat
 | .cons a b=>max (a.depth + 1) b.depth
 | _=>0
noncomputable def AV.isD (a:AV):Bool:=a.isD0 && Nat.ble a.depth 6
set_option genCtorIdx false in
set_option genInjectivity true in
inductive AObj where
 | lst (xs:List AV)
 | dct (kvs:List (AV×AV))
 | ins (cls d:Nat)
 | ns (fs:List (Nat×AV))
 | scr (xs:List Int)
noncomputable def AObj.ctorIdx (o:AObj):Nat:=AObj.casesOn o (fun _=>0) (fun _=>1) (fun _ _=>2) (fun _=>3) (fun _=>4)
noncomputable abbrev Store:=List AObj
noncomputable abbrev Loc:=List (Nat×AV)
noncomputable def get (m:Loc) (x:Nat):Option AV:=match m with
 | []=>.none
 | (y,v) :: r=>bif Nat.beq y x then some v else get r x
noncomputable def put (m:Loc) (x:Nat) (v:AV):Loc:=match m with
 | []=>[(x,v)]
 | (y,u) :: r=>bif Nat.beq y x then (y,v) :: r else (y,u) :: put r x v
noncomputable def kget (kvs:List (AV×AV)) (k:AV):Option AV:=match kvs with
 | []=>.none
 | (y,v) :: r=>if y=k then some v else kget r k
noncomputable def kput (kvs:List (AV×AV)) (k v:AV):List (AV×AV):=match kvs with
 | []=>[(k,v)]
 | (y,u) :: r=>if y=k then (y,v) :: r else (y,u) :: kput r k v
theorem get_n {x:Nat}:get [] x=.none:=rfl
theorem get_c {x y:Nat} {v:AV} {r:Loc}:get ((y,v) :: r) x=bif Nat.beq y x then some v else get r x:=rfl
theorem put_n {x:Nat} {v:AV}:put [] x v=[(x,v)]:=rfl
theorem put_c {x y:Nat} {v u:AV} {r:Loc}:put ((y,u) :: r) x v=bif Nat.beq y x then (y,v) :: r else (y,u) :: put r x v:=rfl
theorem kget_n {k:AV}:kget [] k=.none:=rfl
theorem kget_c {k y v:AV} {r:List (AV×AV)}:kget ((y,v) :: r) k=if y=k then some v else kget r k:=rfl
theorem kput_n {k v:AV}:kput [] k v=[(k,v)]:=rfl
theorem kput_c {k y v u:AV} {r:List (AV×AV)}:kput ((y,u) :: r) k v=if y=k then (y,v) :: r else (y,u) :: kput r k v:=rfl
set_option genCtorIdx false in
inductive Op0 (u:Nat) where | add | sub | mul | fdiv | mod | pow
noncomputable abbrev Op:=Op0 0
noncomputable def Op0.ctorIdx {u:Nat} (o:Op0 u):Nat:=Op0.casesOn o 0 1 2 3 4 5
set_option genCtorIdx false in
inductive COp0 (u:Nat) where | eq | ne | lt | le | gt | ge | is | isnot | isin | notin
noncomputable abbrev COp:=COp0 0
noncomputable def COp0.ctorIdx {u:Nat} (o:COp0 u):Nat:=COp0.casesOn o 0 1 2 3 4 5 6 7 8 9
set_option genCtorIdx false in
inductive SK0 (u:Nat) where | val | range | enum | values
noncomputable abbrev SK:=SK0 0
noncomputable def SK0.ctorIdx {u:Nat} (o:SK0 u):Nat:=SK0.casesOn o 0 1 2 3
set_option genCtorIdx false in
inductive Bi0 (u:Nat) where | len | list | sorted | sum | max | int | tuple | dict
noncomputable abbrev Bi:=Bi0 0
noncomputable def Bi0.ctorIdx {u:Nat} (o:Bi0 u):Nat:=Bi0.casesOn o 0 1 2 3 4 5 6 7
set_option genInjectivity false in
inductive PE where
 | cst (v:AV)
 | nm (x:Nat)
 | gl (x:Nat)
 | nil
 | cons (a r:PE)
 | tup (e:PE)
 | lst (e:PE)
 | dct (e:PE)
 | attr (e:PE) (x:Nat)
 | sub (e i:PE)
 | bin (op:Op) (a b:PE)
 | neg (a:PE)
 | band (a b:PE)
 | bor (a b:PE)
 | bnot (a:PE)
 | cmp (op:COp) (a b:PE)
 | cmp2 (op op':COp) (a b c:PE)
 | ife (c a b:PE)
 | isTup (e:PE)
 | fn (f:Nat) (args:PE)
 | bi (f:Bi) (args:PE)
 | meth (o:PE) (f:Nat) (args:PE)
 | comp (elt:PE) (x:Nat) (k:SK) (src:PE) (cond:PE)
set_option genInjectivity false in
inductive PT where
 | nm (x:Nat)
 | attr (e:PE) (x:Nat)
 | sub (e i:PE)
 | nil
 | cons (t r:PT)
 | tup (t:PT)
set_option genInjectivity false in
inductive PS where
 | skip
 | seq (a b:PS)
 | exp (e:PE)
 | asg (t:PT) (e:PE)
 | ite (c:PE) (a b:PS)
 | whl (c:PE) (b:PS)
 | forr (t:PT) (k:SK) (e:PE) (b:PS)
 | ret (e:PE)
 | cont
noncomputable def chainLen:AV→Option Nat
 | .nil=>some 0
 | .cons _ b=>(chainLen b).map (· + 1)
 | _=>.none
noncomputable def nth:AV→Nat→Option AV
 | .cons a _,0=>some a
 | .cons _ b,n + 1=>nth b n
 | _,_=>.none
noncomputable def oK {α:Type} (o:Option α) (K:α→Prop):Prop:=match o with
 | some v=>K v
 | .none=>False
noncomputable def trM (b:Bool) (p:Prop):Prop:=match b with
 | true=>p
 | false=>False
theorem oK_inv {α:Type} {o:Option α} {K:α→Prop} (h:oK o K):∃ v,o=some v∧K v:=by cases o <;> first | exact ⟨_,rfl,h⟩ | exact h.elim
theorem trM_inv {b:Bool} {p:Prop} (h:trM b p):b=true∧p:=by cases b <;> first | exact ⟨rfl,h⟩ | exact h.elim
theorem xI {α:Type} {o:Option α} {K:α→Prop} {v:α} (h:o=some v) (k:K v):oK o K:=by subst h; exact k
theorem nx {α:Type} {K:α→Prop} {v:α} (k:K v):oK (some v) K:=k
noncomputable def nope {α:Type}:α→Prop:=fun _=>False
noncomputable def nopeO {α β:Type}:α→Option β:=fun _=>.none
noncomputable def refO {α:Type} (a:AV) (f:Nat→Option α):Option α:=match a with
 | .ref i=>f i
 | _=>.none
noncomputable def intO {α:Type} (a:AV) (f:Int→Option α):Option α:=match a with
 | .int i=>f i
 | _=>.none
noncomputable def objO {α:Type} (o:Option AObj) (L:List AV→Option α) (S:List Int→Option α) (D:List (AV×AV)→Option α):Option α:=match o with
 | some (.lst l)=>L l
 | some (.scr l)=>S l
 | some (.dct d)=>D d
 | _=>.none
noncomputable def insO {α:Type} (o:Option AObj) (f:Nat→Nat→Option α):Option α:=match o with
 | some (.ins c d)=>f c d
 | _=>.none
noncomputable def nsO {α:Type} (o:Option AObj) (f:List (Nat×AV)→Option α):Option α:=match o with
 | some (.ns d)=>f d
 | _=>.none
theorem none_ne {α:Type} {v:α} {C:Prop} (h:(.none:Option α)=some v):C:=by cases h
theorem refO_inv {α:Type} {a:AV} {f:Nat→Option α} {v:α} (h:refO a f=some v):∃ i,a=.ref i∧f i=some v:=by
 cases a <;> first | exact ⟨_,rfl,h⟩ | exact none_ne h
theorem intO_inv {α:Type} {a:AV} {f:Int→Option α} {v:α} (h:intO a f=some v):∃ i,a=.int i∧f i=some v:=by
 cases a <;> first | exact ⟨_,rfl,h⟩ | exact none_ne h
theorem objO_inv {α:Type} {o:Option AObj} {L:List AV→Option α} {S:List Int→Option α} {D:List (AV×AV)→Option α} {v:α} (h:objO o L S D=some v):(∃ l,o=some (.lst l)∧L l=some v)∨(∃ l,o=some (.scr l)∧S l=some v)∨∃ d,o=some (.dct d)∧D d=some v:=by
 cases o with
 | none=>exact none_ne h
 | some o=>cases o <;> first | exact .inl ⟨_,rfl,h⟩ | exact .inr (.inl ⟨_,rfl,h⟩) | exact .inr (.inr ⟨_,rfl,h⟩) | exact none_ne h
theorem insO_inv {α:Type} {o:Option AObj} {f:Nat→Nat→Option α} {v:α} (h:insO o f=some v):∃ c d,o=some (.ins c d)∧f c d=some v:=by
 cases o with
 | none=>exact none_ne h
 | some o=>cases o <;> first | exact ⟨_,_,rfl,h⟩ | exact none_ne h
theorem nsO_inv {α:Type} {o:Option AObj} {f:List (Nat×AV)→Option α} {v:α} (h:nsO o f=some v):∃ d,o=some (.ns d)∧f d=some v:=by
 cases o with
 | none=>exact none_ne h
 | some o=>cases o <;> first | exact ⟨_,rfl,h⟩ | exact none_ne h
noncomputable def refM (a:AV) (f:Nat→Prop):Prop:=match a with
 | .ref i=>f i
 | _=>False
noncomputable def intM (a:AV) (f:Int→Prop):Prop:=match a with
 | .int i=>f i
 | _=>False
noncomputable def strM (a:AV) (f:Nat→Prop):Prop:=match a with
 | .str i=>f i
 | _=>False
noncomputable def noneM (a:AV) (p:Prop):Prop:=match a with
 | .none=>p
 | _=>False
noncomputable def bM (a:AV) (f:Bool→Prop):Prop:=match a with
 | .bool b=>f b
 | _=>False
noncomputable def consM (a:AV) (f:AV→AV→Prop):Prop:=match a with
 | .cons x y=>f x y
 | _=>False
noncomputable def nilM (a:AV) (p:Prop):Prop:=match a with
 | .nil=>p
 | _=>False
noncomputable def endM (a:AV) (p:Prop) (f:AV→AV→Prop):Prop:=match a with
 | .nil=>p
 | .cons x y=>f x y
 | _=>False
noncomputable def irM (a:AV) (f:Int→Prop) (g:Nat→Prop):Prop:=match a with
 | .int i=>f i
 | .ref i=>g i
 | _=>False
noncomputable def ibM (a:AV) (f:Int→Prop) (g:Bool→Prop):Prop:=match a with
 | .int i=>f i
 | .bool b=>g b
 | _=>False
noncomputable def isrM (a:AV) (f:Int→Prop) (h:Nat→Prop) (g:Nat→Prop):Prop:=match a with
 | .int i=>f i
 | .str i=>h i
 | .ref i=>g i
 | _=>False
noncomputable def refE (a:AV) (f:Nat→Prop) (g:Prop):Prop:=match a with
 | .ref i=>f i
 | _=>g
noncomputable def boolM (a:AV) (p q:Prop):Prop:=match a with
 | .bool true=>p
 | .bool false=>q
 | _=>False
noncomputable def objM (o:Option AObj) (L:List AV→Prop) (S:List Int→Prop) (D:List (AV×AV)→Prop):Prop:=match o with
 | some (.lst l)=>L l
 | some (.scr l)=>S l
 | some (.dct d)=>D d
 | _=>False
noncomputable def objI (o:Option AObj) (I:Nat→Nat→Prop) (L D:Prop):Prop:=match o with
 | some (.ins c d)=>I c d
 | some (.lst _)=>L
 | some (.dct _)=>D
 | _=>False
noncomputable def l1M (l:List AV) (f:AV→Prop):Prop:=match l with
 | [a]=>f a
 | _=>False
noncomputable def l2M (l:List AV) (f:AV→AV→Prop):Prop:=match l with
 | [a,b]=>f a b
 | _=>False
noncomputable def l12M (l:List AV) (f:AV→AV→Prop) (g:AV→Prop):Prop:=match l with
 | [a,b]=>f a b
 | [a]=>g a
 | _=>False
section
variable {a:AV} {p q:Prop} {l:List AV}
theorem refM_inv {f:Nat→Prop} (h:refM a f):∃ i,a=.ref i∧f i:=by cases a <;> first | exact ⟨_,rfl,h⟩ | exact h.elim
theorem intM_inv {f:Int→Prop} (h:intM a f):∃ i,a=.int i∧f i:=by cases a <;> first | exact ⟨_,rfl,h⟩ | exact h.elim
theorem strM_inv {f:Nat→Prop} (h:strM a f):∃ i,a=.str i∧f i:=by cases a <;> first | exact ⟨_,rfl,h⟩ | exact h.elim
theorem noneM_inv (h:noneM a p):a=.none∧p:=by cases a <;> first | exact ⟨rfl,h⟩ | exact h.elim
theorem bM_inv {f:Bool→Prop} (h:bM a f):∃ b,a=.bool b∧f b:=by cases a <;> first | exact ⟨_,rfl,h⟩ | exact h.elim
theorem consM_inv {f:AV→AV→Prop} (h:consM a f):∃ x y,a=.cons x y∧f x y:=by cases a <;> first | exact ⟨_,_,rfl,h⟩ | exact h.elim
theorem nilM_inv (h:nilM a p):a=.nil∧p:=by cases a <;> first | exact ⟨rfl,h⟩ | exact h.elim
theorem endM_inv {f:AV→AV→Prop} (h:endM a p f):(a=.nil∧p)∨∃ x y,a=.cons x y∧f x y:=by cases a <;> first | exact .inl ⟨rfl,h⟩ | exact .inr ⟨_,_,rfl,h⟩ | exact h.elim
theorem irM_inv {f:Int→Prop} {g:Nat→Prop} (h:irM a f g):(∃ i,a=.int i∧f i)∨∃ i,a=.ref i∧g i:=by cases a <;> first | exact .inl ⟨_,rfl,h⟩ | exact .inr ⟨_,rfl,h⟩ | exact h.elim
theorem ibM_inv {f:Int→Prop} {g:Bool→Prop} (h:ibM a f g):(∃ i,a=.int i∧f i)∨∃ i,a=.bool i∧g i:=by cases a <;> first | exact .inl ⟨_,rfl,h⟩ | exact .inr ⟨_,rfl,h⟩ | exact h.elim
theorem isrM_inv {f:Int→Prop} {g k:Nat→Prop} (h:isrM a f k g):(∃ i,a=.int i∧f i)∨(∃ i,a=.str i∧k i)∨∃ i,a=.ref i∧g i:=by
 cases a <;> first | exact .inl ⟨_,rfl,h⟩ | exact .inr (.inl ⟨_,rfl,h⟩) | exact .inr (.inr ⟨_,rfl,h⟩) | exact h.elim
theorem refE_inv {f:Nat→Prop} (h:refE a f p):(∃ i,a=.ref i∧f i)∨p:=by cases a <;> first | exact .inl ⟨_,rfl,h⟩ | exact .inr h
theorem boolM_inv (h:boolM a p q):(a=.bool true∧p)∨(a=.bool false∧q):=by
 cases a with
 | bool b=>cases b <;> first | exact .inl ⟨rfl,h⟩ | exact .inr ⟨rfl,h⟩
 | _=>exact h.elim
theorem objM_inv {o:Option AObj} {L:List AV→Prop} {S:List Int→Prop} {D:List (AV×AV)→Prop} (h:objM o L S D):(∃ l,o=some (.lst l)∧L l)∨(∃ l,o=some (.scr l)∧S l)∨∃ d,o=some (.dct d)∧D d:=by
 cases o with
 | none=>exact h.elim
 | some o=>cases o <;> first | exact .inl ⟨_,rfl,h⟩ | exact .inr (.inl ⟨_,rfl,h⟩) | exact .inr (.inr ⟨_,rfl,h⟩) | exact h.elim
theorem objM_lst {o:Option AObj} {L:List AV→Prop} (h:objM o L nope nope):∃ l,o=some (.lst l)∧L l:=by
 rcases objM_inv h with h | ⟨_,_,h⟩ | ⟨_,_,h⟩
 ·exact h
 ·exact h.elim
 ·exact h.elim
theorem objI_inv {o:Option AObj} {I:Nat→Nat→Prop} (h:objI o I p q):(∃ c d,o=some (.ins c d)∧I c d)∨(∃ l,o=some (.lst l)∧p)∨∃ d,o=some (.dct d)∧q:=by
 cases o with
 | none=>exact h.elim
 | some o=>cases o <;> first | exact .inl ⟨_,_,rfl,h⟩ | exact .inr (.inl ⟨_,rfl,h⟩) | exact .inr (.inr ⟨_,rfl,h⟩) | exact h.elim
theorem l1M_inv {f:AV→Prop} (h:l1M l f):∃ a,l=[a]∧f a:=by
 cases l with
 | nil=>exact h.elim
 | cons a r=>cases r <;> first | exact ⟨_,rfl,h⟩ | exact h.elim
theorem l2M_inv {f:AV→AV→Prop} (h:l2M l f):∃ a b,l=[a,b]∧f a b:=by
 cases l with
 | nil=>exact h.elim
 | cons a r =>
  cases r with
  | nil=>exact h.elim
  | cons b r=>cases r <;> first | exact ⟨_,_,rfl,h⟩ | exact h.elim
theorem l12M_inv {f:AV→AV→Prop} {g:AV→Prop} (h:l12M l f g):(∃ a b,l=[a,b]∧f a b)∨∃ a,l=[a]∧g a:=by
 cases l with
 | nil=>exact h.elim
 | cons a r =>
  cases r with
  | nil=>exact .inr ⟨_,rfl,h⟩
  | cons b r=>cases r <;> first | exact .inl ⟨_,_,rfl,h⟩ | exact h.elim
end
noncomputable def getA (st:Store) (a:AV) (x:Nat):Option AV:=refO a fun i=>insO st[i]? fun _ d=>nsO st[d]? fun fs=>get fs x
noncomputable def setA (st:Store) (a:AV) (x:Nat) (v:AV):Option Store:=refO a fun i=>insO st[i]? fun _ d=>nsO st[d]? fun fs=>if fs.length < 1000 then some (st.set d (.ns (put fs x v))) else .none
noncomputable def idx (n:Nat) (k:Int):Option Nat:=if 0≤k∧k < n∧k < 100 then some k.toNat else if k < 0∧0≤k + n∧-100 < k then some (k + n).toNat else .none
noncomputable def subF (st:Store) (a k:AV):Option AV:=match a with
 | .cons a b=>intO k fun k=>(chainLen (.cons a b)).bind fun n=>(idx n k).bind fun j=>nth (.cons a b) j
 | .ref i=>objO st[i]? (fun l=>intO k fun j=>if 0≤j∧j < 2 ^ 62 then l[j.toNat]? else .none) (fun l=>intO k fun j=>if 0≤j∧j < 2 ^ 62 then l[j.toNat]?.map .int else .none) (fun kvs=>if k.isD then kget kvs k else .none)
 | _=>.none
noncomputable def setI (st:Store) (a k v:AV):Option Store:=refO a fun i=>objO st[i]?
 (fun l=>intO k fun j=>if 0≤j∧j < l.length∧l.length < 2 ^ 20 then some (st.set i (.lst (l.set j.toNat v))) else .none) nopeO
 (fun kvs=>if k.isD=true∧kvs.length < 2 ^ 20 then some (st.set i (.dct (kput kvs k v))) else .none)
noncomputable def binF (op:Op) (st:Store) (a b:AV) (Q:AV→Store→Prop):Prop:=match op with
 | .add=>irM a (fun x=>intM b fun y=>Q (.int (x + y)) st) fun i=>refM b fun j=>objM st[i]? (fun l=>objM st[j]? (fun l'=>l.length + l'.length < 2 ^ 20∧Q (.ref st.length) (st++[.lst (l++l')])) nope nope) nope nope
 | .sub=>intM a fun x=>intM b fun y=>Q (.int (x - y)) st
 | .mul=>irM a (fun x=>intM b fun y=>(x.natAbs < 2 ^ 64∨y.natAbs < 2 ^ 64)∧Q (.int (x * y)) st) fun i=>intM b fun y=>objM st[i]? (fun l=>0≤y∧y≤16∧l.length≤1∧Q (.ref st.length) (st++[.lst (List.replicate y.toNat l).flatten])) nope nope
 | .fdiv=>intM a fun x=>intM b fun y=>(0 < y∧y < 2 ^ 30)∧Q (.int (x.fdiv y)) st
 | .mod=>intM a fun x=>intM b fun y=>0 < y∧Q (.int (x.fmod y)) st
 | .pow=>intM a fun x=>intM b fun y=>x=10∧y=18∧Q (.int (10 ^ 18)) st
noncomputable def isNil:List AV→Bool
 | []=>true
 | _=>false
noncomputable def allD (l:List AV):Bool:=l.all AV.isD
noncomputable def dictEq (a b:List (AV×AV)):Bool:=a.length == b.length && a.all fun p=>kget b p.1 == some p.2
noncomputable def eqF (st:Store) (a b:AV) (Q:Bool→Prop):Prop:=refE a (fun i=>refE b (fun j=>objM st[i]? (fun l=>objM st[j]? (fun l'=>l'=[]∧Q (isNil l)) nope nope) nope fun d=>objM st[j]? nope nope fun e=>(∀ p∈d,p.2.isD=true)∧(∀ p∈e,p.2.isD=true)∧Q (dictEq d e))
 (a.isD=true∧b.isD=true∧Q (decide (a=b)))) (a.isD=true∧b.isD=true∧Q (decide (a=b)))
noncomputable def memF (st:Store) (a b:AV) (Q:Bool→Prop):Prop:=a.isD=true∧refE b (fun i=>objM st[i]? (fun l=>allD l=true∧Q (decide (a∈l))) nope fun d=>Q (kget d a).isSome)
 (∃ l,b.toL=some l∧allD l=true∧Q (decide (a∈l)))
@[irreducible] noncomputable def neF (st:Store) (a b:AV) (Q:Bool→Prop):Prop:=isrM a (fun x=>intM b fun y=>Q (!decide (x=y))) (fun x=>strM b fun y=>Q (!decide (x=y)))
 fun i=>refM b fun j=>objM st[i]? (fun l=>objM st[j]? (fun l'=>l'=[]∧Q (!isNil l)) nope nope) nope nope
noncomputable def cmpF (op:COp) (st:Store) (a b:AV) (Q:Bool→Prop):Prop:=match op with
 | .eq=>eqF st a b Q
 | .ne=>neF st a b Q
 | .lt=>intM a fun x=>intM b fun y=>Q (decide (x < y))
 | .le=>intM a fun x=>intM b fun y=>Q (decide (x≤y))
 | .gt=>intM a fun x=>intM b fun y=>Q (decide (x > y))
 | .ge=>intM a fun x=>intM b fun y=>Q (decide (x ≥ y))
 | .is=>noneM b (Q (decide (a=.none)))
 | .isnot=>noneM b (Q (decide (a≠.none)))
 | .isin=>memF st a b Q
 | .notin=>memF st a b fun r=>Q (!r)
noncomputable def enumL:Int→List AV→List AV
 | _,[]=>[]
 | i,a :: r=>.cons (.int i) (.cons a .nil) :: enumL (i + 1) r
noncomputable def rangeL (a b:Int):List AV:=(List.range (b - a).toNat).map fun (k:Nat)=>AV.int (a + k)
noncomputable def srcF (k:SK) (st:Store) (a:AV) (Q:List AV→Option Nat→Prop):Prop:=match k with
 | .val=>refE a (fun i=>objM st[i]? (fun l=>Q l (some i)) nope fun d=>Q (d.map (·.1)) (some i)) (oK a.toL fun l=>Q l .none)
 | .range=>consM a fun x r=>intM x fun x=>endM r ((0≤x∧x < 2 ^ 20)∧Q (rangeL 0 x) .none) fun y r=>nilM r (intM y fun b=>(0≤x∧x < 2 ^ 20∧0≤b∧b < 2 ^ 20)∧Q (rangeL x b) .none)
 | .enum=>consM a fun x r=>nilM r (refE x (fun i=>∃ l,st[i]?=some (.lst l)∧Q (enumL 0 l) (some i)) (oK x.toL fun l=>Q (enumL 0 l) .none))
 | .values=>refM a fun i=>∃ d,st[i]?=some (.dct d)∧Q (d.map (·.2)) (some i)
noncomputable def sumL:List AV→Option Int
 | []=>some 0
 | .int x :: r=>(sumL r).map (x + ·)
 | _=>.none
noncomputable def mkD:List (AV×AV)→List AV→Option (List (AV×AV))
 | d,[]=>some d
 | d,.cons k (.cons v .nil) :: r=>if k.isD then mkD (kput d k v) r else .none
 | _,_=>.none
noncomputable def mkKvs:List (AV×AV)→List AV→Option (List (AV×AV))
 | d,[]=>some d
 | d,k :: v :: r=>if k.isD then mkKvs (kput d k v) r else .none
 | _,_=>.none
noncomputable def biF (C:Nat→Option (List AV)) (f:Bi) (st:Store) (l:List AV) (Q:AV→Store→Prop):Prop:=match f with
 | .len=>l1M l fun a=>refM a fun i=>objM st[i]? (fun l=>l.length < 2 ^ 24∧Q (.int l.length) st) (fun l=>l.length < 2 ^ 24∧Q (.int l.length) st) fun d=>d.length < 2 ^ 24∧Q (.int d.length) st
 | .list=>l1M l fun a=>srcF .val st a fun l _=>l.length < 2 ^ 20∧Q (.ref st.length) (st++[.lst l])
 | .sorted=>l1M l fun a=>refM a fun i=>∃ d r,st[i]?=some (.dct d)∧d.length < 2 ^ 20∧(d.map (·.1)=[]∧r=[]∨(∃ x,d.map (·.1)=[x]∧r=[x])∨∃ n,C n=some r∧(d.map (·.1)).Perm r)∧Q (.ref st.length) (st++[.lst r])
 | .sum=>l1M l fun a=>refM a fun i=>∃ l n,st[i]?=some (.lst l)∧sumL l=some n∧(∀ a∈l,∃ k:Int,a=.int k∧0≤k∧k < 2 ^ 24)∧l.length < 2 ^ 20∧Q (.int n) st
 | .max=>l2M l fun a b=>intM a fun x=>intM b fun y=>Q (.int (max x y)) st
 | .int=>l1M l fun a=>ibM a (fun x=>Q (.int x) st) fun b=>Q (.int (if b then 1 else 0)) st
 | .tuple=>l1M l fun a=>refM a fun i=>∃ l,st[i]?=some (.lst l)∧l.length < 2 ^ 20∧Q (AV.ofL l) st
 | .dict=>l1M l fun a=>refM a fun i=>∃ l d,st[i]?=some (.lst l)∧l.length < 2 ^ 20∧mkD [] l=some d∧Q (.ref st.length) (st++[.dct d])
set_option genInjectivity false in
structure MN where
 append:Nat
 extend:Nat
 pop:Nat
 get:Nat
 setdefault:Nat
 init:Nat
noncomputable def lstF (N:MN) (f i:Nat) (st:Store) (l:List AV) (Q:AV→Store→Prop):Prop :=
 bif Nat.beq f N.append then ∃ xs v,st[i]?=some (.lst xs)∧l=[v]∧xs.length < 2 ^ 20∧Q .none (st.set i (.lst (xs++[v])))
 else bif Nat.beq f N.extend then ∃ xs j ys,st[i]?=some (.lst xs)∧l=[.ref j]∧st[j]?=some (.lst ys)∧j≠i∧xs.length + ys.length < 2 ^ 20∧Q .none (st.set i (.lst (xs++ys)))
 else bif Nat.beq f N.pop then ∃ xs x,st[i]?=some (.lst (xs++[x]))∧l=[]∧xs.length < 2 ^ 20∧Q x (st.set i (.lst xs))
 else False
noncomputable def dctF (N:MN) (f i:Nat) (st:Store) (l:List AV) (Q:AV→Store→Prop):Prop:=∃ d,st[i]?=some (.dct d) ∧
 bif Nat.beq f N.get then l12M l (fun k v=>k.isD=true∧Q ((kget d k).getD v) st) fun k=>k.isD=true∧Q ((kget d k).getD .none) st
 else bif Nat.beq f N.setdefault then l2M l fun k v=>k.isD=true∧d.length < 2 ^ 20∧(match kget d k with | some u=>Q u st | .none=>Q v (st.set i (.dct (kput d k v))))
 else False
noncomputable def isLM (N:MN) (f:Nat):Bool:=Nat.beq f N.append || Nat.beq f N.extend || Nat.beq f N.pop
noncomputable def isDM (N:MN) (f:Nat):Bool:=Nat.beq f N.get || Nat.beq f N.setdefault
noncomputable abbrev Call:=Nat→Nat→List AV→Store→(AV→Store→Prop)→Prop
noncomputable def cmK2 (r:Store→List AV→(List AV→Store→Prop)→Prop) (acc:List AV) (Q:List AV→Store→Prop) (v:AV) (s2:Store):Prop:=acc.length < 2 ^ 20∧r s2 (acc++[v]) Q
noncomputable def cmK (elt:AV→Store→(AV→Store→Prop)→Prop) (r:Store→List AV→(List AV→Store→Prop)→Prop) (x:AV) (acc:List AV) (Q:List AV→Store→Prop) (c:AV) (s1:Store):Prop:=boolM c (elt x s1 (cmK2 r acc Q)) (r s1 acc Q)
noncomputable def compW (cond elt:AV→Store→(AV→Store→Prop)→Prop) (keep:Store→Prop):List AV→Store→List AV→(List AV→Store→Prop)→Prop
 | [],st,acc,Q=>keep st∧Q acc st
 | x :: xs,st,acc,Q=>keep st∧cond x st (cmK elt (compW cond elt keep xs) x acc Q)
noncomputable def keepF (i:Option Nat) (st:Store):Store→Prop:=fun s'=>match i with
 | some i=>s'[i]?=st[i]?
 | .none=>True
set_option genInjectivity false in
structure MEnv where
 N:MN
 glob:Nat→Option AV
 sorts:Nat→Option (List AV)
 C:Call
 has:Nat→Nat→Bool
noncomputable abbrev KV:=AV→Store→Prop
noncomputable abbrev atK (Q:KV) (st:Store):AV→Prop:=fun v=>Q v st
noncomputable abbrev KF:=Store→KV→Prop
noncomputable def consK2 (v:AV) (Q:KV):KV:=fun vs s2=>Q (.cons v vs) s2
noncomputable def consK (f:KF) (Q:KV):KV:=fun v s1=>f s1 (consK2 v Q)
noncomputable abbrev lstK2 (Q:KV) (s1:Store):List AV→Prop:=fun l=>Q (.ref s1.length) (s1++[.lst l])
noncomputable def lstK (Q:KV):KV:=fun t s1=>oK t.toL (lstK2 Q s1)
noncomputable abbrev dctK3 (Q:KV) (s1:Store):List (AV×AV)→Prop:=fun d=>Q (.ref s1.length) (s1++[.dct d])
noncomputable abbrev dctK2 (Q:KV) (s1:Store):List AV→Prop:=fun l=>oK (mkKvs [] l) (dctK3 Q s1)
noncomputable def dctK (Q:KV):KV:=fun t s1=>oK t.toL (dctK2 Q s1)
noncomputable def attrK (x:Nat) (Q:KV):KV:=fun o s1=>oK (getA s1 o x) (atK Q s1)
noncomputable def subK2 (o:AV) (Q:KV):KV:=fun k s2=>oK (subF s2 o k) (atK Q s2)
noncomputable def subK (f:KF) (Q:KV):KV:=fun o s1=>f s1 (subK2 o Q)
noncomputable def binK2 (op:Op) (x:AV) (Q:KV):KV:=fun y s2=>binF op s2 x y Q
noncomputable def binK (op:Op) (f:KF) (Q:KV):KV:=fun x s1=>f s1 (binK2 op x Q)
noncomputable def negK (Q:KV):KV:=fun x s1=>intM x fun i=>Q (.int (-i)) s1
noncomputable def boolK (Q:KV):KV:=fun y s2=>bM y fun _=>Q y s2
noncomputable def bandK (f:KF) (Q:KV):KV:=fun x s1=>boolM x (f s1 (boolK Q)) (Q (.bool false) s1)
noncomputable def borK (f:KF) (Q:KV):KV:=fun x s1=>boolM x (Q (.bool true) s1) (f s1 (boolK Q))
noncomputable def bnotK (Q:KV):KV:=fun x s1=>bM x fun b=>Q (.bool (!b)) s1
noncomputable def cmpK3 (Q:KV) (s:Store):Bool→Prop:=fun r=>Q (.bool r) s
noncomputable def cmpK2 (op:COp) (x:AV) (Q:KV):KV:=fun y s2=>cmpF op s2 x y (cmpK3 Q s2)
noncomputable def cmpK (op:COp) (f:KF) (Q:KV):KV:=fun x s1=>f s1 (cmpK2 op x Q)
noncomputable def cmq3 (op':COp) (f:KF) (y:AV) (Q:KV) (s2:Store):Bool→Prop:=fun r=>if r then f s2 (cmpK2 op' y Q) else Q (.bool false) s2
noncomputable def cmq2 (op op':COp) (f:KF) (x:AV) (Q:KV):KV:=fun y s2=>cmpF op s2 x y (cmq3 op' f y Q s2)
noncomputable def cmqK (op op':COp) (g f:KF) (Q:KV):KV:=fun x s1=>g s1 (cmq2 op op' f x Q)
noncomputable def ifeK (f g:KF) (Q:KV):KV:=fun x s1=>boolM x (f s1 Q) (g s1 Q)
noncomputable def isTupK (Q:KV):KV:=fun x s1=>(∀ i,x≠.ref i)∧Q (.bool x.isChain) s1
noncomputable abbrev fnK2 (V:MEnv) (f:Nat) (Q:KV) (s1:Store):List AV→Prop:=fun l=>V.C 0 f l s1 Q
noncomputable def fnK (V:MEnv) (f:Nat) (Q:KV):KV:=fun t s1=>oK t.toL (fnK2 V f Q s1)
noncomputable abbrev biK2 (V:MEnv) (f:Bi) (Q:KV) (s1:Store):List AV→Prop:=fun l=>biF V.sorts f s1 l Q
noncomputable def biK (V:MEnv) (f:Bi) (Q:KV):KV:=fun t s1=>oK t.toL (biK2 V f Q s1)
noncomputable abbrev insK2 (V:MEnv) (c f i:Nat) (Q:KV) (s2:Store):List AV→Prop:=fun l=>V.C c f (.ref i :: l) s2 Q
noncomputable def insK (V:MEnv) (c f i:Nat) (Q:KV):KV:=fun t s2=>oK t.toL (insK2 V c f i Q s2)
noncomputable abbrev lmK2 (V:MEnv) (f i:Nat) (Q:KV) (s2:Store):List AV→Prop:=fun l=>lstF V.N f i s2 l Q
noncomputable def lmK (V:MEnv) (f i:Nat) (Q:KV):KV:=fun t s2=>oK t.toL (lmK2 V f i Q s2)
noncomputable abbrev dmK2 (V:MEnv) (f i:Nat) (Q:KV) (s2:Store):List AV→Prop:=fun l=>dctF V.N f i s2 l Q
noncomputable def dmK (V:MEnv) (f i:Nat) (Q:KV):KV:=fun t s2=>oK t.toL (dmK2 V f i Q s2)
noncomputable abbrev methK2 (V:MEnv) (f:Nat) (g:KF) (Q:KV) (s1:Store):Nat→Prop:=fun i=>objI s1[i]? (fun c d=>V.has c f=true∧(∃ fs,s1[d]?=some (.ns fs)∧get fs f=.none)∧g s1 (insK V c f i Q))
  (isLM V.N f=true∧g s1 (lmK V f i Q)) (isDM V.N f=true∧g s1 (dmK V f i Q))
noncomputable def methK (V:MEnv) (f:Nat) (g:KF) (Q:KV):KV:=fun ov s1=>refM ov (methK2 V f g Q s1)
noncomputable def lstQ (Q:KV):List AV→Store→Prop:=fun out s2=>Q (.ref s2.length) (s2++[.lst out])
noncomputable def compK2 (c e:AV→KF) (Q:KV) (s1:Store):List AV→Option Nat→Prop:=fun items i=>compW c e (keepF i s1) items s1 [] (lstQ Q)
noncomputable def compK (k:SK) (c e:AV→KF) (Q:KV):KV:=fun a s1=>srcF k s1 a (compK2 c e Q s1)
noncomputable def evW (V:MEnv):PE→Loc→Store→(AV→Store→Prop)→Prop
 | .cst v,_,st,Q=>Q v st
 | .nm x,m,st,Q=>oK (get m x) (atK Q st)
 | .gl x,_,st,Q=>oK (V.glob x) (atK Q st)
 | .nil,_,st,Q=>Q .nil st
 | .cons a r,m,st,Q=>evW V a m st (consK (evW V r m) Q)
 | .tup e,m,st,Q=>evW V e m st Q
 | .lst e,m,st,Q=>evW V e m st (lstK Q)
 | .dct e,m,st,Q=>evW V e m st (dctK Q)
 | .attr e x,m,st,Q=>evW V e m st (attrK x Q)
 | .sub e i,m,st,Q=>evW V e m st (subK (evW V i m) Q)
 | .bin op a b,m,st,Q=>evW V a m st (binK op (evW V b m) Q)
 | .neg a,m,st,Q=>evW V a m st (negK Q)
 | .band a b,m,st,Q=>evW V a m st (bandK (evW V b m) Q)
 | .bor a b,m,st,Q=>evW V a m st (borK (evW V b m) Q)
 | .bnot a,m,st,Q=>evW V a m st (bnotK Q)
 | .cmp op a b,m,st,Q=>evW V a m st (cmpK op (evW V b m) Q)
 | .cmp2 op op' a b c,m,st,Q=>evW V a m st (cmqK op op' (evW V b m) (evW V c m) Q)
 | .ife c a b,m,st,Q=>evW V c m st (ifeK (evW V a m) (evW V b m) Q)
 | .isTup e,m,st,Q=>evW V e m st (isTupK Q)
 | .fn f args,m,st,Q=>trM (V.has 0 f) (evW V args m st (fnK V f Q))
 | .bi f args,m,st,Q=>evW V args m st (biK V f Q)
 | .meth o f args,m,st,Q=>evW V o m st (methK V f (evW V args m) Q)
 | .comp elt x k src cond,m,st,Q=>evW V src m st (compK k (fun v=>evW V cond (put m x v)) (fun v=>evW V elt (put m x v)) Q)
noncomputable def unp (st:Store) (a:AV):Option AV:=match a with
 | .ref i=>objO st[i]? (fun l=>some (AV.ofL l)) nopeO nopeO
 | .nil=>some .nil
 | .cons a b=>some (.cons a b)
 | _=>.none
theorem unp_lst {st:Store} {i:Nat} {l:List AV} (h:st[i]?=some (.lst l)):unp st (.ref i)=some (AV.ofL l):=by
 show objO st[i]? _ _ _=_; rw [h]; rfl
noncomputable def PT.len:PT→Nat
 | .cons _ r=>r.len + 1
 | _=>0
noncomputable abbrev KL:=Loc→Store→Prop
noncomputable abbrev setK3 (m:Loc) (Q:KL):Store→Prop:=fun s2=>Q m s2
noncomputable def setAK (x:Nat) (v:AV) (m:Loc) (Q:KL):KV:=fun o s1=>oK (setA s1 o x v) (setK3 m Q)
noncomputable def setIK2 (o v:AV) (m:Loc) (Q:KL):KV:=fun k s2=>oK (setI s2 o k v) (setK3 m Q)
noncomputable def setIK (f:KF) (v:AV) (m:Loc) (Q:KL):KV:=fun o s1=>f s1 (setIK2 o v m Q)
noncomputable def acK (f:Loc→Store→KL→Prop) (Q:KL):KL:=fun m1 s1=>f m1 s1 Q
noncomputable abbrev acC (f g:AV→Loc→Store→KL→Prop) (m:Loc) (st:Store) (Q:KL):AV→AV→Prop:=fun a b=>f a m st (acK (g b) Q)
noncomputable abbrev tupK (n:Nat) (f:AV→Loc→Store→KL→Prop) (m:Loc) (st:Store) (Q:KL):AV→Prop:=fun c=>chainLen c=some n∧f c m st Q
noncomputable def asgW (V:MEnv):PT→AV→Loc→Store→(Loc→Store→Prop)→Prop
 | .nm x,v,m,st,Q=>Q (put m x v) st
 | .attr e x,v,m,st,Q=>evW V e m st (setAK x v m Q)
 | .sub e i,v,m,st,Q=>evW V e m st (setIK (evW V i m) v m Q)
 | .nil,v,m,st,Q=>nilM v (Q m st)
 | .cons t r,v,m,st,Q=>consM v (acC (asgW V t) (asgW V r) m st Q)
 | .tup t,v,m,st,Q=>oK (unp st v) (tupK t.len (asgW V t) m st Q)
set_option genCtorIdx false in
set_option genInjectivity true in
inductive Fl where
 | next | cont | ret (v:AV)
noncomputable def Fl.ctorIdx (o:Fl):Nat:=Fl.casesOn o 0 1 (fun _=>2)
noncomputable abbrev KS:=Fl→Loc→Store→Prop
noncomputable abbrev KT:=Loc→Store→KS→Prop
noncomputable def loopK (r:KT) (Q:KS):KS:=fun fl m2 s2=>match fl with
 | .ret v=>Q (.ret v) m2 s2
 | _=>r m2 s2 Q
noncomputable def whK (body r:KT) (m:Loc) (Q:KS):KV:=fun v s1=>boolM v (body m s1 (loopK r Q)) (Q .next m s1)
noncomputable def whileW (test:Loc→Store→(AV→Store→Prop)→Prop) (body:Loc→Store→(Fl→Loc→Store→Prop)→Prop):Nat→Loc→Store→(Fl→Loc→Store→Prop)→Prop
 | 0,_,_,_=>False
 | n + 1,m,st,Q=>test m st (whK body (whileW test body n) m Q)
noncomputable def forW (step:AV→Loc→Store→(Fl→Loc→Store→Prop)→Prop) (keep:Store→Prop):List AV→Loc→Store→(Fl→Loc→Store→Prop)→Prop
 | [],m,st,Q=>keep st∧Q .next m st
 | x :: xs,m,st,Q=>keep st∧step x m st (loopK (forW step keep xs) Q)
set_option tactic.hygienic true in
noncomputable def seqK (f:KT) (Q:KS):KS:=fun fl m1 s1=>match fl with
  | .next=>f m1 s1 Q
  | fl=>Q fl m1 s1
noncomputable def expK (m:Loc) (Q:KS):KV:=fun v s1=>noneM v (Q .next m s1)
noncomputable def nextK (Q:KS):KL:=fun m1 s2=>Q .next m1 s2
noncomputable def asgK (f:AV→Loc→Store→KL→Prop) (m:Loc) (Q:KS):KV:=fun v s1=>f v m s1 (nextK Q)
noncomputable def iteK (f g:KT) (m:Loc) (Q:KS):KV:=fun x s1=>boolM x (f m s1 Q) (g m s1 Q)
noncomputable def stepK (g:KT) (Q:KS):KL:=fun m1 s1=>g m1 s1 Q
noncomputable def stepF (f:AV→Loc→Store→KL→Prop) (g:KT):AV→KT:=fun x m s Q=>f x m s (stepK g Q)
noncomputable def forK2 (step:AV→KT) (m:Loc) (Q:KS) (s1:Store):List AV→Option Nat→Prop:=fun items i=>forW step (keepF i s1) items m s1 Q
noncomputable def forK (k:SK) (step:AV→KT) (m:Loc) (Q:KS):KV:=fun a s1=>srcF k s1 a (forK2 step m Q s1)
noncomputable def retK (m:Loc) (Q:KS):KV:=fun v s1=>Q (.ret v) m s1
noncomputable def exW (V:MEnv):PS→Loc→Store→(Fl→Loc→Store→Prop)→Prop
 | .skip,m,st,Q=>Q .next m st
 | .seq a b,m,st,Q=>exW V a m st (seqK (exW V b) Q)
 | .exp e,m,st,Q=>evW V e m st (expK m Q)
 | .asg t e,m,st,Q=>evW V e m st (asgK (asgW V t) m Q)
 | .ite c a b,m,st,Q=>evW V c m st (iteK (exW V a) (exW V b) m Q)
 | .whl c b,m,st,Q=>∃ n,whileW (evW V c) (exW V b) n m st Q
 | .forr t k e b,m,st,Q=>evW V e m st (forK k (stepF (asgW V t) (exW V b)) m Q)
 | .ret e,m,st,Q=>evW V e m st (retK m Q)
 | .cont,m,st,Q=>Q .cont m st
set_option genInjectivity false in
inductive Fn where
 | df (params:List Nat) (dflts:List AV) (body:PS)
 | cls (c:Nat)
noncomputable def bindF (ps:List Nat) (ds:List AV) (args:List AV):Option Loc :=
 if args.length≤ps.length∧ps.length≤args.length + ds.length then some (ps.zip (args++ds.drop (args.length + ds.length - ps.length))) else .none
set_option genInjectivity false in
structure Prog where
 N:MN
 glob:Nat→Option AV
 sorts:Nat→Option (List AV)
 fns:Nat→Nat→Option Fn
noncomputable def dfK (Q:KV):KS:=fun fl _ s1=>Q (match fl with | .ret v=>v | _=>.none) s1
noncomputable def clsK (i:Nat) (Q:KV):KV:=fun v s1=>noneM v (Q (.ref i) s1)
noncomputable def callW (P:Prog):Nat→Call
 | 0=>fun _ _ _ _ _=>False
 | d + 1=>fun c f args st Q=>∃ fn,P.fns c f=some fn∧match fn with
  | .df ps ds body=>∃ m,bindF ps ds args=some m∧exW ⟨P.N,P.glob,P.sorts,callW P d,fun c f=>(P.fns c f).isSome⟩ body m st (dfK Q)
  | .cls k=>callW P d k P.N.init (.ref (st.length + 1) :: args) (st++[.ns [],.ins k st.length]) (clsK (st.length + 1) Q)
end
end Mine
namespace Mine
section
set_option maxRecDepth 10000
@[reducible] noncomputable def w___init__:Nat:=1
@[reducible] noncomputable def w_found:Nat:=2
@[reducible] noncomputable def w_waiting:Nat:=3
@[reducible] noncomputable def w_value:Nat:=4
@[reducible] noncomputable def w_here:Nat:=5
@[reducible] noncomputable def w_pop:Nat:=6
@[reducible] noncomputable def w_kind:Nat:=7
@[reducible] noncomputable def w_REFERRING:Nat:=8
@[reducible] noncomputable def w_number:Nat:=9
@[reducible] noncomputable def w_append:Nat:=10
@[reducible] noncomputable def w_func:Nat:=11
@[reducible] noncomputable def w_face:Nat:=12
@[reducible] noncomputable def w__:Nat:=13
@[reducible] noncomputable def w_struct:Nat:=14
@[reducible] noncomputable def w_array:Nat:=15
@[reducible] noncomputable def w_objects_within:Nat:=16
@[reducible] noncomputable def w_summary:Nat:=17
@[reducible] noncomputable def w_leaks:Nat:=18
@[reducible] noncomputable def w_kept:Nat:=19
@[reducible] noncomputable def w_told:Nat:=20
@[reducible] noncomputable def w_size_of_summary:Nat:=21
@[reducible] noncomputable def w_summaries:Nat:=22
@[reducible] noncomputable def w_ahead:Nat:=23
@[reducible] noncomputable def w_codes:Nat:=24
@[reducible] noncomputable def w_key:Nat:=25
@[reducible] noncomputable def w_Summary:Nat:=26
@[reducible] noncomputable def w_flow:Nat:=27
@[reducible] noncomputable def w_EscapeFlow:Nat:=28
@[reducible] noncomputable def w_go_through:Nat:=29
@[reducible] noncomputable def w_sites:Nat:=30
@[reducible] noncomputable def w_site:Nat:=31
@[reducible] noncomputable def w_gone:Nat:=32
@[reducible] noncomputable def w_HEAP:Nat:=33
@[reducible] noncomputable def w_FRAME:Nat:=34
@[reducible] noncomputable def w_escapes:Nat:=35
@[reducible] noncomputable def w_cell:Nat:=36
@[reducible] noncomputable def w_k:Nat:=37
@[reducible] noncomputable def w_script:Nat:=38
@[reducible] noncomputable def w_big:Nat:=39
@[reducible] noncomputable def w_mixed:Nat:=40
@[reducible] noncomputable def w__law_pool:Nat:=41
@[reducible] noncomputable def w_source:Nat:=42
@[reducible] noncomputable def w_drawn:Nat:=43
@[reducible] noncomputable def w_top:Nat:=44
@[reducible] noncomputable def w__law_take:Nat:=45
@[reducible] noncomputable def w_things:Nat:=46
@[reducible] noncomputable def w__law_one:Nat:=47
@[reducible] noncomputable def w__law_T:Nat:=48
@[reducible] noncomputable def w_lines:Nat:=49
@[reducible] noncomputable def w_end:Nat:=50
@[reducible] noncomputable def w_Code:Nat:=51
@[reducible] noncomputable def w__law_code:Nat:=52
@[reducible] noncomputable def w_none:Nat:=53
@[reducible] noncomputable def w_return:Nat:=54
@[reducible] noncomputable def w__law_NIL:Nat:=55
@[reducible] noncomputable def w_main_load:Nat:=56
@[reducible] noncomputable def w_load:Nat:=57
@[reducible] noncomputable def w_reg:Nat:=58
@[reducible] noncomputable def w_main_same:Nat:=59
@[reducible] noncomputable def w_move:Nat:=60
@[reducible] noncomputable def w_main_put:Nat:=61
@[reducible] noncomputable def w_store:Nat:=62
@[reducible] noncomputable def w__law_helpers:Nat:=63
@[reducible] noncomputable def w_rows:Nat:=64
@[reducible] noncomputable def w_idle:Nat:=65
@[reducible] noncomputable def w_one:Nat:=66
@[reducible] noncomputable def w_clear:Nat:=67
@[reducible] noncomputable def w_read:Nat:=68
@[reducible] noncomputable def w_call:Nat:=69
@[reducible] noncomputable def w_fn:Nat:=70
@[reducible] noncomputable def w_same:Nat:=71
@[reducible] noncomputable def w_put:Nat:=72
@[reducible] noncomputable def w_other:Nat:=73
@[reducible] noncomputable def w_way:Nat:=74
@[reducible] noncomputable def w__law_quiet:Nat:=75
@[reducible] noncomputable def w_sent:Nat:=76
@[reducible] noncomputable def w_send:Nat:=77
@[reducible] noncomputable def w__law_CHANNEL:Nat:=78
@[reducible] noncomputable def w_global:Nat:=79
@[reducible] noncomputable def w__law_GLOBAL:Nat:=80
@[reducible] noncomputable def w_outer:Nat:=81
@[reducible] noncomputable def w_go:Nat:=82
@[reducible] noncomputable def w_unknown:Nat:=83
@[reducible] noncomputable def w_deferred:Nat:=84
@[reducible] noncomputable def w_defer:Nat:=85
@[reducible] noncomputable def w_other_none:Nat:=86
@[reducible] noncomputable def w__law_loud:Nat:=87
@[reducible] noncomputable def w_out:Nat:=88
@[reducible] noncomputable def w_pairs:Nat:=89
@[reducible] noncomputable def w_puts:Nat:=90
@[reducible] noncomputable def w_ends:Nat:=91
@[reducible] noncomputable def w_quiet:Nat:=92
@[reducible] noncomputable def w_loud:Nat:=93
@[reducible] noncomputable def w_many:Nat:=94
@[reducible] noncomputable def w_at:Nat:=95
@[reducible] noncomputable def w_new:Nat:=96
@[reducible] noncomputable def w_main_f:Nat:=97
@[reducible] noncomputable def w_extend:Nat:=98
@[reducible] noncomputable def w_turn:Nat:=99
@[reducible] noncomputable def w_held:Nat:=100
@[reducible] noncomputable def w_holder:Nat:=101
@[reducible] noncomputable def w__law_made:Nat:=102
@[reducible] noncomputable def w_left:Nat:=103
@[reducible] noncomputable def w_begin:Nat:=104
@[reducible] noncomputable def w__law_led_to:Nat:=105
@[reducible] noncomputable def w_pair:Nat:=106
@[reducible] noncomputable def w_insides:Nat:=107
@[reducible] noncomputable def w_outsides:Nat:=108
@[reducible] noncomputable def w__law_closed:Nat:=109
@[reducible] noncomputable def w__law_let_out:Nat:=110
@[reducible] noncomputable def w_is_thrown:Nat:=111
@[reducible] noncomputable def w_panic:Nat:=112
@[reducible] noncomputable def w_let_out:Nat:=113
@[reducible] noncomputable def w_due:Nat:=114
@[reducible] noncomputable def w_heap:Nat:=115
@[reducible] noncomputable def w_frame:Nat:=116
@[reducible] noncomputable def w_main_i:Nat:=117
@[reducible] noncomputable def w_law:Nat:=118
@[reducible] noncomputable def w_self:Nat:=119
@[reducible] noncomputable def w_setdefault:Nat:=120
@[reducible] noncomputable def w_told_by:Nat:=121
@[reducible] noncomputable def w_code:Nat:=122
@[reducible] noncomputable def w_inside:Nat:=123
@[reducible] noncomputable def w_is_new:Nat:=124
@[reducible] noncomputable def w_captured:Nat:=125
@[reducible] noncomputable def w_params:Nat:=126
@[reducible] noncomputable def w_register:Nat:=127
@[reducible] noncomputable def w_operand:Nat:=128
@[reducible] noncomputable def w_get:Nat:=129
@[reducible] noncomputable def w_BEYOND:Nat:=130
@[reducible] noncomputable def w_tokens_of:Nat:=131
@[reducible] noncomputable def w_operands:Nat:=132
@[reducible] noncomputable def w_tokens_of_all:Nat:=133
@[reducible] noncomputable def w_tokens:Nat:=134
@[reducible] noncomputable def w_token:Nat:=135
@[reducible] noncomputable def w_loaded:Nat:=136
@[reducible] noncomputable def w_reached:Nat:=137
@[reducible] noncomputable def w_inner:Nat:=138
@[reducible] noncomputable def w_UNKNOWN:Nat:=139
@[reducible] noncomputable def w_table:Nat:=140
@[reducible] noncomputable def w_note:Nat:=141
@[reducible] noncomputable def w_give:Nat:=142
@[reducible] noncomputable def w_make:Nat:=143
@[reducible] noncomputable def w_leak:Nat:=144
@[reducible] noncomputable def w_targets:Nat:=145
@[reducible] noncomputable def w_target:Nat:=146
@[reducible] noncomputable def w_put_out:Nat:=147
@[reducible] noncomputable def w_blocks:Nat:=148
@[reducible] noncomputable def w_instructions:Nat:=149
@[reducible] noncomputable def w_terminator:Nat:=150
@[reducible] noncomputable def w_instruction:Nat:=151
@[reducible] noncomputable def w_look:Nat:=152
@[reducible] noncomputable def w_leave:Nat:=153
@[reducible] noncomputable def w_op:Nat:=154
@[reducible] noncomputable def w_makeslice:Nat:=155
@[reducible] noncomputable def w_makemap:Nat:=156
@[reducible] noncomputable def w_makechan:Nat:=157
@[reducible] noncomputable def w_closure:Nat:=158
@[reducible] noncomputable def w_bound:Nat:=159
@[reducible] noncomputable def w_look_at_making:Nat:=160
@[reducible] noncomputable def w_look_at_call:Nat:=161
@[reducible] noncomputable def w_mapset:Nat:=162
@[reducible] noncomputable def w_select:Nat:=163
@[reducible] noncomputable def w_copy:Nat:=164
@[reducible] noncomputable def w_look_at_putting:Nat:=165
@[reducible] noncomputable def w_convert:Nat:=166
@[reducible] noncomputable def w_fieldptr:Nat:=167
@[reducible] noncomputable def w_elemptr:Nat:=168
@[reducible] noncomputable def w_part:Nat:=169
@[reducible] noncomputable def w_elem:Nat:=170
@[reducible] noncomputable def w_cut:Nat:=171
@[reducible] noncomputable def w_iter:Nat:=172
@[reducible] noncomputable def w_look_at_reading:Nat:=173
@[reducible] noncomputable def w_mapget:Nat:=174
@[reducible] noncomputable def w_next:Nat:=175
@[reducible] noncomputable def w_assert:Nat:=176
@[reducible] noncomputable def w_recv:Nat:=177
@[reducible] noncomputable def w_recover:Nat:=178
@[reducible] noncomputable def w_more:Nat:=179
@[reducible] noncomputable def w_close_over:Nat:=180
@[reducible] noncomputable def w_case:Nat:=181
@[reducible] noncomputable def w_called:Nat:=182
@[reducible] noncomputable def w_registers:Nat:=183
@[reducible] noncomputable def w_follow:Nat:=184
@[reducible] noncomputable def w_handed:Nat:=185
@[reducible] noncomputable def w_results:Nat:=186
@[reducible] noncomputable def w_recovery:Nat:=187
@[reducible] noncomputable def w_ptr:Nat:=188
@[reducible] noncomputable def w_slice:Nat:=189
@[reducible] noncomputable def w_map:Nat:=190
@[reducible] noncomputable def w_chan:Nat:=191
@[reducible] noncomputable def w_beyond:Nat:=192
@[reducible] noncomputable def w_int:Nat:=193
@[reducible] noncomputable def w_const:Nat:=194
@[reducible] noncomputable def w_main_g:Nat:=195
@[reducible] noncomputable def w_both:Nat:=196
@[reducible] noncomputable def w_main_c:Nat:=197
noncomputable def T0:List String:=["","__init__","found","waiting","value","here","pop","kind","REFERRING","number","append","func","face","?","struct","array","objects_within","summary","leaks","kept","told","size_of_summary","summaries","ahead","codes","key","Summary","flow","EscapeFlow","go_through","sites","site","gone","HEAP","FRAME","escapes","cell","k","script","big","mixed","_law_pool","source","drawn","top","_law_take","things","_law_one","_law_T","lines","end","Code","_law_code","none","return","_law_NIL","main.load","load","reg","main.same","move","main.put","store","_law_helpers","rows","idle","one","clear","read","call","fn","same","put","other","way","_law_quiet","sent","send","_law_CHANNEL","global","_law_GLOBAL","outer","go","unknown","deferred","defer","other.none","_law_loud","out","pairs","puts","ends","quiet","loud","many","at","new","main.f","extend","turn","held","holder","_law_made","left","begin","_law_led_to","pair","insides","outsides","_law_closed","_law_let_out","is_thrown","panic","let_out","due","heap","frame","main.i","law","self","setdefault","told_by","code","inside","is_new","captured","params","register","operand","get","BEYOND","tokens_of","operands","tokens_of_all","tokens","token","loaded","reached","inner","UNKNOWN","table","note","give","make","leak","targets","target","put_out","blocks","instructions","terminator","instruction","look","leave","op","makeslice","makemap","makechan","closure","bound","look_at_making","look_at_call","mapset","select","copy","look_at_putting","convert","fieldptr","elemptr","part","elem","cut","iter","look_at_reading","mapget","next","assert","recv","recover","more","close_over","case","called","registers","follow","handed","results","recovery","ptr","slice","map","chan","beyond","int","const","main.g","both","main.c"]
@[reducible] noncomputable def c_REFERRING:AV:=(.cons (.str w_ptr) (.cons (.str w_slice) (.cons (.str w_map) (.cons (.str w_chan) (.cons (.str w_iter) .nil)))))
@[reducible] noncomputable def c_BEYOND:AV:=(.cons (.str w_beyond) .nil)
@[reducible] noncomputable def c_UNKNOWN:AV:=(.int (-1))
@[reducible] noncomputable def c_HEAP:AV:=(.str w_heap)
@[reducible] noncomputable def c_FRAME:AV:=(.str w_frame)
@[reducible] noncomputable def c__law_T:AV:=(.cons (.str w_ptr) (.cons (.cons (.str w_int) (.cons (.str w_int) .nil)) .nil))
@[reducible] noncomputable def c__law_NIL:AV:=(.cons (.str w_const) (.cons (.cons (.str w_ptr) (.cons (.cons (.str w_int) (.cons (.str w_int) .nil)) .nil)) (.cons .none .nil)))
@[reducible] noncomputable def c__law_GLOBAL:AV:=(.cons (.str w_const) (.cons (.cons (.str w_ptr) (.cons (.cons (.str w_int) (.cons (.str w_int) .nil)) .nil)) (.cons (.cons (.str w_ptr) (.cons (.str w_main_g) (.cons .nil .nil))) .nil)))
@[reducible] noncomputable def c__law_CHANNEL:AV:=(.cons (.str w_const) (.cons (.cons (.str w_chan) (.cons (.str w_both) (.cons (.cons (.str w_ptr) (.cons (.cons (.str w_int) (.cons (.str w_int) .nil)) .nil)) .nil))) (.cons (.cons (.str w_chan) (.cons (.str w_main_c) .nil)) .nil)))
noncomputable def globL:List (Nat×AV):=[(w_REFERRING,c_REFERRING),(w_BEYOND,c_BEYOND),(w_UNKNOWN,c_UNKNOWN),(w_HEAP,c_HEAP),(w_FRAME,c_FRAME),(w__law_T,c__law_T),(w__law_NIL,c__law_NIL),(w__law_GLOBAL,c__law_GLOBAL),(w__law_CHANNEL,c__law_CHANNEL)]
noncomputable def glob (x:Nat):Option AV:=(globL.find? fun p=>Nat.beq p.1 x).map (·.2)
noncomputable def b_objects_within:PS:=(.seq (.asg (.tup (.cons (.nm w_found) (.cons (.nm w_waiting) .nil))) (.tup (.cons (.lst .nil) (.cons (.lst (.cons (.nm w_value) .nil)) .nil)))) (.seq (.whl (.cmp .ne (.nm w_waiting) (.lst .nil)) (.seq (.asg (.nm w_here) (.meth (.nm w_waiting) w_pop .nil)) (.seq (.ite (.bor (.bnot (.isTup (.nm w_here))) (.cmp .eq (.nm w_here) (.tup .nil))) (.seq .cont .skip) .skip) (.seq (.asg (.nm w_kind) (.sub (.nm w_here) (.cst (.int 0)))) (.seq (.ite (.cmp .isin (.nm w_kind) (.gl w_REFERRING)) (.seq (.asg (.nm w_number) (.ife (.isTup (.sub (.nm w_here) (.cst (.int 1)))) (.sub (.sub (.nm w_here) (.cst (.int 1))) (.cst (.int 0))) (.sub (.nm w_here) (.cst (.int 1))))) (.seq (.ite (.cmp .notin (.nm w_number) (.nm w_found)) (.seq (.exp (.meth (.nm w_found) w_append (.cons (.nm w_number) .nil))) .skip) .skip) .skip)) (.seq (.ite (.bor (.cmp .eq (.nm w_kind) (.cst (.str w_func))) (.cmp .eq (.nm w_kind) (.cst (.str w_face)))) (.seq (.exp (.gl w__)) .skip) (.seq (.ite (.bor (.cmp .eq (.nm w_kind) (.cst (.str w_struct))) (.cmp .eq (.nm w_kind) (.cst (.str w_array)))) (.seq (.exp (.gl w__)) .skip) .skip) .skip)) .skip)) .skip))))) (.seq (.ret (.nm w_found)) .skip)))
noncomputable def b_size_of_summary:PS:=(.seq (.ret (.bin .add (.bin .add (.bi .len (.cons (.attr (.nm w_summary) w_leaks) .nil)) (.bi .len (.cons (.attr (.nm w_summary) w_kept) .nil))) (.bi .sum (.cons (.comp (.bi .len (.cons (.nm w_told) .nil)) w_told .values (.attr (.nm w_summary) w_told) (.cst (.bool true))) .nil)))) .skip)
noncomputable def b_escapes:PS:=(.seq (.asg (.tup (.cons (.nm w_summaries) (.cons (.nm w_found) (.cons (.nm w_ahead) .nil)))) (.tup (.cons (.dct .nil) (.cons (.dct .nil) (.cons (.neg (.cst (.int 1))) .nil))))) (.seq (.forr (.nm w_key) .val (.nm w_codes) (.seq (.asg (.sub (.nm w_summaries) (.nm w_key)) (.fn w_Summary .nil)) .skip)) (.seq (.whl (.cmp .ne (.nm w_ahead) (.bi .sum (.cons (.comp (.fn w_size_of_summary (.cons (.sub (.nm w_summaries) (.nm w_key)) .nil)) w_key .val (.nm w_codes) (.cst (.bool true))) .nil))) (.seq (.asg (.nm w_ahead) (.bi .sum (.cons (.comp (.fn w_size_of_summary (.cons (.sub (.nm w_summaries) (.nm w_key)) .nil)) w_key .val (.nm w_codes) (.cst (.bool true))) .nil))) (.seq (.forr (.nm w_key) .val (.bi .sorted (.cons (.nm w_codes) .nil)) (.seq (.asg (.nm w_flow) (.fn w_EscapeFlow (.cons (.sub (.nm w_codes) (.nm w_key)) (.cons (.nm w_summaries) .nil)))) (.seq (.exp (.meth (.nm w_flow) w_go_through .nil)) (.seq (.asg (.sub (.nm w_summaries) (.nm w_key)) (.attr (.nm w_flow) w_summary)) (.seq (.forr (.nm w_site) .val (.attr (.nm w_flow) w_sites) (.seq (.asg (.sub (.nm w_found) (.nm w_site)) (.ife (.cmp .isin (.nm w_site) (.attr (.nm w_flow) w_gone)) (.gl w_HEAP) (.gl w_FRAME))) .skip)) .skip))))) .skip))) (.seq (.ret (.nm w_found)) .skip))))
noncomputable def b_law_pool:PS:=(.seq (.asg (.nm w_cell) (.cst (.int 0))) (.seq (.ite (.cmp .lt (.nm w_k) (.bi .len (.cons (.nm w_script) .nil))) (.seq (.asg (.nm w_cell) (.sub (.nm w_script) (.nm w_k))) .skip) .skip) (.seq (.asg (.nm w_big) (.bi .max (.cons (.bi .int (.cons (.nm w_cell) .nil)) (.cons (.bi .int (.cons (.bin .sub (.neg (.cst (.int 1))) (.nm w_cell)) .nil)) .nil)))) (.seq (.asg (.nm w_mixed) (.bin .mod (.bi .int (.cons (.bin .mul (.bin .add (.bin .add (.bin .add (.bin .mod (.bi .int (.cons (.nm w_big) .nil)) (.cst (.int 2147483629))) (.bin .mul (.bin .mul (.cst (.int 7919)) (.nm w_k)) (.nm w_k))) (.bin .mul (.cst (.int 31)) (.nm w_k))) (.cst (.int 17))) (.cst (.int 48271))) .nil)) (.cst (.int 2147483647)))) (.seq (.ret (.lst (.cons (.bin .mul (.nm w_big) (.bi .int (.cons (.cmp .ge (.nm w_big) (.bin .pow (.cst (.int 10)) (.cst (.int 18)))) .nil))) (.cons (.nm w_mixed) .nil)))) .skip)))))
noncomputable def b_law_take:PS:=(.seq (.ite (.cmp .gt (.sub (.nm w_source) (.cst (.int 0))) (.cst (.int 0))) (.seq (.asg (.nm w_drawn) (.bin .mod (.bi .int (.cons (.sub (.nm w_source) (.cst (.int 0))) .nil)) (.nm w_top))) (.seq (.asg (.sub (.nm w_source) (.cst (.int 0))) (.bin .fdiv (.sub (.nm w_source) (.cst (.int 0))) (.nm w_top))) (.seq (.ret (.nm w_drawn)) .skip))) .skip) (.seq (.asg (.sub (.nm w_source) (.cst (.int 1))) (.bin .mod (.bi .int (.cons (.bin .add (.bin .mul (.sub (.nm w_source) (.cst (.int 1))) (.cst (.int 39373))) (.cst (.int 7))) .nil)) (.cst (.int 2147483647)))) (.seq (.ret (.bin .mod (.bi .int (.cons (.bin .fdiv (.bin .mod (.bi .int (.cons (.bin .mul (.sub (.nm w_source) (.cst (.int 1))) (.sub (.nm w_source) (.cst (.int 1)))) .nil)) (.cst (.int 2147483629))) (.cst (.int 32))) .nil)) (.nm w_top))) .skip)))
noncomputable def b_law_one:PS:=(.seq (.ret (.sub (.nm w_things) (.fn w__law_take (.cons (.nm w_source) (.cons (.bi .len (.cons (.nm w_things) .nil)) .nil))))) .skip)
noncomputable def b_law_code:PS:=(.seq (.ret (.fn w_Code (.cons (.nm w_key) (.cons (.cst (.int 2)) (.cons (.bin .mul (.lst (.cons (.gl w__law_T) .nil)) (.cst (.int 16))) (.cons (.lst (.cons (.lst (.cons (.nm w_lines) (.cons (.nm w_end) .nil))) .nil)) (.cons (.cst (.int 0)) (.cons (.cst (.int 1)) .nil)))))))) .skip)
noncomputable def b_law_helpers:PS:=(.seq (.asg (.tup (.cons (.nm w_none) (.cons (.nm w_codes) .nil))) (.tup (.cons (.tup (.cons (.cst (.str w_return)) (.cons (.tup (.cons (.gl w__law_NIL) .nil)) .nil))) (.cons (.dct .nil) .nil)))) (.seq (.asg (.sub (.nm w_codes) (.cst (.str w_main_load))) (.fn w__law_code (.cons (.cst (.str w_main_load)) (.cons (.lst (.cons (.tup (.cons (.cst (.str w_load)) (.cons (.cst (.int 2)) (.cons (.tup (.cons (.cst (.str w_reg)) (.cons (.cst (.int 0)) .nil))) .nil)))) .nil)) (.cons (.nm w_none) .nil))))) (.seq (.asg (.sub (.nm w_codes) (.cst (.str w_main_same))) (.fn w__law_code (.cons (.cst (.str w_main_same)) (.cons (.lst (.cons (.tup (.cons (.cst (.str w_move)) (.cons (.cst (.int 2)) (.cons (.tup (.cons (.cst (.str w_reg)) (.cons (.cst (.int 0)) .nil))) .nil)))) .nil)) (.cons (.tup (.cons (.cst (.str w_return)) (.cons (.tup (.cons (.tup (.cons (.cst (.str w_reg)) (.cons (.cst (.int 2)) .nil))) .nil)) .nil))) .nil))))) (.seq (.asg (.sub (.nm w_codes) (.cst (.str w_main_put))) (.fn w__law_code (.cons (.cst (.str w_main_put)) (.cons (.lst (.cons (.tup (.cons (.cst (.str w_store)) (.cons (.tup (.cons (.cst (.str w_reg)) (.cons (.cst (.int 0)) .nil))) (.cons (.tup (.cons (.cst (.str w_reg)) (.cons (.cst (.int 1)) .nil))) .nil)))) .nil)) (.cons (.nm w_none) .nil))))) (.seq (.ret (.nm w_codes)) .skip)))))
noncomputable def b_law_quiet:PS:=(.seq (.asg (.nm w_rows) (.dct (.cons (.cst (.str w_idle)) (.cons (.lst .nil) (.cons (.cst (.str w_load)) (.cons (.lst (.cons (.tup (.cons (.cst (.str w_load)) (.cons (.cst (.int 14)) (.cons (.nm w_one) .nil)))) .nil)) (.cons (.cst (.str w_clear)) (.cons (.lst (.cons (.tup (.cons (.cst (.str w_store)) (.cons (.nm w_one) (.cons (.gl w__law_NIL) .nil)))) .nil)) .nil)))))))) (.seq (.asg (.sub (.nm w_rows) (.cst (.str w_read))) (.lst (.cons (.tup (.cons (.cst (.str w_call)) (.cons (.tup (.cons (.cst (.int 15)) .nil)) (.cons (.tup (.cons (.cst (.str w_fn)) (.cons (.cst (.str w_main_load)) .nil))) (.cons (.tup (.cons (.nm w_one) (.cons (.gl w__law_NIL) .nil))) .nil))))) .nil))) (.seq (.asg (.sub (.nm w_rows) (.cst (.str w_same))) (.lst (.cons (.tup (.cons (.cst (.str w_call)) (.cons (.tup (.cons (.cst (.int 15)) .nil)) (.cons (.tup (.cons (.cst (.str w_fn)) (.cons (.cst (.str w_main_same)) .nil))) (.cons (.tup (.cons (.nm w_one) (.cons (.gl w__law_NIL) .nil))) .nil))))) .nil))) (.seq (.asg (.sub (.nm w_rows) (.cst (.str w_put))) (.lst (.cons (.tup (.cons (.cst (.str w_call)) (.cons (.tup (.cons (.cst (.int 15)) .nil)) (.cons (.tup (.cons (.cst (.str w_fn)) (.cons (.cst (.str w_main_put)) .nil))) (.cons (.tup (.cons (.nm w_one) (.cons (.nm w_other) .nil))) .nil))))) .nil))) (.seq (.ret (.sub (.nm w_rows) (.nm w_way))) .skip)))))
noncomputable def b_law_loud:PS:=(.seq (.asg (.nm w_rows) (.dct (.cons (.cst (.str w_sent)) (.cons (.tup (.cons (.cst (.str w_send)) (.cons (.gl w__law_CHANNEL) (.cons (.nm w_one) .nil)))) (.cons (.cst (.str w_face)) (.cons (.tup (.cons (.cst (.str w_face)) (.cons (.cst (.int 13)) (.cons (.nm w_one) (.cons (.gl w__law_T) .nil))))) .nil)))))) (.seq (.asg (.sub (.nm w_rows) (.cst (.str w_global))) (.tup (.cons (.cst (.str w_store)) (.cons (.gl w__law_GLOBAL) (.cons (.nm w_one) .nil))))) (.seq (.asg (.tup (.cons (.sub (.nm w_rows) (.cst (.str w_outer))) (.cons (.sub (.nm w_rows) (.cst (.str w_go))) .nil))) (.tup (.cons (.tup (.cons (.cst (.str w_store)) (.cons (.tup (.cons (.cst (.str w_reg)) (.cons (.cst (.int 0)) .nil))) (.cons (.nm w_one) .nil)))) (.cons (.tup (.cons (.cst (.str w_go)) (.cons (.tup (.cons (.cst (.str w_fn)) (.cons (.cst (.str w_main_load)) .nil))) (.cons (.tup (.cons (.nm w_one) (.cons (.gl w__law_NIL) .nil))) .nil)))) .nil)))) (.seq (.asg (.sub (.nm w_rows) (.cst (.str w_unknown))) (.tup (.cons (.cst (.str w_call)) (.cons (.tup (.cons (.cst (.int 15)) .nil)) (.cons (.tup (.cons (.cst (.str w_value)) (.cons (.tup (.cons (.cst (.str w_reg)) (.cons (.cst (.int 1)) .nil))) .nil))) (.cons (.tup (.cons (.nm w_one) .nil)) .nil)))))) (.seq (.asg (.sub (.nm w_rows) (.cst (.str w_deferred))) (.tup (.cons (.cst (.str w_defer)) (.cons (.tup (.cons (.cst (.str w_fn)) (.cons (.cst (.str w_other_none)) .nil))) (.cons (.tup (.cons (.nm w_one) .nil)) .nil))))) (.seq (.ret (.lst (.cons (.sub (.nm w_rows) (.nm w_way)) .nil))) .skip))))))
noncomputable def b_law_made:PS:=(.seq (.asg (.tup (.cons (.nm w_lines) (.cons (.nm w_out) (.cons (.nm w_pairs) (.cons (.nm w_puts) (.cons (.nm w_ends) .nil)))))) (.tup (.cons (.lst .nil) (.cons (.lst .nil) (.cons (.lst .nil) (.cons (.lst .nil) (.cons (.lst .nil) .nil))))))) (.seq (.asg (.nm w_quiet) (.lst (.cons (.cst (.str w_idle)) (.cons (.cst (.str w_load)) (.cons (.cst (.str w_clear)) (.cons (.cst (.str w_read)) (.cons (.cst (.str w_same)) (.cons (.cst (.str w_put)) .nil)))))))) (.seq (.asg (.nm w_loud) (.lst (.cons (.cst (.str w_sent)) (.cons (.cst (.str w_face)) (.cons (.cst (.str w_global)) (.cons (.cst (.str w_outer)) (.cons (.cst (.str w_go)) (.cons (.cst (.str w_unknown)) (.cons (.cst (.str w_deferred)) (.cons (.cst (.str w_end)) (.cons (.cst (.str w_end)) .nil))))))))))) (.seq (.forr (.nm w_at) .range (.cons (.nm w_many) .nil) (.seq (.exp (.meth (.nm w_lines) w_append (.cons (.tup (.cons (.cst (.str w_new)) (.cons (.bin .add (.cst (.int 2)) (.nm w_at)) (.cons (.gl w__law_T) (.cons (.tup (.cons (.cst (.str w_main_f)) (.cons (.nm w_at) .nil))) .nil))))) .nil))) .skip)) (.seq (.forr (.nm w_at) .range (.cons (.cst (.int 1)) (.cons (.nm w_many) .nil)) (.seq (.asg (.tup (.cons (.nm w_one) (.cons (.nm w_other) .nil))) (.tup (.cons (.tup (.cons (.cst (.str w_reg)) (.cons (.bin .add (.cst (.int 2)) (.nm w_at)) .nil))) (.cons (.fn w__law_take (.cons (.nm w_source) (.cons (.nm w_many) .nil))) .nil)))) (.seq (.asg (.nm w_way) (.fn w__law_one (.cons (.nm w_source) (.cons (.bin .add (.nm w_quiet) (.nm w_loud)) .nil)))) (.seq (.ite (.cmp .eq (.nm w_way) (.cst (.str w_end))) (.seq (.exp (.meth (.nm w_out) w_append (.cons (.nm w_at) .nil))) (.seq (.exp (.meth (.nm w_ends) w_append (.cons (.nm w_one) .nil))) .skip)) (.seq (.ite (.cmp .isin (.nm w_way) (.nm w_quiet)) (.seq (.exp (.meth (.nm w_lines) w_extend (.cons (.fn w__law_quiet (.cons (.nm w_way) (.cons (.nm w_one) (.cons (.tup (.cons (.cst (.str w_reg)) (.cons (.bin .add (.cst (.int 2)) (.nm w_other)) .nil))) .nil)))) .nil))) (.seq (.exp (.meth (.nm w_puts) w_extend (.cons (.bin .mul (.lst (.cons (.tup (.cons (.nm w_other) (.cons (.nm w_at) .nil))) .nil)) (.bi .int (.cons (.cmp .eq (.nm w_way) (.cst (.str w_put))) .nil))) .nil))) .skip)) (.seq (.exp (.meth (.nm w_lines) w_extend (.cons (.fn w__law_loud (.cons (.nm w_way) (.cons (.nm w_one) .nil))) .nil))) (.seq (.exp (.meth (.nm w_out) w_append (.cons (.nm w_at) .nil))) .skip))) .skip)) .skip)))) (.seq (.forr (.nm w_turn) .range (.cons (.fn w__law_take (.cons (.nm w_source) (.cons (.cst (.int 5)) .nil))) .nil) (.seq (.asg (.tup (.cons (.nm w_held) (.cons (.nm w_holder) .nil))) (.tup (.cons (.fn w__law_take (.cons (.nm w_source) (.cons (.nm w_many) .nil))) (.cons (.fn w__law_take (.cons (.nm w_source) (.cons (.nm w_many) .nil))) .nil)))) (.seq (.ite (.cmp .notin (.cst (.int 0)) (.lst (.cons (.nm w_held) (.cons (.nm w_holder) .nil)))) (.seq (.exp (.meth (.nm w_lines) w_append (.cons (.tup (.cons (.cst (.str w_store)) (.cons (.tup (.cons (.cst (.str w_reg)) (.cons (.bin .add (.cst (.int 2)) (.nm w_holder)) .nil))) (.cons (.tup (.cons (.cst (.str w_reg)) (.cons (.bin .add (.cst (.int 2)) (.nm w_held)) .nil))) .nil)))) .nil))) (.seq (.exp (.meth (.nm w_pairs) w_append (.cons (.tup (.cons (.nm w_held) (.cons (.nm w_holder) .nil))) .nil))) .skip)) .skip) .skip))) (.seq (.ret (.lst (.cons (.nm w_lines) (.cons (.nm w_out) (.cons (.nm w_pairs) (.cons (.nm w_puts) (.cons (.nm w_ends) .nil))))))) .skip)))))))
noncomputable def b_law_led_to:PS:=(.seq (.asg (.tup (.cons (.nm w_found) (.cons (.nm w_left) .nil))) (.tup (.cons (.lst (.cons (.nm w_begin) .nil)) (.cons (.lst (.cons (.nm w_begin) .nil)) .nil)))) (.seq (.whl (.cmp .ne (.nm w_left) (.lst .nil)) (.seq (.asg (.nm w_here) (.meth (.nm w_left) w_pop .nil)) (.seq (.forr (.tup (.cons (.nm w_held) (.cons (.nm w_holder) .nil))) .val (.nm w_pairs) (.seq (.ite (.band (.cmp .eq (.nm w_holder) (.nm w_here)) (.cmp .notin (.nm w_held) (.nm w_found))) (.seq (.exp (.meth (.nm w_found) w_append (.cons (.nm w_held) .nil))) (.seq (.exp (.meth (.nm w_left) w_append (.cons (.nm w_held) .nil))) .skip)) .skip) .skip)) .skip))) (.seq (.ret (.nm w_found)) .skip)))
noncomputable def b_law_closed:PS:=(.seq (.asg (.tup (.cons (.nm w_found) (.cons (.nm w_many) .nil))) (.tup (.cons (.lst .nil) (.cons (.neg (.cst (.int 1))) .nil)))) (.seq (.forr (.nm w_pair) .val (.nm w_pairs) (.seq (.ite (.cmp .notin (.nm w_pair) (.nm w_found)) (.seq (.exp (.meth (.nm w_found) w_append (.cons (.nm w_pair) .nil))) .skip) .skip) .skip)) (.seq (.whl (.cmp .ne (.nm w_many) (.bi .len (.cons (.nm w_found) .nil))) (.seq (.asg (.nm w_many) (.bi .len (.cons (.nm w_found) .nil))) (.seq (.forr (.tup (.cons (.nm w_held) (.cons (.nm w_holder) .nil))) .val (.nm w_puts) (.seq (.asg (.tup (.cons (.nm w_insides) (.cons (.nm w_outsides) .nil))) (.tup (.cons (.fn w__law_led_to (.cons (.nm w_found) (.cons (.nm w_held) .nil))) (.cons (.fn w__law_led_to (.cons (.nm w_found) (.cons (.nm w_holder) .nil))) .nil)))) (.seq (.forr (.nm w_one) .val (.nm w_insides) (.seq (.forr (.nm w_other) .val (.nm w_outsides) (.seq (.ite (.cmp .notin (.tup (.cons (.nm w_one) (.cons (.nm w_other) .nil))) (.nm w_found)) (.seq (.exp (.meth (.nm w_found) w_append (.cons (.tup (.cons (.nm w_one) (.cons (.nm w_other) .nil))) .nil))) .skip) .skip) .skip)) .skip)) .skip))) .skip))) (.seq (.ret (.nm w_found)) .skip))))
noncomputable def b_law_let_out:PS:=(.seq (.asg (.nm w_found) (.bi .list (.cons (.nm w_out) .nil))) (.seq (.forr (.nm w_turn) .range (.cons (.nm w_many) .nil) (.seq (.forr (.tup (.cons (.nm w_held) (.cons (.nm w_holder) .nil))) .val (.nm w_pairs) (.seq (.ite (.band (.cmp .isin (.nm w_holder) (.nm w_found)) (.cmp .notin (.nm w_held) (.nm w_found))) (.seq (.exp (.meth (.nm w_found) w_append (.cons (.nm w_held) .nil))) .skip) .skip) .skip)) .skip)) (.seq (.ret (.nm w_found)) .skip)))
noncomputable def b_law:PS:=(.seq (.asg (.nm w_source) (.fn w__law_pool (.cons (.nm w_script) (.cons (.cst (.int 0)) .nil)))) (.seq (.asg (.nm w_many) (.bin .add (.cst (.int 2)) (.fn w__law_take (.cons (.nm w_source) (.cons (.cst (.int 6)) .nil))))) (.seq (.asg (.tup (.cons (.nm w_lines) (.cons (.nm w_out) (.cons (.nm w_pairs) (.cons (.nm w_puts) (.cons (.nm w_ends) .nil)))))) (.fn w__law_made (.cons (.nm w_source) (.cons (.nm w_many) .nil)))) (.seq (.asg (.nm w_is_thrown) (.band (.cmp .eq (.fn w__law_take (.cons (.nm w_source) (.cons (.cst (.int 4)) .nil))) (.cst (.int 0))) (.cmp .eq (.bi .len (.cons (.nm w_ends) .nil)) (.cst (.int 1))))) (.seq (.asg (.nm w_end) (.ife (.nm w_is_thrown) (.tup (.cons (.cst (.str w_panic)) (.cons (.sub (.nm w_ends) (.cst (.int 0))) .nil))) (.tup (.cons (.cst (.str w_return)) (.cons (.bi .tuple (.cons (.nm w_ends) .nil)) .nil))))) (.seq (.asg (.nm w_codes) (.fn w__law_helpers .nil)) (.seq (.asg (.sub (.nm w_codes) (.cst (.str w_main_f))) (.fn w__law_code (.cons (.cst (.str w_main_f)) (.cons (.nm w_lines) (.cons (.nm w_end) .nil))))) (.seq (.asg (.tup (.cons (.nm w_told) (.cons (.nm w_let_out) .nil))) (.tup (.cons (.fn w_escapes (.cons (.nm w_codes) .nil)) (.cons (.fn w__law_let_out (.cons (.nm w_out) (.cons (.fn w__law_closed (.cons (.nm w_pairs) (.cons (.nm w_puts) .nil))) (.cons (.nm w_many) .nil)))) .nil)))) (.seq (.asg (.nm w_due) (.bi .dict (.cons (.comp (.tup (.cons (.tup (.cons (.cst (.str w_main_f)) (.cons (.nm w_at) .nil))) (.cons (.ife (.cmp .isin (.nm w_at) (.nm w_let_out)) (.cst (.str w_heap)) (.cst (.str w_frame))) .nil))) w_at .range (.cons (.nm w_many) .nil) (.cst (.bool true))) .nil))) (.seq (.asg (.nm w_idle) (.fn w_Code (.cons (.cst (.str w_main_i)) (.cons (.cst (.int 2)) (.cons (.bin .mul (.lst (.cons (.gl w__law_T) .nil)) (.cst (.int 3))) (.cons (.lst (.cons (.lst (.cons (.lst (.cons (.tup (.cons (.cst (.str w_new)) (.cons (.cst (.int 2)) (.cons (.gl w__law_T) (.cons (.tup (.cons (.cst (.str w_main_i)) (.cons (.cst (.int 1)) .nil))) .nil))))) .nil)) (.cons (.tup (.cons (.cst (.str w_return)) (.cons (.tup (.cons (.tup (.cons (.cst (.str w_reg)) (.cons (.cst (.int 0)) .nil))) .nil)) .nil))) .nil))) .nil)) (.cons (.cst (.int 0)) (.cons (.cst (.int 1)) .nil)))))))) (.seq (.ret (.band (.cmp .eq (.nm w_told) (.nm w_due)) (.cmp .eq (.fn w_escapes (.cons (.dct (.cons (.cst (.str w_main_i)) (.cons (.nm w_idle) .nil))) .nil)) (.dct (.cons (.tup (.cons (.cst (.str w_main_i)) (.cons (.cst (.int 1)) .nil))) (.cons (.cst (.str w_frame)) .nil)))))) .skip)))))))))))
noncomputable def b_Summary_init:PS:=(.seq (.asg (.attr (.nm w_self) w_leaks) (.dct .nil)) (.seq (.asg (.attr (.nm w_self) w_kept) (.dct .nil)) (.seq (.asg (.attr (.nm w_self) w_told) (.dct .nil)) .skip)))
noncomputable def b_Summary_told_by:PS:=(.seq (.ret (.meth (.attr (.nm w_self) w_told) w_setdefault (.cons (.nm w_at) (.cons (.dct .nil) .nil)))) .skip)
noncomputable def b_EscapeFlow_init:PS:=(.seq (.asg (.attr (.nm w_self) w_code) (.nm w_code)) (.seq (.asg (.attr (.nm w_self) w_summaries) (.nm w_summaries)) (.seq (.asg (.attr (.nm w_self) w_held) (.dct .nil)) (.seq (.asg (.attr (.nm w_self) w_inside) (.dct .nil)) (.seq (.asg (.attr (.nm w_self) w_sites) (.dct .nil)) (.seq (.asg (.attr (.nm w_self) w_gone) (.dct .nil)) (.seq (.asg (.attr (.nm w_self) w_summary) (.fn w_Summary .nil)) (.seq (.asg (.attr (.nm w_self) w_is_new) (.cst (.bool false))) (.seq (.forr (.nm w_register) .range (.cons (.bin .add (.attr (.nm w_code) w_captured) (.attr (.nm w_code) w_params)) .nil) (.seq (.asg (.sub (.attr (.nm w_self) w_held) (.nm w_register)) (.dct (.cons (.tup (.cons (.cst (.str w_outer)) (.cons (.nm w_register) .nil))) (.cons (.cst (.bool true)) .nil)))) .skip)) .skip)))))))))
noncomputable def b_EscapeFlow_tokens_of:PS:=(.seq (.ite (.cmp .is (.nm w_operand) (.cst .none)) (.seq (.ret (.lst .nil)) .skip) .skip) (.seq (.ite (.cmp .eq (.sub (.nm w_operand) (.cst (.int 0))) (.cst (.str w_reg))) (.seq (.ret (.bi .list (.cons (.meth (.attr (.nm w_self) w_held) w_get (.cons (.sub (.nm w_operand) (.cst (.int 1))) (.cons (.dct .nil) .nil))) .nil))) .skip) .skip) (.seq (.ret (.ife (.cmp .ne (.fn w_objects_within (.cons (.sub (.nm w_operand) (.cst (.int 2))) .nil)) (.lst .nil)) (.lst (.cons (.gl w_BEYOND) .nil)) (.lst .nil))) .skip)))
noncomputable def b_EscapeFlow_tokens_of_all:PS:=(.seq (.asg (.nm w_found) (.lst .nil)) (.seq (.forr (.nm w_operand) .val (.nm w_operands) (.seq (.exp (.meth (.nm w_found) w_extend (.cons (.meth (.nm w_self) w_tokens_of (.cons (.nm w_operand) .nil)) .nil))) .skip)) (.seq (.ret (.nm w_found)) .skip)))
noncomputable def b_EscapeFlow_reached:PS:=(.seq (.asg (.tup (.cons (.nm w_found) (.cons (.nm w_waiting) .nil))) (.tup (.cons (.dct .nil) (.cons (.bi .list (.cons (.nm w_tokens) .nil)) .nil)))) (.seq (.whl (.cmp .ne (.nm w_waiting) (.lst .nil)) (.seq (.asg (.nm w_token) (.meth (.nm w_waiting) w_pop .nil)) (.seq (.ite (.cmp .notin (.nm w_token) (.nm w_found)) (.seq (.asg (.sub (.nm w_found) (.nm w_token)) (.cst (.bool true))) (.seq (.exp (.meth (.nm w_waiting) w_extend (.cons (.meth (.nm w_self) w_loaded (.cons (.lst (.cons (.nm w_token) .nil)) .nil)) .nil))) .skip)) .skip) .skip))) (.seq (.ret (.bi .list (.cons (.nm w_found) .nil))) .skip)))
noncomputable def b_EscapeFlow_loaded:PS:=(.seq (.asg (.nm w_found) (.dct .nil)) (.seq (.forr (.nm w_token) .val (.nm w_tokens) (.seq (.ite (.cmp .ne (.sub (.nm w_token) (.cst (.int 0))) (.cst (.str w_site))) (.seq (.asg (.sub (.nm w_found) (.nm w_token)) (.cst (.bool true))) (.seq (.forr (.tup (.cons (.nm w_inner) (.cons (.nm w_outer) .nil))) .val (.attr (.attr (.nm w_self) w_summary) w_kept) (.seq (.ite (.cmp .eq (.nm w_token) (.tup (.cons (.cst (.str w_outer)) (.cons (.nm w_outer) .nil)))) (.seq (.asg (.sub (.nm w_found) (.ife (.cmp .eq (.nm w_inner) (.gl w_UNKNOWN)) (.gl w_BEYOND) (.tup (.cons (.cst (.str w_outer)) (.cons (.nm w_inner) .nil))))) (.cst (.bool true))) .skip) .skip) .skip)) (.seq .cont .skip))) .skip) (.seq (.forr (.nm w_inner) .val (.meth (.attr (.nm w_self) w_inside) w_get (.cons (.sub (.nm w_token) (.cst (.int 1))) (.cons (.dct .nil) .nil))) (.seq (.asg (.sub (.nm w_found) (.nm w_inner)) (.cst (.bool true))) .skip)) (.seq (.ite (.cmp .isin (.sub (.nm w_token) (.cst (.int 1))) (.attr (.nm w_self) w_gone)) (.seq (.asg (.sub (.nm w_found) (.gl w_BEYOND)) (.cst (.bool true))) .skip) .skip) .skip)))) (.seq (.ret (.bi .list (.cons (.nm w_found) .nil))) .skip)))
noncomputable def b_EscapeFlow_note:PS:=(.seq (.ite (.cmp .notin (.nm w_key) (.nm w_table)) (.seq (.asg (.sub (.nm w_table) (.nm w_key)) (.cst (.bool true))) (.seq (.asg (.attr (.nm w_self) w_is_new) (.cst (.bool true))) .skip)) .skip) .skip)
noncomputable def b_EscapeFlow_give:PS:=(.seq (.ite (.cmp .isnot (.nm w_register) (.cst .none)) (.seq (.asg (.nm w_held) (.meth (.attr (.nm w_self) w_held) w_setdefault (.cons (.nm w_register) (.cons (.dct .nil) .nil)))) (.seq (.forr (.nm w_token) .val (.nm w_tokens) (.seq (.exp (.meth (.nm w_self) w_note (.cons (.nm w_held) (.cons (.nm w_token) .nil)))) .skip)) .skip)) .skip) .skip)
noncomputable def b_EscapeFlow_make:PS:=(.seq (.exp (.meth (.nm w_self) w_note (.cons (.attr (.nm w_self) w_sites) (.cons (.nm w_site) .nil)))) (.seq (.exp (.meth (.nm w_self) w_give (.cons (.nm w_register) (.cons (.lst (.cons (.tup (.cons (.cst (.str w_site)) (.cons (.nm w_site) .nil))) .nil)) .nil)))) .skip))
noncomputable def b_EscapeFlow_leak:PS:=(.seq (.forr (.nm w_token) .val (.meth (.nm w_self) w_reached (.cons (.nm w_tokens) .nil)) (.seq (.ite (.cmp .eq (.sub (.nm w_token) (.cst (.int 0))) (.cst (.str w_site))) (.seq (.exp (.meth (.nm w_self) w_note (.cons (.attr (.nm w_self) w_gone) (.cons (.sub (.nm w_token) (.cst (.int 1))) .nil)))) .skip) (.seq (.ite (.cmp .eq (.sub (.nm w_token) (.cst (.int 0))) (.cst (.str w_outer))) (.seq (.exp (.meth (.nm w_self) w_note (.cons (.attr (.attr (.nm w_self) w_summary) w_leaks) (.cons (.sub (.nm w_token) (.cst (.int 1))) .nil)))) .skip) .skip) .skip)) .skip)) .skip)
noncomputable def b_EscapeFlow_put:PS:=(.seq (.forr (.nm w_target) .val (.nm w_targets) (.seq (.ite (.cmp .eq (.nm w_target) (.gl w_BEYOND)) (.seq (.exp (.meth (.nm w_self) w_leak (.cons (.nm w_tokens) .nil))) .skip) (.seq (.ite (.cmp .eq (.sub (.nm w_target) (.cst (.int 0))) (.cst (.str w_outer))) (.seq (.exp (.meth (.nm w_self) w_put_out (.cons (.sub (.nm w_target) (.cst (.int 1))) (.cons (.nm w_tokens) .nil)))) .skip) (.seq (.asg (.nm w_held) (.meth (.attr (.nm w_self) w_inside) w_setdefault (.cons (.sub (.nm w_target) (.cst (.int 1))) (.cons (.dct .nil) .nil)))) (.seq (.forr (.nm w_token) .val (.nm w_tokens) (.seq (.exp (.meth (.nm w_self) w_note (.cons (.nm w_held) (.cons (.nm w_token) .nil)))) .skip)) (.seq (.ite (.cmp .isin (.sub (.nm w_target) (.cst (.int 1))) (.attr (.nm w_self) w_gone)) (.seq (.exp (.meth (.nm w_self) w_leak (.cons (.nm w_tokens) .nil))) .skip) .skip) .skip)))) .skip)) .skip)) .skip)
noncomputable def b_EscapeFlow_put_out:PS:=(.seq (.forr (.nm w_token) .val (.meth (.nm w_self) w_reached (.cons (.nm w_tokens) .nil)) (.seq (.ite (.cmp .eq (.sub (.nm w_token) (.cst (.int 0))) (.cst (.str w_site))) (.seq (.exp (.meth (.nm w_self) w_leak (.cons (.lst (.cons (.nm w_token) .nil)) .nil))) .skip) .skip) (.seq (.exp (.meth (.nm w_self) w_note (.cons (.attr (.attr (.nm w_self) w_summary) w_kept) (.cons (.tup (.cons (.ife (.cmp .eq (.sub (.nm w_token) (.cst (.int 0))) (.cst (.str w_outer))) (.sub (.nm w_token) (.cst (.int 1))) (.gl w_UNKNOWN)) (.cons (.nm w_outer) .nil))) .nil)))) .skip))) .skip)
noncomputable def b_EscapeFlow_go_through:PS:=(.seq (.asg (.attr (.nm w_self) w_is_new) (.cst (.bool true))) (.seq (.whl (.attr (.nm w_self) w_is_new) (.seq (.asg (.attr (.nm w_self) w_is_new) (.cst (.bool false))) (.seq (.forr (.tup (.cons (.nm w_instructions) (.cons (.nm w_terminator) .nil))) .val (.attr (.attr (.nm w_self) w_code) w_blocks) (.seq (.forr (.nm w_instruction) .val (.nm w_instructions) (.seq (.exp (.meth (.nm w_self) w_look (.cons (.nm w_instruction) .nil))) .skip)) (.seq (.exp (.meth (.nm w_self) w_leave (.cons (.nm w_terminator) .nil))) .skip))) .skip))) .skip))
noncomputable def b_EscapeFlow_leave:PS:=(.seq (.ite (.cmp .eq (.sub (.nm w_terminator) (.cst (.int 0))) (.cst (.str w_panic))) (.seq (.exp (.meth (.nm w_self) w_leak (.cons (.meth (.nm w_self) w_tokens_of (.cons (.sub (.nm w_terminator) (.cst (.int 1))) .nil)) .nil))) .skip) (.seq (.ite (.cmp .eq (.sub (.nm w_terminator) (.cst (.int 0))) (.cst (.str w_return))) (.seq (.forr (.tup (.cons (.nm w_at) (.cons (.nm w_operand) .nil))) .enum (.cons (.sub (.nm w_terminator) (.cst (.int 1))) .nil) (.seq (.asg (.tup (.cons (.nm w_told) (.cons (.nm w_tokens) .nil))) (.tup (.cons (.meth (.attr (.nm w_self) w_summary) w_told_by (.cons (.nm w_at) .nil)) (.cons (.meth (.nm w_self) w_tokens_of (.cons (.nm w_operand) .nil)) .nil)))) (.seq (.forr (.nm w_token) .val (.nm w_tokens) (.seq (.exp (.meth (.nm w_self) w_note (.cons (.nm w_told) (.cons (.ife (.cmp .eq (.sub (.nm w_token) (.cst (.int 0))) (.cst (.str w_outer))) (.sub (.nm w_token) (.cst (.int 1))) (.gl w_UNKNOWN)) .nil)))) .skip)) (.seq (.exp (.meth (.nm w_self) w_leak (.cons (.comp (.nm w_token) w_token .val (.nm w_tokens) (.cmp .eq (.sub (.nm w_token) (.cst (.int 0))) (.cst (.str w_site)))) .nil))) .skip)))) .skip) .skip) .skip)) .skip)
noncomputable def b_EscapeFlow_look:PS:=(.seq (.asg (.nm w_op) (.sub (.nm w_instruction) (.cst (.int 0)))) (.seq (.ite (.cmp .isin (.nm w_op) (.tup (.cons (.cst (.str w_new)) (.cons (.cst (.str w_makeslice)) (.cons (.cst (.str w_makemap)) (.cons (.cst (.str w_makechan)) (.cons (.cst (.str w_closure)) (.cons (.cst (.str w_bound)) (.cons (.cst (.str w_append)) .nil))))))))) (.seq (.exp (.meth (.nm w_self) w_look_at_making (.cons (.nm w_op) (.cons (.nm w_instruction) .nil)))) .skip) (.seq (.ite (.cmp .isin (.nm w_op) (.tup (.cons (.cst (.str w_call)) (.cons (.cst (.str w_go)) (.cons (.cst (.str w_defer)) .nil))))) (.seq (.exp (.meth (.nm w_self) w_look_at_call (.cons (.nm w_op) (.cons (.nm w_instruction) .nil)))) .skip) (.seq (.ite (.cmp .isin (.nm w_op) (.tup (.cons (.cst (.str w_store)) (.cons (.cst (.str w_mapset)) (.cons (.cst (.str w_send)) (.cons (.cst (.str w_select)) (.cons (.cst (.str w_face)) (.cons (.cst (.str w_copy)) .nil)))))))) (.seq (.exp (.meth (.nm w_self) w_look_at_putting (.cons (.nm w_op) (.cons (.nm w_instruction) .nil)))) .skip) (.seq (.ite (.cmp .isin (.nm w_op) (.tup (.cons (.cst (.str w_move)) (.cons (.cst (.str w_convert)) (.cons (.cst (.str w_fieldptr)) (.cons (.cst (.str w_elemptr)) (.cons (.cst (.str w_part)) (.cons (.cst (.str w_elem)) (.cons (.cst (.str w_cut)) (.cons (.cst (.str w_iter)) .nil)))))))))) (.seq (.exp (.meth (.nm w_self) w_give (.cons (.sub (.nm w_instruction) (.cst (.int 1))) (.cons (.meth (.nm w_self) w_tokens_of (.cons (.sub (.nm w_instruction) (.cst (.int 2))) .nil)) .nil)))) (.seq (.ite (.cmp .eq (.nm w_op) (.cst (.str w_convert))) (.seq (.exp (.meth (.nm w_self) w_give (.cons (.sub (.nm w_instruction) (.cst (.int 1))) (.cons (.lst (.cons (.gl w_BEYOND) .nil)) .nil)))) .skip) .skip) .skip)) (.seq (.ite (.cmp .isin (.nm w_op) (.tup (.cons (.cst (.str w_struct)) (.cons (.cst (.str w_array)) .nil)))) (.seq (.exp (.meth (.nm w_self) w_give (.cons (.sub (.nm w_instruction) (.cst (.int 1))) (.cons (.meth (.nm w_self) w_tokens_of_all (.cons (.sub (.nm w_instruction) (.cst (.int 2))) .nil)) .nil)))) .skip) (.seq (.exp (.meth (.nm w_self) w_look_at_reading (.cons (.nm w_op) (.cons (.nm w_instruction) .nil)))) .skip)) .skip)) .skip)) .skip)) .skip)) .skip))
noncomputable def b_EscapeFlow_look_at_reading:PS:=(.seq (.ite (.cmp .eq (.nm w_op) (.cst (.str w_load))) (.seq (.exp (.meth (.nm w_self) w_give (.cons (.sub (.nm w_instruction) (.cst (.int 1))) (.cons (.meth (.nm w_self) w_loaded (.cons (.meth (.nm w_self) w_tokens_of (.cons (.sub (.nm w_instruction) (.cst (.int 2))) .nil)) .nil)) .nil)))) .skip) (.seq (.ite (.cmp .eq (.nm w_op) (.cst (.str w_mapget))) (.seq (.exp (.meth (.nm w_self) w_give (.cons (.sub (.nm w_instruction) (.cst (.int 1))) (.cons (.meth (.nm w_self) w_loaded (.cons (.meth (.nm w_self) w_tokens_of (.cons (.sub (.nm w_instruction) (.cst (.int 3))) .nil)) .nil)) .nil)))) .skip) (.seq (.ite (.cmp .eq (.nm w_op) (.cst (.str w_next))) (.seq (.asg (.nm w_found) (.meth (.nm w_self) w_loaded (.cons (.meth (.nm w_self) w_tokens_of (.cons (.sub (.nm w_instruction) (.cst (.int 4))) .nil)) .nil))) (.seq (.exp (.meth (.nm w_self) w_give (.cons (.sub (.nm w_instruction) (.cst (.int 2))) (.cons (.nm w_found) .nil)))) (.seq (.exp (.meth (.nm w_self) w_give (.cons (.sub (.nm w_instruction) (.cst (.int 3))) (.cons (.nm w_found) .nil)))) .skip))) (.seq (.ite (.cmp .eq (.nm w_op) (.cst (.str w_assert))) (.seq (.exp (.meth (.nm w_self) w_give (.cons (.sub (.nm w_instruction) (.cst (.int 1))) (.cons (.meth (.nm w_self) w_tokens_of (.cons (.sub (.nm w_instruction) (.cst (.int 3))) .nil)) .nil)))) .skip) (.seq (.ite (.bor (.cmp .eq (.nm w_op) (.cst (.str w_recv))) (.cmp .eq (.nm w_op) (.cst (.str w_recover)))) (.seq (.exp (.meth (.nm w_self) w_give (.cons (.sub (.nm w_instruction) (.cst (.int 1))) (.cons (.lst (.cons (.gl w_BEYOND) .nil)) .nil)))) .skip) .skip) .skip)) .skip)) .skip)) .skip)) .skip)
noncomputable def b_EscapeFlow_look_at_making:PS:=(.seq (.asg (.nm w_site) (.sub (.nm w_instruction) (.neg (.cst (.int 1))))) (.seq (.exp (.meth (.nm w_self) w_make (.cons (.sub (.nm w_instruction) (.cst (.int 1))) (.cons (.nm w_site) .nil)))) (.seq (.ite (.cmp .eq (.nm w_op) (.cst (.str w_append))) (.seq (.asg (.tup (.cons (.nm w_rows) (.cons (.nm w_more) .nil))) (.tup (.cons (.meth (.nm w_self) w_tokens_of (.cons (.sub (.nm w_instruction) (.cst (.int 2))) .nil)) (.cons (.meth (.nm w_self) w_loaded (.cons (.meth (.nm w_self) w_tokens_of (.cons (.sub (.nm w_instruction) (.cst (.int 3))) .nil)) .nil)) .nil)))) (.seq (.exp (.meth (.nm w_self) w_give (.cons (.sub (.nm w_instruction) (.cst (.int 1))) (.cons (.nm w_rows) .nil)))) (.seq (.exp (.meth (.nm w_self) w_put (.cons (.bin .add (.nm w_rows) (.lst (.cons (.tup (.cons (.cst (.str w_site)) (.cons (.nm w_site) .nil))) .nil))) (.cons (.nm w_more) .nil)))) (.seq (.exp (.meth (.nm w_self) w_put (.cons (.lst (.cons (.tup (.cons (.cst (.str w_site)) (.cons (.nm w_site) .nil))) .nil)) (.cons (.meth (.nm w_self) w_loaded (.cons (.nm w_rows) .nil)) .nil)))) .skip)))) (.seq (.ite (.cmp .eq (.nm w_op) (.cst (.str w_closure))) (.seq (.exp (.meth (.nm w_self) w_close_over (.cons (.sub (.nm w_instruction) (.cst (.int 2))) (.cons (.sub (.nm w_instruction) (.cst (.int 3))) (.cons (.nm w_site) .nil))))) .skip) (.seq (.ite (.cmp .eq (.nm w_op) (.cst (.str w_bound))) (.seq (.exp (.meth (.nm w_self) w_put (.cons (.lst (.cons (.tup (.cons (.cst (.str w_site)) (.cons (.nm w_site) .nil))) .nil)) (.cons (.meth (.nm w_self) w_tokens_of (.cons (.sub (.nm w_instruction) (.cst (.int 2))) .nil)) .nil)))) (.seq (.exp (.meth (.nm w_self) w_leak (.cons (.meth (.nm w_self) w_tokens_of (.cons (.sub (.nm w_instruction) (.cst (.int 2))) .nil)) .nil))) .skip)) .skip) .skip)) .skip)) .skip)))
noncomputable def b_EscapeFlow_look_at_putting:PS:=(.seq (.ite (.cmp .eq (.nm w_op) (.cst (.str w_store))) (.seq (.exp (.meth (.nm w_self) w_put (.cons (.meth (.nm w_self) w_tokens_of (.cons (.sub (.nm w_instruction) (.cst (.int 1))) .nil)) (.cons (.meth (.nm w_self) w_tokens_of (.cons (.sub (.nm w_instruction) (.cst (.int 2))) .nil)) .nil)))) .skip) (.seq (.ite (.cmp .eq (.nm w_op) (.cst (.str w_mapset))) (.seq (.exp (.gl w__)) .skip) (.seq (.ite (.cmp .eq (.nm w_op) (.cst (.str w_copy))) (.seq (.exp (.meth (.nm w_self) w_put (.cons (.meth (.nm w_self) w_tokens_of (.cons (.sub (.nm w_instruction) (.cst (.int 2))) .nil)) (.cons (.meth (.nm w_self) w_loaded (.cons (.meth (.nm w_self) w_tokens_of (.cons (.sub (.nm w_instruction) (.cst (.int 3))) .nil)) .nil)) .nil)))) .skip) (.seq (.ite (.cmp .eq (.nm w_op) (.cst (.str w_send))) (.seq (.exp (.meth (.nm w_self) w_leak (.cons (.meth (.nm w_self) w_tokens_of (.cons (.sub (.nm w_instruction) (.cst (.int 2))) .nil)) .nil))) .skip) (.seq (.ite (.cmp .eq (.nm w_op) (.cst (.str w_select))) (.seq (.forr (.nm w_case) .val (.sub (.nm w_instruction) (.cst (.int 4))) (.seq (.ite (.cmp .eq (.sub (.nm w_case) (.cst (.int 0))) (.cst (.str w_send))) (.seq (.exp (.meth (.nm w_self) w_leak (.cons (.meth (.nm w_self) w_tokens_of (.cons (.sub (.nm w_case) (.cst (.int 2))) .nil)) .nil))) .skip) .skip) .skip)) (.seq (.exp (.meth (.nm w_self) w_give (.cons (.sub (.nm w_instruction) (.cst (.int 2))) (.cons (.lst (.cons (.gl w_BEYOND) .nil)) .nil)))) .skip)) (.seq (.exp (.meth (.nm w_self) w_leak (.cons (.meth (.nm w_self) w_tokens_of (.cons (.sub (.nm w_instruction) (.cst (.int 2))) .nil)) .nil))) (.seq (.exp (.meth (.nm w_self) w_give (.cons (.sub (.nm w_instruction) (.cst (.int 1))) (.cons (.meth (.nm w_self) w_tokens_of (.cons (.sub (.nm w_instruction) (.cst (.int 2))) .nil)) .nil)))) .skip))) .skip)) .skip)) .skip)) .skip)) .skip)
noncomputable def b_EscapeFlow_look_at_call:PS:=(.seq (.asg (.tup (.cons (.nm w_called) (.cons (.nm w_operands) .nil))) (.ife (.cmp .eq (.nm w_op) (.cst (.str w_call))) (.tup (.cons (.sub (.nm w_instruction) (.cst (.int 2))) (.cons (.sub (.nm w_instruction) (.cst (.int 3))) .nil))) (.tup (.cons (.sub (.nm w_instruction) (.cst (.int 1))) (.cons (.sub (.nm w_instruction) (.cst (.int 2))) .nil))))) (.seq (.asg (.nm w_registers) (.ife (.cmp .eq (.nm w_op) (.cst (.str w_call))) (.bi .list (.cons (.sub (.nm w_instruction) (.cst (.int 1))) .nil)) (.lst .nil))) (.seq (.asg (.nm w_summary) (.ife (.band (.cmp .eq (.sub (.nm w_called) (.cst (.int 0))) (.cst (.str w_fn))) (.cmp .ne (.nm w_op) (.cst (.str w_go)))) (.meth (.attr (.nm w_self) w_summaries) w_get (.cons (.sub (.nm w_called) (.cst (.int 1))) .nil)) (.cst .none))) (.seq (.ite (.cmp .isnot (.nm w_summary) (.cst .none)) (.seq (.exp (.meth (.nm w_self) w_follow (.cons (.nm w_summary) (.cons (.nm w_operands) (.cons (.nm w_registers) .nil))))) (.seq (.ret (.cst .none)) .skip)) .skip) (.seq (.exp (.meth (.nm w_self) w_leak (.cons (.meth (.nm w_self) w_tokens_of_all (.cons (.nm w_operands) .nil)) .nil))) (.seq (.ite (.bor (.band (.cmp .eq (.nm w_op) (.cst (.str w_go))) (.cmp .ne (.sub (.nm w_called) (.cst (.int 0))) (.cst (.str w_fn)))) (.cmp .eq (.sub (.nm w_called) (.cst (.int 0))) (.cst (.str w_face)))) (.seq (.exp (.meth (.nm w_self) w_leak (.cons (.meth (.nm w_self) w_tokens_of (.cons (.sub (.nm w_called) (.cst (.int 1))) .nil)) .nil))) .skip) .skip) (.seq (.forr (.nm w_register) .val (.nm w_registers) (.seq (.exp (.meth (.nm w_self) w_give (.cons (.nm w_register) (.cons (.lst (.cons (.gl w_BEYOND) .nil)) .nil)))) .skip)) .skip)))))))
noncomputable def b_EscapeFlow_follow:PS:=(.seq (.asg (.nm w_handed) (.comp (.meth (.nm w_self) w_reached (.cons (.meth (.nm w_self) w_tokens_of (.cons (.nm w_operand) .nil)) .nil)) w_operand .val (.nm w_operands) (.cst (.bool true)))) (.seq (.forr (.nm w_outer) .val (.bi .sorted (.cons (.attr (.nm w_summary) w_leaks) .nil)) (.seq (.ite (.cmp .lt (.nm w_outer) (.bi .len (.cons (.nm w_handed) .nil))) (.seq (.exp (.meth (.nm w_self) w_leak (.cons (.sub (.nm w_handed) (.nm w_outer)) .nil))) .skip) .skip) .skip)) (.seq (.forr (.tup (.cons (.nm w_inner) (.cons (.nm w_outer) .nil))) .val (.bi .sorted (.cons (.attr (.nm w_summary) w_kept) .nil)) (.seq (.ite (.cmp .lt (.nm w_outer) (.bi .len (.cons (.nm w_handed) .nil))) (.seq (.exp (.meth (.nm w_self) w_put (.cons (.sub (.nm w_handed) (.nm w_outer)) (.cons (.ife (.cmp2 .le .lt (.cst (.int 0)) (.nm w_inner) (.bi .len (.cons (.nm w_handed) .nil))) (.sub (.nm w_handed) (.nm w_inner)) (.lst (.cons (.gl w_BEYOND) .nil))) .nil)))) .skip) .skip) .skip)) (.seq (.forr (.tup (.cons (.nm w_at) (.cons (.nm w_register) .nil))) .enum (.cons (.nm w_registers) .nil) (.seq (.forr (.nm w_told) .val (.meth (.attr (.nm w_summary) w_told) w_get (.cons (.nm w_at) (.cons (.dct .nil) .nil))) (.seq (.exp (.meth (.nm w_self) w_give (.cons (.nm w_register) (.cons (.ife (.cmp .eq (.nm w_told) (.gl w_UNKNOWN)) (.lst (.cons (.gl w_BEYOND) .nil)) (.sub (.nm w_handed) (.nm w_told))) .nil)))) .skip)) .skip)) .skip))))
noncomputable def b_Code_init:PS:=(.seq (.asg (.attr (.nm w_self) w_key) (.nm w_key)) (.seq (.asg (.attr (.nm w_self) w_params) (.nm w_params)) (.seq (.asg (.attr (.nm w_self) w_registers) (.bi .list (.cons (.nm w_registers) .nil))) (.seq (.asg (.attr (.nm w_self) w_blocks) (.nm w_blocks)) (.seq (.asg (.attr (.nm w_self) w_captured) (.nm w_captured)) (.seq (.asg (.attr (.nm w_self) w_results) (.nm w_results)) (.seq (.asg (.attr (.nm w_self) w_recovery) (.nm w_recovery)) .skip)))))))
noncomputable def fnsL:List (Nat×Nat×Fn):=[
 (0,w_objects_within,.df [w_value] [] b_objects_within),
 (0,w_size_of_summary,.df [w_summary] [] b_size_of_summary),
 (0,w_escapes,.df [w_codes] [] b_escapes),
 (0,w__law_pool,.df [w_script,w_k] [] b_law_pool),
 (0,w__law_take,.df [w_source,w_top] [] b_law_take),
 (0,w__law_one,.df [w_source,w_things] [] b_law_one),
 (0,w__law_code,.df [w_key,w_lines,w_end] [] b_law_code),
 (0,w__law_helpers,.df [] [] b_law_helpers),
 (0,w__law_quiet,.df [w_way,w_one,w_other] [] b_law_quiet),
 (0,w__law_loud,.df [w_way,w_one] [] b_law_loud),
 (0,w__law_made,.df [w_source,w_many] [] b_law_made),
 (0,w__law_led_to,.df [w_pairs,w_begin] [] b_law_led_to),
 (0,w__law_closed,.df [w_pairs,w_puts] [] b_law_closed),
 (0,w__law_let_out,.df [w_out,w_pairs,w_many] [] b_law_let_out),
 (0,w_law,.df [w_script] [] b_law),
 (0,w_Summary,.cls w_Summary),
 (w_Summary,w___init__,.df [w_self] [] b_Summary_init),
 (w_Summary,w_told_by,.df [w_self,w_at] [] b_Summary_told_by),
 (0,w_EscapeFlow,.cls w_EscapeFlow),
 (w_EscapeFlow,w___init__,.df [w_self,w_code,w_summaries] [] b_EscapeFlow_init),
 (w_EscapeFlow,w_tokens_of,.df [w_self,w_operand] [] b_EscapeFlow_tokens_of),
 (w_EscapeFlow,w_tokens_of_all,.df [w_self,w_operands] [] b_EscapeFlow_tokens_of_all),
 (w_EscapeFlow,w_reached,.df [w_self,w_tokens] [] b_EscapeFlow_reached),
 (w_EscapeFlow,w_loaded,.df [w_self,w_tokens] [] b_EscapeFlow_loaded),
 (w_EscapeFlow,w_note,.df [w_self,w_table,w_key] [] b_EscapeFlow_note),
 (w_EscapeFlow,w_give,.df [w_self,w_register,w_tokens] [] b_EscapeFlow_give),
 (w_EscapeFlow,w_make,.df [w_self,w_register,w_site] [] b_EscapeFlow_make),
 (w_EscapeFlow,w_leak,.df [w_self,w_tokens] [] b_EscapeFlow_leak),
 (w_EscapeFlow,w_put,.df [w_self,w_targets,w_tokens] [] b_EscapeFlow_put),
 (w_EscapeFlow,w_put_out,.df [w_self,w_outer,w_tokens] [] b_EscapeFlow_put_out),
 (w_EscapeFlow,w_go_through,.df [w_self] [] b_EscapeFlow_go_through),
 (w_EscapeFlow,w_leave,.df [w_self,w_terminator] [] b_EscapeFlow_leave),
 (w_EscapeFlow,w_look,.df [w_self,w_instruction] [] b_EscapeFlow_look),
 (w_EscapeFlow,w_look_at_reading,.df [w_self,w_op,w_instruction] [] b_EscapeFlow_look_at_reading),
 (w_EscapeFlow,w_look_at_making,.df [w_self,w_op,w_instruction] [] b_EscapeFlow_look_at_making),
 (w_EscapeFlow,w_look_at_putting,.df [w_self,w_op,w_instruction] [] b_EscapeFlow_look_at_putting),
 (w_EscapeFlow,w_look_at_call,.df [w_self,w_op,w_instruction] [] b_EscapeFlow_look_at_call),
 (w_EscapeFlow,w_follow,.df [w_self,w_summary,w_operands,w_registers] [] b_EscapeFlow_follow),
 (0,w_Code,.cls w_Code),
 (w_Code,w___init__,.df [w_self,w_key,w_params,w_registers,w_blocks,w_captured,w_results,w_recovery] [(.int 0),(.int 0),.none] b_Code_init)]
noncomputable def fns (c f:Nat):Option Fn:=(fnsL.find? fun p=>Nat.beq p.1 c && Nat.beq p.2.1 f).map (·.2.2)
noncomputable def mnames:MN:=⟨w_append,w_extend,w_pop,w_get,w_setdefault,w___init__⟩
noncomputable def sorts4:List AV:=[.str w_main_f,.str w_main_load,.str w_main_put,.str w_main_same]
noncomputable def sorts (n:Nat):Option (List AV):=bif Nat.beq n 0 then some sorts4 else .none
noncomputable def mprog:Prog:=⟨mnames,glob,sorts,fns⟩
end
end Mine
namespace Mine
section
set_option maxRecDepth 100000
open PySem PySem.W PyProof.Rows PySem.Calls
noncomputable def T (n:Nat):Str:=match T0[n]? with
 | some s=>Str.ofString s
 | none=>⟨#[n + 2000000]⟩
noncomputable def numS (s:Str):Nat:=s.cps.foldl (fun a c=>a * 128 + c) 1
noncomputable def nodupN (l:List Nat):Bool:=List.rec true (fun a r ih=>r.all (fun b=>!Nat.beq a b) && ih) l
theorem nodupN_T0:nodupN ((T0.map Str.ofString).map numS)=true:=by decide +kernel
theorem nodup_of {l:List Nat} (h:nodupN l=true):l.Nodup:=by
 induction l with
 | nil=>exact .nil
 | cons a r ih =>
  have h:=(Bool.and_eq_true _ _).mp h
  refine .cons (fun b hb e=>?_) (ih h.2)
  have:=List.all_eq_true.mp h.1 b hb
  subst e
  rw [Nat.beq_refl] at this
  cases this
theorem T0_nodup:(T0.map Str.ofString).Nodup:=List.Pairwise.of_map numS (fun _ _ h e=>h (congrArg numS e)) (nodup_of nodupN_T0)
theorem T0_low:((T0.map Str.ofString).all fun s=>s.cps.all fun c=>decide (c < 2000000))=true:=by decide +kernel
theorem T_low {n:Nat} (h:n < T0.length):∀ c∈(T n).cps,c < 2000000:=by
 intro c hc
 have e:T n=Str.ofString T0[n]:=by unfold T; rw [List.getElem?_eq_getElem h]
 have:=List.all_eq_true.mp T0_low (Str.ofString T0[n]) (List.mem_map.mpr ⟨_,List.getElem_mem h,rfl⟩)
 rw [e] at hc
 exact of_decide_eq_true (Array.all_eq_true'.mp this c hc)
theorem T_high {n:Nat} (h:¬ n < T0.length):T n=⟨#[n + 2000000]⟩:=by
 unfold T; rw [List.getElem?_eq_none (Nat.not_lt.mp h)]
theorem T_inj {a b:Nat} (h:T a=T b):a=b:=by
 by_cases ha:a < T0.length
 ·by_cases hb:b < T0.length
  ·have ea:T a=(T0.map Str.ofString)[a]'(by rw [List.length_map]; exact ha):=by unfold T; rw [List.getElem?_eq_getElem ha]; simp
   have eb:T b=(T0.map Str.ofString)[b]'(by rw [List.length_map]; exact hb):=by unfold T; rw [List.getElem?_eq_getElem hb]; simp
   rw [ea,eb] at h
   exact (List.getElem_inj T0_nodup).mp h
  ·have:=T_low ha (b + 2000000) (by rw [h,T_high hb]; simp)
   lia
 ·by_cases hb:b < T0.length
  ·have:=T_low hb (a + 2000000) (by rw [← h,T_high ha]; simp)
   lia
  ·rw [T_high ha,T_high hb] at h
   injection h with h
   simp at h; lia
noncomputable def Val1 (ρ:Nat→Addr) (n:Nat) (h:Heap) (P:List Value→Prop):AV→Value→Prop
 | .none,v=>v=.none
 | .bool b,v=>v=.bool b
 | .int i,v=>∃ t,v=.int i t
 | .str x,v=>∃ t,v=.str (T x) t
 | .ref i,v=>i < n∧v=.ref (ρ i)
 | .nil,v | .cons ..,v=>Ex2 fun a vs=>v=.ref a∧IsTup h a (List.toArray vs)∧P vs
noncomputable def Items (ρ:Nat→Addr) (n:Nat) (h:Heap):AV→List Value→Prop
 | .nil,vs=>vs=[]
 | .cons a r,vs=>Ex2 fun v q=>vs=v :: q∧Val1 ρ n h (Items ρ n h a) a v∧Items ρ n h r q
 | _,_=>False
noncomputable def Val (ρ:Nat→Addr) (n:Nat) (h:Heap) (a:AV) (v:Value):Prop:=Val1 ρ n h (Items ρ n h a) a v
variable {prog:PySem.Program} {w:World} {A:Around} {E:Value→Shared→Prop} {s:Shared} {ρ:Nat→Addr} {n:Nat}
theorem depth_c {a b:AV}:(AV.cons a b).depth=max (a.depth + 1) b.depth:=rfl
theorem isD0_c {a b:AV}:(AV.cons a b).isD0=(a.isD0 && b.isChain && b.isD0):=rfl
theorem toL_c {a b:AV}:(AV.cons a b).toL=b.toL.map (a :: ·):=rfl
theorem isD_cons {a b:AV} (h:(AV.cons a b).isD=true):a.isD=true∧b.isChain=true∧b.isD=true:=by
 simp only [AV.isD,isD0_c,depth_c,Bool.and_eq_true,Nat.ble_eq] at h ⊢; exact ⟨⟨h.1.1.1,by lia⟩,h.1.1.2,h.1.2,by lia⟩
theorem isD0_cons {a b:AV} (h:(AV.cons a b).isD0=true):a.isD0=true∧b.isChain=true∧b.isD0=true:=by
 simp only [isD0_c,Bool.and_eq_true] at h; exact ⟨h.1.1,h.1.2,h.2⟩
theorem isD_0 {a:AV} (h:a.isD=true):a.isD0=true:=(Bool.and_eq_true_iff.mp h).1
theorem isD_8 {a:AV} (h:a.isD=true):a.depth≤6:=by have:=(Bool.and_eq_true_iff.mp h).2; simpa using this
theorem chain_val {h:Heap} {a:AV} {v:Value} (c:a.isChain=true) (x:Val ρ n h a v):Ex2 fun p vs=>v=.ref p∧IsTup h p (List.toArray vs)∧Items ρ n h a vs:=by
 cases a <;> first | exact x | cases c
theorem items_inj {h:Heap}:∀ {a:AV} {b:AV} {vs:List Value},a.isD0=true→b.isD0=true→a.isChain=true→b.isChain=true→Items ρ n h a vs→Items ρ n h b vs→a=b:=by
 intro a
 have main:∀ a:AV,(∀ (b:AV) (v:Value),a.isD0=true→b.isD0=true→Val ρ n h a v→Val ρ n h b v→a=b) ∧
   (∀ (b:AV) (vs:List Value),a.isD0=true→b.isD0=true→a.isChain=true→b.isChain=true→Items ρ n h a vs→Items ρ n h b vs→a=b):=by
  intro a
  induction a with
  | none=>exact ⟨fun _ _ d=>(by cases d),fun _ _ d=>(by cases d)⟩
  | bool=>exact ⟨fun _ _ d=>(by cases d),fun _ _ d=>(by cases d)⟩
  | ref=>exact ⟨fun _ _ d=>(by cases d),fun _ _ d=>(by cases d)⟩
  | int i =>
   refine ⟨fun b v _ d x y=>?_,fun _ _ _ _ c=>(by cases c)⟩
   obtain ⟨t,rfl⟩:=x
   cases b with
   | int j=>obtain ⟨u,e⟩:=y; injection e with e _; rw [e]
   | str j=>obtain ⟨u,e⟩:=y; cases e
   | nil=>obtain ⟨p,vs,e,_⟩:=y; cases e
   | cons=>obtain ⟨p,vs,e,_⟩:=y; cases e
   | _=>cases d
  | str i =>
   refine ⟨fun b v _ d x y=>?_,fun _ _ _ _ c=>(by cases c)⟩
   obtain ⟨t,rfl⟩:=x
   cases b with
   | str j=>obtain ⟨u,e⟩:=y; injection e with e _; rw [T_inj e]
   | int j=>obtain ⟨u,e⟩:=y; cases e
   | nil=>obtain ⟨p,vs,e,_⟩:=y; cases e
   | cons=>obtain ⟨p,vs,e,_⟩:=y; cases e
   | _=>cases d
  | nil =>
   have it:∀ (b:AV) (vs:List Value),AV.isD0 b=true→AV.isChain b=true→Items ρ n h .nil vs→Items ρ n h b vs→AV.nil=b:=fun b vs d c x y=>by
    obtain rfl:vs=[]:=x
    cases b with
    | nil=>rfl
    | cons=>obtain ⟨_,_,e,_⟩:=y; cases e
    | _=>cases c
   refine ⟨fun b v _ d x y=>?_,fun b vs _ d _ c x y=>it b vs d c x y⟩
   obtain ⟨p,vs,rfl,⟨o,ho,_,k,hd⟩,xi⟩:=x
   cases b with
   | int j=>obtain ⟨u,e⟩:=y; cases e
   | str j=>obtain ⟨u,e⟩:=y; cases e
   | nil=>rfl
   | cons b1 b2 =>
    obtain ⟨p',vs',e,⟨o',ho',_,k',hd'⟩,yi⟩:=y
    injection e with e; subst e
    obtain rfl:=Option.some.inj (ho.symm.trans ho')
    rw [hd] at hd'; injection hd' with e _
    have e':vs=vs':=by simpa using congrArg Array.toList e
    exact it _ vs d rfl xi (e' ▸ yi)
   | _=>cases d
  | cons a1 a2 ih1 ih2 =>
   have it:∀ (b:AV) (vs:List Value),(AV.cons a1 a2).isD0=true→AV.isD0 b=true→AV.isChain b=true→Items ρ n h (.cons a1 a2) vs→Items ρ n h b vs→AV.cons a1 a2=b:=fun b vs d1 d c x y=>by
    obtain ⟨v,q,rfl,x1,x2⟩:=x
    obtain ⟨da,dc,db⟩:=isD0_cons d1
    cases b with
    | nil=>cases (show v :: q=[] from y)
    | cons b1 b2 =>
     obtain ⟨v',q',e,y1,y2⟩:=y
     injection e with e1 e2; subst e1 e2
     obtain ⟨da',dc',db'⟩:=isD0_cons d
     rw [ih1.1 b1 _ da da' x1 y1,ih2.2 b2 _ db db' dc dc' x2 y2]
    | _=>cases c
   refine ⟨fun b v d1 d x y=>?_,fun b vs d1 d _ c x y=>it b vs d1 d c x y⟩
   obtain ⟨p,vs,rfl,⟨o,ho,_,k,hd⟩,xi⟩:=x
   cases b with
   | int j=>obtain ⟨u,e⟩:=y; cases e
   | str j=>obtain ⟨u,e⟩:=y; cases e
   | nil =>
    obtain ⟨p',vs',e,⟨o',ho',_,k',hd'⟩,yi⟩:=y
    injection e with e; subst e
    obtain rfl:=Option.some.inj (ho.symm.trans ho')
    rw [hd] at hd'; injection hd' with e _
    have e':vs=vs':=by simpa using congrArg Array.toList e
    exact it _ vs d1 d rfl xi (e' ▸ yi)
   | cons b1 b2 =>
    obtain ⟨p',vs',e,⟨o',ho',_,k',hd'⟩,yi⟩:=y
    injection e with e; subst e
    obtain rfl:=Option.some.inj (ho.symm.trans ho')
    rw [hd] at hd'; injection hd' with e _
    have e':vs=vs':=by simpa using congrArg Array.toList e
    exact it _ vs d1 d rfl xi (e' ▸ yi)
   | _=>cases d
 intro b vs d1 d2 c1 c2 x y
 exact (main a).2 b vs d1 d2 c1 c2 x y
theorem val_inj0 {h:Heap} {a b:AV} {v:Value} (d1:a.isD0=true) (d2:b.isD0=true) (x:Val ρ n h a v) (y:Val ρ n h b v):a=b:=by
 have z:=@items_inj ρ n h (.cons a .nil) (.cons b .nil) [v] (by rw [isD0_c,d1]; rfl) (by rw [isD0_c,d2]; rfl) rfl rfl ⟨v,[],rfl,x,rfl⟩ ⟨v,[],rfl,y,rfl⟩
 injection z
theorem val_inj {h:Heap} {a b:AV} {v:Value} (d1:a.isD=true) (d2:b.isD=true) (x:Val ρ n h a v) (y:Val ρ n h b v):a=b:=val_inj0 (isD_0 d1) (isD_0 d2) x y
theorem isSubtype_tuple_int:isSubtype (.type "tuple") (.type "int")=pure false:=by rw [isSubtype_type]; kernel_rfl
theorem isSubtype_tuple_str:isSubtype (.type "tuple") (.type "str")=pure false:=by rw [isSubtype_type]; kernel_rfl
theorem isSubtype_int_tuple:isSubtype (.type "int") (.type "tuple")=pure false:=by rw [isSubtype_type]; kernel_rfl
theorem isSubtype_str_tuple:isSubtype (.type "str") (.type "tuple")=pure false:=by rw [isSubtype_type]; kernel_rfl
theorem slot_tuple_eq_refl:Slot "tuple" (cmpInfo .Eq).2.2 "tuple.__eq__" :=
 .of (owner:="tuple") (n:="__eq__") (by rw [typeLookup_type,builtinLookup_eq_fast]; kernel_rfl) (by decide +kernel) (by decide +kernel) (by decide +kernel)
  (by first | exact .inl (by decide +kernel) | exact .inr (by decide +kernel)) (by rw [isSubtype_type]; kernel_rfl)
theorem isSame_plainNe {a b:Value} (hp:plainIs a b=true) (hk:(a == b)=false):isSame a b=pure false:=by rw [isSame_plain hp,hk]
theorem eq_declined {M:Model} {a b:Value} {Ta Tb ida idb:String} {Q:Value→Shared→Prop} (hu:A.units < cLine) (ha:s.TypeIs a Ta) (hb:s.TypeIs b Tb)
  (hne:(Value.type Ta != Value.type Tb)=true) (hsub:isSubtype (.type Tb) (.type Ta)=pure false) (h1:Slot Ta (cmpInfo .Eq).2.1 ida) (h2:Slot Tb (cmpInfo .Eq).2.2 idb) (hk:isSame a b=pure false)
  (hc:∀ Q':Value→Shared→Prop,Q' .notImplemented s→wpAny M A (call (.builtin ida) [a,b]) Q' E s) (hc':∀ Q':Value→Shared→Prop,Q' .notImplemented s→wpAny M A (call (.builtin idb) [b,a]) Q' E s)
  (h:Q (.bool false) s):wpAny M A (richCompare .Eq a b) Q E s:=by
 rcases hi:cmpInfo CmpOp.Eq with ⟨sym,f,r⟩
 rw [hi] at h1 h2
 simp only [richCompare,hi,ha.oneThing_none]
 try with_reducible refine wpAny_holding ?_
 refine wpAny_bind (wpAny_cRoomFor_or (.inr hu) ?_)
 refine wpAny_bind (wpAny_typeOf ha (wpAny_bind (wpAny_typeOf hb ?_)))
 simp only [hne,if_true]
 refine wpAny_bind (wpAny_of_eq hsub ?_)
 simp only [Bool.false_eq_true,if_false,Bool.not_false,if_true]
 refine wpAny_bind (m:=tryCompare a _ b) (wpAny_tryCompare_declines ha h1 (hc _ ⟨rfl,?_⟩))
 refine wpAny_bind (m:=tryCompare b _ a) (wpAny_tryCompare_declines hb h2 (hc' _ ⟨rfl,?_⟩))
 exact wpAny_bind (wpAny_rule (wpAny_bind (wpAny_of_eq hk (wpAny_pure h))))
theorem tuple_eq_declines {p:Addr} {vs:Array Value} {b:Value} {Tb:String} {Q:Value→Shared→Prop} (ht:IsTup s.heap p vs) (hb:s.TypeIs b Tb) (hsub:isSubtype (.type Tb) (.type "tuple")=pure false)
  (h:Q .notImplemented s):wpAny (model prog w) A (call (.builtin "tuple.__eq__") [.ref p,b]) Q E s:=by
 refine wpAny_call_entry F.slot_tuple_eq ht.typeIs F.entry_tuple_eq ?_ (F.args_tuple_eq_2 _ _)
 show wpAny _ _ (isInstance b (.type "tuple") >>= _) _ _ s
 refine wpAny_bind (wpAny_isInstance hb hsub ?_)
 simp only [Bool.not_false,if_true]
 exact wpAny_pure ⟨_,rfl,h⟩
theorem int_eq_declines {i:Int} {t:Tok} {p:Addr} {vs:Array Value} {Q:Value→Shared→Prop} (ht:IsTup s.heap p vs)
  (h:Q .notImplemented s):wpAny (model prog w) A (call (.builtin "int.__eq__") [.int i t,.ref p]) Q E s:=by
 refine wpAny_call_entry F.slot_int_eq (typeIs_int s i t) F.entry_int_eq ?_ (F.args_int_eq_2 _ _)
 obtain ⟨⟨c,d,dt,sl⟩,ho,hc,n,hd⟩:=ht
 simp only at hd; subst hd
 intro Γ q _
 exact ⟨_,ho,⟨_,rfl,h⟩⟩
theorem str_eq_declines {x:Str} {t:Tok} {p:Addr} {vs:Array Value} {Q:Value→Shared→Prop} (ht:IsTup s.heap p vs)
  (h:Q .notImplemented s):wpAny (model prog w) A (call (.builtin "str.__eq__") [.str x t,.ref p]) Q E s:=by
 refine wpAny_call_entry F.slot_str_eq (typeIs_str s x t) F.entry_str_eq ?_ (F.args_str_eq_2 _ _)
 obtain ⟨⟨c,d,dt,sl⟩,ho,hc,n,hd⟩:=ht
 simp only at hd; subst hd
 intro Γ q _
 exact ⟨_,ho,⟨_,rfl,h⟩⟩
end
end Mine
namespace Mine
section
set_option maxRecDepth 100000
open PySem PySem.W PyProof.Rows PySem.Calls
variable {prog:PySem.Program} {w:World} {A:Around} {E:Value→Shared→Prop} {s:Shared} {ρ:Nat→Addr} {n:Nat}
theorem beq_ref_int {p:Addr} {i:Int} {t:Tok}:(Value.ref p == Value.int i t)=false:=by rfl
theorem beq_int_ref {p:Addr} {i:Int} {t:Tok}:(Value.int i t == Value.ref p)=false:=by rfl
theorem beq_ref_str {p:Addr} {i:Str} {t:Tok}:(Value.ref p == Value.str i t)=false:=by rfl
theorem beq_str_ref {p:Addr} {i:Str} {t:Tok}:(Value.str i t == Value.ref p)=false:=by rfl
theorem truthOfDropped_bool {M:Model} {b:Bool} {Q:Bool→Shared→Prop} (h:Q b s):wpAny M A (truthOfDropped (.bool b)) Q E s:=by
 unfold truthOfDropped
 first
  | exact wpAny_truthy_bool h
  | exact wpAny_holding (wpAny_truthy_bool h)
  | (refine wpAny_bind (wpAny_truthy_bool ?_); exact wpAny_pure h)
  | (refine wpAny_bind (wpAny_holding (wpAny_truthy_bool ?_)); exact wpAny_pure h)
theorem eqBool_of {a b:AV} {u v:Value} {Q:Bool→Shared→Prop} (da:a.isD=true) (db:b.isD=true) (x:Val ρ n s.heap a u) (y:Val ρ n s.heap b v)
  (hc:∀ Q':Value→Shared→Prop,Q' (.bool (decide (a=b))) s→wpAny (model prog w) A (richCompare .Eq u v) Q' E s) (h:Q (decide (a=b)) s):wpAny (model prog w) A (eqBool u v) Q E s:=by
 unfold eqBool
 try with_reducible refine wpAny_holding ?_
 by_cases huv:(u == v)=true
 ·rw [if_pos huv]
  have e:u=v:=eq_of_beq huv
  subst e
  obtain rfl:=val_inj da db x y
  exact wpAny_bind (wpAny_rule (wpAny_pure (by simpa using h)))
 ·rw [if_neg huv]
  have fin:wpAny (model prog w) A (richCompare .Eq u v >>= truthOfDropped) Q E s:=wpAny_bind (hc _ (truthOfDropped_bool h))
  cases a <;> first
   | (obtain ⟨t,rfl⟩:=x; exact fin)
   | (obtain ⟨p,vs,rfl,_⟩:=x; exact fin)
   | cases da
theorem zip_eq {h:Heap}:∀ {a b:AV} {xs ys:List Value},a.isChain=true→b.isChain=true→Items ρ n h a xs→Items ρ n h b ys →
  (a=.nil∨b=.nil)→decide (a=b)=(xs.length == ys.length):=by
 intro a b xs ys ca cb x y e
 cases a with
 | nil =>
  obtain rfl:xs=[]:=x
  cases b with
  | nil=>obtain rfl:ys=[]:=y; rfl
  | cons=>obtain ⟨_,_,rfl,_⟩:=y; rfl
  | _=>cases cb
 | cons =>
  obtain ⟨_,_,rfl,_⟩:=x
  cases b with
  | nil=>obtain rfl:ys=[]:=y; rfl
  | cons=>rcases e with e | e <;> cases e
  | _=>cases cb
 | _=>cases ca
theorem tuple_eq_of {a b:AV} {p q:Addr} {xs ys:List Value} {P:Fin→Shared→Prop} (ca:a.isChain=true) (cb:b.isChain=true) (da:a.isD=true) (db:b.isD=true)
  (tx:IsTup s.heap p xs.toArray) (ty:IsTup s.heap q ys.toArray) (ix:Items ρ n s.heap a xs) (iy:Items ρ n s.heap b ys)
  (each:∀ (a' b':AV) (u v:Value),u∈xs→Val ρ n s.heap a' u→Val ρ n s.heap b' v→a'.isD=true→b'.isD=true→∀ Q':Bool→Shared→Prop,Q' (decide (a'=b')) s→wpAny (model prog w) A (eqBool u v) Q' E s)
  (h:P (.done (.ret (.bool (decide (a=b))))) s):wpAny (model prog w) A (Builtin.«tuple.__eq__» ⟨[.ref p,.ref q],[]⟩) P E s:=by
 have hTb:=ty.typeIs
 obtain ⟨oa,hoa,_,na,hda⟩:=tx
 obtain ⟨ob,hob,_,nb,hdb⟩:=ty
 show wpAny _ _ (isInstance (.ref q) (.type "tuple") >>= _) _ _ s
 refine wpAny_bind (wpAny_isInstance hTb isSubtype_tuple_tuple ?_)
 simp only [Bool.not_true,Bool.false_eq_true,if_false]
 refine wpAny_bind (wpAny_tupleItemsOf hoa hda ?_)
 refine wpAny_bind (wpAny_tupleItemsOf hob hdb ?_)
 refine wpAny_bind ?_
 refine wpAny_forIn_list _
  (fun rest r s'=>r.1=none∧s'=s∧Ex4 fun a' b' xs' ys'=>And10 (rest=List.zip xs' ys') (∀ u∈xs',u∈xs) (a'.isChain=true) (b'.isChain=true) (a'.isD=true) (b'.isD=true) (Items ρ n s.heap a' xs') (Items ρ n s.heap b' ys') (decide (a'=b')=decide (a=b)) ((xs'.length == ys'.length)=(xs.toArray.size == ys.toArray.size)))
  _ ?_ ?_ _ _ ⟨rfl,rfl,a,b,xs,ys,by simp,fun _ h=>h,ca,cb,da,db,ix,iy,rfl,by simp⟩
 ·rintro ⟨u,v⟩ rest r s' ⟨hr,rfl,a',b',xs',ys',hz,hsub,ca',cb',da',db',hx',hy',hdec,hlen⟩
  cases a' with
  | nil=>obtain rfl:xs'=[]:=hx'; simp at hz
  | cons a1 a2 =>
   obtain ⟨u',xs'',rfl,x1,x2⟩:=hx'
   cases b' with
   | nil=>obtain rfl:ys'=[]:=hy'; simp at hz
   | cons b1 b2 =>
    obtain ⟨v',ys'',rfl,y1,y2⟩:=hy'
    simp only [List.zip_cons_cons,List.cons.injEq,Prod.mk.injEq] at hz
    obtain ⟨⟨rfl,rfl⟩,rfl⟩:=hz
    obtain ⟨d1,d2,d3⟩:=isD_cons da'
    obtain ⟨e1,e2,e3⟩:=isD_cons db'
    refine wpAny_bind (each a1 b1 _ _ (hsub _ (.head _)) x1 y1 d1 e1 _ ?_)
    by_cases hk:a1=b1
    ·subst hk
     rw [decide_eq_true rfl]
     simp only [Bool.not_true,Bool.false_eq_true,if_false]
     refine wpAny_pure ⟨rfl,rfl,a2,b2,xs'',ys'',rfl,fun z hz=>hsub _ (.tail _ hz),d2,e2,d3,e3,x2,y2,?_,by simpa using hlen⟩
     rw [← hdec]
     by_cases hxy:a2=b2
     ·simp [hxy]
     ·simp [hxy]
    ·rw [decide_eq_false hk]
     simp only [Bool.not_false,if_true]
     have hf:decide (a=b)=false:=by rw [← hdec]; simp [hk]
     rw [hf] at h
     exact wpAny_bind (wpAny_pure (wpAny_pure (wpAny_pure h)))
   | _=>cases cb'
  | _=>cases ca'
 ·rintro ⟨r1,r2⟩ s' ⟨hr,rfl,a',b',xs',ys',hz,_,ca',cb',_,_,hx',hy',hdec,hlen⟩
  simp only at hr
  subst hr
  refine wpAny_pure ?_
  have hfin:(xs.toArray.size == ys.toArray.size)=decide (a=b):=by
   rw [← hdec,← hlen]
   refine (zip_eq ca' cb' hx' hy' ?_).symm
   cases a' with
   | nil=>exact .inl rfl
   | cons =>
    obtain ⟨_,_,rfl,_⟩:=hx'
    cases b' with
    | nil=>exact .inr rfl
    | cons=>obtain ⟨_,_,rfl,_⟩:=hy'; simp at hz
    | _=>cases cb'
   | _=>cases ca'
  show P (.done (.ret (.bool (xs.toArray.size == ys.toArray.size)))) s'
  rw [hfin]; exact h
theorem mem_items {h:Heap}:∀ {a:AV} {xs:List Value} {u:Value},a.isD0=true→Items ρ n h a xs→u∈xs→∃ a',a'.isD0=true∧Val ρ n h a' u∧a'.depth + 1≤a.depth:=by
 intro a
 induction a with
 | nil=>intro xs u _ x m; obtain rfl:xs=[]:=x; cases m
 | cons a1 a2 _ ih =>
  intro xs u d x m
  obtain ⟨v,q,rfl,x1,x2⟩:=x
  obtain ⟨d1,_,d2⟩:=isD0_cons d
  cases m with
  | head=>exact ⟨a1,d1,x1,by rw [depth_c]; lia⟩
  | tail _ m=>obtain ⟨a',h1,h2,h3⟩:=ih d2 x2 m; exact ⟨a',h1,h2,by rw [depth_c]; lia⟩
 | _=>intro xs u _ x; exact x.elim
theorem richEq_mixed {a b:AV} {u v:Value} {Q:Value→Shared→Prop} (hu:A.units < cLine) (x:Val ρ n s.heap a u) (y:Val ρ n s.heap b v)
  (hab:(Ex2 fun i x=>a=.int i∧b=.str x)∨(Ex2 fun i x=>a=.str x∧b=.int i)∨(∃ i,a=.int i∧b.isChain=true)∨(∃ i,a.isChain=true∧b=.int i)∨(∃ i,a=.str i∧b.isChain=true)∨(∃ i,a.isChain=true∧b=.str i))
  (h:Q (.bool false) s):wpAny (model prog w) A (richCompare .Eq u v) Q E s:=by
 rcases hab with ⟨i,z,rfl,rfl⟩ | ⟨i,z,rfl,rfl⟩ | ⟨i,rfl,c⟩ | ⟨i,c,rfl⟩ | ⟨i,rfl,c⟩ | ⟨i,c,rfl⟩
 ·obtain ⟨t,rfl⟩:=x; obtain ⟨r,rfl⟩:=y; exact EqMixed.eq_int_str h
 ·obtain ⟨t,rfl⟩:=x; obtain ⟨r,rfl⟩:=y; exact EqMixed.eq_str_int h
 ·obtain ⟨t,rfl⟩:=x
  obtain ⟨p,vs,rfl,ht,_⟩:=chain_val c y
  exact eq_declined hu (typeIs_int s i t) ht.typeIs (by decide) isSubtype_tuple_int F.slot_int_eq slot_tuple_eq_refl (isSame_plainNe rfl beq_int_ref)
   (fun Q' q=>int_eq_declines ht q) (fun Q' q=>tuple_eq_declines ht (typeIs_int s i t) isSubtype_int_tuple q) h
 ·obtain ⟨t,rfl⟩:=y
  obtain ⟨p,vs,rfl,ht,_⟩:=chain_val c x
  exact eq_declined hu ht.typeIs (typeIs_int s i t) (by decide) isSubtype_int_tuple F.slot_tuple_eq F.slot_int_eq_refl (isSame_plainNe rfl beq_ref_int)
   (fun Q' q=>tuple_eq_declines ht (typeIs_int s i t) isSubtype_int_tuple q) (fun Q' q=>int_eq_declines ht q) h
 ·obtain ⟨t,rfl⟩:=x
  obtain ⟨p,vs,rfl,ht,_⟩:=chain_val c y
  exact eq_declined hu (typeIs_str s (T i) t) ht.typeIs (by decide) isSubtype_tuple_str F.slot_str_eq slot_tuple_eq_refl (isSame_plainNe rfl beq_str_ref)
   (fun Q' q=>str_eq_declines ht q) (fun Q' q=>tuple_eq_declines ht (typeIs_str s (T i) t) isSubtype_str_tuple q) h
 ·obtain ⟨t,rfl⟩:=y
  obtain ⟨p,vs,rfl,ht,_⟩:=chain_val c x
  exact eq_declined hu ht.typeIs (typeIs_str s (T i) t) (by decide) isSubtype_str_tuple F.slot_tuple_eq F.slot_str_eq_refl (isSame_plainNe rfl beq_ref_str)
   (fun Q' q=>tuple_eq_declines ht (typeIs_str s (T i) t) isSubtype_str_tuple q) (fun Q' q=>str_eq_declines ht q) h
theorem richEq_tuple {a b:AV} {u v:Value} {A:Around} {Q:Value→Shared→Prop} (ca:a.isChain=true) (cb:b.isChain=true) (hu:A.units + 10 < cLine) (da:a.isD=true) (db:b.isD=true)
  (ih:∀ {a' b':AV} {u v:Value} {A':Around} {Q:Value→Shared→Prop},a'.depth + 1≤a.depth→A'.units≤A.units + 1→a'.isD=true→b'.isD=true →
   Val ρ n s.heap a' u→Val ρ n s.heap b' v→Q (.bool (decide (a'=b'))) s→wpAny (model prog w) A' (richCompare .Eq u v) Q E s)
  (x:Val ρ n s.heap a u) (y:Val ρ n s.heap b v) (h:Q (.bool (decide (a=b))) s):wpAny (model prog w) A (richCompare .Eq u v) Q E s:=by
 obtain ⟨p,xs,rfl,tx,ix⟩:=chain_val ca x
 obtain ⟨q,ys,rfl,ty,iy⟩:=chain_val cb y
 refine wpAny_richCompare_same_room (op:=.Eq) tx.typeIs ty.typeIs F.slot_tuple_eq (wpAny_call_entry F.slot_tuple_eq tx.typeIs F.entry_tuple_eq (wpAny_mono
  (tuple_eq_of (P:=fun fin s'=>∃ v,fin=.done (.ret v)∧v≠.notImplemented∧Q v s') ca cb da db tx ty ix iy ?_ ⟨_,rfl,(fun e=>nomatch e),h⟩)
  (fun _ _ z=>z) fun _ _ e=>e) (F.args_tuple_eq_2 _ _)) (by lia)
 intro a' b' u' v' hm xa' xb' da' db' Q' hq
 obtain ⟨a'',d0,xa'',dep⟩:=mem_items (isD_0 da) ix hm
 obtain rfl:=val_inj0 (isD_0 da') d0 xa' xa''
 exact eqBool_of da' db' xa' xb' (fun Q'' hq''=>ih dep (by simp) da' db' xa' xb' hq'') hq
theorem richEq_data:∀ (k:Nat) {a b:AV} {u v:Value} {A:Around} {Q:Value→Shared→Prop},a.depth≤k→A.units + k + 10 < cLine→a.isD=true→b.isD=true →
  Val ρ n s.heap a u→Val ρ n s.heap b v→Q (.bool (decide (a=b))) s→wpAny (model prog w) A (richCompare .Eq u v) Q E s:=by
 intro k
 induction k with
 | zero =>
  intro a b u v A Q hk hu da db x y h
  by_cases ca:a.isChain=true
  ·by_cases cb:b.isChain=true
   ·exact richEq_tuple ca cb (by lia) da db (fun hd=>by lia) x y h
   ·cases b with
    | int i=>exact richEq_mixed (by lia) x y (.inr (.inr (.inr (.inl ⟨i,ca,rfl⟩)))) (by rwa [decide_eq_false (by rintro rfl; cases ca)] at h)
    | str i=>exact richEq_mixed (by lia) x y (.inr (.inr (.inr (.inr (.inr ⟨i,ca,rfl⟩))))) (by rwa [decide_eq_false (by rintro rfl; cases ca)] at h)
    | nil=>exact absurd rfl cb
    | cons=>exact absurd rfl cb
    | _=>cases db
  ·cases a with
   | int i =>
    cases b with
    | int j =>
     obtain ⟨t,rfl⟩:=x; obtain ⟨r,rfl⟩:=y
     refine eq_int ?_
     have e:decide (AV.int i=AV.int j)=(i == j):=by by_cases q:i=j <;> simp [q]
     rw [← e]; exact h
    | str j=>exact richEq_mixed (by lia) x y (.inl ⟨i,j,rfl,rfl⟩) (by rwa [decide_eq_false (by simp)] at h)
    | nil=>exact richEq_mixed (by lia) x y (.inr (.inr (.inl ⟨i,rfl,rfl⟩))) (by rwa [decide_eq_false (by simp)] at h)
    | cons=>exact richEq_mixed (by lia) x y (.inr (.inr (.inl ⟨i,rfl,rfl⟩))) (by rwa [decide_eq_false (by simp)] at h)
    | _=>cases db
   | str i =>
    cases b with
    | str j =>
     obtain ⟨t,rfl⟩:=x; obtain ⟨r,rfl⟩:=y
     refine eq_str ?_
     have e:decide (AV.str i=AV.str j)=(T i == T j):=by
      by_cases q:i=j
      ·subst q; simp
      ·have:¬ T i=T j:=fun e=>q (T_inj e)
       simp [q,this]
     rw [← e]; exact h
    | int j=>exact richEq_mixed (by lia) x y (.inr (.inl ⟨j,i,rfl,rfl⟩)) (by rwa [decide_eq_false (by simp)] at h)
    | nil=>exact richEq_mixed (by lia) x y (.inr (.inr (.inr (.inr (.inl ⟨i,rfl,rfl⟩))))) (by rwa [decide_eq_false (by simp)] at h)
    | cons=>exact richEq_mixed (by lia) x y (.inr (.inr (.inr (.inr (.inl ⟨i,rfl,rfl⟩))))) (by rwa [decide_eq_false (by simp)] at h)
    | _=>cases db
   | nil=>exact absurd rfl ca
   | cons=>exact absurd rfl ca
   | _=>cases da
 | succ k ih =>
  intro a b u v A Q hk hu da db x y h
  by_cases ca:a.isChain=true
  ·by_cases cb:b.isChain=true
   ·exact richEq_tuple ca cb (by lia) da db (fun hd hA da' db' x' y' h'=>ih (by lia) (by lia) da' db' x' y' h') x y h
   ·cases b with
    | int i=>exact richEq_mixed (by lia) x y (.inr (.inr (.inr (.inl ⟨i,ca,rfl⟩)))) (by rwa [decide_eq_false (by rintro rfl; cases ca)] at h)
    | str i=>exact richEq_mixed (by lia) x y (.inr (.inr (.inr (.inr (.inr ⟨i,ca,rfl⟩))))) (by rwa [decide_eq_false (by rintro rfl; cases ca)] at h)
    | nil=>exact absurd rfl cb
    | cons=>exact absurd rfl cb
    | _=>cases db
  ·exact ih (by cases a <;> first | exact Nat.zero_le _ | exact absurd rfl ca) (by lia) da db x y h
theorem eqBool_data {a b:AV} {u v:Value} {Q:Bool→Shared→Prop} (hu:A.units + 20 < cLine) (da:a.isD=true) (db:b.isD=true) (x:Val ρ n s.heap a u) (y:Val ρ n s.heap b v) (h:Q (decide (a=b)) s) :
  wpAny (model prog w) A (eqBool u v) Q E s :=
 eqBool_of da db x y (fun _ q=>richEq_data 6 (isD_8 da) (by lia) da db x y q) h
noncomputable def hashK (w:World) (l:List Int):AV→Int
 | .int i=>hashInt i
 | .str x=>hashStr w (T x)
 | _=>reduceHash (Builtin.Tuple.tupleHashOf l)
noncomputable def hashL (w:World):AV→List Int
 | .cons a b=>hashK w (hashL w a) a :: hashL w b
 | _=>[]
noncomputable def hashAV (w:World) (a:AV):Int:=hashK w (hashL w a) a
theorem pyHash_data:∀ (k:Nat) {a:AV} {u:Value} {A:Around} {s:Shared} {Q:Int→Shared→Prop},a.depth≤k→A.units + k + 10 < cLine→a.isD0=true →
  Val ρ n s.heap a u→(∀ tk,Q (hashAV w a) { s with toks:=tk })→wpAny (model prog w) A (pyHash u) Q E s:=by
 have chain:∀ {a:AV} {u:Value} {A:Around} {s:Shared} {Q:Int→Shared→Prop},a.isChain=true→A.units + 10 < cLine→a.isD0=true→Val ρ n s.heap a u →
   (∀ {a':AV} {u:Value} {A':Around} {s:Shared} {Q:Int→Shared→Prop},a'.depth + 1≤a.depth→A'.units≤A.units + 1→a'.isD0=true→Val ρ n s.heap a' u→(∀ tk,Q (hashAV w a') { s with toks:=tk })→wpAny (model prog w) A' (pyHash u) Q E s) →
   (∀ tk,Q (hashAV w a) { s with toks:=tk })→wpAny (model prog w) A (pyHash u) Q E s:=by
  intro a u A s Q ca hu da x ih h
  obtain ⟨p,xs,rfl,tx,ix⟩:=chain_val ca x
  have hT:=tx.typeIs
  obtain ⟨o,ho,_,k,hd⟩:=tx
  unfold pyHash
  first | unfold pyHashByItsType | skip
  first | refine wpAny_bind (wpAny_cRoomFor_or (.inr (by lia)) ?_) | skip
  refine wpAny_bind (wpAny_specialOf hT F.slot_tuple_hash.lookup ?_)
  show wpAny _ _ (if (some (Value.builtin "tuple.__hash__") == some Value.none)=true then _ else _) Q E s
  rw [if_neg (by rw [beq_builtin_none]; exact Bool.false_ne_true)]
  refine wpAny_bind (wpAny_specialOf hT F.slot_tuple_hash.lookup ?_)
  show wpAny _ _ (callSpecialIfBoundUnlessNone? (.ref p) "__hash__" _ >>= _) Q E s
  refine wpAny_bind (wpAny_callSpecialIfBoundUnlessNone?_slot hT F.slot_tuple_hash (wpAny_call_entry F.slot_tuple_hash hT F.entry_tuple_hash ?_ (F.args_tuple_hash_1 _)))
  show wpAny _ _ (Builtin.Tuple.tupleItemsOf (.ref p) >>= _) _ _ s
  refine wpAny_bind (wpAny_tupleItemsOf ho hd ?_)
  refine wpAny_bind ?_
  rw [← Array.forIn_toList]
  refine wpAny_forIn_list _
   (fun rest (b:Array Int) s'=>Ex2 fun left tk=>And6 (left.isChain=true) (left.isD0=true) (left.depth≤a.depth) (Items ρ n s.heap left rest) (b.toList++hashL w left=hashL w a) (s'={ s with toks:=tk }))
   _ ?_ ?_ _ _ ⟨a,s.toks,ca,da,Nat.le_refl _,ix,rfl,rfl⟩
  ·rintro v rest b s' ⟨left,tk,cl,dl,dep,hl,hb,rfl⟩
   cases left with
   | nil=>cases (show v :: rest=[] from hl)
   | cons a1 a2 =>
    obtain ⟨v',q,e,x1,x2⟩:=hl
    injection e with e1 e2; subst e1 e2
    obtain ⟨d1,c2,d2⟩:=isD0_cons dl
    have dep':a1.depth + 1≤a.depth∧a2.depth≤a.depth:=by rw [depth_c] at dep; lia
    refine wpAny_bind (ih (s:={ s with toks:=tk }) dep'.1 (by simp) d1 x1 fun tk'=>?_)
    have nx:(b.push (hashAV w a1)).toList++hashL w a2=hashL w a:=by rw [← hb]; simp [hashL,hashAV]
    first
     | exact wpAny_pure ⟨a2,tk',c2,d2,dep'.2,x2,nx,rfl⟩
     | exact wpAny_bind (wpAny_pure (wpAny_pure ⟨a2,tk',c2,d2,dep'.2,x2,nx,rfl⟩))
   | _=>cases cl
  ·rintro b s' ⟨left,tk,cl,_,_,hl,hb,rfl⟩
   have hn:hashL w left=[]:=by
    cases left with
    | nil=>rfl
    | cons=>obtain ⟨_,_,e,_⟩:=hl; cases e
    | _=>cases cl
   rw [hn,List.append_nil] at hb
   show wpAny _ _ (retInt (Builtin.Tuple.tupleHashOf b.toList)) _ _ _
   rw [hb]
   have hh:hashAV w a=reduceHash (Builtin.Tuple.tupleHashOf (hashL w a)):=by cases a <;> first | rfl | cases ca
   refine wpAny_ret_mkInt ?_
   show wpAny _ _ (if (decide (-(2:Int) ^ 63≤Builtin.Tuple.tupleHashOf (hashL w a)) && decide (Builtin.Tuple.tupleHashOf (hashL w a) < 2 ^ 63))=true then _ else _) Q E _
   rw [hh] at h
   unfold reduceHash at h
   by_cases hr:(decide (-(2:Int) ^ 63≤Builtin.Tuple.tupleHashOf (hashL w a)) && decide (Builtin.Tuple.tupleHashOf (hashL w a) < 2 ^ 63))=true
   ·rw [if_pos hr]
    rw [if_pos hr] at h
    exact wpAny_pure (by simpa [Nat.add_assoc] using h _)
   ·rw [if_neg hr]
    rw [if_neg hr] at h
    exact wpAny_bind (wpAny_rule (wpAny_pure (by simpa [Nat.add_assoc] using h _)))
 intro k
 induction k with
 | zero =>
  intro a u A s Q hk hu da x h
  by_cases ca:a.isChain=true
  ·exact chain ca (by lia) da x (fun hd=>by lia) h
  ·cases a with
   | int i=>obtain ⟨t,rfl⟩:=x; exact wpAny_pyHash_int (h _)
   | str i=>obtain ⟨t,rfl⟩:=x; exact wpAny_pyHash_str (h _)
   | nil=>exact absurd rfl ca
   | cons=>exact absurd rfl ca
   | _=>cases da
 | succ k ih =>
  intro a u A s Q hk hu da x h
  by_cases ca:a.isChain=true
  ·exact chain ca (by lia) da x (fun hd hA d' x' h'=>ih (by lia) (by lia) d' x' h') h
  ·exact ih (by cases a <;> first | exact Nat.zero_le _ | exact absurd rfl ca) (by lia) da x h
end
end Mine
namespace Mine
section
set_option maxRecDepth 100000
open PySem PySem.W PyProof.Rows PySem.Calls
variable {prog:PySem.Program} {w:World} {A:Around} {E:Value→Shared→Prop} {s:Shared} {ρ:Nat→Addr} {n:Nat}
theorem quiet_data:∀ (k:Nat) {a:AV} {u:Value} {Q:Bool→Shared→Prop},a.depth + 1≤k→a.isD0=true→Val ρ n s.heap a u→Q true s→wpAny (model prog w) A (eqIsQuiet k u) Q E s:=by
 intro k
 induction k with
 | zero=>intro a u Q h; lia
 | succ k ih =>
  intro a u Q hk da x h
  by_cases ca:a.isChain=true
  ·obtain ⟨p,xs,rfl,tx,ix⟩:=chain_val ca x
   have hT:=tx.typeIs
   obtain ⟨o,ho,_,m,hd⟩:=tx
   unfold eqIsQuiet
   refine wpAny_bind (wpAny_specialOf hT F.slot_tuple_eq.lookup ?_)
   show wpAny _ _ (isInstance (.ref p) (.type "tuple") >>= _) _ _ s
   refine wpAny_bind (wpAny_isInstance hT isSubtype_tuple_tuple ?_)
   simp only [Bool.not_true,Bool.false_eq_true,if_false]
   refine wpAny_bind (wpAny_seqItems ho hd ?_)
   refine wpAny_bind ?_
   show wpAny _ _ (forIn xs.toArray _ _) _ _ s
   rw [← Array.forIn_toList]
   refine wpAny_forIn_list _ (fun rest r s'=>r.1=none∧s'=s∧∀ v∈rest,v∈xs) _ ?_ ?_ _ _ ⟨rfl,rfl,fun _ h=>h⟩
   ·rintro v rest r s' ⟨hr,rfl,hall⟩
    obtain ⟨a',d0,xa,dep⟩:=mem_items da ix (hall v (.head _))
    refine wpAny_bind (ih (by lia) d0 xa ?_)
    simp only [Bool.not_true,Bool.false_eq_true,if_false]
    exact wpAny_pure ⟨rfl,rfl,fun u hu'=>hall u (List.mem_cons_of_mem _ hu')⟩
   ·rintro ⟨r1,r2⟩ s' ⟨hr,rfl,_⟩
    simp only at hr
    subst hr
    exact wpAny_pure h
  ·have hb:carriedByValue u=true:=by
    cases a with
    | int i=>obtain ⟨t,rfl⟩:=x; rfl
    | str i=>obtain ⟨t,rfl⟩:=x; rfl
    | nil=>exact absurd rfl ca
    | cons=>exact absurd rfl ca
    | _=>cases da
   rw [eqIsQuiet_byValue _ hb]
   exact wpAny_pure h
theorem mayTell_data {a:AV} {u:Value} {stored:List Value} {Q:Bool→Shared→Prop} (da:a.isD=true) (x:Val ρ n s.heap a u)
  (hst:∀ v∈stored,∃ b:AV,b.isD=true∧Val ρ n s.heap b v) (h:Q false s):wpAny (model prog w) A (tableMayTell u stored) Q E s:=by
 unfold tableMayTell
 split
 ·exact wpAny_pure h
 ·refine wpAny_bind (quiet_data 8 (by have:=isD_8 da; lia) (isD_0 da) x ?_)
  simp only [Bool.not_true,Bool.false_eq_true,if_false]
  refine wpAny_bind ?_
  refine wpAny_forIn_list _ (fun rest r s'=>s'=s∧r=(none,())∧∀ v∈rest,∃ b:AV,b.isD=true∧Val ρ n s.heap b v) _ ?_ ?_ _ _ ⟨rfl,rfl,hst⟩
  ·rintro v rest r s' ⟨rfl,rfl,hr⟩
   obtain ⟨b,db,hb⟩:=hr v List.mem_cons_self
   refine wpAny_bind (quiet_data 8 (by have:=isD_8 db; lia) (isD_0 db) hb ?_)
   simp only [Bool.not_true,Bool.false_eq_true,if_false]
   exact wpAny_pure ⟨rfl,rfl,fun v hv=>hr v (List.mem_cons_of_mem _ hv)⟩
  ·rintro r s' ⟨rfl,rfl,_⟩
   exact wpAny_pure h
structure Ents (w:World) (ρ:Nat→Addr) (n:Nat) (h:Heap) (kvs:List (AV×AV)) (es:Array DictEntry):Prop where
 size:es.size=kvs.length
 ent:∀ (j:Nat) (e:DictEntry) (p:AV×AV),es[j]?=some e→kvs[j]?=some p→And4 (e.hash=hashAV w p.1) (p.1.isD=true) (Val ρ n h p.1 e.key) (Val ρ n h p.2 e.val)
 nodup:(kvs.map (·.1)).Nodup
theorem Ents.get {h:Heap} {kvs:List (AV×AV)} {es:Array DictEntry} (R:Ents w ρ n h kvs es) {j:Nat} {e:DictEntry} (he:es[j]?=some e) :
  ∃ p,And5 (kvs[j]?=some p) (e.hash=hashAV w p.1) (p.1.isD=true) (Val ρ n h p.1 e.key) (Val ρ n h p.2 e.val):=by
 have hj:j < es.size:=by
  rcases Nat.lt_or_ge j es.size with h | h
  ·exact h
  ·rw [Array.getElem?_eq_none h] at he; cases he
 have:kvs[j]?=some (kvs[j]'(R.size ▸ hj)):=List.getElem?_eq_getElem _
 have q:=R.ent j e _ he this
 exact ⟨_,this,q.1,q.2,q.3,q.4⟩
theorem Ents.get' {h:Heap} {kvs:List (AV×AV)} {es:Array DictEntry} (R:Ents w ρ n h kvs es) {j:Nat} {p:AV×AV} (hp:kvs[j]?=some p) :
  ∃ e,And5 (es[j]?=some e) (e.hash=hashAV w p.1) (p.1.isD=true) (Val ρ n h p.1 e.key) (Val ρ n h p.2 e.val):=by
 have hj:j < kvs.length:=by
  rcases Nat.lt_or_ge j kvs.length with h | h
  ·exact h
  ·rw [List.getElem?_eq_none h] at hp; cases hp
 have:es[j]?=some (es[j]'(R.size ▸ hj)):=Array.getElem?_eq_getElem _
 have q:=R.ent j _ p this hp
 exact ⟨_,this,q.1,q.2,q.3,q.4⟩
theorem keys_unique {kvs:List (AV×AV)} (hn:(kvs.map (·.1)).Nodup) {i j:Nat} {k a b:AV} (hi:kvs[i]?=some (k,a)) (hj:kvs[j]?=some (k,b)):i=j:=by
 have hi':(kvs.map (·.1))[i]?=some k:=by rw [List.getElem?_map,hi]; rfl
 have hj':(kvs.map (·.1))[j]?=some k:=by rw [List.getElem?_map,hj]; rfl
 exact (List.getElem?_inj (List.getElem?_eq_some_iff.mp hi').1 hn).mp (hi'.trans hj'.symm)
section
variable {α:Type} {M:Model} {Q:α→Shared→Prop}
theorem wp_if_jp {c:Prop} [Decidable c] {x y:Sem Bool} {F:Bool→Sem α} (hx:wpAny M A x (fun b s'=>b=false∧s'=s) E s) (hy:wpAny M A y (fun b s'=>b=false∧s'=s) E s) (k:wpAny M A (F false) Q E s) :
  wpAny M A (if c then x >>= F else y >>= F) Q E s:=by
 have h:∀ z:Sem Bool,wpAny M A z (fun b s'=>b=false∧s'=s) E s→wpAny M A (z >>= F) Q E s:=fun z hz=>wpAny_bind (wpAny_mono hz (fun b s' q=>by obtain ⟨rfl,rfl⟩:=q; exact k) fun _ _ e=>e)
 exact wpAny_ite_split (fun _=>h x hx) fun _=>h y hy
theorem wp_ifp {c:Prop} [Decidable c] {x y:Sem α} (h:c) (k:wpAny M A x Q E s):wpAny M A (if c then x else y) Q E s:=by
 rw [if_pos h]; exact k
theorem wp_ifn {c:Prop} [Decidable c] {x y:Sem α} (h:¬ c) (k:wpAny M A y Q E s):wpAny M A (if c then x else y) Q E s:=by
 rw [if_neg h]; exact k
theorem wp_opt {o:Option DictEntry} {e:DictEntry} {F:DictEntry→Sem α} {G:Option DictEntry→Sem α} (he:o=some e) (k:wpAny M A (F e) Q E s):wpAny M A (dictWalkPlain.match_1 (fun _=>Sem α) o F G) Q E s:=by
 subst he; exact k
theorem wp_str {key:Value} {c:Prop} [Decidable c] {F:Str→Sem α} {j:Sem α} (hs:∀ x t,key=.str x t→wpAny M A (F x) Q E s) (hj:wpAny M A j Q E s):wpAny M A (isExactStrKey.match_1 (fun _=>Sem α) key (fun x _=>if c then F x else j) fun _=>j) Q E s:=by
 cases key with
 | str x t=>exact wpAny_ite_split (fun _=>hs x t rfl) fun _=>hj
 | _=>exact hj
theorem wp_ref {key:Value} {c:Prop} [Decidable c] {y j:Sem α} (hs:¬ c) (hj:wpAny M A j Q E s):wpAny M A (carriedByValue.match_1 (fun _=>Sem α) key (fun _=>if c then y else j) fun _=>j) Q E s:=by
 cases key with
 | ref=>exact wp_ifn hs hj
 | _=>exact hj
end
theorem wp_same {α:Type} {Q:α→Shared→Prop} {d:Addr} {o:Obj} {es ep} {k k':AV} {key u:Value} {F:Bool→Sem α} {U:Nat→Bool→Nat→Sem α} (hu:A.units + 20 < cLine) (ho:s.heap.get? d=some o) (hd:o.data=.dict es ep) (dk':k'.isD=true) (dk:k.isD=true) (xk':Val ρ n s.heap k' u) (hkey:Val ρ n s.heap k key)
  (h:wpAny (model prog w) A (F (decide (k'=k))) Q E s) :
  wpAny (model prog w) A (dictEpoch d (keyPart key) >>= fun before=>eqBool u key >>= fun same=>dictEpoch d (keyPart key) >>= fun b2=>if (b2 != before)=true then U before same b2 else F same) Q E s :=
 wpAny_bind (wpAny_dictEpoch ho hd (wpAny_bind (eqBool_data hu dk' dk xk' hkey (wpAny_bind (wpAny_dictEpoch ho hd (wp_ifn (by simp) h))))))
theorem isStr_iff {h:Heap} {a:AV} {u:Value} {z:Nat} (da:a.isD=true) (x:Val ρ n h a u):u.isStr (T z)=true↔a=.str z:=by
 have no:∀ b,u.isStr (T z)=false→a=b→b≠.str z→(u.isStr (T z)=true↔a=.str z):=fun b e f g=>by rw [e,f]; exact ⟨fun q=>Bool.noConfusion q,fun q=>absurd q g⟩
 cases a with
 | str y=>obtain ⟨t',rfl⟩:=x; exact ⟨fun q=>by rw [T_inj (beq_iff_eq.mp q)],fun q=>by injection q with q; subst q; exact beq_self_eq_true _⟩
 | int=>obtain ⟨t',rfl⟩:=x; exact no _ rfl rfl nofun
 | nil=>obtain ⟨_,_,rfl,_⟩:=x; exact no _ rfl rfl nofun
 | cons=>obtain ⟨_,_,rfl,_⟩:=x; exact no _ rfl rfl nofun
 | _=>cases da
theorem str_of {h:Heap} {k:AV} {x t} (dk:k.isD=true) (hk:Val ρ n h k (.str x t)):∃ z,k=.str z∧x=T z:=by
 cases k with
 | str z=>obtain ⟨t',e⟩:=hk; injection e with e _; exact ⟨_,rfl,e⟩
 | int=>obtain ⟨t',e⟩:=hk; cases e
 | nil=>obtain ⟨_,_,e,_⟩:=hk; cases e
 | cons=>obtain ⟨_,_,e,_⟩:=hk; cases e
 | _=>cases dk
section
variable {d:Addr} {o:Obj} {es:Array DictEntry} {ep:Nat} {kvs:List (AV×AV)} {k:AV} {key:Value} {Q:Option Nat→Shared→Prop}
theorem find_value {x t} (hu:A.units + 20 < cLine) (dk:k.isD=true) (hkey:Val ρ n s.heap k (.str x t))
  (ho:s.heap.get? d=some o) (hd:o.data=.dict es ep) (R:Ents w ρ n s.heap kvs es)
  (hnone:(∀ (j:Nat) (v:AV),kvs[j]?≠some (k,v))→Q none s) (hsome:∀ (j:Nat) (v:AV),kvs[j]?=some (k,v)→Q (some j) s) :
  wpAny (model prog w) A (foundByValue d (.str x t) es x) Q E s:=by
 obtain ⟨z,rfl,rfl⟩:=str_of dk hkey
 unfold foundByValue
 cases hf:es.findIdx? (fun e=>e.key.isStr (T z)) with
 | none =>
  refine wpAny_pure (hnone fun j v hj=>?_)
  obtain ⟨e,he,_,dp,xp,_⟩:=R.get' hj
  have:=Array.findIdx?_eq_none_iff.mp hf e (Array.mem_of_getElem? he)
  rw [(isStr_iff dp xp).mpr rfl] at this; cases this
 | some i =>
  obtain ⟨hlt,hi,_⟩:=Array.findIdx?_eq_some_iff_getElem.mp hf
  obtain ⟨⟨k',v'⟩,hkv,hhash,dk',xk',_⟩:=R.get (Array.getElem?_eq_getElem hlt)
  obtain rfl:k'=.str z:=(isStr_iff dk' xk').mp hi
  refine wp_opt (Array.getElem?_eq_getElem hlt) ?_
  refine wp_same hu ho hd dk' dk xk' hkey ?_
  rw [decide_eq_true rfl]
  exact wpAny_bind (wpAny_rule (wpAny_pure (hsome i _ hkv)))
noncomputable def Hit (kvs:List (AV×AV)) (k:AV) (Y:Prop) (i:Nat) (hit:Option Nat):Prop:=(hit=none∧∀ j v,j < i→kvs[j]?≠some (k,v))∨Ex2 fun j v=>Y∧hit=some j∧j < i∧kvs[j]?=some (k,v)
theorem nokey (R:Ents w ρ n s.heap kvs es) {j:Nat} (h:((es[j]?.map (·.hash)) == some (hashAV w k))=false) (v:AV):kvs[j]?≠some (k,v):=by
 intro hj
 obtain ⟨e,he,hh,_⟩:=R.get' hj
 rw [he] at h; simp [hh] at h
theorem Hit.up (R:Ents w ρ n s.heap kvs es) {Y:Prop} {i x:Nat} {hit:Option Nat} (H:Hit kvs k Y i hit) (hix:i≤x) (hs:∀ j,i≤j→j < x→((es[j]?.map (·.hash)) == some (hashAV w k))=false):Hit kvs k Y x hit:=by
 rcases H with ⟨h0,hno⟩ | ⟨j,p,y,h1,hji,hj⟩
 ·refine .inl ⟨h0,fun j p hjx=>?_⟩
  rcases Nat.lt_or_ge j i with h | h
  ·exact hno j p h
  ·exact nokey R (hs j h hjx) p
 ·exact .inr ⟨j,p,y,h1,Nat.lt_of_lt_of_le hji hix,hj⟩
theorem Hit.succ {Y:Prop} {x:Nat} {hit:Option Nat} {k' v':AV} (H:Hit kvs k Y x hit) (hkv:kvs[x]?=some (k',v')) (hne:¬ k'=k):Hit kvs k Y (x + 1) hit:=by
 rcases H with ⟨h0,hno⟩ | ⟨j,p,y,h1,hjx,hj⟩
 ·refine .inl ⟨h0,fun j p hjx hj=>?_⟩
  rcases Nat.lt_or_ge j x with h | h
  ·exact hno j p h hj
  ·have hjx':j=x:=by lia
   rw [hjx',hkv] at hj
   injection hj with hj
   injection hj with hj
   exact hne hj
 ·exact .inr ⟨j,p,y,h1,Nat.lt_succ_of_lt hjx,hj⟩
theorem find_loop {β:Type} (emb:Option Nat→β) (Y:Prop) (R:Ents w ρ n s.heap kvs es)
  (hnone:(∀ (j:Nat) (v:AV),kvs[j]?≠some (k,v))→Q none s) (hsome:∀ (j:Nat) (v:AV),kvs[j]?=some (k,v)→Q (some j) s)
  {f:Nat→Option (Option Nat)×β→Sem (ForInStep (Option (Option Nat)×β))} {g:Option (Option Nat)×β→Sem (Option Nat)}
  (hf0:∀ x e hit,es[x]?=some e→¬ (e.hash == hashAV w k)=true→∀ R':ForInStep (Option (Option Nat)×β)→Shared→Prop,R' (.yield (none,emb hit)) s→wpAny (model prog w) A (f x (none,emb hit)) R' E s)
  (hf1:∀ x e hit,es[x]?=some e→(e.hash == hashAV w k)=true→∀ (k':AV),k'.isD=true→Val ρ n s.heap k' e.key→∀ R':ForInStep (Option (Option Nat)×β)→Shared→Prop,
   (k'=k→(Y→R' (.yield (none,emb (some x))) s)∧R' (.done (some (some x),emb hit)) s)→(¬ k'=k→R' (.yield (none,emb hit)) s)→(k'=k→hit=none)→wpAny (model prog w) A (f x (none,emb hit)) R' E s)
  (hg1:∀ b hit,Q b s→wpAny (model prog w) A (g (some b,hit)) Q E s) (hg0:∀ hit,(hit=none∨Y)→Q hit s→wpAny (model prog w) A (g (none,emb hit)) Q E s) :
  wpAny (model prog w) A (forIn (placesWithHash es.size (fun i=>es[i]?.map (·.hash)) (hashAV w k)) (none,emb none) f >>= g) Q E s:=by
 refine wpAny_bind ?_
 refine wpAny_forIn_list _
  (fun rest b s'=>s'=s∧Ex2 fun i hit=>And4 (b=(none,emb hit)) (rest=(List.range' i (es.size - i)).filter (fun i=>(es[i]?.map (·.hash)) == some (hashAV w k))) (i≤es.size) (Hit kvs k Y i hit)) _ ?_ ?_ _ _
  ⟨rfl,0,none,rfl,by rw [placesWithHash,List.range_eq_range',Nat.sub_zero],Nat.zero_le _,.inl ⟨rfl,fun _ _ h=>absurd h (Nat.not_lt_zero _)⟩⟩
 ·rintro x rest b s' ⟨rfl,i,hit,rfl,hr,hi,hH⟩
  obtain ⟨hix,hxn,hpx,hskip,hrest⟩:=filter_range'_cons _ _ _ _ _ hr.symm
  have hlt:x < es.size:=by lia
  have hrest':rest=(List.range' (x + 1) (es.size - (x + 1))).filter (fun i=>(es[i]?.map (·.hash)) == some (hashAV w k)):=by rw [hrest]; congr 2; lia
  have hex:es[x]?=some es[x]:=Array.getElem?_eq_getElem hlt
  obtain ⟨⟨k',v'⟩,hkv,hhash,dk',xk',_⟩:=R.get hex
  replace hH:=hH.up R hix hskip
  by_cases hh:(es[x].hash == hashAV w k)=true
  ·refine hf1 x _ hit hex hh k' dk' xk' _ (fun e=>?_) (fun e=>⟨rfl,x + 1,hit,rfl,hrest',hlt,hH.succ hkv e⟩) (fun e=>?_)
   ·rw [e] at hkv
    exact ⟨fun y=>⟨rfl,x + 1,some x,rfl,hrest',hlt,.inr ⟨x,_,y,rfl,Nat.lt_succ_self x,hkv⟩⟩,hg1 _ _ (hsome x _ hkv)⟩
   ·rcases hH with ⟨h0,_⟩ | ⟨j,p,_,_,hjx,hj⟩
    ·exact h0
    ·rw [e] at hkv; exact absurd (keys_unique R.nodup hj hkv) (Nat.ne_of_lt hjx)
  ·refine hf0 x _ hit hex hh _ ⟨rfl,x + 1,hit,rfl,hrest',hlt,hH.succ hkv fun e=>hh ?_⟩
   rw [hhash,e]; exact beq_self_eq_true _
 ·rintro b s' ⟨rfl,i,hit,rfl,hr,hi,hH⟩
  replace hH:=hH.up R hi fun j h1 h2=>by
   simpa using List.filter_eq_nil_iff.mp hr.symm j (List.mem_range'_1.mpr ⟨h1,by lia⟩)
  rcases hH with ⟨h0,hno⟩ | ⟨j,p,y,h0,_,hj⟩
  ·rw [h0]
   refine hg0 _ (.inl rfl) (hnone fun j v hj=>hno j v ?_ hj)
   rw [R.size]; exact (List.getElem?_eq_some_iff.mp hj).1
  ·rw [h0]; exact hg0 _ (.inr y) (hsome j p hj)
theorem find_walk (hu:A.units + 20 < cLine) (dk:k.isD=true) (hkey:Val ρ n s.heap k key)
  (ho:s.heap.get? d=some o) (hd:o.data=.dict es ep) (R:Ents w ρ n s.heap kvs es)
  (hnone:(∀ (j:Nat) (v:AV),kvs[j]?≠some (k,v))→Q none s) (hsome:∀ (j:Nat) (v:AV),kvs[j]?=some (k,v)→Q (some j) s) :
  wpAny (model prog w) A (dictWalkPlain d key (hashAV w k) es (placesWithHash es.size (fun i=>es[i]?.map (·.hash)) (hashAV w k))) Q E s:=by
 refine find_loop (fun _=>()) False R hnone hsome ?_ ?_ (fun b hit q=>wpAny_pure q) ?_
 ·intro x e hit he hh R' hR
  refine wp_opt he ?_
  exact wp_ifn hh (wpAny_pure hR)
 ·intro x e hit he hh k' dk' xk' R' hy hn hnn
  refine wp_opt he ?_
  refine wp_ifp hh ?_
  refine wp_same hu ho hd dk' dk xk' hkey ?_
  by_cases hkk:k'=k
  ·rw [decide_eq_true hkk]
   exact wpAny_bind (wpAny_rule (wpAny_pure (hy hkk).2))
  ·rw [decide_eq_false hkk]
   exact wpAny_bind (wpAny_rule (wpAny_pure (hn hkk)))
 ·rintro _ (rfl | f) q
  ·exact wpAny_pure q
  ·exact f.elim
theorem find_data (hu:A.units + 20 < cLine) (dk:k.isD=true) (hkey:Val ρ n s.heap k key)
  (ho:s.heap.get? d=some o) (hd:o.data=.dict es ep) (R:Ents w ρ n s.heap kvs es)
  (hnone:(∀ (j:Nat) (v:AV),kvs[j]?≠some (k,v))→Q none s) (hsome:∀ (j:Nat) (v:AV),kvs[j]?=some (k,v)→Q (some j) s) :
  wpAny (model prog w) A (dictFind d key (hashAV w k)) Q E s:=by
 have hst:∀ v∈(placesWithHash es.size (fun i=>es[i]?.map (·.hash)) (hashAV w k)).filterMap (fun i=>es[i]?.map (·.key)),∃ b:AV,b.isD=true∧Val ρ n s.heap b v:=by
  intro v hv
  obtain ⟨i,_,hi⟩:=List.mem_filterMap.mp hv
  obtain ⟨e,hei,he⟩:=Option.map_eq_some_iff.mp hi
  obtain ⟨p,_,_,dp,xp,_⟩:=R.get hei
  exact ⟨p.1,dp,he ▸ xp⟩
 have hany:¬ (es.any fun e=>e.key == key && e.hash != hashAV w k)=true:=by
  rw [← Array.any_toList,List.any_eq_true]
  rintro ⟨e,hin,hc⟩
  obtain ⟨j,hj⟩:=Array.mem_iff_getElem?.mp (Array.mem_toList_iff.mp hin)
  obtain ⟨p,_,hh,dp,xp,_⟩:=R.get hj
  simp only [Bool.and_eq_true,beq_iff_eq,bne_iff_ne,ne_eq] at hc
  obtain ⟨hxa,hne⟩:=hc
  rw [hxa] at xp
  exact hne (by rw [hh,val_inj dp dk xp hkey])
 unfold dictFind
 try with_reducible refine wpAny_holding ?_
 refine wpAny_bind (wpAny_dictEntries ho hd ?_)
 refine wp_str (fun x t e=>by subst e; exact find_value hu dk hkey ho hd R hnone hsome) ?_
 refine wpAny_ite_split (fun _=>find_walk hu dk hkey ho hd R hnone hsome) fun _=>?_
 refine wp_ref hany ?_
 refine wp_if_jp (wpAny_pure ⟨rfl,rfl⟩) (mayTell_data dk hkey hst ⟨rfl,rfl⟩) ?_
 refine wp_ifn (by simp) ?_
 refine find_loop id True R hnone hsome ?_ ?_ (fun b hit q=>wpAny_pure q) (fun hit _ q=>wpAny_pure q)
 ·intro x e hit he hh R' hR
  refine wp_opt he ?_
  exact wp_ifn hh (wpAny_pure hR)
 ·intro x e hit he hh k' dk' xk' R' hy hn hnn
  refine wp_opt he ?_
  refine wp_ifp hh ?_
  refine wp_same hu ho hd dk' dk xk' hkey ?_
  by_cases hkk:k'=k
  ·rw [decide_eq_true hkk]
   obtain rfl:=hnn hkk
   obtain ⟨y1,y2⟩:=hy hkk
   refine wpAny_bind (wpAny_rule ?_)
   exact wpAny_ite_split (fun _=>wpAny_pure y2) fun _=>wpAny_pure (y1 trivial)
  ·rw [decide_eq_false hkk]
   refine wpAny_bind (wpAny_rule ?_)
   exact wpAny_pure (hn hkk)
end
end
end Mine
namespace Mine
section
set_option maxRecDepth 100000
open PySem PySem.W PyProof.Rows PySem.Calls
variable {prog:PySem.Program} {w:World} {A:Around} {E:Value→Shared→Prop} {s:Shared} {ρ:Nat→Addr} {n:Nat}
theorem kget_some {kvs:List (AV×AV)} {k v:AV} (hn:(kvs.map (·.1)).Nodup):∀ {j:Nat},kvs[j]?=some (k,v)→kget kvs k=some v:=by
 induction kvs with
 | nil=>intro j h; simp at h
 | cons p r ih =>
  intro j h
  obtain ⟨y,u⟩:=p
  rw [List.map_cons,List.nodup_cons] at hn
  rw [kget_c]
  cases j with
  | zero=>simp only [List.getElem?_cons_zero,Option.some.injEq,Prod.mk.injEq] at h; obtain ⟨rfl,rfl⟩:=h; rw [if_pos rfl]
  | succ j =>
   simp only [List.getElem?_cons_succ] at h
   have:y≠k:=fun e=>hn.1 (e ▸ List.mem_map.mpr ⟨_,List.mem_of_getElem? h,rfl⟩)
   rw [if_neg this]; exact ih hn.2 h
theorem kget_none {kvs:List (AV×AV)} {k:AV} (h:∀ (j:Nat) (v:AV),kvs[j]?≠some (k,v)):kget kvs k=none:=by
 induction kvs with
 | nil=>rfl
 | cons p r ih =>
  obtain ⟨y,u⟩:=p
  rw [kget_c]
  have:y≠k:=fun e=>h 0 u (by rw [e]; rfl)
  rw [if_neg this]; exact ih fun j v e=>h (j + 1) v (by simpa using e)
theorem kput_new {kvs:List (AV×AV)} {k v:AV} (h:∀ (j:Nat) (v:AV),kvs[j]?≠some (k,v)):kput kvs k v=kvs++[(k,v)]:=by
 induction kvs with
 | nil=>rfl
 | cons p r ih =>
  obtain ⟨y,u⟩:=p
  rw [kput_c]
  have:y≠k:=fun e=>h 0 u (by rw [e]; rfl)
  rw [if_neg this,ih fun j v e=>h (j + 1) v (by simpa using e)]; rfl
theorem kput_old {kvs:List (AV×AV)} {k v:AV} (hn:(kvs.map (·.1)).Nodup):∀ {j:Nat} {u:AV},kvs[j]?=some (k,u)→kput kvs k v=kvs.set j (k,v):=by
 induction kvs with
 | nil=>intro j u h; simp at h
 | cons p r ih =>
  intro j u h
  obtain ⟨y,u'⟩:=p
  rw [List.map_cons,List.nodup_cons] at hn
  rw [kput_c]
  cases j with
  | zero=>simp only [List.getElem?_cons_zero,Option.some.injEq,Prod.mk.injEq] at h; obtain ⟨rfl,rfl⟩:=h; rw [if_pos rfl]; rfl
  | succ j =>
   simp only [List.getElem?_cons_succ] at h
   have:y≠k:=fun e=>hn.1 (e ▸ List.mem_map.mpr ⟨_,List.mem_of_getElem? h,rfl⟩)
   rw [if_neg this,ih hn.2 h]; rfl
theorem kput_keys {kvs:List (AV×AV)} {k v:AV} (hn:(kvs.map (·.1)).Nodup):((kput kvs k v).map (·.1)).Nodup:=by
 induction kvs with
 | nil=>simp [kput_n,kput_c]
 | cons p r ih =>
  obtain ⟨y,u⟩:=p
  rw [List.map_cons,List.nodup_cons] at hn
  rw [kput_c]
  set_option tactic.hygienic true in split
  ·rw [List.map_cons,List.nodup_cons]; exact hn
  ·rename_i hy
   rw [List.map_cons,List.nodup_cons]
   refine ⟨fun m=>?_,ih hn.2⟩
   have key:∀ l:List (AV×AV),∀ z,z∈(kput l k v).map (·.1)→z=k∨z∈l.map (·.1):=by
    intro l
    induction l with
    | nil=>intro z hz; simp [kput_n,kput_c] at hz; exact .inl hz
    | cons q t iht =>
     intro z hz
     obtain ⟨q1,q2⟩:=q
     rw [kput_c] at hz
     set_option tactic.hygienic true in split at hz
     ·exact .inr hz
     ·rw [List.map_cons] at hz ⊢
      rcases List.mem_cons.mp hz with e | hz
      ·exact .inr (e ▸ .head _)
      ·exact (iht z hz).imp id fun h=>.tail _ h
   rcases key r y m with e | m
   ·exact hy e
   ·exact hn.1 m
noncomputable abbrev dobj (es:Array DictEntry) (ep:Nat):Obj:=⟨.type "dict",none,.dict es ep,#[]⟩
noncomputable def PutR (w:World) (kvs:List (AV×AV)) (es:Array DictEntry) (k:AV) (key v:Value) (es':Array DictEntry) (ep ep':Nat):Prop :=
 ((∀ (j:Nat) (v:AV),kvs[j]?≠some (k,v))∧es'=es.push ⟨hashAV w k,key,v⟩) ∨
 Ex2 fun (j:Nat) (u:AV)=>kvs[j]?=some (k,u)∧(es'=es.modify j fun e=>{ e with val:=v })∧ep'=ep
theorem Ents.put {h h':Heap} {ρ':Nat→Addr} {n':Nat} {kvs:List (AV×AV)} {es es':Array DictEntry} {ep ep':Nat} {k a:AV} {key v:Value} (R:Ents w ρ n h kvs es) (dk:k.isD=true)
  (per:∀ x u,Val ρ n h x u→Val ρ' n' h' x u) (hk:Val ρ' n' h' k key) (hv:Val ρ' n' h' a v) (p:PutR w kvs es k key v es' ep ep'):Ents w ρ' n' h' (kput kvs k a) es':=by
 rcases p with ⟨hno,rfl⟩ | ⟨j,u,hj,rfl,_⟩
 ·refine ⟨by rw [kput_new hno]; simp [R.size],fun i e p he hp=>?_,kput_keys R.nodup⟩
  rw [kput_new hno] at hp
  rw [Array.getElem?_push] at he
  rw [List.getElem?_append] at hp
  set_option tactic.hygienic true in split at he
  ·rename_i hi
   have hi':i=kvs.length:=by rw [← R.size]; exact hi
   rw [hi',if_neg (Nat.lt_irrefl _)] at hp
   simp at hp; cases he; cases hp
   exact ⟨rfl,dk,hk,hv⟩
  ·rename_i hi
   have hlt:i < kvs.length:=by
    rcases Nat.lt_or_ge i kvs.length with h | h
    ·exact h
    ·rw [Array.getElem?_eq_none (by rw [R.size]; exact h)] at he; cases he
   rw [if_pos hlt] at hp
   obtain ⟨a1,a2,a3,a4⟩:=R.ent i e p he hp
   exact ⟨a1,a2,per _ _ a3,per _ _ a4⟩
 ·refine ⟨by rw [kput_old R.nodup hj]; simp [R.size],fun i e p he hp=>?_,kput_keys R.nodup⟩
  rw [kput_old R.nodup hj,List.getElem?_set] at hp
  rw [Array.getElem?_modify] at he
  by_cases hij:j=i
  ·subst hij
   rw [if_pos rfl] at hp
   set_option tactic.hygienic true in split at hp
   ·rename_i hlt
    obtain ⟨e0,he0,b1,b2,b3,b4⟩:=R.get' hj
    rw [he0] at he
    simp at he
    cases hp
    subst he
    exact ⟨b1,b2,per _ _ b3,hv⟩
   ·cases hp
  ·rw [if_neg hij] at hp
   have he':es[i]?=some e:=by
    cases q:es[i]? with
    | none=>rw [q] at he; simp at he
    | some e0=>rw [q] at he; simp [hij] at he; rw [he]
   obtain ⟨a1,a2,a3,a4⟩:=R.ent i e p he' hp
   exact ⟨a1,a2,per _ _ a3,per _ _ a4⟩
theorem Ents.mono {h h':Heap} {ρ':Nat→Addr} {n':Nat} {kvs:List (AV×AV)} {es:Array DictEntry} (R:Ents w ρ n h kvs es) (per:∀ x u,Val ρ n h x u→Val ρ' n' h' x u):Ents w ρ' n' h' kvs es :=
 ⟨R.size,fun i e p he hp=>let ⟨a1,a2,a3,a4⟩:=R.ent i e p he hp; ⟨a1,a2,per _ _ a3,per _ _ a4⟩,R.nodup⟩
theorem hash_data {k:AV} {key:Value} {Q:Int→Shared→Prop} (hu:A.units + 20 < cLine) (dk:k.isD=true) (hkey:Val ρ n s.heap k key) (h:∀ tk,Q (hashAV w k) { s with toks:=tk }) :
  wpAny (model prog w) A (pyHash key) Q E s:=pyHash_data 6 (isD_8 dk) (by lia) (isD_0 dk) hkey h
theorem dictGet_data {d:Addr} {es ep} {kvs:List (AV×AV)} {k:AV} {key:Value} {Q:Option Value→Shared→Prop} (hu:A.units + 20 < cLine) (dk:k.isD=true) (hkey:Val ρ n s.heap k key)
  (ho:s.heap.get? d=some (dobj es ep)) (R:Ents w ρ n s.heap kvs es)
  (hnone:∀ tk,kget kvs k=none→Q none { s with toks:=tk }) (hsome:∀ tk v u,kget kvs k=some v→Val ρ n s.heap v u→Q (some u) { s with toks:=tk }) :
  wpAny (model prog w) A (dictGet d key) Q E s:=by
 unfold dictGet
 try with_reducible refine wpAny_holding ?_
 refine wpAny_bind (hash_data hu dk hkey fun tk=>wpAny_bind (find_data (s:={ s with toks:=tk }) hu dk hkey ho rfl R ?_ ?_))
 ·intro hno
  exact wpAny_pure (hnone tk (kget_none hno))
 ·intro j v hj
  obtain ⟨e,he,_,_,_,hv⟩:=R.get' hj
  refine wpAny_bind (wpAny_dictEntries (s:={ s with toks:=tk }) ho rfl ?_)
  rw [he]
  exact wpAny_pure (hsome tk v e.val (kget_some R.nodup hj) hv)
theorem dictSetHashed_data {d:Addr} {es ep} {kvs:List (AV×AV)} {k:AV} {key v:Value} {Q:Unit→Shared→Prop} (hu:A.units + 20 < cLine) (dk:k.isD=true) (hkey:Val ρ n s.heap k key)
  (ho:s.heap.get? d=some (dobj es ep)) (R:Ents w ρ n s.heap kvs es) (hz:kvs.length≤sizeLine)
  (h:∀ h' es' ep',Heap.SameBut d s.heap h'→h'.get? d=some (dobj es' ep')→PutR w kvs es k key v es' ep ep'→Q () { s with heap:=h' }) :
  wpAny (model prog w) A (dictSetHashed d key (hashAV w k) v) Q E s:=by
 unfold dictSetHashed
 try with_reducible refine wpAny_holding ?_
 refine wpAny_bind (find_data hu dk hkey ho rfl R ?_ ?_)
 ·intro hno
  refine wpAny_bind (wpAny_rule (wpAny_updateDictKeys (hz:=by rw [R.size]; exact hz) ho rfl (h _ _ _ (Heap.SameBut.update ..) (Heap.get?_update_self _ ho rfl) (.inl ⟨hno,rfl⟩))))
 ·intro j u hj
  exact wpAny_bind (wpAny_rule (wpAny_bind (wpAny_updateDict ho rfl (wpAny_point (h _ _ _ (Heap.SameBut.update ..) (Heap.get?_update_self _ ho rfl) (.inr ⟨j,u,hj,rfl,rfl⟩))))))
theorem dictSet_data {d:Addr} {es ep} {kvs:List (AV×AV)} {k:AV} {key v:Value} {Q:Unit→Shared→Prop} (hu:A.units + 20 < cLine) (dk:k.isD=true) (hkey:Val ρ n s.heap k key)
  (ho:s.heap.get? d=some (dobj es ep)) (R:Ents w ρ n s.heap kvs es) (hz:kvs.length≤sizeLine)
  (h:∀ h' tk es' ep',Heap.SameBut d s.heap h'→h'.get? d=some (dobj es' ep')→PutR w kvs es k key v es' ep ep'→Q () { s with heap:=h',toks:=tk }) :
  wpAny (model prog w) A (dictSet d key v) Q E s:=by
 unfold dictSet
 try with_reducible refine wpAny_holding ?_
 refine wpAny_bind (hash_data hu dk hkey fun tk=>?_)
 exact dictSetHashed_data (s:={ s with toks:=tk }) hu dk hkey ho R hz fun h' es' ep' a b c=>h h' tk es' ep' a b c
theorem dictSetDefault_data {d:Addr} {es ep} {kvs:List (AV×AV)} {k:AV} {key dflt:Value} {Q:Value→Shared→Prop} (hu:A.units + 20 < cLine) (dk:k.isD=true) (hkey:Val ρ n s.heap k key)
  (ho:s.heap.get? d=some (dobj es ep)) (R:Ents w ρ n s.heap kvs es) (hz:kvs.length≤sizeLine)
  (hthere:∀ tk v u,kget kvs k=some v→Val ρ n s.heap v u→Q u { s with toks:=tk })
  (hnew:∀ h' tk es' ep',kget kvs k=none→Heap.SameBut d s.heap h'→h'.get? d=some (dobj es' ep')→PutR w kvs es k key dflt es' ep ep'→Q dflt { s with heap:=h',toks:=tk }) :
  wpAny (model prog w) A (dictSetDefault d key dflt) Q E s:=by
 unfold dictSetDefault
 try with_reducible refine wpAny_holding ?_
 refine wpAny_bind (hash_data hu dk hkey fun tk=>?_)
 refine wpAny_bind (find_data (s:={ s with toks:=tk }) hu dk hkey ho rfl R ?_ ?_)
 ·intro hno
  refine wpAny_bind (wpAny_rule (wpAny_bind (wpAny_updateDictKeys (s:={ s with toks:=tk }) (hz:=by rw [R.size]; exact hz) ho rfl (wpAny_pure (hnew _ _ _ _ (kget_none hno) (Heap.SameBut.update ..) (Heap.get?_update_self _ ho rfl) (.inl ⟨hno,rfl⟩))))))
 ·intro j v hj
  obtain ⟨e,he,_,_,_,hv⟩:=R.get' hj
  refine wpAny_bind (wpAny_dictEntries (s:={ s with toks:=tk }) ho rfl ?_)
  rw [he]
  exact wpAny_bind (wpAny_rule (wpAny_pure (hthere tk v e.val (kget_some R.nodup hj) hv)))
end
end Mine
namespace Mine
section
set_option maxRecDepth 100000
open PySem PySem.W PyProof.Rows PySem.Calls
variable {prog:PySem.Program} {w:World} {A:Around} {E:Value→Shared→Prop} {s:Shared} {ρ:Nat→Addr} {n:Nat}
noncomputable def DAt (h:Heap) (d:Addr) (es:Array DictEntry) (ep:Nat):Prop:=h.get? d=some (dobj es ep)
theorem dobj_typeIs {d:Addr} {es ep} (h:DAt s.heap d es ep):s.TypeIs (.ref d) "dict":=⟨_,h,rfl⟩
theorem iter_keys {d:Addr} {es:Array DictEntry} {ep:Nat} {Q:Value→Shared→Prop} (hd:(d == sysModules)=false) (ho:DAt s.heap d es ep)
  (h:∀ h',h'.IsKeyIter s.heap.objs.size d 0 es.size ep→(∀ b o,s.heap.get? b=some o→h'.get? b=some o)→Q (.ref s.heap.objs.size) { s with heap:=h' }) :
  wpAny (model prog w) A (pyIter (.ref d)) Q E s:=by
 have hT:=dobj_typeIs ho
 refine wpAny_pyIter_slot hT F.slot_dict_iter (wpAny_call_entry F.slot_dict_iter hT F.entry_dict_iter ?_ (F.args_dict_iter_1 _))
 refine wpAny_bind (wpAny_bind (wpAny_notOrdered_dict hT (wpAny_pure (a:=Value.ref d) ?_)))
 show wpAny _ _ (Builtin.Dict.showsAll d >>= _) _ _ s
 unfold Builtin.Dict.showsAll
 rw [if_neg (by rw [hd]; exact Bool.false_ne_true)]
 refine wpAny_bind (wpAny_pure (wpAny_bind (wpAny_dictEntries ho rfl (wpAny_bind (wpAny_dictEpoch ho rfl ?_)))))
 exact wpAny_bind (wpAny_newObj_type (wpAny_pure ⟨_,rfl,"dict_keyiterator",_,⟨_,Heap.get?_push_size _ rfl,rfl⟩,F.slot_dict_keyiterator_next.lookup,
  h _ ⟨_,Heap.get?_push_size _ rfl,rfl,rfl⟩ fun b o e=>Heap.get?_push_of_some _ e⟩))
theorem next_keys {it d:Addr} {i ep:Nat} {es:Array DictEntry} {Q:Option Value→Shared→Prop} (hit:s.heap.IsKeyIter it d i es.size ep) (hm:DAt s.heap d es ep) (hx:i < es.size)
  (hQ:∀ h',h'.IsKeyIter it d (i + 1) es.size ep→Heap.SameBut it s.heap h'→Q (some es[i].key) { s with heap:=h' }):wpAny (model prog w) A (pyNext (.ref it)) Q E s:=by
 obtain ⟨o,ho,hc,hd⟩:=id hit
 unfold pyNext
 refine wpAny_bind (wpAny_attempt (wpAny_callSpecial?_slot (name:=Str.ofString "__next__") hit.typeIs F.slot_dict_keyiterator_next
  (wpAny_call_entry F.slot_dict_keyiterator_next hit.typeIs F.entry_dict_keyiterator_next ?_ (F.args_dict_keyiterator_next_1 _))))
 refine wpAny_bind (wpAny_pure (wpAny_bind (wpAny_bind (wpAny_bind (wpAny_typeNameOfWhole_keyiter hit.typeIs (wpAny_pure (wpAny_bind (wpAny_fieldsOf ho hd ?_))))))))
 simp only [show Builtin.Dict_items.ownsTuple "dict_keyiterator"=false by decide,Bool.false_eq_true,if_false]
 show wpAny _ _ (if (Value.ref d == Value.none)=true then _ else _) _ _ s
 rw [if_neg (show ¬ ((Value.ref d == Value.none)=true) from Bool.false_ne_true)]
 refine wpAny_bind (wpAny_pure (wpAny_bind (wpAny_dictEntries hm rfl ?_)))
 rw [if_neg (by simp)]
 refine wpAny_bind (wpAny_pure (wpAny_bind (wpAny_dictEpoch hm rfl ?_)))
 rw [if_neg (by simp)]
 refine wpAny_pure ?_
 simp only [show ¬ ((i:Int) < 0) from by lia,if_false,Int.toNat_natCast,Array.getElem?_eq_getElem hx]
 refine wpAny_bind (wpAny_bind (wpAny_typeNameOfWhole_keyiter hit.typeIs (wpAny_pure (wpAny_bind (wpAny_isOneOf_keyiter hit.typeIs ?_)))))
 show wpAny _ _ (setField (.ref it) 1 (rawInt ((i:Int) + 1)) >>= _) _ _ s
 refine wpAny_bind (wpAny_setField ho hd (by simp) ?_)
 have hit':(s.heap.update it (Obj.mapFields (·.setIfInBounds 1 (rawInt ((i:Int) + 1))))).IsKeyIter it d (i + 1) es.size ep :=
  ⟨_,Heap.get?_update_self _ ho (Obj.isFreed_of_fields (Obj.data_mapFields hd _)),(Obj.cls_mapFields ..).trans hc,by rw [Obj.data_mapFields hd]; simp [rawInt]⟩
 refine wpAny_bind (wpAny_holding (wpAny_bind (wpAny_isOneOf_keyiter (s:={ s with heap:=s.heap.update it (Obj.mapFields (·.setIfInBounds 1 (rawInt ((i:Int) + 1)))) }) hit'.typeIs ?_)))
 show wpAny _ _ (pure es[i].key) _ _ _
 exact wpAny_pure (wpAny_pure ⟨_,rfl,wpAny_pure (hQ _ hit' (Heap.SameBut.update ..))⟩)
theorem stop_here {it:Addr} {o:Obj} {vs:Array Value} {A':Around} {Q:Option Value→Shared→Prop} (hh:A'.handled=none) (ho:s.heap.get? it=some o) (hd:o.data=.fields vs) (hv:0 < vs.size)
  (hQ:∀ h',Heap.ExtBut it s.heap h'→Q none { s with heap:=h' }) :
  wpAny (model prog w) A' (do setField (.ref it) 0 .none; raiseNew (← newExc (.type "StopIteration") []):Sem Fin) (fun _ _=>False)
   (fun e s'=>wpAny (model prog w) A (isInstance e (.type "StopIteration")) (fun b s''=>b=true∧Q none s'') E s') s:=by
 refine wpAny_bind (wpAny_setField ho hd hv ?_)
 refine wpAny_bind ?_
 simp only [newExc,newTuple]
 refine wpAny_bind (wpAny_newObj_type ?_ (by size_fits))
 refine wpAny_bind (m:=firstArgMember _ _) (wpAny_of_eq (a:=Value.none) (by first | rfl | (simp only [firstArgMember]; rfl)) ?_)
 refine wpAny_newObj_type ?_ (by size_fits)
 simp only [raiseNew]
 refine wpAny_bind (wpAny_handled ?_)
 rw [hh]
 refine wpAny_bind (wpAny_pure (wpAny_throw ?_))
 exact wpAny_isInstance (T:="StopIteration") (b:=true) ⟨_,Heap.get?_push_size _ rfl,rfl⟩ isSubtype_stop ⟨rfl,hQ _ (((Heap.SameBut.update ..).extBut.push _).push _)⟩
theorem end_keys {it d:Addr} {i ep:Nat} {es:Array DictEntry} {Q:Option Value→Shared→Prop} (hh:A.handled=none) (hit:s.heap.IsKeyIter it d i es.size ep) (hm:DAt s.heap d es ep) (hx:es.size≤i)
  (hQ:∀ h',Heap.ExtBut it s.heap h'→Q none { s with heap:=h' }):wpAny (model prog w) A (pyNext (.ref it)) Q E s:=by
 obtain ⟨o,ho,hc,hd⟩:=id hit
 unfold pyNext
 refine wpAny_bind (wpAny_attempt (wpAny_callSpecial?_slot (name:=Str.ofString "__next__") hit.typeIs F.slot_dict_keyiterator_next
  (wpAny_call_entry F.slot_dict_keyiterator_next hit.typeIs F.entry_dict_keyiterator_next ?_ (F.args_dict_keyiterator_next_1 _))))
 refine wpAny_bind (wpAny_pure (wpAny_bind (wpAny_bind (wpAny_bind (wpAny_typeNameOfWhole_keyiter hit.typeIs (wpAny_pure (wpAny_bind (wpAny_fieldsOf ho hd ?_))))))))
 simp only [show Builtin.Dict_items.ownsTuple "dict_keyiterator"=false by decide,Bool.false_eq_true,if_false]
 show wpAny _ _ (if (Value.ref d == Value.none)=true then _ else _) _ _ s
 rw [if_neg (show ¬ ((Value.ref d == Value.none)=true) from Bool.false_ne_true)]
 refine wpAny_bind (wpAny_pure (wpAny_bind (wpAny_dictEntries hm rfl ?_)))
 rw [if_neg (by simp)]
 refine wpAny_bind (wpAny_pure (wpAny_bind (wpAny_dictEpoch hm rfl ?_)))
 rw [if_neg (by simp)]
 refine wpAny_pure ?_
 simp only [show ¬ ((i:Int) < 0) from by lia,if_false,Int.toNat_natCast,Array.getElem?_eq_none hx]
 refine wpAny_bind (wpAny_bind (wpAny_typeNameOfWhole_keyiter hit.typeIs (wpAny_pure ?_)))
 refine wpAny_mono (stop_here (A:=A) (E:=E) hh ho hd (by simp) hQ) (fun _ _ f=>f.elim) fun e s' z=>?_
 refine wpAny_bind (wpAny_mono z (fun b s'' y=>?_) fun _ _ x=>x)
 obtain ⟨rfl,y⟩:=y
 exact wpAny_pure y
theorem walksKeys (hh:A.handled=none) (I d:Addr) (hne:d≠I) (es:Array DictEntry) (ep:Nat) :
  Walks prog w A I [I,d] [I] es.size (fun i v=>∃ e,es[i]?=some e∧v=e.key) (fun i h=>h.IsKeyIter I d i es.size ep∧DAt h d es ep) where
 sub:=fun b hb=>by simp at hb; simp [hb]
 frame:=fun _ _ _ st hk=>⟨st.1.at fun o e=>hk I (by simp) o e,hk d (by simp) _ st.2⟩
 item:=fun i s Q E hi st hQ=>next_keys st.1 st.2 hi fun h' hit' hs' =>
  hQ _ h' s.toks ⟨_,Array.getElem?_eq_getElem hi,rfl⟩ ⟨hit',(hs'.2 d hne).trans st.2⟩ fun b o hb e=>hs'.extBut b o (fun h=>hb (by simp [h])) e
 done:=fun s Q E st hQ=>end_keys hh st.1 st.2 (Nat.le_refl _) fun h' he'=>hQ h' s.toks fun b o hb e=>he' b o (fun h=>hb (by simp [h])) e
 self:=fun _ _ _ _ st hQ=>wpAny_pyIter_keyiter st.1 hQ
end
end Mine
namespace Mine
section
set_option maxRecDepth 100000
open PySem PySem.W PyProof.Rows PySem.Calls
variable {prog:PySem.Program} {w:World} {A:Around} {E:Value→Shared→Prop} {s:Shared} {ρ:Nat→Addr} {n:Nat}
theorem iter_values {v d:Addr} {es:Array DictEntry} {ep:Nat} {Q:Value→Shared→Prop} (hv:s.heap.IsValuesView v d) (ho:DAt s.heap d es ep)
  (h:∀ h',h'.IsValIter s.heap.objs.size d 0 es.size ep→(∀ b o,s.heap.get? b=some o→h'.get? b=some o)→Q (.ref s.heap.objs.size) { s with heap:=h' }) :
  wpAny (model prog w) A (pyIter (.ref v)) Q E s:=by
 obtain ⟨ov,hov,hcv,hdv⟩:=id hv
 refine wpAny_pyIter_slot hv.typeIs F.slot_dict_values_iter (wpAny_call_entry F.slot_dict_values_iter hv.typeIs F.entry_dict_values_iter ?_ (F.args_dict_values_iter_1 _))
 unfold Builtin.«dict_values.__iter__»
 refine wpAny_bind (wpAny_pure (wpAny_bind ?_))
 unfold Builtin.Dict_items.dictOf
 refine wpAny_bind (wpAny_field hov hdv (x:=.ref d) rfl (wpAny_pure (wpAny_bind ?_)))
 unfold Builtin.Dict_items.newIterator
 refine wpAny_bind (wpAny_dictEntries ho rfl (wpAny_bind (wpAny_dictEpoch ho rfl ?_)))
 simp only [show Builtin.Dict_items.ownsTuple "dict_valueiterator"=false by decide,Bool.false_eq_true,if_false]
 exact wpAny_newObj_type (wpAny_pure ⟨_,rfl,"dict_valueiterator",_,⟨_,Heap.get?_push_size _ rfl,rfl⟩,F.slot_dict_valueiterator_next.lookup,
  h _ ⟨_,Heap.get?_push_size _ rfl,rfl,rfl⟩ fun b o e=>Heap.get?_push_of_some _ e⟩)
theorem next_values {it d:Addr} {i ep:Nat} {es:Array DictEntry} {Q:Option Value→Shared→Prop} (hit:s.heap.IsValIter it d i es.size ep) (hm:DAt s.heap d es ep) (hx:i < es.size)
  (hQ:∀ h',h'.IsValIter it d (i + 1) es.size ep→Heap.SameBut it s.heap h'→Q (some es[i].val) { s with heap:=h' }):wpAny (model prog w) A (pyNext (.ref it)) Q E s:=by
 obtain ⟨o,ho,hc,hd⟩:=id hit
 unfold pyNext
 refine wpAny_bind (wpAny_attempt (wpAny_callSpecial?_slot (name:=Str.ofString "__next__") hit.typeIs F.slot_dict_valueiterator_next
  (wpAny_call_entry F.slot_dict_valueiterator_next hit.typeIs F.entry_dict_valueiterator_next ?_ (F.args_dict_valueiterator_next_1 _))))
 refine wpAny_bind (wpAny_pure (wpAny_bind (wpAny_bind (wpAny_bind (wpAny_typeNameOfWhole_valiter hit.typeIs (wpAny_pure (wpAny_bind (wpAny_fieldsOf ho hd ?_))))))))
 simp only [show Builtin.Dict_items.ownsTuple "dict_valueiterator"=false by decide,Bool.false_eq_true,if_false]
 show wpAny _ _ (if (Value.ref d == Value.none)=true then _ else _) _ _ s
 rw [if_neg (show ¬ ((Value.ref d == Value.none)=true) from Bool.false_ne_true)]
 refine wpAny_bind (wpAny_pure (wpAny_bind (wpAny_dictEntries hm rfl ?_)))
 rw [if_neg (by simp)]
 refine wpAny_bind (wpAny_pure (wpAny_bind (wpAny_dictEpoch hm rfl ?_)))
 rw [if_neg (by simp)]
 refine wpAny_pure ?_
 simp only [show ¬ ((i:Int) < 0) from by lia,if_false,Int.toNat_natCast,Array.getElem?_eq_getElem hx]
 refine wpAny_bind (wpAny_bind (wpAny_typeNameOfWhole_valiter hit.typeIs (wpAny_pure (wpAny_bind (wpAny_isOneOf_valiter hit.typeIs ?_)))))
 show wpAny _ _ (setField (.ref it) 1 (rawInt ((i:Int) + 1)) >>= _) _ _ s
 refine wpAny_bind (wpAny_setField ho hd (by simp) ?_)
 have hit':(s.heap.update it (Obj.mapFields (·.setIfInBounds 1 (rawInt ((i:Int) + 1))))).IsValIter it d (i + 1) es.size ep :=
  ⟨_,Heap.get?_update_self _ ho (Obj.isFreed_of_fields (Obj.data_mapFields hd _)),(Obj.cls_mapFields ..).trans hc,by rw [Obj.data_mapFields hd]; simp [rawInt]⟩
 refine wpAny_bind (wpAny_holding (wpAny_bind (wpAny_isOneOf_valiter (s:={ s with heap:=s.heap.update it (Obj.mapFields (·.setIfInBounds 1 (rawInt ((i:Int) + 1)))) }) hit'.typeIs ?_)))
 refine wpAny_bind (wpAny_isOneOf_valiter (s:={ s with heap:=s.heap.update it (Obj.mapFields (·.setIfInBounds 1 (rawInt ((i:Int) + 1)))) }) hit'.typeIs ?_)
 show wpAny _ _ (pure es[i].val) _ _ _
 exact wpAny_pure (wpAny_pure ⟨_,rfl,wpAny_pure (hQ _ hit' (Heap.SameBut.update ..))⟩)
theorem end_values {it d:Addr} {i ep:Nat} {es:Array DictEntry} {Q:Option Value→Shared→Prop} (hh:A.handled=none) (hit:s.heap.IsValIter it d i es.size ep) (hm:DAt s.heap d es ep) (hx:es.size≤i)
  (hQ:∀ h',Heap.ExtBut it s.heap h'→Q none { s with heap:=h' }):wpAny (model prog w) A (pyNext (.ref it)) Q E s:=by
 obtain ⟨o,ho,hc,hd⟩:=id hit
 unfold pyNext
 refine wpAny_bind (wpAny_attempt (wpAny_callSpecial?_slot (name:=Str.ofString "__next__") hit.typeIs F.slot_dict_valueiterator_next
  (wpAny_call_entry F.slot_dict_valueiterator_next hit.typeIs F.entry_dict_valueiterator_next ?_ (F.args_dict_valueiterator_next_1 _))))
 refine wpAny_bind (wpAny_pure (wpAny_bind (wpAny_bind (wpAny_bind (wpAny_typeNameOfWhole_valiter hit.typeIs (wpAny_pure (wpAny_bind (wpAny_fieldsOf ho hd ?_))))))))
 simp only [show Builtin.Dict_items.ownsTuple "dict_valueiterator"=false by decide,Bool.false_eq_true,if_false]
 show wpAny _ _ (if (Value.ref d == Value.none)=true then _ else _) _ _ s
 rw [if_neg (show ¬ ((Value.ref d == Value.none)=true) from Bool.false_ne_true)]
 refine wpAny_bind (wpAny_pure (wpAny_bind (wpAny_dictEntries hm rfl ?_)))
 rw [if_neg (by simp)]
 refine wpAny_bind (wpAny_pure (wpAny_bind (wpAny_dictEpoch hm rfl ?_)))
 rw [if_neg (by simp)]
 refine wpAny_pure ?_
 simp only [show ¬ ((i:Int) < 0) from by lia,if_false,Int.toNat_natCast,Array.getElem?_eq_none hx]
 refine wpAny_bind (wpAny_bind (wpAny_typeNameOfWhole_valiter hit.typeIs (wpAny_pure ?_)))
 refine wpAny_mono (stop_here (A:=A) (E:=E) hh ho hd (by simp) hQ) (fun _ _ f=>f.elim) fun e s' z=>?_
 refine wpAny_bind (wpAny_mono z (fun b s'' y=>?_) fun _ _ x=>x)
 obtain ⟨rfl,y⟩:=y
 exact wpAny_pure y
theorem walksValues (hh:A.handled=none) (I d:Addr) (hne:d≠I) (es:Array DictEntry) (ep:Nat) :
  Walks prog w A I [I,d] [I] es.size (fun i v=>∃ e,es[i]?=some e∧v=e.val) (fun i h=>h.IsValIter I d i es.size ep∧DAt h d es ep) where
 sub:=fun b hb=>by simp at hb; simp [hb]
 frame:=fun _ _ _ st hk=>⟨st.1.at fun o e=>hk I (by simp) o e,hk d (by simp) _ st.2⟩
 item:=fun i s Q E hi st hQ=>next_values st.1 st.2 hi fun h' hit' hs' =>
  hQ _ h' s.toks ⟨_,Array.getElem?_eq_getElem hi,rfl⟩ ⟨hit',(hs'.2 d hne).trans st.2⟩ fun b o hb e=>hs'.extBut b o (fun h=>hb (by simp [h])) e
 done:=fun s Q E st hQ=>end_values hh st.1 st.2 (Nat.le_refl _) fun h' he'=>hQ h' s.toks fun b o hb e=>he' b o (fun h=>hb (by simp [h])) e
 self:=fun _ _ _ _ st hQ=>wpAny_pyIter_valiter st.1 hQ
theorem values_tree {d:Addr} {es:Array DictEntry} {ep:Nat} {P:Fin→Shared→Prop} (hd:(d == sysModules)=false) (ho:DAt s.heap d es ep)
  (h:∀ h',h'.IsValuesView s.heap.objs.size d→(∀ b o,s.heap.get? b=some o→h'.get? b=some o)→P (.done (.ret (.ref s.heap.objs.size))) { s with heap:=h' }) :
  wpAny (model prog w) A (Builtin.«dict.values» ⟨[.ref d],[]⟩) P E s:=by
 refine wpAny_bind ?_
 unfold Builtin.Dict.noArgs
 refine wpAny_bind (wpAny_notOrdered_dict (dobj_typeIs ho) ?_)
 show wpAny _ _ (pure d) _ _ s
 refine wpAny_pure ?_
 show wpAny _ _ (Builtin.Dict.showsAll d >>= _) _ _ s
 unfold Builtin.Dict.showsAll
 rw [if_neg (by rw [hd]; exact Bool.false_ne_true)]
 refine wpAny_bind (wpAny_pure ?_)
 exact wpAny_bind (wpAny_newObj_type (wpAny_pure (h _ ⟨_,Heap.get?_push_size _ rfl,rfl,rfl⟩ fun b o e=>Heap.get?_push_of_some _ e)))
theorem in_dict {d:Addr} {es ep} {kvs:List (AV×AV)} {k:AV} {key:Value} {Q:Value→Shared→Prop} (hu:A.units + 30 < cLine) (hd:(d == sysModules)=false) (dk:k.isD=true) (hkey:Val ρ n s.heap k key)
  (ho:DAt s.heap d es ep) (R:Ents w ρ n s.heap kvs es) (h:∀ tk,Q (.bool (kget kvs k).isSome) { s with toks:=tk }):wpAny (model prog w) A (compareOp .In key (.ref d)) Q E s:=by
 have hT:=dobj_typeIs ho
 show wpAny _ _ (do return .bool (← contains (.ref d) key)) Q E s
 refine wpAny_bind ?_
 unfold contains
 try with_reducible refine wpAny_holding ?_
 refine wpAny_bind (wpAny_specialOf hT slot_dict_contains.lookup ?_)
 show wpAny _ _ (if (some (Value.builtin "dict.__contains__") == some Value.none)=true then _ else _) _ E s
 rw [if_neg (by rw [beq_builtin_none]; exact Bool.false_ne_true)]
 refine wpAny_bind (wpAny_callSpecialUnlessNone?_slot (name:=Str.ofString "__contains__") hT slot_dict_contains
  (wpAny_call_entry slot_dict_contains hT entry_dict_contains ?_ (args_dict_contains _ _)))
 show wpAny _ _ (dictGet d key >>= _) _ _ s
 refine wpAny_bind (dictGet_data (by simp only [Around.in1_units]; lia) dk hkey ho R (fun tk e=>?_) fun tk v u e _=>?_)
 ·show wpAny _ _ (Builtin.Dict.pendingKey? d key >>= _) _ _ _
  have:=h tk; rw [e] at this
  exact wpAny_bind (wpAny_pendingKey_other hd (wpAny_pure ⟨_,rfl,wpAny_truthy_bool (wpAny_pure this)⟩))
 ·show wpAny _ _ (ret (.bool true)) _ _ _
  have:=h tk; rw [e] at this
  exact wpAny_pure ⟨_,rfl,wpAny_truthy_bool (wpAny_pure this)⟩
theorem item_dict {d:Addr} {es ep} {kvs:List (AV×AV)} {k v:AV} {key:Value} {Q:Value→Shared→Prop} (hu:A.units + 30 < cLine) (dk:k.isD=true) (hkey:Val ρ n s.heap k key)
  (ho:DAt s.heap d es ep) (R:Ents w ρ n s.heap kvs es) (hv:kget kvs k=some v) (h:∀ tk u,Val ρ n s.heap v u→Q u { s with toks:=tk }):wpAny (model prog w) A (getItem (.ref d) key) Q E s:=by
 have hT:=dobj_typeIs ho
 unfold getItem
 try with_reducible refine wpAny_holding ?_
 refine wpAny_bind (wpAny_sequenceKey hT (by decide) ?_)
 refine wpAny_bind (wpAny_callSpecial?_slot (name:=Str.ofString "__getitem__") hT slot_dict_getitem
  (wpAny_call_entry slot_dict_getitem hT entry_dict_getitem ?_ (args_dict_getitem _ _)))
 show wpAny _ _ (dictGet d key >>= _) _ _ s
 refine wpAny_bind (dictGet_data (by simp only [Around.in1_units]; lia) dk hkey ho R (fun tk e=>?_) fun tk v' u e x=>?_)
 ·rw [hv] at e; cases e
 ·rw [hv] at e; cases e
  exact wpAny_pure ⟨u,rfl,wpAny_pure (h tk u x)⟩
theorem setItem_dict {d:Addr} {es ep} {kvs:List (AV×AV)} {k:AV} {key v:Value} {Q:Unit→Shared→Prop} (hu:A.units + 30 < cLine) (dk:k.isD=true) (hkey:Val ρ n s.heap k key)
  (ho:DAt s.heap d es ep) (R:Ents w ρ n s.heap kvs es) (hz:kvs.length≤sizeLine)
  (h:∀ h' tk es' ep',Heap.SameBut d s.heap h'→DAt h' d es' ep'→PutR w kvs es k key v es' ep ep'→Q () { s with heap:=h',toks:=tk }):wpAny (model prog w) A (setItem (.ref d) key v) Q E s:=by
 have hT:=dobj_typeIs ho
 unfold setItem
 try with_reducible refine wpAny_holding ?_
 refine wpAny_bind (wpAny_sequenceKey hT (by decide) ?_)
 refine wpAny_bind (wpAny_callSpecial?_slot (name:=Str.ofString "__setitem__") hT slot_dict_setitem
  (wpAny_call_entry slot_dict_setitem hT entry_dict_setitem ?_ (args_dict_setitem _ _ _)))
 show wpAny _ _ (Builtin.Dict.notOrdered "__setitem__" ⟨[.ref d,key,v],[]⟩ >>= _) _ _ s
 refine wpAny_bind (wpAny_notOrdered_dict hT ?_)
 show wpAny _ _ (dictSet d key v >>= _) _ _ s
 exact wpAny_bind (dictSet_data (by simp only [Around.in1_units]; lia) dk hkey ho R hz fun h' tk es' ep' a b c=>wpAny_pure ⟨.none,rfl,wpAny_pure (h h' tk es' ep' a b c)⟩)
theorem get_tree2 {d:Addr} {es ep} {kvs:List (AV×AV)} {k:AV} {key dflt:Value} {P:Fin→Shared→Prop} (hu:A.units + 30 < cLine) (hd:(d == sysModules)=false) (dk:k.isD=true) (hkey:Val ρ n s.heap k key)
  (ho:DAt s.heap d es ep) (R:Ents w ρ n s.heap kvs es) (h0:∀ tk,kget kvs k=none→P (.done (.ret dflt)) { s with toks:=tk }) (h1:∀ tk v u,kget kvs k=some v→Val ρ n s.heap v u→P (.done (.ret u)) { s with toks:=tk }) :
  wpAny (model prog w) A (Builtin.«dict.get» ⟨[.ref d,key,dflt],[]⟩) P E s:=by
 show wpAny _ _ (dictGet d key >>= _) _ _ s
 refine wpAny_bind (dictGet_data (by lia) dk hkey ho R (fun tk e=>?_) fun tk v u e x=>wpAny_pure (h1 tk v u e x))
 show wpAny _ _ (Builtin.Dict.missed d key >>= _) _ _ _
 exact wpAny_bind (wpAny_missed_other hd (wpAny_pure (h0 tk e)))
theorem get_tree1 {d:Addr} {es ep} {kvs:List (AV×AV)} {k:AV} {key:Value} {P:Fin→Shared→Prop} (hu:A.units + 30 < cLine) (hd:(d == sysModules)=false) (dk:k.isD=true) (hkey:Val ρ n s.heap k key)
  (ho:DAt s.heap d es ep) (R:Ents w ρ n s.heap kvs es) (h0:∀ tk,kget kvs k=none→P (.done (.ret .none)) { s with toks:=tk }) (h1:∀ tk v u,kget kvs k=some v→Val ρ n s.heap v u→P (.done (.ret u)) { s with toks:=tk }) :
  wpAny (model prog w) A (Builtin.«dict.get» ⟨[.ref d,key],[]⟩) P E s:=by
 show wpAny _ _ (dictGet d key >>= _) _ _ s
 refine wpAny_bind (dictGet_data (by lia) dk hkey ho R (fun tk e=>?_) fun tk v u e x=>wpAny_pure (h1 tk v u e x))
 show wpAny _ _ (Builtin.Dict.missed d key >>= _) _ _ _
 exact wpAny_bind (wpAny_missed_other hd (wpAny_pure (h0 tk e)))
end
end Mine
namespace Mine
section
set_option maxRecDepth 100000
open PySem PySem.W PyProof.Rows PySem.Calls
variable {prog:PySem.Program} {w:World} {A:Around} {E:Value→Shared→Prop} {s:Shared} {ρ:Nat→Addr} {n:Nat}
theorem szLine:sizeLine=16777216:=by decide
theorem list_in {l:Addr} {vs:List Value} {xs:List AV} {a:AV} {x:Value} {Q:Value→Shared→Prop} (hu:A.units + 30 < cLine) (da:a.isD=true) (hx:Val ρ n s.heap a x) (hl:s.heap.PlainList l vs.toArray)
  (hlen:vs.length=xs.length) (hv:∀ (j:Nat) (b:AV) (v:Value),xs[j]?=some b→vs[j]?=some v→b.isD=true∧Val ρ n s.heap b v) (h:Q (.bool (decide (a∈xs))) s) :
  wpAny (model prog w) A (compareOp .In x (.ref l)) Q E s:=by
 obtain ⟨c,ho⟩:=hl
 have hT:s.TypeIs (.ref l) "list":=⟨_,ho,rfl⟩
 show wpAny _ _ (do return .bool (← contains (.ref l) x)) Q E s
 refine wpAny_bind (wpAny_contains_slot hT F.slot_list_contains (wpAny_call (codeAny_call_builtin F.slot_list_contains.plain F.entry_list_contains (F.slot_list_contains.check _ _ _ _ _ _ _ _ hT (F.args_list_contains_2 _ _) ?_))))
 have loop:∀ (k i:Nat),vs.length - i=k→i≤vs.length→(decide (a∈xs)=decide (a∈xs.drop i)) →
   codeAny (model prog w) A (.builtin "list.__contains__.loop" ⟨[.ref l,x,rawInt i],[]⟩) (wants (fun v s'=>wpAny (model prog w) A (truthy v) (fun b s''=>wpAny (model prog w) A (pure (Value.bool b)) Q E s'') E s') E) s:=by
  intro k
  induction k with
  | zero =>
   intro i hk hi hd
   refine codeAny_builtin MeetsSeq.entry_contains_loop ?_
   show wpAny _ _ (load l >>= _) _ _ s
   refine wpAny_bind (wpAny_load ho ?_)
   show wpAny _ _ (match (vs.toArray[((i:Nat):Int).toNat]?:Option Value) with | none=>ret (.bool false) | some y=>do if ← eqBool y x then ret (.bool true) else again (.builtin "list.__contains__.loop" ⟨[.ref l,x,rawInt ((i:Int) + 1)],[]⟩)) _ _ s
   have e:vs.toArray[((i:Nat):Int).toNat]?=none:=by simp; lia
   rw [e]
   have:decide (a∈xs)=false:=by rw [hd,List.drop_eq_nil_of_le (by lia)]; simp
   rw [this] at h
   exact wpAny_pure (wpAny_truthy_bool (wpAny_pure h))
  | succ k ih =>
   intro i hk hi hd
   have hlt:i < vs.length:=by lia
   have hlt':i < xs.length:=by lia
   refine codeAny_builtin MeetsSeq.entry_contains_loop ?_
   rw [Around.under_plainId (by decide +kernel)]
   show wpAny _ _ (load l >>= _) _ _ s
   refine wpAny_bind (wpAny_load ho ?_)
   show wpAny _ _ (match (vs.toArray[((i:Nat):Int).toNat]?:Option Value) with | none=>ret (.bool false) | some y=>do if ← eqBool y x then ret (.bool true) else again (.builtin "list.__contains__.loop" ⟨[.ref l,x,rawInt ((i:Int) + 1)],[]⟩)) _ _ s
   have e:vs.toArray[((i:Nat):Int).toNat]?=some vs[i]:=by simp [hlt]
   rw [e]
   obtain ⟨db,hb⟩:=hv i xs[i] vs[i] (List.getElem?_eq_getElem hlt') (List.getElem?_eq_getElem hlt)
   refine wpAny_bind (eqBool_data (by first | lia | (simp only [Around.in1_units]; lia)) db da hb hx ?_)
   have hdrop:xs.drop i=xs[i] :: xs.drop (i + 1):=List.drop_eq_getElem_cons hlt'
   by_cases q:xs[i]=a
   ·rw [decide_eq_true q,if_pos rfl]
    have:decide (a∈xs)=true:=by rw [hd,hdrop]; simp [q]
    rw [this] at h
    exact wpAny_pure (wpAny_truthy_bool (wpAny_pure h))
   ·rw [decide_eq_false q,if_neg Bool.false_ne_true]
    refine wpAny_pure ⟨plainId_quiet (by decide +kernel) _,?_⟩
    have:=ih (i + 1) (by lia) hlt (by rw [hd,hdrop]; exact decide_eq_decide.mpr (by rw [List.mem_cons]; exact ⟨fun h=>h.resolve_left (Ne.symm q),.inr⟩))
    simpa [rawInt] using this
 exact wpAny_pure ⟨plainId_quiet (by decide +kernel) _,loop vs.length 0 (by lia) (Nat.zero_le _) (by simp)⟩
theorem notIn_of {x c:Value} {Q:Value→Shared→Prop} (h:wpAny (model prog w) A (compareOp .In x c) (fun v s'=>∃ b,v=.bool b∧Q (.bool (!b)) s') E s):wpAny (model prog w) A (compareOp .NotIn x c) Q E s:=by
 show wpAny _ _ (do return .bool (!(← contains c x))) Q E s
 have h':wpAny (model prog w) A (do return Value.bool (← contains c x)) (fun v s'=>∃ b,v=.bool b∧Q (.bool (!b)) s') E s:=h
 intro Γ p hΓ
 have:=h' Γ p hΓ
 rw [Sem.wp_bind'] at this ⊢
 refine Sem.wp_mono _ Γ _ (fun b p' s' z=>?_) (fun _ _ _ z=>z) p s this
 obtain ⟨b',e,z⟩:=z
 injection e with e; subst e
 exact z
theorem tuple_in {t:Addr} {vs:List Value} {xs:List AV} {a:AV} {x:Value} {Q:Value→Shared→Prop} (hu:A.units + 30 < cLine) (da:a.isD=true) (hx:Val ρ n s.heap a x) (ht:IsTup s.heap t vs.toArray)
  (hlen:vs.length=xs.length) (hv:∀ (j:Nat) (b:AV) (v:Value),xs[j]?=some b→vs[j]?=some v→b.isD=true∧Val ρ n s.heap b v) (h:Q (.bool (decide (a∈xs))) s) :
  wpAny (model prog w) A (compareOp .In x (.ref t)) Q E s:=by
 have hT:=ht.typeIs
 obtain ⟨o,ho,_,c,hd⟩:=ht
 show wpAny _ _ (do return .bool (← contains (.ref t) x)) Q E s
 refine wpAny_bind (wpAny_contains_slot hT F.slot_tuple_contains (wpAny_call_entry F.slot_tuple_contains hT F.entry_tuple_contains ?_ (F.args_tuple_contains_2 _ _)))
 show wpAny _ _ (Builtin.Tuple.tupleItemsOf (.ref t) >>= _) _ _ s
 refine wpAny_bind (wpAny_tupleItemsOf ho hd (wpAny_bind ?_))
 show wpAny _ _ (forIn vs.toArray _ _) _ _ s
 rw [← Array.forIn_toList]
 refine wpAny_forIn_list _ (fun rest r s'=>r.1=none∧s'=s∧∃ ys,rest.length=ys.length∧(∀ (j:Nat) (b:AV) (v:Value),ys[j]?=some b→rest[j]?=some v→b.isD=true∧Val ρ n s.heap b v)∧decide (a∈xs)=decide (a∈ys)) _ ?_ ?_ _ _
  ⟨rfl,rfl,xs,hlen,hv,rfl⟩
 ·rintro v rest r s' ⟨hr,rfl,ys,hl,hy,hd'⟩
  cases ys with
  | nil=>simp at hl
  | cons b ys =>
   obtain ⟨db,hb⟩:=hy 0 b v rfl rfl
   refine wpAny_bind (eqBool_data (by first | lia | (simp only [Around.in1_units]; lia)) db da hb hx ?_)
   by_cases q:b=a
   ·rw [decide_eq_true q,if_pos rfl]
    have:decide (a∈xs)=true:=by rw [hd']; simp [q]
    rw [this] at h
    exact wpAny_bind (wpAny_pure (wpAny_pure (wpAny_pure ⟨_,rfl,wpAny_truthy_bool (wpAny_pure h)⟩)))
   ·rw [decide_eq_false q,if_neg Bool.false_ne_true]
    exact wpAny_pure ⟨rfl,rfl,ys,by simpa using hl,fun j b v e1 e2=>hy (j + 1) b v (by simpa using e1) (by simpa using e2),by rw [hd']; simp [Ne.symm q]⟩
 ·rintro ⟨r1,r2⟩ s' ⟨hr,rfl,ys,hl,_,hd'⟩
  simp only at hr; subst hr
  have:ys=[]:=by simpa using hl.symm
  subst this
  rw [hd'] at h
  exact wpAny_pure ⟨_,rfl,wpAny_truthy_bool (wpAny_pure (by simpa using h))⟩
theorem list_cmp_nil {l l':Addr} {vs:List Value} {Q:Value→Shared→Prop} (hu:A.units + 30 < cLine) (hl:s.heap.PlainList l vs.toArray) (hl':s.heap.PlainList l' #[]) :
  (Q (.bool vs.isEmpty) s→wpAny (model prog w) A (compareOp .Eq (.ref l) (.ref l')) Q E s)∧(Q (.bool !vs.isEmpty) s→wpAny (model prog w) A (compareOp .NotEq (.ref l) (.ref l')) Q E s):=by
 obtain ⟨c,ho⟩:=hl
 obtain ⟨c',ho'⟩:=hl'
 have hT:s.TypeIs (.ref l) "list":=⟨_,ho,rfl⟩
 have hT':s.TypeIs (.ref l') "list":=⟨_,ho',rfl⟩
 have entry:entryFor table "list.__eq__.loop"=some Builtin.«list.__eq__.loop»:=MeetsSeq3.entry_eq_loop
 constructor
 ·intro h
  refine wpAny_richCompare_same_room (op:=.Eq) hT hT' F.slot_list_eq (wpAny_call (codeAny_call_builtin F.slot_list_eq.plain F.entry_list_eq (F.slot_list_eq.check _ _ _ _ _ _ _ _ hT (F.args_list_eq_2 _ _) ?_))) (by lia)
  show wpAny _ _ (isInstance (.ref l') (.type "list") >>= _) _ _ s
  refine wpAny_bind (wpAny_isInstance hT' (by rw [isSubtype_type]; kernel_rfl:isSubtype (.type "list") (.type "list")=pure true) ?_)
  show wpAny _ _ (load l >>= _) _ _ s
  refine wpAny_bind (wpAny_load ho ?_)
  show wpAny _ _ (load l' >>= _) _ _ s
  refine wpAny_bind (wpAny_load ho' ?_)
  cases vs with
  | nil =>
   refine wpAny_pure ⟨plainId_quiet (by decide +kernel) _,codeAny_builtin entry ?_⟩
   show wpAny _ _ (load l >>= _) _ _ s
   refine wpAny_bind (wpAny_load ho ?_)
   show wpAny _ _ (load l' >>= _) _ _ s
   refine wpAny_bind (wpAny_load ho' ?_)
   show wpAny _ _ (load l >>= _) _ _ s
   refine wpAny_bind (wpAny_load ho ?_)
   show wpAny _ _ (load l' >>= _) _ _ s
   exact wpAny_bind (wpAny_load ho' (wpAny_pure ⟨(fun e=>nomatch e),h⟩))
  | cons v r =>
   refine wpAny_bind (wpAny_pure ?_)
   rw [if_pos (by simp)]
   exact wpAny_bind (wpAny_rule (wpAny_pure ⟨(fun e=>nomatch e),h⟩))
 ·intro h
  refine wpAny_richCompare_same_room (op:=.NotEq) hT hT' F.slot_list_ne (wpAny_call (codeAny_call_builtin F.slot_list_ne.plain F.entry_list_ne (F.slot_list_ne.check _ _ _ _ _ _ _ _ hT (F.args_list_ne_2 _ _) ?_))) (by lia)
  show wpAny _ _ (isInstance (.ref l') (.type "list") >>= _) _ _ s
  refine wpAny_bind (wpAny_isInstance hT' (by rw [isSubtype_type]; kernel_rfl:isSubtype (.type "list") (.type "list")=pure true) ?_)
  show wpAny _ _ (load l >>= _) _ _ s
  refine wpAny_bind (wpAny_load ho ?_)
  show wpAny _ _ (load l' >>= _) _ _ s
  refine wpAny_bind (wpAny_load ho' ?_)
  cases vs with
  | nil =>
   refine wpAny_pure ⟨plainId_quiet (by decide +kernel) _,codeAny_builtin entry ?_⟩
   show wpAny _ _ (load l >>= _) _ _ s
   refine wpAny_bind (wpAny_load ho ?_)
   show wpAny _ _ (load l' >>= _) _ _ s
   refine wpAny_bind (wpAny_load ho' ?_)
   show wpAny _ _ (load l >>= _) _ _ s
   refine wpAny_bind (wpAny_load ho ?_)
   show wpAny _ _ (load l' >>= _) _ _ s
   exact wpAny_bind (wpAny_load ho' (wpAny_pure ⟨(fun e=>nomatch e),h⟩))
  | cons v r =>
   refine wpAny_bind (wpAny_pure ?_)
   rw [if_pos (by simp)]
   exact wpAny_bind (wpAny_rule (wpAny_pure ⟨(fun e=>nomatch e),h⟩))
theorem list_add {l l':Addr} {vs us:List Value} {Q:Value→Shared→Prop} (hl:s.heap.PlainList l vs.toArray) (hl':s.heap.PlainList l' us.toArray) (hz:vs.length + us.length≤16777216)
  (h:Q (.ref s.heap.objs.size) { s with heap:=s.heap.push { cls:=.type "list",data:=.seq (vs++us).toArray } }):wpAny (model prog w) A (binaryOp .Add (.ref l) (.ref l')) Q E s:=by
 obtain ⟨c,ho⟩:=hl
 obtain ⟨c',ho'⟩:=hl'
 have hT:s.TypeIs (.ref l) "list":=⟨_,ho,rfl⟩
 have hT':s.TypeIs (.ref l') "list":=⟨_,ho',rfl⟩
 refine concat_meets hT hT' (by first | exact F.fills_list_add | kernel_rfl) (by first | exact F.seq_list_add | kernel_rfl) F.slot_list_add F.entry_list_add (F.args_list_add_2 _ _) (AutoSeq1.list___add___list_list_0 l vs.toArray c l' us.toArray c' (by rw [szLine]; simpa using hz)) ?_
 exact ⟨ho,ho',by simpa using h⟩
theorem list_extend {l l':Addr} {vs us:List Value} {Q:Value→Shared→Prop} (hl:s.heap.PlainList l vs.toArray) (hl':s.heap.PlainList l' us.toArray) (hz:vs.length + us.length≤1048576)
  (h:∀ h',h'.PlainList l (vs++us).toArray→Heap.SameBut l s.heap h'→Q .none { s with heap:=h' }):wpAny (model prog w) A (call (.builtin "list.extend") [.ref l,.ref l']) Q E s:=by
 obtain ⟨c,ho⟩:=hl
 obtain ⟨c',ho'⟩:=hl'
 have hT:s.TypeIs (.ref l) "list":=⟨_,ho,rfl⟩
 have long:Builtin.List.listTooLong (vs.toArray.size + us.toArray.size)=false:=by
  simp only [Builtin.List.listTooLong]; rw [decide_eq_false]; simp only [List.size_toArray]; rw [szLine]; lia
 refine call_meets F.slot_list_extend hT F.entry_list_extend (F.args_list_extend_2 _ _) (AutoSeq1.list_extend_list_list_0 l vs.toArray c l' us.toArray c' (by rw [long,Bool.and_false]; exact Bool.false_ne_true) (by rw [szLine]; simp; lia) (by rw [szLine]; simp; lia)) ?_
 obtain ⟨c2,e2⟩:∃ c2,(Obj.mapSeq (fun x=>x++us.toArray) ⟨.type "list",none,.seq vs.toArray c,#[]⟩)=⟨.type "list",none,.seq (vs++us).toArray c2,#[]⟩:=⟨_,by simp [Obj.mapSeq]; rfl⟩
 exact ⟨ho,ho',h _ ⟨c2,by rw [← e2]; exact Heap.get?_update_self _ ho rfl⟩ (Heap.SameBut.update ..)⟩
theorem list_pop {l:Addr} {vs:List Value} {v:Value} {Q:Value→Shared→Prop} (hl:s.heap.PlainList l (vs++[v]).toArray) (hz:vs.length≤1048576)
  (h:∀ h',h'.PlainList l vs.toArray→Heap.SameBut l s.heap h'→Q v { s with heap:=h' }):wpAny (model prog w) A (call (.builtin "list.pop") [.ref l]) Q E s:=by
 obtain ⟨c,ho⟩:=hl
 have hT:s.TypeIs (.ref l) "list":=⟨_,ho,rfl⟩
 refine call_meets F.slot_list_pop hT F.entry_list_pop (F.args_list_pop_1 _) (MeetsSeq.list_pop_last l (vs++[v]).toArray c v (by simp) (by rw [szLine]; simp; lia)) ?_
 obtain ⟨c2,e2⟩:∃ c2,(Obj.mapSeq (fun xs=>xs.eraseIdxIfInBounds ((vs++[v]).toArray.size - 1)) ⟨.type "list",none,.seq (vs++[v]).toArray c,#[]⟩)=⟨.type "list",none,.seq vs.toArray c2,#[]⟩:=by
  have:((vs++[v]).toArray.eraseIdxIfInBounds ((vs++[v]).toArray.size - 1))=vs.toArray:=by
   apply Array.toList_inj.mp
   simp [Array.eraseIdxIfInBounds,List.eraseIdx_append_of_length_le]
  exact ⟨if vs.toArray.size == (vs++[v]).toArray.size then c else c + 1,by simp only [Obj.mapSeq,this]⟩
 exact ⟨ho,h _ ⟨c2,by rw [← e2]; exact Heap.get?_update_self _ ho rfl⟩ (Heap.SameBut.update ..)⟩
end
end Mine
namespace Mine
section
set_option maxRecDepth 100000
open PySem PySem.W PyProof.Rows PySem.Calls
variable {prog:PySem.Program} {w:World} {A:Around} {E:Value→Shared→Prop} {s:Shared} {ρ:Nat→Addr} {n:Nat}
theorem no_keys {l:Addr} {vs:Array Value} {Q:Option Value→Shared→Prop} (hA:A.handled=none) (hl:s.heap.PlainList l vs)
  (h:∀ h' tk,(∀ b o,s.heap.get? b=some o→h'.get? b=some o)→Q none { s with heap:=h',toks:=tk }):wpAny (model prog w) A (getAttr? (.ref l) "keys") Q E s:=by
 obtain ⟨k,hx⟩:=hl
 obtain ⟨hp,g,d,tk,os⟩:=s
 have hT:∀ tk',(⟨hp,g,d,tk',os⟩:Shared).TypeIs (.ref l) "list":=fun _=>⟨_,hx,rfl⟩
 have hmiss:typeLookup (.type "list") "keys"=pure none:=by rw [typeLookup_type,builtinLookup_eq_fast]; kernel_rfl
 have hname:(["__module__","__name__","__qualname__","__doc__","__annotations__"]:List Str).contains ("keys":Str)=false:=by decide +kernel
 have f1:=sub_AttributeError
 have f3:=F.slot_list_getattribute.lookup
 have f4:=F.slot_list_getattribute.bind (.ref l)
 have f5:=am_list_getattr_none
 unfold getAttr? getAttrBy? getAttrBy
 repeat (any_goals (first | assumption | exact hT _ | ((with_reducible show wpAny _ _ (call (Value.builtin "list.__getattribute__") _ _) _ _ _); refine call_meets F.slot_list_getattribute (hT _) am_entry_list_getattribute (F.args_list_getattribute_2 _ _) (meets_getattribute_miss_list l vs k #[] _ _ hmiss hname (by decide +kernel)) ⟨hx,hA,fun h' tk' e hx'=>?_⟩) | wp_step))
 obtain ⟨t',u',he⟩:=hx'.there
 show wpAny _ _ (getattributeRaised _ _ _ _ _ _ _) _ _ _
 unfold getattributeRaised
 repeat (any_goals (first | assumption | wp_step))
 exact h h' tk' hx'.keeps
theorem pair_of {h:Heap} {k v:AV} {p:Value} (x:Val ρ n h (.cons k (.cons v .nil)) p):Ex3 fun t a b=>And4 (p=.ref t) (IsTup h t #[a,b]) (Val ρ n h k a) (Val ρ n h v b):=by
 obtain ⟨t,vs,rfl,ht,a,q,rfl,ha,b,q',rfl,hb,e⟩:=x
 obtain rfl:q'=[]:=e
 exact ⟨t,a,b,rfl,ht,ha,hb⟩
theorem entry_update_loop:entryFor table "dict.update.loop"=some Builtin.«dict.update.loop»:=entryFor_of_tree (by kernel_rfl)
theorem plain_update_loop:plainId "dict.update.loop"=true:=by decide +kernel
noncomputable def TK (h h':Heap):Prop:=∀ a o,h.get? a=some o→o.cls=.type "tuple"→(Ex2 fun vs c=>o.data=.seq vs c)→h'.get? a=some o
theorem TK.refl (h:Heap):TK h h:=fun _ _ e _ _=>e
theorem TK.trans {h₁ h₂ h₃:Heap} (x:TK h₁ h₂) (y:TK h₂ h₃):TK h₁ h₃:=fun a o e c d=>y a o (x a o e c d) c d
theorem TK.of_keep {h h':Heap} (k:∀ b o,h.get? b=some o→h'.get? b=some o):TK h h':=fun a o e _ _=>k a o e
theorem TK.but' {h h':Heap} {W:Addr→Prop} (k:∀ b o,¬ W b→h.get? b=some o→h'.get? b=some o) (hw:∀ b o,W b→h.get? b=some o→o.cls≠.type "tuple"∨∀ vs c,o.data≠.seq vs c):TK h h' :=
 fun a o e c d=>k a o (fun w=>(hw a o w e).elim (fun z=>z c) fun z=>let ⟨vs,c,d⟩:=d; z vs c d) e
theorem TK.but {h h':Heap} {W:Addr→Prop} (k:∀ b o,¬ W b→h.get? b=some o→h'.get? b=some o) (hw:∀ b o,W b→h.get? b=some o→o.cls≠.type "tuple"):TK h h' :=
 .but' k fun b o x e=>.inl (hw b o x e)
theorem isTup_tk {h h':Heap} {a:Addr} {its:Array Value} (x:IsTup h a its) (k:TK h h'):IsTup h' a its:=let ⟨o,ho,c,r⟩:=x; ⟨o,k a o ho c (let ⟨m,d⟩:=r; ⟨_,m,d⟩),c,r⟩
theorem Val1.mono {ρ':Nat→Addr} {n':Nat} {h h':Heap} (k:TK h h') (hn:n≤n') (hρ:∀ i,i < n→ρ' i=ρ i) {P P':List Value→Prop} (hP:∀ vs,P vs→P' vs) :
  ∀ {a:AV} {v:Value},Val1 ρ n h P a v→Val1 ρ' n' h' P' a v
 | .none,_,x=>x
 | .bool _,_,x=>x
 | .int _,_,x=>x
 | .str _,_,x=>x
 | .ref i,_,x=>⟨Nat.lt_of_lt_of_le x.1 hn,by rw [hρ i x.1]; exact x.2⟩
 | .nil,_,x=>let ⟨a,vs,e,t,p⟩:=x; ⟨a,vs,e,isTup_tk t k,hP _ p⟩
 | .cons _ _,_,x=>let ⟨a,vs,e,t,p⟩:=x; ⟨a,vs,e,isTup_tk t k,hP _ p⟩
theorem Items.mono {ρ':Nat→Addr} {n':Nat} {h h':Heap} (k:TK h h') (hn:n≤n') (hρ:∀ i,i < n→ρ' i=ρ i) :
  ∀ {a:AV} {vs:List Value},Items ρ n h a vs→Items ρ' n' h' a vs:=by
 intro a
 induction a with
 | nil=>intro vs x; exact x
 | cons a r iha ihr =>
  intro vs x
  obtain ⟨v,q,e,x1,x2⟩:=x
  exact ⟨v,q,e,Val1.mono k hn hρ (fun _ y=>iha y) x1,ihr x2⟩
 | _=>intro vs x; exact x.elim
theorem Val.mono {ρ':Nat→Addr} {n':Nat} {h h':Heap} (k:TK h h') (hn:n≤n') (hρ:∀ i,i < n→ρ' i=ρ i) {a:AV} {v:Value} (x:Val ρ n h a v):Val ρ' n' h' a v :=
 Val1.mono k hn hρ (fun _ y=>Items.mono k hn hρ y) x
theorem Val.tk {h h':Heap} (k:TK h h') {a:AV} {v:Value} (x:Val ρ n h a v):Val ρ n h' a v:=x.mono k (Nat.le_refl _) fun _ _=>rfl
theorem kput_len (l:List (AV×AV)) (k v:AV):(kput l k v).length≤l.length + 1:=by
 induction l with
 | nil=>simp [kput_n,kput_c]
 | cons q t iht=>obtain ⟨a,b⟩:=q; rw [kput_c]; split <;> simp <;> lia
theorem mkD_cons {d r:List (AV×AV)} {x:AV} {xs:List AV} (h:mkD d (x :: xs)=some r):Ex2 fun k v=>x=.cons k (.cons v .nil)∧k.isD=true∧mkD (kput d k v) xs=some r:=by
 cases x with
 | cons k y=>cases y with
  | cons v z=>cases z with
   | nil =>
    replace h:(if k.isD=true then mkD (kput d k v) xs else none)=some r:=h
    by_cases hk:k.isD=true
    ·rw [if_pos hk] at h; exact ⟨k,v,rfl,hk,h⟩
    ·rw [if_neg hk] at h; cases h
   | _=>exact none_ne h
  | _=>exact none_ne h
 | _=>exact none_ne h
theorem update_loop (hh:A.handled=none) (hu:A.units + 40 < cLine) {l d I:Addr} {vs:List Value} {c:Nat} (hdI:d≠I) (hlI:l≠I) (hld:l≠d) {R:Result→Shared→Prop} :
  ∀ (xs:List AV) (i:Nat) (s:Shared) (acc r:List (AV×AV)) (es:Array DictEntry) (ep:Nat),i + xs.length=vs.length→s.heap.get? l=some { cls:=.type "list",data:=.seq vs.toArray c }→s.heap.IsListIter I l i →
   DAt s.heap d es ep→Ents w ρ n s.heap acc es→(∀ (j:Nat) (b:AV) (v:Value),xs[j]?=some b→vs[i + j]?=some v→Val ρ n s.heap b v)→mkD acc xs=some r→acc.length + xs.length≤1048576 →
   (∀ h' tk es' ep',(∀ b o,b≠d→b≠I→s.heap.get? b=some o→h'.get? b=some o)→DAt h' d es' ep'→Ents w ρ n h' r es'→R (.ok (.ret .none)) { s with heap:=h',toks:=tk }) →
   codeAny (model prog w) A (.builtin "dict.update.loop" ⟨[.ref d,.ref I,rawInt i,.none],[]⟩) R s:=by
 intro xs
 induction xs with
 | nil =>
  intro i s acc r es ep hi hl hit hd R' hv hm hz hR
  cases hm
  refine codeAny_builtin entry_update_loop ?_
  rw [Around.under_plainId plain_update_loop]
  show wpAny _ _ (pyNext (.ref I) >>= _) _ _ s
  refine wpAny_bind (wpAny_pyNext_list_end hh hit ⟨_,hl,rfl,c,rfl⟩ (by simp at hi; simp [hi]) fun h' he=>?_)
  have k:TK s.heap h':=TK.but (W:=fun b=>b=I) (fun b o hb e=>he b o hb e) (fun b o hb e=>by
   obtain ⟨oI,hoI,hc,_⟩:=hit; rw [hb,hoI] at e; cases e; rw [hc]; decide)
  exact wpAny_pure (hR h' _ es ep (fun b o _ hb e=>he b o hb e) (he d _ hdI hd) (R'.mono fun x u y=>y.tk k))
 | cons x xs ih =>
  intro i s acc r es ep hi hl hit hd R' hv hm hz hR
  obtain ⟨ka,va,rfl,dk,hm'⟩:=mkD_cons hm
  have hlt:i < vs.length:=by simp at hi; lia
  obtain ⟨t,a,b,et,ht,hka,hva⟩:=pair_of (hv 0 _ vs[i] rfl (by simp [hlt]))
  refine codeAny_builtin entry_update_loop ?_
  rw [Around.under_plainId plain_update_loop]
  show wpAny _ _ (pyNext (.ref I) >>= _) _ _ s
  refine wpAny_bind (wpAny_pyNext_list_item hit ⟨_,hl,rfl,c,rfl⟩ (x:=vs[i]) (by simp [hlt]) fun h₁ hit₁ hs₁=>?_)
  have k₁:TK s.heap h₁:=TK.but (W:=fun b=>b=I) (fun b o hb e=>(hs₁.2 b hb).trans e) (fun b o hb e=>by
   obtain ⟨oI,hoI,hc,_⟩:=hit; rw [hb,hoI] at e; cases e; rw [hc]; decide)
  rw [et]
  have ht₁:=isTup_tk ht k₁
  refine wpAny_bind (wpAny_holding (wpAny_bind (wpAny_tryCatch ?_)))
  refine wpAny_bind (wpAny_typeOf (s:={ s with heap:=h₁ }) ht₁.typeIs ?_)
  obtain ⟨ot,hot,hct,nt,hdt⟩:=id ht₁
  rw [if_pos (by decide)]
  refine wpAny_bind (wpAny_seqItems hot hdt (wpAny_pure ?_))
  show wpAny _ _ (holding [a,b] (dictSet d a b)) _ _ _
  refine wpAny_holding (dictSet_data (s:={ s with heap:=h₁ }) (by simp only [Around.in1_units]; lia) dk (hka.tk k₁) ((hs₁.2 d hdI).trans hd) (R'.mono fun x u y=>y.tk k₁) (by rw [szLine]; simp at hz; lia) fun h₂ tk es' ep' hs₂ hd₂ p=>?_)
  have k₂:TK h₁ h₂:=TK.but (W:=fun b=>b=d) (fun b o hb e=>(hs₂.2 b hb).trans e) (fun b o hb e=>by
   rw [hb,(hs₁.2 d hdI).trans hd] at e; cases e; show Value.type "dict"≠Value.type "tuple"; decide)
  have R₂:Ents w ρ n h₂ (kput acc ka va) es':=(R'.mono fun x u y=>y.tk k₁).put dk (fun x u y=>y.tk k₂) ((hka.tk k₁).tk k₂) ((hva.tk k₁).tk k₂) p
  refine wpAny_pure ⟨plainId_quiet plain_update_loop _,?_⟩
  have:=ih (i + 1) { s with heap:=h₂,toks:=tk } (kput acc ka va) r es' ep' (by simp at hi; lia) ((hs₂.2 l hld).trans ((hs₁.2 l hlI).trans hl))
   (let ⟨oI,hoI,q⟩:=hit₁; ⟨oI,(hs₂.2 I (Ne.symm hdI)).trans hoI,q⟩) hd₂ R₂ (fun j b' v e1 e2=>((hv (j + 1) b' v (by simpa using e1) (by rw [← e2]; congr 1; lia)).tk k₁).tk k₂) hm'
   (by have:=kput_len acc ka va; simp at hz; lia)
   fun h' tk' es'' ep'' hk' hd' R''=>hR h' tk' es'' ep'' (fun b o hb hb' e=>hk' b o hb hb' ((hs₂.2 b hb).trans ((hs₁.2 b hb').trans e))) hd' R''
  simpa [rawInt] using this
theorem dict_of_list (hh:A.handled=none) (hu:A.units + 60 < cLine) {l:Addr} {vs:List Value} {xs:List AV} {r:List (AV×AV)} {Q:Value→Shared→Prop} (hl:s.heap.PlainList l vs.toArray) (hlen:vs.length=xs.length)
  (hv:∀ (j:Nat) (b:AV) (v:Value),xs[j]?=some b→vs[j]?=some v→Val ρ n s.heap b v) (hm:mkD [] xs=some r) (hz:xs.length≤1048576)
  (h:∀ h' tk es ep,(∀ b o,s.heap.get? b=some o→h'.get? b=some o)→DAt h' s.heap.objs.size es ep→Ents w ρ n h' r es→Q (.ref s.heap.objs.size) { s with heap:=h',toks:=tk }) :
  wpAny (model prog w) A (call (.type "dict") [.ref l]) Q E s:=by
 obtain ⟨c,ho⟩:=hl
 refine callType_codes (Q₁:=fun obj s₁=>obj=.ref s.heap.objs.size∧s₁={ s with heap:=s.heap.push { cls:=.type "dict",data:=.dict #[] } }) F.kt_called_dict (F.kt_typeCall_dict_1 _) F.entry_dict_init (kt_code_dict_new _ ⟨rfl,rfl⟩) ?_
 rintro obj s₁ ⟨rfl,rfl⟩
 have hnew:DAt (s.heap.push { cls:=.type "dict",data:=.dict #[] }) s.heap.objs.size #[] 0:=Heap.get?_push_size _ rfl
 have keep₁:∀ b o,s.heap.get? b=some o→(s.heap.push { cls:=.type "dict",data:=.dict #[] }).get? b=some o:=fun b o e=>Heap.get?_push_of_some _ e
 have ho':=keep₁ _ _ ho
 have hdl:l≠s.heap.objs.size:=Nat.ne_of_lt (Heap.lt_size ho)
 have hTd:({ s with heap:=s.heap.push { cls:=.type "dict",data:=.dict #[] } }:Shared).TypeIs (.ref s.heap.objs.size) "dict":=⟨_,hnew,rfl⟩
 have hTl:({ s with heap:=s.heap.push { cls:=.type "dict",data:=.dict #[] } }:Shared).TypeIs (.ref l) "list":=⟨_,ho',rfl⟩
 refine ⟨hTd,F.args_dict_init_2 _ _,?_⟩
 refine wpAny_bind ?_
 unfold Builtin.Dict.selfAndRest
 refine wpAny_bind (wpAny_notOrdered_dict hTd ?_)
 show wpAny _ _ (pure (s.heap.objs.size,[Value.ref l])) _ _ _
 refine wpAny_pure ?_
 show wpAny _ _ (Builtin.Dict.updateFrom "dict.__init__" s.heap.objs.size (.ref l) [] .none) _ _ _
 unfold Builtin.Dict.updateFrom
 refine wpAny_bind (wpAny_typeOf hTl ?_)
 rw [if_pos (by decide)]
 refine wpAny_bind (no_keys (s:={ s with heap:=s.heap.push { cls:=.type "dict",data:=.dict #[] } }) hh ⟨_,ho'⟩ fun h₂ tk hk₂=>?_)
 simp only [Option.isNone_none,if_true]
 refine wpAny_bind (wpAny_rule (wpAny_bind (wpAny_pyIter_list (s:={ s with heap:=h₂,toks:=tk }) ⟨_,hk₂ _ _ ho',rfl,c,rfl⟩ ?_)))
 have hlt₂:s.heap.objs.size < h₂.objs.size:=Heap.lt_size (hk₂ _ _ hnew)
 have hk₃:∀ b o,h₂.get? b=some o→(h₂.push { cls:=.type "list_iterator",data:=.fields #[.ref l,.int 0 0] }).get? b=some o:=fun b o e=>Heap.get?_push_of_some _ e
 refine wpAny_pure ⟨plainId_quiet plain_update_loop _,update_loop (A:=A.in1) hh (by simp only [Around.in1_units]; lia) (Nat.ne_of_lt hlt₂) (Nat.ne_of_lt (Nat.lt_trans (Heap.lt_size ho) hlt₂)) hdl xs 0
  { s with heap:=h₂.push { cls:=.type "list_iterator",data:=.fields #[.ref l,.int 0 0] },toks:=tk } [] r #[] 0 (by simpa using hlen.symm) (hk₃ _ _ (hk₂ _ _ ho')) ⟨_,Heap.get?_push_size _ rfl,rfl,rfl⟩ (hk₃ _ _ (hk₂ _ _ hnew))
  ⟨rfl,fun j e p he=>by simp at he,by simp⟩ (fun j b v e1 e2=>(hv j b v e1 (by simpa using e2)).tk (TK.of_keep fun b o e=>hk₃ _ _ (hk₂ _ _ (keep₁ _ _ e)))) hm (by simpa using hz) fun h' tk' es ep hk hd R=>?_⟩
 exact ⟨rfl,h h' tk' es ep (fun b o e=>hk b o (Nat.ne_of_lt (Heap.lt_size e)) (Nat.ne_of_lt (Nat.lt_trans (Heap.lt_size e) hlt₂)) (hk₃ _ _ (hk₂ _ _ (keep₁ _ _ e)))) hd R⟩
end
end Mine
namespace Mine
section
set_option maxRecDepth 100000
open PySem PySem.W PyProof.Rows PySem.Calls
variable {prog:PySem.Program} {w:World} {A:Around} {E:Value→Shared→Prop} {s:Shared} {ρ:Nat→Addr} {n:Nat}
theorem samePairs_data {nm:String} {a b:Addr} {ka kb:List (AV×AV)} {ea eb:Array DictEntry} {pa pb:Nat} {Q:Bool→Shared→Prop} (hu:A.units + 30 < cLine) (ha:(a == sysModules)=false) (hb:(b == sysModules)=false)
  (da:DAt s.heap a ea pa) (db:DAt s.heap b eb pb) (Ra:Ents w ρ n s.heap ka ea) (Rb:Ents w ρ n s.heap kb eb) (va:∀ p∈ka,p.2.isD=true) (vb:∀ p∈kb,p.2.isD=true)
  (h:Q (dictEq ka kb) s):wpAny (model prog w) A (Builtin.Dict.samePairs nm a b) Q E s:=by
 unfold Builtin.Dict.samePairs
 have sh:∀ {x:Addr} {Q':Unit→Shared→Prop},(x == sysModules)=false→Q' () s→wpAny (model prog w) A (Builtin.Dict.showsAll x) Q' E s:=by
  intro x Q' hx q
  unfold Builtin.Dict.showsAll
  rw [if_neg (by rw [hx]; exact Bool.false_ne_true)]; exact wpAny_pure q
 refine wpAny_bind (sh ha (wpAny_bind (sh hb (wpAny_bind (wpAny_dictEntries da rfl (wpAny_bind (wpAny_dictEntries db rfl ?_)))))))
 by_cases hs:ea.size=eb.size
 ·rw [if_neg (by simp [hs])]
  refine wpAny_bind (wpAny_dictEpoch da rfl (wpAny_bind ?_))
  rw [Std.Legacy.Range.forIn_eq_forIn_range']
  simp only [Std.Legacy.Range.size,Nat.sub_zero,Nat.add_sub_cancel,Nat.div_one]
  have hkl:ka.length == kb.length:=by rw [← Ra.size,← Rb.size,hs]; simp
  refine wpAny_forIn_list _
   (fun rest q s'=>s'=s∧q=(none,())∧∃ i,rest=List.range' i (ea.size - i)∧i≤ea.size∧dictEq ka kb=(ka.drop i).all fun p=>kget kb p.1 == some p.2)
   _ ?_ ?_ _ _ ⟨rfl,rfl,0,by simp,Nat.zero_le _,by simp only [dictEq,hkl,Bool.true_and,List.drop_zero]⟩
  ·rintro x rest q s' ⟨rfl,rfl,i,hr,hi,hpre⟩
   have hlt:i < ea.size:=by
    rcases Nat.lt_or_ge i ea.size with h | h
    ·exact h
    ·rw [Nat.sub_eq_zero_of_le h] at hr; simp at hr
   obtain ⟨rfl,hrest⟩:x=i∧rest=List.range' (i + 1) (ea.size - (i + 1)):=by
    have e:ea.size - i=(ea.size - (i + 1)) + 1:=by lia
    rw [e,List.range'_succ] at hr
    injection hr with h1 h2
    exact ⟨h1,h2⟩
   refine wpAny_bind (wpAny_dictEntries da rfl ?_)
   rw [Array.getElem?_eq_getElem hlt]
   obtain ⟨⟨k,v⟩,hkv,hh,dk,xk,xv⟩:=Ra.get (Array.getElem?_eq_getElem hlt)
   have hlt':x < ka.length:=by rw [← Ra.size]; exact hlt
   have hdrop:ka.drop x=(k,v) :: ka.drop (x + 1):=by
    rw [List.drop_eq_getElem_cons hlt']
    rw [List.getElem?_eq_getElem hlt'] at hkv
    rw [Option.some.inj hkv]
   have dv:v.isD=true:=va (k,v) (List.mem_of_getElem? hkv)
   dsimp only
   rw [hh]
   refine wpAny_bind (wpAny_holding (wpAny_bind (find_data (by lia) dk xk db rfl Rb (fun hno=>?_) fun j u hj=>?_)))
   ·have e:dictEq ka kb=false:=by rw [hpre,hdrop,List.all_cons,kget_none hno]; rfl
    rw [e] at h
    refine wpAny_pure ?_
    simp only [Bool.not_false,if_true]
    exact wpAny_pure (wpAny_pure h)
   ·refine wpAny_bind (wpAny_dictEntries db rfl ?_)
    obtain ⟨e,he,_,_,_,xu⟩:=Rb.get' hj
    have du:u.isD=true:=vb (k,u) (List.mem_of_getElem? hj)
    rw [he]
    dsimp only
    refine wpAny_holding (eqBool_data (by lia) dv du xv xu ?_)
    have hk:=kget_some Rb.nodup hj
    by_cases q:v=u
    ·rw [decide_eq_true q]
     simp only [Bool.not_true,Bool.false_eq_true,if_false]
     refine wpAny_bind (wpAny_dictEpoch da rfl ?_)
     rw [if_neg (by simp)]
     refine wpAny_pure ⟨rfl,rfl,x + 1,hrest,hlt,?_⟩
     rw [hpre,hdrop,List.all_cons,hk,q]; simp
    ·rw [decide_eq_false q]
     simp only [Bool.not_false,if_true]
     have e:dictEq ka kb=false:=by
      rw [hpre,hdrop,List.all_cons,hk]
      have:(some u == some v)=false:=by simp [Ne.symm q]
      rw [this]; rfl
     rw [e] at h
     exact wpAny_pure (wpAny_pure h)
  ·rintro q s' ⟨rfl,rfl,i,hr,hi,hpre⟩
   have hin:i=ea.size:=by
    rcases Nat.lt_or_ge i ea.size with h' | h'
    ·have e:ea.size - i=(ea.size - (i + 1)) + 1:=by lia
     rw [e,List.range'_succ] at hr; exact nomatch hr
    ·exact Nat.le_antisymm hi h'
   refine wpAny_pure ?_
   rw [hpre,hin,Ra.size,List.drop_length] at h
   exact h
 ·rw [if_pos (by simpa using hs)]
  have e:dictEq ka kb=false:=by
   have:(ka.length == kb.length)=false:=by rw [← Ra.size,← Rb.size]; simpa using hs
   simp only [dictEq,this,Bool.false_and]
  rw [e] at h
  exact wpAny_bind (wpAny_rule (wpAny_pure h))
theorem dict_eq {a b:Addr} {ka kb:List (AV×AV)} {ea eb:Array DictEntry} {pa pb:Nat} {Q:Value→Shared→Prop} (hu:A.units + 40 < cLine) (ha:(a == sysModules)=false) (hb:(b == sysModules)=false)
  (da:DAt s.heap a ea pa) (db:DAt s.heap b eb pb) (Ra:Ents w ρ n s.heap ka ea) (Rb:Ents w ρ n s.heap kb eb) (va:∀ p∈ka,p.2.isD=true) (vb:∀ p∈kb,p.2.isD=true)
  (h:Q (.bool (dictEq ka kb)) s):wpAny (model prog w) A (compareOp .Eq (.ref a) (.ref b)) Q E s:=by
 have hTa:=dobj_typeIs da
 have hTb:=dobj_typeIs db
 refine wpAny_richCompare_same_room (op:=.Eq) hTa hTb PySem.F.slot_dict_eq (wpAny_call_entry PySem.F.slot_dict_eq hTa PySem.F.entry_dict_eq ?_ (PySem.F.args_dict_eq_2 _ _)) (by lia)
 show wpAny _ _ (Builtin.Dict.dictSlotArgs "__eq__" ⟨[.ref a,.ref b],[]⟩ >>= _) _ _ s
 refine wpAny_bind ?_
 unfold Builtin.Dict.dictSlotArgs
 refine wpAny_bind (wpAny_notOrdered_dict hTa ?_)
 show wpAny _ _ (pure (Value.ref a,Value.ref b)) _ _ s
 refine wpAny_pure ?_
 refine wpAny_bind (wpAny_isInstance (T:="dict") hTb PySem.F.sub_dict_dict ?_)
 simp only [Bool.not_true,Bool.false_eq_true,if_false]
 refine wpAny_bind (wpAny_pure (wpAny_bind (wpAny_pure ?_)))
 refine wpAny_bind (samePairs_data (by first | lia | (simp only [Around.in1_units]; lia)) ha hb da db Ra Rb va vb ?_)
 refine wpAny_pure ⟨_,rfl,?_,?_⟩
 ·exact fun x=>nomatch x
 ·simpa using h
theorem storeAll (hu:A.units + 30 < cLine) {d:Addr}:∀ (vs:List (Value×Value)) (l:List AV) (acc r:List (AV×AV)) (s:Shared) (es:Array DictEntry) (ep:Nat) {Q:Unit→Shared→Prop},
  DAt s.heap d es ep→Ents w ρ n s.heap acc es→l.length=2 * vs.length→(∀ (j:Nat) (k v:AV) (p:Value×Value),l[2 * j]?=some k→l[2 * j + 1]?=some v→vs[j]?=some p→Val ρ n s.heap k p.1∧Val ρ n s.heap v p.2)→mkKvs acc l=some r →
  acc.length + vs.length≤1048576 →
  (∀ h' tk es' ep',Heap.SameBut d s.heap h'→DAt h' d es' ep'→Ents w ρ n h' r es'→Q () { s with heap:=h',toks:=tk }) →
  wpAny (model prog w) A (forIn vs PUnit.unit fun p _=>do dictSet d p.1 p.2; pure (.yield PUnit.unit)) (fun _=>Q ()) E s:=by
 intro vs
 induction vs with
 | nil =>
  intro l acc r s es ep Q hd R hl hv hm hz h
  have:l=[]:=by simpa using hl
  subst this
  cases hm
  rw [List.forIn_nil]
  exact wpAny_pure (h s.heap s.toks es ep (Heap.SameBut.refl _ _) hd R)
 | cons p vs ih =>
  intro l acc r s es ep Q hd R hl hv hm hz h
  obtain ⟨pk,pv⟩:=p
  match l,hl with
  | k :: v :: l',hl =>
   replace hm:(if k.isD=true then mkKvs (kput acc k v) l' else none)=some r:=hm
   by_cases dk:k.isD=true
   ·rw [if_pos dk] at hm
    obtain ⟨xk,xv⟩:=hv 0 k v (pk,pv) rfl rfl rfl
    rw [List.forIn_cons]
    refine wpAny_bind (wpAny_bind (dictSet_data (by lia) dk xk hd R (by rw [szLine]; simp at hz; lia) fun h₁ tk es₁ ep₁ hs hd₁ q=>?_))
    have k₁:TK s.heap h₁:=TK.but (W:=fun b=>b=d) (fun b o hb e=>(hs.2 b hb).trans e) (fun b o hb e=>by
     rw [hb,hd] at e; cases e; show Value.type "dict"≠Value.type "tuple"; decide)
    refine wpAny_pure ?_
    refine ih l' (kput acc k v) r { s with heap:=h₁,toks:=tk } es₁ ep₁ hd₁ (R.put dk (fun x u y=>y.tk k₁) (xk.tk k₁) (xv.tk k₁) q) (by simp at hl; lia) (fun j k' v' p' e1 e2 e3=>?_) hm
     (by have:=kput_len acc k v; simp at hz; lia) fun h' tk' es' ep' hs' hd' R'=>h h' tk' es' ep' (hs.trans hs') hd' R'
    have:=hv (j + 1) k' v' p' (by rw [← e1,show 2 * (j + 1)=2 * j + 1 + 1 by lia]; rfl) (by rw [← e2,show 2 * (j + 1) + 1=(2 * j + 1) + 1 + 1 by lia]; rfl) (by simpa using e3)
    exact ⟨this.1.tk k₁,this.2.tk k₁⟩
   ·rw [if_neg dk] at hm; cases hm
  | [],hl=>simp at hl
  | [_],hl=>simp at hl; lia
end
end Mine
namespace Mine
section
set_option maxRecDepth 100000
open PySem PySem.W PyProof.Rows PySem.Calls
variable {prog:PySem.Program} {w:World} {A:Around} {E:Value→Shared→Prop} {s:Shared} {ρ:Nat→Addr} {n:Nat}
inductive VL (ρ:Nat→Addr) (n:Nat) (h:Heap):List AV→List Value→Prop
 | nil:VL ρ n h [] []
 | cons {a v r q}:Val ρ n h a v→VL ρ n h r q→VL ρ n h (a :: r) (v :: q)
theorem VL.len {h:Heap} {xs:List AV} {vs:List Value} (x:VL ρ n h xs vs):vs.length=xs.length:=by induction x with | nil=>rfl | cons _ _ ih=>simp [ih]
theorem VL.get {h:Heap} {xs:List AV} {vs:List Value} (x:VL ρ n h xs vs):∀ (j:Nat) (b:AV) (v:Value),xs[j]?=some b→vs[j]?=some v→Val ρ n h b v:=by
 induction x with
 | nil=>intro j b v e; simp at e
 | cons hv _ ih =>
  intro j b v e1 e2
  cases j with
  | zero=>simp at e1 e2; subst e1 e2; exact hv
  | succ j=>exact ih j b v (by simpa using e1) (by simpa using e2)
theorem VL.at {h:Heap} {xs:List AV} {vs:List Value} (x:VL ρ n h xs vs) {j:Nat} {b:AV} (e:xs[j]?=some b):∃ v,vs[j]?=some v∧Val ρ n h b v:=by
 have hj:j < xs.length:=by
  rcases Nat.lt_or_ge j xs.length with h | h
  ·exact h
  ·rw [List.getElem?_eq_none h] at e; cases e
 exact ⟨vs[j]'(by rw [x.len]; exact hj),List.getElem?_eq_getElem _,x.get j b _ e (List.getElem?_eq_getElem _)⟩
theorem VL.of {h:Heap}:∀ {xs:List AV} {vs:List Value},vs.length=xs.length→(∀ (j:Nat) (b:AV) (v:Value),xs[j]?=some b→vs[j]?=some v→Val ρ n h b v)→VL ρ n h xs vs
 | [],[],_,_=>.nil
 | _ :: _,_ :: _,hl,hv=>.cons (hv 0 _ _ rfl rfl) (VL.of (by simpa using hl) fun j b v e1 e2=>hv (j + 1) b v (by simpa using e1) (by simpa using e2))
 | [],_ :: _,hl,_=>by simp at hl
 | _ :: _,[],hl,_=>by simp at hl
theorem VL.mono {ρ':Nat→Addr} {n':Nat} {h h':Heap} (k:TK h h') (hn:n≤n') (hρ:∀ i,i < n→ρ' i=ρ i) {xs:List AV} {vs:List Value} (x:VL ρ n h xs vs):VL ρ' n' h' xs vs:=by
 induction x with | nil=>exact .nil | cons hv _ ih=>exact .cons (hv.mono k hn hρ) ih
theorem VL.append {h:Heap} {xs ys:List AV} {vs us:List Value} (x:VL ρ n h xs vs) (y:VL ρ n h ys us):VL ρ n h (xs++ys) (vs++us):=by
 induction x with | nil=>exact y | cons hv _ ih=>exact .cons hv ih
theorem VL.split {h:Heap}:∀ {xs ys:List AV} {vs:List Value},VL ρ n h (xs++ys) vs→Ex2 fun us ws=>vs=us++ws∧VL ρ n h xs us∧VL ρ n h ys ws
 | [],_,vs,x=>⟨[],vs,rfl,.nil,x⟩
 | _ :: _,_,_,.cons hv r=>let ⟨us,ws,e,y,z⟩:=r.split; ⟨_ :: us,ws,by rw [e]; rfl,.cons hv y,z⟩
theorem VL.perm {h:Heap} {vs us:List Value} (p:us.Perm vs):∀ {xs:List AV},VL ρ n h xs vs→∃ ys,ys.Perm xs∧VL ρ n h ys us:=by
 induction p with
 | nil=>intro xs x; exact ⟨xs,.refl _,x⟩
 | cons v _ ih =>
  intro xs x
  cases x with
  | cons hv r=>obtain ⟨ys,q,y⟩:=ih r; exact ⟨_ :: ys,q.cons _,.cons hv y⟩
 | swap a b l =>
  intro xs x
  cases x with
  | cons h1 r=>cases r with | cons h2 r=>exact ⟨_,List.Perm.swap _ _ _,.cons h2 (.cons h1 r)⟩
 | trans _ _ ih1 ih2 =>
  intro xs x
  obtain ⟨ys,q,y⟩:=ih2 x
  obtain ⟨zs,q',z⟩:=ih1 y
  exact ⟨zs,q'.trans q,z⟩
theorem items_VL {h:Heap}:∀ {a:AV} {vs:List Value},Items ρ n h a vs→∃ l,a.toL=some l∧VL ρ n h l vs:=by
 intro a
 induction a with
 | nil=>intro vs x; obtain rfl:vs=[]:=x; exact ⟨[],rfl,.nil⟩
 | cons a r _ ih =>
  intro vs x
  obtain ⟨v,q,rfl,x1,x2⟩:=x
  obtain ⟨l,e,y⟩:=ih x2
  exact ⟨a :: l,by rw [toL_c,e]; rfl,.cons x1 y⟩
 | _=>intro vs x; exact x.elim
theorem VL_items {h:Heap}:∀ {a:AV} {l:List AV} {vs:List Value},a.toL=some l→VL ρ n h l vs→Items ρ n h a vs:=by
 intro a
 induction a with
 | nil=>intro l vs e x; cases e; cases x; rfl
 | cons a r _ ih =>
  intro l vs e x
  obtain ⟨l',e1,rfl⟩:=Option.map_eq_some_iff.mp e
  cases x with
  | cons hv y=>exact ⟨_,_,rfl,hv,ih e1 y⟩
 | _=>intro l vs e; cases e
theorem srcDict {d:Addr} (lo:(d == sysModules)=false) {es:Array DictEntry} {ep:Nat}:KdlSrc prog w "dict" d d es.size (fun i v=>∃ e,es[i]?=some e∧v=e.key) (fun h=>DAt h d es ep) where
 type:=fun _ hm=>⟨_,hm,rfl⟩
 there:=fun _ hm=>⟨Heap.lt_size hm,Heap.lt_size hm⟩
 keep:=fun _ _ hm hk=>hk d (.inl rfl) _ hm
 notList:=by decide
 notTuple:=by decide
 hint:=fun _ _ _ _ hm hq=>kdl_hint_dict ⟨_,hm,rfl⟩ hq
 iter:=fun A s hh hm=>by
  refine ⟨{ cls:=.type "dict_keyiterator",data:=.fields #[.ref d,.int 0 0,.int es.size 0,.int ep 0] },_,fun E Q hq=>?_,walksKeys hh s.heap.objs.size d (Nat.ne_of_lt (Heap.lt_size hm)) es ep,⟨⟨_,Heap.get?_push_size _ rfl,rfl,rfl⟩,Heap.get?_push_of_some _ hm⟩⟩
  have hT:=dobj_typeIs hm
  refine wpAny_pyIter_slot hT F.slot_dict_iter (wpAny_call_entry F.slot_dict_iter hT F.entry_dict_iter ?_ (F.args_dict_iter_1 _))
  refine wpAny_bind (wpAny_bind (wpAny_notOrdered_dict hT (wpAny_pure (a:=Value.ref d) ?_)))
  show wpAny _ _ (Builtin.Dict.showsAll d >>= _) _ _ s
  unfold Builtin.Dict.showsAll
  rw [if_neg (by rw [lo]; exact Bool.false_ne_true)]
  refine wpAny_bind (wpAny_pure (wpAny_bind (wpAny_dictEntries hm rfl (wpAny_bind (wpAny_dictEpoch hm rfl ?_)))))
  exact wpAny_bind (wpAny_newObj_type (wpAny_pure ⟨_,rfl,"dict_keyiterator",_,⟨_,Heap.get?_push_size _ rfl,rfl⟩,F.slot_dict_keyiterator_next.lookup,hq⟩))
theorem keys_VL {h:Heap} {kvs:List (AV×AV)} {es:Array DictEntry} (R:Ents w ρ n h kvs es) {vs:List Value} (hl:vs.length=es.size) (hv:∀ (j:Nat) (v:Value),vs[j]?=some v→∃ e,es[j]?=some e∧v=e.key) :
  VL ρ n h (kvs.map (·.1)) vs:=VL.of (by rw [List.length_map,← R.size,hl]) fun j b v e1 e2=>by
 obtain ⟨e,he,rfl⟩:=hv j v e2
 obtain ⟨p,hp,_,_,x,_⟩:=R.get he
 rw [List.getElem?_map,hp] at e1
 cases e1
 exact x
theorem sort_small {a:Addr} {vs:List Value} {c:Nat} {P:Fin→Shared→Prop} (ho:s.heap.get? a=some (seqObj "list" vs.toArray c)) (h2:vs.length < 2)
  (h:∀ h' c',(∀ b o,b≠a→s.heap.get? b=some o→h'.get? b=some o)→h'.get? a=some (seqObj "list" vs.toArray c')→P (.done (.ret .none)) { s with heap:=h' }) :
  wpAny (model prog w) A (Builtin.«list.sort» ⟨[.ref a],[]⟩) P E s:=by
 rw [list_sort_plain]
 have ha:a < s.heap.objs.size:=Heap.lt_size ho
 refine wpAny_bind (listItems_at ho rfl (wpAny_bind (listUpdate_at ho rfl ?_)))
 obtain ⟨e1,ho1⟩:∃ e1,(s.heap.update a (Obj.mapSeq fun _=>#[])).get? a=some (seqObj "list" #[] e1):=⟨_,get?_update_seq ho (fun _=>#[])⟩
 refine wpAny_bind (seqEpoch_at ho1 rfl (wpAny_bind (wpAny_newTuple (wpAny_bind (wpAny_newList (wpAny_holding ?_))))))
 have ho6:(((s.heap.update a (Obj.mapSeq fun _=>#[])).push (seqObj "tuple" vs.toArray 0)).push (seqObj "list" #[] 0)).get? a=some (seqObj "list" #[] e1):=by
  rw [Heap.get?_push_ne _ _ _ (by rw [size_push',Heap.size_update]; exact Nat.ne_of_lt (Nat.lt_succ_of_lt ha)),Heap.get?_push_ne _ _ _ (by rw [Heap.size_update]; exact Nat.ne_of_lt ha)]
  exact ho1
 show wpAny (model prog w) A _ P E { s with heap:=((s.heap.update a (Obj.mapSeq fun _=>#[])).push (seqObj "tuple" vs.toArray 0)).push (seqObj "list" #[] 0) }
 dsimp only
 have h2':vs.toArray.size < 2:=by simpa using h2
 rw [if_pos h2',if_pos h2']
 refine wpAny_bind (wpAny_pure ?_)
 rw [StateT.run_pure]
 refine wpAny_bind (wpAny_pure ?_)
 dsimp only
 have out:(arrOf (SortSt.mk' general' (vs.toArray.zip vs.toArray) #[] 7 none)).map (·.2)=vs.toArray:=by
  show (vs.toArray.zip vs.toArray).map (·.2)=vs.toArray
  rw [← Array.toList_inj]
  simp only [Array.toList_map,Array.toList_zip]
  exact List.map_snd_zip (Nat.le_refl _)
 refine wpAny_bind (seqEpoch_at ho6 rfl ?_)
 rw [out]
 refine wpAny_bind (listUpdate_at ho6 rfl ?_ (hsz2:=by rw [szLine]; simp; lia))
 simp only [bne_self_eq_false,Bool.false_eq_true,if_false]
 refine wpAny_pure (h _ _ (fun b o hb e=>?_) (get?_update_seq ho6 fun _=>vs.toArray))
 exact (Heap.get?_update_other _ _ (Ne.symm hb)).trans (Heap.get?_push_of_some _ (Heap.get?_push_of_some _ ((Heap.get?_update_other _ _ (Ne.symm hb)).trans e)))
noncomputable def strLe (a b:Str):Prop:=¬ b.cps.toList < a.cps.toList
theorem risingS_pairwise:∀ (l:List Str) (p:Str),risingS p l=true→(p :: l).Pairwise strLe:=by
 intro l
 induction l with
 | nil=>intro p _; simp
 | cons x r ih =>
  intro p h
  simp only [risingS,Bool.and_eq_true,Bool.not_eq_true'] at h
  have hx:=ih x h.2
  have hpx:strLe p x:=by
   have:=h.1
   unfold strLe
   rw [ltCps_eq] at this
   simpa using this
  refine List.pairwise_cons.mpr ⟨fun y hy=>?_,hx⟩
  rcases List.mem_cons.mp hy with rfl | hm
  ·exact hpx
  ·have hxy:strLe x y:=(List.pairwise_cons.mp hx).1 y hm
   exact List.not_lt.mpr (List.le_trans (List.not_lt.mp hpx) (List.not_lt.mp hxy))
theorem sortedS_pairwise {l:List Str} (h:sortedS l=true):l.Pairwise strLe:=by
 cases l with
 | nil=>simp
 | cons x r=>exact risingS_pairwise r x h
theorem sorted_uniq {a b:List Str} (p:a.Perm b) (ha:sortedS a=true) (hb:sortedS b=true):a=b :=
 p.eq_of_pairwise (fun x y _ _ h1 h2=>by
  have:x.cps.toList=y.cps.toList:=List.le_antisymm (List.not_lt.mp h1) (List.not_lt.mp h2)
  obtain ⟨x⟩:=x; obtain ⟨y⟩:=y
  exact congrArg Str.mk (Array.toList_inj.mp this)) (sortedS_pairwise ha) (sortedS_pairwise hb)
end
end Mine
namespace Mine
section
set_option maxRecDepth 100000
open PySem PySem.W PyProof.Rows PySem.Calls
variable {prog:PySem.Program} {w:World} {A:Around} {E:Value→Shared→Prop} {s:Shared} {ρ:Nat→Addr} {n:Nat}
noncomputable def tStr:AV→Str
 | .str x=>T x
 | _=>⟨#[]⟩
noncomputable def isS:AV→Bool
 | .str _=>true
 | _=>false
noncomputable def SortsOk (C:Nat→Option (List AV)):Prop:=∀ k r,C k=some r→r.all isS=true∧sortedS (r.map tStr)=true∧r.length < 64
theorem VL.strs {h:Heap} {xs:List AV} {vs:List Value} (x:VL ρ n h xs vs) (hs:xs.all isS=true):StrsAre vs (xs.map tStr):=by
 induction xs generalizing vs with
 | nil=>cases x; exact .nil
 | cons a r ih =>
  cases x with
  | cons hv q =>
   simp only [List.all_cons,Bool.and_eq_true] at hs
   cases a with
   | str y=>obtain ⟨t,rfl⟩:=hv; exact .cons _ _ (ih q hs.2)
   | _=>cases hs.1
theorem map_tStr_inj:∀ {xs ys:List AV},xs.all isS=true→ys.all isS=true→xs.map tStr=ys.map tStr→xs=ys:=by
 intro xs
 induction xs with
 | nil=>intro ys _ _ e; cases ys with
  | nil=>rfl
  | cons=>cases e
 | cons a r ih=>intro ys h1 h2 e; cases ys with
  | nil=>cases e
  | cons b q =>
   rw [List.all_cons,Bool.and_eq_true] at h1 h2
   rw [List.map_cons,List.map_cons] at e
   injection e with e1 e2
   rw [ih h1.2 h2.2 e2]
   cases a with
   | str x =>
    cases b with
    | str y=>rw [T_inj e1]
    | _=>cases h2.1
   | _=>cases h1.1
theorem perm_all {p:AV→Bool} {a b:List AV} (h:a.Perm b) (hb:b.all p=true):a.all p=true :=
 List.all_eq_true.mpr fun x hx=>List.all_eq_true.mp hb x (h.mem_iff.mp hx)
theorem sort_list {a:Addr} {vs:List Value} {c:Nat} {l r:List AV} {C:Nat→Option (List AV)} {P:Fin→Shared→Prop} (hC:SortsOk C) (ho:s.heap.get? a=some (seqObj "list" vs.toArray c)) (hv:VL ρ n s.heap l vs)
  (hr:(l=[]∧r=[])∨(∃ x,l=[x]∧r=[x])∨∃ k,C k=some r∧l.Perm r)
  (h:∀ h' us c',(∀ b o,b≠a→s.heap.get? b=some o→h'.get? b=some o)→h'.get? a=some (seqObj "list" us.toArray c')→VL ρ n h' r us→P (.done (.ret .none)) { s with heap:=h' }) :
  wpAny (model prog w) A (Builtin.«list.sort» ⟨[.ref a],[]⟩) P E s:=by
 have tk:∀ h':Heap,(∀ b o,b≠a→s.heap.get? b=some o→h'.get? b=some o)→TK s.heap h':=fun h' hk=>TK.but (W:=fun b=>b=a) (fun b o hb e=>hk b o hb e) fun b o hb e=>by
  rw [hb,ho] at e; cases e; show Value.type "list"≠Value.type "tuple"; decide
 have small:vs.length < 2→l=r→wpAny (model prog w) A (Builtin.«list.sort» ⟨[.ref a],[]⟩) P E s:=fun h2 e =>
  sort_small ho h2 fun h' c' hk ho'=>h h' vs c' hk ho' (e ▸ hv.mono (tk h' hk) (Nat.le_refl _) fun _ _=>rfl)
 rcases hr with ⟨rfl,rfl⟩ | ⟨x,rfl,rfl⟩ | ⟨k,hk,hp⟩
 ·exact small (by rw [hv.len]; simp) rfl
 ·exact small (by rw [hv.len]; simp) rfl
 ·obtain ⟨rs,rsort,rlen⟩:=hC k r hk
  have ls:=perm_all hp rs
  have hS:=hv.strs ls
  refine list_sort_treeK strKind_oneLt ho hS.keysOf (fun v₁ v₂ rest e=>keyKind_strs (by rw [← e]; exact hS)) (by rw [hv.len,hp.length_eq]; exact rlen) fun st' hperm hsort=>?_
  obtain ⟨ss',h1,h2,h3⟩:=sorted_out_str hS hperm hsort
  have po:(((arrOf st').map (·.2)).toList).Perm vs:=by
   have p1:((arrOf st').toList).Perm (pairsOf vs).toList:=Array.perm_iff_toList_perm.mp hperm
   have p2:=p1.map (·.2)
   have e:((pairsOf vs).toList.map (·.2))=vs:=by
    unfold pairsOf
    simp only [Array.toList_zip]
    exact List.map_snd_zip (Nat.le_refl _)
   rw [e] at p2
   simpa using p2
  obtain ⟨ys,py,vy⟩:=hv.perm po
  have ysS:=perm_all py ls
  have e1:ys=r:=map_tStr_inj ysS rs (sorted_uniq ((py.trans hp).map tStr) (by
   have:=(vy.strs ysS)
   have e:ys.map tStr=ss':=by
    have u:∀ {vs:List Value} {a b:List Str},StrsAre vs a→StrsAre vs b→a=b:=by
     intro vs a b x
     induction x generalizing b with
     | nil=>intro y; cases y; rfl
     | cons _ _ _ ih=>intro y; cases y with | cons _ _ z=>rw [ih z]
    exact u this h1
   rw [e]; exact h3) rsort)
  subst e1
  obtain ⟨c',ho'⟩:∃ c',(sortedHeap s.heap a vs ((arrOf st').map (·.2))).get? a=some (seqObj "list" ((arrOf st').map (·.2)) c'):=by
   unfold sortedHeap
   have ha:a < s.heap.objs.size:=Heap.lt_size ho
   obtain ⟨e1,ho1⟩:∃ e1,(s.heap.update a (Obj.mapSeq fun _=>#[])).get? a=some (seqObj "list" #[] e1):=⟨_,get?_update_seq ho (fun _=>#[])⟩
   have ho6:(((s.heap.update a (Obj.mapSeq fun _=>#[])).push (seqObj "tuple" vs.toArray 0)).push (seqObj "list" #[] 0)).get? a=some (seqObj "list" #[] e1):=by
    rw [Heap.get?_push_ne _ _ _ (by rw [size_push',Heap.size_update]; exact Nat.ne_of_lt (Nat.lt_succ_of_lt ha)),Heap.get?_push_ne _ _ _ (by rw [Heap.size_update]; exact Nat.ne_of_lt ha)]
    exact ho1
   exact ⟨_,get?_update_seq ho6 fun _=>_⟩
  have hk':∀ b o,b≠a→s.heap.get? b=some o→(sortedHeap s.heap a vs ((arrOf st').map (·.2))).get? b=some o:=fun b o hb e=>by
   unfold sortedHeap
   exact (Heap.get?_update_other _ _ (Ne.symm hb)).trans (Heap.get?_push_of_some _ (Heap.get?_push_of_some _ ((Heap.get?_update_other _ _ (Ne.symm hb)).trans e)))
  exact h _ ((arrOf st').map (·.2)).toList c' hk' (by rw [Array.toArray_toList]; exact ho') (vy.mono (tk _ hk') (Nat.le_refl _) fun _ _=>rfl)
theorem sorted_dict (hh:A.handled=none) {d:Addr} (lo:(d == sysModules)=false) {es:Array DictEntry} {ep:Nat} {kvs:List (AV×AV)} {r:List AV} {C:Nat→Option (List AV)} {Q:Value→Shared→Prop} (hC:SortsOk C)
  (ho:DAt s.heap d es ep) (R:Ents w ρ n s.heap kvs es) (hz:kvs.length≤1048576) (hr:(kvs.map (·.1)=[]∧r=[])∨(∃ x,kvs.map (·.1)=[x]∧r=[x])∨∃ k,C k=some r∧(kvs.map (·.1)).Perm r)
  (h:∀ h' tk D us c',(∀ b o,s.heap.get? b=some o→h'.get? b=some o)→s.heap.get? D=none→h'.get? D=some (seqObj "list" us.toArray c')→VL ρ n h' r us→Q (.ref D) { s with heap:=h',toks:=tk }) :
  wpAny (model prog w) A (call (.builtin "sorted") [.ref d]) Q E s:=by
 refine call_function_entry kind_sorted plain_sorted entry_sorted (args_sorted1 _) ?_
 unfold Builtin.«sorted»
 refine wpAny_bind (m:=checkCount "sorted" 1 1 _) (wpAny_pure ?_)
 refine wpAny_bind (kdu_collect (A:=A.in1) (srcDict (prog:=prog) (w:=w) lo) hh ho (by rw [R.size,szLine]; lia) fun h₁ tk acc hk hacc=>?_)
 have hl:acc.toList.length=es.size:=by rw [Array.length_toList]; exact hacc.1
 refine wpAny_bind (wpAny_newList ?_ (by rw [hl,R.size,szLine]; lia))
 have kv:VL ρ n s.heap (kvs.map (·.1)) acc.toList:=keys_VL R hl fun j v e=>hacc.2 j v (by rw [← Array.getElem?_toList]; exact e)
 have k1:∀ b o,s.heap.get? b=some o→(h₁.push { cls:=.type "list",data:=.seq acc.toList.toArray }).get? b=some o:=fun b o e=>Heap.get?_push_of_some _ (hk b o e)
 have hoL:(h₁.push { cls:=.type "list",data:=.seq acc.toList.toArray }).get? h₁.objs.size=some (seqObj "list" acc.toList.toArray 0):=Heap.get?_push_size _ rfl
 have fresh:s.heap.get? h₁.objs.size=none:=by
  cases q:s.heap.get? h₁.objs.size with
  | none=>rfl
  | some o=>exact absurd (Heap.lt_size (hk _ _ q)) (Nat.lt_irrefl _)
 refine wpAny_bind (wpAny_holding (wpAny_call_entry slot_list_sort ⟨_,hoL,rfl⟩ entry_list_sort (sort_list (s:={ s with heap:=h₁.push { cls:=.type "list",data:=.seq acc.toList.toArray },toks:=tk }) hC hoL
  (kv.mono (TK.of_keep k1) (Nat.le_refl _) fun _ _=>rfl) hr fun h' us c' hk' ho' vr=>⟨_,rfl,?_⟩) (args_list_sort _)))
 exact wpAny_pure ⟨_,rfl,h h' tk h₁.objs.size us c' (fun b o e=>hk' b o (fun q=>by rw [q,fresh] at e; cases e) (k1 b o e)) fresh ho' vr⟩
noncomputable def intOf:AV→Int
 | .int i=>i
 | _=>0
theorem sumL_pre:∀ {l:List AV} {k:Int},sumL l=some k→preSum (fun i=>intOf (l.getD i .none)) l.length=k∧∀ a∈l,∃ i,a=.int i:=by
 intro l
 induction l with
 | nil=>intro k h; cases h; exact ⟨rfl,fun _ h=>by cases h⟩
 | cons a r ih =>
  intro k h
  cases a with
  | int x =>
   obtain ⟨k',h1,rfl⟩:=Option.map_eq_some_iff.mp h
   obtain ⟨e,hm⟩:=ih h1
   refine ⟨?_,fun b hb=>by rcases List.mem_cons.mp hb with rfl | hb; exact ⟨_,rfl⟩; exact hm b hb⟩
   rw [List.length_cons,kdu_shift]
   show intOf (.int x) + _=_
   rw [← e]; rfl
  | _=>cases h
theorem sum_data (hh:A.handled=none) {l:Addr} {vs:List Value} {xs:List AV} {k:Int} {Q:Value→Shared→Prop} (hl:s.heap.PlainList l vs.toArray) (hv:VL ρ n s.heap xs vs) (hs:sumL xs=some k)
  (h:∀ h' tk t,(∀ b o,s.heap.get? b=some o→h'.get? b=some o)→Q (.int k t) { s with heap:=h',toks:=tk }):wpAny (model prog w) A (call (.builtin "sum") [.ref l]) Q E s:=by
 obtain ⟨c,ho⟩:=hl
 obtain ⟨e,hint⟩:=sumL_pre hs
 refine call_sum_walkAnyS (wpAny_pyIter_list ⟨_,ho,rfl,c,rfl⟩ ?_)
 have hlt:=Heap.lt_size ho
 refine ⟨s.heap.objs.size,_,_,_,vs.toArray.size,_,_,fun i=>intOf (xs.getD i .none),rfl,(Walks.list (A:=A.in1) hh s.heap.objs.size l (Nat.ne_of_lt hlt) vs.toArray).toS,⟨⟨_,Heap.get?_push_size _ rfl,rfl,rfl⟩,⟨_,Heap.get?_push_of_some _ ho,rfl,c,rfl⟩⟩,fun b hb=>?_,fun i v hi=>?_,fun s' t' hm=>?_⟩
 ·show b < (s.heap.push _).objs.size
  rw [size_push']
  rcases List.mem_cons.mp hb with e | hb
  ·rw [e]; exact Nat.lt_succ_self _
  ·rw [List.mem_singleton.mp hb]; exact Nat.lt_succ_of_lt hlt
 ·have hi':vs[i]?=some v:=by simpa using hi
  have hlt':i < xs.length:=by
   rw [← hv.len]
   rcases Nat.lt_or_ge i vs.length with h | h
   ·exact h
   ·rw [List.getElem?_eq_none h] at hi'; cases hi'
  obtain ⟨x,hx⟩:=hint xs[i] (List.getElem_mem hlt')
  have:=hv.get i xs[i] v (List.getElem?_eq_getElem hlt') hi'
  rw [hx] at this
  obtain ⟨t,rfl⟩:=this
  exact ⟨t,by show Value.int x t=Value.int (intOf (xs.getD i .none)) t; rw [List.getD_eq_getElem?_getD,List.getElem?_eq_getElem hlt',hx]; rfl⟩
 ·have hk:∀ b o,s.heap.get? b=some o→s'.heap.get? b=some o:=fun b o e =>
   hm.heap b o (fun hI=>absurd (Heap.lt_size e) (by rw [List.mem_singleton.mp hI]; exact Nat.lt_irrefl _)) (Heap.get?_push_of_some _ e)
  rw [Moved.eq_with hm]
  have:=h s'.heap s'.toks t' hk
  rw [← e] at this
  rw [show vs.toArray.size=xs.length by simpa using hv.len]
  exact this
end
end Mine
namespace Mine
section
set_option maxRecDepth 100000
open PySem PySem.W PyProof.Rows PySem.Calls
noncomputable def NsK (h:Heap) (a:Addr) (m:Str→Option Value) (k:Nat):Prop:=Ex3 fun o es ep=>And5 (h.get? a=some o) (o.data=.dict es ep) (StrKeys es) (∀ name,nsFind es name=m name) (es.size≤k)
theorem NsK.ns {h:Heap} {a:Addr} {m:Str→Option Value} {k:Nat} (x:NsK h a m k):h.Ns a m:=let ⟨o,es,ep,e,d,s,f,_⟩:=x; ⟨o,es,ep,e,d,s,f⟩
noncomputable def NsOk (ρ:Nat→Addr) (n:Nat) (h:Heap) (m:Str→Option Value) (fs:Loc):Prop :=
 ∀ x,(∀ v,get fs x=some v→∃ u,m (T x)=some u∧Val ρ n h v u)∧(get fs x=none→m (T x)=none)
noncomputable def isK (c:Nat):Bool:=Nat.beq c w_Summary || Nat.beq c w_EscapeFlow || Nat.beq c w_Code
noncomputable def OAt (w:World) (cl:Nat→Addr) (h:Heap) (ρ:Nat→Addr) (n i:Nat):AObj→Prop
 | .lst xs=>∃ vs:List Value,h.PlainList (ρ i) vs.toArray∧VL ρ n h xs vs
 | .dct kvs=>Ex2 fun es ep=>DAt h (ρ i) es ep∧Ents w ρ n h kvs es
 | .ins c d=>(d < n∧isK c=true)∧h.get? (ρ i)=some (instObj (cl c) (ρ d))
 | .ns fs=>∃ m,NsK h (ρ i) m fs.length∧NsOk ρ n h m fs
 | .scr xs=>∃ vs:List Value,h.IsList (ρ i) vs.toArray∧IntsAre vs xs
noncomputable def isScr:AObj→Bool
 | .scr _=>true
 | _=>false
structure Rel (w:World) (cl:Nat→Addr) (B:Heap) (ρ:Nat→Addr) (st:Store) (h:Heap):Prop where
 keep:∀ b o,B.get? b=some o→h.get? b=some o
 obj:∀ i o,st[i]?=some o→OAt w cl h ρ st.length i o
 inj:∀ i j,i < st.length→j < st.length→ρ i=ρ j→i=j
 fresh:∀ i o,st[i]?=some o→isScr o=false→B.get? (ρ i)=none
structure Step (W:Addr→Prop) (ρ:Nat→Addr) (st:Store) (h:Heap) (ρ':Nat→Addr) (st':Store) (h':Heap):Prop where
 le:st.length≤st'.length
 ag:∀ i,i < st.length→ρ' i=ρ i
 tk:TK h h'
 out:∀ b o,¬ W b→(∀ i,i < st.length→b≠ρ i)→h.get? b=some o→h'.get? b=some o
 ex:∀ b o,¬ W b→h.get? b=some o→∃ o',h'.get? b=some o'
 new:∀ i,st.length≤i→i < st'.length→¬ W (ρ' i)→h.get? (ρ' i)=none
 dep:∀ i kvs,st[i]?=some (.dct kvs)→∃ kvs',st'[i]?=some (.dct kvs')∧kvs.length≤kvs'.length ∧
  (kvs'.length=kvs.length→∀ es ep es' ep',DAt h (ρ i) es ep→DAt h' (ρ i) es' ep'→ep'=ep)
variable {w:World} {cl:Nat→Addr} {B:Heap} {ρ ρ' ρ₁ ρ₂ ρ₃:Nat→Addr} {st st' st₁ st₂ st₃:Store} {h h' h₁ h₂ h₃:Heap} {W W':Addr→Prop}
noncomputable def no:Addr→Prop:=fun _=>False
theorem lt_of_at {α:Type} {l:List α} {i:Nat} {o:α} (e:l[i]?=some o):i < l.length:=by
 rcases Nat.lt_or_ge i l.length with h | h
 ·exact h
 ·rw [List.getElem?_eq_none h] at e; cases e
theorem OAt.there {i n:Nat} {o:AObj} (x:OAt w cl h ρ n i o):∃ ob,h.get? (ρ i)=some ob∧(ob.cls≠.type "tuple"∨∀ vs c,ob.data≠.seq vs c):=by
 cases o with
 | lst xs=>obtain ⟨vs,⟨c,e⟩,_⟩:=x; exact ⟨_,e,.inl (by show Value.type "list"≠Value.type "tuple"; decide)⟩
 | dct kvs=>obtain ⟨es,ep,e,_⟩:=x; exact ⟨_,e,.inl (by show Value.type "dict"≠Value.type "tuple"; decide)⟩
 | ins c d=>exact ⟨_,x.2,.inr fun vs c e=>by cases e⟩
 | ns fs=>obtain ⟨m,⟨o,es,ep,e,hd,_⟩,_⟩:=x; exact ⟨_,e,.inr fun vs c q=>by rw [hd] at q; cases q⟩
 | scr xs=>obtain ⟨vs,⟨o,e,hc,_⟩,_⟩:=x; exact ⟨_,e,.inl (by rw [hc]; decide)⟩
theorem NsOk.mono {n n':Nat} {m:Str→Option Value} {fs:Loc} (x:NsOk ρ n h m fs) (k:TK h h') (hn:n≤n') (hρ:∀ i,i < n→ρ' i=ρ i):NsOk ρ' n' h' m fs :=
 fun y=>⟨fun v e=>let ⟨u,a,b⟩:=(x y).1 v e; ⟨u,a,b.mono k hn hρ⟩,(x y).2⟩
theorem OAt.mono {i n n':Nat} {o:AObj} (x:OAt w cl h ρ n i o) (k:TK h h') (hn:n≤n') (hρ:∀ i,i < n→ρ' i=ρ i) (hi:i < n) (e:∀ ob,h.get? (ρ i)=some ob→h'.get? (ρ i)=some ob):OAt w cl h' ρ' n' i o:=by
 cases o with
 | lst xs=>obtain ⟨vs,⟨c,a⟩,v⟩:=x; exact ⟨vs,⟨c,by rw [hρ i hi]; exact e _ a⟩,v.mono k hn hρ⟩
 | dct kvs=>obtain ⟨es,ep,a,R⟩:=x; exact ⟨es,ep,by unfold DAt; rw [hρ i hi]; exact e _ a,R.mono fun x u y=>y.mono k hn hρ⟩
 | ins c d=>exact ⟨⟨Nat.lt_of_lt_of_le x.1.1 hn,x.1.2⟩,by rw [hρ i hi,hρ d x.1.1]; exact e _ x.2⟩
 | ns fs=>obtain ⟨m,⟨o,es,ep,a,r1,r2,r3,r4⟩,z⟩:=x; exact ⟨m,⟨o,es,ep,by rw [hρ i hi]; exact e _ a,r1,r2,r3,r4⟩,z.mono k hn hρ⟩
 | scr xs=>obtain ⟨vs,⟨o,a,r⟩,z⟩:=x; exact ⟨vs,⟨o,by rw [hρ i hi]; exact e _ a,r⟩,z⟩
theorem Rel.there (R:Rel w cl B ρ st h) {i:Nat} (hi:i < st.length):∃ ob,h.get? (ρ i)=some ob∧(ob.cls≠.type "tuple"∨∀ vs c,ob.data≠.seq vs c) :=
 (R.obj i _ (List.getElem?_eq_getElem hi)).there
theorem Step.refl (h:Heap):Step W ρ st h ρ st h :=
 ⟨Nat.le_refl _,fun _ _=>rfl,TK.refl _,fun _ _ _ _ e=>e,fun _ o _ e=>⟨o,e⟩,fun i a b=>absurd b (Nat.not_lt.mpr a),fun i kvs e=>⟨kvs,e,Nat.le_refl _,fun _ es ep es' ep' a b=>by
  have:=a.symm.trans b; injection this with this; injection this with _ _ q _; injection q with _ q; exact q.symm⟩⟩
theorem Step.weak (s:Step W ρ st h ρ' st' h') (i:∀ b,W b→W' b):Step W' ρ st h ρ' st' h':={ s with out:=fun b o hw=>s.out b o fun x=>hw (i b x),ex:=fun b o hw=>s.ex b o fun x=>hw (i b x),new:=fun j a c hw=>s.new j a c fun x=>hw (i _ x) }
theorem Step.trans (R₂:Rel w cl B ρ₂ st₂ h₂) (a:Step W ρ₁ st₁ h₁ ρ₂ st₂ h₂) (b:Step W' ρ₂ st₂ h₂ ρ₃ st₃ h₃) (hw:∀ x,W' x→(h₁.get? x).isSome=true→W x):Step W ρ₁ st₁ h₁ ρ₃ st₃ h₃ where
 le:=Nat.le_trans a.le b.le
 ag:=fun i hi=>(b.ag i (Nat.lt_of_lt_of_le hi a.le)).trans (a.ag i hi)
 tk:=a.tk.trans b.tk
 out:=fun x o hx hi e=>b.out x o (fun q=>hx (hw x q (by rw [e]; rfl))) (fun i hi' q=>by
  rcases Nat.lt_or_ge i st₁.length with hlt | hge
  ·exact hi i hlt (q.trans (a.ag i hlt))
  ·rw [q,a.new i hge hi' (q ▸ hx)] at e; cases e) (a.out x o hx hi e)
 ex:=fun x o hx e=>let ⟨o2,e2⟩:=a.ex x o hx e; b.ex x o2 (fun q=>hx (hw x q (by rw [e]; rfl))) e2
 new:=fun i hi hi' hx=>by
  rcases Nat.lt_or_ge i st₂.length with hlt | hge
  ·rw [b.ag i hlt] at hx ⊢; exact a.new i hi hlt hx
  ·cases q:h₁.get? (ρ₃ i) with
   | none=>rfl
   | some o =>
    exfalso
    obtain ⟨o2,q2⟩:=a.ex _ o hx q
    rw [b.new i hge hi' (fun z=>hx (hw _ z (by rw [q]; rfl)))] at q2; cases q2
 dep:=fun i kvs e=>by
  obtain ⟨k2,e2,l2,d2⟩:=a.dep i kvs e
  obtain ⟨k3,e3,l3,d3⟩:=b.dep i k2 e2
  refine ⟨k3,e3,Nat.le_trans l2 l3,fun q es ep es' ep' x y=>?_⟩
  have hi:=lt_of_at e
  obtain ⟨es2,ep2,z,_⟩:=R₂.obj i _ e2
  have hz:DAt h₂ (ρ₁ i) es2 ep2:=by unfold DAt; rw [← a.ag i hi]; exact z
  rw [d3 (by lia) es2 ep2 es' ep' (by unfold DAt; rw [a.ag i hi]; exact hz) (by unfold DAt; rw [a.ag i hi]; exact y),d2 (by lia) es ep es2 ep2 x hz]
theorem Val.step {a:AV} {v:Value} (x:Val ρ st.length h a v) (s:Step W ρ st h ρ' st' h'):Val ρ' st'.length h' a v:=x.mono s.tk s.le s.ag
theorem VL.step {a:List AV} {v:List Value} (x:VL ρ st.length h a v) (s:Step W ρ st h ρ' st' h'):VL ρ' st'.length h' a v:=x.mono s.tk s.le s.ag
theorem Items.step {a:AV} {v:List Value} (x:Items ρ st.length h a v) (s:Step W ρ st h ρ' st' h'):Items ρ' st'.length h' a v:=Items.mono s.tk s.le s.ag x
theorem dep_same {i:Nat} {kvs:List (AV×AV)} (e:st[i]?=some (.dct kvs)) (k:∀ es ep,DAt h (ρ i) es ep→DAt h' (ρ i) es ep) :
  ∃ kvs',st[i]?=some (.dct kvs')∧kvs.length≤kvs'.length∧(kvs'.length=kvs.length→∀ es ep es' ep',DAt h (ρ i) es ep→DAt h' (ρ i) es' ep'→ep'=ep) :=
 ⟨kvs,e,Nat.le_refl _,fun _ es ep es' ep' a b=>by
  have:=(k es ep a).symm.trans b; injection this with this; injection this with _ _ q _; injection q with _ q; exact q.symm⟩
theorem Rel.but (R:Rel w cl B ρ st h) (k:∀ b o,¬ W b→h.get? b=some o→h'.get? b=some o) (hi:∀ i,i < st.length→¬ W (ρ i)) (hB:∀ b,W b→B.get? b=none) (ht:∀ b o,W b→h.get? b=some o→(o.cls≠.type "tuple"∨∀ vs c,o.data≠.seq vs c)) :
  Rel w cl B ρ st h'∧Step W ρ st h ρ st h':=by
 have tk:TK h h':=TK.but' k fun b o x e=>ht b o x e
 refine ⟨⟨fun b o e=>k b o (fun x=>by rw [hB b x] at e; cases e) (R.keep b o e),fun i o e=>(R.obj i o e).mono tk (Nat.le_refl _) (fun _ _=>rfl) (lt_of_at e) fun ob a=>k _ ob (hi i (lt_of_at e)) a,R.inj,R.fresh⟩,
  Nat.le_refl _,fun _ _=>rfl,tk,fun b o hb _ e=>k b o hb e,fun b o hb e=>⟨o,k b o hb e⟩,fun i a b=>absurd b (Nat.not_lt.mpr a),fun i kvs e=>dep_same e fun es ep a=>k _ _ (hi i (lt_of_at e)) a⟩
theorem Rel.keeps (R:Rel w cl B ρ st h) (k:∀ b o,h.get? b=some o→h'.get? b=some o):Rel w cl B ρ st h'∧Step no ρ st h ρ st h' :=
 R.but (fun b o _ e=>k b o e) (fun _ _ x=>x) (fun _ x=>x.elim) fun _ _ x=>x.elim
theorem Rel.push (R:Rel w cl B ρ st h) {a:Addr} {ao:AObj} (ha:h.get? a=none) (k:∀ b o,h.get? b=some o→h'.get? b=some o)
  (ho:∀ ρ',(∀ i,i < st.length→ρ' i=ρ i)→ρ' st.length=a→OAt w cl h' ρ' (st.length + 1) st.length ao) :
  ∃ ρ',ρ' st.length=a∧Rel w cl B ρ' (st++[ao]) h'∧Step no ρ st h ρ' (st++[ao]) h':=by
 refine ⟨fun i=>if i=st.length then a else ρ i,if_pos rfl,?_⟩
 have ag:∀ i,i < st.length→(fun i=>if i=st.length then a else ρ i) i=ρ i:=fun i hi=>if_neg (Nat.ne_of_lt hi)
 generalize hρ:(fun i=>if i=st.length then a else ρ i)=ρ' at ag
 have e0:ρ' st.length=a:=by rw [← hρ]; exact if_pos rfl
 have tk:TK h h':=TK.of_keep k
 have len:(st++[ao]).length=st.length + 1:=by simp
 have off:∀ i,i < st.length→ρ i≠a:=fun i hi q=>by
  obtain ⟨ob,e,_⟩:=R.there hi
  rw [q,ha] at e; cases e
 refine ⟨⟨fun b o e=>k b o (R.keep b o e),fun i o e=>?_,fun i j hi hj q=>?_,fun i o e hs=>?_⟩,by rw [len]; exact Nat.le_succ _,ag,tk,fun b o _ _ e=>k b o e,fun b o _ e=>⟨o,k b o e⟩,fun i hi hi' _=>?_,fun i kvs e=>?_⟩
 ·rw [len]
  rcases Nat.lt_or_ge i st.length with hlt | hge
  ·rw [List.getElem?_append_left hlt] at e
   exact (R.obj i o e).mono tk (Nat.le_succ _) ag hlt fun ob a=>k _ ob a
  ·have hi:i=st.length:=by have:=lt_of_at e; rw [len] at this; lia
   subst hi
   rw [List.getElem?_append_right (Nat.le_refl _),Nat.sub_self] at e
   cases e
   exact ho ρ' ag e0
 ·rw [len] at hi hj
  by_cases h1:i=st.length
  ·by_cases h2:j=st.length
   ·rw [h1,h2]
   ·have hj':j < st.length:=by lia
    rw [h1,e0,ag j hj'] at q
    exact absurd q.symm (off j hj')
  ·have hi':i < st.length:=by lia
   by_cases h2:j=st.length
   ·rw [h2,e0,ag i hi'] at q
    exact absurd q (off i hi')
   ·have hj':j < st.length:=by lia
    rw [ag i hi',ag j hj'] at q
    exact R.inj i j hi' hj' q
 ·rcases Nat.lt_or_ge i st.length with hlt | hge
  ·rw [List.getElem?_append_left hlt] at e
   rw [ag i hlt]; exact R.fresh i o e hs
  ·have hi:i=st.length:=by have:=lt_of_at e; rw [len] at this; lia
   rw [hi,e0]
   cases q:B.get? a with
   | none=>rfl
   | some o=>rw [R.keep a o q] at ha; cases ha
 ·have hi:i=st.length:=by rw [len] at hi'; lia
  rw [hi,e0]; exact ha
 ·have hlt:=lt_of_at e
  obtain ⟨kvs',e',l,d⟩:=dep_same (ρ:=ρ) e fun es ep a=>k _ _ a
  exact ⟨kvs',by rw [List.getElem?_append_left hlt]; exact e',l,d⟩
theorem Rel.set (R:Rel w cl B ρ st h) {i:Nat} {ao ao':AObj} (hi:st[i]?=some ao) (hs:isScr ao=false) (hs':isScr ao'=false) (k:∀ b o,b≠ρ i→h.get? b=some o→h'.get? b=some o)
  (ho:TK h h'→OAt w cl h' ρ st.length i ao')
  (hd:∀ kvs,ao=.dct kvs→∃ kvs',ao'=.dct kvs'∧kvs.length≤kvs'.length∧(kvs'.length=kvs.length→∀ es ep es' ep',DAt h (ρ i) es ep→DAt h' (ρ i) es' ep'→ep'=ep)) :
  Rel w cl B ρ (st.set i ao') h'∧Step no ρ st h ρ (st.set i ao') h':=by
 have hlt:=lt_of_at hi
 have tk:TK h h':=TK.but' (W:=fun b=>b=ρ i) k fun b o e q=>by
  subst e
  obtain ⟨ob,hob,z⟩:=(R.obj i ao hi).there
  rw [hob] at q; cases q; exact z
 have len:(st.set i ao').length=st.length:=List.length_set
 have hB:=R.fresh i ao hi hs
 have hO:=ho tk
 refine ⟨⟨fun b o e=>k b o (fun q=>by rw [q,hB] at e; cases e) (R.keep b o e),fun j o e=>?_,fun a b ha hb=>R.inj a b (by rw [← len]; exact ha) (by rw [← len]; exact hb),fun j o e z=>?_⟩,
  by rw [len]; exact Nat.le_refl _,fun _ _=>rfl,tk,fun b o _ hb e=>k b o (hb i hlt) e,fun b o _ e=>?_,fun j a b=>absurd b (by rw [len]; exact Nat.not_lt.mpr a),fun j kvs e=>?_⟩
 ·rw [len]
  by_cases hij:i=j
  ·subst hij
   rw [List.getElem?_set_self hlt] at e; cases e; exact hO
  ·rw [List.getElem?_set_ne hij] at e
   exact (R.obj j o e).mono tk (Nat.le_refl _) (fun _ _=>rfl) (lt_of_at e) fun ob a=>k _ ob (fun q=>hij (R.inj j i (lt_of_at e) hlt q).symm) a
 ·by_cases hij:i=j
  ·subst hij; exact hB
  ·rw [List.getElem?_set_ne hij] at e; exact R.fresh j o e z
 ·by_cases q:b=ρ i
  ·obtain ⟨ob,hob,_⟩:=hO.there
   exact ⟨ob,by rw [q]; exact hob⟩
  ·exact ⟨o,k b o q e⟩
 ·by_cases hij:i=j
  ·subst hij
   rw [hi] at e; cases e
   obtain ⟨kvs',e',l,d⟩:=hd kvs rfl
   exact ⟨kvs',by rw [List.getElem?_set_self hlt,e'],l,d⟩
  ·rw [List.getElem?_set_ne hij]
   exact dep_same e fun es ep a=>k _ _ (fun q=>hij (R.inj j i (lt_of_at e) hlt q).symm) a
end
end Mine
namespace Mine
section
set_option maxRecDepth 100000
set_option backward.match.sparseCases false
open PySem PySem.W PyProof.Rows PySem.Calls
noncomputable def sq (a b:Str):Bool:=decide (a=b)
noncomputable def nameOk (sc:Scope) (x:Nat):Bool:=(match sc.names.lookup (T x) with | some .local | some .cell | some .free=>true | _=>false) && !sq (T x) "__debug__" && !sq (T x) "__classdict__"
noncomputable def globOk (sc:Scope) (x:Str):Bool:=(match sc.names.lookup x with | some .globalImplicit=>true | _=>false) && !sq x "__debug__"
noncomputable def biName:Bi→Str
 | .len=>"len" | .list=>"list" | .sorted=>"sorted" | .sum=>"sum" | .max=>"max" | .int=>"int" | .tuple=>"tuple" | .dict=>"dict"
noncomputable def opOf:Op→Operator
 | .add=>.Add
 | .sub=>.Sub
 | .mul=>.Mult
 | .fdiv=>.FloorDiv
 | .mod=>.Mod
 | .pow=>.Pow
noncomputable def copOf:COp→CmpOp
 | .eq=>.Eq
 | .ne=>.NotEq
 | .lt=>.Lt
 | .le=>.LtE
 | .gt=>.Gt
 | .ge=>.GtE
 | .is=>.Is
 | .isnot=>.IsNot
 | .isin=>.In
 | .notin=>.NotIn
noncomputable def opIs (a:Op) (b:Operator):Bool:=decide (b=opOf a)
noncomputable def copIs (a:COp) (b:CmpOp):Bool:=decide (b=copOf a)
noncomputable def mC:AV→Const→Bool
 | .none,.none=>true
 | .bool a,.bool b=>a == b
 | .int a,.int b=>decide (a=b)
 | .str x,.str y=>sq y (T x)
 | _,_=>false
noncomputable def notStar:Expr→Bool
 | .Starred ..=>false
 | _=>true
noncomputable def notSlice:Expr→Bool
 | .Slice ..=>false
 | _=>true
noncomputable def notCall:Expr→Bool
 | .Call ..=>false
 | _=>true
noncomputable def notComp:Expr→Bool
 | .ListComp .. | .SetComp .. | .DictComp ..=>false
 | _=>true
noncomputable def relab (csc sc:Scope):Scope:={ csc with names:=csc.names.map fun (n,k)=>if (k == .free && sc.kind == .function && sc.names.lookup n == some .cell) then (n,.cell) else (n,k) }
noncomputable def compOk (csc sc:Scope) (x:Nat):Bool :=
 (csc.names.all fun y=>match y.2 with | .cell=>false | .local=>sq y.1 (T x) || sq y.1 ".0" | _=>true) && decide (csc.kind=.function) && (match csc.names.lookup (T x) with | some .local=>true | _=>false) &&
 (csc.names.all fun y=>match y.2 with | .free=>(match sc.names.lookup y.1 with | some .cell | some .free=>true | _=>false) | _=>true) && decide (csc.names.map (·.1)).Nodup && !sq (T x) ".0"
noncomputable def nilL {α:Type}:List α→Bool
 | []=>true
 | _=>false
theorem nilL_inv {α:Type} {l:List α} (h:nilL l=true):l=[]:=by
 cases l with
 | nil=>rfl
 | cons _ _=>cases h
noncomputable def oneL {α:Type} (l:List α) (f:α→Bool):Bool:=match l with
 | a :: r=>nilL r && f a
 | []=>false
theorem and2 {a b:Bool} (h:(a && b)=true):a=true∧b=true:=by
 cases a
 ·cases h
 ·exact ⟨rfl,h⟩
theorem oneL_inv {α:Type} {l:List α} {f:α→Bool} (h:oneL l f=true):∃ a,l=[a]∧f a=true:=by
 cases l with
 | nil=>cases h
 | cons a r =>
  obtain ⟨h1,h2⟩:=and2 h
  obtain rfl:=nilL_inv h1
  exact ⟨a,rfl,h2⟩
noncomputable def consL {α:Type} (l:List α) (f:α→List α→Bool):Bool:=match l with
 | a :: r=>f a r
 | []=>false
theorem consL_inv {α:Type} {l:List α} {f:α→List α→Bool} (h:consL l f=true):Ex2 fun a r=>l=a :: r∧f a r=true:=by
 cases l with
 | nil=>cases h
 | cons a r=>exact ⟨a,r,rfl,h⟩
noncomputable def twoL {α:Type} (l:List α) (f:α→α→Bool):Bool:=consL l fun a r=>oneL r fun b=>f a b
theorem twoL_inv {α:Type} {l:List α} {f:α→α→Bool} (h:twoL l f=true):Ex2 fun a b=>l=[a,b]∧f a b=true:=by
 obtain ⟨a,r,rfl,h⟩:=consL_inv h
 obtain ⟨b,rfl,h⟩:=oneL_inv h
 exact ⟨a,b,rfl,h⟩
noncomputable def bConst (e:Expr) (f:Const→Bool):Bool:=match e with
 | .Constant c _ _=>f c
 | _=>false
theorem bConst_el {C:Expr→Prop} {e:Expr} {f:Const→Bool} (h:bConst e f=true) (k:∀ c k p,f c=true→C (.Constant c k p)):C e:=by
 cases e <;> first | exact k _ _ _ h | exact (Bool.false_ne_true h).elim
theorem bConst_inv {e:Expr} {f:Const→Bool} (h:bConst e f=true):Ex3 fun c k p=>e=.Constant c k p∧f c=true :=
 bConst_el (C:=fun e=>Ex3 fun c k p=>e=.Constant c k p∧f c=true) h fun c k p h=>⟨c,k,p,rfl,h⟩
noncomputable def bName (e:Expr) (f:Str→Bool):Bool:=match e with
 | .Name c _=>f c
 | _=>false
theorem bName_el {C:Expr→Prop} {e:Expr} {f:Str→Bool} (h:bName e f=true) (k:∀ c p,f c=true→C (.Name c p)):C e:=by
 cases e <;> first | exact k _ _ h | exact (Bool.false_ne_true h).elim
theorem bName_inv {e:Expr} {f:Str→Bool} (h:bName e f=true):Ex2 fun c p=>e=.Name c p∧f c=true :=
 bName_el (C:=fun e=>Ex2 fun c p=>e=.Name c p∧f c=true) h fun c p h=>⟨c,p,rfl,h⟩
noncomputable def bTup (e:Expr) (f:List Expr→Bool):Bool:=match e with
 | .Tuple c _ _=>f c
 | _=>false
theorem bTup_el {C:Expr→Prop} {e:Expr} {f:List Expr→Bool} (h:bTup e f=true) (k:∀ c k p,f c=true→C (.Tuple c k p)):C e:=by
 cases e <;> first | exact k _ _ _ h | exact (Bool.false_ne_true h).elim
theorem bTup_inv {e:Expr} {f:List Expr→Bool} (h:bTup e f=true):Ex3 fun c k p=>e=.Tuple c k p∧f c=true :=
 bTup_el (C:=fun e=>Ex3 fun c k p=>e=.Tuple c k p∧f c=true) h fun c k p h=>⟨c,k,p,rfl,h⟩
noncomputable def bLst (e:Expr) (f:List Expr→Bool):Bool:=match e with
 | .List c _=>f c
 | _=>false
theorem bLst_el {C:Expr→Prop} {e:Expr} {f:List Expr→Bool} (h:bLst e f=true) (k:∀ c p,f c=true→C (.List c p)):C e:=by
 cases e <;> first | exact k _ _ h | exact (Bool.false_ne_true h).elim
theorem bLst_inv {e:Expr} {f:List Expr→Bool} (h:bLst e f=true):Ex2 fun c p=>e=.List c p∧f c=true :=
 bLst_el (C:=fun e=>Ex2 fun c p=>e=.List c p∧f c=true) h fun c p h=>⟨c,p,rfl,h⟩
noncomputable def bDct (e:Expr) (f:List (Option Expr)→List Expr→Bool):Bool:=match e with
 | .Dict c d _=>f c d
 | _=>false
theorem bDct_el {C:Expr→Prop} {e:Expr} {f:List (Option Expr)→List Expr→Bool} (h:bDct e f=true) (k:∀ c d p,f c d=true→C (.Dict c d p)):C e:=by
 cases e <;> first | exact k _ _ _ h | exact (Bool.false_ne_true h).elim
theorem bDct_inv {e:Expr} {f:List (Option Expr)→List Expr→Bool} (h:bDct e f=true):Ex3 fun c d p=>e=.Dict c d p∧f c d=true :=
 bDct_el (C:=fun e=>Ex3 fun c d p=>e=.Dict c d p∧f c d=true) h fun c d p h=>⟨c,d,p,rfl,h⟩
noncomputable def bAtt (e:Expr) (f:Expr→Str→Pos→Bool):Bool:=match e with
 | .Attribute c d p=>f c d p
 | _=>false
theorem bAtt_el {C:Expr→Prop} {e:Expr} {f:Expr→Str→Pos→Bool} (h:bAtt e f=true) (k:∀ c d p,f c d p=true→C (.Attribute c d p)):C e:=by
 cases e <;> first | exact k _ _ _ h | exact (Bool.false_ne_true h).elim
theorem bAtt_inv {e:Expr} {f:Expr→Str→Pos→Bool} (h:bAtt e f=true):Ex3 fun c d p=>e=.Attribute c d p∧f c d p=true :=
 bAtt_el (C:=fun e=>Ex3 fun c d p=>e=.Attribute c d p∧f c d p=true) h fun c d p h=>⟨c,d,p,rfl,h⟩
noncomputable def bSub (e:Expr) (f:Expr→Expr→Bool):Bool:=match e with
 | .Subscript c d _=>f c d
 | _=>false
theorem bSub_el {C:Expr→Prop} {e:Expr} {f:Expr→Expr→Bool} (h:bSub e f=true) (k:∀ c d p,f c d=true→C (.Subscript c d p)):C e:=by
 cases e <;> first | exact k _ _ _ h | exact (Bool.false_ne_true h).elim
theorem bSub_inv {e:Expr} {f:Expr→Expr→Bool} (h:bSub e f=true):Ex3 fun c d p=>e=.Subscript c d p∧f c d=true :=
 bSub_el (C:=fun e=>Ex3 fun c d p=>e=.Subscript c d p∧f c d=true) h fun c d p h=>⟨c,d,p,rfl,h⟩
noncomputable def bBin (e:Expr) (f:Expr→Operator→Expr→Bool):Bool:=match e with
 | .BinOp c o d _=>f c o d
 | _=>false
theorem bBin_el {C:Expr→Prop} {e:Expr} {f:Expr→Operator→Expr→Bool} (h:bBin e f=true) (k:∀ c o d p,f c o d=true→C (.BinOp c o d p)):C e:=by
 cases e <;> first | exact k _ _ _ _ h | exact (Bool.false_ne_true h).elim
theorem bBin_inv {e:Expr} {f:Expr→Operator→Expr→Bool} (h:bBin e f=true):Ex4 fun c o d p=>e=.BinOp c o d p∧f c o d=true :=
 bBin_el (C:=fun e=>Ex4 fun c o d p=>e=.BinOp c o d p∧f c o d=true) h fun c o d p h=>⟨c,o,d,p,rfl,h⟩
noncomputable def bUna (e:Expr) (f:UnaryOp→Expr→Bool):Bool:=match e with
 | .UnaryOp o d _=>f o d
 | _=>false
theorem bUna_el {C:Expr→Prop} {e:Expr} {f:UnaryOp→Expr→Bool} (h:bUna e f=true) (k:∀ o d p,f o d=true→C (.UnaryOp o d p)):C e:=by
 cases e <;> first | exact k _ _ _ h | exact (Bool.false_ne_true h).elim
theorem bUna_inv {e:Expr} {f:UnaryOp→Expr→Bool} (h:bUna e f=true):Ex3 fun o d p=>e=.UnaryOp o d p∧f o d=true :=
 bUna_el (C:=fun e=>Ex3 fun o d p=>e=.UnaryOp o d p∧f o d=true) h fun o d p h=>⟨o,d,p,rfl,h⟩
noncomputable def bBoo (e:Expr) (f:BoolOp→List Expr→Bool):Bool:=match e with
 | .BoolOp o d _=>f o d
 | _=>false
theorem bBoo_el {C:Expr→Prop} {e:Expr} {f:BoolOp→List Expr→Bool} (h:bBoo e f=true) (k:∀ o d p,f o d=true→C (.BoolOp o d p)):C e:=by
 cases e <;> first | exact k _ _ _ h | exact (Bool.false_ne_true h).elim
theorem bBoo_inv {e:Expr} {f:BoolOp→List Expr→Bool} (h:bBoo e f=true):Ex3 fun o d p=>e=.BoolOp o d p∧f o d=true :=
 bBoo_el (C:=fun e=>Ex3 fun o d p=>e=.BoolOp o d p∧f o d=true) h fun o d p h=>⟨o,d,p,rfl,h⟩
noncomputable def bCmp (e:Expr) (f:Expr→List CmpOp→List Expr→Bool):Bool:=match e with
 | .Compare c o d _=>f c o d
 | _=>false
theorem bCmp_el {C:Expr→Prop} {e:Expr} {f:Expr→List CmpOp→List Expr→Bool} (h:bCmp e f=true) (k:∀ c o d p,f c o d=true→C (.Compare c o d p)):C e:=by
 cases e <;> first | exact k _ _ _ _ h | exact (Bool.false_ne_true h).elim
theorem bCmp_inv {e:Expr} {f:Expr→List CmpOp→List Expr→Bool} (h:bCmp e f=true):Ex4 fun c o d p=>e=.Compare c o d p∧f c o d=true :=
 bCmp_el (C:=fun e=>Ex4 fun c o d p=>e=.Compare c o d p∧f c o d=true) h fun c o d p h=>⟨c,o,d,p,rfl,h⟩
noncomputable def bIfe (e:Expr) (f:Expr→Expr→Expr→Bool):Bool:=match e with
 | .IfExp c o d _=>f c o d
 | _=>false
theorem bIfe_el {C:Expr→Prop} {e:Expr} {f:Expr→Expr→Expr→Bool} (h:bIfe e f=true) (k:∀ c o d p,f c o d=true→C (.IfExp c o d p)):C e:=by
 cases e <;> first | exact k _ _ _ _ h | exact (Bool.false_ne_true h).elim
theorem bIfe_inv {e:Expr} {f:Expr→Expr→Expr→Bool} (h:bIfe e f=true):Ex4 fun c o d p=>e=.IfExp c o d p∧f c o d=true :=
 bIfe_el (C:=fun e=>Ex4 fun c o d p=>e=.IfExp c o d p∧f c o d=true) h fun c o d p h=>⟨c,o,d,p,rfl,h⟩
noncomputable def bCal (e:Expr) (f:Expr→List Expr→List Keyword→Pos→Bool):Bool:=match e with
 | .Call c o d p=>f c o d p
 | _=>false
theorem bCal_el {C:Expr→Prop} {e:Expr} {f:Expr→List Expr→List Keyword→Pos→Bool} (h:bCal e f=true) (k:∀ c o d p,f c o d p=true→C (.Call c o d p)):C e:=by
 cases e <;> first | exact k _ _ _ _ h | exact (Bool.false_ne_true h).elim
theorem bCal_inv {e:Expr} {f:Expr→List Expr→List Keyword→Pos→Bool} (h:bCal e f=true):Ex4 fun c o d p=>e=.Call c o d p∧f c o d p=true :=
 bCal_el (C:=fun e=>Ex4 fun c o d p=>e=.Call c o d p∧f c o d p=true) h fun c o d p h=>⟨c,o,d,p,rfl,h⟩
noncomputable def bLcp (e:Expr) (f:Expr→List Comprehension→Scope→Bool):Bool:=match e with
 | .ListComp c o d _=>f c o d
 | _=>false
theorem bLcp_el {C:Expr→Prop} {e:Expr} {f:Expr→List Comprehension→Scope→Bool} (h:bLcp e f=true) (k:∀ c o d p,f c o d=true→C (.ListComp c o d p)):C e:=by
 cases e <;> first | exact k _ _ _ _ h | exact (Bool.false_ne_true h).elim
theorem bLcp_inv {e:Expr} {f:Expr→List Comprehension→Scope→Bool} (h:bLcp e f=true):Ex4 fun c o d p=>e=.ListComp c o d p∧f c o d=true :=
 bLcp_el (C:=fun e=>Ex4 fun c o d p=>e=.ListComp c o d p∧f c o d=true) h fun c o d p h=>⟨c,o,d,p,rfl,h⟩
noncomputable def isNot:UnaryOp→Bool
 | .Not=>true
 | _=>false
noncomputable def isUSub:UnaryOp→Bool
 | .USub=>true
 | _=>false
noncomputable def isAnd:BoolOp→Bool
 | .And=>true
 | _=>false
theorem isNot_inv {o:UnaryOp} (h:isNot o=true):o=.Not:=by cases o <;> first | rfl | cases h
theorem isUSub_inv {o:UnaryOp} (h:isUSub o=true):o=.USub:=by cases o <;> first | rfl | cases h
theorem isAnd_inv {o:BoolOp} (h:isAnd o=true):o=.And:=by cases o <;> first | rfl | cases h
theorem isOr_inv {o:BoolOp} (h:(!isAnd o)=true):o=.Or:=by cases o <;> first | rfl | cases h
noncomputable def bCalN (e:Expr) (f:Str→List Expr→Bool):Bool:=bCal e fun g es kw _=>nilL kw && bName g fun x=>f x es
theorem bCalN_inv {e:Expr} {f:Str→List Expr→Bool} (h:bCalN e f=true):Ex4 fun g gp es pos=>e=.Call (.Name g gp) es [] pos∧f g es=true:=by
 obtain ⟨g,es,kw,pos,rfl,h⟩:=bCal_inv h
 obtain ⟨h1,h⟩:=and2 h
 obtain rfl:=nilL_inv h1
 obtain ⟨x,p,rfl,h⟩:=bName_inv h
 exact ⟨x,p,es,pos,rfl,h⟩
noncomputable def bCalA (e:Expr) (f:Expr→Str→Pos→List Expr→Pos→Bool):Bool:=bCal e fun g es kw pos=>nilL kw && bAtt g fun o x ap=>f o x ap es pos
theorem bCalA_inv {e:Expr} {f:Expr→Str→Pos→List Expr→Pos→Bool} (h:bCalA e f=true):Ex5 fun o x ap es pos=>e=.Call (.Attribute o x ap) es [] pos∧f o x ap es pos=true:=by
 obtain ⟨g,es,kw,pos,rfl,h⟩:=bCal_inv h
 obtain ⟨h1,h⟩:=and2 h
 obtain rfl:=nilL_inv h1
 obtain ⟨o,x,p,rfl,h⟩:=bAtt_inv h
 exact ⟨o,x,p,es,pos,rfl,h⟩
noncomputable def bComp (e:Expr) (f:Expr→Str→Expr→List Expr→Scope→Bool):Bool:=bLcp e fun el gs csc=>oneL gs fun c=>decide (c.is_async=0) && bName c.target fun id=>f el id c.iter c.ifs csc
theorem bComp_inv {e:Expr} {f:Expr→Str→Expr→List Expr→Scope→Bool} (h:bComp e f=true):Ex7 fun el id px it ifs csc pos=>e=.ListComp el [⟨.Name id px,it,ifs,0⟩] csc pos∧f el id it ifs csc=true:=by
 obtain ⟨el,gs,csc,pos,rfl,h⟩:=bLcp_inv h
 obtain ⟨⟨tg,it,ifs,z⟩,rfl,h⟩:=oneL_inv h
 obtain ⟨h1,h⟩:=and2 h
 obtain ⟨id,px,h2,h⟩:=bName_inv h
 obtain rfl:tg=_:=h2
 obtain rfl:z=0:=of_decide_eq_true h1
 exact ⟨el,id,px,it,ifs,csc,pos,rfl,h⟩
noncomputable def ifsB (l:List Expr) (a:Bool) (f:Expr→Bool):Bool:=match l with
 | []=>a
 | c :: r=>nilL r && f c
noncomputable def isTrueC:PE→Bool
 | .cst (.bool true)=>true
 | _=>false
theorem isTrueC_inv {p:PE} (h:isTrueC p=true):p=.cst (.bool true):=by
 cases p with
 | cst v =>
  cases v with
  | bool b=>cases b <;> first | rfl | exact (Bool.false_ne_true h).elim
  | _=>exact (Bool.false_ne_true h).elim
 | _=>exact (Bool.false_ne_true h).elim
set_option backward.match.sparseCases true in
noncomputable def notColl:Expr→Bool
 | .List .. | .Set ..=>false
 | _=>true
noncomputable def notEnum:SK→Bool
 | .enum=>false
 | _=>true
noncomputable def srcIs (sc:Scope) (k:SK) (fE:Expr→Bool) (fL:List Expr→Bool) (e:Expr):Bool:=match k with
 | .val=>fE e && notColl e
 | .range=>bCalN e fun g es=>sq g "range" && globOk sc g && fL es
 | .enum=>bCalN e fun g es=>sq g "enumerate" && globOk sc g && fL es
 | .values=>bCalA e fun o id ap es q=>nilL es && (sq id "values" && fE o && notCall o && decide (ap.endLine=q.line))
noncomputable def attrs:List Nat:=[w_code,w_summaries,w_held,w_inside,w_sites,w_gone,w_summary,w_is_new,w_leaks,w_kept,w_told,w_key,w_params,w_registers,w_blocks,w_captured,w_results,w_recovery]
noncomputable def attrOk (x:Nat):Bool:=attrs.any (Nat.beq x)
noncomputable def dFlat (ks:List (Option Expr)) (vs:List Expr):List Expr:=ks.zip vs |>.flatMap fun p=>match p.1 with | some k=>[k,p.2] | none=>[]
mutual
noncomputable def mE (sc:Scope):PE→Expr→Bool
 | .cst v,e=>bConst e fun c=>mC v c
 | .nm x,e=>bName e fun id=>sq id (T x) && nameOk sc x
 | .gl x,e=>Nat.beq x 13 || bName e fun id=>sq id (T x) && globOk sc (T x)
 | .tup a,e=>bTup e fun es=>mL sc a es && decide (es.length≤100)
 | .lst a,e=>bLst e fun es=>mL sc a es && decide (es.length≤100)
 | .dct a,e=>bDct e fun ks vs=>mL sc a (dFlat ks vs) && ks.all (·.isSome) && decide (ks.length=vs.length) && decide (ks.length≤15)
 | .attr a x,e=>bAtt e fun o id _=>sq id (T x) && mE sc a o && notCall o && attrOk x
 | .sub a i,e=>bSub e fun o j=>mE sc a o && mE sc i j && notSlice j
 | .bin op a b,e=>bBin e fun l o r=>opIs op o && mE sc a l && mE sc b r
 | .neg a,e=>bUna e fun o x=>isUSub o && mE sc a x
 | .band a b,e=>bBoo e fun o es=>isAnd o && twoL es fun l r=>mE sc a l && mE sc b r
 | .bor a b,e=>bBoo e fun o es=>!isAnd o && twoL es fun l r=>mE sc a l && mE sc b r
 | .bnot a,e=>bUna e fun o x=>isNot o && mE sc a x
 | .cmp op a b,e=>bCmp e fun l os rs=>oneL os fun o=>oneL rs fun r=>copIs op o && !behindInMarks o r && mE sc a l && mE sc b r
 | .cmp2 op op' a b c,e=>bCmp e fun l os rs=>twoL os fun o o'=>twoL rs fun r r'=>copIs op o && copIs op' o' && !behindInMarks o' r' && mE sc a l && mE sc b r && mE sc c r'
 | .ife c a b,e=>bIfe e fun t x y=>mE sc c t && mE sc a x && mE sc b y
 | .isTup a,e=>bCalN e fun f es=>twoL es fun x ty=>bName ty fun t=>sq f "isinstance" && sq t "tuple" && globOk sc f && globOk sc t && mE sc a x && notStar x
 | .fn f args,e=>bCalN e fun g es=>sq g (T f) && globOk sc g && mL sc args es
 | .bi f args,e=>bCalN e fun g es=>sq g (biName f) && globOk sc g && mL sc args es
 | .meth a f args,e=>bCalA e fun o id ap es p=>sq id (T f) && mE sc a o && notCall o && mL sc args es && decide (ap.endLine=p.line) && decide (es.length < 20)
 | .comp elt x k src cond,e=>bComp e fun el id it ifs csc=>sq id (T x) && compOk csc sc x && mE (relab csc sc) elt el && notEnum k && srcIs sc k (fun e=>mE sc src e) (fun es=>mL sc src es) it && ifsB ifs (isTrueC cond) (fun c=>mE (relab csc sc) cond c)
 | .nil,_=>false
 | .cons _ _,_=>false
noncomputable def mL (sc:Scope):PE→List Expr→Bool
 | .nil,es=>nilL es
 | .cons a r,es=>consL es fun e q=>mE sc a e && notStar e && mL sc r q
 | _,_=>false
end
noncomputable def mSrc (sc:Scope) (k:SK) (p:PE) (e:Expr):Bool:=srcIs sc k (fun e=>mE sc p e) (fun es=>mL sc p es) e
section
variable {sc:Scope} {e:Expr}
theorem mL_nil {es:List Expr} (h:mL sc .nil es=true):es=[]:=nilL_inv h
theorem mL_cons {a r:PE} {es:List Expr} (h:mL sc (.cons a r) es=true):Ex2 fun e q=>es=e :: q∧(mE sc a e=true∧notStar e=true)∧mL sc r q=true:=by
 obtain ⟨e,q,rfl,h⟩:=consL_inv h
 obtain ⟨h1,h2⟩:=and2 h
 exact ⟨e,q,rfl,and2 h1,h2⟩
theorem mE_neg {a:PE} (h:mE sc (.neg a) e=true):Ex2 fun x pos=>e=.UnaryOp .USub x pos∧mE sc a x=true:=by
 obtain ⟨o,x,p,rfl,h⟩:=bUna_inv h
 obtain ⟨h1,h⟩:=and2 h
 obtain rfl:=isUSub_inv h1
 exact ⟨x,p,rfl,h⟩
theorem mE_bnot {a:PE} (h:mE sc (.bnot a) e=true):Ex2 fun x pos=>e=.UnaryOp .Not x pos∧mE sc a x=true:=by
 obtain ⟨o,x,p,rfl,h⟩:=bUna_inv h
 obtain ⟨h1,h⟩:=and2 h
 obtain rfl:=isNot_inv h1
 exact ⟨x,p,rfl,h⟩
theorem mE_band {a b:PE} (h:mE sc (.band a b) e=true):Ex3 fun l r pos=>e=.BoolOp .And [l,r] pos∧mE sc a l=true∧mE sc b r=true:=by
 obtain ⟨o,es,p,rfl,h⟩:=bBoo_inv h
 obtain ⟨h1,h⟩:=and2 h
 obtain rfl:=isAnd_inv h1
 obtain ⟨l,r,rfl,h⟩:=twoL_inv h
 exact ⟨l,r,p,rfl,and2 h⟩
theorem mE_bor {a b:PE} (h:mE sc (.bor a b) e=true):Ex3 fun l r pos=>e=.BoolOp .Or [l,r] pos∧mE sc a l=true∧mE sc b r=true:=by
 obtain ⟨o,es,p,rfl,h⟩:=bBoo_inv h
 obtain ⟨h1,h⟩:=and2 h
 obtain rfl:=isOr_inv h1
 obtain ⟨l,r,rfl,h⟩:=twoL_inv h
 exact ⟨l,r,p,rfl,and2 h⟩
theorem mE_cmp {op:COp} {a b:PE} (h:mE sc (.cmp op a b) e=true):Ex4 fun l o r pos=>e=.Compare l [o] [r] pos∧(copIs op o && !behindInMarks o r && mE sc a l && mE sc b r)=true:=by
 obtain ⟨l,os,rs,p,rfl,h⟩:=bCmp_inv h
 obtain ⟨o,rfl,h⟩:=oneL_inv h
 obtain ⟨r,rfl,h⟩:=oneL_inv h
 exact ⟨l,o,r,p,rfl,h⟩
theorem mE_cmp2 {op op':COp} {a b c:PE} (h:mE sc (.cmp2 op op' a b c) e=true):Ex6 fun l o o' r r' pos=>e=.Compare l [o,o'] [r,r'] pos∧(copIs op o && copIs op' o' && !behindInMarks o' r' && mE sc a l && mE sc b r && mE sc c r')=true:=by
 obtain ⟨l,os,rs,p,rfl,h⟩:=bCmp_inv h
 obtain ⟨o,o',rfl,h⟩:=twoL_inv h
 obtain ⟨r,r',rfl,h⟩:=twoL_inv h
 exact ⟨l,o,o',r,r',p,rfl,h⟩
theorem mE_isTup {a:PE} (h:mE sc (.isTup a) e=true):Ex6 fun f fp x t tp pos=>e=.Call (.Name f fp) [x,.Name t tp] [] pos∧(sq f "isinstance" && sq t "tuple" && globOk sc f && globOk sc t && mE sc a x && notStar x)=true:=by
 obtain ⟨f,fp,es,pos,rfl,h⟩:=bCalN_inv h
 obtain ⟨x,ty,rfl,h⟩:=twoL_inv h
 obtain ⟨t,tp,rfl,h⟩:=bName_inv h
 exact ⟨f,fp,x,t,tp,pos,rfl,h⟩
end
noncomputable def storeOk (sc:Scope) (x:Nat):Bool:=match sc.names.lookup (T x) with | some .local | some .cell=>true | _=>false
mutual
noncomputable def mT (sc:Scope):PT→Expr→Bool
 | .nm x,e=>bName e fun id=>sq id (T x) && storeOk sc x
 | .attr a x,e=>bAtt e fun o id _=>sq id (T x) && mE sc a o && attrOk x
 | .sub a i,e=>bSub e fun o j=>mE sc a o && mE sc i j && notSlice j
 | .tup t,e=>bTup e fun es=>mTs sc t es
 | .nil,_=>false
 | .cons _ _,_=>false
noncomputable def mTs (sc:Scope):PT→List Expr→Bool
 | .nil,es=>nilL es
 | .cons t r,es=>consL es fun e q=>mT sc t e && notStar e && mTs sc r q
 | _,_=>false
end
theorem mTs_cons {sc:Scope} {a r:PT} {es:List Expr} (h:mTs sc (.cons a r) es=true):Ex2 fun e q=>es=e :: q∧(mT sc a e=true∧notStar e=true)∧mTs sc r q=true:=by
 obtain ⟨e,q,rfl,h⟩:=consL_inv h
 obtain ⟨h1,h2⟩:=and2 h
 exact ⟨e,q,rfl,and2 h1,h2⟩
set_option backward.match.sparseCases true in
noncomputable def swapOf (sc:Scope) (ts vs:List Expr):Option (Option (List Str)) :=
 if !(ts.length == 2 || ts.length == 3) || vs.length != ts.length then some none
 else if vs.any fun | .Starred ..=>true | _=>false then some none
 else
  let line:=(ts.head?.map (·.pos.line)).getD 0
  let names:=ts.filterMap fun
   | .Name id pos=>if sc.names.lookup id == some .local && pos.line == line then some id else none
   | _=>none
  if names.length != ts.length || names.eraseDups.length != names.length then some none
  else if vs.all (foldedForSure 8) then some none
  else if vs.all (constantsAlone 8) then none
  else if decide (List.Nodup (α:=Str) names) then some (some names) else none
noncomputable def locOk (sc:Scope) (t:Str):Bool:=match sc.names.lookup t with | some .local=>true | _=>false
noncomputable def isTupE:Expr→Bool
 | .Tuple ..=>true
 | _=>false
theorem isTupE_el {C:Expr→Prop} {e:Expr} (h:isTupE e=true) (k:∀ a b c,C (.Tuple a b c)):C e:=by
 cases e <;> first | exact k _ _ _ | exact (Bool.false_ne_true h).elim
theorem isTupE_inv {e:Expr} (h:isTupE e=true):Ex3 fun a b c=>e=.Tuple a b c :=
 isTupE_el (C:=fun e=>Ex3 fun a b c=>e=.Tuple a b c) h fun a b c=>⟨a,b,c,rfl⟩
noncomputable def isTL:Expr→Bool
 | .Tuple ..=>true
 | .List ..=>true
 | _=>false
noncomputable def lcOk (sc:Scope) (tg v:Expr):Bool:=bLcp v fun _ _ csc=>bName tg fun t=>locOk sc t && decide (tg.pos.line=v.pos.line) && !(csc.names.any fun y=>y.1 == t && (y.2 == .local || y.2 == .cell))
noncomputable def tupOk (sc:Scope) (tg v:Expr):Bool:=bTup v fun vs=>!isTL tg || bTup tg fun ts=>(swapOf sc ts vs).isSome
noncomputable def asgOk (sc:Scope) (tg v:Expr):Bool:=(notComp v && !isTupE v) || (lcOk sc tg v || tupOk sc tg v)
theorem or2 {a b:Bool} (h:(a || b)=true):a=true∨b=true:=by
 cases a
 ·exact .inr h
 ·exact .inl rfl
theorem not1 {a:Bool} (h:(!a)=true):a=false:=by
 cases a
 ·rfl
 ·cases h
noncomputable def sExp (e:Stmt) (f:Expr→Bool):Bool:=match e with
 | .Expr v _=>f v
 | _=>false
theorem sExp_el {C:Stmt→Prop} {e:Stmt} {f:Expr→Bool} (h:sExp e f=true) (k:∀ v p,f v=true→C (.Expr v p)):C e:=by
 cases e <;> first | exact k _ _ h | exact (Bool.false_ne_true h).elim
theorem sExp_inv {e:Stmt} {f:Expr→Bool} (h:sExp e f=true):Ex2 fun v p=>e=.Expr v p∧f v=true :=
 sExp_el (C:=fun e=>Ex2 fun v p=>e=.Expr v p∧f v=true) h fun v p h=>⟨v,p,rfl,h⟩
noncomputable def sAsg (e:Stmt) (f:List Expr→Expr→Bool):Bool:=match e with
 | .Assign t v _=>f t v
 | _=>false
theorem sAsg_el {C:Stmt→Prop} {e:Stmt} {f:List Expr→Expr→Bool} (h:sAsg e f=true) (k:∀ t v p,f t v=true→C (.Assign t v p)):C e:=by
 cases e <;> first | exact k _ _ _ h | exact (Bool.false_ne_true h).elim
theorem sAsg_inv {e:Stmt} {f:List Expr→Expr→Bool} (h:sAsg e f=true):Ex3 fun t v p=>e=.Assign t v p∧f t v=true :=
 sAsg_el (C:=fun e=>Ex3 fun t v p=>e=.Assign t v p∧f t v=true) h fun t v p h=>⟨t,v,p,rfl,h⟩
noncomputable def sIte (e:Stmt) (f:Expr→List Stmt→List Stmt→Bool):Bool:=match e with
 | .If t x y _=>f t x y
 | _=>false
theorem sIte_el {C:Stmt→Prop} {e:Stmt} {f:Expr→List Stmt→List Stmt→Bool} (h:sIte e f=true) (k:∀ t x y p,f t x y=true→C (.If t x y p)):C e:=by
 cases e <;> first | exact k _ _ _ _ h | exact (Bool.false_ne_true h).elim
theorem sIte_inv {e:Stmt} {f:Expr→List Stmt→List Stmt→Bool} (h:sIte e f=true):Ex4 fun t x y p=>e=.If t x y p∧f t x y=true :=
 sIte_el (C:=fun e=>Ex4 fun t x y p=>e=.If t x y p∧f t x y=true) h fun t x y p h=>⟨t,x,y,p,rfl,h⟩
noncomputable def sWhl (e:Stmt) (f:Expr→List Stmt→List Stmt→Bool):Bool:=match e with
 | .While t x y _=>f t x y
 | _=>false
theorem sWhl_el {C:Stmt→Prop} {e:Stmt} {f:Expr→List Stmt→List Stmt→Bool} (h:sWhl e f=true) (k:∀ t x y p,f t x y=true→C (.While t x y p)):C e:=by
 cases e <;> first | exact k _ _ _ _ h | exact (Bool.false_ne_true h).elim
theorem sWhl_inv {e:Stmt} {f:Expr→List Stmt→List Stmt→Bool} (h:sWhl e f=true):Ex4 fun t x y p=>e=.While t x y p∧f t x y=true :=
 sWhl_el (C:=fun e=>Ex4 fun t x y p=>e=.While t x y p∧f t x y=true) h fun t x y p h=>⟨t,x,y,p,rfl,h⟩
noncomputable def sFor (e:Stmt) (f:Expr→Expr→List Stmt→List Stmt→Bool):Bool:=match e with
 | .For t i x y _=>f t i x y
 | _=>false
theorem sFor_el {C:Stmt→Prop} {e:Stmt} {f:Expr→Expr→List Stmt→List Stmt→Bool} (h:sFor e f=true) (k:∀ t i x y p,f t i x y=true→C (.For t i x y p)):C e:=by
 cases e <;> first | exact k _ _ _ _ _ h | exact (Bool.false_ne_true h).elim
theorem sFor_inv {e:Stmt} {f:Expr→Expr→List Stmt→List Stmt→Bool} (h:sFor e f=true):Ex5 fun t i x y p=>e=.For t i x y p∧f t i x y=true :=
 sFor_el (C:=fun e=>Ex5 fun t i x y p=>e=.For t i x y p∧f t i x y=true) h fun t i x y p h=>⟨t,i,x,y,p,rfl,h⟩
noncomputable def sRet (e:Stmt) (f:Option Expr→Bool):Bool:=match e with
 | .Return v _=>f v
 | _=>false
theorem sRet_el {C:Stmt→Prop} {e:Stmt} {f:Option Expr→Bool} (h:sRet e f=true) (k:∀ v p,f v=true→C (.Return v p)):C e:=by
 cases e <;> first | exact k _ _ h | exact (Bool.false_ne_true h).elim
theorem sRet_inv {e:Stmt} {f:Option Expr→Bool} (h:sRet e f=true):Ex2 fun v p=>e=.Return v p∧f v=true :=
 sRet_el (C:=fun e=>Ex2 fun v p=>e=.Return v p∧f v=true) h fun v p h=>⟨v,p,rfl,h⟩
noncomputable def sCont:Stmt→Bool
 | .Continue _=>true
 | _=>false
theorem sCont_el {C:Stmt→Prop} {e:Stmt} (h:sCont e=true) (k:∀ p,C (.Continue p)):C e:=by
 cases e <;> first | exact k _ | exact (Bool.false_ne_true h).elim
theorem sCont_inv {e:Stmt} (h:sCont e=true):∃ p,e=.Continue p :=
 sCont_el (C:=fun e=>∃ p,e=.Continue p) h fun p=>⟨p,rfl⟩
noncomputable def isStuck:PE→Bool
 | .gl x=>Nat.beq x 13
 | _=>false
theorem isStuck_inv {p:PE} (h:isStuck p=true):p=.gl 13:=by
 cases p with
 | gl x=>rw [Nat.eq_of_beq_eq_true h]
 | _=>exact (Bool.false_ne_true h).elim
noncomputable def isNoneC:PE→Bool
 | .cst .none=>true
 | _=>false
theorem isNoneC_inv {p:PE} (h:isNoneC p=true):p=.cst .none:=by
 cases p with
 | cst v=>cases v <;> first | rfl | exact (Bool.false_ne_true h).elim
 | _=>exact (Bool.false_ne_true h).elim
noncomputable def optE (o:Option Expr) (f:Expr→Bool) (b:Bool):Bool:=match o with
 | some e=>f e
 | none=>b
noncomputable def mS (sc:Scope):PS→List Stmt→Bool
 | .skip,l=>nilL l
 | .seq a b,l=>consL l fun s r=>mS sc a [s] && mS sc b r
 | .exp e,l=>isStuck e || oneL l fun s=>sExp s fun v=>mE sc e v && notComp v
 | .asg t e,l=>oneL l fun s=>sAsg s fun ts v=>oneL ts fun tg=>mT sc t tg && mE sc e v && asgOk sc tg v
 | .ite c a b,l=>oneL l fun s=>sIte s fun t x y=>mE sc c t && mS sc a x && mS sc b y
 | .whl c b,l=>oneL l fun s=>sWhl s fun t x y=>nilL y && (mE sc c t && mS sc b x)
 | .forr t k e b,l=>oneL l fun s=>sFor s fun tg it x y=>nilL y && (mT sc t tg && mSrc sc k e it && mS sc b x && (notEnum k || isTupE tg))
 | .ret e,l=>oneL l fun s=>sRet s fun o=>optE o (fun v=>mE sc e v) (isNoneC e)
 | .cont,l=>oneL l sCont
end
end Mine
namespace Mine
section
set_option maxRecDepth 100000
open PySem PySem.W PyProof.Rows PySem.Calls
structure EnvR (env:Env) (ρ:Nat→Addr) (n:Nat) (h:Heap) (m:Loc):Prop where
 fn:env.scope.kind=.function
 glob:env.globals=mainGlobals
 blt:env.builtins=builtinsNs
 loc:∃ lm,h.Ns env.locals lm∧∀ x v,env.kindOf (T x)=some NameKind.local→get m x=some v→∃ u,lm (T x)=some u∧Val ρ n h v u
 cel:∀ (y:Str),(env.kindOf y=some NameKind.cell∨env.kindOf y=some NameKind.free)→∃ c,env.cells.lookup y=some c∧∃ v0,h.IsCell c v0∧∀ x v,T x=y→get m x=some v→∃ u,v0=some u∧Val ρ n h v u
 celK:∀ (y:Str) (c:Addr),env.cells.lookup y=some c→env.kindOf y=some NameKind.cell∨env.kindOf y=some NameKind.free
 apart:∀ (y z:Str) (c:Addr),env.cells.lookup y=some c→env.cells.lookup z=some c→y=z
 out:∀ i,i < n→ρ i≠env.locals∧∀ y,env.cells.lookup y≠some (ρ i)
noncomputable def EnvW (env:Env) (b:Addr):Prop:=b=env.locals∨∃ y,env.cells.lookup y=some b
theorem get_put (m:Loc) (x y:Nat) (v:AV):get (put m x v) y=if x=y then some v else get m y:=by
 induction m with
 | nil =>
  simp only [put_n,put_c,get_n,get_c]
  by_cases e:x=y
  ·subst e; simp
  ·have:Nat.beq x y=false:=by
    cases q:Nat.beq x y with
    | false=>rfl
    | true=>exact absurd (Nat.eq_of_beq_eq_true q) e
   simp [e,this]
 | cons p r ih =>
  obtain ⟨z,u⟩:=p
  simp only [put_n,put_c]
  cases q:Nat.beq z x with
  | true =>
   obtain rfl:=Nat.eq_of_beq_eq_true q
   simp only [cond_true,get_n,get_c]
   by_cases e:z=y
   ·subst e; simp
   ·have:Nat.beq z y=false:=by
     cases q:Nat.beq z y with
     | false=>rfl
     | true=>exact absurd (Nat.eq_of_beq_eq_true q) e
    simp [e,this]
  | false =>
   simp only [cond_false,get_n,get_c]
   cases q2:Nat.beq z y with
   | true =>
    obtain rfl:=Nat.eq_of_beq_eq_true q2
    have:x≠z:=fun e=>by subst e; simp at q
    simp [this]
   | false=>simp [ih]
variable {prog:PySem.Program} {w:World} {cl:Nat→Addr} {B:Heap} {A:Around} {E:Value→Shared→Prop} {s:Shared} {ρ ρ':Nat→Addr} {n n':Nat} {st st':Store} {h h':Heap} {env:Env} {m:Loc} {W:Addr→Prop}
theorem EnvR.there (V:EnvR env ρ n h m) {b:Addr} (hb:EnvW env b):∃ o,h.get? b=some o∧∀ vs c,o.data≠.seq vs c:=by
 rcases hb with rfl | ⟨y,e⟩
 ·obtain ⟨lm,⟨o,es,ep,a,d,_⟩,_⟩:=V.loc
  exact ⟨o,a,fun vs c q=>by rw [d] at q; cases q⟩
 ·obtain ⟨c,e',v0,⟨o,a,d⟩,_⟩:=V.cel y (V.celK y b e)
  rw [e] at e'; cases e'
  exact ⟨o,a,fun vs c q=>by rw [d] at q; cases q⟩
theorem EnvR.step (V:EnvR env ρ st.length h m) (S:Step no ρ st h ρ' st' h'):EnvR env ρ' st'.length h' m:=by
 refine ⟨V.fn,V.glob,V.blt,?_,fun y hy=>?_,V.celK,V.apart,fun i hi=>?_⟩
 ·obtain ⟨lm,a,b⟩:=V.loc
  exact ⟨lm,a.at' fun o e=>S.out _ o (fun x=>x) (fun i hi q=>(V.out i hi).1 q.symm) e,fun x v k g=>let ⟨u,c,d⟩:=b x v k g; ⟨u,c,d.step S⟩⟩
 ·obtain ⟨c,e,v0,⟨o,a,d⟩,b⟩:=V.cel y hy
  exact ⟨c,e,v0,⟨o,S.out _ o (fun x=>x) (fun i hi q=>(V.out i hi).2 y (q ▸ e)) a,d⟩,fun x v k g=>let ⟨u,c,d⟩:=b x v k g; ⟨u,c,d.step S⟩⟩
 ·rcases Nat.lt_or_ge i st.length with hlt | hge
  ·rw [S.ag i hlt]; exact V.out i hlt
  ·have q:=S.new i hge hi (fun x=>x)
   refine ⟨fun e=>?_,fun y e=>?_⟩
   ·obtain ⟨lm,⟨o,es,ep,a,_⟩,_⟩:=V.loc
    rw [e,a] at q; cases q
   ·obtain ⟨c,e',v0,⟨o,a,d⟩,b⟩:=V.cel y (V.celK y _ e)
    rw [e] at e'; cases e'
    rw [a] at q; cases q
theorem EnvR.step' (V:EnvR env ρ st.length h m) (S:Step W ρ st h ρ' st' h') (hW:∀ b,W b→¬ EnvW env b):EnvR env ρ' st'.length h' m:=by
 refine ⟨V.fn,V.glob,V.blt,?_,fun y hy=>?_,V.celK,V.apart,fun i hi=>?_⟩
 ·obtain ⟨lm,a,b⟩:=V.loc
  exact ⟨lm,a.at' fun o e=>S.out _ o (fun x=>hW _ x (.inl rfl)) (fun i hi q=>(V.out i hi).1 q.symm) e,fun x v k g=>let ⟨u,c,d⟩:=b x v k g; ⟨u,c,d.step S⟩⟩
 ·obtain ⟨c,e,v0,⟨o,a,d⟩,b⟩:=V.cel y hy
  exact ⟨c,e,v0,⟨o,S.out _ o (fun x=>hW _ x (.inr ⟨y,e⟩)) (fun i hi q=>(V.out i hi).2 y (q ▸ e)) a,d⟩,fun x v k g=>let ⟨u,c,d⟩:=b x v k g; ⟨u,c,d.step S⟩⟩
 ·rcases Nat.lt_or_ge i st.length with hlt | hge
  ·rw [S.ag i hlt]; exact V.out i hlt
  ·refine ⟨fun e=>?_,fun y e=>?_⟩
   ·have q:=S.new i hge hi (fun x=>hW _ x (.inl e))
    obtain ⟨lm,⟨o,es,ep,a,_⟩,_⟩:=V.loc
    rw [e,a] at q; cases q
   ·have q:=S.new i hge hi (fun x=>hW _ x (.inr ⟨y,e⟩))
    obtain ⟨c,e',v0,⟨o,a,d⟩,b⟩:=V.cel y (V.celK y _ e)
    rw [e] at e'; cases e'
    rw [a] at q; cases q
theorem sq_eq {a b:Str} (h:sq a b=true):a=b:=of_decide_eq_true h
theorem sq_ne {a b:Str} (h:(!sq a b)=true):(a == b)=false:=by
 rw [Bool.not_eq_true'] at h
 rw [beq_eq_false_iff_ne]
 exact of_decide_eq_false h
theorem load_name {x:Nat} {v:AV} {Q:Value→Shared→Prop} (V:EnvR env ρ n s.heap m) (hx:nameOk env.scope x=true) (hv:get m x=some v)
  (hQ:∀ u,Val ρ n s.heap v u→Q u s) (pos:Pos):wpAny (model prog w) A (eval (.Name (T x) pos) env) Q E s:=by
 simp only [nameOk,Bool.and_eq_true] at hx
 obtain ⟨⟨hk,hd⟩,hc⟩:=hx
 refine wpAny_Name ?_ (sq_ne hd)
 have hk':env.kindOf (T x)=some .local∨env.kindOf (T x)=some .cell∨env.kindOf (T x)=some .free:=by
  unfold Env.kindOf
  set_option tactic.hygienic true in split at hk <;> rename_i e <;> first | (rw [e]; simp; done) | cases hk
 rcases hk' with k | k | k
 ·obtain ⟨lm,a,b⟩:=V.loc
  obtain ⟨u,c,d⟩:=b x v k hv
  exact wpAny_loadName_local V.fn k a c (hQ u d)
 ·obtain ⟨c,e,v0,a,b⟩:=V.cel _ (.inl k)
  obtain ⟨u,rfl,d⟩:=b x v rfl hv
  exact wpAny_loadName_cell V.fn k e a (hQ u d)
 ·obtain ⟨c,e,v0,a,b⟩:=V.cel _ (.inr k)
  obtain ⟨u,rfl,d⟩:=b x v rfl hv
  exact wpAny_loadName_free V.fn k e a (hQ u d) (sq_ne hc)
theorem store_name {x:Nat} {v:AV} {u:Value} {Q:Unit→Shared→Prop} (R:Rel w cl B ρ st s.heap) (V:EnvR env ρ st.length s.heap m) (hB:∀ b,EnvW env b→B.get? b=none) (hx:storeOk env.scope x=true) (hv:Val ρ st.length s.heap v u)
  (hQ:∀ h' tk,Rel w cl B ρ st h'→EnvR env ρ st.length h' (put m x v)→Step (EnvW env) ρ st s.heap ρ st h'→Q () { s with heap:=h',toks:=tk }) :
  wpAny (model prog w) A (storeName env (T x) u) Q E s:=by
 have hk:env.kindOf (T x)=some .local∨env.kindOf (T x)=some .cell:=by
  unfold storeOk at hx
  unfold Env.kindOf
  set_option tactic.hygienic true in split at hx <;> rename_i e <;> first | (rw [e]; simp; done) | cases hx
 have main:∀ (a:Addr) (h':Heap) (tk:Nat),EnvW env a→Heap.SameBut a s.heap h'→(∃ o',h'.get? a=some o') →
   (∀ (S:Step (EnvW env) ρ st s.heap ρ st h'),EnvR env ρ st.length h' (put m x v))→Q () { s with heap:=h',toks:=tk }:=fun a h' tk ha hs ht hV=>by
  have:=R.but (W:=EnvW env) (h':=h') (fun b o hb e=>(hs.2 b (fun q=>hb (q ▸ ha))).trans e) (fun i hi hw=>by
   rcases hw with q | ⟨y,q⟩
   ·exact (V.out i hi).1 q
   ·exact (V.out i hi).2 y q) hB fun b o hb e=>by
    obtain ⟨o',e',z⟩:=V.there hb
    rw [e] at e'; cases e'
    exact .inr z
  exact hQ h' tk this.1 (hV this.2) this.2
 have hne:∀ c,env.cells.lookup (T x)=some c→env.locals≠c:=fun c e q=>by
  obtain ⟨c',e',v0,⟨o,a,d⟩,b⟩:=V.cel _ (V.celK _ c e)
  rw [e] at e'; cases e'
  obtain ⟨lm,⟨o',es,ep,a',d',_⟩,_⟩:=V.loc
  rw [q,a] at a'; cases a'
  rw [d] at d'; cases d'
 have hneA:∀ y c,env.cells.lookup y=some c→env.locals≠c:=fun y c e q=>by
  obtain ⟨c',e',v0,⟨o,a,d⟩,b⟩:=V.cel _ (V.celK _ c e)
  rw [e] at e'; cases e'
  obtain ⟨lm,⟨o',es,ep,a',d',_⟩,_⟩:=V.loc
  rw [q,a] at a'; cases a'
  rw [d] at d'; cases d'
 rcases hk with k | k
 ·obtain ⟨lm,a,b⟩:=V.loc
  refine wpAny_storeName_local k a (fun h' hn hs=>main env.locals h' _ (.inl rfl) hs (let ⟨o,_,_,e,_⟩:=hn; ⟨o,e⟩) fun S=>?_) (by rw [V.fn]; rfl)
  refine ⟨V.fn,V.glob,V.blt,⟨_,hn,fun y z ky gy=>?_⟩,fun y hy=>?_,V.celK,V.apart,V.out⟩
  ·rw [get_put] at gy
   by_cases e:x=y
   ·subst e
    rw [if_pos rfl] at gy; cases gy
    exact ⟨u,if_pos rfl,hv.step S⟩
   ·rw [if_neg e] at gy
    obtain ⟨u',c,d⟩:=b y z ky gy
    exact ⟨u',(if_neg (fun q=>e (T_inj q).symm)).trans c,d.step S⟩
  ·obtain ⟨c,e,v0,⟨o,q,d⟩,b'⟩:=V.cel y hy
   refine ⟨c,e,v0,⟨o,(hs.2 c (hneA y c e).symm).trans q,d⟩,fun z z' ez gz=>?_⟩
   rw [get_put] at gz
   by_cases ee:x=z
   ·subst ee; subst ez
    rw [k] at hy; rcases hy with hy | hy <;> cases hy
   ·rw [if_neg ee] at gz
    obtain ⟨u',f,g⟩:=b' z z' ez gz
    exact ⟨u',f,g.step S⟩
 ·obtain ⟨c,e,v0,a,b⟩:=V.cel _ (.inl k)
  refine wpAny_storeName_cell V.fn k e a fun h' hn hs=>main c h' _ (.inr ⟨_,e⟩) hs (let ⟨o,e,_⟩:=hn; ⟨o,e⟩) fun S=>?_
  refine ⟨V.fn,V.glob,V.blt,?_,fun y hy=>?_,V.celK,V.apart,V.out⟩
  ·obtain ⟨lm,a',b'⟩:=V.loc
   refine ⟨lm,a'.at' fun o q=>(hs.2 _ (hne c e)).trans q,fun y z ky gy=>?_⟩
   rw [get_put] at gy
   by_cases ee:x=y
   ·subst ee; rw [k] at ky; cases ky
   ·rw [if_neg ee] at gy
    obtain ⟨u',f,g⟩:=b' y z ky gy
    exact ⟨u',f,g.step S⟩
  ·by_cases ey:y=T x
   ·subst ey
    refine ⟨c,e,some u,hn,fun z z' ez gz=>?_⟩
    rw [get_put,if_pos (T_inj ez).symm] at gz
    cases gz
    exact ⟨u,rfl,hv.step S⟩
   ·obtain ⟨c',e',v0',⟨o,q,d⟩,b'⟩:=V.cel y hy
    have hcc:c'≠c:=fun q=>ey (V.apart y (T x) c (q ▸ e') e)
    refine ⟨c',e',v0',⟨o,(hs.2 c' hcc).trans q,d⟩,fun z z' ez gz=>?_⟩
    rw [get_put] at gz
    by_cases ee:x=z
    ·subst ee; exact absurd ez.symm ey
    ·rw [if_neg ee] at gz
     obtain ⟨u',f,g⟩:=b' z z' ez gz
     exact ⟨u',f,g.step S⟩
end
end Mine
namespace Mine
section
set_option maxRecDepth 100000
open PySem PySem.W PyProof.Rows PySem.Calls
variable {prog:PySem.Program} {w:World} {cl:Nat→Addr} {B:Heap} {A:Around} {E:Value→Shared→Prop} {s:Shared} {ρ ρ':Nat→Addr} {st st':Store} {h':Heap}
noncomputable def Goal (w:World) (cl:Nat→Addr) (B:Heap) (ρ:Nat→Addr) (st:Store) (s:Shared) (Q:AV→Store→Prop) (P:Value→Shared→Prop):Prop :=
 ∀ a st' ρ' h' tk v,Q a st'→Rel w cl B ρ' st' h'→Step no ρ st s.heap ρ' st' h'→Val ρ' st'.length h' a v→P v { s with heap:=h',toks:=tk }
theorem Goal.after {Q:AV→Store→Prop} {P:Value→Shared→Prop} {tk:Nat} (G:Goal w cl B ρ st s Q P) (R:Rel w cl B ρ' st' h') (S:Step no ρ st s.heap ρ' st' h'):Goal w cl B ρ' st' { s with heap:=h',toks:=tk } Q P :=
 fun a st2 ρ2 h2 tk2 v q R2 S2 x=>G a st2 ρ2 h2 tk2 v q R2 (Step.trans R S S2 fun _ x _=>x) x
theorem Goal.here {Q:AV→Store→Prop} {P:Value→Shared→Prop} (G:Goal w cl B ρ st s Q P) (R:Rel w cl B ρ st s.heap) {a:AV} {v:Value} (q:Q a st) (x:Val ρ st.length s.heap a v) (tk:Nat):P v { s with toks:=tk } :=
 G a st ρ s.heap tk v q R (Step.refl _) x
theorem Goal.grown {Q:AV→Store→Prop} {P:Value→Shared→Prop} (G:Goal w cl B ρ st s Q P) (R:Rel w cl B ρ st s.heap) (k:∀ b o,s.heap.get? b=some o→h'.get? b=some o) {a:AV} {v:Value} (q:Q a st) (x:Val ρ st.length h' a v) (tk:Nat):P v { s with heap:=h',toks:=tk } :=
 G a st ρ h' tk v q (R.keeps k).1 (R.keeps k).2 x
theorem Goal.list {Q:AV→Store→Prop} {P:Value→Shared→Prop} (G:Goal w cl B ρ st s Q P) (R:Rel w cl B ρ st s.heap) {a:Addr} {l:List AV} {vs:List Value} {c:Nat} (ha:s.heap.get? a=none) (k:∀ b o,s.heap.get? b=some o→h'.get? b=some o)
  (ho:h'.get? a=some (seqObj "list" vs.toArray c)) (hv:VL ρ st.length h' l vs) (q:Q (.ref st.length) (st++[.lst l])) (tk:Nat):P (.ref a) { s with heap:=h',toks:=tk }:=by
 obtain ⟨ρ',e,R',S'⟩:=R.push (ao:=.lst l) ha k fun ρ' ag e=>⟨vs,⟨c,by rw [e]; exact ho⟩,hv.mono (TK.refl _) (Nat.le_succ _) ag⟩
 exact G _ _ ρ' h' tk _ q R' S' ⟨by simp,by rw [e]⟩
theorem Goal.dict {Q:AV→Store→Prop} {P:Value→Shared→Prop} (G:Goal w cl B ρ st s Q P) (R:Rel w cl B ρ st s.heap) {a:Addr} {kvs:List (AV×AV)} {es:Array DictEntry} {ep:Nat} (ha:s.heap.get? a=none) (k:∀ b o,s.heap.get? b=some o→h'.get? b=some o)
  (ho:DAt h' a es ep) (hv:Ents w ρ st.length h' kvs es) (q:Q (.ref st.length) (st++[.dct kvs])) (tk:Nat):P (.ref a) { s with heap:=h',toks:=tk }:=by
 obtain ⟨ρ',e,R',S'⟩:=R.push (ao:=.dct kvs) ha k fun ρ' ag e=>⟨es,ep,by rw [e]; exact ho,hv.mono fun x u y=>y.mono (TK.refl _) (Nat.le_succ _) ag⟩
 exact G _ _ ρ' h' tk _ q R' S' ⟨by simp,by rw [e]⟩
theorem none_at_size (h:Heap):h.get? h.objs.size=none:=by
 cases q:h.get? h.objs.size with
 | none=>rfl
 | some o=>exact absurd (Heap.lt_size q) (Nat.lt_irrefl _)
theorem bits64 {a:Int} (h:a.natAbs < 2 ^ 64):Builtin.Int.intBits a≤64:=intBits_le h
theorem lst_at (R:Rel w cl B ρ st s.heap) {i:Nat} {l:List AV} (e:st[i]?=some (.lst l)):∃ vs:List Value,s.heap.PlainList (ρ i) vs.toArray∧VL ρ st.length s.heap l vs:=R.obj i _ e
theorem dct_at (R:Rel w cl B ρ st s.heap) {i:Nat} {d:List (AV×AV)} (e:st[i]?=some (.dct d)):Ex2 fun es ep=>DAt s.heap (ρ i) es ep∧Ents w ρ st.length s.heap d es:=R.obj i _ e
structure Room (A:Around) (B:Heap):Prop where
 calm:A.handled=none
 units:A.units + 60 < cLine
 sys:∃ o,B.get? sysModules=some o
theorem Room.low (M:Room A B) (R:Rel w cl B ρ st s.heap) {i:Nat} {o:AObj} (e:st[i]?=some o) (h:isScr o=false):(ρ i == sysModules)=false:=by
 obtain ⟨o',ho⟩:=M.sys
 cases q:ρ i == sysModules with
 | false=>rfl
 | true =>
  have:ρ i=sysModules:=beq_iff_eq.mp q
  rw [← this,R.fresh i o e h] at ho; cases ho
theorem list_mul {l:Addr} {vs:List Value} {x:Int} {u:Tok} {Q:Value→Shared→Prop} (hl:s.heap.PlainList l vs.toArray) (h0:0≤x) (h1:x≤16) (hz:vs.length≤1)
  (h:Q (.ref s.heap.objs.size) { s with heap:=s.heap.push { cls:=.type "list",data:=.seq (List.replicate x.toNat vs).flatten.toArray } }):wpAny (model prog w) A (binaryOp .Mult (.ref l) (.int x u)) Q E s:=by
 obtain ⟨k,ho⟩:=hl
 have hT:s.TypeIs (.ref l) "list":=⟨_,ho,rfl⟩
 have hsz:vs.length * x.toNat≤16:=by
  have:vs.length * x.toNat≤1 * 16:=Nat.mul_le_mul hz (by lia)
  lia
 have hr:Q (.ref s.heap.objs.size) { s with heap:=s.heap.push { cls:=.type "list",data:=.seq (List.foldl (fun x1 x2=>x1++x2) #[] (List.replicate (if vs.toArray.isEmpty=true then 0 else x.toNat) vs.toArray)) } }:=by
  rw [listMul_foldl_if]; simpa using h
 refine wpAny_binaryOp_repeat_ref (T:="list") (U:="int") (by decide) hT (fun s'=>typeIs_int s' x u) noFill_list_mul F.fills_int_mul F.slot_int_rmul repeat_list F.slot_int_index.lookup
  (call_meets F.slot_int_rmul (typeIs_int s x u) F.entry_int_rmul (F.args_int_rmul_2 _ _) (int___rmul___int_list x u l vs.toArray k) ⟨ho,rfl,hT,?_⟩)
 refine call_meets F.slot_list_mul hT F.entry_list_mul (F.args_list_mul_2 _ _) (AutoListH.list___mul___list_int_3 l vs.toArray k x u ?_ ?_ ?_) ⟨ho,hr⟩
 ·simp [Builtin.List.listFitsIndex]; lia
 ·rw [List.size_toArray]; lia
 ·simp only [Builtin.List.listTooLong,List.size_toArray]; rw [szLine]; simp; lia
theorem binF_sound (M:Room A B) (R:Rel w cl B ρ st s.heap) {op:Op} {o:Operator} {a b:AV} {x y:Value} {Q:AV→Store→Prop} {P:Value→Shared→Prop} (ho:opIs op o=true) (ha:Val ρ st.length s.heap a x) (hb:Val ρ st.length s.heap b y)
  (h:binF op st a b Q) (G:Goal w cl B ρ st s Q P):wpAny (model prog w) A (binaryOp o x y) P E s:=by
 obtain rfl:o=opOf op:=of_decide_eq_true ho
 cases op with
 | add =>
  rcases irM_inv h with ⟨i,rfl,h⟩ | ⟨i,rfl,h⟩
  ·refine Classical.byContradiction fun ng=>?_
   obtain ⟨j,rfl,h⟩:=intM_inv h
   obtain ⟨t,rfl⟩:=ha; obtain ⟨u,rfl⟩:=hb
   refine ng ?_
   exact wpAny_add_int (G.here R h ⟨_,rfl⟩ _)
  ·refine Classical.byContradiction fun ng=>?_
   obtain ⟨j,rfl,h⟩:=refM_inv h
   obtain ⟨l,e1,h⟩:=objM_lst h
   obtain ⟨l',e2,h⟩:=objM_lst h
   obtain ⟨hi,rfl⟩:=ha; obtain ⟨hj,rfl⟩:=hb
   obtain ⟨vs,p1,v1⟩:=lst_at R e1
   obtain ⟨us,p2,v2⟩:=lst_at R e2
   refine ng ?_
   exact list_add p1 p2 (by rw [v1.len,v2.len]; lia) (G.list R (none_at_size _) (fun b o e=>Heap.get?_push_of_some _ e) (Heap.get?_push_size _ rfl) ((v1.append v2).mono (TK.of_keep fun b o e=>Heap.get?_push_of_some _ e) (Nat.le_refl _) fun _ _=>rfl) h.2 _)
 | sub =>
  refine Classical.byContradiction fun ng=>?_
  obtain ⟨i,rfl,h⟩:=intM_inv h
  obtain ⟨j,rfl,h⟩:=intM_inv h
  obtain ⟨t,rfl⟩:=ha; obtain ⟨u,rfl⟩:=hb
  refine ng ?_
  exact sub_int' (G.here R h ⟨_,rfl⟩ _)
 | mul =>
  rcases irM_inv h with ⟨i,rfl,h⟩ | ⟨i,rfl,h⟩
  ·refine Classical.byContradiction fun ng=>?_
   obtain ⟨j,rfl,h⟩:=intM_inv h
   obtain ⟨t,rfl⟩:=ha; obtain ⟨u,rfl⟩:=hb
   refine ng ?_
   exact PyProof.Rows.mul_int (G.here R h.2 ⟨_,rfl⟩ _) (h.1.elim (fun z=>.of_left (bits64 z)) fun z=>.of_right (bits64 z))
  ·refine Classical.byContradiction fun ng=>?_
   obtain ⟨j,rfl,h⟩:=intM_inv h
   obtain ⟨l,e1,h⟩:=objM_lst h
   obtain ⟨hi,rfl⟩:=ha; obtain ⟨u,rfl⟩:=hb
   obtain ⟨vs,p1,v1⟩:=lst_at R e1
   refine ng ?_
   have rep:∀ k:Nat,VL ρ st.length s.heap (List.replicate k l).flatten (List.replicate k vs).flatten:=by
    intro k
    induction k with
    | zero=>exact .nil
    | succ k ih=>rw [List.replicate_succ,List.replicate_succ,List.flatten_cons,List.flatten_cons]; exact v1.append ih
   exact list_mul p1 h.1 h.2.1 (by rw [v1.len]; exact h.2.2.1) (G.list R (none_at_size _) (fun b o e=>Heap.get?_push_of_some _ e) (Heap.get?_push_size _ rfl) ((rep _).mono (TK.of_keep fun b o e=>Heap.get?_push_of_some _ e) (Nat.le_refl _) fun _ _=>rfl) h.2.2.2 _)
 | fdiv =>
  refine Classical.byContradiction fun ng=>?_
  obtain ⟨i,rfl,h⟩:=intM_inv h
  obtain ⟨j,rfl,h⟩:=intM_inv h
  obtain ⟨t,rfl⟩:=ha; obtain ⟨u,rfl⟩:=hb
  refine ng ?_
  exact floordiv_int (by lia) (G.here R h.2 ⟨_,rfl⟩ _) (.inl (PyProof.noPylong_small (by lia)))
 | mod =>
  refine Classical.byContradiction fun ng=>?_
  obtain ⟨i,rfl,h⟩:=intM_inv h
  obtain ⟨j,rfl,h⟩:=intM_inv h
  obtain ⟨t,rfl⟩:=ha; obtain ⟨u,rfl⟩:=hb
  refine ng ?_
  exact mod_int' (by lia) (G.here R h.2 ⟨_,rfl⟩ _)
 | pow =>
  refine Classical.byContradiction fun ng=>?_
  obtain ⟨i,rfl,h⟩:=intM_inv h
  obtain ⟨j,rfl,rfl,rfl,h2⟩:=intM_inv h
  obtain ⟨t,rfl⟩:=ha; obtain ⟨u,rfl⟩:=hb
  refine ng ?_
  exact pow_int_small (by decide) (by decide) (by decide) (G.here R h2 ⟨_,rfl⟩ _)
theorem isNil_len {h:Heap} {n:Nat} {l:List AV} {vs:List Value} (x:VL ρ n h l vs):isNil l=vs.isEmpty:=by
 cases x with
 | nil=>rfl
 | cons _ _=>rfl
theorem cmp_bool {op:CmpOp} {x y:Value} {Q:Bool→Prop} {P:Value→Shared→Prop} (h:wpAny (model prog w) A (compareOp op x y) (fun v s'=>Ex2 fun b tk=>v=.bool b∧Q b∧s'={ s with toks:=tk }) E s) (hP:∀ b tk,Q b→P (.bool b) { s with toks:=tk }) :
  wpAny (model prog w) A (compareOp op x y) P E s :=
 wpAny_mono h (fun v s' z=>by obtain ⟨b,tk,rfl,q,rfl⟩:=z; exact hP b tk q) fun _ _ e=>e
theorem eq_data {a b:AV} {x y:Value} {P:Value→Shared→Prop} (M:Room A B) (da:a.isD=true) (db:b.isD=true) (ha:Val ρ st.length s.heap a x) (hb:Val ρ st.length s.heap b y) (h:P (.bool (decide (a=b))) s) :
  wpAny (model prog w) A (compareOp .Eq x y) P E s:=richEq_data 6 (isD_8 da) (by have:=M.units; lia) da db ha hb h
theorem items_toL {a:AV} {l:List AV} {vs:List Value} {h:Heap} {n:Nat} (e:a.toL=some l) (x:Items ρ n h a vs):VL ρ n h l vs:=by
 obtain ⟨l',e',y⟩:=items_VL x
 rw [e] at e'; cases e'; exact y
theorem toL_chain {a:AV} {l:List AV} (e:a.toL=some l):a.isChain=true:=by
 cases a <;> first | rfl | cases e
theorem toL_val {a:AV} {l:List AV} {v:Value} {h:Heap} {n:Nat} (e:a.toL=some l) (x:Val ρ n h a v):Ex2 fun t vs=>v=.ref t∧IsTup h t (List.toArray vs)∧VL ρ n h l vs:=by
 refine Classical.byContradiction fun ng=>?_
 obtain ⟨t,vs,e1,ht,y⟩:=chain_val (toL_chain e) x
 refine ng ?_
 exact ⟨t,vs,e1,ht,items_toL e y⟩
theorem mem_sound (M:Room A B) (R:Rel w cl B ρ st s.heap) {a b:AV} {x y:Value} {Q:Bool→Prop} (ha:Val ρ st.length s.heap a x) (hb:Val ρ st.length s.heap b y) (h:memF st a b Q) :
  wpAny (model prog w) A (compareOp .In x y) (fun v s'=>Ex2 fun b tk=>v=.bool b∧Q b∧s'={ s with toks:=tk }) E s:=by
 obtain ⟨da,h⟩:=h
 have hu:=M.units
 rcases refE_inv h with ⟨i,rfl,h⟩ | ⟨l,e,al,h⟩
 ·obtain ⟨hi,rfl⟩:=hb
  rcases objM_inv h with ⟨l,e,h⟩ | ⟨l,e,h⟩ | ⟨d,e,h⟩
  ·obtain ⟨vs,p,v⟩:=lst_at R e
   exact list_in (by lia) da ha p v.len (fun j c u e1 e2=>⟨List.all_eq_true.mp h.1 c (List.mem_of_getElem? e1),v.get j c u e1 e2⟩) ⟨_,s.toks,rfl,h.2,rfl⟩
  ·exact h.elim
  ·refine Classical.byContradiction fun ng=>?_
   obtain ⟨es,ep,p,v⟩:=dct_at R e
   refine ng ?_
   exact in_dict (by lia) (M.low R e rfl) da ha p v fun tk=>⟨_,tk,rfl,h,rfl⟩
 ·refine Classical.byContradiction fun ng=>?_
  obtain ⟨t,vs,rfl,ht,v⟩:=toL_val e hb
  refine ng ?_
  exact tuple_in (by lia) da ha ht v.len (fun j c u e1 e2=>⟨List.all_eq_true.mp al c (List.mem_of_getElem? e1),v.get j c u e1 e2⟩) ⟨_,s.toks,rfl,h,rfl⟩
theorem isn_eq {a:AV} {x:Value} {h:Heap} (ha:Val ρ n h a x):(x == Value.none)=decide (a=.none):=by
 cases a with
 | none=>obtain rfl:x=.none:=ha; rfl
 | bool b=>obtain rfl:x=.bool b:=ha; rfl
 | int i=>obtain ⟨t,rfl⟩:=ha; rfl
 | str i=>obtain ⟨t,rfl⟩:=ha; rfl
 | nil=>obtain ⟨p,vs,rfl,_⟩:=ha; rfl
 | cons _ _=>obtain ⟨p,vs,rfl,_⟩:=ha; rfl
 | ref i=>obtain ⟨_,rfl⟩:=ha; rfl
theorem eqF_sound (M:Room A B) (R:Rel w cl B ρ st s.heap) {a b:AV} {x y:Value} {Q:Bool→Prop} {P:Value→Shared→Prop} (ha:Val ρ st.length s.heap a x) (hb:Val ρ st.length s.heap b y)
  (h:eqF st a b Q) (here:∀ {b},Q b→P (.bool b) s):wpAny (model prog w) A (compareOp .Eq x y) P E s:=by
 have hu:=M.units
 rcases refE_inv h with ⟨i,rfl,h⟩ | h
 ·rcases refE_inv h with ⟨j,rfl,h⟩ | h
  ·obtain ⟨hi,rfl⟩:=ha; obtain ⟨hj,rfl⟩:=hb
   rcases objM_inv h with ⟨l,e1,h⟩ | ⟨_,_,h⟩ | ⟨d,e1,h⟩
   ·refine Classical.byContradiction fun ng=>?_
    obtain ⟨_,e2,rfl,h⟩:=objM_lst h
    obtain ⟨vs,p1,v1⟩:=lst_at R e1
    obtain ⟨us,p2,v2⟩:=lst_at R e2
    refine ng ?_
    cases v2
    exact (list_cmp_nil (by lia) p1 p2).1 (by rw [← isNil_len v1]; exact here h)
   ·exact h.elim
   ·rcases objM_inv h with ⟨_,_,h⟩ | ⟨_,_,h⟩ | ⟨e,e2,h⟩
    ·exact h.elim
    ·exact h.elim
    ·refine Classical.byContradiction fun ng=>?_
     obtain ⟨es,ep,p1,v1⟩:=dct_at R e1
     obtain ⟨fs,fp,p2,v2⟩:=dct_at R e2
     refine ng ?_
     exact dict_eq (by lia) (M.low R e1 rfl) (M.low R e2 rfl) p1 p2 v1 v2 h.1 h.2.1 (here h.2.2)
  ·exact eq_data M h.1 h.2.1 ha hb (here h.2.2)
 ·exact eq_data M h.1 h.2.1 ha hb (here h.2.2)
theorem neF_sound (M:Room A B) (R:Rel w cl B ρ st s.heap) {a b:AV} {x y:Value} {Q:Bool→Prop} {P:Value→Shared→Prop} (ha:Val ρ st.length s.heap a x) (hb:Val ρ st.length s.heap b y)
  (h:neF st a b Q) (here:∀ {b},Q b→P (.bool b) s):wpAny (model prog w) A (compareOp .NotEq x y) P E s:=by
 unfold neF at h
 have hu:=M.units
 rcases isrM_inv h with ⟨i,rfl,h⟩ | ⟨i,rfl,h⟩ | ⟨i,rfl,h⟩
 ·refine Classical.byContradiction fun ng=>?_
  obtain ⟨j,rfl,h⟩:=intM_inv h
  obtain ⟨t,rfl⟩:=ha; obtain ⟨u,rfl⟩:=hb
  refine ng ?_
  exact PySem.P.ne_int (here (by rw [show (i != j)=!decide (i=j) by simp [bne,BEq.beq]]; exact h))
 ·refine Classical.byContradiction fun ng=>?_
  obtain ⟨j,rfl,h⟩:=strM_inv h
  obtain ⟨t,rfl⟩:=ha; obtain ⟨u,rfl⟩:=hb
  refine ng ?_
  exact PySem.P.ne_str (here (by
   have:((T i).cps.toList != (T j).cps.toList)=!decide (i=j):=by
    by_cases e:i=j
    ·subst e; simp
    ·have:(T i).cps.toList≠(T j).cps.toList:=fun q=>e (T_inj (by
      have:=Array.toList_inj.mp q
      cases hi:T i; cases hj:T j; rw [hi,hj] at this; exact congrArg _ this))
     simp [e,this]
   rw [this]; exact h))
 ·refine Classical.byContradiction fun ng=>?_
  obtain ⟨j,rfl,h⟩:=refM_inv h
  obtain ⟨hi,rfl⟩:=ha; obtain ⟨hj,rfl⟩:=hb
  obtain ⟨l,e1,h⟩:=objM_lst h
  obtain ⟨_,e2,rfl,h⟩:=objM_lst h
  obtain ⟨vs,p1,v1⟩:=lst_at R e1
  obtain ⟨us,p2,v2⟩:=lst_at R e2
  refine ng ?_
  cases v2
  exact (list_cmp_nil (by lia) p1 p2).2 (by rw [← isNil_len v1]; exact here h)
theorem cmpF_sound (M:Room A B) (R:Rel w cl B ρ st s.heap) {op:COp} {o:CmpOp} {a b:AV} {x y:Value} {Q:Bool→Prop} {P:Value→Shared→Prop} (ho:copIs op o=true) (ha:Val ρ st.length s.heap a x) (hb:Val ρ st.length s.heap b y)
  (h:cmpF op st a b Q) (hP:∀ b tk,Q b→P (.bool b) { s with toks:=tk }):wpAny (model prog w) A (compareOp o x y) P E s:=by
 obtain rfl:o=copOf op:=of_decide_eq_true ho
 have here:∀ {b},Q b→P (.bool b) s:=fun q=>hP _ s.toks q
 cases op with
 | eq=>exact eqF_sound M R ha hb h here
 | ne=>exact neF_sound M R ha hb h here
 | lt =>
  refine Classical.byContradiction fun ng=>?_
  obtain ⟨i,rfl,h⟩:=intM_inv h
  obtain ⟨j,rfl,h⟩:=intM_inv h
  obtain ⟨t,rfl⟩:=ha; obtain ⟨u,rfl⟩:=hb
  refine ng ?_
  exact wpAny_lt_int (here h)
 | le =>
  refine Classical.byContradiction fun ng=>?_
  obtain ⟨i,rfl,h⟩:=intM_inv h
  obtain ⟨j,rfl,h⟩:=intM_inv h
  obtain ⟨t,rfl⟩:=ha; obtain ⟨u,rfl⟩:=hb
  refine ng ?_
  exact PySem.P.le_int (here h)
 | gt =>
  refine Classical.byContradiction fun ng=>?_
  obtain ⟨i,rfl,h⟩:=intM_inv h
  obtain ⟨j,rfl,h⟩:=intM_inv h
  obtain ⟨t,rfl⟩:=ha; obtain ⟨u,rfl⟩:=hb
  refine ng ?_
  exact PySem.P.gt_int (here h)
 | ge =>
  refine Classical.byContradiction fun ng=>?_
  obtain ⟨i,rfl,h⟩:=intM_inv h
  obtain ⟨j,rfl,h⟩:=intM_inv h
  obtain ⟨t,rfl⟩:=ha; obtain ⟨u,rfl⟩:=hb
  refine ng ?_
  exact PySem.P.ge_int (here h)
 | is =>
  obtain ⟨rfl,h⟩:=noneM_inv h
  obtain rfl:y=.none:=hb
  exact PySem.is_none (here (by rw [isn_eq ha]; exact h))
 | isnot =>
  obtain ⟨rfl,h⟩:=noneM_inv h
  obtain rfl:y=.none:=hb
  exact PySem.isNot_none (here (by rw [isn_eq ha,← decide_not]; exact h))
 | isin=>exact cmp_bool (mem_sound M R ha hb h) hP
 | notin=>exact notIn_of (wpAny_mono (mem_sound (Q:=fun r=>Q (!r)) M R ha hb h) (fun v s' z=>by obtain ⟨b,tk,rfl,q,rfl⟩:=z; exact ⟨b,rfl,hP _ tk q⟩) fun _ _ e=>e)
end
end Mine
namespace Mine
section
set_option maxRecDepth 100000
open PySem PySem.W PyProof.Rows PySem.Calls
variable {prog:PySem.Program} {w:World} {cl:Nat→Addr} {B:Heap} {A:Around} {E:Value→Shared→Prop} {s:Shared} {ρ ρ':Nat→Addr} {st st':Store} {h':Heap} {n:Nat}
theorem subTail {value slice:Expr} {o i:Value} {Ty id:String} {Q:Value→Shared→Prop} (hT:s.TypeIs o Ty) (hl:typeLookup (.type Ty) "__getitem__"=pure (some (.builtin id))) (hs:notSlice slice=true)
  (h:wpAny (model prog w) A (getItem o i) Q E s):wpAny (model prog w) A (subscriptTail value slice o i) Q E s:=by
 have hs':subscripted slice false o i=operate [o,i] (getItem o i):=by cases slice <;> first | rfl | cases hs
 unfold subscriptTail
 refine wpAny_bind ?_
 rw [getitemInPython_of_ne hT.not_modules]
 refine wpAny_bind (wpAny_specialOf hT hl ?_)
 have fin:wpAny (model prog w) A (subscripted slice false o i) (fun r s₃=>wpAny (model prog w) A (letTemporaryGo value o r >>= fun _=>pure r) Q E s₃) E s:=by
  rw [hs']
  exact wpAny_operating (wpAny_mono h (fun r s₃ h₃=>wpAny_bind (wpAny_letTemporaryGo (wpAny_pure h₃))) fun _ _ x=>x)
 first
  | exact wpAny_pure (wpAny_bind fin)
  | exact wpAny_bind (wpAny_pure (wpAny_bind fin))
  | exact wpAny_bind fin
theorem chain_len {h:Heap}:∀ {a:AV} {vs:List Value} {k:Nat},chainLen a=some k→Items ρ n h a vs→vs.length=k:=by
 intro a
 induction a with
 | nil=>intro vs k e x; cases e; obtain rfl:vs=[]:=x; rfl
 | cons a r _ ih =>
  intro vs k e x
  obtain ⟨v,q,rfl,_,y⟩:=x
  simp only [chainLen,Option.map_eq_some_iff] at e
  obtain ⟨k',e,rfl⟩:=e
  rw [List.length_cons,ih e y]
 | _=>intro vs k e; cases e
theorem nth_at {h:Heap}:∀ {a:AV} {vs:List Value} {j:Nat} {b:AV},nth a j=some b→Items ρ n h a vs→∃ v,vs[j]?=some v∧Val ρ n h b v:=by
 intro a
 induction a with
 | cons a r _ ih =>
  intro vs j b e x
  obtain ⟨v,q,rfl,y,z⟩:=x
  cases j with
  | zero=>cases e; exact ⟨v,rfl,y⟩
  | succ j=>exact ih (j:=j) e z
 | _=>intro vs j b e; cases e
theorem idx_seq {k:Nat} {i:Int} {j:Nat} (e:idx k i=some j):seqIndex? i k=some j∧-100 < i∧i < 100:=by
 unfold idx at e
 unfold seqIndex?
 set_option tactic.hygienic true in split at e
 ·rename_i h; cases e
  have h1:¬ i < 0:=by lia
  simp only [if_neg h1]
  refine ⟨?_,by lia,h.2.2⟩
  simp [h.1,h.2.1]
 ·set_option tactic.hygienic true in split at e
  ·rename_i h0 h; cases e
   simp only [if_pos h.1]
   refine ⟨?_,h.2.2,by lia⟩
   have:i + (k:Int) < k:=by lia
   simp only [h.2.1,this,decide_true,Bool.and_self,if_true]
  ·cases e
theorem if_some {α:Type} {c:Prop} [Decidable c] {o:Option α} {v:α} (h:(if c then o else .none)=some v):c∧o=some v:=by
 by_cases q:c
 ·rw [if_pos q] at h; exact ⟨q,h⟩
 ·rw [if_neg q] at h; cases h
theorem sub_sound (M:Room A B) (R:Rel w cl B ρ st s.heap) {value slice:Expr} {a k v:AV} {x y:Value} {Q:AV→Store→Prop} {P:Value→Shared→Prop} (hs:notSlice slice=true) (ha:Val ρ st.length s.heap a x) (hk:Val ρ st.length s.heap k y)
  (h:subF st a k=some v) (q:Q v st) (G:Goal w cl B ρ st s Q P):wpAny (model prog w) A (subscriptTail value slice x y) P E s:=by
 have hu:=M.units
 cases a with
 | cons a b =>
  obtain ⟨i,rfl,h2⟩:=intO_inv h
  obtain ⟨t,rfl⟩:=hk
  obtain ⟨p,vs,rfl,ht,it⟩:=ha
  simp only [Option.bind_eq_some_iff] at h2
  obtain ⟨len,e1,j,e2,e3⟩:=h2
  have hl:=chain_len e1 it
  obtain ⟨u,e4,z⟩:=nth_at e3 it
  obtain ⟨hj,lo,hi⟩:=idx_seq e2
  exact subTail ht.typeIs slot_tuple_getitem.lookup hs (getItem_tuple (j:=j) ht (by lia) (by lia) (by rw [List.size_toArray,hl]; exact hj) (by simpa using e4) (G.here R q z s.toks))
 | ref i =>
  obtain ⟨hi,rfl⟩:=ha
  rcases objO_inv h with ⟨l,e,h⟩ | ⟨l,e,h⟩ | ⟨d,e,h⟩
  ·obtain ⟨vs,p,vl⟩:=lst_at R e
   obtain ⟨j,rfl,h2⟩:=intO_inv h
   obtain ⟨t,rfl⟩:=hk
   obtain ⟨hj,h2⟩:=if_some h2
   obtain ⟨u,e4,z⟩:=vl.at h2
   exact subTail p.isList.typeIs slot_list_getitem.lookup hs (wpAny_getItem_list p.isList hj.1 (by lia) (by simpa using e4) (G.here R q z s.toks))
  ·obtain ⟨vs,p,vl⟩:=R.obj i _ e
   obtain ⟨j,rfl,h2⟩:=intO_inv h
   obtain ⟨t,rfl⟩:=hk
   obtain ⟨hj,h2⟩:=if_some h2
   simp only [Option.map_eq_some_iff] at h2
   obtain ⟨z,e3,rfl⟩:=h2
   obtain ⟨u,e4⟩:=vl.get j.toNat _ e3
   exact subTail p.typeIs slot_list_getitem.lookup hs (wpAny_getItem_list p hj.1 (by lia) (by simpa using e4) (G.here R q ⟨u,rfl⟩ s.toks))
  ·obtain ⟨es,ep,p,vl⟩:=dct_at R e
   obtain ⟨dk,h2⟩:=if_some h
   exact subTail (dobj_typeIs p) F.slot_dict_getitem.lookup hs (item_dict (by lia) dk hk p vl h2 fun tk u z=>G.here R q z tk)
 | _=>exact none_ne h
end
end Mine
namespace Mine
section
set_option maxRecDepth 100000
open PySem PySem.W PyProof.Rows PySem.Calls
variable {prog:PySem.Program} {w:World} {cl:Nat→Addr} {B:Heap} {A:Around} {E:Value→Shared→Prop} {s:Shared} {ρ ρ':Nat→Addr} {st st':Store} {h':Heap} {n:Nat} {N:MN}
noncomputable def biVal:Bi→Value
 | .len=>.builtin "len" | .list=>.type "list" | .sorted=>.builtin "sorted" | .sum=>.builtin "sum" | .max=>.builtin "max" | .int=>.type "int" | .tuple=>.type "tuple" | .dict=>.type "dict"
theorem len_dict_tree {d:Addr} {es:Array DictEntry} {ep:Nat} {P:Fin→Shared→Prop} (hd:(d == sysModules)=false) (ho:DAt s.heap d es ep) (h:P (.done (.ret (.int es.size s.toks))) { s with toks:=s.toks + 1 }) :
  wpAny (model prog w) A (Builtin.«dict.__len__» ⟨[.ref d],[]⟩) P E s:=by
 show wpAny _ _ (dictSize d >>= _) _ _ s
 unfold dictSize
 refine wpAny_bind (wpAny_bind (wpAny_dictEntries ho rfl (wpAny_pure ?_)))
 show wpAny _ _ (Builtin.Dict.pendingCount d >>= _) _ _ s
 refine wpAny_bind (wpAny_pendingCount_other hd ?_)
 exact wpAny_mono (wpAny_ret_mkInt (Q:=fun v s'=>P (.done (.ret v)) s') (by simpa using h)) (fun fin s' z=>by obtain ⟨v,rfl,z⟩:=z; exact z) fun _ _ e=>e
theorem len_dict {d:Addr} {es:Array DictEntry} {ep:Nat} {Q:Value→Shared→Prop} (hd:(d == sysModules)=false) (ho:DAt s.heap d es ep) (hz:es.size≤16777216) (h:∀ t tk,Q (.int es.size t) { s with toks:=tk }) :
  wpAny (model prog w) A (call (.builtin "len") [.ref d]) Q E s:=by
 have hT:=dobj_typeIs ho
 refine Calls.call_function_entry kind_len plain_len entry_len (args_len1 _) ?_
 unfold Builtin.«len»
 refine wpAny_bind (m:=oneArg "len" _) (wpAny_pure ?_)
 refine wpAny_bind (m:=callSpecial? (.ref d) (Str.ofString "__len__")) (wpAny_callSpecial?_slot (name:=Str.ofString "__len__") hT F.slot_dict_len
  (wpAny_call_entry F.slot_dict_len hT F.entry_dict_len (len_dict_tree hd ho ⟨_,rfl,?_⟩) (F.args_dict_len_1 _)))
 show wpAny _ _ _ _ _ { s with toks:=s.toks + 1 }
 refine wpAny_bind (wpAny_holding (wpAny_pure ?_))
 refine wpAny_bind (wpAny_letGo ?_)
 show wpAny _ _ (if ((es.size:Nat):Int) < 0 then _ else _) _ _ _
 rw [if_neg (by lia)]
 show wpAny _ _ (if ((es.size:Nat):Int) ≥ 2 ^ 63 then _ else _) _ _ _
 rw [if_neg (by lia)]
 exact wpAny_bind (wpAny_mkInt (wpAny_pure ⟨_,rfl,h _ _⟩))
theorem ofL_toL (l:List AV):(AV.ofL l).toL=some l:=by
 induction l with
 | nil=>rfl
 | cons a r ih=>show (AV.ofL r).toL.map _=_; rw [ih]; rfl
theorem ofL_val {h:Heap} {l:List AV} {vs:List Value} {t:Addr} (x:VL ρ n h l vs) (ht:IsTup h t vs.toArray):Val ρ n h (AV.ofL l) (.ref t):=by
 have it:Items ρ n h (AV.ofL l) vs:=VL_items (ofL_toL l) x
 cases l with
 | nil=>exact ⟨t,vs,rfl,ht,it⟩
 | cons a r=>exact ⟨t,vs,rfl,ht,it⟩
theorem VL.nil_inv {h:Heap} {vs:List Value} (x:VL ρ n h [] vs):vs=[]:=by cases x; rfl
theorem VL.one_inv {h:Heap} {a:AV} {vs:List Value} (x:VL ρ n h [a] vs):∃ v,vs=[v]∧Val ρ n h a v:=by
 cases x with | cons hv r=>cases r; exact ⟨_,rfl,hv⟩
theorem VL.two_inv {h:Heap} {a b:AV} {vs:List Value} (x:VL ρ n h [a,b] vs):Ex2 fun u v=>vs=[u,v]∧Val ρ n h a u∧Val ρ n h b v:=by
 cases x with | cons hv r=>obtain ⟨v,rfl,y⟩:=r.one_inv; exact ⟨_,_,rfl,hv,y⟩
theorem biF_sound (M:Room A B) (R:Rel w cl B ρ st s.heap) {C:Nat→Option (List AV)} (hC:SortsOk C) {f:Bi} {l:List AV} {vs:List Value} {Q:AV→Store→Prop} {P:Value→Shared→Prop} (hv:VL ρ st.length s.heap l vs)
  (h:biF C f st l Q) (G:Goal w cl B ρ st s Q P):wpAny (model prog w) A (call (biVal f) vs) P E s:=by
 have hu:=M.units
 cases f with
 | len =>
  refine Classical.byContradiction fun ng=>?_
  obtain ⟨a,rfl,h⟩:=l1M_inv h
  obtain ⟨i,rfl,h⟩:=refM_inv h
  obtain ⟨v,rfl,hi,rfl⟩:=hv.one_inv
  refine ng ?_
  rcases objM_inv h with ⟨l,e,h⟩ | ⟨l,e,h⟩ | ⟨d,e,h⟩
  ·obtain ⟨us,p,x⟩:=lst_at R e
   refine len_list p.isList (by rw [List.size_toArray,x.len]; lia) (G.here R h.2 ⟨s.toks + 1,by rw [List.size_toArray,x.len]⟩ _)
  ·obtain ⟨us,p,x⟩:=R.obj _ _ e
   refine len_list p (by rw [List.size_toArray,x.length]; lia) (G.here R h.2 ⟨s.toks + 1,by rw [List.size_toArray,x.length]⟩ _)
  ·obtain ⟨es,ep,p,x⟩:=dct_at R e
   refine len_dict (M.low R e rfl) p (by rw [x.size]; lia) fun t tk=>G.here R h.2 ⟨t,?_⟩ tk
   rw [x.size]
 | list =>
  obtain ⟨a,rfl,h⟩:=l1M_inv h
  obtain ⟨v,rfl,hx⟩:=hv.one_inv
  rcases refE_inv h with ⟨i,rfl,h⟩ | h
  ·obtain ⟨hi,rfl⟩:=hx
   rcases objM_inv h with ⟨l,e,h⟩ | ⟨l,e,h⟩ | ⟨d,e,h⟩
   ·obtain ⟨us,⟨c,p⟩,x⟩:=lst_at R e
    exact call_list_seq _ (.inl rfl) p rfl rfl (fun h' c' k ho=>G.list R (none_at_size _) k ho (x.mono (TK.of_keep k) (Nat.le_refl _) fun _ _=>rfl) h.2 s.toks) (by rw [List.size_toArray,x.len,szLine]; lia)
   ·exact h.elim
   ·obtain ⟨es,ep,p,x⟩:=dct_at R e
    refine kdl_call (srcDict (prog:=prog) (w:=w) (M.low R e rfl)) M.calm p (by rw [x.size,szLine]; have:=h.1; rw [List.length_map] at this; lia) fun h' tk acc c' k ho hacc=>?_
    have hl:acc.toList.length=es.size:=by rw [Array.length_toList]; exact hacc.1
    have kv:VL ρ st.length s.heap (d.map (·.1)) acc.toList:=keys_VL x hl fun j v e=>hacc.2 j v (by rw [← Array.getElem?_toList]; exact e)
    exact G.list R (none_at_size _) k (by rw [Array.toArray_toList]; exact ho) (kv.mono (TK.of_keep k) (Nat.le_refl _) fun _ _=>rfl) h.2 tk
  ·refine Classical.byContradiction fun ng=>?_
   obtain ⟨l,e,h⟩:=oK_inv h
   obtain ⟨t,us,rfl,⟨o,ho,hc,m,hd⟩,x⟩:=toL_val e hx
   refine ng ?_
   exact call_list_seq _ (.inr rfl) ho hc hd (fun h' c' k ho=>G.list R (none_at_size _) k ho (x.mono (TK.of_keep k) (Nat.le_refl _) fun _ _=>rfl) h.2 s.toks) (by rw [List.size_toArray,x.len,szLine]; lia)
 | sorted =>
  refine Classical.byContradiction fun ng=>?_
  obtain ⟨a,rfl,h⟩:=l1M_inv h
  obtain ⟨i,rfl,d,r,e,hz,hr,h⟩:=refM_inv h
  obtain ⟨v,rfl,hi,rfl⟩:=hv.one_inv
  obtain ⟨es,ep,p,x⟩:=dct_at R e
  refine ng ?_
  exact sorted_dict M.calm (M.low R e rfl) hC p x (by lia) hr fun h' tk D us c' k hD ho vr=>G.list R hD k ho vr h tk
 | sum =>
  refine Classical.byContradiction fun ng=>?_
  obtain ⟨a,rfl,h⟩:=l1M_inv h
  obtain ⟨i,rfl,l,m,e,hs,_,_,h⟩:=refM_inv h
  obtain ⟨v,rfl,hi,rfl⟩:=hv.one_inv
  obtain ⟨us,p,x⟩:=lst_at R e
  refine ng ?_
  exact sum_data M.calm p x hs fun h' tk t k=>G.grown R k h ⟨t,rfl⟩ tk
 | max =>
  refine Classical.byContradiction fun ng=>?_
  obtain ⟨a,b,rfl,h⟩:=l2M_inv h
  obtain ⟨x,rfl,h⟩:=intM_inv h
  obtain ⟨y,rfl,h⟩:=intM_inv h
  obtain ⟨u,v,rfl,⟨t,rfl⟩,⟨t',rfl⟩⟩:=hv.two_inv
  refine ng ?_
  refine max_two_ints M.calm fun h' tk k=>G.grown R k h ?_ tk
  by_cases c:y > x
  ·rw [if_pos c]; exact ⟨t',by rw [Int.max_eq_right (by lia)]⟩
  ·rw [if_neg c]; exact ⟨t,by rw [Int.max_eq_left (by lia)]⟩
 | int =>
  obtain ⟨a,rfl,h⟩:=l1M_inv h
  rcases ibM_inv h with ⟨x,rfl,h⟩ | ⟨b,rfl,h⟩
  ·obtain ⟨v,rfl,⟨t,rfl⟩⟩:=hv.one_inv
   exact call_int_int (G.here R h ⟨t,rfl⟩ s.toks)
  ·obtain ⟨v,rfl,hb⟩:=hv.one_inv
   obtain rfl:v=.bool _:=hb
   exact call_int_bool (G.here R h ⟨_,rfl⟩ _)
 | tuple =>
  refine Classical.byContradiction fun ng=>?_
  obtain ⟨a,rfl,h⟩:=l1M_inv h
  obtain ⟨i,rfl,l,e,hz,h⟩:=refM_inv h
  obtain ⟨v,rfl,hi,rfl⟩:=hv.one_inv
  obtain ⟨us,p,x⟩:=lst_at R e
  refine ng ?_
  refine call_tuple_list p.isList (fun h' k=>?_) (by rw [List.size_toArray,x.len,szLine]; lia)
  have k':∀ b o,s.heap.get? b=some o→(h'.push { cls:=.type "tuple",data:=.seq us.toArray }).get? b=some o:=fun b o e=>Heap.get?_push_of_some _ (k b o e)
  exact G.grown R k' h (ofL_val (x.mono (TK.of_keep k') (Nat.le_refl _) fun _ _=>rfl) ⟨_,Heap.get?_push_size _ rfl,rfl,_,rfl⟩) s.toks
 | dict =>
  refine Classical.byContradiction fun ng=>?_
  obtain ⟨a,rfl,h⟩:=l1M_inv h
  obtain ⟨i,rfl,l,d,e,hz,hm,h⟩:=refM_inv h
  obtain ⟨v,rfl,hi,rfl⟩:=hv.one_inv
  obtain ⟨us,p,x⟩:=lst_at R e
  refine ng ?_
  exact dict_of_list M.calm (by lia) p x.len x.get hm (by lia) fun h' tk es ep k ho hE=>G.dict R (none_at_size _) k ho hE h tk
structure NOk (N:MN):Prop where
 append:T N.append="append"
 extend:T N.extend="extend"
 pop:T N.pop="pop"
 get:T N.get="get"
 setdefault:T N.setdefault="setdefault"
 init:T N.init="__init__"
noncomputable def lstId (N:MN) (f:Nat):String:=if f=N.append then "list.append" else if f=N.extend then "list.extend" else "list.pop"
noncomputable def dctId (N:MN) (f:Nat):String:=if f=N.get then "dict.get" else "dict.setdefault"
theorem beq_if {a b:Nat} {x y:Prop} (h:bif Nat.beq a b then x else y):(a=b∧x)∨(a≠b∧y):=by
 cases q:Nat.beq a b with
 | true=>rw [q] at h; exact .inl ⟨Nat.eq_of_beq_eq_true q,h⟩
 | false=>rw [q] at h; exact .inr ⟨Nat.ne_of_beq_eq_false q,h⟩
theorem lst_method (hN:NOk N) {f:Nat} {v:Addr} {Q:Value×List Value→Shared→Prop} {pl:Sem Bool} (hf:isLM N f=true) (hl:∃ vs,s.heap.PlainList v vs) (h:Q (.builtin (lstId N f),[.ref v]) s) :
  wpAny (model prog w) A (getMethod (.ref v) (T f) pl) Q E s:=by
 obtain ⟨vs,c,ho⟩:=hl
 have hT:s.TypeIs (.ref v) "list":=⟨_,ho,rfl⟩
 have hd:∀ a,(Value.ref v)=.ref a→∃ ob,s.heap.get? a=some ob∧ob.dict=none:=fun a e=>by cases e; exact ⟨_,ho,rfl⟩
 unfold lstId at h
 by_cases h1:f=N.append
 ·rw [if_pos h1] at h; subst h1; rw [hN.append]
  exact getMethod_builtin hT F.plainAttrs_list slot_list_append (by rfl) hd h
 ·rw [if_neg h1] at h
  by_cases h2:f=N.extend
  ·rw [if_pos h2] at h; subst h2; rw [hN.extend]
   exact getMethod_builtin hT F.plainAttrs_list F.slot_list_extend (by rfl) hd h
  ·rw [if_neg h2] at h
   have h3:f=N.pop:=by
    simp only [isLM,Bool.or_eq_true] at hf
    rcases hf with (hf | hf) | hf
    ·exact absurd (Nat.eq_of_beq_eq_true hf) h1
    ·exact absurd (Nat.eq_of_beq_eq_true hf) h2
    ·exact Nat.eq_of_beq_eq_true hf
   subst h3; rw [hN.pop]
   exact getMethod_builtin hT F.plainAttrs_list F.slot_list_pop (by rfl) hd h
theorem dct_method (hN:NOk N) {f:Nat} {v:Addr} {Q:Value×List Value→Shared→Prop} {pl:Sem Bool} (hf:isDM N f=true) (hl:Ex2 fun es ep=>DAt s.heap v es ep) (h:Q (.builtin (dctId N f),[.ref v]) s) :
  wpAny (model prog w) A (getMethod (.ref v) (T f) pl) Q E s:=by
 obtain ⟨es,ep,ho⟩:=hl
 have hT:=dobj_typeIs ho
 have hd:∀ a,(Value.ref v)=.ref a→∃ ob,s.heap.get? a=some ob∧ob.dict=none:=fun a e=>by cases e; exact ⟨_,ho,rfl⟩
 unfold dctId at h
 by_cases h1:f=N.get
 ·rw [if_pos h1] at h; subst h1; rw [hN.get]
  exact getMethod_builtin hT F.plainAttrs_dict F.slot_dict_get (by rfl) hd h
 ·rw [if_neg h1] at h
  have h3:f=N.setdefault:=by
   simp only [isDM,Bool.or_eq_true] at hf
   rcases hf with hf | hf
   ·exact absurd (Nat.eq_of_beq_eq_true hf) h1
   ·exact Nat.eq_of_beq_eq_true hf
  subst h3; rw [hN.setdefault]
  exact getMethod_builtin hT F.plainAttrs_dict F.slot_dict_setdefault (by rfl) hd h
end
end Mine
namespace Mine
section
set_option maxRecDepth 100000
open PySem PySem.W PyProof.Rows PySem.Calls
variable {prog:PySem.Program} {w:World} {cl:Nat→Addr} {B:Heap} {A:Around} {E:Value→Shared→Prop} {s:Shared} {ρ ρ':Nat→Addr} {st st':Store} {h':Heap} {n:Nat} {N:MN}
theorem kput_ge (l:List (AV×AV)) (k v:AV):l.length≤(kput l k v).length:=by
 induction l with
 | nil=>simp [kput_n,kput_c]
 | cons q t iht=>obtain ⟨a,b⟩:=q; rw [kput_c]; split <;> simp <;> lia
theorem lstF_sound (R:Rel w cl B ρ st s.heap) {f i:Nat} {l:List AV} {vs:List Value} {Q:AV→Store→Prop} {P:Value→Shared→Prop} (hv:VL ρ st.length s.heap l vs)
  (h:lstF N f i st l Q) (G:Goal w cl B ρ st s Q P):wpAny (model prog w) A (call (.builtin (lstId N f)) (.ref (ρ i) :: vs)) P E s:=by
 unfold lstF at h
 unfold lstId
 rcases beq_if h with ⟨h1,h⟩ | ⟨h1,h⟩
 ·rw [if_pos h1]
  obtain ⟨xs,v,e,rfl,hz,q⟩:=h
  obtain ⟨u,rfl,hu⟩:=hv.one_inv
  obtain ⟨us,p,x⟩:=lst_at R e
  refine wpAny_list_append_plain p (fun h' p' hs=>?_) (by rw [List.size_toArray,x.len,szLine]; lia)
  obtain ⟨R',S'⟩:=R.set (ao':=.lst (xs++[v])) e rfl rfl (fun b o hb he=>(hs.2 b hb).trans he) (fun tk=>⟨us++[u],by simpa using p',(x.mono tk (Nat.le_refl _) fun _ _=>rfl).append (.cons (hu.tk tk) .nil)⟩) fun kvs e=>by cases e
  exact G _ _ ρ h' s.toks _ q R' S' rfl
 ·rw [if_neg h1]
  rcases beq_if h with ⟨h2,h⟩ | ⟨h2,h⟩
  ·rw [if_pos h2]
   obtain ⟨xs,j,ys,e,rfl,e2,hne,hz,q⟩:=h
   obtain ⟨u,rfl,hu⟩:=hv.one_inv
   obtain ⟨hj,rfl⟩:=hu
   obtain ⟨us,p,x⟩:=lst_at R e
   obtain ⟨us2,p2,x2⟩:=lst_at R e2
   refine list_extend p p2 (by rw [x.len,x2.len]; lia) fun h' p' hs=>?_
   obtain ⟨R',S'⟩:=R.set (ao':=.lst (xs++ys)) e rfl rfl (fun b o hb he=>(hs.2 b hb).trans he) (fun tk=>⟨us++us2,p',(x.mono tk (Nat.le_refl _) fun _ _=>rfl).append (x2.mono tk (Nat.le_refl _) fun _ _=>rfl)⟩) fun kvs e=>by cases e
   exact G _ _ ρ h' s.toks _ q R' S' rfl
  ·rw [if_neg h2]
   rcases beq_if h with ⟨h3,h⟩ | ⟨h3,h⟩
   ·obtain ⟨xs,v,e,rfl,hz,q⟩:=h
    obtain rfl:=hv.nil_inv
    obtain ⟨us,p,x⟩:=lst_at R e
    obtain ⟨us1,ws,rfl,x1,x2⟩:=x.split
    obtain ⟨u,rfl,hu⟩:=x2.one_inv
    refine list_pop p (by rw [x1.len]; lia) fun h' p' hs=>?_
    have tk:TK s.heap h':=TK.but (W:=fun b=>b=ρ i) (fun b o hb he=>(hs.2 b hb).trans he) fun b o hb he=>by
     subst hb
     obtain ⟨c,pc⟩:=p
     rw [pc] at he; cases he; show Value.type "list"≠Value.type "tuple"; decide
    obtain ⟨R',S'⟩:=R.set (ao':=.lst xs) e rfl rfl (fun b o hb he=>(hs.2 b hb).trans he) (fun tk=>⟨us1,p',x1.mono tk (Nat.le_refl _) fun _ _=>rfl⟩) fun kvs e=>by cases e
    exact G _ _ ρ h' s.toks _ q R' S' (hu.step S')
   ·exact h.elim
theorem dctF_sound (M:Room A B) (R:Rel w cl B ρ st s.heap) {f i:Nat} {l:List AV} {vs:List Value} {Q:AV→Store→Prop} {P:Value→Shared→Prop} (hv:VL ρ st.length s.heap l vs)
  (h:dctF N f i st l Q) (G:Goal w cl B ρ st s Q P):wpAny (model prog w) A (call (.builtin (dctId N f)) (.ref (ρ i) :: vs)) P E s:=by
 have hu:=M.units
 obtain ⟨d,e,h⟩:=h
 obtain ⟨es,ep,p,x⟩:=dct_at R e
 have hT:=dobj_typeIs p
 have lo:=M.low R e rfl
 unfold dctId
 rcases beq_if h with ⟨h1,h⟩ | ⟨h1,h⟩
 ·rw [if_pos h1]
  rcases l12M_inv h with ⟨k,v,rfl,h⟩ | ⟨k,rfl,h⟩
  ·obtain ⟨key,u,rfl,hk,hx⟩:=hv.two_inv
   refine wpAny_call_entry F.slot_dict_get hT F.entry_dict_get (get_tree2 (A:=A.in1) (by show A.units + 1 + 30 < cLine; lia) lo h.1 hk p x (fun tk e0=>⟨_,rfl,?_⟩) fun tk v' u' e1 z=>⟨_,rfl,?_⟩) (F.args_dict_get_3 _ _ _)
   ·exact G.here R (by have:=h.2; rw [e0] at this; exact this) hx tk
   ·exact G.here R (by have:=h.2; rw [e1] at this; exact this) z tk
  ·obtain ⟨key,rfl,hk⟩:=hv.one_inv
   refine wpAny_call_entry F.slot_dict_get hT F.entry_dict_get (get_tree1 (A:=A.in1) (by show A.units + 1 + 30 < cLine; lia) lo h.1 hk p x (fun tk e0=>⟨_,rfl,?_⟩) fun tk v' u' e1 z=>⟨_,rfl,?_⟩) (F.args_dict_get_2 _ _)
   ·exact G.here R (a:=.none) (by have:=h.2; rw [e0] at this; exact this) rfl tk
   ·exact G.here R (by have:=h.2; rw [e1] at this; exact this) z tk
 ·rw [if_neg h1]
  rcases beq_if h with ⟨h2,h⟩ | ⟨h2,h⟩
  ·obtain ⟨k,v,rfl,h⟩:=l2M_inv h
   ·obtain ⟨key,u,rfl,hk,hx⟩:=hv.two_inv
    refine wpAny_call_entry F.slot_dict_setdefault hT F.entry_dict_setdefault ?_ (F.args_dict_setdefault_3 _ _ _)
    unfold Builtin.«dict.setdefault»
    refine wpAny_bind ?_
    unfold Builtin.Dict.keyAndDefault
    refine wpAny_bind (wpAny_notOrdered_dict hT ?_)
    show wpAny _ _ (pure (ρ i,key,some u)) _ _ s
    refine wpAny_pure ?_
    show wpAny _ _ (if (ρ i == sysModules)=true then _ else (dictSetDefault (ρ i) key u >>= _)) _ _ s
    rw [if_neg (by rw [lo]; exact Bool.false_ne_true)]
    refine wpAny_bind (dictSetDefault_data (by show A.units + 1 + 20 < cLine; lia) h.1 hk p x (by rw [szLine]; lia) (fun tk v' u' e1 z=>wpAny_pure ⟨_,rfl,?_⟩) fun h' tk es' ep' e0 hs hd pr=>wpAny_pure ⟨_,rfl,?_⟩)
    ·exact G.here R (by have:=h.2.2; rw [e1] at this; exact this) z tk
    ·have q:=h.2.2
     rw [e0] at q
     obtain ⟨R',S'⟩:=R.set (ao':=.dct (kput d k v)) e rfl rfl (fun b o hb he=>(hs.2 b hb).trans he) (fun tk=>⟨es',ep',hd,x.put h.1 (fun _ _ z=>z.tk tk) (hk.tk tk) (hx.tk tk) pr⟩) fun kvs e'=>by
      cases e'
      refine ⟨_,rfl,kput_ge d k v,fun hl es1 ep1 es2 ep2 a b=>?_⟩
      rcases pr with ⟨hno,rfl⟩ | ⟨j,z,hj,rfl,he⟩
      ·rw [kput_new hno] at hl; simp at hl
      ·have a':=a.symm.trans p; have b':=b.symm.trans hd
       injection a' with a'; injection a' with _ _ a' _; injection a' with _ a'
       injection b' with b'; injection b' with _ _ b' _; injection b' with _ b'
       rw [b',a',he]
     exact G _ _ ρ h' tk _ q R' S' (hx.step S')
  ·exact h.elim
end
end Mine
namespace Mine
section
set_option maxRecDepth 100000
open PySem PySem.W PyProof.Rows PySem.Calls
variable {prog:PySem.Program} {w:World} {cl:Nat→Addr} {B:Heap} {A:Around} {E:Value→Shared→Prop} {s:Shared} {ρ ρ':Nat→Addr} {st st':Store} {h':Heap} {n:Nat} {N:MN} {K:Frag}
structure KOk (K:Frag) (cl:Nat→Addr):Prop where
 ga:∀ c,isK c=true→findIn K (.ref (cl c)) "__getattribute__"=some (some (.builtin "object.__getattribute__"))
 gt:∀ c,isK c=true→findIn K (.ref (cl c)) "__getattr__"=some none
 sa:∀ c,isK c=true→findIn K (.ref (cl c)) "__setattr__"=some (some (.builtin "object.__setattr__"))
 hd:∀ c,isK c=true→hasDictIn K (cl c)=true
 po:∀ c,isK c=true→plainOver K (cl c)=true
 atr:∀ c x,isK c=true→attrOk x=true→findIn K (.ref (cl c)) (T x)=some none
theorem lookIn_ns {h:Heap} {a:Addr} {m:Str→Option Value} (hn:h.Ns a m):∃ o,h.get? a=some o∧∀ x,lookIn x o=some (m x):=by
 refine Classical.byContradiction fun ng=>?_
 obtain ⟨o,es,ep,ho,hd,hk,hm⟩:=hn
 refine ng ?_
 refine ⟨o,ho,fun x=>?_⟩
 unfold lookIn
 rw [hd]
 dsimp only
 have hr:es.toList.any (·.refKey)=false:=by
  rw [List.any_eq_false]
  intro e he
  obtain ⟨k,t,hk⟩:=hk e (Array.mem_toList_iff.mp he)
  simp [DictEntry.refKey,hk]
 rw [← hm x]
 unfold nsFind findBy
 rw [← Array.find?_toList]
 cases q:es.toList.find? (fun e=>e.key.isStr x) with
 | some e=>rfl
 | none=>simp [hr]
theorem val_handed {h:Heap} {a:AV} {v:Value} (x:Val ρ n h a v):handedIn v=true:=by
 cases a with
 | none=>obtain rfl:v=.none:=x; rfl
 | bool b=>obtain rfl:v=.bool b:=x; rfl
 | int i=>obtain ⟨t,rfl⟩:=x; rfl
 | str i=>obtain ⟨t,rfl⟩:=x; rfl
 | nil=>obtain ⟨p,vs,rfl,_⟩:=x; rfl
 | cons _ _=>obtain ⟨p,vs,rfl,_⟩:=x; rfl
 | ref i=>obtain ⟨_,rfl⟩:=x; rfl
theorem inst_at (R:Rel w cl B ρ st s.heap) {i c d:Nat} {fs:Loc} (e:st[i]?=some (.ins c d)) (e2:st[d]?=some (.ns fs)):isK c=true∧d < st.length∧Ex2 fun m o=>And5 (NsK s.heap (ρ d) m fs.length) (NsOk ρ st.length s.heap m fs) (s.heap.get? (ρ d)=some o) (∀ x,lookIn x o=some (m x)) (InstAt s.heap (ρ i) (instObj (cl c) (ρ d)) (cl c) (some o)):=by
 refine Classical.byContradiction fun ng=>?_
 obtain ⟨⟨hd,hk⟩,ho⟩:=R.obj i _ e
 obtain ⟨m,hn,hx⟩:=R.obj d _ e2
 obtain ⟨o,hq,hl⟩:=lookIn_ns hn.ns
 refine ng ?_
 exact ⟨hk,hd,m,o,hn,hx,hq,hl,ho,rfl,rfl,hq⟩
theorem get_sound (F:KOk K cl) (X:K.In s.heap) (R:Rel w cl B ρ st s.heap) {a v:AV} {x:Nat} {u:Value} {expr:Bool} {Q:AV→Store→Prop} {P:Value→Shared→Prop} (ha:Val ρ st.length s.heap a u) (hx:attrOk x=true)
  (h:getA st a x=some v) (q:Q v st) (G:Goal w cl B ρ st s Q P):wpAny (model prog w) A (getAttr u (T x) expr) P E s:=by
 refine Classical.byContradiction fun ng=>?_
 obtain ⟨i,rfl,h⟩:=refO_inv h
 obtain ⟨c,d,e,h⟩:=insO_inv h
 obtain ⟨fs,e2,h⟩:=nsO_inv h
 obtain ⟨hi,rfl⟩:=ha
 obtain ⟨hk,hd,m,o,hn,ok,ho,hl,I⟩:=inst_at R e e2
 obtain ⟨u,e3,hv⟩:=(ok x).1 v h
 refine ng ?_
 exact get_value X I (F.ga c hk) (findObj_own (F.hd c hk) (F.atr c x hk hx) rfl (by rw [hl,e3])) (val_handed hv) (G.here R q hv _)
theorem nsSet_K {M:Model} {a:Addr} {m:Str→Option Value} {k:Nat} {name:Str} {v:Value} {Q:Unit→Shared→Prop} (hn:NsK s.heap a m k)
  (h:∀ h',NsK h' a (fun x=>if x=name then some v else m x) (if (m name).isSome then k else k + 1)→Heap.SameBut a s.heap h'→Q () { s with heap:=h',toks:=s.toks + 1 }):wpAny M A (nsSet a name v) Q E s:=by
 refine Classical.byContradiction fun ng=>?_
 obtain ⟨o,es,ep,ho,hd,hk,hm,hz⟩:=hn
 refine ng ?_
 intro Γ p _
 simp only [nsSet,strHash,Sem.wp_bind',Sem.wp_cmd_ask,Sem.wp_pure',Sem.wp_cmd_mkText]
 rw [Sem.wp_loadPart_of M Γ _ p { s with toks:=s.toks + 1 } (o:=o) _ ho]
 have hany:es.any (·.refKey)=false:=by
  rw [Array.any_eq_false']; intro e he; obtain ⟨n,t,h⟩:=hk e he; simp [DictEntry.refKey,h]
 simp only [hd,aRefKeyMayBeTheName_eq,aRefKeyMayBeTheNameByArray,hany,Bool.and_false,Bool.false_eq_true,if_false,Sem.wp_cmd_updatePart]
 refine ⟨by rw [ho]; rfl,h _ ?_ (Heap.SameBut.update ..)⟩
 obtain ⟨c,d,dt,sl⟩:=o
 subst hd
 cases hi:es.findIdx? (·.key.isStr name) with
 | some i =>
  have there:(m name).isSome=true:=by
   rw [← hm name]
   unfold nsFind
   rw [findBy_of_findIdx?,hi]
   have:i < es.size:=by
    have:=Array.findIdx?_eq_some_iff_findIdx_eq.mp hi
    exact this.1
   simp [this]
  rw [there,if_pos rfl]
  refine ⟨_,_,ep,Heap.get?_update_self _ ho (by simp only [Obj.putName_eq,Obj.putNameByArray,hi]; rfl),by simp only [Obj.putName_eq,Obj.putNameByArray,hi]; rfl,hk.modify _ _,fun x=>?_,by rw [Array.size_modify]; exact hz⟩
  show _=if x=name then some v else m x
  rw [← hm]; exact findBy_modify (fun n v=>v.isStr n) Value.isStr_inj es name x v i hi
 | none =>
  have gone:(m name).isSome=false:=by
   rw [← hm name]
   unfold nsFind
   rw [findBy_of_findIdx?,hi]; rfl
  rw [gone,if_neg Bool.false_ne_true]
  refine ⟨_,_,ep + 1,Heap.get?_update_self _ ho (by simp only [Obj.putName_eq,Obj.putNameByArray,hi]; rfl),by simp only [Obj.putName_eq,Obj.putNameByArray,hi]; rfl,hk.push _ _ _ _,fun x=>?_,by rw [Array.size_push]; lia⟩
  show _=if x=name then some v else m x
  rw [← hm]
  exact findBy_push (fun n v=>v.isStr n) es name x _ _ v (fun y=>by
   show (name == y)=decide (y=name)
   by_cases e:y=name
   ·rw [e]; simp
   ·have e':name≠y:=fun q=>e q.symm
    simp [e,e']) hi
theorem osa_ns (X:K.In s.heap) {a dx C:Addr} {o:Obj} {m:Str→Option Value} {k:Nat} {name:Str} {v:Value} {tk:Tok} {ox:Obj} {R:Result→Shared→Prop} (I:InstAt s.heap a ox C (some o)) (hd:ox.dict=some dx) (hn:NsK s.heap dx m k) (hz:k < 1000)
  (hp:plainOver K C=true) (ht:takerIn K C name=some none) (hh:hasDictIn K C=true)
  (h:∀ h',NsK h' dx (fun y=>if y=name then some v else m y) (if (m name).isSome then k else k + 1)→Heap.SameBut dx s.heap h'→R (.ok (.ret .none)) { s with heap:=h',toks:=s.toks + 1 }) :
  codeAny (model prog w) A (.call (.builtin "object.__setattr__") ⟨[.ref a,.str name tk,v],[]⟩) R s:=by
 refine osa_open X I hp ht fun b=>?_
 refine Classical.byContradiction fun ng=>?_
 obtain ⟨cd,hc,hd'⟩:=any_some hh
 obtain ⟨hx,hcl,hno,-⟩:=I
 obtain ⟨oc,odi,oda,osl⟩:=ox
 refine ng ?_
 dsimp only at hcl hd
 subst hcl hd
 refine wpAny_bind (wpAny_pure (wpAny_bind (wpAny_bind (wpAny_loadPart hx (wpAny_bind ((looks_clsIn X hc).here ?_))))))
 rw [hd']
 refine wpAny_pure (a:=some dx) (wpAny_bind (wpAny_pure (wpAny_bind ?_)))
 refine nsSet_K hn fun h' hn' hs'=>?_
 refine Classical.byContradiction fun ng=>?_
 obtain ⟨o',es',ep',ho',hd',_,_,hz'⟩:=id hn'
 refine ng ?_
 refine wpAny_bind (wpAny_lookBehind ho' (by rw [hd']; exact pastItsLine_dict (by rw [szLine]; split at hz' <;> lia)) (wpAny_pure (h h' hn' hs')))
theorem set_ns (F:KOk K cl) (X:K.In s.heap) {a dx:Addr} {c k:Nat} {o:Obj} {m:Str→Option Value} {x:Nat} {v:Value} {ox:Obj} {Q:Unit→Shared→Prop} (I:InstAt s.heap a ox (cl c) (some o)) (hdx:ox.dict=some dx) (hn:NsK s.heap dx m k) (hz:k < 1000) (hk:isK c=true) (hx:attrOk x=true)
  (h:∀ h' tk,NsK h' dx (fun y=>if y=T x then some v else m y) (if (m (T x)).isSome then k else k + 1)→Heap.SameBut dx s.heap h'→Q () { s with heap:=h',toks:=tk }):wpAny (model prog w) A (setAttr (.ref a) (T x) v) Q E s:=by
 have ht:takerIn K (cl c) (T x)=some none:=by unfold takerIn; rw [F.atr c x hk hx]; rfl
 exact set_plain X I (F.sa c hk) (osa_ns (s:={ s with toks:=s.toks + 1 }) X I hdx hn hz (F.po c hk) ht (F.hd c hk) fun h' hn' hs'=>h h' _ hn' hs')
theorem put_len (fs:Loc) (x:Nat) (v:AV):(put fs x v).length=if (get fs x).isSome then fs.length else fs.length + 1:=by
 induction fs with
 | nil=>rfl
 | cons p r ih =>
  obtain ⟨y,u⟩:=p
  simp only [put_n,put_c,get_n,get_c]
  by_cases q:Nat.beq y x=true
  ·simp [q]
  ·rw [Bool.not_eq_true] at q
   simp only [q,cond_false,List.length_cons,ih]
   by_cases z:(get r x).isSome=true
   ·rw [if_pos z,if_pos z]
   ·rw [if_neg z,if_neg z]
theorem set_sound (F:KOk K cl) (X:K.In s.heap) (R:Rel w cl B ρ st s.heap) {a v:AV} {x:Nat} {u y:Value} {Q:Unit→Shared→Prop} (ha:Val ρ st.length s.heap a u) (hv:Val ρ st.length s.heap v y) (hx:attrOk x=true) (h:setA st a x v=some st')
  (hQ:∀ h' tk,Rel w cl B ρ st' h'→Step no ρ st s.heap ρ st' h'→Q () { s with heap:=h',toks:=tk }):wpAny (model prog w) A (setAttr u (T x) y) Q E s:=by
 refine Classical.byContradiction fun ng=>?_
 obtain ⟨i,rfl,h⟩:=refO_inv h
 obtain ⟨c,d,e,h⟩:=insO_inv h
 obtain ⟨fs,e2,h⟩:=nsO_inv h
 obtain ⟨hz,h⟩:=if_some h
 refine ng ?_
 cases h
 refine Classical.byContradiction fun ng=>?_
 obtain ⟨hi,rfl⟩:=ha
 obtain ⟨hk,hd,m,o,hn,ok,ho,hl,I⟩:=inst_at R e e2
 refine ng ?_
 refine set_ns F X I rfl hn hz hk hx fun h' tk hn' hs'=>?_
 have O:TK s.heap h'→OAt w cl h' ρ st.length d (.ns (put fs x v)):=fun tk=>by
  have same:(m (T x)).isSome=(get fs x).isSome:=by
   cases q:get fs x with
   | none=>rw [(ok x).2 q]; rfl
   | some v'=>obtain ⟨u',e',_⟩:=(ok x).1 v' q; rw [e']; rfl
  have key:NsK h' (ρ d) (fun z=>if z=T x then some y else m z) (put fs x v).length:=by rw [put_len,← same]; exact hn'
  refine ⟨_,key,fun z=>⟨fun v' g=>?_,fun g=>?_⟩⟩
  ·rw [get_put] at g
   by_cases q:x=z
   ·subst q; rw [if_pos rfl] at g; cases g
    exact ⟨y,if_pos rfl,hv.tk tk⟩
   ·rw [if_neg q] at g
    obtain ⟨u',e',z'⟩:=(ok z).1 v' g
    exact ⟨u',(if_neg fun q'=>q (T_inj q').symm).trans e',z'.tk tk⟩
  ·rw [get_put] at g
   by_cases q:x=z
   ·subst q; rw [if_pos rfl] at g; cases g
   ·rw [if_neg q] at g
    exact (if_neg fun q'=>q (T_inj q').symm).trans ((ok z).2 g)
 obtain ⟨R',S'⟩:=R.set (ao':=.ns (put fs x v)) e2 rfl rfl (fun b o hb he=>(hs'.2 b hb).trans he) O fun kvs e=>by cases e
 exact hQ h' tk R' S'
theorem VL.set_ {h:Heap} {xs:List AV} {vs:List Value} (x:VL ρ n h xs vs) {a:AV} {v:Value} (hv:Val ρ n h a v):∀ {j:Nat},VL ρ n h (xs.set j a) (vs.set j v):=by
 induction x with
 | nil=>intro j; exact .nil
 | cons hu r ih=>intro j; cases j with
  | zero=>exact .cons hv r
  | succ j=>exact .cons hu ih
theorem setItem_plain {l:Addr} {items:Array Value} {c:Nat} {k:Int} {t:Tok} {v:Value} {Q:Unit→Shared→Prop} (ho:s.heap.get? l=some (seqObj "list" items c))
  (h0:0≤k) (hfit:k < 2 ^ 62) (hn:k < items.size) (hQ:∀ h',h'.PlainList l (items.setIfInBounds k.toNat v)→Heap.SameBut l s.heap h'→Q () { s with heap:=h' }) :
  wpAny (model prog w) A (setItem (.ref l) (.int k t) v) Q E s:=by
 refine ki_setAt ho h0 (by lia) hn (hQ _ ?_ (Heap.SameBut.update ..))
 obtain ⟨c2,e2⟩:∃ c2,(Obj.mapSeq (fun x=>x.setIfInBounds k.toNat v) (seqObj "list" items c))=seqObj "list" (items.setIfInBounds k.toNat v) c2:=⟨_,rfl⟩
 exact ⟨c2,(Heap.get?_update_self _ ho rfl).trans (congrArg some e2)⟩
theorem setI_sound (M:Room A B) (R:Rel w cl B ρ st s.heap) {a k v:AV} {u key y:Value} {Q:Unit→Shared→Prop} (ha:Val ρ st.length s.heap a u) (hk:Val ρ st.length s.heap k key) (hv:Val ρ st.length s.heap v y) (h:setI st a k v=some st')
  (hQ:∀ h' tk,Rel w cl B ρ st' h'→Step no ρ st s.heap ρ st' h'→Q () { s with heap:=h',toks:=tk }):wpAny (model prog w) A (setItem u key y) Q E s:=by
 have hu:=M.units
 obtain ⟨i,rfl,h⟩:=refO_inv h
 obtain ⟨hi,rfl⟩:=ha
 rcases objO_inv h with ⟨l,e,h⟩ | ⟨l,e,h⟩ | ⟨d,e,h⟩
 ·obtain ⟨j,rfl,h⟩:=intO_inv h
  obtain ⟨hc,h⟩:=if_some h
  cases h
  obtain ⟨t,rfl⟩:=hk
  obtain ⟨vs,p,x⟩:=lst_at R e
  obtain ⟨c,ho⟩:=p
  have hj:j < (vs.toArray.size:Int):=by rw [List.size_toArray,x.len]; exact hc.2.1
  refine setItem_plain ho hc.1 (by lia) hj fun h' p' hs=>?_
  obtain ⟨R',S'⟩:=R.set (ao':=.lst (l.set j.toNat v)) e rfl rfl (fun b o hb he=>(hs.2 b hb).trans he) (fun tk=>⟨vs.set j.toNat y,by simpa using p',VL.set_ (x.mono tk (Nat.le_refl _) fun _ _=>rfl) (hv.tk tk)⟩) fun kvs e'=>by cases e'
  exact hQ h' s.toks R' S'
 ·exact none_ne h
 ·obtain ⟨hc,h⟩:=if_some h
  cases h
  obtain ⟨es,ep,p,x⟩:=dct_at R e
  refine setItem_dict (by lia) hc.1 hk p x (by rw [szLine]; lia) fun h' tk es' ep' hs hd pr=>?_
  obtain ⟨R',S'⟩:=R.set (ao':=.dct (kput d k v)) e rfl rfl (fun b o hb he=>(hs.2 b hb).trans he) (fun tk=>⟨es',ep',hd,x.put hc.1 (fun _ _ z=>z.tk tk) (hk.tk tk) (hv.tk tk) pr⟩) fun kvs e'=>by
   cases e'
   refine ⟨_,rfl,kput_ge d k v,fun hl es1 ep1 es2 ep2 a b=>?_⟩
   rcases pr with ⟨hno,rfl⟩ | ⟨j,z,hj,rfl,he⟩
   ·rw [kput_new hno] at hl; simp at hl
   ·have a':=a.symm.trans p; have b':=b.symm.trans hd
    injection a' with a'; injection a' with _ _ a' _; injection a' with _ a'
    injection b' with b'; injection b' with _ _ b' _; injection b' with _ b'
    rw [b',a',he]
  exact hQ h' tk R' S'
end
end Mine
namespace Mine
section
set_option maxRecDepth 100000
open PySem PySem.W PyProof.Rows PySem.Calls
open AutoSeq1 (wpAny_loadPart')
variable {prog:PySem.Program} {w:World} {cl:Nat→Addr} {B:Heap} {A:Around} {E:Value→Shared→Prop} {s:Shared} {ρ ρ':Nat→Addr} {st st':Store} {h h':Heap} {n:Nat}
theorem nextOf_tuple_item {it t:Addr} {i:Nat} {items:Array Value} {x:Value} {Q:Value→Shared→Prop} (hit:s.heap.IsTupleIter it t i)
  (ht:s.heap.IsTuple t items) (hx:items[i]?=some x) (hQ:∀ h',h'.IsTupleIter it t (i + 1)→Heap.SameBut it s.heap h'→Q x { s with heap:=h' }) :
  wpAny (model prog w) A (Builtin.SmallTypes.nextOf (.ref it)) Q E s:=by
 refine Classical.byContradiction fun ng=>?_
 obtain ⟨o,ho,hc,hd⟩:=id hit
 obtain ⟨ol,hol,_,nl,hdl⟩:=ht
 refine ng ?_
 unfold Builtin.SmallTypes.nextOf
 refine wpAny_bind (wpAny_callSpecial?_slot (name:=Str.ofString "__next__") hit.typeIs F.slot_tuple_iterator_next
  (wpAny_call_entry F.slot_tuple_iterator_next hit.typeIs F.entry_tuple_iterator_next ?_ (F.args_tuple_iterator_next_1 _)))
 show wpAny _ _ (field (.ref it) 0 >>= _) _ _ s
 refine wpAny_bind (wpAny_field ho hd (x:=.ref t) rfl ?_)
 show wpAny _ _ (if (Value.ref t == Value.none)=true then _ else _) _ _ s
 rw [if_neg (show ¬ ((Value.ref t == Value.none)=true) from Bool.false_ne_true)]
 show wpAny _ _ (field (.ref it) 1 >>= _) _ _ s
 refine wpAny_bind (wpAny_field ho hd (x:=.int i 0) rfl ?_)
 show wpAny _ _ (seqItems? (.ref t) >>= _) _ _ s
 refine wpAny_bind (wpAny_seqItems hol hdl ?_)
 simp only [Int.toNat_natCast,hx]
 refine wpAny_bind (wpAny_setField ho hd (by simp) (wpAny_pure ⟨x,rfl,wpAny_pure (hQ _ ?_ (Heap.SameBut.update ..))⟩))
 exact ⟨_,Heap.get?_update_self _ ho (Obj.isFreed_of_fields (Obj.data_mapFields hd _)),(Obj.cls_mapFields ..).trans hc,by
  rw [Obj.data_mapFields hd]; simp [rawInt]⟩
theorem nextOf_tuple_end {it t:Addr} {i:Nat} {items:Array Value} {Q:Value→Shared→Prop} (hh:A.handled=none)
  (hit:s.heap.IsTupleIter it t i) (ht:s.heap.IsTuple t items) (hx:items[i]?=none)
  (hE:∀ h' e,Heap.ExtBut it s.heap h'→(∃ o,h'.get? e=some o∧o.cls=.type "StopIteration")→E (.ref e) { s with heap:=h' }) :
  wpAny (model prog w) A (Builtin.SmallTypes.nextOf (.ref it)) Q E s:=by
 refine Classical.byContradiction fun ng=>?_
 obtain ⟨o,ho,hc,hd⟩:=id hit
 obtain ⟨ol,hol,_,nl,hdl⟩:=ht
 refine ng ?_
 unfold Builtin.SmallTypes.nextOf
 refine wpAny_bind (wpAny_callSpecial?_slot (name:=Str.ofString "__next__") hit.typeIs F.slot_tuple_iterator_next
  (wpAny_call_entry F.slot_tuple_iterator_next hit.typeIs F.entry_tuple_iterator_next ?_ (F.args_tuple_iterator_next_1 _)))
 show wpAny _ _ (field (.ref it) 0 >>= _) _ _ s
 refine wpAny_bind (wpAny_field ho hd (x:=.ref t) rfl ?_)
 show wpAny _ _ (if (Value.ref t == Value.none)=true then _ else _) _ _ s
 rw [if_neg (show ¬ ((Value.ref t == Value.none)=true) from Bool.false_ne_true)]
 show wpAny _ _ (field (.ref it) 1 >>= _) _ _ s
 refine wpAny_bind (wpAny_field ho hd (x:=.int i 0) rfl ?_)
 show wpAny _ _ (seqItems? (.ref t) >>= _) _ _ s
 refine wpAny_bind (wpAny_seqItems hol hdl ?_)
 simp only [Int.toNat_natCast,hx]
 refine wpAny_bind (wpAny_rule (wpAny_bind (wpAny_setField ho hd (by simp) ?_)))
 show wpAny _ _ (newExc (.type "StopIteration") [] >>= _) _ _ _
 refine wpAny_bind ?_
 simp only [newExc,newTuple]
 refine wpAny_bind (wpAny_newObj_type ?_ (by size_fits))
 refine wpAny_bind (m:=firstArgMember _ _) (wpAny_of_eq (a:=Value.none) (by first | rfl | (simp only [firstArgMember]; rfl)) ?_)
 refine wpAny_newObj_type ?_ (by size_fits)
 simp only [raiseNew]
 refine wpAny_bind (wpAny_handled ?_)
 first | rw [show A.in1.handled=none from hh] | rw [hh]
 refine wpAny_bind (wpAny_pure (wpAny_throw ?_))
 exact hE _ _ (((Heap.SameBut.update ..).extBut.push _).push _) ⟨_,Heap.get?_push_size _ rfl,rfl⟩
theorem drawsTuple {A:Around} (hh:A.handled=none) (it l:Addr) (hne:l≠it) (items:Array Value) :
  Draws prog w A it [it,l] items.size (fun i v=>items[i]?=some v) (fun i h=>h.IsTupleIter it l i∧h.IsTuple l items) where
 live:=fun _ _ st=>let ⟨o,ho,_⟩:=st.1; ⟨o,ho⟩
 frame:=fun _ _ _ st hk=>⟨st.1.at fun o e=>hk it (by simp) o e,st.2.at fun o e=>hk l (by simp) o e⟩
 item:=fun i s Q E hi st hQ=>by
  refine nextOf_tuple_item st.1 st.2 (x:=items[i]) (by simp [hi]) fun h' hit' hs'=>?_
  exact hQ _ h' s.toks (by simp [hi]) ⟨hit',st.2.extBut hs'.extBut hne⟩ hs'
 done:=fun s Q E st hE=>nextOf_tuple_end hh st.1 st.2 (by simp) hE
theorem meets_enumerate_newT (l:Addr) (items:Array Value) (n:Nat) (dct:Option Addr) (sl:Array (Option Value)) :
  Meets (Builtin.«enumerate.__new__» ⟨[.type "enumerate",.ref l],[]⟩) (fun _ R s=>s.heap.get? l=some { cls:=.type "tuple",dict:=dct,data:=.seq items n,slots:=sl } ∧
   R (.ok (.ret (.ref (s.heap.push { cls:=.type "tuple_iterator",data:=.fields #[.ref l,.int 0 0] }).objs.size)))
    { s with heap:=(s.heap.push { cls:=.type "tuple_iterator",data:=.fields #[.ref l,.int 0 0] }).push { cls:=.type "enumerate",data:=.fields #[.none,.bool false,.ref s.heap.objs.size,rawInt 0,.none,.none] } }) :=
 .of_wp fun prog w A R s h=>by
  refine Classical.byContradiction fun ng=>?_
  obtain ⟨hp,g,d,tk,os⟩:=s; obtain ⟨hl,h⟩:=h
  refine ng ?_
  have hsub:=sub_enumerate
  have hL:Heap.IsTuple (Shared.heap ⟨hp,g,d,tk,os⟩) l items:=⟨_,hl,rfl,n,rfl⟩
  wp_walk using wpAny_loadPart' hl
  refine wpAny_stack_any fun st=>wpAny_pure ?_
  set_option tactic.hygienic true in split
  ·rename_i c _ _ _ _ _
   cases (c == Value.type "enumerate")
   ·wp_walk using wpAny_loadPart' hl,wpAny_pyIter_tuple hL
    exact ⟨_,rfl,h⟩
   ·wp_walk using wpAny_loadPart' hl,wpAny_pyIter_tuple hL
    exact ⟨_,rfl,h⟩
  ·wp_walk using wpAny_loadPart' hl,wpAny_pyIter_tuple hL
   exact ⟨_,rfl,h⟩
theorem call_enumerate_tuple {l:Addr} {items:Array Value} {Q:Value→Shared→Prop} (hL:s.heap.IsTuple l items)
  (h:∀ h',IsEnum h' (s.heap.objs.size + 1) s.heap.objs.size 0 .none→h'.IsTupleIter s.heap.objs.size l 0→h'.objs.size=s.heap.objs.size + 2 →
   (∀ b o,s.heap.get? b=some o→h'.get? b=some o)→Q (.ref (s.heap.objs.size + 1)) { s with heap:=h' }) :
  wpAny (model prog w) A (call (.type "enumerate") [.ref l]) Q E s:=by
 refine Classical.byContradiction fun ng=>?_
 obtain ⟨⟨c,dct,dt,sl⟩,hl,hc,n,hd⟩:=hL
 refine ng ?_
 replace hc:c=.type "tuple":=hc
 replace hd:dt=.seq items n:=hd
 subst hc hd
 refine callType_new F.called_enumerate (by decide) (F.typeCall_enumerate_1 _) (F.newCall_enumerate_1 _) (fun obj=>F.args_object_init_2 obj _) F.entry_enumerate_new
  (meets_enumerate_newT l items n dct sl) ⟨hl,?_⟩
 have hz:(s.heap.push { cls:=.type "tuple_iterator",data:=.fields #[.ref l,.int 0 0] }).objs.size=s.heap.objs.size + 1:=Heap.size_push ..
 show _∧_
 rw [hz]
 have he:IsEnum ((s.heap.push { cls:=.type "tuple_iterator",data:=.fields #[.ref l,.int 0 0] }).push
   { cls:=.type "enumerate",data:=.fields #[.none,.bool false,.ref s.heap.objs.size,rawInt 0,.none,.none] }) (s.heap.objs.size + 1) s.heap.objs.size 0 .none:=by
  have:=Heap.get?_push_size (s.heap.push { cls:=.type "tuple_iterator",data:=.fields #[.ref l,.int 0 0] })
   (o:={ cls:=.type "enumerate",data:=.fields #[.none,.bool false,.ref s.heap.objs.size,rawInt 0,.none,.none] }) rfl
  rw [hz] at this; exact this
 refine ⟨⟨_,he,rfl⟩,h _ he ⟨_,Heap.get?_push_of_some _ (Heap.get?_push_size _ rfl),rfl,rfl⟩ (by rw [Heap.size_push,hz]) fun b o x=>Heap.get?_push_of_some _ (Heap.get?_push_of_some _ x)⟩
noncomputable def ownNames:List String:=["enumerate","zip","dict_itemiterator","dict_reverseitemiterator","odict_iterator","itertools.zip_longest","itertools.pairwise"]
theorem letGo_plain {target:Expr} {I:Addr} {v:Value} {o:Obj} {nm:String} {Q:Unit→Shared→Prop} (ho:s.heap.get? I=some o) (hc:o.cls=.type nm) (hn:ownNames.contains nm=false) (hQ:Q () s) :
  wpAny (model prog w) A (letOwnedTupleGo target (.ref I) v) Q E s:=by
 have main:wpAny (model prog w) A (do
   let (.ref r,.ref a):=(Value.ref I,v) | return
   let o ← load r
   match o.cls,o.data with
   | .type n,.fields vs =>
    if ["enumerate","zip","dict_itemiterator","dict_reverseitemiterator","odict_iterator","itertools.zip_longest","itertools.pairwise"].contains n && vs[0]? == some (rawInt a) then
     rule "for.unpacks-the-owned-tuple"
     updateField r 0 .none
   | _,_=>pure ()) Q E s:=by
  cases v <;> first | exact wpAny_pure hQ | skip
  refine wpAny_bind (wpAny_load ho ?_)
  rw [hc]
  cases o.data with
  | fields vs =>
   dsimp only
   rw [if_neg (by
    intro h
    rw [show (["enumerate","zip","dict_itemiterator","dict_reverseitemiterator","odict_iterator","itertools.zip_longest","itertools.pairwise"].contains nm)=false from hn,Bool.false_and] at h
    cases h)]
   exact wpAny_pure hQ
  | _=>exact wpAny_pure hQ
 cases target <;> first | exact main | exact wpAny_pure hQ
structure Cur (prog:PySem.Program) (w:World) (cl:Nat→Addr) (B:Heap) (A:Around) (I:Addr) (own:Addr→Prop) (items:List AV) (src:Option Nat) (okT:Expr→Prop) (ρ0:Nat→Addr) (st0:Store) (h0:Heap) (It:Nat→Heap→Prop) (Mid:Nat→Value→Heap→Prop):Prop where
 live:∀ j h b,It j h→own b→∃ o,h.get? b=some o∧∀ vs c,o.data≠.seq vs c
 liveM:∀ j v h b,Mid j v h→own b→∃ o,h.get? b=some o∧∀ vs c,o.data≠.seq vs c
 frame:∀ j h h',It j h→(∀ b o,own b→h.get? b=some o→h'.get? b=some o)→TK h h'→It j h'
 item:∀ (j:Nat) (a:AV) (s:Shared) (ρ:Nat→Addr) (st:Store) (W:Addr→Prop) (Q:Option Value→Shared→Prop) (E:Value→Shared→Prop),items[j]?=some a→It j s.heap→Rel w cl B ρ st s.heap→Step W ρ0 st0 h0 ρ st s.heap→keepF src st0 st→(∀ i,i < st.length→¬ own (ρ i)) →
  (∀ v h' tk,Mid j v h'→Val ρ st.length h' a v→(∀ b o,¬ own b→s.heap.get? b=some o→h'.get? b=some o)→Q (some v) { s with heap:=h',toks:=tk })→wpAny (model prog w) A (pyNext (.ref I)) Q E s
 go:∀ (j:Nat) (target:Expr) (v:Value) (s:Shared) (Q:Unit→Shared→Prop) (E:Value→Shared→Prop),okT target→Mid j v s.heap→(∀ h',It (j + 1) h'→(∀ b o,¬ own b→s.heap.get? b=some o→h'.get? b=some o)→Q () { s with heap:=h' })→wpAny (model prog w) A (letOwnedTupleGo target (.ref I) v) Q E s
 done:∀ (s:Shared) (ρ:Nat→Addr) (st:Store) (W:Addr→Prop) (Q:Option Value→Shared→Prop) (E:Value→Shared→Prop),It items.length s.heap→Rel w cl B ρ st s.heap→Step W ρ0 st0 h0 ρ st s.heap→keepF src st0 st →
  (∀ h' tk,(∀ b o,¬ own b→s.heap.get? b=some o→h'.get? b=some o)→Q none { s with heap:=h',toks:=tk })→wpAny (model prog w) A (pyNext (.ref I)) Q E s
 self:∀ (j:Nat) (s:Shared) (Q:Value→Shared→Prop) (E:Value→Shared→Prop),It j s.heap→Q (.ref I) s→wpAny (model prog w) A (pyIter (.ref I)) Q E s
end
end Mine
namespace Mine
section
set_option maxRecDepth 100000
open PySem PySem.W PyProof.Rows PySem.Calls
variable {prog:PySem.Program} {w:World} {cl:Nat→Addr} {B:Heap} {A:Around} {E:Value→Shared→Prop} {s:Shared} {ρ ρ' ρ0:Nat→Addr} {st st' st0:Store} {h h' h0:Heap} {n:Nat} {I:Addr}
theorem ag_of {W:Addr→Prop} (S:Step W ρ0 st0 h0 ρ st h) {i:Nat} {o:AObj} (e:st0[i]?=some o):ρ i=ρ0 i:=S.ag i (lt_of_at e)
theorem curList (hh:A.handled=none) {i:Nat} {items:List AV} (hi:st0[i]?=some (.lst items)) (hI:ρ0 i≠I) :
  Cur prog w cl B A I (fun b=>b=I) items (some i) (fun _=>True) ρ0 st0 h0 (fun j h=>h.IsListIter I (ρ0 i) j) (fun j _ h=>h.IsListIter I (ρ0 i) (j + 1)) where
 live:=fun j h b x e=>by subst e; obtain ⟨o,ho,_,hd⟩:=x; exact ⟨o,ho,fun vs c q=>by rw [hd] at q; cases q⟩
 liveM:=fun j _ h b x e=>by subst e; obtain ⟨o,ho,_,hd⟩:=x; exact ⟨o,ho,fun vs c q=>by rw [hd] at q; cases q⟩
 frame:=fun j h h' x k _=>let ⟨o,ho,r⟩:=x; ⟨o,k _ o rfl ho,r⟩
 item:=fun j a s ρ st W Q E e x R S k own hQ=>by
  have e2:st[i]?=some (.lst items):=k.trans hi
  obtain ⟨vs,p,v⟩:=lst_at R e2
  rw [ag_of S hi] at p
  obtain ⟨u,e3,hu⟩:=v.at e
  refine (Walks.list hh I (ρ0 i) hI vs.toArray).item j s Q E (by have:=lt_of_at e3; simpa using this) ⟨x,p.isList⟩ fun v h' tk hv hst hk=>?_
  rw [List.getElem?_toArray,e3] at hv
  cases hv
  exact hQ u h' tk hst.1 (hu.tk (TK.but' (W:=fun b=>b=I) (fun b o hb he=>hk b o (by simpa using hb) he) fun b o hb he=>by
   subst hb; obtain ⟨o',ho',_,hd⟩:=x; rw [ho'] at he; cases he; exact .inr fun vs c q=>by rw [hd] at q; cases q)) fun b o hb he=>hk b o (by simpa using hb) he
 go:=fun j target v s Q E _ x hQ=>by
  obtain ⟨o,ho,hc,hd⟩:=id x
  exact letGo_plain ho hc (by decide) (hQ s.heap x fun _ _ _ e=>e)
 done:=fun s ρ st W Q E x R S k hQ=>by
  have e2:st[i]?=some (.lst items):=k.trans hi
  obtain ⟨vs,p,v⟩:=lst_at R e2
  rw [ag_of S hi] at p
  exact (Walks.list hh I (ρ0 i) hI vs.toArray).done s Q E ⟨by rw [List.size_toArray,v.len]; exact x,p.isList⟩ fun h' tk hk=>hQ h' tk fun b o hb he=>hk b o (by simpa using hb) he
 self:=fun j s Q E x hQ=>wpAny_pyIter_listiter x hQ
theorem curTuple (hh:A.handled=none) {t:Addr} {items:List AV} {vs:List Value} (hv:VL ρ0 st0.length h0 items vs) (hI:t≠I) :
  Cur prog w cl B A I (fun b=>b=I) items none (fun _=>True) ρ0 st0 h0 (fun j h=>h.IsTupleIter I t j∧IsTup h t vs.toArray) (fun j _ h=>h.IsTupleIter I t (j + 1)∧IsTup h t vs.toArray) where
 live:=fun j h b x e=>by subst e; obtain ⟨⟨o,ho,_,hd⟩,_⟩:=x; exact ⟨o,ho,fun vs c q=>by rw [hd] at q; cases q⟩
 liveM:=fun j _ h b x e=>by subst e; obtain ⟨⟨o,ho,_,hd⟩,_⟩:=x; exact ⟨o,ho,fun vs c q=>by rw [hd] at q; cases q⟩
 frame:=fun j h h' x k tk=>⟨let ⟨o,ho,r⟩:=x.1; ⟨o,k _ o rfl ho,r⟩,isTup_tk x.2 tk⟩
 item:=fun j a s ρ st W Q E e x R S k own hQ=>by
  have v:=hv.step S
  obtain ⟨u,e3,hu⟩:=v.at e
  refine (Walks.tuple hh I t hI vs.toArray).item j s Q E (by have:=lt_of_at e3; simpa using this) ⟨x.1,x.2⟩ fun v h' tk hv hst hk=>?_
  rw [List.getElem?_toArray,e3] at hv
  cases hv
  exact hQ u h' tk ⟨hst.1,hst.2⟩ (hu.tk (TK.but' (W:=fun b=>b=I) (fun b o hb he=>hk b o (by simpa using hb) he) fun b o hb he=>by
   subst hb; obtain ⟨⟨o',ho',_,hd⟩,_⟩:=x; rw [ho'] at he; cases he; exact .inr fun vs c q=>by rw [hd] at q; cases q)) fun b o hb he=>hk b o (by simpa using hb) he
 go:=fun j target v s Q E _ x hQ=>by
  obtain ⟨⟨o,ho,hc,hd⟩,_⟩:=id x
  exact letGo_plain ho hc (by decide) (hQ s.heap x fun _ _ _ e=>e)
 done:=fun s ρ st W Q E x R S k hQ=>by
  exact (Walks.tuple hh I t hI vs.toArray).done s Q E ⟨by rw [List.size_toArray,hv.len]; exact x.1,x.2⟩ fun h' tk hk=>hQ h' tk fun b o hb he=>hk b o (by simpa using hb) he
 self:=fun j s Q E x hQ=>wpAny_pyIter_tupleiter x.1 hQ
theorem curRange (hh:A.handled=none) (a b:Int) :
  Cur prog w cl B A I (fun b=>b=I) (rangeL a b) none (fun _=>True) ρ0 st0 h0 (fun j h=>IsRangeIter h I (a + (j:Nat) * 1) (((b - a).toNat:Int) - (j:Nat)) 1) (fun j _ h=>IsRangeIter h I (a + ((j + 1:Nat):Int) * 1) (((b - a).toNat:Int) - ((j + 1:Nat):Int)) 1) where
 live:=fun j h b x e=>by subst e; exact ⟨_,x,fun vs c q=>by cases q⟩
 liveM:=fun j _ h b x e=>by subst e; exact ⟨_,x,fun vs c q=>by cases q⟩
 frame:=fun j h h' x k _=>k _ _ rfl x
 item:=fun j c s ρ st W Q E e x R S k own hQ=>by
  have hj:=lt_of_at e
  rw [rangeL,List.length_map,List.length_range] at hj
  refine (Walks.range hh I a 1 (b - a).toNat).item j s Q E hj x fun v h' tk hv hst hk=>?_
  obtain ⟨t,rfl⟩:=hv
  rw [rangeL,List.getElem?_map,List.getElem?_range hj] at e
  cases e
  exact hQ _ h' tk hst ⟨t,by rw [Int.mul_one]⟩ fun b o hb he=>hk b o (by simpa using hb) he
 go:=fun j target v s Q E _ x hQ=>letGo_plain x rfl (by decide) (hQ s.heap x fun _ _ _ e=>e)
 done:=fun s ρ st W Q E x R S k hQ =>
  (Walks.range hh I a 1 (b - a).toNat).done s Q E (by rw [rangeL,List.length_map,List.length_range] at x; exact x) fun h' tk hk=>hQ h' tk fun b o hb he=>hk b o (by simpa using hb) he
 self:=fun j s Q E x hQ=>wpAny_pyIter_rangeiter x hQ
theorem ep_same {W:Addr→Prop} (S:Step W ρ0 st0 h0 ρ st h) {i:Nat} {d:List (AV×AV)} {es0 es:Array DictEntry} {ep0 ep:Nat} (e0:st0[i]?=some (.dct d)) (e:st[i]?=some (.dct d)) (a:DAt h0 (ρ0 i) es0 ep0) (b:DAt h (ρ0 i) es ep):ep=ep0:=by
 obtain ⟨d',e1,_,k⟩:=S.dep i d e0
 rw [e] at e1; cases e1
 exact k rfl es0 ep0 es ep a b
theorem curKeys (hh:A.handled=none) {i:Nat} {d:List (AV×AV)} {es0:Array DictEntry} {ep0:Nat} (hi:st0[i]?=some (.dct d)) (h00:DAt h0 (ρ0 i) es0 ep0) (hI:ρ0 i≠I) :
  Cur prog w cl B A I (fun b=>b=I) (d.map (·.1)) (some i) (fun _=>True) ρ0 st0 h0 (fun j h=>h.IsKeyIter I (ρ0 i) j d.length ep0) (fun j _ h=>h.IsKeyIter I (ρ0 i) (j + 1) d.length ep0) where
 live:=fun j h b x e=>by subst e; obtain ⟨o,ho,_,hd⟩:=x; exact ⟨o,ho,fun vs c q=>by rw [hd] at q; cases q⟩
 liveM:=fun j _ h b x e=>by subst e; obtain ⟨o,ho,_,hd⟩:=x; exact ⟨o,ho,fun vs c q=>by rw [hd] at q; cases q⟩
 frame:=fun j h h' x k _=>let ⟨o,ho,r⟩:=x; ⟨o,k _ o rfl ho,r⟩
 item:=fun j a s ρ st W Q E e x R S k own hQ=>by
  have e2:st[i]?=some (.dct d):=k.trans hi
  obtain ⟨es,ep,p,v⟩:=dct_at R e2
  rw [ag_of S hi] at p
  obtain rfl:=ep_same S hi e2 h00 p
  have hj:=lt_of_at e
  rw [List.length_map] at hj
  refine (walksKeys hh I (ρ0 i) hI es ep).item j s Q E (by rw [v.size]; exact hj) ⟨by rw [v.size]; exact x,p⟩ fun u h' tk hv hst hk=>?_
  obtain ⟨en,hen,rfl⟩:=hv
  obtain ⟨q,hq,_,_,hu,_⟩:=v.get hen
  rw [List.getElem?_map,hq] at e
  cases e
  exact hQ _ h' tk (by have:=hst.1; rw [v.size] at this; exact this) (hu.tk (TK.but' (W:=fun b=>b=I) (fun b o hb he=>hk b o (by simpa using hb) he) fun b o hb he=>by
   subst hb; obtain ⟨o',ho',_,hd⟩:=x; rw [ho'] at he; cases he; exact .inr fun vs c q=>by rw [hd] at q; cases q)) fun b o hb he=>hk b o (by simpa using hb) he
 go:=fun j target v s Q E _ x hQ=>by
  obtain ⟨o,ho,hc,hd⟩:=id x
  exact letGo_plain ho hc (by decide) (hQ s.heap x fun _ _ _ e=>e)
 done:=fun s ρ st W Q E x R S k hQ=>by
  have e2:st[i]?=some (.dct d):=k.trans hi
  obtain ⟨es,ep,p,v⟩:=dct_at R e2
  rw [ag_of S hi] at p
  obtain rfl:=ep_same S hi e2 h00 p
  rw [List.length_map] at x
  exact (walksKeys hh I (ρ0 i) hI es ep).done s Q E ⟨by rw [v.size]; exact x,p⟩ fun h' tk hk=>hQ h' tk fun b o hb he=>hk b o (by simpa using hb) he
 self:=fun j s Q E x hQ=>wpAny_pyIter_keyiter x hQ
theorem curVals (hh:A.handled=none) {i:Nat} {d:List (AV×AV)} {es0:Array DictEntry} {ep0:Nat} (hi:st0[i]?=some (.dct d)) (h00:DAt h0 (ρ0 i) es0 ep0) (hI:ρ0 i≠I) :
  Cur prog w cl B A I (fun b=>b=I) (d.map (·.2)) (some i) (fun _=>True) ρ0 st0 h0 (fun j h=>h.IsValIter I (ρ0 i) j d.length ep0) (fun j _ h=>h.IsValIter I (ρ0 i) (j + 1) d.length ep0) where
 live:=fun j h b x e=>by subst e; obtain ⟨o,ho,_,hd⟩:=x; exact ⟨o,ho,fun vs c q=>by rw [hd] at q; cases q⟩
 liveM:=fun j _ h b x e=>by subst e; obtain ⟨o,ho,_,hd⟩:=x; exact ⟨o,ho,fun vs c q=>by rw [hd] at q; cases q⟩
 frame:=fun j h h' x k _=>let ⟨o,ho,r⟩:=x; ⟨o,k _ o rfl ho,r⟩
 item:=fun j a s ρ st W Q E e x R S k own hQ=>by
  have e2:st[i]?=some (.dct d):=k.trans hi
  obtain ⟨es,ep,p,v⟩:=dct_at R e2
  rw [ag_of S hi] at p
  obtain rfl:=ep_same S hi e2 h00 p
  have hj:=lt_of_at e
  rw [List.length_map] at hj
  refine (walksValues hh I (ρ0 i) hI es ep).item j s Q E (by rw [v.size]; exact hj) ⟨by rw [v.size]; exact x,p⟩ fun u h' tk hv hst hk=>?_
  obtain ⟨en,hen,rfl⟩:=hv
  obtain ⟨q,hq,_,_,_,hu⟩:=v.get hen
  rw [List.getElem?_map,hq] at e
  cases e
  exact hQ _ h' tk (by have:=hst.1; rw [v.size] at this; exact this) (hu.tk (TK.but' (W:=fun b=>b=I) (fun b o hb he=>hk b o (by simpa using hb) he) fun b o hb he=>by
   subst hb; obtain ⟨o',ho',_,hd⟩:=x; rw [ho'] at he; cases he; exact .inr fun vs c q=>by rw [hd] at q; cases q)) fun b o hb he=>hk b o (by simpa using hb) he
 go:=fun j target v s Q E _ x hQ=>by
  obtain ⟨o,ho,hc,hd⟩:=id x
  exact letGo_plain ho hc (by decide) (hQ s.heap x fun _ _ _ e=>e)
 done:=fun s ρ st W Q E x R S k hQ=>by
  have e2:st[i]?=some (.dct d):=k.trans hi
  obtain ⟨es,ep,p,v⟩:=dct_at R e2
  rw [ag_of S hi] at p
  obtain rfl:=ep_same S hi e2 h00 p
  rw [List.length_map] at x
  exact (walksValues hh I (ρ0 i) hI es ep).done s Q E ⟨by rw [v.size]; exact x,p⟩ fun h' tk hk=>hQ h' tk fun b o hb he=>hk b o (by simpa using hb) he
 self:=fun j s Q E x hQ=>wpAny_pyIter_valiter x hQ
theorem enumL_get:∀ (l:List AV) (i:Int) (j:Nat),(enumL i l)[j]?=l[j]?.map fun a=>.cons (.int (i + j)) (.cons a .nil)
 | [],i,j=>by simp [enumL]
 | a :: r,i,0=>by simp [enumL]
 | a :: r,i,j + 1=>by
  rw [enumL,List.getElem?_cons_succ,List.getElem?_cons_succ,enumL_get r (i + 1) j]
  congr 1; funext b; congr 2; push_cast; lia
theorem enumL_len:∀ (l:List AV) (i:Int),(enumL i l).length=l.length
 | [],_=>rfl
 | a :: r,i=>by rw [enumL,List.length_cons,List.length_cons,enumL_len r]
noncomputable def isTupT (e:Expr):Prop:=Ex3 fun elts k pos=>e=.Tuple elts k pos
theorem curEnum {e it:Addr} {l:List AV} {src:Option Nat} {ItIn:Nat→Heap→Prop}
  (hei:e≠it) (inlive:∀ j h,ItIn j h→∃ o,h.get? it=some o∧∀ vs c,o.data≠.seq vs c) (inframe:∀ j h h',ItIn j h→(∀ o,h.get? it=some o→h'.get? it=some o)→TK h h'→ItIn j h')
  (D:∀ (j:Nat) (s:Shared) (ρ:Nat→Addr) (st:Store) (W:Addr→Prop),ItIn j s.heap→Rel w cl B ρ st s.heap→Step W ρ0 st0 h0 ρ st s.heap→keepF src st0 st →
   Ex4 fun (fp:List Addr) (vs:List Value) (P:Nat→Value→Prop) (St:Nat→Heap→Prop)=>And7 (Draws prog w A.in1 it fp l.length P St) (VL ρ st.length s.heap l vs) (∀ i v,P i v→vs[i]?=some v) (St j s.heap) (e ∉ fp) (it∈fp) (∀ i h,St i h→ItIn i h)) :
  Cur prog w cl B A e (fun b=>b=e∨b=it) (enumL 0 l) src isTupT ρ0 st0 h0 (fun j h=>(∃ old,IsEnum h e it j old)∧ItIn j h) (fun j v h=>(Ex2 fun x T=>v=.ref T∧IsEnumOut h e it ((j:Int) + 1) x T)∧ItIn (j + 1) h) where
 live:=fun j h b x q=>by
  obtain ⟨⟨old,he⟩,hi⟩:=x
  rcases q with rfl | rfl
  ·exact ⟨_,he,fun vs c q=>by cases q⟩
  ·exact inlive j h hi
 liveM:=fun j v h b x q=>by
  obtain ⟨⟨xv,T,_,he⟩,hi⟩:=x
  rcases q with rfl | rfl
  ·exact ⟨_,he,fun vs c q=>by cases q⟩
  ·exact inlive _ h hi
 frame:=fun j h h' x k tk=>⟨let ⟨old,he⟩:=x.1; ⟨old,k e _ (.inl rfl) he⟩,inframe j h h' x.2 (fun o=>k it o (.inr rfl)) tk⟩
 item:=fun j a s ρ st W Q E q x R S k own hQ=>by
  obtain ⟨fp,vs,P,St,d,v,hP,hs,hef,hif,hSt⟩:=D j s ρ st W x.2 R S k
  have hj:j < l.length:=by have:=lt_of_at q; rw [enumL_len] at this; exact this
  have hnt:∀ b o,(b=e∨b=it)→s.heap.get? b=some o→o.cls≠.type "tuple"∨∀ vs c,o.data≠.seq vs c:=fun b o hb he=>by
   rcases hb with rfl | rfl
   ·obtain ⟨⟨old,hx⟩,_⟩:=x; rw [hx] at he; cases he; exact .inr fun vs c q=>by cases q
   ·obtain ⟨o',ho',hd⟩:=inlive j _ x.2; rw [ho'] at he; cases he; exact .inr hd
  refine (WalksT.enumerateD d e hei hef hif).item j s Q E hj ⟨x.1,hs⟩ fun Tp vals h' tk hpt hfresh htup hmid hk=>?_
  obtain ⟨t,xv,hPx,rfl⟩:=hpt
  obtain ⟨⟨x',hout⟩,hst',_,_⟩:=hmid
  have hk':∀ b o,¬ (b=e∨b=it)→s.heap.get? b=some o→h'.get? b=some o:=fun b o hb he=>hk b o (by simpa using hb) he
  have tk':TK s.heap h':=TK.but' (W:=fun b=>b=e∨b=it) hk' hnt
  refine hQ _ h' tk ⟨⟨x',Tp,rfl,hout⟩,hSt _ _ hst'⟩ ?_ hk'
  rw [enumL_get] at q
  obtain ⟨b,hb,rfl⟩:=Option.map_eq_some_iff.mp q
  have hval:=v.get j b xv hb (hP _ _ hPx)
  refine ⟨Tp,[.int j t,xv],rfl,htup,?_⟩
  exact ⟨_,_,rfl,⟨t,by rw [Int.zero_add]⟩,_,_,rfl,hval.tk tk',rfl⟩
 go:=fun j target v s Q E hT x hQ=>by
  obtain ⟨elts,k,pos,rfl⟩:=hT
  obtain ⟨⟨xv,T,rfl,hout⟩,hin⟩:=x
  obtain ⟨oi,hoi,hdi⟩:=inlive _ _ hin
  refine wpAny_letOwnedTupleGo_enum hout fun h' he' hs'=>hQ h' ⟨⟨xv,by simpa using he'⟩,inframe _ _ _ hin (fun o y=>(hs'.2 it hei.symm).trans y) (TK.but' (W:=fun b=>b=e) (fun b o hb y=>(hs'.2 b hb).trans y) fun b o hb y=>?_)⟩ fun b o hb y=>(hs'.2 b fun q=>hb (.inl q)).trans y
  subst hb; rw [hout] at y; cases y; exact .inr fun vs c q=>by cases q
 done:=fun s ρ st W Q E x R S k hQ=>by
  rw [enumL_len] at x
  obtain ⟨fp,vs,P,St,d,v,hP,hs,hef,hif,hSt⟩:=D _ s ρ st W x.2 R S k
  exact (WalksT.enumerateD d e hei hef hif).done s Q E ⟨x.1,hs⟩ fun h' tk hk=>hQ h' tk fun b o hb he=>hk b o (by simpa using hb) he
 self:=fun j s Q E x hQ=>by
  obtain ⟨⟨old,he⟩,_⟩:=x
  exact wpAny_pyIter_enum he hQ
theorem curEnumList (hh:A.handled=none) {e it:Addr} {i:Nat} {items:List AV} (hi:st0[i]?=some (.lst items)) (hie:ρ0 i≠e) (hii:ρ0 i≠it) (hei:e≠it) :
  Cur prog w cl B A e (fun b=>b=e∨b=it) (enumL 0 items) (some i) isTupT ρ0 st0 h0 (fun j h=>(∃ old,IsEnum h e it j old)∧h.IsListIter it (ρ0 i) j) (fun j v h=>(Ex2 fun x T=>v=.ref T∧IsEnumOut h e it ((j:Int) + 1) x T)∧h.IsListIter it (ρ0 i) (j + 1)) :=
 curEnum (ItIn:=fun j h=>h.IsListIter it (ρ0 i) j) hei (fun j h x=>let ⟨o,ho,_,hd⟩:=x; ⟨o,ho,fun vs c q=>by rw [hd] at q; cases q⟩) (fun j h h' x k _=>let ⟨o,ho,r⟩:=x; ⟨o,k o ho,r⟩)
  fun j s ρ st W x R S k=>by
   have e2:st[i]?=some (.lst items):=k.trans hi
   obtain ⟨vs,p,v⟩:=lst_at R e2
   rw [ag_of S hi] at p
   refine ⟨[it,ρ0 i],vs,fun i v=>vs.toArray[i]?=some v,fun j h=>h.IsListIter it (ρ0 i) j∧h.IsList (ρ0 i) vs.toArray,(by have:=Draws.list (prog:=prog) (w:=w) (A:=A.in1) hh it (ρ0 i) hii vs.toArray; rw [List.size_toArray,v.len] at this; exact this),v,fun i v q=>by simpa using q,⟨x,p.isList⟩,?_,by simp,fun _ _ y=>y.1⟩
   simp [hei,hie.symm]
theorem curEnumTuple (hh:A.handled=none) {e it t:Addr} {items:List AV} {vs:List Value} (hv:VL ρ0 st0.length h0 items vs) (hie:t≠e) (hii:t≠it) (hei:e≠it) :
  Cur prog w cl B A e (fun b=>b=e∨b=it) (enumL 0 items) none isTupT ρ0 st0 h0 (fun j h=>(∃ old,IsEnum h e it j old)∧h.IsTupleIter it t j∧IsTup h t vs.toArray) (fun j v h=>(Ex2 fun x T=>v=.ref T∧IsEnumOut h e it ((j:Int) + 1) x T)∧h.IsTupleIter it t (j + 1)∧IsTup h t vs.toArray) :=
 curEnum (ItIn:=fun j h=>h.IsTupleIter it t j∧IsTup h t vs.toArray) hei (fun j h x=>let ⟨⟨o,ho,_,hd⟩,_⟩:=x; ⟨o,ho,fun vs c q=>by rw [hd] at q; cases q⟩) (fun j h h' x k tk=>⟨let ⟨o,ho,r⟩:=x.1; ⟨o,k o ho,r⟩,isTup_tk x.2 tk⟩)
  fun j s ρ st W x R S k=>by
   have v:=hv.step S
   refine ⟨[it,t],vs,fun i v=>vs.toArray[i]?=some v,fun j h=>h.IsTupleIter it t j∧h.IsTuple t vs.toArray,(by have:=drawsTuple (prog:=prog) (w:=w) (A:=A.in1) hh it t hii vs.toArray; rw [List.size_toArray,v.len] at this; exact this),v,fun i v q=>by simpa using q,⟨x.1,x.2⟩,?_,by simp,fun _ _ y=>⟨y.1,y.2⟩⟩
   simp [hei,hie.symm]
end
end Mine
namespace Mine
section
set_option maxRecDepth 100000
open PySem PySem.W PyProof.Rows PySem.Calls
variable {prog:PySem.Program} {w:World} {cl:Nat→Addr} {B:Heap} {A:Around} {E:Value→Shared→Prop} {s:Shared} {ρ ρ' ρ₁ ρ₂ ρ₃:Nat→Addr} {st st' st₁ st₂ st₃:Store} {h h' h₀ h₁ h₂ h₃:Heap} {n:Nat} {m:Loc} {env:Env} {V:MEnv} {K:Frag} {fa:Nat→Nat→Addr}
theorem Rel.adopt (R:Rel w cl B ρ st h) {a:Addr} {ao:AObj} (ha:∀ i,i < st.length→ρ i≠a) (hB:B.get? a=none)
  (ho:∀ ρ',(∀ i,i < st.length→ρ' i=ρ i)→ρ' st.length=a→OAt w cl h ρ' (st.length + 1) st.length ao) :
  ∃ ρ',ρ' st.length=a∧Rel w cl B ρ' (st++[ao]) h∧Step (fun b=>b=a) ρ st h ρ' (st++[ao]) h:=by
 refine ⟨fun i=>if i=st.length then a else ρ i,if_pos rfl,?_⟩
 have ag:∀ i,i < st.length→(fun i=>if i=st.length then a else ρ i) i=ρ i:=fun i hi=>if_neg (Nat.ne_of_lt hi)
 generalize hρ:(fun i=>if i=st.length then a else ρ i)=ρ' at ag
 have e0:ρ' st.length=a:=by rw [← hρ]; exact if_pos rfl
 have len:(st++[ao]).length=st.length + 1:=by simp
 refine ⟨⟨R.keep,fun i o e=>?_,fun i j hi hj q=>?_,fun i o e hs=>?_⟩,by rw [len]; exact Nat.le_succ _,ag,TK.refl _,fun b o _ _ e=>e,fun b o _ e=>⟨o,e⟩,fun i hi hi' hx=>?_,fun i kvs e=>?_⟩
 ·rw [len]
  rcases Nat.lt_or_ge i st.length with hlt | hge
  ·rw [List.getElem?_append_left hlt] at e
   exact (R.obj i o e).mono (TK.refl _) (Nat.le_succ _) ag hlt fun ob a=>a
  ·have hi:i=st.length:=by have:=lt_of_at e; rw [len] at this; lia
   subst hi
   rw [List.getElem?_append_right (Nat.le_refl _),Nat.sub_self] at e
   cases e
   exact ho ρ' ag e0
 ·rw [len] at hi hj
  by_cases h1:i=st.length
  ·by_cases h2:j=st.length
   ·rw [h1,h2]
   ·have hj':j < st.length:=by lia
    rw [h1,e0,ag j hj'] at q
    exact absurd q.symm (ha j hj')
  ·have hi':i < st.length:=by lia
   by_cases h2:j=st.length
   ·rw [h2,e0,ag i hi'] at q
    exact absurd q (ha i hi')
   ·have hj':j < st.length:=by lia
    rw [ag i hi',ag j hj'] at q
    exact R.inj i j hi' hj' q
 ·rcases Nat.lt_or_ge i st.length with hlt | hge
  ·rw [List.getElem?_append_left hlt] at e
   rw [ag i hlt]; exact R.fresh i o e hs
  ·have hi:i=st.length:=by have:=lt_of_at e; rw [len] at this; lia
   rw [hi,e0]; exact hB
 ·have hi:i=st.length:=by rw [len] at hi'; lia
  rw [hi,e0] at hx; exact absurd rfl hx
 ·have hlt:=lt_of_at e
  obtain ⟨kvs',e',l,d⟩:=dep_same (ρ:=ρ) (h:=h) (h':=h) e fun es ep a=>a
  exact ⟨kvs',by rw [List.getElem?_append_left hlt]; exact e',l,d⟩
noncomputable def bNames:List Str:=["len","list","sorted","sum","max","int","tuple","dict","isinstance","range","enumerate"]
structure VOk (K:Frag) (cl:Nat→Addr) (fa:Nat→Nat→Addr) (B:Heap) (V:MEnv):Prop where
 kok:KOk K cl
 kin:K.In B
 nok:NOk V.N
 sok:SortsOk V.sorts
 stuck:V.glob 13=none
 glob:∃ mg,And4 (B.Ns mainGlobals mg) (∀ x v,V.glob x=some v→∃ u,mg (T x)=some u∧Val (fun _=>0) 0 B v u) (∀ f,V.has 0 f=true→mg (T f)=some (.ref (fa 0 f))) (∀ y,y∈bNames→mg y=none)
 blt:∃ mb,And5 (B.Ns builtinsNs mb) (∀ b:Bi,mb (biName b)=some (biVal b)) (mb "isinstance"=some (.builtin "isinstance")) (mb "range"=some (.type "range")) (mb "enumerate"=some (.type "enumerate"))
 keep:∀ c f,V.has c f=true→keepIn K (.ref (fa c f))=true
 meth:∀ c f,isK c=true→V.has c f=true→findIn K (.ref (cl c)) (T f)=some (some (.ref (fa c f)))∧typeIn K (.ref (fa c f))=some (.type "function")
noncomputable def CallOk (prog:PySem.Program) (w:World) (cl:Nat→Addr) (B:Heap) (A:Around) (V:MEnv) (fa:Nat→Nat→Addr):Prop :=
 ∀ (c f:Nat) (l:List AV) (st:Store) (Q:AV→Store→Prop) (ρ:Nat→Addr) (s:Shared) (vs:List Value) (P:Value→Shared→Prop) (E:Value→Shared→Prop),
  V.C c f l st Q→Rel w cl B ρ st s.heap→VL ρ st.length s.heap l vs→Goal w cl B ρ st s Q P→wpAny (model prog w) A (call (.ref (fa c f)) vs) P E s
structure Body (prog:PySem.Program) (w:World) (cl:Nat→Addr) (B:Heap) (A:Around) (V:MEnv) (fa:Nat→Nat→Addr) (K:Frag):Prop where
 room:Room A B
 vok:VOk K cl fa B V
 call:CallOk prog w cl B A V fa
theorem VOk.in_ (X:VOk K cl fa B V) (R:Rel w cl B ρ st h):K.In h:=X.kin.keeps R.keep
theorem load_glob (X:VOk K cl fa B V) (R:Rel w cl B ρ st s.heap) (Ev:EnvR env ρ st.length s.heap m) {x:Nat} {v:AV} {pos:Pos} {P:Value→Shared→Prop} (hx:globOk env.scope (T x)=true) (hv:V.glob x=some v)
  (hP:∀ u,Val ρ st.length s.heap v u→P u s):wpAny (model prog w) A (eval (.Name (T x) pos) env) P E s:=by
 simp only [globOk,Bool.and_eq_true] at hx
 obtain ⟨hk,hd⟩:=hx
 obtain ⟨mg,hg,hc,_⟩:=X.glob
 obtain ⟨u,e,z⟩:=hc x v hv
 have hk':env.kindOf (T x)=some .globalImplicit:=by
  unfold Env.kindOf
  set_option tactic.hygienic true in split at hk <;> rename_i e <;> first | (rw [e]; done) | cases hk
 refine Name_function_global Ev.fn hk' (loadGlobal_global (by rw [Ev.glob]; exact hg.keeps R.keep) e (hP u (z.mono (TK.of_keep R.keep) (Nat.zero_le _) fun i hi=>absurd hi (Nat.not_lt_zero i)))) (sq_ne hd)
theorem load_fn (X:VOk K cl fa B V) (R:Rel w cl B ρ st s.heap) (Ev:EnvR env ρ st.length s.heap m) {f:Nat} {pos:Pos} {P:Value→Shared→Prop} (hx:globOk env.scope (T f)=true) (hv:V.has 0 f=true)
  (hP:P (.ref (fa 0 f)) s):wpAny (model prog w) A (eval (.Name (T f) pos) env) P E s:=by
 simp only [globOk,Bool.and_eq_true] at hx
 obtain ⟨hk,hd⟩:=hx
 obtain ⟨mg,hg,_,hc,_⟩:=X.glob
 have hk':env.kindOf (T f)=some .globalImplicit:=by
  unfold Env.kindOf
  set_option tactic.hygienic true in split at hk <;> rename_i e <;> first | (rw [e]; done) | cases hk
 exact Name_function_global Ev.fn hk' (loadGlobal_global (by rw [Ev.glob]; exact hg.keeps R.keep) (hc f hv) hP) (sq_ne hd)
theorem load_blt (X:VOk K cl fa B V) (R:Rel w cl B ρ st s.heap) (Ev:EnvR env ρ st.length s.heap m) {y:Str} {v:Value} {pos:Pos} {P:Value→Shared→Prop} (hx:globOk env.scope y=true) (hy:y∈bNames)
  (hv:∀ mb:Str→Option Value,(And4 (∀ b:Bi,mb (biName b)=some (biVal b)) (mb "isinstance"=some (.builtin "isinstance")) (mb "range"=some (.type "range")) (mb "enumerate"=some (.type "enumerate")))→mb y=some v)
  (hP:P v s):wpAny (model prog w) A (eval (.Name y pos) env) P E s:=by
 simp only [globOk,Bool.and_eq_true] at hx
 obtain ⟨hk,hd⟩:=hx
 obtain ⟨mg,hg,_,_,hc⟩:=X.glob
 obtain ⟨mb,hb,b1,b2,b3,b4⟩:=X.blt
 have hk':env.kindOf y=some .globalImplicit:=by
  unfold Env.kindOf
  set_option tactic.hygienic true in split at hk <;> rename_i e <;> first | (rw [e]; done) | cases hk
 exact Name_function_global Ev.fn hk' (loadGlobal_builtin (by rw [Ev.glob]; exact hg.keeps R.keep) (hc y hy) (by rw [Ev.blt]; exact hb.keeps R.keep) (hv mb ⟨b1,b2,b3,b4⟩) hP) (sq_ne hd)
theorem load_bi (X:VOk K cl fa B V) (R:Rel w cl B ρ st s.heap) (Ev:EnvR env ρ st.length s.heap m) {b:Bi} {pos:Pos} {P:Value→Shared→Prop} (hx:globOk env.scope (biName b)=true)
  (hP:P (biVal b) s):wpAny (model prog w) A (eval (.Name (biName b) pos) env) P E s :=
 load_blt X R Ev hx (by cases b <;> simp [bNames,biName]) (fun mb z=>z.1 b) hP
theorem star_ns {e:Expr} {r:List Expr} {env:Env} (h:notStar e=true):starEach (e :: r) env=(false,eval e env) :: starEach r env:=by
 cases e <;> first | rfl | cases h
theorem back_cons {pos:Pos} {t:Sem Value} {r:List (Bool×Sem Value)}:backTo pos ((false,t) :: r)=(false,t) :: backTo pos r:=rfl
theorem mL_plain {sc:Scope} {pos:Pos} {env:Env}:∀ (p:PE) (es:List Expr),mL sc p es=true→(backTo pos (starEach es env)).any (·.1)=false:=by
 intro p
 induction p with
 | nil=>intro es h; obtain rfl:=mL_nil h; rfl
 | cons a r _ ih =>
  intro es h
  obtain ⟨e,q,rfl,h,h2⟩:=mL_cons h
  rw [star_ns h.2,back_cons,List.any_cons,ih q h2]; rfl
 | _=>intro es h; exact (Bool.false_ne_true h).elim
theorem mL_all {sc:Scope} {pos:Pos} {env:Env} (p:PE) (es:List Expr) (h:mL sc p es=true):(backTo pos (starEach es env)).all (fun x=>!x.1)=true:=by
 have:=mL_plain (pos:=pos) (env:=env) p es h
 rw [List.any_eq_false] at this
 rw [List.all_eq_true]
 intro x hx
 simpa using this x hx
theorem evalArgs_list {f:Value} {args:List (Bool×Sem Value)} {Q:Args→Shared→Prop} {M:Model} (hp:args.any (·.1)=false) (h:wpAny M A (spliced args) (fun vs s'=>Q ⟨vs,[]⟩ s') E s):wpAny M A (evalArgs f true args []) Q E s:=by
 match args,hp with
 | [],_ =>
  unfold evalArgs
  show wpAny M A (spliced [] >>= _) _ E s
  refine wpAny_bind (wpAny_mono h (fun vs s' h'=>?_) fun _ _ x=>x)
  first
   | exact wpAny_bind (wpAny_pure (wpAny_holding (wpAny_bind (wpAny_pure (wpAny_bind (wpAny_pure (wpAny_pure h')))))))
   | exact wpAny_holding (wpAny_bind (wpAny_pure (wpAny_bind (wpAny_pure (wpAny_pure h')))))
 | (b,x) :: r,hp =>
  have:b=false:=by simp at hp; exact hp.1
  subst this
  exact evalArgs_plain h
theorem items_spliced_cons {pos:Pos} {e:Expr} {r:List Expr} {env:Env} {Q:List Value→Shared→Prop} {M:Model} (hn:notStar e=true)
  (h:wpAny M A (eval e env) (fun v s₁=>wpAny M A (spliced (backTo pos (starEach r env))) (fun vs s₂=>Q (v :: vs) s₂) E s₁) E s):wpAny M A (spliced (backTo pos (starEach (e :: r) env))) Q E s:=by
 rw [star_ns hn,back_cons]
 exact spliced_cons h
noncomputable def GoalL (w:World) (cl:Nat→Addr) (B:Heap) (ρ:Nat→Addr) (st:Store) (s:Shared) (Q:AV→Store→Prop) (P:List Value→Shared→Prop):Prop :=
 ∀ a st' ρ' h' tk vs,Q a st'→Rel w cl B ρ' st' h'→Step no ρ st s.heap ρ' st' h'→Items ρ' st'.length h' a vs→P vs { s with heap:=h',toks:=tk }
noncomputable def GoalB (w:World) (cl:Nat→Addr) (B:Heap) (ρ:Nat→Addr) (st:Store) (s:Shared) (Q:AV→Store→Prop) (P:Bool→Shared→Prop):Prop :=
 ∀ a st' ρ' h' tk,Q a st'→Rel w cl B ρ' st' h'→Step no ρ st s.heap ρ' st' h'→∃ b,a=.bool b∧P b { s with heap:=h',toks:=tk }
theorem GoalB.after {Q:AV→Store→Prop} {P:Bool→Shared→Prop} {tk:Nat} (G:GoalB w cl B ρ st s Q P) (R:Rel w cl B ρ' st' h') (S:Step no ρ st s.heap ρ' st' h'):GoalB w cl B ρ' st' { s with heap:=h',toks:=tk } Q P :=
 fun a st2 ρ2 h2 tk2 q R2 S2=>G a st2 ρ2 h2 tk2 q R2 (Step.trans R S S2 fun _ x _=>x)
end
end Mine
namespace Mine
section
set_option maxRecDepth 100000
open PySem PySem.W PyProof.Rows PySem.Calls
variable {prog:PySem.Program} {w:World} {cl:Nat→Addr} {B:Heap} {A:Around} {E:Value→Shared→Prop} {s:Shared} {ρ ρ':Nat→Addr} {st st':Store} {h h':Heap} {n:Nat} {m:Loc} {env:Env} {V:MEnv} {K:Frag} {fa:Nat→Nat→Addr}
noncomputable def EvS (prog:PySem.Program) (w:World) (cl:Nat→Addr) (B:Heap) (A:Around) (V:MEnv) (p:PE):Prop :=
 ∀ (env:Env) (e:Expr) (m:Loc) (E:Value→Shared→Prop) (s:Shared) (ρ:Nat→Addr) (st:Store) (Q:AV→Store→Prop) (P:Value→Shared→Prop),mE env.scope p e=true→Rel w cl B ρ st s.heap→EnvR env ρ st.length s.heap m→evW V p m st Q→Goal w cl B ρ st s Q P→wpAny (model prog w) A (eval e env) P E s
noncomputable def EvL (prog:PySem.Program) (w:World) (cl:Nat→Addr) (B:Heap) (A:Around) (V:MEnv) (p:PE):Prop :=
 ∀ (env:Env) (es:List Expr) (pos:Pos) (m:Loc) (E:Value→Shared→Prop) (s:Shared) (ρ:Nat→Addr) (st:Store) (Q:AV→Store→Prop) (P:List Value→Shared→Prop),mL env.scope p es=true→Rel w cl B ρ st s.heap→EnvR env ρ st.length s.heap m→evW V p m st Q→GoalL w cl B ρ st s Q P →
  wpAny (model prog w) A (spliced (backTo pos (starEach es env))) P E s
noncomputable def TrS (prog:PySem.Program) (w:World) (cl:Nat→Addr) (B:Heap) (A:Around) (V:MEnv) (p:PE):Prop :=
 ∀ (env:Env) (e:Expr) (m:Loc) (E:Value→Shared→Prop) (s:Shared) (ρ:Nat→Addr) (st:Store) (Q:AV→Store→Prop) (P:Bool→Shared→Prop),mE env.scope p e=true→Rel w cl B ρ st s.heap→EnvR env ρ st.length s.heap m→evW V p m st Q→GoalB w cl B ρ st s Q P→wpAny (model prog w) A (isTrue e env (eval e env)) P E s
noncomputable def okTof (k:SK):Expr→Prop:=match k with
 | .enum=>isTupT
 | _=>fun _=>True
noncomputable def GoalI (prog:PySem.Program) (w:World) (cl:Nat→Addr) (B:Heap) (A:Around) (k:SK) (ρ:Nat→Addr) (st:Store) (s:Shared) (QI:Store→List AV→Option Nat→Prop) (P:Value→Shared→Prop):Prop :=
 ∀ (items:List AV) (src:Option Nat) (st1:Store) (ρ1:Nat→Addr) (h1:Heap) (tk:Tok) (I:Addr) (own:Addr→Prop) (It:Nat→Heap→Prop) (Mid:Nat→Value→Heap→Prop),
  QI st1 items src→Rel w cl B ρ1 st1 h1→Step no ρ st s.heap ρ1 st1 h1→Cur prog w cl B A I own items src (okTof k) ρ1 st1 h1 It Mid→It 0 h1→(∀ b,own b→s.heap.get? b=none)→(∀ i,i < st1.length→¬ own (ρ1 i))→P (.ref I) { s with heap:=h1,toks:=tk }
theorem fresh_I (R:Rel w cl B ρ st h) {i:Nat} (hi:i < st.length):ρ i≠h.objs.size:=by
 obtain ⟨o,e,_⟩:=R.there hi
 exact Nat.ne_of_lt (Heap.lt_size e)
theorem iter_val (M:Room A B) (R:Rel w cl B ρ st s.heap) {a:AV} {v:Value} {QI:List AV→Option Nat→Prop} {P:Value→Shared→Prop} (hv:Val ρ st.length s.heap a v) (h:srcF .val st a QI)
  (hP:∀ (items:List AV) (src:Option Nat) (h1:Heap) (I:Addr) (own:Addr→Prop) (It:Nat→Heap→Prop) (Mid:Nat→Value→Heap→Prop),QI items src→(∀ b o,s.heap.get? b=some o→h1.get? b=some o)→Cur prog w cl B A I own items src (fun _=>True) ρ st h1 It Mid→It 0 h1→(∀ b,own b→s.heap.get? b=none) →
   P (.ref I) { s with heap:=h1 }):wpAny (model prog w) A (pyIter v) P E s:=by
 have hh:=M.calm
 have fr:∀ b,b=s.heap.objs.size→s.heap.get? b=none:=fun b e=>by rw [e]; exact none_at_size _
 have tup:(∃ l,a.toL=some l∧QI l .none)→wpAny (model prog w) A (pyIter v) P E s:=fun h=>by
  obtain ⟨l,e,q⟩:=h
  obtain ⟨t,vs,rfl,ht,vl⟩:=toL_val e hv
  have hk:∀ b o,s.heap.get? b=some o→(s.heap.push { cls:=.type "tuple_iterator",data:=.fields #[.ref t,.int 0 0] }).get? b=some o:=fun b o e=>Heap.get?_push_of_some _ e
  have htlt:t≠s.heap.objs.size:=by obtain ⟨o,ho,_⟩:=ht; exact Nat.ne_of_lt (Heap.lt_size ho)
  refine wpAny_pyIter_tuple ht (hP l none _ s.heap.objs.size _ _ _ q hk (curTuple hh (vl.mono (TK.of_keep hk) (Nat.le_refl _) fun _ _=>rfl) htlt) ⟨⟨_,Heap.get?_push_size _ rfl,rfl,rfl⟩,isTup_tk ht (TK.of_keep hk)⟩ fr)
 rcases refE_inv h with ⟨i,rfl,h⟩ | h
 ·obtain ⟨hi,rfl⟩:=hv
  rcases objM_inv h with ⟨l,e,h⟩ | ⟨_,_,h⟩ | ⟨d,e,h⟩
  ·obtain ⟨vs,p,vl⟩:=lst_at R e
   have hk:∀ b o,s.heap.get? b=some o→(s.heap.push { cls:=.type "list_iterator",data:=.fields #[.ref (ρ i),.int 0 0] }).get? b=some o:=fun b o e=>Heap.get?_push_of_some _ e
   exact wpAny_pyIter_list p.isList (hP l (some i) _ s.heap.objs.size _ _ _ h hk (curList hh e (fresh_I R hi)) ⟨_,Heap.get?_push_size _ rfl,rfl,rfl⟩ fr)
  ·exact h.elim
  ·obtain ⟨es,ep,p,vl⟩:=dct_at R e
   refine iter_keys (M.low R e rfl) p fun h' hit hk=>?_
   exact hP _ (some i) _ s.heap.objs.size _ _ _ h hk (curKeys hh e (hk _ _ p) (fresh_I R hi)) (by rw [← vl.size]; exact hit) fr
 ·exact tup (oK_inv h)
theorem attributeBase_plain {o:Expr} {x:Str} {env:Env} {whole:Sem Value} (h:notCall o=true):attributeBase o x env whole=whole:=by
 cases o <;> first | rfl | cases h
theorem folded_plain {e:Expr} {env:Env} (h:(match e with | .List .. | .Set ..=>false | _=>true)=true) (x:Value):foldedSetIterable e env x=pure x:=by
 cases e <;> first | rfl | cases h
theorem method_call {o:Expr} {f:Str} {ap pos:Pos} {es:List Expr} {P:Value→Shared→Prop} (hn:notCall o=true) (hf:(backTo pos (starEach es env)).all (fun x=>!x.1)=true) (hl:ap.endLine=pos.line) (h20:es.length < 20)
  (h:wpAny (model prog w) A (eval o env) (fun ov s₁=>wpAny (model prog w) A (getMethod ov f (do return (← importBound o env).getD true)) (fun r s₂=>wpAny (model prog w) A (callWith pos r.1 r.2 (backTo pos (starEach es env)) []) P E s₂) E s₁) E s) :
  wpAny (model prog w) A (eval (.Call (.Attribute o f ap) es [] pos) env) P E s:=by
 rw [arm_eval_Call,attributeBase_plain hn]
 refine wpAny_bind (wpAny_mono h (fun ov s₁ h₁=>?_) fun _ _ e=>e)
 refine wpAny_bind (wpAny_standAt ?_)
 have hform:methodCallForm (es.length + ([]:List Keyword).length) (backTo pos (starEach es env)) (backToKw pos (keywordEach [] env))=true:=by
  unfold methodCallForm
  rw [hf]
  rw [show backToKw pos (keywordEach [] env)=[] from rfl]
  simp; lia
 have hpos:methodCallPos true o env ap pos=pure pos:=by unfold methodCallPos; simp [hl]
 unfold methodCall
 rw [hform]
 refine wpAny_bind (wpAny_holding (wpAny_mono h₁ (fun r s₂ h₂=>?_) fun _ _ e=>e))
 exact wpAny_bind (wpAny_of_eq hpos h₂)
theorem srcF_range {st:Store} {a:AV} {Q:List AV→Option Nat→Prop} (h:srcF .range st a Q):(∃ b,a=.cons (.int b) .nil∧(0≤b∧b < 2 ^ 20)∧Q (rangeL 0 b) none)∨(Ex2 fun x b=>a=.cons (.int x) (.cons (.int b) .nil)∧((0≤x∧x < 2 ^ 20∧0≤b∧b < 2 ^ 20))∧Q (rangeL x b) none):=by
 obtain ⟨x,r,rfl,h⟩:=consM_inv h
 obtain ⟨x,rfl,h⟩:=intM_inv h
 rcases endM_inv h with ⟨rfl,h⟩ | ⟨y,r,rfl,h⟩
 ·exact .inl ⟨_,rfl,h⟩
 ·obtain ⟨rfl,h⟩:=nilM_inv h
  obtain ⟨b,rfl,h⟩:=intM_inv h
  exact .inr ⟨_,_,rfl,h⟩
theorem srcF_enum {st:Store} {a:AV} {Q:List AV→Option Nat→Prop} (h:srcF .enum st a Q):(Ex2 fun i l=>a=.cons (.ref i) .nil∧st[i]?=some (.lst l)∧Q (enumL 0 l) (some i))∨(Ex2 fun b l=>a=.cons b .nil∧b.toL=some l∧Q (enumL 0 l) none):=by
 obtain ⟨x,r,rfl,h⟩:=consM_inv h
 obtain ⟨rfl,h⟩:=nilM_inv h
 rcases refE_inv h with ⟨i,rfl,l,h⟩ | h
 ·exact .inl ⟨_,_,rfl,h⟩
 ·obtain ⟨l,h⟩:=oK_inv h
  exact .inr ⟨_,_,rfl,h⟩
theorem srcF_values {st:Store} {a:AV} {Q:List AV→Option Nat→Prop} (h:srcF .values st a Q):Ex2 fun i d=>a=.ref i∧st[i]?=some (.dct d)∧Q (d.map (·.2)) (some i):=by
 obtain ⟨i,rfl,d,h⟩:=refM_inv h
 exact ⟨_,_,rfl,h⟩
theorem src_sound (X:Body prog w cl B A V fa K) {k:SK} {p:PE} (H:EvS prog w cl B A V p) (HL:EvL prog w cl B A V p) {e:Expr} {QI:Store→List AV→Option Nat→Prop} {P:Value→Shared→Prop} (hm:mSrc env.scope k p e=true)
  (R:Rel w cl B ρ st s.heap) (Ev:EnvR env ρ st.length s.heap m) (h:evW V p m st fun a s1=>srcF k s1 a (QI s1)) (G:GoalI prog w cl B A k ρ st s QI P) :
  wpAny (model prog w) A (eval e env) (fun x s₁=>wpAny (model prog w) A (pyIter x) P E s₁) E s:=by
 have M:=X.room
 have hh:=M.calm
 have up:∀ {ρ1:Nat→Addr} {st1:Store} {h1 h2:Heap},Step no ρ st s.heap ρ1 st1 h1→(∀ b,h1.get? b=none→s.heap.get? b=none):=fun S b e=>by
  cases q:s.heap.get? b with
  | none=>rfl
  | some o=>obtain ⟨o',e'⟩:=S.ex b o (fun x=>x) q; rw [e] at e'; cases e'
 cases k with
 | val =>
  refine H env e m E s ρ st _ _ (and2 hm).1 R Ev h fun a st1 ρ1 h1 tk v q R1 S1 hv=>?_
  refine iter_val M (s:={ s with heap:=h1,toks:=tk }) R1 hv q fun items src h2 I own It Mid q2 hk C i0 fr=>?_
  have R2:=R1.keeps hk
  refine G items src st1 ρ1 h2 tk I own It Mid q2 R2.1 (Step.trans R1 S1 R2.2 fun _ x _=>x) C i0 (fun b hb=>up (h2:=h2) S1 b (fr b hb)) fun i hi hb=>?_
  obtain ⟨o,e,_⟩:=R1.there hi
  have:=fr _ hb
  rw [show ({ s with heap:=h1,toks:=tk }:Shared).heap=h1 from rfl,e] at this; cases this
 | range =>
  replace hm:=bCalN_inv hm
  obtain ⟨g,gp,es,pos,rfl,hm⟩:=hm
  ·simp only [Bool.and_eq_true] at hm
   obtain ⟨⟨hg,hgl⟩,hL⟩:=hm
   obtain rfl:=sq_eq hg
   rw [arm_eval_Call_Name']
   refine wpAny_bind (load_blt X.vok R Ev hgl (by simp [bNames]) (v:=.type "range") (fun mb z=>z.3) ?_)
   refine PySem.callWith_type (mL_plain p es hL) ?_
   refine evalArgs_list (mL_plain p es hL) ?_
   refine HL env es pos m E s ρ st _ _ hL R Ev h fun a st1 ρ1 h1 tk vs q R1 S1 it=>?_
   have fr1:∀ (o o':Obj) (b:Addr),b=(h1.push o).objs.size→h1.get? b=none:=fun o o' b e=>by
    rw [e,Heap.size_push]
    cases q:h1.get? (h1.objs.size + 1) with
    | none=>rfl
    | some o=>exact absurd (Heap.lt_size q) (Nat.not_lt.mpr (Nat.le_succ _))
   have fin:∀ (x y:Int) (t u v:Tok) (tk':Tok),0≤x→x < 2 ^ 20→0≤y→y < 2 ^ 20→QI st1 (rangeL x y) none→wpAny (model prog w) A (pyIter (.ref h1.objs.size)) P E { s with heap:=h1.push { cls:=.type "range",data:=.fields #[.int x t,.int y u,.int 1 v] },toks:=tk' }:=fun x y t u v tk' b1 b2 b3 b4 q=>by
    refine wpAny_pyIter_range (IsRange.new ..) (small_one (by lia) (by lia) (by lia) (by lia)) ?_
    have hk:∀ b o,h1.get? b=some o→((h1.push { cls:=.type "range",data:=.fields #[.int x t,.int y u,.int 1 v] }).push { cls:=.type "range_iterator",data:=.fields #[rawInt x,rawInt (Builtin.Range.rangeSize x y 1),rawInt 1] }).get? b=some o:=fun b o e=>Heap.get?_push_of_some _ (Heap.get?_push_of_some _ e)
    have R2:=R1.keeps hk
    refine G _ _ st1 ρ1 _ tk' _ _ _ _ q R2.1 (Step.trans R1 S1 R2.2 fun _ x _=>x) (curRange hh x y) ?_ (fun b hb=>up (h2:=h1) S1 b (fr1 _ default b hb)) fun i hi hb=>?_
    ·have e:Builtin.Range.rangeSize x y 1=((y - x).toNat:Int):=by rw [rangeSize_one]; split <;> lia
     have:=Heap.get?_push_size (h1.push { cls:=.type "range",data:=.fields #[.int x t,.int y u,.int 1 v] }) (o:={ cls:=.type "range_iterator",data:=.fields #[rawInt x,rawInt (Builtin.Range.rangeSize x y 1),rawInt 1] }) rfl
     show IsRangeIter _ _ _ _ _
     rw [e] at this ⊢
     simpa [IsRangeIter] using this
    ·obtain ⟨o,e,_⟩:=R1.there hi
     have e2:=fr1 { cls:=.type "range",data:=.fields #[.int x t,.int y u,.int 1 v] } default _ hb
     rw [e] at e2; cases e2
   rcases srcF_range q with ⟨b,rfl,q⟩ | ⟨x,b,rfl,q⟩
   ·obtain ⟨v,q',rfl,⟨t,rfl⟩,rfl⟩:=it
    exact call_range_1 (fin 0 _ _ _ _ _ (by lia) (by lia) q.1.1 q.1.2 q.2)
   ·obtain ⟨v,q',rfl,⟨t,rfl⟩,v2,q2,rfl,⟨t2,rfl⟩,rfl⟩:=it
    exact call_range_2 (fin _ _ _ _ _ _ q.1.1 q.1.2.1 q.1.2.2.1 q.1.2.2.2 q.2)
 | enum =>
  replace hm:=bCalN_inv hm
  obtain ⟨g,gp,es,pos,rfl,hm⟩:=hm
  ·simp only [Bool.and_eq_true] at hm
   obtain ⟨⟨hg,hgl⟩,hL⟩:=hm
   obtain rfl:=sq_eq hg
   rw [arm_eval_Call_Name']
   refine wpAny_bind (load_blt X.vok R Ev hgl (by simp [bNames]) (v:=.type "enumerate") (fun mb z=>z.4) ?_)
   refine PySem.callWith_type (mL_plain p es hL) ?_
   refine evalArgs_list (mL_plain p es hL) ?_
   refine HL env es pos m E s ρ st _ _ hL R Ev h fun a st1 ρ1 h1 tk vs q R1 S1 it=>?_
   have fr1:∀ b,(b=h1.objs.size + 1∨b=h1.objs.size)→h1.get? b=none:=fun b e=>by
    cases q:h1.get? b with
    | none=>rfl
    | some o =>
     have hl:b < h1.objs.size:=Heap.lt_size q
     rcases e with e | e
     ·rw [e] at hl; exact absurd hl (Nat.not_lt.mpr (Nat.le_succ _))
     ·rw [e] at hl; exact absurd hl (Nat.lt_irrefl _)
   have apart:∀ i,i < st1.length→ρ1 i≠h1.objs.size + 1∧ρ1 i≠h1.objs.size:=fun i hi=>by
    obtain ⟨o,e,_⟩:=R1.there hi
    exact ⟨Nat.ne_of_lt (Nat.lt_succ_of_lt (Heap.lt_size e)),Nat.ne_of_lt (Heap.lt_size e)⟩
   have tup:∀ a,(∃ l,a.toL=some l∧QI st1 (enumL 0 l) none)→∀ v,Val ρ1 st1.length h1 a v→wpAny (model prog w) A (call (.type "enumerate") [v]) (fun x s₁=>wpAny (model prog w) A (pyIter x) P E s₁) E { s with heap:=h1,toks:=tk }:=fun a h v hv=>by
    obtain ⟨l,e,q⟩:=h
    obtain ⟨t,us,rfl,ht,vl⟩:=toL_val e hv
    have htl:t < h1.objs.size:=by obtain ⟨o,ho,_⟩:=ht; exact Heap.lt_size ho
    refine call_enumerate_tuple (s:={ s with heap:=h1,toks:=tk }) ht fun h2 he hi hz hk=>wpAny_pyIter_enum he ?_
    have R2:=R1.keeps hk
    refine G _ _ st1 ρ1 h2 tk _ _ _ _ q R2.1 (Step.trans R1 S1 R2.2 fun _ x _=>x) (curEnumTuple hh (vl.mono (TK.of_keep hk) (Nat.le_refl _) fun _ _=>rfl) (Nat.ne_of_lt (Nat.lt_succ_of_lt htl)) (Nat.ne_of_lt htl) (Nat.succ_ne_self _)) ⟨⟨_,he⟩,hi,isTup_tk ht (TK.of_keep hk)⟩ (fun b hb=>up (h2:=h1) S1 b (fr1 b hb)) fun i hi hb=>?_
    exact hb.elim (apart i hi).1 (apart i hi).2
   rcases srcF_enum q with ⟨i,l,rfl,e,q⟩ | ⟨b,l,rfl,e,q⟩
   ·obtain ⟨v,q',rfl,⟨hi,rfl⟩,rfl⟩:=it
    obtain ⟨us,p,vl⟩:=lst_at (s:={ s with heap:=h1,toks:=tk }) R1 e
    refine call_enumerate_list (s:={ s with heap:=h1,toks:=tk }) p.isList fun h2 he hit hz hk=>wpAny_pyIter_enum he ?_
    have R2:=R1.keeps hk
    refine G _ _ st1 ρ1 h2 tk _ _ _ _ q R2.1 (Step.trans R1 S1 R2.2 fun _ x _=>x) (curEnumList hh e (apart _ hi).1 (apart _ hi).2 (Nat.succ_ne_self _)) ⟨⟨_,he⟩,hit⟩ (fun b hb=>up (h2:=h1) S1 b (fr1 b hb)) fun i hi hb=>?_
    exact hb.elim (apart i hi).1 (apart i hi).2
   ·obtain ⟨v,q',rfl,hv,rfl⟩:=it
    exact tup b ⟨l,e,q⟩ v hv
 | values =>
  replace hm:=bCalA_inv hm
  obtain ⟨o,id,ap,es,q,rfl,hm⟩:=hm
  ·obtain ⟨hz,hm2⟩:=and2 hm
   clear hm
   obtain rfl:=nilL_inv hz
   simp only [Bool.and_eq_true] at hm2
   obtain ⟨⟨⟨hid,hE⟩,hn⟩,hl⟩:=hm2
   obtain rfl:=sq_eq hid
   refine method_call hn rfl (of_decide_eq_true hl) (by simp) ?_
   refine H env o m E s ρ st _ _ hE R Ev h fun a st1 ρ1 h1 tk v qq R1 S1 hv=>?_
   obtain ⟨i,d,rfl,e,qq⟩:=srcF_values qq
   ·obtain ⟨hi,rfl⟩:=hv
    obtain ⟨es,ep,p,vl⟩:=dct_at (s:={ s with heap:=h1,toks:=tk }) R1 e
    have hT:Shared.TypeIs { s with heap:=h1,toks:=tk } (.ref (ρ1 _)) "dict":=dobj_typeIs p
    refine getMethod_builtin hT F.plainAttrs_dict F.slot_dict_values (by rfl) (fun a e=>by cases e; exact ⟨_,p,rfl⟩) ?_
    refine callWith_builtin rfl (PySem.evalArgs_none ?_)
    refine wpAny_call_entry F.slot_dict_values hT F.entry_dict_values (values_tree (M.low (s:={ s with heap:=h1,toks:=tk }) R1 e rfl) p fun h2 hview hk=>⟨_,rfl,?_⟩) (F.args_dict_values_1 _)
    refine iter_values (s:={ s with heap:=h2,toks:=tk }) hview (hk _ _ p) fun h3 hit hk2=>?_
    have k3:∀ b o,h1.get? b=some o→h3.get? b=some o:=fun b o e=>hk2 b o (hk b o e)
    have R2:=R1.keeps k3
    refine G _ _ st1 ρ1 h3 tk _ _ _ _ qq R2.1 (Step.trans R1 S1 R2.2 fun _ x _=>x) (curVals hh e (k3 _ _ p) ?_) (by rw [← vl.size]; exact hit) (fun b hb=>up (h2:=h1) S1 b ?_) fun i hi hb=>?_
    ·obtain ⟨o,e,_⟩:=R1.there hi
     exact Nat.ne_of_lt (Heap.lt_size (hk _ _ e))
    ·cases q:h1.get? b with
     | none=>rfl
     | some o=>have:=Heap.lt_size (hk _ _ q); rw [hb] at this; exact absurd this (Nat.lt_irrefl _)
    ·obtain ⟨o,e,_⟩:=R1.there hi
     have:=Heap.lt_size (hk _ _ e)
     rw [hb] at this; exact absurd this (Nat.lt_irrefl _)
end
end Mine
namespace Mine
section
set_option maxRecDepth 100000
open PySem PySem.W PyProof.Rows PySem.Calls
variable {prog:PySem.Program} {w:World} {cl:Nat→Addr} {B:Heap} {A:Around} {E:Value→Shared→Prop} {s:Shared} {ρ ρ':Nat→Addr} {st st':Store} {h h':Heap} {n:Nat} {m m':Loc} {env:Env} {V:MEnv} {K:Frag} {fa:Nat→Nat→Addr}
theorem EnvR.congr (Ev:EnvR env ρ n h m) (e:∀ y,get m' y=get m y):EnvR env ρ n h m' where
 fn:=Ev.fn
 glob:=Ev.glob
 blt:=Ev.blt
 loc:=let ⟨lm,a,b⟩:=Ev.loc; ⟨lm,a,fun x v k g=>b x v k (by rw [← e]; exact g)⟩
 cel:=fun y hy=>let ⟨c,a,v0,b,d⟩:=Ev.cel y hy; ⟨c,a,v0,b,fun x v t g=>d x v t (by rw [← e]; exact g)⟩
 celK:=Ev.celK
 apart:=Ev.apart
 out:=Ev.out
noncomputable def dropL (m:Loc) (x:Nat):Loc:=m.filter fun p=>!Nat.beq p.1 x
theorem get_drop (m:Loc) (x y:Nat):get (dropL m x) y=if x=y then none else get m y:=by
 induction m with
 | nil=>simp [dropL,get_n,get_c]
 | cons p r ih =>
  obtain ⟨z,u⟩:=p
  unfold dropL at ih ⊢
  by_cases q:z=x
  ·subst q
   simp only [List.filter_cons,Nat.beq_refl,Bool.not_true,Bool.false_eq_true,if_false,ih,get_n,get_c]
   by_cases e:z=y
   ·simp [e]
   ·have:Nat.beq z y=false:=by
     cases q:Nat.beq z y with
     | false=>rfl
     | true=>exact absurd (Nat.eq_of_beq_eq_true q) e
    simp [e,this]
  ·have:Nat.beq z x=false:=by
    cases q2:Nat.beq z x with
    | false=>rfl
    | true=>exact absurd (Nat.eq_of_beq_eq_true q2) q
   simp only [List.filter_cons,this,Bool.not_false,if_true,get_n,get_c,ih]
   cases q2:Nat.beq z y with
   | true =>
    obtain rfl:=Nat.eq_of_beq_eq_true q2
    simp [Ne.symm q]
   | false=>simp
theorem closure_of (env:Env) (S:Str→Prop) (f:(Str×NameKind)→List (Str×Addr)→Sem (ForInStep (List (Str×Addr))))
  (hf:∀ n k cs,f (n,k) cs=if (k == NameKind.free)=true then (cellOf env n >>= fun c=>pure (.yield ((n,c) :: cs))) else pure (.yield cs)) :
  ∀ (names:List (Str×NameKind)) (cs:List (Str×Addr)),(∀ y,(y,NameKind.free)∈names→∃ c,env.cells.lookup y=some c)→(∀ y,(y,NameKind.free)∈names→S y) →
   (∀ y c,cs.lookup y=some c→env.cells.lookup y=some c∧S y) →
   ∃ cl,forIn names cs f=pure cl∧(∀ y c,cl.lookup y=some c→env.cells.lookup y=some c∧S y)∧(∀ y,((y,NameKind.free)∈names∨(cs.lookup y).isSome=true)→(cl.lookup y).isSome=true):=by
 intro names
 induction names with
 | nil=>intro cs _ _ h; exact ⟨cs,rfl,h,fun y z=>z.elim (fun q=>by cases q) id⟩
 | cons p r ih =>
  intro cs h1 h2 h3
  obtain ⟨n,k⟩:=p
  rw [List.forIn_cons,hf]
  by_cases hk:k=.free
  ·subst hk
   obtain ⟨c,hc⟩:=h1 n List.mem_cons_self
   obtain ⟨cl,e,a,b⟩:=ih ((n,c) :: cs) (fun y hy=>h1 y (List.mem_cons_of_mem _ hy)) (fun y hy=>h2 y (List.mem_cons_of_mem _ hy)) fun y c' q=>by
    rw [List.lookup_cons] at q
    cases hb:y == n with
    | true=>rw [hb] at q; cases q; rw [eq_of_beq hb]; exact ⟨hc,h2 n List.mem_cons_self⟩
    | false=>rw [hb] at q; exact h3 y c' q
   refine ⟨cl,?_,a,fun y hy=>b y ?_⟩
   ·have:cellOf env n=pure c:=by unfold cellOf; rw [hc]
    simp only [beq_self_eq_true,if_true,this]
    exact e
   ·by_cases hb:y=n
    ·subst hb; right; simp
    ·have hb':(y == n)=false:=beq_eq_false_iff_ne.mpr hb
     rcases hy with hy | hy
     ·rcases List.mem_cons.mp hy with q | q
      ·cases q; exact absurd rfl hb
      ·exact .inl q
     ·right; rw [List.lookup_cons,hb']; exact hy
  ·have hb:(k == NameKind.free)=false:=by simpa using hk
   obtain ⟨cl,e,a,b⟩:=ih cs (fun y hy=>h1 y (List.mem_cons_of_mem _ hy)) (fun y hy=>h2 y (List.mem_cons_of_mem _ hy)) h3
   refine ⟨cl,by simp only [hb,Bool.false_eq_true,if_false]; exact e,a,fun y hy=>b y ?_⟩
   rcases hy with hy | hy
   ·rcases List.mem_cons.mp hy with q | q
    ·cases q; exact absurd rfl hk
    ·exact .inl q
   ·exact .inr hy
theorem closureFor_of (env:Env) (scope:Scope) (h1:∀ y,(y,NameKind.free)∈scope.names→∃ c,env.cells.lookup y=some c) :
  ∃ cl,closureFor scope env=pure cl∧(∀ y c,cl.lookup y=some c→env.cells.lookup y=some c∧(y,NameKind.free)∈scope.names)∧(∀ y,(y,NameKind.free)∈scope.names→(cl.lookup y).isSome=true):=by
 have H:∀ f:(Str×NameKind)→List (Str×Addr)→Sem (ForInStep (List (Str×Addr))),(∀ n k cs,f (n,k) cs=if (k == NameKind.free)=true then (cellOf env n >>= fun c=>pure (.yield ((n,c) :: cs))) else pure (.yield cs)) →
   ∃ cl,(forIn scope.names [] f >>= fun r=>pure r)=(pure cl:Sem _)∧(∀ y c,cl.lookup y=some c→env.cells.lookup y=some c∧(y,NameKind.free)∈scope.names)∧(∀ y,(y,NameKind.free)∈scope.names→(cl.lookup y).isSome=true):=fun f hf=>by
  obtain ⟨cl,e,a,b⟩:=closure_of env (fun y=>(y,NameKind.free)∈scope.names) f hf scope.names [] h1 (fun y h=>h) (fun y c h=>by cases h)
  exact ⟨cl,by rw [e]; rfl,a,fun y hy=>b y (.inl hy)⟩
 exact H _ fun n k cs=>by cases k <;> rfl
theorem lookup_of_nodup {α:Type} {y:Str} {v:α}:∀ {l:List (Str×α)},(l.map (·.1)).Nodup→(y,v)∈l→l.lookup y=some v:=by
 intro l
 induction l with
 | nil=>intro _ h; cases h
 | cons p r ih =>
  obtain ⟨z,u⟩:=p
  intro nd h
  rw [List.map_cons,List.nodup_cons] at nd
  rw [List.lookup_cons]
  rcases List.mem_cons.mp h with q | q
  ·cases q; simp
  ·have:y≠z:=fun e=>nd.1 (e ▸ List.mem_map.mpr ⟨_,q,rfl⟩)
   rw [beq_eq_false_iff_ne.mpr this]
   exact ih nd.2 q
theorem mem_of_lookup' {α:Type} {y:Str} {v:α}:∀ {l:List (Str×α)},l.lookup y=some v→(y,v)∈l:=by
 intro l
 induction l with
 | nil=>intro h; cases h
 | cons p r ih =>
  obtain ⟨z,u⟩:=p
  intro h
  rw [List.lookup_cons] at h
  cases hb:y == z with
  | true=>rw [hb] at h; cases h; rw [eq_of_beq hb]; exact List.mem_cons_self
  | false=>rw [hb] at h; exact List.mem_cons_of_mem _ (ih h)
structure CompFacts (csc:Scope) (env:Env) (x:Nat):Prop where
 cell:∀ y∈csc.names,y.2≠.cell
 loc:∀ y∈csc.names,y.2=.local→y.1=T x∨y.1=".0"
 kind:csc.kind=.function
 at_:csc.names.lookup (T x)=some .local
 free:∀ y,(y,NameKind.free)∈csc.names→env.kindOf y=some .cell∨env.kindOf y=some .free
 nodup:(csc.names.map (·.1)).Nodup
 dot:T x≠".0"
theorem compFacts {csc:Scope} {x:Nat} (h:compOk csc env.scope x=true):CompFacts csc env x:=by
 simp only [compOk,Bool.and_eq_true] at h
 obtain ⟨⟨⟨⟨⟨h1,h2⟩,h3⟩,h4⟩,h5⟩,h6⟩:=h
 refine ⟨fun y hy e=>?_,fun y hy e=>?_,of_decide_eq_true h2,?_,fun y hy=>?_,of_decide_eq_true h5,fun e=>?_⟩
 ·have:=List.all_eq_true.mp h1 y hy
  rw [e] at this; cases this
 ·have:=List.all_eq_true.mp h1 y hy
  rw [e] at this
  rcases Bool.or_eq_true_iff.mp this with q | q
  ·exact .inl (sq_eq q)
  ·exact .inr (sq_eq q)
 ·set_option tactic.hygienic true in split at h3
  ·rename_i e; exact e
  ·cases h3
 ·have:=List.all_eq_true.mp h4 (y,.free) hy
  dsimp only at this
  unfold Env.kindOf
  set_option tactic.hygienic true in split at this
  ·rename_i e; exact .inl e
  ·rename_i e; exact .inr e
  ·cases this
 ·rw [e] at h6; simp [sq] at h6
theorem relabel_lookup (env:Env):∀ (l:List (Str×NameKind)) (y:Str),(l.map fun (n,k)=>if (k == NameKind.free && env.scope.kind == .function && env.kindOf n == some .cell) then (n,NameKind.cell) else (n,k)).lookup y =
  (l.lookup y).map fun k=>if (k == NameKind.free && env.scope.kind == .function && env.kindOf y == some .cell)=true then NameKind.cell else k:=by
 intro l y
 induction l with
 | nil=>rfl
 | cons p r ih =>
  obtain ⟨n,k⟩:=p
  rw [List.map_cons]
  show List.lookup y ((if (k == NameKind.free && env.scope.kind == .function && env.kindOf n == some .cell)=true then (n,NameKind.cell) else (n,k)) :: _)=_
  by_cases c:(k == NameKind.free && env.scope.kind == .function && env.kindOf n == some .cell)=true
  ·rw [if_pos c,List.lookup_cons,List.lookup_cons]
   cases hb:y == n with
   | true =>
    have e:y=n:=eq_of_beq hb
    subst e
    simp only [Option.map_some,c,if_true]
   | false=>exact ih
  ·rw [if_neg c,List.lookup_cons,List.lookup_cons]
   cases hb:y == n with
   | true =>
    have e:y=n:=eq_of_beq hb
    subst e
    simp only [Option.map_some,c,if_false]
    rfl
   | false=>exact ih
theorem comp_kind {csc:Scope} {x:Nat} (F:CompFacts csc env x) {cls:List (Str×Addr)} {C:Addr} {y:Str} :
  ((compEnvC csc cls C env).kindOf y=some .cell∨(compEnvC csc cls C env).kindOf y=some .free↔(y,NameKind.free)∈csc.names)∧((compEnvC csc cls C env).kindOf y=some .local↔(y,NameKind.local)∈csc.names):=by
 have e:(compEnvC csc cls C env).kindOf y=_:=relabel_lookup env csc.names y
 rw [e]
 constructor
 ·constructor
  ·intro h
   cases q:csc.names.lookup y with
   | none=>rw [q] at h; simp at h
   | some k =>
    rw [q] at h
    have hm:=mem_of_lookup' q
    have hnc:=F.cell _ hm
    simp only [Option.map_some,Option.some.injEq] at h
    set_option tactic.hygienic true in split at h
    ·rename_i c
     simp only [Bool.and_eq_true] at c
     have:k=.free:=by simpa using c.1.1
     rw [← this]; exact hm
    ·rcases h with h | h
     ·exact absurd h hnc
     ·rw [← h]; exact hm
  ·intro h
   rw [lookup_of_nodup F.nodup h]
   simp only [Option.map_some,Option.some.injEq]
   set_option tactic.hygienic true in split
   ·exact .inl rfl
   ·exact .inr rfl
 ·constructor
  ·intro h
   cases q:csc.names.lookup y with
   | none=>rw [q] at h; simp at h
   | some k =>
    rw [q] at h
    have hm:=mem_of_lookup' q
    simp only [Option.map_some,Option.some.injEq] at h
    set_option tactic.hygienic true in split at h
    ·cases h
    ·rw [← h]; exact hm
  ·intro h
   rw [lookup_of_nodup F.nodup h]
   rfl
theorem comp_env (Ev:EnvR env ρ n h m) {csc:Scope} {x:Nat} (F:CompFacts csc env x) {cls:List (Str×Addr)} {C:Addr} {mC:Str→Option Value} (hcl:∀ y c,cls.lookup y=some c→env.cells.lookup y=some c∧(y,NameKind.free)∈csc.names)
  (hcs:∀ y,(y,NameKind.free)∈csc.names→(cls.lookup y).isSome=true) (keep:∀ b o,h.get? b=some o→h'.get? b=some o) (hC:h'.Ns C mC) (hf:h.get? C=none) (hout:∀ i,i < n→∃ o,h.get? (ρ i)=some o)
  (hdot:∀ y,T y≠".0"):EnvR (compEnvC csc cls C env) ρ n h' (dropL m x) where
 fn:=F.kind
 glob:=Ev.glob
 blt:=Ev.blt
 loc:=⟨mC,hC,fun y v k g=>by
  have hm:=comp_kind F |>.2.mp k
  rcases F.loc _ hm rfl with e | e
  ·rw [get_drop,if_pos (T_inj e.symm)] at g; cases g
  ·exact absurd e (hdot y)⟩
 cel:=fun y hy=>by
  have hm:=comp_kind F |>.1.mp hy
  obtain ⟨c,hc⟩:=Option.isSome_iff_exists.mp (hcs y hm)
  obtain ⟨c',e,v0,⟨o,a,d⟩,b⟩:=Ev.cel y (F.free y hm)
  rw [(hcl y c hc).1] at e; cases e
  refine ⟨c,hc,v0,⟨o,keep _ _ a,d⟩,fun z v t g=>?_⟩
  rw [get_drop] at g
  split at g
  ·cases g
  ·obtain ⟨u,a',b'⟩:=b z v t g
   exact ⟨u,a',b'.mono (TK.of_keep keep) (Nat.le_refl _) fun _ _=>rfl⟩
 celK:=fun y c hc=>comp_kind F |>.1.mpr (hcl y c hc).2
 apart:=fun y z c h1 h2=>Ev.apart y z c (hcl y c h1).1 (hcl z c h2).1
 out:=fun i hi=>⟨fun e=>(by
  obtain ⟨o,ho⟩:=hout i hi
  rw [e] at ho
  rw [show (compEnvC csc cls C env).locals=C from rfl,hf] at ho; cases ho),fun y e=>(Ev.out i hi).2 y (hcl y _ e).1⟩
end
end Mine
namespace Mine
section
set_option maxRecDepth 100000
open PySem PySem.W PyProof.Rows PySem.Calls
variable {prog:PySem.Program} {w:World} {cl:Nat→Addr} {B:Heap} {A:Around} {E:Value→Shared→Prop} {s:Shared} {ρ ρ':Nat→Addr} {st st':Store} {h h':Heap} {n:Nat} {m m':Loc} {env:Env} {V:MEnv} {K:Frag} {fa:Nat→Nat→Addr}
theorem dot_free:∀ y,T y≠".0":=by
 intro y e
 by_cases h:y < T0.length
 ·have:((T0.map Str.ofString).all fun s=>!sq s ".0")=true:=by decide +kernel
  have e':T y=Str.ofString T0[y]:=by unfold T; rw [List.getElem?_eq_getElem h]
  have:=List.all_eq_true.mp this (Str.ofString T0[y]) (List.mem_map.mpr ⟨_,List.getElem_mem h,rfl⟩)
  rw [← e',e] at this
  simp [sq] at this
 ·rw [T_high h] at e
  have e2:=congrArg (fun s:Str=>s.cps.size) e
  have:(Str.ofString ".0").cps.size=2:=by decide +kernel
  simp at e2
  lia
theorem store_loc {x:Nat} {v:AV} {u:Value} {Q:Unit→Shared→Prop} (R:Rel w cl B ρ st s.heap) (Ev:EnvR env ρ st.length s.heap m) (hB:B.get? env.locals=none) (hx:env.kindOf (T x)=some .local) (hv:Val ρ st.length s.heap v u)
  (hQ:∀ h' tk,Rel w cl B ρ st h'→EnvR env ρ st.length h' (put m x v)→Step (fun b=>b=env.locals) ρ st s.heap ρ st h'→Heap.SameBut env.locals s.heap h'→Q () { s with heap:=h',toks:=tk }) :
  wpAny (model prog w) A (storeName env (T x) u) Q E s:=by
 obtain ⟨lm,a,b⟩:=Ev.loc
 refine wpAny_storeName_local hx a (fun h' hn hs=>?_) (by rw [Ev.fn]; rfl)
 have hneA:∀ y c,env.cells.lookup y=some c→env.locals≠c:=fun y c e q=>by
  obtain ⟨c',e',v0,⟨o,a,d⟩,b⟩:=Ev.cel _ (Ev.celK _ c e)
  rw [e] at e'; cases e'
  obtain ⟨lm,⟨o',es,ep,a',d',_⟩,_⟩:=Ev.loc
  rw [q,a] at a'; cases a'
  rw [d] at d'; cases d'
 have RS:=R.but (W:=fun b=>b=env.locals) (h':=h') (fun b o hb e=>(hs.2 b hb).trans e) (fun i hi e=>(Ev.out i hi).1 e) (fun b e=>e ▸ hB) fun b o hb e=>by
  obtain ⟨o',e',z⟩:=Ev.there (.inl hb)
  rw [e] at e'; cases e'; exact .inr z
 have S:=RS.2
 refine hQ h' _ RS.1 ⟨Ev.fn,Ev.glob,Ev.blt,⟨_,hn,fun y z ky gy=>?_⟩,fun y hy=>?_,Ev.celK,Ev.apart,Ev.out⟩ S hs
 ·rw [get_put] at gy
  by_cases e:x=y
  ·subst e
   rw [if_pos rfl] at gy; cases gy
   exact ⟨u,if_pos rfl,hv.step S⟩
  ·rw [if_neg e] at gy
   obtain ⟨u',c,d⟩:=b y z ky gy
   exact ⟨u',(if_neg (fun q=>e (T_inj q).symm)).trans c,d.step S⟩
 ·obtain ⟨c,e,v0,⟨o,q,d⟩,b'⟩:=Ev.cel y hy
  refine ⟨c,e,v0,⟨o,(hs.2 c (hneA y c e).symm).trans q,d⟩,fun z z' ez gz=>?_⟩
  rw [get_put] at gz
  by_cases ee:x=z
  ·subst ee; subst ez
   rw [hx] at hy; rcases hy with hy | hy <;> cases hy
  ·rw [if_neg ee] at gz
   obtain ⟨u',f,g⟩:=b' z z' ez gz
   exact ⟨u',f,g.step S⟩
theorem get_put_drop (m0 m:Loc) (x:Nat) (v:AV) (h:∀ y,x≠y→get m0 y=get m y) (y:Nat):get (put m x v) y=get (put m0 x v) y:=by
 rw [get_put,get_put]
 by_cases e:x=y
 ·rw [if_pos e,if_pos e]
 ·rw [if_neg e,if_neg e,h y e]
noncomputable def ifsOk (cond:PE) (sc:Scope) (ifs:List Expr):Bool:=ifsB ifs (isTrueC cond) fun c=>mE sc cond c
theorem ifs_sound {cond:PE} (H:TrS prog w cl B A V cond) {ifs:List Expr} {Q:AV→Store→Prop} {P:Bool→Shared→Prop} (hm:ifsOk cond env.scope ifs=true) (R:Rel w cl B ρ st s.heap) (Ev:EnvR env ρ st.length s.heap m) (h:evW V cond m st Q) (G:GoalB w cl B ρ st s Q P) :
  wpAny (model prog w) A (forIn ifs true fun c r=>if r=true then do let ok ← isTrue c env (eval c env); pure (ForInStep.yield ok) else pure (ForInStep.yield r)) P E s:=by
 cases ifs with
 | nil =>
  obtain rfl:=isTrueC_inv hm
  have h:Q (.bool true) st:=h
  obtain ⟨b,e,p⟩:=G _ st ρ s.heap s.toks h R (Step.refl _)
  cases e
  rw [List.forIn_nil]
  exact wpAny_pure p
 | cons c r =>
  obtain ⟨h1,hm⟩:=and2 hm
  obtain rfl:=nilL_inv h1
  rw [List.forIn_cons]
  simp only [if_true]
  refine wpAny_bind (wpAny_bind (wpAny_mono (H env c m E s ρ st Q P hm R Ev h G) (fun b s' p=>wpAny_pure ?_) fun _ _ e=>e))
  show wpAny _ _ (forIn [] b _) _ _ _
  rw [List.forIn_nil]
  exact wpAny_pure p
theorem Step.add {W W':Addr→Prop} {ρ₁ ρ₂ ρ₃:Nat→Addr} {st₁ st₂ st₃:Store} {h₁ h₂ h₃:Heap} (S:Step W ρ₁ st₁ h₁ ρ₂ st₂ h₂) (R₂:Rel w cl B ρ₂ st₂ h₂) (S':Step W' ρ₂ st₂ h₂ ρ₃ st₃ h₃) (i:∀ b,W' b→W b):Step W ρ₁ st₁ h₁ ρ₃ st₃ h₃ :=
 Step.trans R₂ S S' fun x hx _=>i x hx
theorem comp_loop {elt cond:PE} {x:Nat} (He:EvS prog w cl B A V elt) (Hc:TrS prog w cl B A V cond) {el it:Expr} {px pos:Pos} {ifs:List Expr} {csc:Scope} {k:SK} (hk:k≠.enum) {cls:List (Str×Addr)}
  {I D C:Addr} {own:Addr→Prop} {items:List AV} {src:Option Nat} {ρ1:Nat→Addr} {st1:Store} {h1:Heap} {It:Nat→Heap→Prop} {Mid:Nat→Value→Heap→Prop} {Qc:List AV→Store→Prop} {RR:Result→Shared→Prop}
  (Cu:Cur prog w cl B A I own items src (okTof k) ρ1 st1 h1 It Mid) (Fc:CompFacts csc env x) (hmE:mE (relab csc env.scope) elt el=true) (hmC:ifsOk cond (relab csc env.scope) ifs=true)
  (hW:∀ b,(b=C∨own b∨b=D)→B.get? b=none) (hoD:¬ own D) (hoC:¬ own C) (hDC:D≠C) (hoE:∀ y c,cls.lookup y=some c→¬ own c∧c≠D)
  (hQ:∀ (out:List AV) (st':Store) (ρ':Nat→Addr) (h':Heap) (tk:Tok) (vs:List Value) (mC:Str→Option Value),Qc out st'→Rel w cl B ρ' st' h'→Step (fun b=>b=C∨own b∨b=D) ρ1 st1 h1 ρ' st' h'→h'.Ns C mC→h'.PlainList D vs.toArray→VL ρ' st'.length h' out vs→(∀ i,i < st'.length→ρ' i≠D∧ρ' i≠C) →
   RR (.ok .next) { s with heap:=h',toks:=tk }) :
  ∀ (s':Shared) (j:Nat) (ρ':Nat→Addr) (st':Store) (h':Heap) (tk:Tok) (acc:List AV) (vs:List Value) (m':Loc),s'={ s with heap:=h',toks:=tk }→j≤items.length →
   compW (fun v s Q=>evW V cond (put m x v) s Q) (fun v s Q=>evW V elt (put m x v) s Q) (keepF src st1) (items.drop j) st' acc Qc→Rel w cl B ρ' st' h'→EnvR (compEnvC csc cls C env) ρ' st'.length h' m'→(∀ y,x≠y→get m' y=get m y)→Step (fun b=>b=C∨own b∨b=D) ρ1 st1 h1 ρ' st' h'→It j h' →
   h'.PlainList D vs.toArray→VL ρ' st'.length h' acc vs→(∀ i,i < st'.length→ρ' i≠D∧¬ own (ρ' i)) →
   codeAny (model prog w) A (.compLoop (.ListComp el [⟨.Name (T x) px,it,ifs,0⟩] csc pos) 0 (.ref I) (.ref D) (compEnvC csc cls C env)) RR s':=by
 intro s' j ρ' st' h' tk acc vs m' es hj hw R Ev hm S i0 hp hv hap
 have hkl:(compEnvC csc cls C env).kindOf (T x)=some .local:=(comp_kind Fc).2.mpr (mem_of_lookup' Fc.at_)
 refine codeAny_compLoop_tests (fun n s'=>Ex8 fun (j:Nat) (ρ':Nat→Addr) (st':Store) (h':Heap) (tk:Tok) (acc:List AV) (vs:List Value) (m':Loc)=>And12 (s'={ s with heap:=h',toks:=tk }) (n=items.length + 1 - j) (j≤items.length) (compW (fun v s Q=>evW V cond (put m x v) s Q) (fun v s Q=>evW V elt (put m x v) s Q) (keepF src st1) (items.drop j) st' acc Qc) (Rel w cl B ρ' st' h') (EnvR (compEnvC csc cls C env) ρ' st'.length h' m') (∀ y,x≠y→get m' y=get m y) (Step (fun b=>b=C∨own b∨b=D) ρ1 st1 h1 ρ' st' h') (It j h') (h'.PlainList D vs.toArray) (VL ρ' st'.length h' acc vs) (∀ i,i < st'.length→ρ' i≠D∧¬ own (ρ' i))) ?_ (items.length + 1 - j) ⟨j,ρ',st',h',tk,acc,vs,m',es,rfl,hj,hw,R,Ev,hm,S,i0,hp,hv,hap⟩
 clear es hj hw R Ev hm S i0 hp hv hap s' j ρ' st' h' tk acc vs m'
 rintro n s' ⟨j,ρ',st',h',tk,acc,vs,m',rfl,rfl,hj,hw,R,Ev,hm,S,i0,hp,hv,hap⟩
 have ownB:∀ b,own b→B.get? b=none:=fun b hb=>hW b (.inr (.inl hb))
 have ownT:∀ {jj:Nat} {hh:Heap},It jj hh→∀ b o,own b→hh.get? b=some o→o.cls≠.type "tuple"∨∀ vs c,o.data≠.seq vs c:=fun hi b o hb e=>by
  obtain ⟨o',e',z⟩:=Cu.live _ _ b hi hb
  rw [e] at e'; cases e'; exact .inr z
 have ownEnv:∀ b,own b→¬ EnvW (compEnvC csc cls C env) b:=fun b hb q=>by
  rcases q with q | ⟨y,q⟩
  ·exact hoC (by rw [← show (compEnvC csc cls C env).locals=C from rfl,← q]; exact hb)
  ·exact (hoE y b q).1 hb
 have DEnv:∀ b,b=D→¬ EnvW (compEnvC csc cls C env) b:=fun b hb q=>by
  rcases q with q | ⟨y,q⟩
  ·exact hDC (hb.symm.trans q)
  ·exact (hoE y b q).2 hb
 have isD:∀ {hh:Heap} {us:Array Value},hh.PlainList D us→∀ b o,b=D→hh.get? b=some o→o.cls≠.type "tuple"∨∀ vs c,o.data≠.seq vs c:=fun p b o hb e=>by
  obtain ⟨c,pc⟩:=p
  rw [hb,pc] at e; cases e; exact .inl (by show Value.type "list"≠Value.type "tuple"; decide)
 rcases Nat.lt_or_ge j items.length with hlt | hge
 ·rw [List.drop_eq_getElem_cons hlt] at hw
  obtain ⟨hk0,hw⟩:=hw
  refine Cu.item j items[j] { s with heap:=h',toks:=tk } ρ' st' _ _ _ (List.getElem?_eq_getElem hlt) i0 R S hk0 (fun i hi=>(hap i hi).2) fun v h2 tk2 hmid hval hch=>?_
  have RS2:=R.but (W:=own) (h':=h2) (fun b o hb e=>hch b o hb e) (fun i hi=>(hap i hi).2) ownB (fun b o hb e=>ownT i0 b o hb e)
  have Ev2:=Ev.step' RS2.2 ownEnv
  have e:(letOwnedTupleGo (.Name (T x) px) (.ref I) v >>= fun _=>assign (.Name (T x) px) (compEnvC csc cls C env) v)=assign (.Name (T x) px) (compEnvC csc cls C env) v:=rfl
  dsimp only
  rw [← e]
  refine wpAny_bind (Cu.go j (.Name (T x) px) v { s with heap:=h2,toks:=tk2 } _ _ (by cases k <;> first | trivial | exact absurd rfl hk) hmid fun h3 i3 k3=>?_)
  have hall:∀ b o,¬ own b→h'.get? b=some o→h3.get? b=some o:=fun b o hb q=>k3 b o hb (hch b o hb q)
  have RS3:=R.but (W:=own) (h':=h3) hall (fun i hi=>(hap i hi).2) ownB (fun b o hb e=>ownT i0 b o hb e)
  have Ev3:=Ev.step' RS3.2 ownEnv
  have val3:Val ρ' st'.length h3 items[j] v:=hval.tk (TK.but' (W:=own) (fun b o hb q=>k3 b o hb q) fun b o hb q=>by
   obtain ⟨o',e',z⟩:=Cu.liveM _ _ _ b hmid hb
   have q':h2.get? b=some o:=q
   rw [e'] at q'; cases q'; exact .inr z)
  refine wpAny_assign_Name (store_loc (s:={ s with heap:=h3,toks:=tk2 }) RS3.1 Ev3 (hW _ (.inl rfl)) hkl val3 fun h4 tk4 R4 Ev4 S4 hs4=>?_)
  have i4:It (j + 1) h4:=Cu.frame _ _ _ i3 (fun b o hb q=>(hs4.2 b (fun z=>hoC ((show b=C from z) ▸ hb))).trans q) S4.tk
  have hp4:h4.PlainList D vs.toArray:=hp.at fun o q=>(hs4.2 D hDC).trans (hall D o hoD q)
  have S4':Step (fun b=>b=C∨own b∨b=D) ρ1 st1 h1 ρ' st' h4:=(S.add R RS3.2 fun b hb=>.inr (.inl hb)).add RS3.1 S4 fun b hb=>.inl hb
  have hv4:VL ρ' st'.length h4 acc vs:=(hv.step RS3.2).step S4
  refine ifs_sound (s:={ s with heap:=h4,toks:=tk4 }) Hc hmC R4 (Ev4.congr fun y=>get_put_drop m' m x _ (fun y e=>hm y e) y) hw fun a st5 ρ5 h5 tk5 q5 R5 S5=>?_
  have Ev5:=Ev4.step S5
  have i5:It (j + 1) h5:=Cu.frame _ _ _ i4 (fun b o hb q=>S5.out b o (fun x=>x) (fun i hi z=>(hap i hi).2 (z ▸ hb)) q) S5.tk
  have hp5:h5.PlainList D vs.toArray:=hp4.at fun o q=>S5.out D o (fun x=>x) (fun i hi z=>(hap i hi).1 z.symm) q
  have hap5:∀ i,i < st5.length→ρ5 i≠D∧¬ own (ρ5 i):=fun i hi=>by
   rcases Nat.lt_or_ge i st'.length with h | h
   ·rw [S5.ag i h]; exact hap i h
   ·have nn:=S5.new i h hi (fun x=>x)
    refine ⟨fun z=>?_,fun z=>?_⟩
    ·obtain ⟨c,pc⟩:=hp4; rw [z,pc] at nn; cases nn
    ·obtain ⟨o,e,_⟩:=Cu.live _ _ _ i4 z; rw [e] at nn; cases nn
  have hv5:=hv4.step S5
  have S5':Step (fun b=>b=C∨own b∨b=D) ρ1 st1 h1 ρ5 st5 h5:=S4'.add R4 S5 fun b hb=>hb.elim
  have m5:∀ y,x≠y→get (put m' x items[j]) y=get m y:=fun y e=>by rw [get_put,if_neg e]; exact hm y e
  rcases boolM_inv q5 with ⟨rfl,q5⟩ | ⟨rfl,q5⟩
  ·refine ⟨true,rfl,?_⟩
   rw [if_pos rfl]
   refine He (compEnvC csc cls C env) el (put m x items[j]) _ { s with heap:=h5,toks:=tk5 } ρ5 st5 _ _ hmE R5 (Ev5.congr fun y=>get_put_drop m' m x _ (fun y e=>hm y e) y) q5 fun a6 st6 ρ6 h6 tk6 v6 q6 R6 S6 val6=>?_
   have hp6:h6.PlainList D vs.toArray:=hp5.at fun o q=>S6.out D o (fun x=>x) (fun i hi z=>(hap5 i hi).1 z.symm) q
   refine wpAny_list_append_plain (s:={ s with heap:=h6,toks:=tk6 }) hp6 (fun h7 p7 hs7=>?_) (by rw [List.size_toArray,hv5.len,szLine]; have:=q6.1; lia)
   have hap6:∀ i,i < st6.length→ρ6 i≠D∧¬ own (ρ6 i):=fun i hi=>by
    rcases Nat.lt_or_ge i st5.length with h | h
    ·rw [S6.ag i h]; exact hap5 i h
    ·have nn:=S6.new i h hi (fun x=>x)
     refine ⟨fun z=>?_,fun z=>?_⟩
     ·obtain ⟨c,pc⟩:=hp5; rw [z,show ({ s with heap:=h5,toks:=tk5 }:Shared).heap=h5 from rfl,pc] at nn; cases nn
     ·obtain ⟨o,e,_⟩:=Cu.live _ _ _ i5 z; rw [show ({ s with heap:=h5,toks:=tk5 }:Shared).heap=h5 from rfl,e] at nn; cases nn
   have i6:It (j + 1) h6:=Cu.frame _ _ _ i5 (fun b o hb q=>S6.out b o (fun x=>x) (fun i hi z=>(hap5 i hi).2 (z ▸ hb)) q) S6.tk
   have RS7:=R6.but (W:=fun b=>b=D) (h':=h7) (fun b o hb e=>(hs7.2 b hb).trans e) (fun i hi=>(hap6 i hi).1) (fun b hb=>hW b (.inr (.inr hb))) (isD hp6)
   have i7:It (j + 1) h7:=Cu.frame _ _ _ i6 (fun b o hb q=>(hs7.2 b (fun z=>hoD (z ▸ hb))).trans q) RS7.2.tk
   refine ⟨items.length + 1 - (j + 1),by lia,j + 1,ρ6,st6,h7,tk6,acc++[a6],vs++[v6],put m' x items[j],rfl,rfl,hlt,q6.2,RS7.1,(Ev5.step S6).step' RS7.2 DEnv,m5,(S5'.add R5 S6 fun b hb=>hb.elim).add R6 RS7.2 fun b hb=>.inr (.inr hb),i7,by simpa using p7,
    ((hv5.step S6).append (.cons val6 .nil)).step RS7.2,hap6⟩
  ·refine ⟨false,rfl,?_⟩
   rw [if_neg Bool.false_ne_true]
   exact ⟨items.length + 1 - (j + 1),by lia,j + 1,ρ5,st5,h5,tk5,acc,vs,put m' x items[j],rfl,rfl,hlt,q5,R5,Ev5,m5,S5',i5,hp5,hv5,hap5⟩
 ·have hj':j=items.length:=Nat.le_antisymm hj hge
  subst hj'
  rw [List.drop_length] at hw
  obtain ⟨hk0,hw⟩:=hw
  refine Cu.done { s with heap:=h',toks:=tk } ρ' st' _ _ _ i0 R S hk0 fun h2 tk2 hch=>?_
  have RS2:=R.but (W:=own) (h':=h2) (fun b o hb e=>hch b o hb e) (fun i hi=>(hap i hi).2) ownB (fun b o hb e=>ownT i0 b o hb e)
  obtain ⟨lm,hn,_⟩:=Ev.loc
  exact hQ acc st' ρ' h2 tk2 vs lm hw RS2.1 (S.add R RS2.2 fun b hb=>.inr (.inl hb)) (hn.at' fun o q=>hch _ o hoC q) (hp.at fun o q=>hch _ o hoD q) (hv.step RS2.2) fun i hi=>⟨(hap i hi).1,(Ev.out i hi).1⟩
end
end Mine
namespace Mine
section
set_option maxRecDepth 100000
open PySem PySem.W PyProof.Rows PySem.Calls
variable {prog:PySem.Program} {w:World} {cl:Nat→Addr} {B:Heap} {A:Around} {E:Value→Shared→Prop} {s:Shared} {ρ ρ':Nat→Addr} {st st':Store} {h h':Heap} {n:Nat} {m m':Loc} {env:Env} {V:MEnv} {K:Frag} {fa:Nat→Nat→Addr}
theorem Step.fresh {W W':Addr→Prop} (S:Step W ρ st h ρ' st' h') (f:∀ b,W b→h.get? b=none):Step W' ρ st h ρ' st' h' where
 le:=S.le
 ag:=S.ag
 tk:=S.tk
 out:=fun b o _ hi e=>S.out b o (fun x=>by rw [f b x] at e; cases e) hi e
 ex:=fun b o _ e=>S.ex b o (fun x=>by rw [f b x] at e; cases e) e
 new:=fun i a b _=>by
  by_cases x:W (ρ' i)
  ·exact f _ x
  ·exact S.new i a b x
 dep:=S.dep
theorem comp_core (X:Body prog w cl B A V fa K) {elt src cond:PE} {x:Nat} {k:SK} (He:EvS prog w cl B A V elt) (Hc:TrS prog w cl B A V cond) (Hs:EvS prog w cl B A V src) (HsL:EvL prog w cl B A V src) {el it:Expr} {px pos:Pos} {ifs:List Expr} {csc:Scope} (hk:k≠.enum)
  {cls:List (Str×Addr)} {Q:AV→Store→Prop} {RR:Value→Addr→Result→Shared→Prop} (Fc:CompFacts csc env x) (hmE:mE (relab csc env.scope) elt el=true) (hmS:mSrc env.scope k src it=true) (hmC:ifsOk cond (relab csc env.scope) ifs=true)
  (hcl:∀ y c,cls.lookup y=some c→env.cells.lookup y=some c∧(y,NameKind.free)∈csc.names) (hcs:∀ y,(y,NameKind.free)∈csc.names→(cls.lookup y).isSome=true)
  (R:Rel w cl B ρ st s.heap) (Ev:EnvR env ρ st.length s.heap m) (h:evW V (.comp elt x k src cond) m st Q)
  (hRR:∀ (W:Addr→Prop) (out:List AV) (st':Store) (ρ':Nat→Addr) (h':Heap) (tk:Tok) (D C:Addr) (vs:List Value) (mC:Str→Option Value),Q (.ref st'.length) (st'++[.lst out])→Rel w cl B ρ' st' h'→Step W ρ st s.heap ρ' st' h'→(∀ b,W b→s.heap.get? b=none)→W D→W C→h'.Ns C mC→h'.PlainList D vs.toArray→VL ρ' st'.length h' out vs→D≠C →
   (∀ i,i < st'.length→ρ' i≠D∧ρ' i≠C)→RR (.ref D) C (.ok .next) { s with heap:=h',toks:=tk }) :
  wpAny (model prog w) A (eval it env) (fun xv s₁=>wpAny (model prog w) A (pyIter xv) (fun itv s₂=>wpAny (model prog w) A (newList []) (fun acc s₃=>wpAny (model prog w) A (newFunctionEnv csc env.globals cls [] env.qual none .none (some env)) (fun cenv s₄ =>
   codeAny (model prog w) A (.compStart (.ListComp el [⟨.Name (T x) px,it,ifs,0⟩] csc pos) 0 itv acc { cenv with scope:=relabel csc env }) (RR acc cenv.locals) s₄) E s₃) E s₂) E s₁) E s:=by
 refine src_sound X Hs HsL (QI:=fun s1 items i=>compW (fun v s Q=>evW V cond (put m x v) s Q) (fun v s Q=>evW V elt (put m x v) s Q) (keepF i s1) items s1 [] fun out s2=>Q (AV.ref s2.length) (s2++[AObj.lst out])) hmS R Ev h
  fun items srci st1 ρ1 h1 tk I own It Mid q R1 S1 Cu i0 fr hap=>?_
 refine wpAny_newObj_type (wpAny_newFunctionEnv Fc.cell (by intro y hy; simp at hy) (fun h₂ hns₂ hsb₂=>?_) Fc.kind)
 dsimp only at hns₂ hsb₂ ⊢
 generalize hH:h1.push { cls:=.type "list",dict:=none,data:=.seq ([]:List Value).toArray }=H2 at hns₂ hsb₂ ⊢
 have hC:H2.objs.size=h1.objs.size + 1:=by rw [← hH,Heap.size_push]
 have hDC:h1.objs.size≠H2.objs.size:=by rw [hC]; exact Nat.ne_of_lt (Nat.lt_succ_self _)
 have old:∀ b o,h1.get? b=some o→h₂.get? b=some o:=fun b o e=>hsb₂.extBut b o (by rw [hC]; exact Nat.ne_of_lt (Nat.lt_succ_of_lt (Heap.lt_size e))) (Heap.get?_push_of_some _ (hH ▸ Heap.get?_push_of_some _ e))
 have hacc:h₂.PlainList h1.objs.size #[]:=⟨_,hsb₂.extBut _ _ hDC (Heap.get?_push_of_some _ (hH ▸ Heap.get?_push_size _ rfl))⟩
 have R2:=R1.keeps old
 have i2:It 0 h₂:=Cu.frame _ _ _ i0 (fun b o _ e=>old b o e) (TK.of_keep old)
 have frD:h1.get? h1.objs.size=none:=none_at_size _
 have frC:h1.get? H2.objs.size=none:=by
  cases q:h1.get? H2.objs.size with
  | none=>rfl
  | some o=>have:=Heap.lt_size q; rw [hC] at this; exact absurd this (Nat.not_lt.mpr (Nat.le_succ _))
 have up:∀ b,h1.get? b=none→s.heap.get? b=none:=fun b e=>by
  cases q:s.heap.get? b with
  | none=>rfl
  | some o=>obtain ⟨o',e'⟩:=S1.ex b o (fun x=>x) q; rw [e] at e'; cases e'
 have frB:∀ b,s.heap.get? b=none→B.get? b=none:=fun b e=>by
  cases q:B.get? b with
  | none=>rfl
  | some o=>rw [R.keep b o q] at e; cases e
 have hoD:¬ own h1.objs.size:=fun hb=>by
  obtain ⟨o,e,_⟩:=Cu.live _ _ _ i0 hb; rw [frD] at e; cases e
 have hoC:¬ own H2.objs.size:=fun hb=>by
  obtain ⟨o,e,_⟩:=Cu.live _ _ _ i0 hb; rw [frC] at e; cases e
 have hfresh:∀ b,(b=H2.objs.size∨own b∨b=h1.objs.size)→s.heap.get? b=none:=fun b hb=>by
  rcases hb with rfl | hb | rfl
  ·exact up _ frC
  ·exact fr b hb
  ·exact up _ frD
 have apD:∀ i,i < st1.length→ρ1 i≠h1.objs.size∧¬ own (ρ1 i):=fun i hi=>⟨fun e=>(by
  obtain ⟨o,a,_⟩:=R1.there hi; rw [e,frD] at a; cases a),hap i hi⟩
 have hoE:∀ y c,cls.lookup y=some c→¬ own c∧c≠h1.objs.size:=fun y c e=>by
  obtain ⟨c',e',v0,⟨o,a,_⟩,_⟩:=Ev.cel y (Ev.celK y c (hcl y c e).1)
  rw [(hcl y c e).1] at e'; cases e'
  refine ⟨fun hb=>?_,fun q=>?_⟩
  ·rw [fr c hb] at a; cases a
  ·rw [q,up _ frD] at a; cases a
 have Ev1:=Ev.step S1
 have Ev2:EnvR (compEnvC csc cls H2.objs.size env) ρ1 st1.length h₂ (dropL m x):=comp_env Ev1 Fc hcl hcs old hns₂ frC (fun i hi=>let ⟨o,e,_⟩:=R1.there hi; ⟨o,e⟩) dot_free
 have loop:∀ s',s'={ s with heap:=h₂,toks:=tk + ([]:List (Str×Value)).length } →
   codeAny (model prog w) A (.compLoop (.ListComp el [⟨.Name (T x) px,it,ifs,0⟩] csc pos) 0 (.ref I) (.ref h1.objs.size) (compEnvC csc cls H2.objs.size env)) (RR (.ref h1.objs.size) H2.objs.size) s':=fun s' e =>
  comp_loop (s:=s) (m:=m) He Hc hk Cu Fc hmE hmC (fun b hb=>frB b (hfresh b hb)) hoD hoC hDC hoE
   (fun out st' ρ' h' tk' vs mC q R' S' hn hp hv hap'=>hRR (fun b=>b=H2.objs.size∨own b∨b=h1.objs.size) out st' ρ' h' tk' h1.objs.size H2.objs.size vs mC q R' (Step.trans R1 (S1.weak fun b hb=>hb.elim) S' fun x hx _=>hx) hfresh (.inr (.inr rfl)) (.inl rfl) hn hp hv hDC hap')
   s' 0 ρ1 st1 h₂ _ [] [] (dropL m x) e (Nat.zero_le _) (by rw [List.drop_zero]; exact q) R2.1 Ev2 (fun y hy=>by rw [get_drop,if_neg hy]) (R2.2.weak fun b hb=>hb.elim) i2 hacc .nil apD
 exact codeAny_compStart_list (loop _ rfl) (Cu.self 0 _ _ _ i2 (loop _ rfl))
theorem mE_comp {elt src cond:PE} {x:Nat} {k:SK} {sc:Scope} {e:Expr} (h:mE sc (.comp elt x k src cond) e=true) :
  Ex6 fun el px it ifs csc pos=>And6 (e=.ListComp el [⟨.Name (T x) px,it,ifs,0⟩] csc pos) (compOk csc sc x=true) (mE (relab csc sc) elt el=true) (k≠.enum) (mSrc sc k src it=true) (ifsOk cond (relab csc sc) ifs=true):=by
 replace h:=bComp_inv h
 obtain ⟨el,id,px,it,ifs,csc,pos,rfl,h⟩:=h
 simp only [Bool.and_eq_true] at h
 obtain ⟨⟨⟨⟨⟨h1,h2⟩,h3⟩,h4⟩,h5⟩,h6⟩:=h
 obtain rfl:=sq_eq h1
 exact ⟨el,px,it,ifs,csc,pos,rfl,h2,h3,(by rintro rfl; cases h4),h5,h6⟩
theorem mSrc_fold {sc:Scope} {k:SK} {p:PE} {e:Expr} {env:Env} (h:mSrc sc k p e=true) (x:Value):foldedSetIterable e env x=pure x:=by
 refine folded_plain ?_ x
 cases k with
 | val=>exact (and2 h).2
 | range=>obtain ⟨_,_,_,_,rfl,_⟩:=bCalN_inv h; rfl
 | enum=>obtain ⟨_,_,_,_,rfl,_⟩:=bCalN_inv h; rfl
 | values=>obtain ⟨_,_,_,_,_,rfl,_⟩:=bCalA_inv h; rfl
theorem comp_sound (X:Body prog w cl B A V fa K) {elt src cond:PE} {x:Nat} {k:SK} (He:EvS prog w cl B A V elt) (Hc:TrS prog w cl B A V cond) (Hs:EvS prog w cl B A V src) (HsL:EvL prog w cl B A V src):EvS prog w cl B A V (.comp elt x k src cond):=by
 intro env e m E s ρ st Q P hm R Ev h G
 obtain ⟨el,px,it,ifs,csc,pos,rfl,h2,h3,h4,h5,h6⟩:=mE_comp hm
 have Fc:=compFacts h2
 obtain ⟨cls,hclos,hcl,hcs⟩:=closureFor_of env csc fun y hy=>let ⟨c,e,_⟩:=Ev.cel y (Fc.free y hy); ⟨c,e⟩
 rw [eval_ListComp]
 refine wpAny_comprehension_free (use:=none) rfl (mSrc_fold h5) hclos Fc.kind (fun y hy e=>by rw [← e]; exact lookup_of_nodup Fc.nodup hy) ?_
 refine comp_core (RR:=fun acc C=>compPost (model prog w) A E none P acc C) X He Hc Hs HsL h4 Fc h3 h5 h6 hcl hcs R Ev h fun W out st' ρ' h' tk D C vs mC q R' S' fr hD hC hn hp hv hDC hap=>?_
 refine ⟨mC,hn,fun h'' hs''=>?_⟩
 have frB:∀ b,s.heap.get? b=none→B.get? b=none:=fun b e=>by
  cases q:B.get? b with
  | none=>rfl
  | some o=>rw [R.keep b o q] at e; cases e
 have RS:=R'.but (W:=fun b=>b=C) (h':=h'') (fun b o hb e=>(hs''.2 b hb).trans e) (fun i hi=>(hap i hi).2) (fun b hb=>hb ▸ frB _ (fr C hC)) fun b o hb e=>by
  obtain ⟨o',es,ep,e',hd,_⟩:=hn
  subst hb
  rw [e] at e'; cases e'; exact .inr fun vs c z=>by rw [hd] at z; cases z
 have hp':h''.PlainList D vs.toArray:=hp.at fun o e=>(hs''.2 D hDC).trans e
 obtain ⟨c,ho⟩:=hp'
 obtain ⟨ρ2,e2,R2,S2⟩:=RS.1.adopt (a:=D) (ao:=.lst out) (fun i hi=>(hap i hi).1) (frB _ (fr D hD)) fun ρ2 ag e=>⟨vs,⟨c,by rw [e]; exact ho⟩,(hv.step RS.2).mono (TK.refl _) (Nat.le_succ _) ag⟩
 have S3:Step W ρ st s.heap ρ2 (st'++[.lst out]) h'':=Step.trans RS.1 (Step.trans R' S' RS.2 fun x hx _=>hx ▸ hC) S2 fun x hx _=>hx ▸ hD
 exact G (.ref st'.length) (st'++[.lst out]) ρ2 h'' tk (.ref D) q R2 (S3.fresh fr) ⟨by simp,by rw [e2]⟩
end
end Mine
namespace Mine
section
set_option maxRecDepth 100000
open PySem PySem.W PyProof.Rows PySem.Calls
variable {prog:PySem.Program} {w:World} {cl:Nat→Addr} {B:Heap} {A:Around} {E:Value→Shared→Prop} {s:Shared} {ρ ρ':Nat→Addr} {st st':Store} {h h':Heap} {n:Nat} {m m':Loc} {env:Env} {V:MEnv} {K:Frag} {fa:Nat→Nat→Addr}
theorem tr_of_ev {p:PE} (H:EvS prog w cl B A V p) {e:Expr} {Q:AV→Store→Prop} {P:Bool→Shared→Prop} (hm:mE env.scope p e=true) (R:Rel w cl B ρ st s.heap) (Ev:EnvR env ρ st.length s.heap m) (h:evW V p m st Q) (G:GoalB w cl B ρ st s Q P)
  (he:isTrue e env (eval e env)=(do let v ← eval e env; standAt e.pos; holding [v] (truthy v))):wpAny (model prog w) A (isTrue e env (eval e env)) P E s:=by
 refine wpAny_isTrue_value (H env e m E s ρ st Q _ hm R Ev h fun a st' ρ' h' tk v q R' S' hv=>?_) he
 obtain ⟨b,rfl,p⟩:=G a st' ρ' h' tk q R' S'
 obtain rfl:v=.bool b:=hv
 exact wpAny_truthy_bool p
theorem isTup_sound {a:AV} {v:Value} {P:Value→Shared→Prop} (hv:Val ρ n s.heap a v) (hr:∀ i,a≠.ref i) (hP:∀ tk,P (.bool a.isChain) { s with toks:=tk }):wpAny (model prog w) A (call (.builtin "isinstance") [v,.type "tuple"]) P E s:=by
 cases a with
 | none=>obtain rfl:v=.none:=hv; exact IsiPair.NoneType_tuple (hP _)
 | bool b=>obtain rfl:v=.bool b:=hv; exact IsiPair.bool_tuple (hP _)
 | int i=>obtain ⟨t,rfl⟩:=hv; exact IsiPair.int_tuple (hP _)
 | str x=>obtain ⟨t,rfl⟩:=hv; exact IsiPair.str_tuple (hP _)
 | nil=>obtain ⟨p,vs,rfl,⟨o,ho,hc,_⟩,_⟩:=hv; exact IsiPair.tuple_tuple ho hc (hP s.toks)
 | cons x y=>obtain ⟨p,vs,rfl,⟨o,ho,hc,_⟩,_⟩:=hv; exact IsiPair.tuple_tuple ho hc (hP s.toks)
 | ref i=>exact absurd rfl (hr i)
theorem callWith_biVal {b:Bi} {pos:Pos} {args:List (Bool×Sem Value)} {P:Value→Shared→Prop} (hp:args.any (·.1)=false) (h:wpAny (model prog w) A (evalArgs (biVal b) true args []) (fun a s₁=>wpAny (model prog w) A (call (biVal b) ([]++a.pos) a.kw) P E s₁) E s) :
  wpAny (model prog w) A (callWith pos (biVal b) [] args []) P E s:=by
 cases b
 ·exact callWith_builtin (id:="len") hp h
 ·exact PySem.callWith_type (T:="list") hp h
 ·exact callWith_builtin (id:="sorted") hp h
 ·exact callWith_builtin (id:="sum") hp h
 ·exact callWith_builtin (id:="max") hp h
 ·exact PySem.callWith_type (T:="int") hp h
 ·exact PySem.callWith_type (T:="tuple") hp h
 ·exact PySem.callWith_type (T:="dict") hp h
theorem tuple_goal {Q:AV→Store→Prop} {P:Value→Shared→Prop} (G:Goal w cl B ρ st s Q P) {a:AV} {st1:Store} {ρ1:Nat→Addr} {h1:Heap} {tk:Tok} {vs:List Value} (q:Q a st1) (R1:Rel w cl B ρ1 st1 h1) (S1:Step no ρ st s.heap ρ1 st1 h1) (it:Items ρ1 st1.length h1 a vs) :
  P (.ref h1.objs.size) { s with heap:=h1.push { cls:=.type "tuple",data:=.seq vs.toArray },toks:=tk }:=by
 have hk:∀ b o,h1.get? b=some o→(h1.push { cls:=.type "tuple",data:=.seq vs.toArray }).get? b=some o:=fun b o e=>Heap.get?_push_of_some _ e
 have R2:=R1.keeps hk
 have it2:=it.mono (TK.of_keep hk) (Nat.le_refl _) (fun _ _=>rfl)
 refine G a st1 ρ1 _ tk _ q R2.1 (Step.trans R1 S1 R2.2 fun _ x _=>x) ?_
 obtain ⟨l,e,_⟩:=items_VL it
 have hv:IsTup (h1.push { cls:=.type "tuple",data:=.seq vs.toArray }) h1.objs.size vs.toArray:=⟨_,Heap.get?_push_size _ rfl,rfl,_,rfl⟩
 cases a with
 | nil=>exact ⟨_,vs,rfl,hv,it2⟩
 | cons x y=>exact ⟨_,vs,rfl,hv,it2⟩
 | _=>cases e
theorem wp_spliced_len (M:Model) (Γ:Ctx):∀ (xs:List (Bool×Sem Value)),xs.any (·.1)=false→∀ (Q:List Value→Pos→Shared→Prop) (E:Value→Pos→Shared→Prop) (p:Pos) (s:Shared),
  Sem.wp M Γ (spliced xs) Q E p s→Sem.wp M Γ (spliced xs) (fun vs p' s'=>vs.length=xs.length∧Q vs p' s') E p s:=by
 intro xs
 induction xs with
 | nil=>intro _ Q E p s h; exact ⟨rfl,h⟩
 | cons bx r ih =>
  obtain ⟨b,x⟩:=bx
  intro hp Q E p s h
  have hb:b=false:=by simp at hp; exact hp.1
  have hr:r.any (·.1)=false:=by rw [List.any_cons,Bool.or_eq_false_iff] at hp; exact hp.2
  subst hb
  rw [spliced] at h ⊢
  simp only [Bool.false_eq_true,if_false,Sem.wp_bind',Sem.wp_holding,Sem.wp_pure'] at h ⊢
  refine Sem.wp_mono M Γ x (fun v p₁ s₁ h₁=>?_) (fun _ _ _ e=>e) p s h
  exact Sem.wp_mono M Γ _ (fun vs p₂ s₂ h₂=>⟨by simp [h₂.1],h₂.2⟩) (fun _ _ _ e=>e) p₁ s₁ (ih hr _ E p₁ s₁ h₁)
theorem wpAny_spliced_len {M:Model} {xs:List (Bool×Sem Value)} {Q:List Value→Shared→Prop} (hp:xs.any (·.1)=false) (h:wpAny M A (spliced xs) Q E s):wpAny M A (spliced xs) (fun vs s'=>vs.length=xs.length∧Q vs s') E s :=
 fun Γ p hΓ=>wp_spliced_len M Γ xs hp _ _ p s (h Γ p hΓ)
theorem mL_len {sc:Scope} {pos:Pos} {env:Env}:∀ (p:PE) (es:List Expr),mL sc p es=true→(backTo pos (starEach es env)).length=es.length:=by
 intro p
 induction p with
 | nil=>intro es h; obtain rfl:=mL_nil h; rfl
 | cons a r _ ih =>
  intro es h
  obtain ⟨e,q,rfl,h,h2⟩:=mL_cons h
  rw [star_ns h.2,back_cons,List.length_cons,ih q h2,List.length_cons]
 | _=>intro es h; exact (Bool.false_ne_true h).elim
theorem const_sound {v:AV} {c:Const} {k:Nat} {pos:Pos} {Q:AV→Store→Prop} {P:Value→Shared→Prop} (hm:mC v c=true) (R:Rel w cl B ρ st s.heap) (h:Q v st) (G:Goal w cl B ρ st s Q P):wpAny (model prog w) A (eval (.Constant c k pos) env) P E s:=by
 cases v with
 | none=>cases c <;> first | exact wpAny_Constant_none (G.here R h rfl s.toks) | exact (Bool.false_ne_true hm).elim
 | bool a =>
  cases c with
  | bool b=>obtain rfl:=eq_of_beq hm; exact wpAny_Constant_bool (G.here R h rfl s.toks)
  | _=>exact (Bool.false_ne_true hm).elim
 | int a =>
  cases c with
  | int b=>obtain rfl:=of_decide_eq_true hm; exact wpAny_Constant_int (G.here R h ⟨_,rfl⟩ _)
  | _=>exact (Bool.false_ne_true hm).elim
 | str a =>
  cases c with
  | str b=>obtain rfl:=sq_eq hm; exact wpAny_Constant_str (G.here R h ⟨_,rfl⟩ _)
  | _=>exact (Bool.false_ne_true hm).elim
 | _=>cases c <;> exact (Bool.false_ne_true hm).elim
noncomputable def evPos (env:Env) (pos:Pos) (e:Expr):Sem Value:=do let x ← eval e env; standAt pos; pure x
noncomputable def pairUp (env:Env) (pos:Pos):List Expr→List (Sem Value×Sem Value)
 | k :: v :: r=>(eval k env,evPos env pos v) :: pairUp env pos r
 | _=>[]
noncomputable def flatV (ps:List (Value×Value)):List Value:=ps.flatMap fun p=>[p.1,p.2]
noncomputable def EvDe (prog:PySem.Program) (w:World) (cl:Nat→Addr) (B:Heap) (A:Around) (V:MEnv) (p:PE):Prop :=
 ∀ (env:Env) (es:List Expr) (pos:Pos) (m:Loc) (E:Value→Shared→Prop) (s:Shared) (ρ:Nat→Addr) (st:Store) (Q:AV→Store→Prop) (P:List (Value×Value)→Shared→Prop),mL env.scope p es=true→es.length % 2=0→Rel w cl B ρ st s.heap→EnvR env ρ st.length s.heap m→evW V p m st Q →
  GoalL w cl B ρ st s Q (fun vs s'=>∀ ps,vs=flatV ps→P ps s')→wpAny (model prog w) A (evalPairs (pairUp env pos es)) P E s
noncomputable def EvDo (prog:PySem.Program) (w:World) (cl:Nat→Addr) (B:Heap) (A:Around) (V:MEnv) (p:PE):Prop :=
 ∀ (env:Env) (es:List Expr) (pos:Pos) (m:Loc) (E:Value→Shared→Prop) (s:Shared) (ρ:Nat→Addr) (st:Store) (Q:AV→Store→Prop) (P:Value→List (Value×Value)→Shared→Prop),mL env.scope p es=true→es.length % 2=1→Rel w cl B ρ st s.heap→EnvR env ρ st.length s.heap m→evW V p m st Q →
  GoalL w cl B ρ st s Q (fun vs s'=>∀ v ps,vs=v :: flatV ps→P v ps s')→Ex2 fun e r=>es=e :: r∧wpAny (model prog w) A (evPos env pos e) (fun v s₁=>wpAny (model prog w) A (evalPairs (pairUp env pos r)) (fun ps s₂=>P v ps s₂) E s₁) E s
theorem evDe_cons {a r:PE} (Ha:EvS prog w cl B A V a) (Hr:EvDo prog w cl B A V r):EvDe prog w cl B A V (.cons a r):=by
 intro env es pos m E s ρ st Q P hm hl R Ev h G
 replace hm:=mL_cons hm
 obtain ⟨k,es,rfl,hm⟩:=hm
 ·have hl':es.length % 2=1:=by rw [List.length_cons] at hl; lia
  cases es with
  | nil=>simp at hl'
  | cons v es2 =>
   show wpAny _ _ (evalPairs ((eval k env,evPos env pos v) :: pairUp env pos es2)) _ _ _
   refine evalPairs_cons (Ha env k m E s ρ st _ _ hm.1.1 R Ev h fun a1 st1 ρ1 h1 tk1 kv q1 R1 S1 val1=>?_)
   obtain ⟨e,rr,he,W⟩:=Hr env (v :: es2) pos m E { s with heap:=h1,toks:=tk1 } ρ1 st1 _ (fun vv ps s3=>P ((kv,vv) :: ps) s3) hm.2 hl' R1 (Ev.step S1) q1 fun a2 st2 ρ2 h2 tk2 vs q2 R2 S2 it2 vv ps e=>by
    refine G _ st2 ρ2 h2 tk2 (kv :: vs) q2 R2 (Step.trans R1 S1 S2 fun _ x _=>x) ⟨kv,vs,rfl,val1.step S2,it2⟩ ((kv,vv) :: ps) ?_
    rw [e]; rfl
   cases he
   exact W
theorem evDo_cons {a r:PE} (Ha:EvS prog w cl B A V a) (Hr:EvDe prog w cl B A V r):EvDo prog w cl B A V (.cons a r):=by
 intro env es pos m E s ρ st Q P hm hl R Ev h G
 replace hm:=mL_cons hm
 obtain ⟨v,es,rfl,hm⟩:=hm
 ·have hl':es.length % 2=0:=by rw [List.length_cons] at hl; lia
  refine ⟨v,es,rfl,?_⟩
  unfold evPos
  refine wpAny_bind (Ha env v m E s ρ st _ _ hm.1.1 R Ev h fun a1 st1 ρ1 h1 tk1 vv q1 R1 S1 val1=>wpAny_bind (wpAny_standAt (wpAny_pure ?_)))
  refine Hr env es pos m E { s with heap:=h1,toks:=tk1 } ρ1 st1 _ _ hm.2 hl' R1 (Ev.step S1) q1 fun a2 st2 ρ2 h2 tk2 vs q2 R2 S2 it2 ps e=>?_
  exact G _ st2 ρ2 h2 tk2 (vv :: vs) q2 R2 (Step.trans R1 S1 S2 fun _ x _=>x) ⟨vv,vs,rfl,val1.step S2,it2⟩ vv ps (by rw [e])
theorem evDe_nil:EvDe prog w cl B A V .nil:=by
 intro env es pos m E s ρ st Q P hm hl R Ev h G
 cases es with
 | nil =>
  show wpAny _ _ (evalPairs []) _ _ _
  exact evalPairs_nil (G .nil st ρ s.heap s.toks [] h R (Step.refl _) rfl [] rfl)
 | cons e r=>exact (Bool.false_ne_true hm).elim
theorem flatV_get:∀ (ps:List (Value×Value)) (j:Nat) (p:Value×Value),ps[j]?=some p→(flatV ps)[2 * j]?=some p.1∧(flatV ps)[2 * j + 1]?=some p.2
 | [],j,p,h=>by simp at h
 | q :: r,0,p,h=>by simp at h; subst h; exact ⟨rfl,rfl⟩
 | q :: r,j + 1,p,h=>by
  have:=flatV_get r j p (by simpa using h)
  rw [show 2 * (j + 1)=2 * j + 1 + 1 by lia]
  exact this
theorem flatV_len (ps:List (Value×Value)):(flatV ps).length=2 * ps.length:=by
 induction ps with
 | nil=>rfl
 | cons p r ih =>
  have:flatV (p :: r)=p.1 :: p.2 :: flatV r:=rfl
  rw [this]; simp [ih]; lia
noncomputable def flatK (ks:List (Option Expr)) (vs:List Expr):List Expr:=ks.zip vs |>.flatMap fun p=>match p.1 with | some k=>[k,p.2] | none=>[]
theorem flatK_facts (env:Env) (pos:Pos):∀ (ks:List (Option Expr)) (vs:List Expr),ks.all (·.isSome)=true→ks.length=vs.length →
  ((evalEachOpt ks env).zip ((evalEach vs env).map fun v=>do let x ← v; standAt pos; pure x)=(pairUp env pos (flatK ks vs)).map fun p=>(some p.1,p.2))∧(flatK ks vs).length=2 * ks.length∧(pairUp env pos (flatK ks vs)).length=ks.length
 | [],[],_,_=>⟨rfl,rfl,rfl⟩
 | some k :: ks,v :: vs,h,hl=>by
  have ih:=flatK_facts env pos ks vs (by simpa using h) (by simpa using hl)
  have e:flatK (some k :: ks) (v :: vs)=k :: v :: flatK ks vs:=rfl
  rw [e]
  refine ⟨?_,by simp [ih.2.1]; lia,by show (pairUp env pos (flatK ks vs)).length + 1=_; rw [ih.2.2]; rfl⟩
  show (some (eval k env) :: evalEachOpt ks env).zip ((do let x ← eval v env; standAt pos; pure x) :: (evalEach vs env).map _)=_
  rw [List.zip_cons_cons,ih.1]
  rfl
 | none :: _,_,h,_=>by simp at h
 | _ :: _,[],_,h=>by simp at h
 | [],_ :: _,_,h=>by simp at h
theorem dct_sound (X:Body prog w cl B A V fa K) {a:PE} (Ha:EvDe prog w cl B A V a):EvS prog w cl B A V (.dct a):=by
 intro env e m E s ρ st Q P hm R Ev h G
 replace hm:=bDct_inv hm
 obtain ⟨ks,vs,pos,rfl,hm⟩:=hm
 simp only [Bool.and_eq_true,decide_eq_true_eq] at hm
 refine Classical.byContradiction fun ng=>?_
 obtain ⟨⟨⟨hL,hs⟩,hlen⟩,h15⟩:=hm
 obtain ⟨shape,fl,pl⟩:=flatK_facts env pos ks vs hs hlen
 refine ng ?_
 have frB:∀ b,s.heap.get? b=none→B.get? b=none:=fun b e=>by
  cases q:B.get? b with
  | none=>rfl
  | some o=>rw [R.keep b o q] at e; cases e
 by_cases h0:pairUp env pos (flatK ks vs)=[]
 ·have hks:ks=[]:=by rw [h0] at pl; exact List.length_eq_zero_iff.mp pl.symm
  subst hks
  have hvs:vs=[]:=List.length_eq_zero_iff.mp hlen.symm
  subst hvs
  refine wpAny_Dict_empty ?_
  have hz:=Ha env [] pos m (fun _ _=>False) s ρ st _ (fun ps s'=>ps=[]→P (.ref s.heap.objs.size) { s with heap:=s.heap.push { cls:=.type "dict",data:=.dict #[] } }) hL rfl R Ev h
  have main:∀ (t:AV) (st1:Store),t=.nil→st1=st→dctK Q t st1→P (.ref s.heap.objs.size) { s with heap:=s.heap.push { cls:=.type "dict",data:=.dict #[] } }:=by
   rintro t st1 rfl rfl q
   exact G.dict R (none_at_size _) (fun b o e=>Heap.get?_push_of_some _ e) (Heap.get?_push_size _ rfl) ⟨rfl,fun j e p he=>by simp at he,by simp⟩ q s.toks
  cases a with
  | nil=>exact main .nil st rfl rfl h
  | _=>exact (Bool.false_ne_true hL).elim
 ·have hl15:(pairUp env pos (flatK ks vs)).length≤15:=by rw [pl]; exact h15
  rw [arm_eval_Dict,shape,dictDisplay_pairs _ h0 (by lia)]
  refine wpAny_bind (wpAny_standAt (wpAny_bind ?_))
  unfold subDict
  refine wpAny_bind (wpAny_alloc (wpAny_bind (wpAny_holding ?_)))
  rw [if_pos hl15]
  have hk:∀ b o,s.heap.get? b=some o→(s.heap.push { cls:=.type "dict",data:=.dict #[] }).get? b=some o:=fun b o e=>Heap.get?_push_of_some _ e
  have R0:=R.keeps hk
  have hd0:DAt (s.heap.push { cls:=.type "dict",data:=.dict #[] }) s.heap.objs.size #[] 0:=Heap.get?_push_size _ rfl
  have fr:s.heap.get? s.heap.objs.size=none:=none_at_size _
  refine wpAny_bind (wpAny_mono (wpAny_evalPairs_len (s:={ s with heap:=s.heap.push { cls:=.type "dict",data:=.dict #[] } }) (Ha env (flatK ks vs) pos m E { s with heap:=s.heap.push { cls:=.type "dict",data:=.dict #[] } } ρ st _
   (fun ps s'=>Ex6 fun t st1 ρ1 h1 tk us=>And6 (dctK Q t st1) (Rel w cl B ρ1 st1 h1) (Step no ρ st (s.heap.push { cls:=.type "dict",data:=.dict #[] }) ρ1 st1 h1) (Items ρ1 st1.length h1 t us) (us=flatV ps) (s'={ s with heap:=h1,toks:=tk }))
   hL (by lia) R0.1 (Ev.step R0.2) h fun t st1 ρ1 h1 tk us q R1 S1 it ps hps=>⟨t,st1,ρ1,h1,tk,us,q,R1,S1,it,hps,rfl⟩)) (fun ps s' z=>?_) fun _ _ e=>e)
  refine Classical.byContradiction fun ng=>?_
  obtain ⟨hplen,t,st1,ρ1,h1,tk,us,q,R1,S1,it,hps,rfl⟩:=z
  obtain ⟨l,e1,q⟩:=oK_inv q
  obtain ⟨d,e2,q⟩:=oK_inv q
  refine ng ?_
  replace q:Q (.ref st1.length) (st1++[.dct d]):=q
  have vl:=items_toL e1 it
  have hd1:DAt h1 s.heap.objs.size #[] 0:=S1.out _ _ (fun x=>x) (fun i hi z=>by obtain ⟨o,e,_⟩:=R.there hi; rw [← z,fr] at e; cases e) hd0
  refine wpAny_holding (wpAny_bind (wpAny_mono (storeAll (A:=A) (E:=E) (prog:=prog) (w:=w) (Q:=fun _ s'=>Ex4 fun h2 tk2 es ep=>And4 (Heap.SameBut s.heap.objs.size h1 h2) (DAt h2 s.heap.objs.size es ep) (Ents w ρ1 st1.length h2 d es) (s'={ s with heap:=h2,toks:=tk2 })) (by have:=X.room.units; lia) ps l [] d { s with heap:=h1,toks:=tk } #[] 0 hd1 ⟨rfl,fun j e p he=>by simp at he,by simp⟩
   (by rw [← vl.len,hps,flatV_len]) (fun j k v p a1 a2 a3=>?_) e2 (by rw [List.length_nil]; lia) fun h2 tk2 es ep hs2 hd2 En=>⟨h2,tk2,es,ep,hs2,hd2,En,rfl⟩) (fun _ s' z=>?_) fun _ _ e=>e))
  ·obtain ⟨b1,b2⟩:=flatV_get ps j p a3
   rw [← hps] at b1 b2
   exact ⟨vl.get _ _ _ a1 b1,vl.get _ _ _ a2 b2⟩
  ·refine Classical.byContradiction fun ng=>?_
   obtain ⟨h2,tk2,es,ep,hs2,hd2,En,rfl⟩:=z
   refine ng ?_
   refine wpAny_pure (wpAny_pure ?_)
   have ap:∀ i,i < st1.length→ρ1 i≠s.heap.objs.size:=fun i hi z=>by
    rcases Nat.lt_or_ge i st.length with hh | hh
    ·rw [S1.ag i hh] at z
     obtain ⟨o,e,_⟩:=R.there hh; rw [z,fr] at e; cases e
    ·have:=S1.new i hh hi (fun x=>x)
     rw [z] at this
     unfold DAt at hd0
     rw [hd0] at this; cases this
   have RS:=R1.but (W:=fun b=>b=s.heap.objs.size) (h':=h2) (fun b o hb e=>(hs2.2 b hb).trans e) ap (fun b hb=>by rw [hb]; exact frB _ fr) fun b o hb e=>by
    rw [hb,hd1] at e; cases e; exact .inr fun vs c z=>by cases z
   obtain ⟨ρ2,e3,R2,S2⟩:=RS.1.adopt (a:=s.heap.objs.size) (ao:=.dct d) ap (frB _ fr) fun ρ2 ag e=>⟨es,ep,by rw [e]; exact hd2,En.mono fun x u y=>y.mono (TK.refl _) (Nat.le_succ _) ag⟩
   have S3:Step (fun b=>b=s.heap.objs.size) ρ st s.heap ρ2 (st1++[.dct d]) h2:=Step.trans RS.1 (Step.trans R1 (Step.trans R0.1 (R0.2.weak (fun b hb=>hb.elim)) S1 fun x hx _=>hx.elim) RS.2 fun x hx _=>hx) S2 fun x hx _=>hx
   exact wpAny_pure <| G (.ref st1.length) (st1++[.dct d]) ρ2 h2 tk2 _ q R2 (S3.fresh fun b hb=>hb ▸ fr) ⟨by simp,by rw [e3]⟩
theorem compare1_marks {o:CmpOp} {r:Expr} (h:(!behindInMarks o r)=true):behindInMarks o r=false:=by simpa using h
end
end Mine
namespace Mine
section
set_option maxRecDepth 100000
open PySem PySem.W PyProof.Rows PySem.Calls
variable {prog:PySem.Program} {w:World} {cl:Nat→Addr} {B:Heap} {A:Around} {E:Value→Shared→Prop} {s:Shared} {ρ ρ':Nat→Addr} {st st':Store} {h h':Heap} {n:Nat} {m m':Loc} {env:Env} {V:MEnv} {K:Frag} {fa:Nat→Nat→Addr}
theorem two_sound {a b:PE} (Ha:EvS prog w cl B A V a) (Hb:EvS prog w cl B A V b) {l r:Expr} {Q2:AV→AV→Store→Prop} {P:Value→Value→Shared→Prop} (hl:mE env.scope a l=true) (hr:mE env.scope b r=true) (R:Rel w cl B ρ st s.heap) (Ev:EnvR env ρ st.length s.heap m)
  (h:evW V a m st fun x s1=>evW V b m s1 fun y s2=>Q2 x y s2)
  (G:∀ x y st2 ρ2 h2 tk u v,Q2 x y st2→Rel w cl B ρ2 st2 h2→Step no ρ st s.heap ρ2 st2 h2→Val ρ2 st2.length h2 x u→Val ρ2 st2.length h2 y v→P u v { s with heap:=h2,toks:=tk }) :
  wpAny (model prog w) A (eval l env) (fun u s₁=>wpAny (model prog w) A (eval r env) (fun v s₂=>P u v s₂) E s₁) E s :=
 Ha env l m E s ρ st _ _ hl R Ev h fun x st1 ρ1 h1 tk1 u q1 R1 S1 hx =>
  Hb env r m E { s with heap:=h1,toks:=tk1 } ρ1 st1 _ _ hr R1 (Ev.step S1) q1 fun y st2 ρ2 h2 tk2 v q2 R2 S2 hy =>
   G x y st2 ρ2 h2 tk2 u v q2 R2 (Step.trans R1 S1 S2 fun _ x _=>x) (hx.step S2) hy
structure All (prog:PySem.Program) (w:World) (cl:Nat→Addr) (B:Heap) (A:Around) (V:MEnv) (p:PE):Prop where
 ev:EvS prog w cl B A V p
 el:EvL prog w cl B A V p
 tr:TrS prog w cl B A V p
 de:EvDe prog w cl B A V p
 od:EvDo prog w cl B A V p
theorem no_list {p:PE} (h:∀ sc es,mL sc p es=false):EvL prog w cl B A V p∧EvDe prog w cl B A V p∧EvDo prog w cl B A V p :=
 ⟨fun env es _ _ _ _ _ _ _ _ hm=>(by rw [h] at hm; cases hm),fun env es _ _ _ _ _ _ _ _ hm=>(by rw [h] at hm; cases hm),fun env es _ _ _ _ _ _ _ _ hm=>(by rw [h] at hm; cases hm)⟩
theorem all_of {p:PE} (h:∀ sc es,mL sc p es=false) (H:EvS prog w cl B A V p) (T:TrS prog w cl B A V p):All prog w cl B A V p :=
 let ⟨a,b,c⟩:=no_list (prog:=prog) (w:=w) (cl:=cl) (B:=B) (A:=A) (V:=V) h; ⟨H,a,T,b,c⟩
theorem tr_plain {p:PE} (H:EvS prog w cl B A V p) (he:∀ sc e env,mE sc p e=true→isTrue e env (eval e env)=(do let v ← eval e env; standAt e.pos; holding [v] (truthy v))):TrS prog w cl B A V p :=
 fun env e m E s ρ st Q P hm R Ev h G=>tr_of_ev H hm R Ev h G (he _ _ _ hm)
noncomputable def LP (w:World) (cl:Nat→Addr) (B:Heap) (ρ:Nat→Addr) (st:Store) (s:Shared) (Q:AV→Store→Prop) (vs:List Value) (s1:Shared):Prop :=
 Ex5 fun a st1 ρ1 h1 tk=>And5 (Q a st1) (Rel w cl B ρ1 st1 h1) (Step no ρ st s.heap ρ1 st1 h1) (Items ρ1 st1.length h1 a vs) (s1={ s with heap:=h1,toks:=tk })
theorem el_post {a:PE} (Ha:EvL prog w cl B A V a) {es:List Expr} {pos:Pos} {Q:AV→Store→Prop} (hm:mL env.scope a es=true) (R:Rel w cl B ρ st s.heap) (Ev:EnvR env ρ st.length s.heap m) (h:evW V a m st Q) :
  wpAny (model prog w) A (spliced (backTo pos (starEach es env))) (fun vs s1=>vs.length=es.length∧LP w cl B ρ st s Q vs s1) E s:=by
 have:=wpAny_spliced_len (mL_plain a es hm) (Ha env es pos m E s ρ st Q (LP w cl B ρ st s Q) hm R Ev h fun a st1 ρ1 h1 tk vs q R1 S1 it=>⟨a,st1,ρ1,h1,tk,q,R1,S1,it,rfl⟩)
 rw [mL_len a es hm] at this
 exact this
theorem tup_sound {a:PE} (Ha:EvL prog w cl B A V a):EvS prog w cl B A V (.tup a):=by
 intro env e m E s ρ st Q P hm R Ev h G
 replace hm:=bTup_inv hm
 obtain ⟨es,k,pos,rfl,hm⟩:=hm
 simp only [Bool.and_eq_true,decide_eq_true_eq] at hm
 refine wpAny_Tuple (wpAny_mono (el_post Ha hm.1 R Ev h) (fun vs s1 z=>?_) fun _ _ e=>e)
 refine Classical.byContradiction fun ng=>?_
 obtain ⟨hl,t,st1,ρ1,h1,tk,q,R1,S1,it,rfl⟩:=z
 refine ng ?_
 exact ⟨by rw [szLine]; lia,tuple_goal G q R1 S1 it⟩
theorem lst_sound {a:PE} (Ha:EvL prog w cl B A V a):EvS prog w cl B A V (.lst a):=by
 intro env e m E s ρ st Q P hm R Ev h G
 replace hm:=bLst_inv hm
 obtain ⟨es,pos,rfl,hm⟩:=hm
 simp only [Bool.and_eq_true,decide_eq_true_eq] at hm
 refine wpAny_List (wpAny_mono (el_post Ha hm.1 R Ev h) (fun vs s1 z=>?_) fun _ _ e=>e)
 refine Classical.byContradiction fun ng=>?_
 obtain ⟨hl,t,st1,ρ1,h1,tk,q,R1,S1,it,rfl⟩:=z
 obtain ⟨l,e,q⟩:=oK_inv q
 refine ng ?_
 have hk:∀ b o,h1.get? b=some o→(h1.push { cls:=.type "list",data:=.seq vs.toArray }).get? b=some o:=fun b o e=>Heap.get?_push_of_some _ e
 exact ⟨by rw [szLine]; lia,(G.after (tk:=tk) R1 S1).list (s:={ s with heap:=h1,toks:=tk }) R1 (none_at_size _) hk (Heap.get?_push_size _ rfl) ((items_toL e it).mono (TK.of_keep hk) (Nat.le_refl _) fun _ _=>rfl) q tk⟩
theorem call_user (X:Body prog w cl B A V fa K) {c f:Nat} {a:PE} (Ha:EvL prog w cl B A V a) {es:List Expr} {pos:Pos} {first:List Value} {fl:List AV} {Q:AV→Store→Prop} {P:Value→Shared→Prop} (hm:mL env.scope a es=true) (hh:V.has c f=true) (hf:VL ρ st.length s.heap fl first)
  (R:Rel w cl B ρ st s.heap) (Ev:EnvR env ρ st.length s.heap m) (h:evW V a m st fun t s1=>oK t.toL fun l=>V.C c f (fl++l) s1 Q) (G:Goal w cl B ρ st s Q P) :
  wpAny (model prog w) A (callWith pos (.ref (fa c f)) first (backTo pos (starEach es env)) []) P E s:=by
 have hp:=mL_plain (pos:=pos) (env:=env) a es hm
 refine callWith_of (P:=fun hh=>K.In hh) (by rw [hp]; rfl) (keeps_K (X.vok.keep c f hh)) ?_
 refine evalArgs_list hp (wpAny_mono (el_post Ha hm R Ev h) (fun vs s1 z=>?_) fun _ _ e=>e)
 refine Classical.byContradiction fun ng=>?_
 obtain ⟨_,t,st1,ρ1,h1,tk,q,R1,S1,it,rfl⟩:=z
 obtain ⟨l,e,q⟩:=oK_inv q
 refine ng ?_
 refine ⟨X.vok.in_ R1,?_⟩
 exact X.call c f (fl++l) st1 Q ρ1 { s with heap:=h1,toks:=tk } (first++vs) P E q R1 ((hf.step S1).append (items_toL e it)) (G.after R1 S1)
theorem fn_sound (X:Body prog w cl B A V fa K) {f:Nat} {a:PE} (Ha:EvL prog w cl B A V a):EvS prog w cl B A V (.fn f a):=by
 intro env e m E s ρ st Q P hm R Ev h G
 replace hm:=bCalN_inv hm
 refine Classical.byContradiction fun ng=>?_
 obtain ⟨g,gp,es,pos,rfl,hm⟩:=hm
 refine ng ?_
 simp only [Bool.and_eq_true] at hm
 obtain ⟨⟨hg,hgl⟩,hL⟩:=hm
 obtain rfl:=sq_eq hg
 replace h:=trM_inv h
 rw [arm_eval_Call_Name']
 refine wpAny_bind (load_fn X.vok R Ev hgl h.1 ?_)
 exact call_user (fl:=[]) X Ha hL h.1 .nil R Ev h.2 G
theorem bi_sound (X:Body prog w cl B A V fa K) {f:Bi} {a:PE} (Ha:EvL prog w cl B A V a):EvS prog w cl B A V (.bi f a):=by
 intro env e m E s ρ st Q P hm R Ev h G
 replace hm:=bCalN_inv hm
 refine Classical.byContradiction fun ng=>?_
 obtain ⟨g,gp,es,pos,rfl,hm⟩:=hm
 refine ng ?_
 simp only [Bool.and_eq_true] at hm
 obtain ⟨⟨hg,hgl⟩,hL⟩:=hm
 obtain rfl:=sq_eq hg
 rw [arm_eval_Call_Name']
 refine wpAny_bind (load_bi X.vok R Ev hgl ?_)
 have hp:=mL_plain (pos:=pos) (env:=env) a es hL
 refine callWith_biVal hp (evalArgs_list hp (wpAny_mono (el_post Ha hL R Ev h) (fun vs s1 z=>?_) fun _ _ e=>e))
 refine Classical.byContradiction fun ng=>?_
 obtain ⟨_,t,st1,ρ1,h1,tk,q,R1,S1,it,rfl⟩:=z
 obtain ⟨l,e,q⟩:=oK_inv q
 refine ng ?_
 exact biF_sound (s:={ s with heap:=h1,toks:=tk }) X.room R1 X.vok.sok (items_toL e it) q (G.after R1 S1)
theorem isTupE_sound (X:Body prog w cl B A V fa K) {a:PE} (Ha:EvS prog w cl B A V a):EvS prog w cl B A V (.isTup a):=by
 intro env e m E s ρ st Q P hm R Ev h G
 replace hm:=mE_isTup hm
 refine Classical.byContradiction fun ng=>?_
 obtain ⟨f,fp,x,t,tp,pos,rfl,hm⟩:=hm
 refine ng ?_
 simp only [Bool.and_eq_true] at hm
 refine Classical.byContradiction fun ng=>?_
 obtain ⟨⟨⟨⟨⟨h1,h2⟩,h3⟩,h4⟩,h5⟩,h6⟩:=hm
 refine ng ?_
 obtain rfl:=sq_eq h1
 obtain rfl:=sq_eq h2
 rw [arm_eval_Call_Name']
 refine wpAny_bind (load_blt X.vok R Ev h3 (by simp [bNames]) (v:=.builtin "isinstance") (fun mb z=>z.2) ?_)
 have e1:backTo pos (starEach [x,.Name "tuple" tp] env)=[(false,eval x env),(false,eval (.Name "tuple" tp) env)]:=by rw [star_ns h6]; rfl
 rw [e1]
 refine callWith_builtin rfl (evalArgs_plain (spliced_cons (Ha env x m E s ρ st _ _ h5 R Ev h fun v st1 ρ1 h1 tk u q R1 S1 hv=>?_)))
 refine spliced_cons (load_bi (s:={ s with heap:=h1,toks:=tk }) (b:=.tuple) X.vok R1 (Ev.step S1) h4 (spliced_nil ?_))
 exact isTup_sound (s:={ s with heap:=h1,toks:=tk }) hv q.1 fun tk2=>(G.after (tk:=tk) R1 S1).here (s:={ s with heap:=h1,toks:=tk }) R1 q.2 rfl tk2
theorem meth_sound (X:Body prog w cl B A V fa K) {f:Nat} {o a:PE} (Ho:EvS prog w cl B A V o) (Ha:EvL prog w cl B A V a):EvS prog w cl B A V (.meth o f a):=by
 intro env e m E s ρ st Q P hm R Ev h G
 replace hm:=bCalA_inv hm
 refine Classical.byContradiction fun ng=>?_
 obtain ⟨oe,id,ap,es,pos,rfl,hm⟩:=hm
 refine ng ?_
 simp only [Bool.and_eq_true,decide_eq_true_eq] at hm
 refine Classical.byContradiction fun ng=>?_
 obtain ⟨⟨⟨⟨⟨h1,h2⟩,h3⟩,h4⟩,h5⟩,h6⟩:=hm
 refine ng ?_
 obtain rfl:=sq_eq h1
 refine method_call h3 (mL_all a es h4) h5 h6 (Ho env oe m E s ρ st _ _ h2 R Ev h fun ov st1 ρ1 h1 tk u q R1 S1 hv=>?_)
 replace q:=refM_inv q
 obtain ⟨i,rfl,q⟩:=q
 obtain ⟨hi,rfl⟩:=hv
 have hp:=mL_plain (pos:=pos) (env:=env) a es h4
 have G1:=G.after (tk:=tk) R1 S1
 have Ev1:=Ev.step S1
 rcases objI_inv q with ⟨c,d,e,q⟩ | ⟨l,e,q⟩ | ⟨d,e,q⟩
 ·refine Classical.byContradiction fun ng=>?_
  obtain ⟨hh,⟨fs,e2,hg⟩,q⟩:=q
  obtain ⟨hk,hd,mm,ob,hn,ok,ho,hl,I⟩:=inst_at (s:={ s with heap:=h1,toks:=tk }) R1 e e2
  refine ng ?_
  have In:=X.vok.in_ R1
  refine method_fn (s:={ s with heap:=h1,toks:=tk }) In I (X.vok.kok.ga c hk) (X.vok.kok.gt c hk) (X.vok.meth c f hk hh).1 (X.vok.meth c f hk hh).2 (by show (lookIn (T f) ob).map _=_; rw [hl,(ok f).2 hg]; rfl) ?_
  exact call_user (s:={ s with heap:=h1,toks:=tk }) (fl:=[.ref i]) X Ha h4 hh (.cons ⟨hi,rfl⟩ .nil) R1 Ev1 q G1
 ·obtain ⟨vs,p,vl⟩:=lst_at (s:={ s with heap:=h1,toks:=tk }) R1 e
  refine lst_method (s:={ s with heap:=h1,toks:=tk }) X.vok.nok q.1 ⟨vs.toArray,p⟩ (callWith_builtin hp (evalArgs_list hp (wpAny_mono (el_post (s:={ s with heap:=h1,toks:=tk }) Ha h4 R1 Ev1 q.2) (fun vs s1 z=>?_) fun _ _ e=>e)))
  refine Classical.byContradiction fun ng=>?_
  obtain ⟨_,t,st2,ρ2,h2,tk2,q,R2,S2,it,rfl⟩:=z
  obtain ⟨l,e,q⟩:=oK_inv q
  refine ng ?_
  show wpAny _ _ (call _ ([.ref (ρ1 i)]++vs) _) _ _ _
  rw [← S2.ag i hi]
  exact lstF_sound (s:={ s with heap:=h2,toks:=tk2 }) R2 (items_toL e it) q (G1.after (tk:=tk2) R2 S2)
 ·obtain ⟨es0,ep,p,vl⟩:=dct_at (s:={ s with heap:=h1,toks:=tk }) R1 e
  refine dct_method (s:={ s with heap:=h1,toks:=tk }) X.vok.nok q.1 ⟨es0,ep,p⟩ (callWith_builtin hp (evalArgs_list hp (wpAny_mono (el_post (s:={ s with heap:=h1,toks:=tk }) Ha h4 R1 Ev1 q.2) (fun vs s1 z=>?_) fun _ _ e=>e)))
  refine Classical.byContradiction fun ng=>?_
  obtain ⟨_,t,st2,ρ2,h2,tk2,q,R2,S2,it,rfl⟩:=z
  obtain ⟨l,e,q⟩:=oK_inv q
  refine ng ?_
  show wpAny _ _ (call _ ([.ref (ρ1 i)]++vs) _) _ _ _
  rw [← S2.ag i hi]
  exact dctF_sound (s:={ s with heap:=h2,toks:=tk2 }) X.room R2 (items_toL e it) q (G1.after (tk:=tk2) R2 S2)
theorem attr_sound (X:Body prog w cl B A V fa K) {x:Nat} {o:PE} (Ho:EvS prog w cl B A V o):EvS prog w cl B A V (.attr o x):=by
 intro env e m E s ρ st Q P hm R Ev h G
 replace hm:=bAtt_inv hm
 obtain ⟨oe,id,pos,rfl,hm⟩:=hm
 simp only [Bool.and_eq_true] at hm
 obtain ⟨⟨⟨h1,h2⟩,h3⟩,h4⟩:=hm
 obtain rfl:=sq_eq h1
 rw [arm_eval_Attribute,attributeBase_plain h3]
 refine wpAny_bind (Ho env oe m E s ρ st _ _ h2 R Ev h fun a st1 ρ1 h1 tk u q R1 S1 hv=>?_)
 obtain ⟨v,e,q⟩:=oK_inv q
 refine wpAny_bind (wpAny_standAt (wpAny_bind (wpAny_holding ?_)))
 refine get_sound (s:={ s with heap:=h1,toks:=tk }) X.vok.kok (X.vok.in_ R1) R1 hv h4 e q fun a2 st2 ρ2 h2 tk2 v2 q2 R2 S2 x2=>?_
 exact wpAny_bind (wpAny_letTemporaryGo (wpAny_pure ((G.after (tk:=tk) R1 S1) a2 st2 ρ2 h2 tk2 v2 q2 R2 S2 x2)))
theorem sub_soundE (X:Body prog w cl B A V fa K) {o i:PE} (Ho:EvS prog w cl B A V o) (Hi:EvS prog w cl B A V i):EvS prog w cl B A V (.sub o i):=by
 intro env e m E s ρ st Q P hm R Ev h G
 replace hm:=bSub_inv hm
 obtain ⟨oe,j,pos,rfl,hm⟩:=hm
 simp only [Bool.and_eq_true] at hm
 obtain ⟨⟨h1,h2⟩,h3⟩:=hm
 refine Subscript_ (two_sound (Q2:=fun x y st2=>oK (subF st2 x y) (atK Q st2)) (P:=fun u v s₂=>wpAny (model prog w) A (subscriptTail oe j u v) P E s₂) Ho Hi h1 h2 R Ev h fun x y st2 ρ2 h2 tk u v q R2 S2 hx hy=>?_)
 obtain ⟨v,e,q⟩:=oK_inv q
 exact sub_sound (s:={ s with heap:=h2,toks:=tk }) X.room R2 h3 hx hy e q (G.after R2 S2)
theorem bin_sound (X:Body prog w cl B A V fa K) {op:Op} {a b:PE} (Ha:EvS prog w cl B A V a) (Hb:EvS prog w cl B A V b):EvS prog w cl B A V (.bin op a b):=by
 intro env e m E s ρ st Q P hm R Ev h G
 replace hm:=bBin_inv hm
 refine Classical.byContradiction fun ng=>?_
 obtain ⟨l,o,r,pos,rfl,hm⟩:=hm
 refine ng ?_
 simp only [Bool.and_eq_true] at hm
 obtain ⟨⟨h1,h2⟩,h3⟩:=hm
 exact wpAny_BinOp (two_sound (Q2:=fun x y st2=>binF op st2 x y Q) (P:=fun u v s₂=>wpAny (model prog w) A (binaryOp o u v) P E s₂) Ha Hb h2 h3 R Ev h fun x y st2 ρ2 h2 tk u v q R2 S2 hx hy=>binF_sound (s:={ s with heap:=h2,toks:=tk }) X.room R2 h1 hx hy q (G.after R2 S2))
theorem neg_sound {a:PE} (Ha:EvS prog w cl B A V a):EvS prog w cl B A V (.neg a):=by
 intro env e m E s ρ st Q P hm R Ev h G
 replace hm:=mE_neg hm
 obtain ⟨x,pos,rfl,hm⟩:=hm
 refine wpAny_UnaryOp (Ha env x m E s ρ st _ _ hm R Ev h fun v st1 ρ1 h1 tk u q R1 S1 hv=>?_)
 replace q:=intM_inv q
 obtain ⟨i,rfl,q⟩:=q
 obtain ⟨t,rfl⟩:=hv
 exact PyProof.Rows.neg_int ((G.after (tk:=tk) R1 S1).here (s:={ s with heap:=h1,toks:=tk }) R1 q ⟨_,rfl⟩ _)
theorem band_sound {a b:PE} (Ha:EvS prog w cl B A V a) (Hb:EvS prog w cl B A V b):EvS prog w cl B A V (.band a b):=by
 intro env e m E s ρ st Q P hm R Ev h G
 replace hm:=mE_band hm
 obtain ⟨l,r,pos,rfl,hm⟩:=hm
 refine wpAny_And2 (Ha env l m E s ρ st _ _ hm.1 R Ev h fun x st1 ρ1 h1 tk u q R1 S1 hv=>?_)
 rcases boolM_inv q with ⟨rfl,q⟩ | ⟨rfl,q⟩
 ·obtain rfl:u=.bool true:=hv
  refine wpAny_truthy_bool ?_
  rw [if_pos rfl]
  refine Hb env r m E { s with heap:=h1,toks:=tk } ρ1 st1 _ _ hm.2 R1 (Ev.step S1) q fun y st2 ρ2 h2 tk2 v q2 R2 S2 hy=>?_
  replace q2:=bM_inv q2
  obtain ⟨c,rfl,q2⟩:=q2
  exact (G.after (tk:=tk) R1 S1) _ st2 ρ2 h2 tk2 v q2 R2 S2 hy
 ·obtain rfl:u=.bool false:=hv
  refine wpAny_truthy_bool ?_
  rw [if_neg Bool.false_ne_true]
  exact G _ st1 ρ1 h1 tk _ q R1 S1 rfl
theorem bor_sound {a b:PE} (Ha:EvS prog w cl B A V a) (Hb:EvS prog w cl B A V b):EvS prog w cl B A V (.bor a b):=by
 intro env e m E s ρ st Q P hm R Ev h G
 replace hm:=mE_bor hm
 obtain ⟨l,r,pos,rfl,hm⟩:=hm
 refine wpAny_Or2 (Ha env l m E s ρ st _ _ hm.1 R Ev h fun x st1 ρ1 h1 tk u q R1 S1 hv=>?_)
 rcases boolM_inv q with ⟨rfl,q⟩ | ⟨rfl,q⟩
 ·obtain rfl:u=.bool true:=hv
  refine wpAny_truthy_bool ?_
  rw [if_pos rfl]
  exact G _ st1 ρ1 h1 tk _ q R1 S1 rfl
 ·obtain rfl:u=.bool false:=hv
  refine wpAny_truthy_bool ?_
  rw [if_neg Bool.false_ne_true]
  refine Hb env r m E { s with heap:=h1,toks:=tk } ρ1 st1 _ _ hm.2 R1 (Ev.step S1) q fun y st2 ρ2 h2 tk2 v q2 R2 S2 hy=>?_
  replace q2:=bM_inv q2
  obtain ⟨c,rfl,q2⟩:=q2
  exact (G.after (tk:=tk) R1 S1) _ st2 ρ2 h2 tk2 v q2 R2 S2 hy
theorem band_tr {a b:PE} (Ha:TrS prog w cl B A V a) (Hb:TrS prog w cl B A V b):TrS prog w cl B A V (.band a b):=by
 intro env e m E s ρ st Q P hm R Ev h G
 replace hm:=mE_band hm
 obtain ⟨l,r,pos,rfl,hm⟩:=hm
 refine wpAny_isTrue_BoolOp (wpAny_allTrue_And_cons (Ha env l m E s ρ st _ _ hm.1 R Ev h fun x st1 ρ1 h1 tk q R1 S1=>?_))
 rcases boolM_inv q with ⟨rfl,q⟩ | ⟨rfl,q⟩
 ·refine ⟨true,rfl,?_⟩
  rw [if_pos rfl]
  refine wpAny_allTrue_And_cons (Hb env r m E { s with heap:=h1,toks:=tk } ρ1 st1 _ _ hm.2 R1 (Ev.step S1) q fun y st2 ρ2 h2 tk2 q2 R2 S2=>?_)
  replace q2:=bM_inv q2
  obtain ⟨c,rfl,q2⟩:=q2
  obtain ⟨b,e,p⟩:=(G.after (tk:=tk) R1 S1) _ st2 ρ2 h2 tk2 q2 R2 S2
  cases e
  refine ⟨c,rfl,?_⟩
  cases c
  ·exact p
  ·exact wpAny_allTrue_And_nil p
 ·refine ⟨false,rfl,?_⟩
  rw [if_neg Bool.false_ne_true]
  obtain ⟨b,e,p⟩:=G _ st1 ρ1 h1 tk q R1 S1
  cases e
  exact p
theorem bor_tr {a b:PE} (Ha:TrS prog w cl B A V a) (Hb:TrS prog w cl B A V b):TrS prog w cl B A V (.bor a b):=by
 intro env e m E s ρ st Q P hm R Ev h G
 replace hm:=mE_bor hm
 obtain ⟨l,r,pos,rfl,hm⟩:=hm
 refine wpAny_isTrue_BoolOp (wpAny_allTrue_Or_cons (Ha env l m E s ρ st _ _ hm.1 R Ev h fun x st1 ρ1 h1 tk q R1 S1=>?_))
 rcases boolM_inv q with ⟨rfl,q⟩ | ⟨rfl,q⟩
 ·refine ⟨true,rfl,?_⟩
  rw [if_pos rfl]
  obtain ⟨b,e,p⟩:=G _ st1 ρ1 h1 tk q R1 S1
  cases e
  exact p
 ·refine ⟨false,rfl,?_⟩
  rw [if_neg Bool.false_ne_true]
  refine wpAny_allTrue_Or_cons (Hb env r m E { s with heap:=h1,toks:=tk } ρ1 st1 _ _ hm.2 R1 (Ev.step S1) q fun y st2 ρ2 h2 tk2 q2 R2 S2=>?_)
  replace q2:=bM_inv q2
  obtain ⟨c,rfl,q2⟩:=q2
  obtain ⟨b,e,p⟩:=(G.after (tk:=tk) R1 S1) _ st2 ρ2 h2 tk2 q2 R2 S2
  cases e
  refine ⟨c,rfl,?_⟩
  cases c
  ·exact wpAny_allTrue_Or_nil p
  ·exact p
theorem bnot_sound {a:PE} (Ha:EvS prog w cl B A V a):EvS prog w cl B A V (.bnot a):=by
 intro env e m E s ρ st Q P hm R Ev h G
 replace hm:=mE_bnot hm
 obtain ⟨x,pos,rfl,hm⟩:=hm
 refine wpAny_UnaryOp (Ha env x m E s ρ st _ _ hm R Ev h fun v st1 ρ1 h1 tk u q R1 S1 hv=>?_)
 replace q:=bM_inv q
 obtain ⟨b,rfl,q⟩:=q
 obtain rfl:u=.bool b:=hv
 exact not_value (wpAny_truthy_bool (G _ st1 ρ1 h1 tk _ q R1 S1 rfl))
theorem bnot_tr {a:PE} (Ha:TrS prog w cl B A V a):TrS prog w cl B A V (.bnot a):=by
 intro env e m E s ρ st Q P hm R Ev h G
 replace hm:=mE_bnot hm
 obtain ⟨x,pos,rfl,hm⟩:=hm
 refine wpAny_isTrue_Not (Ha env x m E s ρ st _ _ hm R Ev h fun v st1 ρ1 h1 tk q R1 S1=>?_)
 replace q:=bM_inv q
 obtain ⟨b,rfl,q⟩:=q
 obtain ⟨b',e,p⟩:=G _ st1 ρ1 h1 tk q R1 S1
 cases e
 exact ⟨b,rfl,p⟩
theorem ife_sound {c a b:PE} (Hc:TrS prog w cl B A V c) (Ha:EvS prog w cl B A V a) (Hb:EvS prog w cl B A V b):EvS prog w cl B A V (.ife c a b):=by
 intro env e m E s ρ st Q P hm R Ev h G
 replace hm:=bIfe_inv hm
 refine Classical.byContradiction fun ng=>?_
 obtain ⟨t,x,y,pos,rfl,hm⟩:=hm
 refine ng ?_
 simp only [Bool.and_eq_true] at hm
 obtain ⟨⟨h1,h2⟩,h3⟩:=hm
 refine wpAny_IfExp (Hc env t m E s ρ st _ _ h1 R Ev h fun v st1 ρ1 hh1 tk q R1 S1=>?_)
 rcases boolM_inv q with ⟨rfl,q⟩ | ⟨rfl,q⟩
 ·refine ⟨true,rfl,?_⟩
  rw [if_pos rfl]
  exact Ha env x m E { s with heap:=hh1,toks:=tk } ρ1 st1 _ _ h2 R1 (Ev.step S1) q (G.after R1 S1)
 ·refine ⟨false,rfl,?_⟩
  rw [if_neg Bool.false_ne_true]
  exact Hb env y m E { s with heap:=hh1,toks:=tk } ρ1 st1 _ _ h3 R1 (Ev.step S1) q (G.after R1 S1)
theorem ife_tr {c a b:PE} (Hc:TrS prog w cl B A V c) (Ha:TrS prog w cl B A V a) (Hb:TrS prog w cl B A V b):TrS prog w cl B A V (.ife c a b):=by
 intro env e m E s ρ st Q P hm R Ev h G
 replace hm:=bIfe_inv hm
 refine Classical.byContradiction fun ng=>?_
 obtain ⟨t,x,y,pos,rfl,hm⟩:=hm
 refine ng ?_
 simp only [Bool.and_eq_true] at hm
 obtain ⟨⟨h1,h2⟩,h3⟩:=hm
 refine isTrue_IfExp (Hc env t m E s ρ st _ _ h1 R Ev h fun v st1 ρ1 hh1 tk q R1 S1=>?_)
 rcases boolM_inv q with ⟨rfl,q⟩ | ⟨rfl,q⟩
 ·refine ⟨true,rfl,?_⟩
  rw [if_pos rfl]
  exact Ha env x m E { s with heap:=hh1,toks:=tk } ρ1 st1 _ _ h2 R1 (Ev.step S1) q (G.after R1 S1)
 ·refine ⟨false,rfl,?_⟩
  rw [if_neg Bool.false_ne_true]
  exact Hb env y m E { s with heap:=hh1,toks:=tk } ρ1 st1 _ _ h3 R1 (Ev.step S1) q (G.after R1 S1)
theorem cmp_sound (X:Body prog w cl B A V fa K) {op:COp} {a b:PE} (Ha:EvS prog w cl B A V a) (Hb:EvS prog w cl B A V b):EvS prog w cl B A V (.cmp op a b):=by
 intro env e m E s ρ st Q P hm R Ev h G
 replace hm:=mE_cmp hm
 refine Classical.byContradiction fun ng=>?_
 obtain ⟨l,o,r,pos,rfl,hm⟩:=hm
 refine ng ?_
 simp only [Bool.and_eq_true] at hm
 obtain ⟨⟨⟨h1,h2⟩,h3⟩,h4⟩:=hm
 exact wpAny_Compare1 (two_sound (Q2:=fun x y st2=>cmpF op st2 x y fun r=>Q (.bool r) st2) (P:=fun u v s₂=>wpAny (model prog w) A (compareOp o u v) P E s₂) Ha Hb h3 h4 R Ev h fun x y st2 ρ2 h2 tk u v q R2 S2 hx hy =>
  cmpF_sound (s:={ s with heap:=h2,toks:=tk }) X.room R2 h1 hx hy q fun b tk2 q=>(G.after (tk:=tk) R2 S2).here (s:={ s with heap:=h2,toks:=tk }) R2 q rfl tk2) (compare1_marks h2)
theorem cmp_tr (X:Body prog w cl B A V fa K) {op:COp} {a b:PE} (Ha:EvS prog w cl B A V a) (Hb:EvS prog w cl B A V b):TrS prog w cl B A V (.cmp op a b):=by
 intro env e m E s ρ st Q P hm R Ev h G
 replace hm:=mE_cmp hm
 refine Classical.byContradiction fun ng=>?_
 obtain ⟨l,o,r,pos,rfl,hm⟩:=hm
 refine ng ?_
 simp only [Bool.and_eq_true] at hm
 obtain ⟨⟨⟨h1,h2⟩,h3⟩,h4⟩:=hm
 refine wpAny_isTrue_Compare1 (two_sound (Q2:=fun x y st2=>cmpF op st2 x y fun r=>Q (.bool r) st2) (P:=fun u v s₂=>wpAny (model prog w) A (compareOp o u v) (fun c s₃=>wpAny (model prog w) A (truthy c) P E s₃) E s₂) Ha Hb h3 h4 R Ev h fun x y st2 ρ2 h2 tk u v q R2 S2 hx hy =>
  cmpF_sound (s:={ s with heap:=h2,toks:=tk }) X.room R2 h1 hx hy q fun b tk2 q=>wpAny_truthy_bool ?_) (compare1_marks h2)
 obtain ⟨b',e,p⟩:=G _ st2 ρ2 h2 tk2 q R2 S2
 cases e
 exact p
theorem lastMarks_two {o o':CmpOp} {r r':Expr} (h:(!behindInMarks o' r')=true):lastMarks [o,o'] [r,r']=false:=by
 simpa [lastMarks] using h
theorem cmp2_sound (X:Body prog w cl B A V fa K) {op op':COp} {a b c:PE} (Ha:EvS prog w cl B A V a) (Hb:EvS prog w cl B A V b) (Hc:EvS prog w cl B A V c):EvS prog w cl B A V (.cmp2 op op' a b c):=by
 intro env e m E s ρ st Q P hm R Ev h G
 replace hm:=mE_cmp2 hm
 refine Classical.byContradiction fun ng=>?_
 obtain ⟨l,o,o',r,r',pos,rfl,hm⟩:=hm
 refine ng ?_
 simp only [Bool.and_eq_true] at hm
 refine Classical.byContradiction fun ng=>?_
 obtain ⟨⟨⟨⟨⟨g1,g2⟩,g3⟩,g4⟩,g5⟩,g6⟩:=hm
 refine ng ?_
 refine Compare_chain (wpAny_mono (two_sound (Q2:=fun x y st2=>cmpF op st2 x y fun r=>if r then evW V c m st2 fun z s3=>cmpF op' s3 y z fun r'=>Q (.bool r') s3 else Q (.bool false) st2)
  (P:=fun u v s₂=>wpAny (model prog w) A (compareOp o u v) (fun cv s₃=>wpAny (model prog w) A (truthy cv) (fun t s₄=>if t then wpAny (model prog w) A (compareChain pos v [o'] [eval r' env]) P E s₄ else P cv s₄) E s₃) E s₂) Ha Hb g4 g5 R Ev h fun x y st2 ρ2 h2 tk u v q R2 S2 hx hy =>
  cmpF_sound (s:={ s with heap:=h2,toks:=tk }) X.room R2 g1 hx hy q fun bb tk2 q=>wpAny_truthy_bool ?_) (fun u s₁ z=>chain_link z) fun _ _ e=>e) (lastMarks_two g3)
 cases bb with
 | false =>
  rw [if_neg Bool.false_ne_true] at q ⊢
  exact (G.after (tk:=tk) R2 S2).here (s:={ s with heap:=h2,toks:=tk }) R2 q rfl tk2
 | true =>
  rw [if_pos rfl] at q ⊢
  refine chain_last (Hc env r' m E { s with heap:=h2,toks:=tk2 } ρ2 st2 _ _ g6 R2 (Ev.step S2) q fun z st3 ρ3 h3 tk3 w' q3 R3 S3 hz=>?_)
  refine cmpF_sound (s:={ s with heap:=h3,toks:=tk3 }) X.room R3 g2 (hy.step S3) hz q3 fun b3 tk4 q4=>?_
  exact G _ st3 ρ3 h3 tk4 _ q4 R3 (Step.trans R2 S2 S3 fun _ x _=>x) rfl
theorem cmp2_tr (X:Body prog w cl B A V fa K) {op op':COp} {a b c:PE} (Ha:EvS prog w cl B A V a) (Hb:EvS prog w cl B A V b) (Hc:EvS prog w cl B A V c):TrS prog w cl B A V (.cmp2 op op' a b c):=by
 intro env e m E s ρ st Q P hm R Ev h G
 replace hm:=mE_cmp2 hm
 refine Classical.byContradiction fun ng=>?_
 obtain ⟨l,o,o',r,r',pos,rfl,hm⟩:=hm
 refine ng ?_
 simp only [Bool.and_eq_true] at hm
 refine Classical.byContradiction fun ng=>?_
 obtain ⟨⟨⟨⟨⟨g1,g2⟩,g3⟩,g4⟩,g5⟩,g6⟩:=hm
 refine ng ?_
 refine isTrue_chain (wpAny_mono (two_sound (Q2:=fun x y st2=>cmpF op st2 x y fun r=>if r then evW V c m st2 fun z s3=>cmpF op' s3 y z fun r'=>Q (.bool r') s3 else Q (.bool false) st2)
  (P:=fun u v s₂=>wpAny (model prog w) A (compareOp o u v) (fun cv s₃=>wpAny (model prog w) A (truthy cv) (fun t s₄=>if t then wpAny (model prog w) A (testChain pos v [o'] [eval r' env]) P E s₄ else P false s₄) E s₃) E s₂) Ha Hb g4 g5 R Ev h fun x y st2 ρ2 h2 tk u v q R2 S2 hx hy =>
  cmpF_sound (s:={ s with heap:=h2,toks:=tk }) X.room R2 g1 hx hy q fun bb tk2 q=>wpAny_truthy_bool ?_) (fun u s₁ z=>test_link z) fun _ _ e=>e) (lastMarks_two g3)
 cases bb with
 | false =>
  rw [if_neg Bool.false_ne_true] at q ⊢
  obtain ⟨b',e,p⟩:=G _ st2 ρ2 h2 tk2 q R2 S2
  cases e
  exact p
 | true =>
  rw [if_pos rfl] at q ⊢
  refine test_last (Hc env r' m E { s with heap:=h2,toks:=tk2 } ρ2 st2 _ _ g6 R2 (Ev.step S2) q fun z st3 ρ3 h3 tk3 w' q3 R3 S3 hz=>?_)
  refine cmpF_sound (s:={ s with heap:=h3,toks:=tk3 }) X.room R3 g2 (hy.step S3) hz q3 fun b3 tk4 q4=>wpAny_truthy_bool ?_
  obtain ⟨b',e,p⟩:=G _ st3 ρ3 h3 tk4 q4 R3 (Step.trans R2 S2 S3 fun _ x _=>x)
  cases e
  exact p
theorem mE_gl {x:Nat} {sc:Scope} {e:Expr} (hx:Nat.beq x 13=false) (h:mE sc (.gl x) e=true):∃ p,e=.Name (T x) p∧globOk sc (T x)=true:=by
 have h:(Nat.beq x 13 || bName e fun id=>sq id (T x) && globOk sc (T x))=true:=h
 rw [hx,Bool.false_or] at h
 obtain ⟨id,p,rfl,h⟩:=bName_inv h
 obtain ⟨h1,h2⟩:=and2 h
 obtain rfl:=sq_eq h1
 exact ⟨p,rfl,h2⟩
theorem all_sound (X:Body prog w cl B A V fa K):∀ p,All prog w cl B A V p:=by
 have pl:∀ {p:PE},(∀ sc es,mL sc p es=false)→EvS prog w cl B A V p→(∀ sc e env,mE sc p e=true→isTrue e env (eval e env)=(do let v ← eval e env; standAt e.pos; holding [v] (truthy v)))→All prog w cl B A V p:=fun h H he=>all_of h H (tr_plain H he)
 have nl:∀ {p:PE},(∀ sc es,mL sc p es=mL sc p es)→True:=fun _=>trivial
 intro p
 induction p with
 | cst v =>
  refine pl (fun _ _=>rfl) (fun env e m E s ρ st Q P hm R Ev h G=>?_) fun sc e env hm=>?_
  ·obtain ⟨_,_,_,rfl,hm2⟩:=bConst_inv hm
   exact const_sound hm2 R h G
  ·obtain ⟨_,_,_,rfl,hm⟩:=bConst_inv hm
   rfl
 | nm x =>
  refine pl (fun _ _=>rfl) (fun env e m E s ρ st Q P hm R Ev h G=>?_) fun sc e env hm=>?_
  ·obtain ⟨_,_,rfl,hm1⟩:=bName_inv hm
   obtain ⟨hm1,hm2⟩:=and2 hm1
   obtain rfl:=sq_eq hm1
   obtain ⟨v,e,q⟩:=oK_inv h
   exact load_name Ev hm2 e (fun u hu=>G.here R q hu s.toks) _
  ·obtain ⟨_,_,rfl,_⟩:=bName_inv hm
   rfl
 | gl x =>
  have nostuck:∀ {m st Q},evW V (.gl x) m st Q→Nat.beq x 13=false:=fun h=>by
   obtain ⟨v,e,q⟩:=oK_inv h
   cases z:Nat.beq x 13 with
   | false=>rfl
   | true=>rw [Nat.eq_of_beq_eq_true z,X.vok.stuck] at e; cases e
  have ev:EvS prog w cl B A V (.gl x):=fun env e m E s ρ st Q P hm R Ev h G=>by
   obtain ⟨_,rfl,hm2⟩:=mE_gl (nostuck h) hm
   obtain ⟨v,e,q⟩:=oK_inv h
   exact load_glob X.vok R Ev hm2 e fun u hu=>G.here R q hu s.toks
  refine all_of (fun _ _=>rfl) ev fun env e m E s ρ st Q P hm R Ev h G=>tr_of_ev ev hm R Ev h G ?_
  obtain ⟨_,rfl,_⟩:=mE_gl (nostuck h) hm
  rfl
 | nil =>
  exact ⟨fun env e m E s ρ st Q P hm=>(Bool.false_ne_true hm).elim,fun env es pos m E s ρ st Q P hm R Ev h G=>by
   cases es with
   | nil=>exact wpAny_items_nil (G .nil st ρ s.heap s.toks [] h R (Step.refl _) rfl)
   | cons e r=>exact (Bool.false_ne_true hm).elim,fun env e m E s ρ st Q P hm=>(Bool.false_ne_true hm).elim,evDe_nil,fun env es pos m E s ρ st Q P hm hl=>by
   cases es with
   | nil=>simp at hl
   | cons e r=>exact (Bool.false_ne_true hm).elim⟩
 | cons a r iha ihr =>
  refine ⟨fun env e m E s ρ st Q P hm=>(Bool.false_ne_true hm).elim,fun env es pos m E s ρ st Q P hm R Ev h G=>?_,fun env e m E s ρ st Q P hm=>(Bool.false_ne_true hm).elim,evDe_cons iha.ev ihr.od,evDo_cons iha.ev ihr.de⟩
  replace hm:=mL_cons hm
  obtain ⟨e,q,rfl,hm⟩:=hm
  ·refine items_spliced_cons hm.1.2 (iha.ev env e m E s ρ st _ _ hm.1.1 R Ev h fun v st1 ρ1 h1 tk u q1 R1 S1 hv=>?_)
   refine ihr.el env q pos m E { s with heap:=h1,toks:=tk } ρ1 st1 _ _ hm.2 R1 (Ev.step S1) q1 fun vs st2 ρ2 h2 tk2 us q2 R2 S2 it=>?_
   exact G _ st2 ρ2 h2 tk2 (u :: us) q2 R2 (Step.trans R1 S1 S2 fun _ x _=>x) ⟨u,us,rfl,hv.step S2,it⟩
 | tup e ih=>exact pl (fun _ _=>rfl) (tup_sound ih.el) fun sc e env hm=>by obtain ⟨_,_,_,rfl,_⟩:=bTup_inv hm; rfl
 | lst e ih=>exact pl (fun _ _=>rfl) (lst_sound ih.el) fun sc e env hm=>by obtain ⟨_,_,rfl,_⟩:=bLst_inv hm; rfl
 | dct e ih=>exact pl (fun _ _=>rfl) (dct_sound X ih.de) fun sc e env hm=>by obtain ⟨_,_,_,rfl,_⟩:=bDct_inv hm; rfl
 | attr e x ih=>exact pl (fun _ _=>rfl) (attr_sound X ih.ev) fun sc e env hm=>by obtain ⟨_,_,_,rfl,_⟩:=bAtt_inv hm; rfl
 | sub e i ih1 ih2=>exact pl (fun _ _=>rfl) (sub_soundE X ih1.ev ih2.ev) fun sc e env hm=>by obtain ⟨_,_,_,rfl,_⟩:=bSub_inv hm; rfl
 | bin op a b ih1 ih2=>exact pl (fun _ _=>rfl) (bin_sound X ih1.ev ih2.ev) fun sc e env hm=>by obtain ⟨_,_,_,_,rfl,_⟩:=bBin_inv hm; rfl
 | neg a ih=>exact pl (fun _ _=>rfl) (neg_sound ih.ev) fun sc e env hm=>by obtain ⟨_,_,rfl,_⟩:=mE_neg hm; rfl
 | band a b ih1 ih2=>exact all_of (fun _ _=>rfl) (band_sound ih1.ev ih2.ev) (band_tr ih1.tr ih2.tr)
 | bor a b ih1 ih2=>exact all_of (fun _ _=>rfl) (bor_sound ih1.ev ih2.ev) (bor_tr ih1.tr ih2.tr)
 | bnot a ih=>exact all_of (fun _ _=>rfl) (bnot_sound ih.ev) (bnot_tr ih.tr)
 | cmp op a b ih1 ih2=>exact all_of (fun _ _=>rfl) (cmp_sound X ih1.ev ih2.ev) (cmp_tr X ih1.ev ih2.ev)
 | cmp2 op op' a b c ih1 ih2 ih3=>exact all_of (fun _ _=>rfl) (cmp2_sound X ih1.ev ih2.ev ih3.ev) (cmp2_tr X ih1.ev ih2.ev ih3.ev)
 | ife c a b ih1 ih2 ih3=>exact all_of (fun _ _=>rfl) (ife_sound ih1.tr ih2.ev ih3.ev) (ife_tr ih1.tr ih2.tr ih3.tr)
 | isTup e ih=>exact pl (fun _ _=>rfl) (isTupE_sound X ih.ev) fun sc e env hm=>by obtain ⟨_,_,_,_,_,_,rfl,_⟩:=mE_isTup hm; rfl
 | fn f args ih=>exact pl (fun _ _=>rfl) (fn_sound X ih.el) fun sc e env hm=>by obtain ⟨_,_,_,_,rfl,_⟩:=bCalN_inv hm; rfl
 | bi f args ih=>exact pl (fun _ _=>rfl) (bi_sound X ih.el) fun sc e env hm=>by obtain ⟨_,_,_,_,rfl,_⟩:=bCalN_inv hm; rfl
 | meth o f args ih1 ih2=>exact pl (fun _ _=>rfl) (meth_sound X ih1.ev ih2.el) fun sc e env hm=>by obtain ⟨_,_,_,_,_,rfl,_⟩:=bCalA_inv hm; rfl
 | comp elt x k src cond ih1 ih2 ih3=>exact pl (fun _ _=>rfl) (comp_sound X ih1.ev ih3.tr ih2.ev ih2.el) fun sc e env hm=>by obtain ⟨el,px,it,ifs,csc,pos,rfl,_⟩:=mE_comp hm; rfl
end
end Mine
namespace Mine
section
set_option maxRecDepth 100000
open PySem PySem.W PyProof.Rows PySem.Calls
variable {prog:PySem.Program} {w:World} {cl:Nat→Addr} {B:Heap} {A:Around} {E:Value→Shared→Prop} {s:Shared} {ρ ρ':Nat→Addr} {st st':Store} {h h':Heap} {n:Nat} {m m':Loc} {env:Env} {V:MEnv} {K:Frag} {fa:Nat→Nat→Addr}
theorem draw_list {it t:Addr} {items:Array Value} (hne:t≠it):∀ (n i:Nat) (s:Shared) (Q:List Value→Shared→Prop),s.heap.IsListIter it t i→s.heap.IsList t items→i + n≤items.size →
  (∀ h',h'.IsListIter it t (i + n)→Heap.SameBut it s.heap h'→Q ((items.toList.drop i).take n) { s with heap:=h' })→wpAny (model prog w) A (draw (.ref it) n) Q E s
 | 0,i,s,Q,hit,_,_,hQ=>by
  show wpAny _ _ (pure []) Q E s
  exact wpAny_pure (by simpa using hQ s.heap hit (Heap.SameBut.refl ..))
 | n + 1,i,s,Q,hit,ht,hle,hQ=>by
  have hlt:i < items.size:=by lia
  show wpAny _ _ (pyNext (.ref it) >>= _) Q E s
  refine wpAny_bind (wpAny_pyNext_list_item hit ht (x:=items[i]) (by simp [hlt]) fun h₁ hit₁ hs₁=>?_)
  refine wpAny_bind (wpAny_holding (draw_list hne n (i + 1) _ _ hit₁ (ht.extBut hs₁.extBut hne) (by lia) fun h₂ hit₂ hs₂=>wpAny_pure ?_))
  have hd:items.toList.drop i=items[i] :: items.toList.drop (i + 1):=by simp [List.drop_eq_getElem_cons,hlt]
  have:=hQ h₂ (by rw [show i + (n + 1)=i + 1 + n by lia]; exact hit₂) (hs₁.trans hs₂)
  rw [hd,List.take_succ_cons] at this
  exact this
theorem unpackItems_list {t:Addr} {items:Array Value} {Q:List Value→Shared→Prop} (hh:A.handled=none) (ht:s.heap.IsList t items)
  (hQ:∀ h',Heap.ExtBut s.heap.objs.size s.heap h'→Q items.toList { s with heap:=h' }):wpAny (model prog w) A (unpackItems (.ref t) items.size none) Q E s:=by
 have hlt:t≠s.heap.objs.size:=by obtain ⟨o,ho,_⟩:=ht; exact Nat.ne_of_lt (Heap.lt_size ho)
 unfold unpackItems
 refine wpAny_bind ?_
 ·unfold notIterableAtAll
  refine wpAny_bind (wpAny_specialOf ht.typeIs slot_list_iter.lookup ?_)
  refine wpAny_pure ?_
  simp only [Bool.false_eq_true,if_false]
  refine wpAny_bind (wpAny_holding (wpAny_pyIter_list ht ?_))
  refine wpAny_bind (wpAny_holding (draw_list hlt items.size 0 _ _ ⟨_,Heap.get?_push_size _ rfl,rfl,rfl⟩ (ht.push _) (by lia) fun h₁ hit₁ hs₁=>?_))
  have hall:List.take items.size (List.drop 0 items.toList)=items.toList:=by
   rw [List.drop_zero]; exact List.take_of_length_le (by simp)
  rw [hall]
  rw [if_neg (by simp)]
  have ht₁:h₁.IsList t items:=(ht.push _).extBut hs₁.extBut hlt
  refine wpAny_bind (wpAny_holding (wpAny_pyNext_list_end hh hit₁ ht₁ (by simp) fun h₂ he₂=>?_))
  simp only [Option.isSome_none,Bool.false_eq_true,if_false]
  refine wpAny_pure (hQ h₂ fun b o hb e=>he₂ b o hb (hs₁.extBut b o hb (Heap.get?_push_of_some _ e)))
theorem items_ofL {l:List AV} {vs:List Value} {h:Heap} (x:VL ρ n h l vs):Items ρ n h (AV.ofL l) vs:=VL_items (ofL_toL l) x
theorem unpack_items (M:Room A B) (R:Rel w cl B ρ st s.heap) {a c:AV} {u:Value} {k:Nat} {Q:List Value→Shared→Prop} (hv:Val ρ st.length s.heap a u) (e:unp st a=some c) (hk:chainLen c=some k)
  (hQ:∀ h' vs,(∀ b o,s.heap.get? b=some o→h'.get? b=some o)→Items ρ st.length h' c vs→vs.length=k→Q vs { s with heap:=h' }):wpAny (model prog w) A (unpackItems u k none) Q E s:=by
 have keep:∀ {h':Heap},Heap.ExtBut s.heap.objs.size s.heap h'→∀ b o,s.heap.get? b=some o→h'.get? b=some o:=fun x b o e=>x b o (Nat.ne_of_lt (Heap.lt_size e)) e
 cases a with
 | ref i =>
  obtain ⟨hi,rfl⟩:=hv
  rcases objO_inv e with ⟨l,el,e⟩ | ⟨_,_,e⟩ | ⟨_,_,e⟩
  ·cases e
   obtain ⟨vs,p,v⟩:=lst_at R el
   have it:=items_ofL v
   have hl:=chain_len hk it
   have:k=vs.toArray.size:=by rw [List.size_toArray,hl]
   rw [this]
   exact unpackItems_list M.calm p.isList fun h' x=>hQ h' vs.toArray.toList (keep x) (it.mono (TK.of_keep (keep x)) (Nat.le_refl _) fun _ _=>rfl) hl
  ·exact none_ne e
  ·exact none_ne e
 | nil =>
  cases e
  obtain ⟨p,vs,rfl,ht,it⟩:=hv
  have hl:=chain_len hk it
  have:k=vs.toArray.size:=by rw [List.size_toArray,hl]
  rw [this]
  exact wpAny_unpackItems_tuple M.calm ht fun h' x=>hQ h' vs.toArray.toList (keep x) (it.mono (TK.of_keep (keep x)) (Nat.le_refl _) fun _ _=>rfl) hl
 | cons a b =>
  cases e
  obtain ⟨p,vs,rfl,ht,it⟩:=hv
  have hl:=chain_len hk it
  have:k=vs.toArray.size:=by rw [List.size_toArray,hl]
  rw [this]
  exact wpAny_unpackItems_tuple M.calm ht fun h' x=>hQ h' vs.toArray.toList (keep x) (it.mono (TK.of_keep (keep x)) (Nat.le_refl _) fun _ _=>rfl) hl
 | _=>exact none_ne e
noncomputable def GoalA (w:World) (cl:Nat→Addr) (B:Heap) (env:Env) (ρ:Nat→Addr) (st:Store) (s:Shared) (Q:Loc→Store→Prop) (P:Shared→Prop):Prop :=
 ∀ m' st' ρ' h' tk,Q m' st'→Rel w cl B ρ' st' h'→EnvR env ρ' st'.length h' m'→Step (EnvW env) ρ st s.heap ρ' st' h'→P { s with heap:=h',toks:=tk }
noncomputable def AsS (prog:PySem.Program) (w:World) (cl:Nat→Addr) (B:Heap) (A:Around) (V:MEnv) (p:PT):Prop :=
 ∀ (env:Env) (e:Expr) (m:Loc) (E:Value→Shared→Prop) (s:Shared) (ρ:Nat→Addr) (st:Store) (v:AV) (u:Value) (Q:Loc→Store→Prop) (P:Unit→Shared→Prop),(∀ b,EnvW env b→B.get? b=none)→mT env.scope p e=true→Rel w cl B ρ st s.heap→EnvR env ρ st.length s.heap m→Val ρ st.length s.heap v u→asgW V p v m st Q →
  GoalA w cl B env ρ st s Q (P ())→wpAny (model prog w) A (assign e env u) P E s
noncomputable def AsL (prog:PySem.Program) (w:World) (cl:Nat→Addr) (B:Heap) (A:Around) (V:MEnv) (p:PT):Prop :=
 ∀ (env:Env) (es:List Expr) (m:Loc) (E:Value→Shared→Prop) (s:Shared) (ρ:Nat→Addr) (st:Store) (v:AV) (us:List Value) (Q:Loc→Store→Prop) (P:Unit→Shared→Prop),(∀ b,EnvW env b→B.get? b=none)→mTs env.scope p es=true→Rel w cl B ρ st s.heap→EnvR env ρ st.length s.heap m→Items ρ st.length s.heap v us→asgW V p v m st Q →
  GoalA w cl B env ρ st s Q (P ())→wpAny (model prog w) A (assignInOrder ((assignEach es env).map (·.2)) us) P E s
theorem GoalA.after {Q Q':Loc→Store→Prop} {P:Shared→Prop} {tk:Nat} (G:GoalA w cl B env ρ st s Q P) (R:Rel w cl B ρ' st' h') (S:Step (EnvW env) ρ st s.heap ρ' st' h') (i:∀ m st,Q' m st→Q m st):GoalA w cl B env ρ' st' { s with heap:=h',toks:=tk } Q' P :=
 fun m2 st2 ρ2 h2 tk2 q R2 Ev2 S2=>G m2 st2 ρ2 h2 tk2 (i _ _ q) R2 Ev2 (Step.trans R S S2 fun _ x _=>x)
theorem asg_ns {e:Expr} {r:List Expr} {env:Env} (h:notStar e=true):assignEach (e :: r) env=(false,assign e env) :: assignEach r env:=by
 cases e <;> first | rfl | cases h
theorem mTs_plain {sc:Scope} {env:Env}:∀ (p:PT) (es:List Expr),mTs sc p es=true→(assignEach es env).length=p.len∧(assignEach es env).findIdx? (·.1)=none:=by
 intro p
 induction p with
 | nil=>intro es h; obtain rfl:=nilL_inv h; exact ⟨rfl,rfl⟩
 | cons a r _ ih =>
  intro es h
  obtain ⟨e,q,rfl,h,h2⟩:=mTs_cons h
  rw [asg_ns h.2]
  have:=ih q h2
  refine ⟨congrArg (· + 1) this.1,?_⟩
  rw [List.findIdx?_cons]
  simp [this.2]
 | _=>intro es h; exact (Bool.false_ne_true h).elim
theorem as_all (X:Body prog w cl B A V fa K):∀ p,AsS prog w cl B A V p∧AsL prog w cl B A V p:=by
 intro p
 induction p with
 | nm x =>
  refine ⟨fun env e m E s ρ st v u Q P hB hm R Ev hv h G=>?_,fun env es m E s ρ st v us Q P hB hm=>(Bool.false_ne_true hm).elim⟩
  obtain ⟨_,_,rfl,hm2⟩:=bName_inv hm
  obtain ⟨hm1,hm3⟩:=and2 hm2
  obtain rfl:=sq_eq hm1
  exact wpAny_assign_Name (store_name R Ev hB hm3 hv fun h' tk R' Ev' S'=>G _ st ρ h' tk h R' Ev' S')
 | attr o x =>
  refine ⟨fun env e m E s ρ st v u Q P hB hm R Ev hv h G=>?_,fun env es m E s ρ st v us Q P hB hm=>(Bool.false_ne_true hm).elim⟩
  replace hm:=bAtt_inv hm
  obtain ⟨oe,id,pos,rfl,hm⟩:=hm
  ·skip
   simp only [Bool.and_eq_true] at hm
   obtain ⟨⟨h1,h2⟩,h3⟩:=hm
   obtain rfl:=sq_eq h1
   rw [arm_assign_Attribute]
   refine wpAny_bind (wpAny_holding ((all_sound X o).ev env oe m E s ρ st _ _ h2 R Ev h fun a st1 ρ1 h1 tk ov q R1 S1 ha=>?_))
   obtain ⟨st2,e,q⟩:=oK_inv q
   refine wpAny_bind (wpAny_standAt (wpAny_bind (wpAny_holding ?_)))
   refine set_sound (s:={ s with heap:=h1,toks:=tk }) X.vok.kok (X.vok.in_ R1) R1 ha (hv.step S1) h3 e fun h2 tk2 R2 S2=>wpAny_release ?_
   have S3:=Step.trans R1 S1 S2 fun _ x _=>x
   exact G m st2 ρ1 h2 tk2 q R2 (Ev.step S3) (S3.weak fun b hb=>hb.elim)
 | sub o i =>
  refine ⟨fun env e m E s ρ st v u Q P hB hm R Ev hv h G=>?_,fun env es m E s ρ st v us Q P hB hm=>(Bool.false_ne_true hm).elim⟩
  replace hm:=bSub_inv hm
  obtain ⟨oe,ie,pos,rfl,hm⟩:=hm
  ·skip
   simp only [Bool.and_eq_true] at hm
   obtain ⟨⟨h1,h2⟩,h3⟩:=hm
   rw [arm_assign_Subscript]
   refine wpAny_bind (wpAny_holding ((all_sound X o).ev env oe m E s ρ st _ _ h1 R Ev h fun a st1 ρ1 hh1 tk ov q R1 S1 ha=>?_))
   refine wpAny_bind (wpAny_holding ((all_sound X i).ev env ie m E { s with heap:=hh1,toks:=tk } ρ1 st1 _ _ h2 R1 (Ev.step S1) q fun k st2 ρ2 hh2 tk2 iv q2 R2 S2 hk=>?_))
   obtain ⟨st3,e,q3⟩:=oK_inv q2
   refine wpAny_bind (wpAny_standAt (wpAny_bind (wpAny_holding ?_)))
   refine setI_sound (s:={ s with heap:=hh2,toks:=tk2 }) X.room R2 (ha.step S2) hk ((hv.step S1).step S2) e fun h4 tk4 R4 S4=>wpAny_release ?_
   have S3:=Step.trans R2 (Step.trans R1 S1 S2 fun _ x _=>x) S4 fun _ x _=>x
   exact G m st3 ρ2 h4 tk4 q3 R4 (Ev.step S3) (S3.weak fun b hb=>hb.elim)
 | nil =>
  refine ⟨fun env e m E s ρ st v u Q P hB hm=>(Bool.false_ne_true hm).elim,fun env es m E s ρ st v us Q P hB hm R Ev hi h G=>?_⟩
  cases es with
  | nil=>exact wpAny_pure (G m st ρ s.heap s.toks (nilM_inv h).2 R Ev (Step.refl _))
  | cons e r=>exact (Bool.false_ne_true hm).elim
 | cons t r iht ihr =>
  refine ⟨fun env e m E s ρ st v u Q P hB hm=>(Bool.false_ne_true hm).elim,fun env es m E s ρ st v us Q P hB hm R Ev hi h G=>?_⟩
  replace hm:=mTs_cons hm
  obtain ⟨e,q,rfl,hm⟩:=hm
  ·replace h:=consM_inv h
   obtain ⟨a,b,rfl,h⟩:=h
   obtain ⟨u,us',rfl,hu,hr⟩:=hi
   rw [asg_ns hm.1.2]
   show wpAny _ _ (do holding us' (assign e env u); assignInOrder ((assignEach q env).map (·.2)) us') P E s
   refine wpAny_bind (wpAny_holding (iht.1 env e m E s ρ st a u _ _ hB hm.1.1 R Ev hu h fun m1 st1 ρ1 h1 tk q1 R1 Ev1 S1=>?_))
   exact ihr.2 env q m1 E { s with heap:=h1,toks:=tk } ρ1 st1 b us' Q P hB hm.2 R1 Ev1 (hr.step S1) q1 (G.after R1 S1 fun _ _ x=>x)
 | tup t ih =>
  refine ⟨fun env e m E s ρ st v u Q P hB hm R Ev hv h G=>?_,fun env es m E s ρ st v us Q P hB hm=>(Bool.false_ne_true hm).elim⟩
  replace hm:=bTup_inv hm
  obtain ⟨es,k,pos,rfl,hm⟩:=hm
  ·skip
   obtain ⟨c,e1,e2,h⟩:=oK_inv h
   obtain ⟨l1,l2⟩:=mTs_plain (env:=env) t es hm
   rw [arm_assign_Tuple]
   refine wpAny_bind (wpAny_standAt ?_)
   unfold unpack
   rw [l1,l2]
   refine wpAny_bind (wpAny_holding (unpack_items X.room R hv e1 e2 fun h' vs hk it hl=>?_))
   have R':=R.keeps hk
   exact ih.2 env es m E { s with heap:=h',toks:=s.toks } ρ st c vs Q P hB hm R'.1 (Ev.step R'.2) it h (G.after R'.1 (R'.2.weak fun b hb=>hb.elim) fun _ _ x=>x)
end
end Mine
namespace Mine
section
set_option maxRecDepth 100000
open PySem PySem.W PyProof.Rows PySem.Calls
variable {prog:PySem.Program} {w:World} {cl:Nat→Addr} {B:Heap} {A:Around} {E:Value→Shared→Prop} {s:Shared} {ρ ρ':Nat→Addr} {st st':Store} {h h':Heap} {n:Nat} {m m':Loc} {env:Env} {V:MEnv} {K:Frag} {fa:Nat→Nat→Addr}
noncomputable def FlR (ρ:Nat→Addr) (n:Nat) (h:Heap):Fl→Flow→Prop
 | .next,f=>f=.next
 | .cont,f=>f=.cont
 | .ret v,f=>∃ u,f=.ret u∧Val ρ n h v u
noncomputable def GoalS (w:World) (cl:Nat→Addr) (B:Heap) (env:Env) (ρ:Nat→Addr) (st:Store) (s:Shared) (Q:Fl→Loc→Store→Prop) (P:Flow→Shared→Prop):Prop :=
 ∀ fl m' st' ρ' h' tk f,Q fl m' st'→Rel w cl B ρ' st' h'→EnvR env ρ' st'.length h' m'→Step (EnvW env) ρ st s.heap ρ' st' h'→FlR ρ' st'.length h' fl f→P f { s with heap:=h',toks:=tk }
theorem GoalS.after {Q:Fl→Loc→Store→Prop} {P:Flow→Shared→Prop} {tk:Nat} (G:GoalS w cl B env ρ st s Q P) (R:Rel w cl B ρ' st' h') (S:Step (EnvW env) ρ st s.heap ρ' st' h'):GoalS w cl B env ρ' st' { s with heap:=h',toks:=tk } Q P :=
 fun fl m2 st2 ρ2 h2 tk2 f q R2 Ev2 S2=>G fl m2 st2 ρ2 h2 tk2 f q R2 Ev2 (Step.trans R S S2 fun _ x _=>x)
noncomputable def ExS (prog:PySem.Program) (w:World) (cl:Nat→Addr) (B:Heap) (A:Around) (V:MEnv) (p:PS):Prop :=
 ∀ (env:Env) (l:List Stmt) (m:Loc) (E:Value→Shared→Prop) (s:Shared) (ρ:Nat→Addr) (st:Store) (Q:Fl→Loc→Store→Prop) (P:Flow→Shared→Prop),(∀ b,EnvW env b→B.get? b=none)→mS env.scope p l=true→Rel w cl B ρ st s.heap→EnvR env ρ st.length s.heap m→exW V p m st Q →
  GoalS w cl B env ρ st s Q P→wpAny (model prog w) A (execs l env) P E s
theorem execs_one (st:Stmt) (env:Env):execs [st] env=exec st env:=by
 rw [execs_cons]
 refine (congrArg (exec st env >>= ·) (funext fun f=>?_)).trans (bind_pure _)
 cases f <;> rfl
theorem one {st:Stmt} {P:Flow→Shared→Prop} (h:wpAny (model prog w) A (exec st env) P E s):wpAny (model prog w) A (execs [st] env) P E s:=by rw [execs_one]; exact h
theorem Step.fresh' {W W':Addr→Prop} (S:Step W ρ st h ρ' st' h') (f:∀ b,W b→W' b∨h.get? b=none):Step W' ρ st h ρ' st' h' where
 le:=S.le
 ag:=S.ag
 tk:=S.tk
 out:=fun b o nb hi e=>S.out b o (fun x=>(f b x).elim nb fun z=>by rw [z] at e; cases e) hi e
 ex:=fun b o nb e=>S.ex b o (fun x=>(f b x).elim nb fun z=>by rw [z] at e; cases e) e
 new:=fun i a b nb=>by
  by_cases x:W (ρ' i)
  ·exact (f _ x).elim (fun z=>absurd z nb) id
  ·exact S.new i a b x
 dep:=S.dep
theorem blockKind_fn (h:env.scope.kind=.function):env.blockKind=.function:=by
 unfold Env.blockKind; rw [h]; rfl
theorem interactive_fn (h:env.scope.kind=.function):interactive env=false:=by
 unfold interactive; rw [h]; rfl
theorem swaps_no {value:Expr} {t:Option Expr} {line:Nat} (h:notComp value=true):swapsWith value t line env=pure false:=by
 cases value <;> first | rfl | cases h
noncomputable def putAll (m:Loc) (l:List (Nat×AV)):Loc:=l.foldl (fun m p=>put m p.1 p.2) m
theorem putAll_get:∀ (l:List (Nat×AV)) (m:Loc) (y:Nat),(l.map (·.1)).Nodup→(∀ v,(y,v)∈l→get (putAll m l) y=some v)∧((∀ v,(y,v) ∉ l)→get (putAll m l) y=get m y)
 | [],m,y,_=>⟨fun v h=>(by cases h),fun _=>rfl⟩
 | (x,u) :: r,m,y,nd=>by
  rw [List.map_cons,List.nodup_cons] at nd
  have ih:=putAll_get r (put m x u) y nd.2
  show (∀ v,(y,v)∈(x,u) :: r→get (putAll (put m x u) r) y=some v)∧((∀ v,(y,v) ∉ (x,u) :: r)→get (putAll (put m x u) r) y=get m y)
  refine ⟨fun v hv=>?_,fun hn=>?_⟩
  ·rcases List.mem_cons.mp hv with e | e
   ·cases e
    rw [ih.2 fun v hv=>nd.1 (List.mem_map.mpr ⟨_,hv,rfl⟩),get_put,if_pos rfl]
   ·exact ih.1 v e
  ·rw [ih.2 fun v hv=>hn v (List.mem_cons_of_mem _ hv),get_put,if_neg fun e=>hn u (by rw [← e]; exact List.mem_cons_self)]
theorem putAll_reverse (l:List (Nat×AV)) (m:Loc) (y:Nat) (nd:(l.map (·.1)).Nodup):get (putAll m l) y=get (putAll m l.reverse) y:=by
 have nd':(l.reverse.map (·.1)).Nodup:=by rw [List.map_reverse]; exact List.pairwise_reverse.mpr (nd.imp fun h e=>h e.symm)
 have a:=putAll_get l m y nd
 have b:=putAll_get l.reverse m y nd'
 by_cases h:∃ v,(y,v)∈l
 ·obtain ⟨v,hv⟩:=h
  rw [a.1 v hv,b.1 v (List.mem_reverse.mpr hv)]
 ·have h':∀ v,(y,v) ∉ l:=fun v hv=>h ⟨v,hv⟩
  rw [a.2 h',b.2 fun v hv=>h' v (List.mem_reverse.mp hv)]
set_option tactic.hygienic true in
theorem storeAll_names (hB:∀ b,EnvW env b→B.get? b=none):∀ (l:List (Nat×AV)) (us:List Value) (m:Loc) (s:Shared) (ρ:Nat→Addr) (st:Store) (P:Unit→Shared→Prop),(∀ x,x∈l.map (·.1)→env.kindOf (T x)=some .local)→Rel w cl B ρ st s.heap→EnvR env ρ st.length s.heap m→VL ρ st.length s.heap (l.map (·.2)) us →
  (∀ h' tk,Rel w cl B ρ st h'→EnvR env ρ st.length h' (putAll m l)→Step (EnvW env) ρ st s.heap ρ st h'→P () { s with heap:=h',toks:=tk }) →
  wpAny (model prog w) A (assignInOrder (l.map fun p=>bindName env (T p.1)) us) P E s:=by
 intro l
 induction l with
 | nil =>
  intro us m s ρ st P _ R Ev hv hP
  have:=hP s.heap s.toks R Ev (Step.refl _)
  rw [List.map_nil]
  cases us with
  | nil=>exact wpAny_pure this
  | cons _ _=>exact wpAny_pure this
 | cons p r ih =>
  obtain ⟨x,v⟩:=p
  intro us m s ρ st P hk R Ev hv hP
  rw [List.map_cons] at hv ⊢
  cases hv with
  | cons hu hr =>
   rename_i u us
   have hst:storeOk env.scope x=true:=by
    have:=hk x (by simp)
    unfold storeOk
    unfold Env.kindOf at this
    rw [this]
   refine wpAny_bind (wpAny_holding (wpAny_bindName (store_name R Ev hB hst hu fun h' tk R' Ev' S'=>?_)))
   exact ih us (put m x v) { s with heap:=h',toks:=tk } ρ st P (fun y hy=>hk y (by simp at hy ⊢; exact .inr hy)) R' Ev' (hr.step S') fun h2 tk2 R2 Ev2 S2=>hP h2 tk2 R2 Ev2 (Step.trans R' S' S2 fun _ x _=>x)
theorem asg_names:∀ (t:PT) (ts:List Expr) (sc:Scope) (f:Expr→Option Str) (c:AV) (m:Loc) (st:Store) (Q:Loc→Store→Prop),mTs sc t ts=true→(∀ e y,f e=some y→∃ p,e=.Name y p)→(ts.filterMap f).length=ts.length→asgW V t c m st Q →
  ∃ l:List (Nat×AV),ts.filterMap f=l.map (fun p=>T p.1)∧c.toL=some (l.map (·.2))∧Q (putAll m l) st:=by
 intro t
 induction t with
 | nil =>
  intro ts sc f c m st Q hm hf hl h
  cases ts with
  | nil=>exact ⟨[],rfl,by rw [(nilM_inv h).1]; rfl,(nilM_inv h).2⟩
  | cons e r=>exact (Bool.false_ne_true hm).elim
 | cons a r _ ihr =>
  intro ts sc f c m st Q hm hf hl h
  replace hm:=mTs_cons hm
  obtain ⟨e,q,rfl,hm⟩:=hm
  ·have hle:(q.filterMap f).length≤q.length:=List.length_filterMap_le _ _
   cases hfe:f e with
   | none=>simp only [List.filterMap_cons,hfe,List.length_cons] at hl; lia
   | some y =>
    obtain ⟨p,rfl⟩:=hf e y hfe
    replace h:=consM_inv h
    obtain ⟨x,b,rfl,h⟩:=h
    cases a with
    | nm z =>
     have hm1:(sq y (T z) && storeOk sc z)=true:=hm.1.1
     obtain rfl:=sq_eq (and2 hm1).1
     obtain ⟨l,e1,e2,q1⟩:=ihr q sc f b (put m z x) st Q hm.2 hf (by simp only [List.filterMap_cons,hfe,List.length_cons] at hl; lia) h
     exact ⟨(z,x) :: l,by rw [List.filterMap_cons,hfe,e1]; rfl,by rw [toL_c,e2]; rfl,q1⟩
    | _=>exact (Bool.false_ne_true hm.1.1).elim
 | _=>intro ts sc f c m st Q hm; exact (Bool.false_ne_true hm).elim
noncomputable def nameAt (env:Env) (line:Nat):Expr→Option Str
 | .Name id pos=>if env.scope.names.lookup id == some .local && pos.line == line then some id else none
 | _=>none
theorem nameAt_name {line:Nat} {e:Expr} {y:Str} (h:nameAt env line e=some y):(∃ p,e=.Name y p)∧env.kindOf y=some .local:=by
 unfold nameAt at h
 set_option tactic.hygienic true in split at h
 ·set_option tactic.hygienic true in split at h
  ·rename_i c
   simp only [Bool.and_eq_true,beq_iff_eq] at c
   cases h
   exact ⟨⟨_,rfl⟩,c.1⟩
  ·cases h
 ·cases h
theorem swap_facts {ts vs:List Expr} {r:Option (List Str)} {a:Nat} {b:Pos} {c:Nat} {d:Pos} (hf:env.scope.kind=.function) (h:swapOf env.scope ts vs=some r):swappedStores [.Tuple ts a b] (.Tuple vs c d) env=pure r ∧
  ∀ names,r=some names→∃ line,names=ts.filterMap (nameAt env line)∧names.length=ts.length∧names.Nodup:=by
 have h:(if !(ts.length == 2 || ts.length == 3) || vs.length != ts.length then some none
  else if vs.any fun | .Starred ..=>true | _=>false then some none
  else if (ts.filterMap (nameAt env ((ts.head?.map (·.pos.line)).getD 0))).length != ts.length || (ts.filterMap (nameAt env ((ts.head?.map (·.pos.line)).getD 0))).eraseDups.length != (ts.filterMap (nameAt env ((ts.head?.map (·.pos.line)).getD 0))).length then some none
  else if vs.all (foldedForSure 8) then some none
  else if vs.all (constantsAlone 8) then none
  else if decide (List.Nodup (α:=Str) (ts.filterMap (nameAt env ((ts.head?.map (·.pos.line)).getD 0)))) then some (some (ts.filterMap (nameAt env ((ts.head?.map (·.pos.line)).getD 0)))) else none)=some r:=h
 have e:swappedStores [.Tuple ts a b] (.Tuple vs c d) env=(do
  if !(ts.length == 2 || ts.length == 3) || vs.length != ts.length || env.blockKind != .function then return none
  if vs.any fun | .Starred ..=>true | _=>false then return none
  let names:=ts.filterMap (nameAt env ((ts.head?.map (·.pos.line)).getD 0))
  if names.length != ts.length || names.eraseDups.length != names.length then return none
  if vs.all (foldedForSure 8) then return none
  if vs.all (constantsAlone 8) then unsupported "assign.tuple-of-constant-expressions:order-of-the-stores"
  return some names):=rfl
 rw [e,blockKind_fn hf]
 dsimp only at h ⊢
 generalize hn:ts.filterMap (nameAt env ((ts.head?.map (·.pos.line)).getD 0))=names at h ⊢
 have e1:(!(ts.length == 2 || ts.length == 3) || vs.length != ts.length || ScopeKind.function != ScopeKind.function)=(!(ts.length == 2 || ts.length == 3) || vs.length != ts.length):=by rw [bne_self_eq_false,Bool.or_false]
 rw [e1]
 clear e1 e
 generalize (!(ts.length == 2 || ts.length == 3) || vs.length != ts.length)=b1 at h ⊢
 generalize (vs.any fun | .Starred ..=>true | _=>false)=b2 at h ⊢
 generalize h3:(names.length != ts.length || names.eraseDups.length != names.length)=b3 at h ⊢
 generalize vs.all (foldedForSure 8)=b4 at h ⊢
 generalize vs.all (constantsAlone 8)=b5 at h ⊢
 generalize h6:decide (List.Nodup (α:=Str) names)=b6 at h
 have no:∀ {x:Sem (Option (List Str))},x=pure none→some none=some r→x=pure r∧∀ nm,r=some nm→∃ line,nm=ts.filterMap (nameAt env line)∧nm.length=ts.length∧nm.Nodup:=fun hx q=>by
  rw [← Option.some.inj q]; exact ⟨hx,fun _ q=>by cases q⟩
 cases b1 with
 | true=>exact no rfl h
 | false =>
  cases b2 with
  | true=>exact no rfl h
  | false =>
   cases b3 with
   | true=>exact no rfl h
   | false =>
    cases b4 with
    | true=>exact no rfl h
    | false =>
     cases b5 with
     | true=>exact none_ne h
     | false =>
      cases b6 with
      | false=>exact none_ne h
      | true =>
       have h:some (some names)=some r:=h
       rw [← Option.some.inj h]
       refine ⟨rfl,fun nm q=>?_⟩
       rw [← Option.some.inj q]
       exact ⟨_,hn.symm,by simpa using (Bool.or_eq_false_iff.mp h3).1,of_decide_eq_true h6⟩
theorem VL.rev {xs:List AV} {vs:List Value} (x:VL ρ n h xs vs):VL ρ n h xs.reverse vs.reverse:=by
 induction x with
 | nil=>exact .nil
 | cons hv _ ih=>rw [List.reverse_cons,List.reverse_cons]; exact ih.append (.cons hv .nil)
theorem assign_swapped (X:Body prog w cl B A V fa K) (hB:∀ b,EnvW env b→B.get? b=none) {t:PT} {e:PE} {ts vs:List Expr} {a c:Nat} {b d pos:Pos} {names:List Str} {Q:Fl→Loc→Store→Prop} {P:Flow→Shared→Prop} (hsw:swapOf env.scope ts vs=some (some names)) (ht:mTs env.scope t ts=true) (he:mE env.scope e (.Tuple vs c d)=true)
  (R:Rel w cl B ρ st s.heap) (Ev:EnvR env ρ st.length s.heap m) (h:exW V (.asg (.tup t) e) m st Q) (G:GoalS w cl B env ρ st s Q P):wpAny (model prog w) A (exec (.Assign [.Tuple ts a b] (.Tuple vs c d) pos) env) P E s:=by
 obtain ⟨e1,e2⟩:=swap_facts (a:=a) (b:=b) (c:=c) (d:=d) Ev.fn hsw
 obtain ⟨line,hn,hlen,hnd⟩:=e2 names rfl
 rw [arm_exec_Assign]
 refine wpAny_bind (wpAny_standAt (wpAny_bind (wpAny_of_eq (a:=false) (show swapsWith (.Tuple vs c d) (some (.Tuple ts a b)) pos.line env=pure false from swaps_no rfl) ?_)))
 simp only [Bool.false_eq_true,if_false]
 refine wpAny_bind ((all_sound X e).ev env (.Tuple vs c d) m E s ρ st _ _ he R Ev h fun v st1 ρ1 h1 tk u q R1 S1 hv=>?_)
 rw [e1]
 refine wpAny_bind (wpAny_pure ?_)
 obtain ⟨cc,u1,u2,q⟩:=oK_inv q
 show wpAny _ _ (do
  rule "assign.swapped-stores"
  let items ← unpackItems u names.length none
  assignInOrder (names.reverse.map fun n=>bindName env n) items.reverse
  pure Flow.next) _ _ _
 have hl:t.len=names.length:=by
  rw [hlen,← (mTs_plain (env:=env) t ts ht).1]
  have:∀ (es:List Expr),(assignEach es env).length=es.length:=fun es=>by
   induction es with
   | nil=>rfl
   | cons e r ih=>cases e <;> exact congrArg Nat.succ ih
  exact (this ts)
 rw [hl] at u2
 obtain ⟨l,n1,n2,q⟩:=asg_names t ts env.scope (nameAt env line) cc m st1 _ ht (fun e y z=>(nameAt_name z).1) (by rw [← hn]; exact hlen) q
 refine wpAny_bind (wpAny_rule (wpAny_bind (unpack_items (s:={ s with heap:=h1,toks:=tk }) X.room R1 hv u1 u2 fun h2 us hk it _=>?_)))
 have RS:=R1.keeps hk
 have en:(names.reverse.map fun n=>bindName env n)=l.reverse.map fun p=>bindName env (T p.1):=by
  rw [hn,n1,← List.map_reverse,List.map_map]; rfl
 rw [en]
 have nd:(l.map (·.1)).Nodup:=by
  rw [hn,n1] at hnd
  have:(l.map fun p=>T p.1)=(l.map (·.1)).map T:=by rw [List.map_map]; rfl
  rw [this] at hnd
  exact (List.pairwise_map.mp hnd).imp fun z e=>z (by rw [e])
 refine wpAny_bind (storeAll_names hB l.reverse us.reverse m { s with heap:=h2,toks:=tk } ρ1 st1 _ (fun x hx=>?_) RS.1 ((Ev.step S1).step RS.2) ?_ fun h3 tk3 R3 Ev3 S3=>wpAny_pure ?_)
 ·have:T x∈ts.filterMap (nameAt env line):=by
   rw [n1]
   rw [List.map_reverse,List.mem_reverse] at hx
   obtain ⟨p,hp,e⟩:=List.mem_map.mp hx
   exact List.mem_map.mpr ⟨p,hp,by rw [← e]⟩
  obtain ⟨ee,_,z⟩:=List.mem_filterMap.mp this
  exact (nameAt_name z).2
 ·rw [List.map_reverse]
  exact (items_toL n2 it).rev
 ·exact G .next (putAll m l) st1 ρ1 h3 tk3 .next q R3 (Ev3.congr fun y=>putAll_reverse l m y nd) (Step.trans RS.1 (Step.trans R1 (S1.weak fun b hb=>hb.elim) (RS.2.weak fun b hb=>hb.elim) fun _ x _=>x) S3 fun _ x _=>x) rfl
theorem assign_plain (X:Body prog w cl B A V fa K) (hB:∀ b,EnvW env b→B.get? b=none) {t:PT} {e:PE} {tg value:Expr} {pos:Pos} {Q:Fl→Loc→Store→Prop} {P:Flow→Shared→Prop} (hsw:swapsWith value (some tg) pos.line env=pure false) (hno:swappedStores [tg] value env=pure none) (ht:mT env.scope t tg=true) (he:mE env.scope e value=true) (hns:notStar tg=true)
  (R:Rel w cl B ρ st s.heap) (Ev:EnvR env ρ st.length s.heap m) (h:exW V (.asg t e) m st Q) (G:GoalS w cl B env ρ st s Q P):wpAny (model prog w) A (exec (.Assign [tg] value pos) env) P E s:=by
 rw [arm_exec_Assign]
 refine wpAny_bind (wpAny_standAt (wpAny_bind (wpAny_of_eq (a:=false) hsw ?_)))
 simp only [Bool.false_eq_true,if_false]
 refine wpAny_bind ((all_sound X e).ev env value m E s ρ st _ _ he R Ev h fun v st1 ρ1 h1 tk u q R1 S1 hv=>?_)
 rw [hno]
 refine wpAny_bind (wpAny_pure ?_)
 rw [asg_ns hns]
 show wpAny _ _ (do assign tg env u; pure Flow.next) _ _ _
 refine wpAny_bind ((as_all X t).1 env tg m E { s with heap:=h1,toks:=tk } ρ1 st1 v u _ _ hB ht R1 (Ev.step S1) hv q fun m2 st2 ρ2 h2 tk2 q2 R2 Ev2 S2=>wpAny_pure ?_)
 exact G .next m2 st2 ρ2 h2 tk2 .next q2 R2 Ev2 (Step.trans R1 (S1.weak fun b hb=>hb.elim) S2 fun _ x _=>x) rfl
end
end Mine
namespace Mine
section
set_option maxRecDepth 100000
open PySem PySem.W PyProof.Rows PySem.Calls
variable {prog:PySem.Program} {w:World} {cl:Nat→Addr} {B:Heap} {A:Around} {E:Value→Shared→Prop} {s:Shared} {ρ ρ':Nat→Addr} {st st':Store} {h h':Heap} {n:Nat} {m m':Loc} {env:Env} {V:MEnv} {K:Frag} {fa:Nat→Nat→Addr}
theorem get_of_env (Ev:EnvR env ρ n h m) {b:Addr} (hb:EnvW env b):∃ o,h.get? b=some o:=let ⟨o,e,_⟩:=Ev.there hb; ⟨o,e⟩
theorem assign_comp (X:Body prog w cl B A V fa K) (hB:∀ b,EnvW env b→B.get? b=none) {elt src cond:PE} {x y:Nat} {k:SK} {value:Expr} {py pos:Pos} {Q:Fl→Loc→Store→Prop} {P:Flow→Shared→Prop} (hsw:swapsWith value (some (.Name (T y) py)) pos.line env=pure true) (hy:storeOk env.scope y=true)
  (hm:mE env.scope (.comp elt x k src cond) value=true) (R:Rel w cl B ρ st s.heap) (Ev:EnvR env ρ st.length s.heap m) (h:exW V (.asg (.nm y) (.comp elt x k src cond)) m st Q) (G:GoalS w cl B env ρ st s Q P):wpAny (model prog w) A (exec (.Assign [.Name (T y) py] value pos) env) P E s:=by
 obtain ⟨el,px,it,ifs,csc,cpos,rfl,h2,h3,h4,h5,h6⟩:=mE_comp hm
 have Fc:=compFacts h2
 obtain ⟨cls,hclos,hcl,hcs⟩:=closureFor_of env csc fun y hy=>let ⟨c,e,_⟩:=Ev.cel y (Fc.free y hy); ⟨c,e⟩
 rw [exec_Assign_Name_used _ _ _ _ hsw]
 refine wpAny_bind (wpAny_standAt (wpAny_bind ?_))
 show wpAny _ A (do let _ ← comprehension (.ListComp el [⟨.Name (T x) px,it,ifs,0⟩] csc cpos) csc env _ (newList []) false (eval it env) (some (assign (.Name (T y) py) env))) _ _ s
 refine wpAny_bind (wpAny_mono (wpAny_comprehension_free (use:=some (assign (.Name (T y) py) env)) (Q:=fun _ s'=>P .next s') rfl (mSrc_fold h5) hclos Fc.kind (fun y hy e=>by rw [← e]; exact lookup_of_nodup Fc.nodup hy) ?_) (fun _ s' hq=>wpAny_pure (wpAny_pure hq)) fun _ _ e=>e)
 refine comp_core (RR:=fun acc C=>compPost (model prog w) A E (some (assign (.Name (T y) py) env)) (fun _ s'=>P .next s') acc C) (Q:=fun a st1=>asgW V (.nm y) a m st1 fun m1 s2=>Q .next m1 s2) X (all_sound X elt).ev (all_sound X cond).tr (all_sound X src).ev (all_sound X src).el h4 Fc h3 h5 h6 hcl hcs R Ev h
  fun W out st' ρ' h' tk D C vs mC q R' S' fr hD hC hn hp hv hDC hap=>?_
 have frB:∀ b,s.heap.get? b=none→B.get? b=none:=fun b e=>by
  cases q:B.get? b with
  | none=>rfl
  | some o=>rw [R.keep b o q] at e; cases e
 have notEnv:∀ b,W b→¬ EnvW env b:=fun b hb he=>by
  obtain ⟨o,e⟩:=get_of_env Ev he
  rw [fr b hb] at e; cases e
 obtain ⟨c,ho⟩:=hp
 obtain ⟨ρ2,e2,R2,S2⟩:=R'.adopt (a:=D) (ao:=.lst out) (fun i hi=>(hap i hi).1) (frB _ (fr D hD)) fun ρ2 ag e=>⟨vs,⟨c,by rw [e]; exact ho⟩,hv.mono (TK.refl _) (Nat.le_succ _) ag⟩
 have S3:Step W ρ st s.heap ρ2 (st'++[.lst out]) h':=Step.trans R' S' S2 fun x hx _=>hx ▸ hD
 have Ev3:=Ev.step' S3 notEnv
 show wpAny _ A (assign (.Name (T y) py) env (.ref D)) _ _ _
 refine wpAny_assign_Name (store_name (s:={ s with heap:=h',toks:=tk }) R2 Ev3 hB hy (v:=.ref st'.length) ⟨by simp,by rw [e2]⟩ fun h4 tk4 R4 Ev4 S4=>?_)
 have hapC:∀ i,i < (st'++[AObj.lst out]).length→ρ2 i≠C:=fun i hi=>by
  rcases Nat.lt_or_ge i st'.length with hh | hh
  ·rw [S2.ag i hh]; exact (hap i hh).2
  ·have:i=st'.length:=by simp at hi; lia
   rw [this,e2]; exact hDC
 have hn4:h4.Ns C mC:=hn.at' fun o e=>S4.out C o (fun he=>notEnv C hC he) (fun i hi z=>hapC i hi z.symm) e
 refine ⟨mC,hn4,fun h5 hs5=>?_⟩
 have RS:=R4.but (W:=fun b=>b=C) (h':=h5) (fun b o hb e=>(hs5.2 b hb).trans e) hapC (fun b hb=>hb ▸ frB _ (fr C hC)) fun b o hb e=>by
  obtain ⟨o',es,ep,e',hd,_⟩:=hn4
  subst hb
  rw [e'] at e; cases e; exact .inr fun vs c z=>by rw [hd] at z; cases z
 have S6:Step (fun b=>W b∨EnvW env b) ρ st s.heap ρ2 (st'++[.lst out]) h5:=Step.trans R4 (Step.trans R2 (S3.weak fun b hb=>.inl hb) S4 fun x hx _=>.inr hx) RS.2 fun x hx _=>.inl (hx ▸ hC)
 exact G .next (put m y (.ref st'.length)) (st'++[AObj.lst out]) ρ2 h5 tk4 .next q RS.1 (Ev4.step' RS.2 fun b hb=>(show b=C from hb) ▸ notEnv C hC) (S6.fresh' fun b hb=>hb.elim (fun z=>.inr (fr b z)) .inl) rfl
theorem mT_star {sc:Scope} {t:PT} {tg:Expr} (h:mT sc t tg=true):notStar tg=true:=by
 cases t with
 | nm x=>obtain ⟨_,_,rfl,_⟩:=bName_inv h; rfl
 | attr o x=>obtain ⟨_,_,_,rfl,_⟩:=bAtt_inv h; rfl
 | sub o x=>obtain ⟨_,_,_,rfl,_⟩:=bSub_inv h; rfl
 | tup x=>obtain ⟨_,_,_,rfl,_⟩:=bTup_inv h; rfl
 | _=>exact (Bool.false_ne_true h).elim
theorem sw_tg {tg value:Expr} (h:isTL tg=false):swappedStores [tg] value env=pure none:=by
 cases tg <;> first | rfl | exact (Bool.false_ne_true h.symm).elim
theorem sw_val {tg value:Expr} (h:isTupE value=false):swappedStores [tg] value env=pure none:=by
 cases q:isTL tg with
 | false=>exact sw_tg q
 | true =>
  have:(Ex3 fun a b c=>tg=.Tuple a b c)∨Ex2 fun a b=>tg=.List a b:=by
   cases tg <;> first | exact .inl ⟨_,_,_,rfl⟩ | exact .inr ⟨_,_,rfl⟩ | exact (Bool.false_ne_true q).elim
  rcases this with ⟨a,b,c,rfl⟩ | ⟨a,b,rfl⟩
  ·cases value <;> first | rfl | exact (Bool.false_ne_true h.symm).elim
  ·cases value <;> first | rfl | exact (Bool.false_ne_true h.symm).elim
theorem asg_sound (X:Body prog w cl B A V fa K) {t:PT} {e:PE}:ExS prog w cl B A V (.asg t e):=by
 intro env l m E s ρ st Q P hB hm R Ev h G
 replace hm:=oneL_inv hm
 obtain ⟨_,rfl,hm⟩:=hm
 replace hm:=sAsg_inv hm
 obtain ⟨ts,value,pos,rfl,hm⟩:=hm
 replace hm:=oneL_inv hm
 obtain ⟨tg,rfl,hm⟩:=hm
 obtain ⟨h12,h3⟩:=and2 hm
 obtain ⟨h1,h2⟩:=and2 h12
 clear hm h12
 refine one ?_
 have hns:=mT_star h1
 rcases or2 h3 with h3 | h3
 ·obtain ⟨n1,n2⟩:=and2 h3
  exact assign_plain X hB (swaps_no n1) (sw_val (not1 n2)) h1 h2 hns R Ev h G
 ·rcases or2 h3 with h3 | h3
  ·replace h3:=bLcp_inv h3
   obtain ⟨el,gens,csc,cpos,rfl,h3⟩:=h3
   replace h3:=bName_inv h3
   obtain ⟨tn,p,rfl,h3⟩:=h3
   simp only [Bool.and_eq_true,decide_eq_true_eq,Bool.not_eq_true'] at h3
   obtain ⟨⟨k1,k2⟩,k3⟩:=h3
   cases t with
   | nm y =>
    obtain ⟨g1,g2⟩:=and2 (show (sq tn (T y) && storeOk env.scope y)=true from h1)
    obtain rfl:=sq_eq g1
    cases e with
    | comp elt x k src cond =>
     refine assign_comp X hB ?_ g2 h2 R Ev h G
     have kl:env.kindOf (T y)=some .local:=by
      unfold Env.kindOf
      unfold locOk at k1
      set_option tactic.hygienic true in split at k1
      ·rename_i e; exact e
      ·cases k1
     show (do return env.blockKind == .function && env.kindOf (T y) == some .local && p.line == cpos.line && !(csc.names.any fun (n,k)=>n == T y && (k == .local || k == .cell)):Sem Bool)=pure true
     have k2':p.line=cpos.line:=k2
     have k3':(csc.names.any fun (n,k)=>n == T y && (k == .local || k == .cell))=false:=k3
     rw [blockKind_fn Ev.fn,kl,k2',k3']
     simp
    | gl z =>
     exfalso
     obtain ⟨v,e,_⟩:=oK_inv h
     have h2:(Nat.beq z 13 || false)=true:=h2
     rw [Bool.or_false] at h2
     rw [Nat.eq_of_beq_eq_true h2,X.vok.stuck] at e; cases e
    | _=>exact (Bool.false_ne_true h2).elim
   | _=>exact (Bool.false_ne_true h1).elim
  ·obtain ⟨vs,vk,vp,rfl,h4⟩:=bTup_inv h3
   have sw:∀ tg:Expr,swapsWith (.Tuple vs vk vp) (some tg) pos.line env=pure false:=fun _=>swaps_no rfl
   rcases or2 h4 with h5 | h5
   ·exact assign_plain X hB (sw _) (sw_tg (not1 h5)) h1 h2 hns R Ev h G
   ·obtain ⟨ts,tk,tp,rfl,h6⟩:=bTup_inv h5
    obtain ⟨r,hr⟩:=Option.isSome_iff_exists.mp h6
    cases t with
    | tup t =>
     cases r with
     | none=>exact assign_plain X hB (sw _) (swap_facts Ev.fn hr).1 h1 h2 hns R Ev h G
     | some names=>exact assign_swapped X hB hr h1 h2 R Ev h G
    | _=>exact (Bool.false_ne_true h1).elim
end
end Mine
namespace Mine
section
set_option maxRecDepth 100000
open PySem PySem.W PyProof.Rows PySem.Calls
variable {prog:PySem.Program} {w:World} {cl:Nat→Addr} {B:Heap} {A:Around} {E:Value→Shared→Prop} {s:Shared} {ρ ρ':Nat→Addr} {st st':Store} {h h':Heap} {n:Nat} {m m':Loc} {env:Env} {V:MEnv} {K:Frag} {fa:Nat→Nat→Addr}
set_option tactic.hygienic true in
theorem whl_sound (X:Body prog w cl B A V fa K) {c:PE} {b:PS} (ihb:ExS prog w cl B A V b):ExS prog w cl B A V (.whl c b):=by
 intro env l m E s ρ st Q P hB hm R Ev h G
 replace hm:=oneL_inv hm
 obtain ⟨_,rfl,hm⟩:=hm
 replace hm:=sWhl_inv hm
 obtain ⟨test,body,oe,pos,rfl,hm⟩:=hm
 obtain ⟨hz,hm2⟩:=and2 hm
 clear hm
 obtain rfl:=nilL_inv hz
 have hm:=and2 hm2
 clear hm2
 obtain ⟨k,h⟩:=h
 refine one (wpAny_While ?_)
 refine codeAny_whileLoop (fun k s'=>Ex5 fun m' st' ρ' h' tk=>And5 (s'={ s with heap:=h',toks:=tk }) (whileW (fun m s Q=>evW V c m s Q) (fun m s Q=>exW V b m s Q) k m' st' Q) (Rel w cl B ρ' st' h') (EnvR env ρ' st'.length h' m') (Step (EnvW env) ρ st s.heap ρ' st' h')) ?_ k ⟨m,st,ρ,s.heap,s.toks,rfl,h,R,Ev,Step.refl _⟩
 clear h
 rintro k s' ⟨m',st',ρ',h',tk,rfl,h,R',Ev',S'⟩
 cases k with
 | zero=>exact h.elim
 | succ k =>
  refine (all_sound X c).tr env test m' _ { s with heap:=h',toks:=tk } ρ' st' _ _ hm.1 R' Ev' h fun v st1 ρ1 h1 tk1 q R1 S1=>?_
  have S2:Step (EnvW env) ρ st s.heap ρ1 st1 h1:=Step.trans R' S' (S1.weak fun b hb=>hb.elim) fun x hx _=>hx
  rcases boolM_inv q with ⟨rfl,q⟩ | ⟨rfl,q⟩
  ·refine ⟨true,rfl,?_⟩
   rw [if_pos rfl]
   refine ihb env body m' _ { s with heap:=h1,toks:=tk1 } ρ1 st1 _ _ hB hm.2 R1 (Ev'.step S1) q fun fl m2 st2 ρ2 h2 tk2 f q2 R2 Ev2 S3 hf=>?_
   have S4:=Step.trans R1 S2 S3 fun x hx _=>hx
   cases fl with
   | next =>
    obtain rfl:f=.next:=hf
    exact ⟨k,Nat.lt_succ_self _,m2,st2,ρ2,h2,tk2,rfl,q2,R2,Ev2,S4⟩
   | cont =>
    obtain rfl:f=.cont:=hf
    exact ⟨k,Nat.lt_succ_self _,m2,st2,ρ2,h2,tk2,rfl,q2,R2,Ev2,S4⟩
   | ret v =>
    obtain ⟨u,rfl,hu⟩:=hf
    exact G (.ret v) m2 st2 ρ2 h2 tk2 (.ret u) q2 R2 Ev2 S4 ⟨u,rfl,hu⟩
  ·refine ⟨false,rfl,?_⟩
   rw [if_neg Bool.false_ne_true]
   exact wpAny_execs_nil (G .next m' st1 ρ1 h1 tk1 .next q R1 (Ev'.step S1) S2 rfl)
set_option tactic.hygienic true in
theorem forr_sound (X:Body prog w cl B A V fa K) {t:PT} {k:SK} {e:PE} {b:PS} (ihb:ExS prog w cl B A V b):ExS prog w cl B A V (.forr t k e b):=by
 intro env l m E s ρ st Q P hB hm R Ev h G
 replace hm:=oneL_inv hm
 obtain ⟨_,rfl,hm⟩:=hm
 replace hm:=sFor_inv hm
 obtain ⟨tg,it,body,oe,pos,rfl,hm⟩:=hm
 obtain ⟨hz,hm2⟩:=and2 hm
 clear hm
 obtain rfl:=nilL_inv hz
 obtain ⟨g123,g4⟩:=and2 hm2
 obtain ⟨g12,g3⟩:=and2 g123
 obtain ⟨g1,g2⟩:=and2 g12
 clear hm2 g123 g12
 have hT:okTof k tg:=by
  cases k with
  | enum=>exact isTupE_inv g4
  | _=>trivial
 refine one (wpAny_For (src_sound X (all_sound X e).ev (all_sound X e).el (QI:=fun s1 items i=>forW (fun x m s Q=>asgW V t x m s fun m1 s1=>exW V b m1 s1 Q) (keepF i s1) items m s1 Q) g2 R Ev h fun items srci st1 ρ1 h1 tk I own It Mid q R1 S1 Cu i0 fr hap=>?_) (mSrc_fold g2))
 have frB:∀ b,own b→B.get? b=none:=fun b hb=>by
  cases q:B.get? b with
  | none=>rfl
  | some o=>have:=fr b hb; rw [R.keep b o q] at this; cases this
 have ownEnv:∀ b,own b→¬ EnvW env b:=fun b hb he=>by
  obtain ⟨o,e⟩:=get_of_env Ev he
  rw [fr b hb] at e; cases e
 refine codeAny_forLoop_any (fun n s'=>Ex6 fun j m' st' ρ' h' tk=>And9 (s'={ s with heap:=h',toks:=tk }) (n=items.length + 1 - j) (j≤items.length) (forW (fun x m s Q=>asgW V t x m s fun m1 s1=>exW V b m1 s1 Q) (keepF srci st1) (items.drop j) m' st' Q) (Rel w cl B ρ' st' h') (EnvR env ρ' st'.length h' m') (Step (fun b=>EnvW env b∨own b) ρ1 st1 h1 ρ' st' h') (It j h') (∀ i,i < st'.length→¬ own (ρ' i))) ?_ (items.length + 1) ⟨0,m,st1,ρ1,h1,tk,rfl,rfl,Nat.zero_le _,by rw [List.drop_zero]; exact q,R1,Ev.step S1,Step.refl _,i0,hap⟩
 rintro n s' ⟨j,m',st',ρ',h',tk',rfl,rfl,hj,hw,R',Ev',S',ij,ap⟩
 have total:∀ {ρ2:Nat→Addr} {st2:Store} {h2:Heap},Step (fun b=>EnvW env b∨own b) ρ1 st1 h1 ρ2 st2 h2→Step (EnvW env) ρ st s.heap ρ2 st2 h2:=fun S =>
  (Step.trans R1 (S1.weak fun b hb=>hb.elim) S fun x hx _=>hx:Step (fun b=>EnvW env b∨own b) ρ st s.heap _ _ _).fresh' fun b hb=>hb.elim .inl fun z=>.inr (fr b z)
 have ownT:∀ {jj:Nat} {hh:Heap},It jj hh→∀ b o,own b→hh.get? b=some o→o.cls≠.type "tuple"∨∀ vs c,o.data≠.seq vs c:=fun hi b o hb e=>by
  obtain ⟨o',e',z⟩:=Cu.live _ _ b hi hb
  rw [e] at e'; cases e'; exact .inr z
 rcases Nat.lt_or_ge j items.length with hlt | hge
 ·rw [List.drop_eq_getElem_cons hlt] at hw
  obtain ⟨hk0,hw⟩:=hw
  refine Cu.item j items[j] { s with heap:=h',toks:=tk' } ρ' st' _ _ _ (List.getElem?_eq_getElem hlt) ij R' S' hk0 ap fun v h2 tk2 hmid hval hch=>?_
  dsimp only
  refine Cu.go j tg v { s with heap:=h2,toks:=tk2 } _ _ hT hmid fun h3 i3 k3=>?_
  have hall:∀ b o,¬ own b→h'.get? b=some o→h3.get? b=some o:=fun b o hb q=>k3 b o hb (hch b o hb q)
  have RS3:=R'.but (W:=own) (h':=h3) hall ap frB (fun b o hb e=>ownT ij b o hb e)
  have Ev3:=Ev'.step' RS3.2 ownEnv
  have val3:Val ρ' st'.length h3 items[j] v:=hval.tk (TK.but' (W:=own) (fun b o hb q=>k3 b o hb q) fun b o hb q=>by
   obtain ⟨o',e',z⟩:=Cu.liveM _ _ _ b hmid hb
   have q':h2.get? b=some o:=q
   rw [e'] at q'; cases q'; exact .inr z)
  have S3:Step (fun b=>EnvW env b∨own b) ρ1 st1 h1 ρ' st' h3:=S'.add R' RS3.2 fun b hb=>.inr hb
  have move:∀ {ρ2:Nat→Addr} {st2:Store} {h4 h5:Heap} {ρ4:Nat→Addr} {st4:Store},It (j + 1) h4→(∀ i,i < st4.length→¬ own (ρ4 i))→Step (EnvW env) ρ4 st4 h4 ρ2 st2 h5→It (j + 1) h5∧∀ i,i < st2.length→¬ own (ρ2 i):=fun i4 ap4 S =>
   ⟨Cu.frame _ _ _ i4 (fun b o hb q=>S.out b o (ownEnv b hb) (fun i hi z=>ap4 i hi (z ▸ hb)) q) S.tk,fun i hi z=>by
    rcases Nat.lt_or_ge i _ with hh | hh
    ·exact ap4 i hh (by rw [← S.ag i hh]; exact z)
    ·have nn:=S.new i hh hi (ownEnv _ z)
     obtain ⟨o,e,_⟩:=Cu.live _ _ _ i4 z; rw [e] at nn; cases nn⟩
  refine (as_all X t).1 env tg m' _ { s with heap:=h3,toks:=tk2 } ρ' st' items[j] v _ _ hB g1 RS3.1 Ev3 val3 hw fun m4 st4 ρ4 h4 tk4 q4 R4 Ev4 S4=>?_
  obtain ⟨i4,ap4⟩:=move i3 ap S4
  refine ihb env body m4 _ { s with heap:=h4,toks:=tk4 } ρ4 st4 _ _ hB g3 R4 Ev4 q4 fun fl m5 st5 ρ5 h5 tk5 f q5 R5 Ev5 S5 hf=>?_
  obtain ⟨i5,ap5⟩:=move i4 ap4 S5
  have S6:Step (fun b=>EnvW env b∨own b) ρ1 st1 h1 ρ5 st5 h5:=(S3.add RS3.1 S4 fun b hb=>.inl hb).add R4 S5 fun b hb=>.inl hb
  cases fl with
  | next =>
   obtain rfl:f=.next:=hf
   exact ⟨items.length + 1 - (j + 1),by lia,j + 1,m5,st5,ρ5,h5,tk5,rfl,rfl,hlt,q5,R5,Ev5,S6,i5,ap5⟩
  | cont =>
   obtain rfl:f=.cont:=hf
   exact ⟨items.length + 1 - (j + 1),by lia,j + 1,m5,st5,ρ5,h5,tk5,rfl,rfl,hlt,q5,R5,Ev5,S6,i5,ap5⟩
  | ret v =>
   obtain ⟨u,rfl,hu⟩:=hf
   exact G (.ret v) m5 st5 ρ5 h5 tk5 (.ret u) q5 R5 Ev5 (total S6) ⟨u,rfl,hu⟩
 ·have hj':j=items.length:=Nat.le_antisymm hj hge
  subst hj'
  rw [List.drop_length] at hw
  obtain ⟨hk0,hw⟩:=hw
  refine Cu.done { s with heap:=h',toks:=tk' } ρ' st' _ _ _ ij R' S' hk0 fun h2 tk2 hch=>?_
  have RS2:=R'.but (W:=own) (h':=h2) (fun b o hb e=>hch b o hb e) ap frB (fun b o hb e=>ownT ij b o hb e)
  exact wpAny_execs_nil (G .next m' st' ρ' h2 tk2 .next hw RS2.1 (Ev'.step' RS2.2 ownEnv) (total (S'.add R' RS2.2 fun b hb=>.inr hb)) rfl)
set_option tactic.hygienic true in
theorem ex_all (X:Body prog w cl B A V fa K):∀ p,ExS prog w cl B A V p:=by
 intro p
 induction p with
 | skip =>
  intro env l m E s ρ st Q P hB hm R Ev h G
  cases l with
  | nil=>exact wpAny_execs_nil (G .next m st ρ s.heap s.toks .next h R Ev (Step.refl _) rfl)
  | cons _ _=>exact (Bool.false_ne_true hm).elim
 | seq a b iha ihb =>
  intro env l m E s ρ st Q P hB hm R Ev h G
  replace hm:=consL_inv hm
  obtain ⟨x,r,rfl,hm⟩:=hm
  replace hm:=and2 hm
  ·refine wpAny_execs_cons ?_
   rw [← execs_one]
   refine iha env [x] m E s ρ st _ _ hB hm.1 R Ev h fun fl m1 st1 ρ1 h1 tk f q R1 Ev1 S1 hf=>?_
   cases fl with
   | next =>
    obtain rfl:f=.next:=hf
    exact ihb env r m1 E { s with heap:=h1,toks:=tk } ρ1 st1 Q P hB hm.2 R1 Ev1 q (G.after R1 S1)
   | cont =>
    obtain rfl:f=.cont:=hf
    exact G .cont m1 st1 ρ1 h1 tk .cont q R1 Ev1 S1 rfl
   | ret v =>
    obtain ⟨u,rfl,hu⟩:=hf
    exact G (.ret v) m1 st1 ρ1 h1 tk (.ret u) q R1 Ev1 S1 ⟨u,rfl,hu⟩
 | exp e =>
  intro env l m E s ρ st Q P hB hm R Ev h G
  replace hm:=or2 hm
  rcases hm with hm | hm
  ·obtain rfl:=isStuck_inv hm
   obtain ⟨v,e,_⟩:=oK_inv h
   rw [X.vok.stuck] at e; cases e
  ·replace hm:=oneL_inv hm
   obtain ⟨_,rfl,hm⟩:=hm
   replace hm:=sExp_inv hm
   obtain ⟨v,pos,rfl,hm⟩:=hm
   replace hm:=and2 hm
   ·refine one (wpAny_Expr ((all_sound X e).ev env v m E s ρ st _ _ hm.1 R Ev h fun a st1 ρ1 h1 tk u q R1 S1 hv=>?_) (interactive_fn Ev.fn) (swaps_no hm.2))
    replace q:=noneM_inv q
    obtain ⟨rfl,q⟩:=q
    obtain rfl:u=.none:=hv
    exact G .next m st1 ρ1 h1 tk .next q R1 (Ev.step S1) (S1.weak fun b hb=>hb.elim) rfl
 | asg t e=>exact asg_sound X
 | ite c a b iha ihb =>
  intro env l m E s ρ st Q P hB hm R Ev h G
  replace hm:=oneL_inv hm
  obtain ⟨_,rfl,hm⟩:=hm
  replace hm:=sIte_inv hm
  obtain ⟨t,x,y,pos,rfl,hm⟩:=hm
  ·obtain ⟨g12,g3⟩:=and2 hm
   obtain ⟨g1,g2⟩:=and2 g12
   refine one (wpAny_If ((all_sound X c).tr env t m E s ρ st _ _ g1 R Ev h fun v st1 ρ1 h1 tk q R1 S1=>?_))
   have S2:Step (EnvW env) ρ st s.heap ρ1 st1 h1:=S1.weak fun b hb=>hb.elim
   rcases boolM_inv q with ⟨rfl,q⟩ | ⟨rfl,q⟩
   ·refine ⟨true,rfl,?_⟩
    rw [if_pos rfl]
    exact iha env x m E { s with heap:=h1,toks:=tk } ρ1 st1 Q P hB g2 R1 (Ev.step S1) q (G.after R1 S2)
   ·refine ⟨false,rfl,?_⟩
    rw [if_neg Bool.false_ne_true]
    exact ihb env y m E { s with heap:=h1,toks:=tk } ρ1 st1 Q P hB g3 R1 (Ev.step S1) q (G.after R1 S2)
 | whl c b ihb=>exact whl_sound X ihb
 | forr t k e b ihb=>exact forr_sound X ihb
 | ret e =>
  intro env l m E s ρ st Q P hB hm R Ev h G
  replace hm:=oneL_inv hm
  obtain ⟨_,rfl,hm⟩:=hm
  replace hm:=sRet_inv hm
  obtain ⟨o,pos,rfl,hm⟩:=hm
  cases o with
  | some v =>
   exact one (wpAny_Return_some ((all_sound X e).ev env v m E s ρ st _ _ hm R Ev h fun a st1 ρ1 h1 tk u q R1 S1 hv=>G (.ret a) m st1 ρ1 h1 tk (.ret u) q R1 (Ev.step S1) (S1.weak fun b hb=>hb.elim) ⟨u,rfl,hv⟩))
  | none =>
   obtain rfl:=isNoneC_inv hm
   exact one (wpAny_Return_none (G (.ret .none) m st ρ s.heap s.toks (.ret .none) h R Ev (Step.refl _) ⟨.none,rfl,rfl⟩))
 | cont =>
  intro env l m E s ρ st Q P hB hm R Ev h G
  replace hm:=oneL_inv hm
  obtain ⟨_,rfl,hm⟩:=hm
  obtain ⟨_,rfl⟩:=sCont_inv hm
  exact one (wpAny_Continue (G .cont m st ρ s.heap s.toks .cont h R Ev (Step.refl _) rfl))
end
end Mine
namespace Mine
section
set_option maxRecDepth 100000
open PySem PySem.W PyProof.Rows PySem.Calls
theorem fill_loop (f:Str×Value→List (Str×Value)→Sem (ForInStep (List (Str×Value)))) (hf:∀ n d sl,f (n,d) sl=if (sl.lookup n).isNone=true then pure (.yield (sl++[(n,d)])) else pure (.yield sl)) :
  ∀ (l:List (Str×Value)) (acc:List (Str×Value)),(l.map (·.1)).Nodup→forIn l acc f=(pure (acc++l.filter fun p=>(acc.lookup p.1).isNone):Sem _):=by
 intro l
 induction l with
 | nil=>intro acc _; simp
 | cons p r ih =>
  obtain ⟨n,d⟩:=p
  intro acc nd
  rw [List.map_cons,List.nodup_cons] at nd
  rw [List.forIn_cons,hf]
  by_cases h:(acc.lookup n).isNone=true
  ·rw [if_pos h,pure_bind]
   dsimp only
   rw [ih _ nd.2,List.filter_cons,if_pos (by simpa using h)]
   congr 1
   rw [List.append_assoc]
   congr 1
   rw [List.singleton_append]
   congr 1
   refine List.filter_congr fun q hq=>?_
   have hne:(q.1 == n)=false:=beq_eq_false_iff_ne.mpr fun e=>nd.1 (List.mem_map.mpr ⟨q,hq,e⟩)
   rw [List.lookup_append]
   simp [List.lookup_cons,hne]
  ·rw [if_neg h,pure_bind]
   dsimp only
   rw [ih _ nd.2,List.filter_cons,if_neg (by simpa using h)]
theorem lookup_pairs:∀ (l:List (Str×Value)),(l.map (·.1)).Nodup→(l.map (·.1)).filterMap (fun n=>(l.lookup n).map fun v=>(n,v))=l:=by
 intro l nd
 have main:∀ (r:List (Str×Value)),(∀ p∈r,l.lookup p.1=some p.2)→(r.map (·.1)).filterMap (fun n=>(l.lookup n).map fun v=>(n,v))=r:=by
  intro r
  induction r with
  | nil=>intro _; rfl
  | cons p r ih =>
   intro h
   rw [List.map_cons,List.filterMap_cons,h p List.mem_cons_self]
   simp only [Option.map_some]
   rw [ih fun q hq=>h q (List.mem_cons_of_mem _ hq)]
 exact main l fun p hp=>lookup_of_nodup nd hp
theorem zip_split {α β:Type} (m:Nat):∀ (a:List α) (b:List β),a.zip b=(a.take m).zip (b.take m)++(a.drop m).zip (b.drop m):=by
 induction m with
 | zero=>intro a b; rfl
 | succ m ih =>
  intro a b
  cases a with
  | nil=>rfl
  | cons x a =>
   cases b with
   | nil=>rw [List.take_nil,List.drop_nil,List.zip_nil_right,List.zip_nil_right,List.zip_nil_right]; rfl
   | cons y b=>exact congrArg _ (ih a b)
theorem zip_app {α β:Type} {X:List β} (vs:List β):∀ names:List α,vs.length≤names.length→names.zip (vs++X)=names.zip vs++(names.drop vs.length).zip X:=by
 induction vs with
 | nil=>intro names _; rw [List.zip_nil_right]; rfl
 | cons v vs ih =>
  intro names h
  cases names with
  | nil=>exact absurd h (Nat.not_succ_le_zero _)
  | cons a names=>exact congrArg _ (ih names (Nat.le_of_succ_le_succ h))
theorem lookup_zip_none {names:List Str} {vs:List Value} (nd:names.Nodup) {n:Str} (h:n∈names.drop vs.length):(names.zip vs).lookup n=none:=by
 cases q:(names.zip vs).lookup n with
 | none=>rfl
 | some v =>
  have hm:=mem_of_lookup' q
  rw [zip_split vs.length,List.drop_length,List.zip_nil_right,List.append_nil] at hm
  rw [← List.take_append_drop vs.length names] at nd
  exact ((List.nodup_append.mp nd).2.2 n (List.of_mem_zip hm).1 n h rfl).elim
theorem lookup_zip_some {n:Str} (names:List Str):∀ {vs:List Value},n∈names.take vs.length→((names.zip vs).lookup n).isNone=false:=by
 induction names with
 | nil=>intro vs h; rw [List.take_nil] at h; cases h
 | cons a names ih =>
  intro vs h
  cases vs with
  | nil=>cases h
  | cons v vs =>
   rw [List.zip_cons_cons,List.lookup_cons]
   cases e:n == a with
   | true=>rfl
   | false =>
    rcases List.mem_cons.mp h with q | q
    ·rw [q,beq_self_eq_true] at e; cases e
    ·exact ih q
theorem slots_of {names:List Str} {vs ds:List Value} (hnd:names.Nodup) (hlen:vs.length≤names.length) (hd:names.length≤vs.length + ds.length) (hds:ds.length≤names.length) :
  names.zip vs++((names.drop (names.length - ds.length)).zip ds).filter (fun p=>((names.zip vs).lookup p.1).isNone)=names.zip (vs++ds.drop (vs.length + ds.length - names.length)):=by
 rw [← Nat.sub_sub_right _ hds]
 have hk:names.length - ds.length≤vs.length:=Nat.sub_le_iff_le_add.mpr hd
 generalize names.length - ds.length=k at hk
 rw [zip_app vs names hlen,zip_split (vs.length - k) (names.drop k),List.filter_append,List.drop_drop,Nat.add_sub_of_le hk,← List.drop_take]
 rw [List.filter_eq_nil_iff.mpr fun p hp=>?_,List.filter_eq_self.mpr fun p hp=>?_,List.nil_append]
 ·rw [lookup_zip_none hnd (List.of_mem_zip hp).1]; rfl
 ·rw [lookup_zip_some names (List.mem_of_mem_drop (List.of_mem_zip hp).1)]; exact Bool.false_ne_true
theorem wp_ifn' {α:Type} {M:Model} {A:Around} {E:Value→Shared→Prop} {s:Shared} {Q:α→Shared→Prop} {c:Prop} [Decidable c] {x y:Sem α} (h:¬ c) (k:wpAny M A y Q E s):wpAny M A (if c then x else y) Q E s:=by
 rw [if_neg h]; exact k
theorem fill_wp {M:Model} {A:Around} {E:Value→Shared→Prop} {s:Shared} {Q:List (Str×Value)→Shared→Prop} {f:Str×Value→List (Str×Value)→Sem (ForInStep (List (Str×Value)))} (hf:∀ n d sl,f (n,d) sl=if (sl.lookup n).isNone=true then pure (.yield (sl++[(n,d)])) else pure (.yield sl))
  {l acc R:List (Str×Value)} {F:List (Str×Value)→Sem (List (Str×Value))} (nd:(l.map (·.1)).Nodup) (e:acc++l.filter (fun p=>(acc.lookup p.1).isNone)=R) (k:wpAny M A (F R) Q E s):wpAny M A (forIn l acc f >>= F) Q E s:=by
 rw [fill_loop f hf l acc nd,e]
 exact wpAny_bind (wpAny_pure k)
theorem bind_gen {M:Model} {A:Around} {E:Value→Shared→Prop} {s:Shared} {fd:FuncData} {names:List Str} {vs ds:List Value} {Q:List (Str×Value)→Shared→Prop} (h1:fd.params.posonlyargs=[]) (h2:fd.params.vararg=none) (h3:fd.params.kwonlyargs=[]) (h4:fd.params.kwarg=none) (h5:fd.params.args.map (·.arg)=names)
  (hnd:names.Nodup) (hlen:vs.length≤names.length) (hd:names.length≤vs.length + ds.length) (hds:ds.length≤names.length)
  (hs:∀ (Q:Option (Array Value)→Shared→Prop),(∀ r,(r.getD #[]).toList=ds→Q r s)→wpAny M A (seqItems? fd.defaults) Q E s)
  (h:Q (names.zip (vs++ds.drop (vs.length + ds.length - names.length))) s):wpAny M A (bindArgs fd ⟨vs,[]⟩) Q E s:=by
 obtain ⟨_,_,⟨po,ar,va,ko,_,kg,_⟩,_,_,_,_,dflt,_,_,_,_,_,_,_⟩:=fd
 obtain rfl:po=[]:=h1
 obtain rfl:va=none:=h2
 obtain rfl:ko=[]:=h3
 obtain rfl:kg=none:=h4
 replace h5:ar.map (·.arg)=names:=h5
 have z:ds.drop (ds.length - names.length)=ds:=by rw [Nat.sub_eq_zero_of_le hds,List.drop_zero]
 have nl:¬ (decide (vs.length > names.length) && true)=true:=by rw [decide_eq_false (Nat.not_lt.mpr hlen)]; exact Bool.false_ne_true
 have nm:¬ (!((names.take (names.length - (ds.drop (ds.length - names.length)).length)).filter (fun n=>((names.zip vs).lookup n).isNone)).isEmpty)=true:=by
  rw [z,show (names.take (names.length - ds.length)).filter (fun n=>((names.zip vs).lookup n).isNone)=[] from List.filter_eq_nil_iff.mpr fun n hn=>by
   rw [lookup_zip_some names ((List.take_subset_take_left names (Nat.sub_le_iff_le_add.mpr hd)) hn)]; exact Bool.false_ne_true]
  exact Bool.false_ne_true
 have nd2:(((names.drop (names.length - (ds.drop (ds.length - names.length)).length)).zip (ds.drop (ds.length - names.length))).map (·.1)).Nodup:=by
  rw [z,List.map_fst_zip (by rw [List.length_drop,Nat.sub_sub_self hds]; exact Nat.le_refl _)]
  exact List.Nodup.sublist (List.drop_sublist _ _) hnd
 have sl:names.zip vs++((names.drop (names.length - (ds.drop (ds.length - names.length)).length)).zip (ds.drop (ds.length - names.length))).filter (fun p=>((names.zip vs).lookup p.1).isNone)=names.zip (vs++ds.drop (vs.length + ds.length - names.length)):=by
  rw [z]; exact slots_of hnd hlen hd hds
 have hm:(names.zip (vs++ds.drop (vs.length + ds.length - names.length))).map (·.1)=names:=List.map_fst_zip (by rw [List.length_append,List.length_drop,← Nat.add_sub_assoc (Nat.sub_le_iff_le_add.mpr (Nat.add_comm _ _ ▸ Nat.add_le_add_left hlen _)),Nat.sub_sub_self hd]; exact Nat.le_refl _)
 have e:(names++[]).filterMap (fun n=>((names.zip (vs++ds.drop (vs.length + ds.length - names.length))).lookup n).map fun v=>(n,v))=names.zip (vs++ds.drop (vs.length + ds.length - names.length)):=by
  have:=lookup_pairs (names.zip (vs++ds.drop (vs.length + ds.length - names.length))) (by rw [hm]; exact hnd)
  rw [hm] at this
  rw [List.append_nil]; exact this
 rw [← e] at h
 clear hm z hlen hd hnd e
 subst h5
 unfold bindArgs
 refine wpAny_bind (wpAny_pure ?_)
 refine wpAny_bind (hs _ fun r hr=>?_)
 subst hr
 refine wp_ifn' nl ?_
 refine wp_ifn' nm ?_
 refine fill_wp (fun n d sl=>rfl) nd2 sl ?_
 refine wpAny_bind (wpAny_pure ?_)
 refine wp_ifn' Bool.false_ne_true ?_
 exact wpAny_pure h
end
end Mine
namespace Mine
section
set_option maxRecDepth 100000
open PySem PySem.W PyProof.Rows PySem.Calls
variable {prog:PySem.Program} {w:World} {cl:Nat→Addr} {B:Heap} {A:Around} {E:Value→Shared→Prop} {s:Shared} {ρ ρ':Nat→Addr} {st st':Store} {h h':Heap} {n:Nat} {m m':Loc} {env:Env} {V:MEnv} {K:Frag} {fa:Nat→Nat→Addr}
structure FdOk (B:Heap) (fd:FuncData) (sb:List Stmt) (ps:List Nat) (ds:List AV) (body:PS):Prop where
 bdy:fd.body=.stmts sb
 says:mS fd.scope body sb=true
 kind:fd.scope.kind=.function
 co:fd.scope.isCoroutine=false
 gen:fd.scope.isGenerator=false
 clos:fd.closure=[]
 glob:fd.globals=mainGlobals
 blt:fd.builtins=builtinsNs
 code:B.CodeRec fd.code fd.qualname
 p1:fd.params.posonlyargs=[]
 p2:fd.params.vararg=none
 p3:fd.params.kwonlyargs=[]
 p4:fd.params.kwarg=none
 p5:fd.params.args.map (·.arg)=ps.map T
 nodup:ps.Nodup
 bound:∀ x∈ps,fd.scope.names.lookup (T x)=some .local∨fd.scope.names.lookup (T x)=some .cell
 names:(fd.scope.names.map (·.1)).Nodup
 free:∀ y∈fd.scope.names,y.2≠.free
 dlen:ds.length≤ps.length
 dflt:(ds=[]∧fd.defaults=.none)∨Ex2 fun t dus=>fd.defaults=.ref t∧IsTup B t (List.toArray dus)∧VL (fun _=>0) 0 B ds dus
structure FnAt (B:Heap) (a:Addr) (ps:List Nat) (ds:List AV) (body:PS):Prop where
 ex:Ex3 fun (o:Obj) (fd:FuncData) (sb:List Stmt)=>B.get? a=some o∧o.data=.func fd∧FdOk B fd sb ps ds body
theorem cellsFrom_mem:∀ (names:List (Str×NameKind)) (n:Nat) (acc:List (Str×Addr)) (y:Str) (c:Addr),(y,c)∈cellsFrom n names acc→(y,c)∈acc∨(y,NameKind.cell)∈names
 | [],_,_,_,_,h=>.inl h
 | (z,k) :: r,n,acc,y,c,h=>by
  unfold cellsFrom at h
  set_option tactic.hygienic true in split at h
  ·rename_i hk
   rcases cellsFrom_mem r _ _ y c h with e | e
   ·rcases List.mem_cons.mp e with q | q
    ·cases q; right; rw [beq_iff_eq.mp hk]; exact List.mem_cons_self
    ·exact .inl q
   ·exact .inr (List.mem_cons_of_mem _ e)
  ·rcases cellsFrom_mem r _ _ y c h with e | e
   ·exact .inl e
   ·exact .inr (List.mem_cons_of_mem _ e)
theorem cellsFrom_some:∀ (names:List (Str×NameKind)) (n:Nat) (acc:List (Str×Addr)) (y:Str),((y,NameKind.cell)∈names∨(acc.lookup y).isSome=true)→((cellsFrom n names acc).lookup y).isSome=true
 | [],_,_,_,h=>h.elim (fun q=>by cases q) id
 | (z,k) :: r,n,acc,y,h=>by
  unfold cellsFrom
  set_option tactic.hygienic true in split
  ·rename_i hk
   refine cellsFrom_some r _ _ y ?_
   rcases h with h | h
   ·rcases List.mem_cons.mp h with q | q
    ·cases q; right; simp
    ·exact .inl q
   ·right
    rw [List.lookup_cons]
    set_option tactic.hygienic true in split
    ·rfl
    ·exact h
  ·rename_i hk
   refine cellsFrom_some r _ _ y ?_
   rcases h with h | h
   ·rcases List.mem_cons.mp h with q | q
    ·cases q; simp at hk
    ·exact .inl q
   ·exact .inr h
theorem bindL_get (kindOf:Str→Option NameKind):∀ (binds:List (Str×Value)) (m:Str→Option Value) (y:Str),(binds.map (·.1)).Nodup→kindOf y=some .local→bindL kindOf binds m y=(binds.lookup y).or (m y)
 | [],m,y,_,_=>rfl
 | (z,v) :: r,m,y,nd,hk=>by
  rw [List.map_cons,List.nodup_cons] at nd
  unfold bindL
  rw [bindL_get kindOf r _ y nd.2 hk,List.lookup_cons]
  by_cases e:y=z
  ·subst e
   have hn:r.lookup y=none:=by
    cases q:r.lookup y with
    | none=>rfl
    | some u=>exact absurd (List.mem_map.mpr ⟨_,mem_of_lookup' q,rfl⟩) nd.1
   simp [hk,hn]
  ·have:(y == z)=false:=beq_eq_false_iff_ne.mpr e
   rw [this]
   by_cases hz:kindOf z=some .local
   ·simp [hz,e]
   ·simp [hz]
theorem bindC_get (kindOf:Str→Option NameKind):∀ (binds:List (Str×Value)) (m:Str→Option Value) (y:Str),(binds.map (·.1)).Nodup→kindOf y=some .cell→bindC kindOf binds m y=(binds.lookup y).or (m y)
 | [],m,y,_,_=>rfl
 | (z,v) :: r,m,y,nd,hk=>by
  rw [List.map_cons,List.nodup_cons] at nd
  unfold bindC
  rw [bindC_get kindOf r _ y nd.2 hk,List.lookup_cons]
  by_cases e:y=z
  ·subst e
   have hn:r.lookup y=none:=by
    cases q:r.lookup y with
    | none=>rfl
    | some u=>exact absurd (List.mem_map.mpr ⟨_,mem_of_lookup' q,rfl⟩) nd.1
   simp [hk,hn]
  ·have:(y == z)=false:=beq_eq_false_iff_ne.mpr e
   rw [this]
   by_cases hz:kindOf z=some .local
   ·simp [hz]
   ·simp [hz,e]
theorem get_zip:∀ (ps:List Nat) (l:List AV) (us:List Value) (x:Nat) (v:AV),VL ρ n h l us→get (ps.zip l) x=some v→∃ u,((ps.map T).zip us).lookup (T x)=some u∧Val ρ n h v u:=by
 intro ps
 induction ps with
 | nil=>intro _ _ _ _ _ g; exact none_ne g
 | cons p ps ih =>
  intro l us x v hv g
  cases hv with
  | nil=>exact none_ne g
  | @cons a u l us hu hr =>
   rw [List.zip_cons_cons,get_c] at g
   rw [List.map_cons,List.zip_cons_cons,List.lookup_cons]
   cases q:Nat.beq p x with
   | true =>
    rw [q] at g; cases g
    rw [Nat.eq_of_beq_eq_true q]
    exact ⟨u,by simp,hu⟩
   | false =>
    rw [q] at g
    have hne:(T x == T p)=false:=beq_eq_false_iff_ne.mpr fun e=>Nat.ne_of_beq_eq_false q (T_inj e).symm
    rw [hne]
    exact ih l us x v hr g
theorem names_nodup {ps:List Nat} (h:ps.Nodup):(ps.map T).Nodup:=List.pairwise_map.mpr (h.imp fun z e=>z (T_inj e))
set_option tactic.hygienic true in
theorem df_sound {a:Addr} {ps:List Nat} {ds args:List AV} {body:PS} {vs:List Value} {Q:AV→Store→Prop} {R:Result→Shared→Prop} (hroom:A.depth < recursionLimit) (hlim:B.NoLimit) (F:FnAt B a ps ds body)
  (hbody:∀ env:Env,ExS prog w cl B (A.deeper env) V body) (hm:bindF ps ds args=some m) (Rl:Rel w cl B ρ st s.heap) (hv:VL ρ st.length s.heap args vs) (h:exW V body m st fun fl _ s1=>Q (match fl with | .ret v=>v | _=>.none) s1)
  (G:Goal w cl B ρ st s Q fun v s'=>R (.ok (.ret v)) s'):codeAny (model prog w) A (.call (.ref a) ⟨vs,[]⟩) R s:=by
 refine Classical.byContradiction fun ng=>?_
 obtain ⟨o,fd,sb,ho,hd,D⟩:=F.ex
 refine ng ?_
 unfold bindF at hm
 split at hm
 rotate_left
 ·cases hm
 rename_i hl
 cases hm
 obtain ⟨dus,hdus,hseq⟩:∃ dus:List Value,VL ρ st.length s.heap ds dus∧∀ (Q':Option (Array Value)→Shared→Prop) (E':Value→Shared→Prop),(∀ r,(r.getD #[]).toList=dus→Q' r s)→wpAny (model prog w) A.in1 (seqItems? fd.defaults) Q' E' s:=by
  rcases D.dflt with ⟨rfl,e⟩ | ⟨t,dus,e,ht,hvl⟩
  ·refine ⟨[],.nil,fun Q' E' q=>?_⟩
   rw [e]
   exact wpAny_pure (q none rfl)
  ·refine ⟨dus,hvl.mono (TK.of_keep Rl.keep) (Nat.zero_le _) fun i hi=>absurd hi (Nat.not_lt_zero i),fun Q' E' q=>?_⟩
   rw [e]
   refine Classical.byContradiction fun ng=>?_
   obtain ⟨ob,hob,_,c,hdat⟩:=ht
   refine ng ?_
   exact wpAny_seqItems (Rl.keep _ _ hob) hdat (q _ rfl)
 have hfull:VL ρ st.length s.heap (args++ds.drop (args.length + ds.length - ps.length)) (vs++dus.drop (vs.length + dus.length - (ps.map T).length)):=by
  rw [hv.len,hdus.len,List.length_map]
  refine hv.append ?_
  have:∀ (k:Nat) {xs:List AV} {us:List Value},VL ρ st.length s.heap xs us→VL ρ st.length s.heap (xs.drop k) (us.drop k):=fun k=>by
   induction k with
   | zero=>intro xs us x; exact x
   | succ k ih=>intro xs us x; cases x with
    | nil=>exact .nil
    | cons _ r=>exact ih r
  exact this _ hdus
 refine codeAny_call_function hroom (Rl.keep _ _ ho) hd D.co D.gen D.bdy (D.code.keeps Rl.keep) ?_
 refine bind_gen D.p1 D.p2 D.p3 D.p4 D.p5 (names_nodup D.nodup) (by rw [hv.len,List.length_map]; exact hl.1) (by rw [hv.len,hdus.len,List.length_map]; exact hl.2) (by rw [hdus.len,List.length_map]; exact D.dlen) (fun Q' q=>hseq Q' _ q) ?_
 rw [D.clos]
 have hbn:(((ps.map T).zip (vs++dus.drop (vs.length + dus.length - (ps.map T).length))).map (·.1)).Nodup:=by
  rw [List.map_fst_zip]
  ·exact names_nodup D.nodup
  ·rw [hfull.len,List.length_append,List.length_drop,List.length_map]; lia
 refine wpAny_newFunctionEnv_cells D.kind (fun x hx=>?_) fun env he s' x=>?_
 ·have hx1:=(List.of_mem_zip (a:=x.1) (b:=x.2) hx).1
  obtain ⟨p,hp,e⟩:=List.mem_map.mp hx1
  rw [← e]
  rcases D.bound p hp with q | q
  ·exact .inl q
  ·exact .inr ⟨q,cellsFrom_some _ _ _ _ (.inl (mem_of_lookup' q))⟩
 ·refine Classical.byContradiction fun ng=>?_
  obtain ⟨h1,tk1,rfl,hk⟩:=x.done
  refine ng ?_
  refine ⟨(hlim.keeps Rl.keep).keeps hk,codeAny_func ?_⟩
  have R1:=Rl.keeps hk
  have eL:env.locals=s.heap.objs.size:=by rw [he]; rfl
  have eC:env.cells=cellsFrom (s.heap.objs.size + 1) fd.scope.names []:=by rw [he]; rfl
  have eS:env.scope=fd.scope:=by rw [he]; rfl
  have eK:∀ y,env.kindOf y=fd.scope.names.lookup y:=fun y=>by unfold Env.kindOf; rw [eS]
  have frW:∀ b,EnvW env b→s.heap.get? b=none:=fun b hb=>by
   have:¬ b < s.heap.objs.size:=by
    rcases hb with e | ⟨y,e⟩
    ·rw [e,eL]; exact Nat.lt_irrefl _
    ·have:=x.above y b (mem_of_lookup' e)
     rw [eL] at this
     exact Nat.not_lt.mpr (Nat.le_of_lt this)
   cases q:s.heap.get? b with
   | none=>rfl
   | some o=>exact absurd (Heap.lt_size q) this
  have Ev:EnvR env ρ st.length h1 (ps.zip (args++ds.drop (args.length + ds.length - ps.length))):=by
   refine ⟨by rw [eS]; exact D.kind,by rw [he]; exact D.glob,by rw [he]; exact D.blt,⟨_,x.toInCall.ns,fun z v k g=>?_⟩,fun y hy=>?_,fun y c hc=>?_,fun y z c h1 h2=>?_,fun i hi=>⟨fun e=>?_,fun y e=>?_⟩⟩
   ·obtain ⟨u,e,hu⟩:=get_zip ps _ _ z v hfull g
    rw [bindL_get _ _ _ _ hbn k,e]
    exact ⟨u,rfl,hu.mono (TK.of_keep hk) (Nat.le_refl _) fun _ _=>rfl⟩
   ·have hcell:env.kindOf y=some .cell:=by
     rcases hy with q | q
     ·exact q
     ·rw [eK] at q; exact absurd rfl (D.free _ (mem_of_lookup' q))
    have hs:(env.cells.lookup y).isSome=true:=by
     rw [eC]; rw [eK] at hcell
     exact cellsFrom_some _ _ _ _ (.inl (mem_of_lookup' hcell))
    obtain ⟨c,hc⟩:=Option.isSome_iff_exists.mp hs
    refine ⟨c,hc,_,x.cell y c hc,fun z v t g=>?_⟩
    obtain ⟨u,e,hu⟩:=get_zip ps _ _ z v hfull g
    rw [bindC_get _ _ _ _ hbn hcell,← t,e]
    exact ⟨u,rfl,hu.mono (TK.of_keep hk) (Nat.le_refl _) fun _ _=>rfl⟩
   ·rw [eC] at hc
    left
    rw [eK]
    rcases cellsFrom_mem _ _ _ y c (mem_of_lookup' hc) with q | q
    ·cases q
    ·exact lookup_of_nodup D.names q
   ·exact name_of_addr x.apart (mem_of_lookup' h1) (mem_of_lookup' h2)
   ·obtain ⟨o,q,_⟩:=Rl.there hi
    rw [e,frW _ (.inl rfl)] at q; cases q
   ·obtain ⟨o,q,_⟩:=Rl.there hi
    rw [frW _ (.inr ⟨y,e⟩)] at q; cases q
  refine hbody env env sb _ _ { s with heap:=h1,toks:=tk1 } ρ st _ _ (fun b hb=>?_) (by rw [eS]; exact D.says) R1.1 Ev h fun fl m2 st2 ρ2 h2 tk2 f q R2 Ev2 S2 hf=>?_
  ·cases q:B.get? b with
   | none=>rfl
   | some o=>have:=frW b hb; rw [Rl.keep b o q] at this; cases this
  ·have S3:Step no ρ st s.heap ρ2 st2 h2:=(Step.trans R1.1 (R1.2.weak (fun b hb=>hb.elim)) S2 fun y hy _=>hy:Step (EnvW env) ρ st s.heap ρ2 st2 h2).fresh frW
   cases fl with
   | next=>obtain rfl:f=.next:=hf; exact G _ st2 ρ2 h2 tk2 _ q R2 S3 rfl
   | cont=>obtain rfl:f=.cont:=hf; exact G _ st2 ρ2 h2 tk2 _ q R2 S3 rfl
   | ret v=>obtain ⟨u,rfl,hu⟩:=hf; exact G _ st2 ρ2 h2 tk2 _ q R2 S3 hu
end
end Mine
namespace Mine
section
set_option maxRecDepth 100000
open PySem PySem.W PyProof.Rows PySem.Calls
variable {prog:PySem.Program} {w:World} {cl:Nat→Addr} {B:Heap} {A:Around} {E:Value→Shared→Prop} {s:Shared} {ρ ρ':Nat→Addr} {st st':Store} {h h':Heap} {n:Nat} {m m':Loc} {env:Env} {K:Frag} {fa:Nat→Nat→Addr}
noncomputable def venv (P:Prog) (C:Call):MEnv:=⟨P.N,P.glob,P.sorts,C,fun c f=>(P.fns c f).isSome⟩
structure ProgOk (P:Prog) (K:Frag) (cl:Nat→Addr) (fa:Nat→Nat→Addr) (B:Heap):Prop where
 vok:∀ C,VOk K cl fa B (venv P C)
 lim:B.NoLimit
 sys:∃ o,B.get? sysModules=some o
 df:∀ c f ps ds body,P.fns c f=some (.df ps ds body)→FnAt B (fa c f) ps ds body
 cls:∀ c f k,P.fns c f=some (.cls k)→And4 (c=0) (isK k=true) (fa c f=cl k) (makesIn K (cl k)=true)
theorem type_weight (C:Addr) (rest:List Value):(Code.builtin "type.__call__" ⟨.ref C :: rest,[]⟩).weight≤2∧(Code.builtin "type.__call__" ⟨.ref C :: rest,[]⟩).cUnits≤2:=by
 constructor
 ·have:(Code.builtin "type.__call__" ⟨.ref C :: rest,[]⟩).weight=1:=by rfl
  lia
 ·have:(Code.builtin "type.__call__" ⟨.ref C :: rest,[]⟩).cUnits=1:=by rfl
  lia
theorem call_sound {P:Prog} (X:ProgOk P K cl fa B):∀ (d:Nat) (A:Around),A.handled=none→A.depth + 4 * d < recursionLimit→A.units + 10 * d + 60 < cLine→CallOk prog w cl B A (venv P (callW P d)) fa:=by
 intro d
 induction d using Nat.strongRecOn with
 | _ d ih =>
 cases d with
 | zero=>intro A _ _ _ c f l st Q ρ s vs P' E h; exact h.elim
 | succ d =>
  intro A hh hd hu
  have bodyOk:∀ (d':Nat),d'≤d→∀ (A':Around),A'.handled=none→A'.depth + 1 + 4 * d' < recursionLimit→A'.units + 3 + 10 * d' + 60 < cLine→∀ (body:PS) (env:Env),ExS prog w cl B (A'.deeper env) (venv P (callW P d')) body:=fun d' hd' A' h1 h2 h3 body env =>
   ex_all (A:=A'.deeper env) (K:=K) (fa:=fa) ⟨⟨h1,(by show A'.units + 3 + 60 < cLine; lia),X.sys⟩,X.vok _,ih d' (Nat.lt_succ_of_le hd') (A'.deeper env) h1 h2 h3⟩ body
  intro c f l st Q ρ s vs P' E h R hv G
  obtain ⟨fn,hfn,h⟩:=h
  cases fn with
  | df ps ds body =>
   obtain ⟨m,hm,h⟩:=h
   exact wpAny_call (df_sound (R:=fun r s'=>match r with | .ok (.ret v)=>P' v s' | .ok _=>False | .error e=>E e s') (by lia) X.lim (X.df c f ps ds body hfn) (bodyOk d (Nat.le_refl _) A hh (by lia) (by lia) body) hm R hv h G)
  | cls k =>
   obtain ⟨rfl,hk,hfa,hmk⟩:=X.cls c f k hfn
   have hd0:∃ d',d=d' + 1:=by
    cases d with
    | zero=>exact h.elim
    | succ d'=>exact ⟨d',rfl⟩
   obtain ⟨d',rfl⟩:=hd0
   obtain ⟨fi,hfi,h⟩:=h
   have V:=X.vok (callW P d')
   cases fi with
   | cls k' =>
    have:=(X.cls k P.N.init k' hfi).1
    subst this
    exact absurd hk (by decide)
   | df ps ds body =>
    obtain ⟨m,hm,h⟩:=h
    have hin:=V.meth k P.N.init hk (by show (P.fns k P.N.init).isSome=true; rw [hfi]; rfl)
    have hT:T P.N.init="__init__":=V.nok.init
    rw [hT] at hin
    refine wpAny_call ?_
    rw [hfa]
    obtain ⟨hp,g,dr,tk,os⟩:=s
    have Kin:K.In hp:=V.kin.keeps R.keep
    refine make_core (makes_of Kin hmk) (looks_findIn Kin hin.1) (fun self=>bind_fn Kin self hin.2) (.inl rfl) ?_
    obtain ⟨ρ1,e1,R1,S1⟩:=R.push (a:=hp.objs.size) (h':=hp.push emptyDict) (ao:=.ns []) (none_at_size _) (fun b o e=>Heap.get?_push_of_some _ e) fun ρ' ag e=>by
     have hg:(hp.push emptyDict).get? hp.objs.size=some emptyDict:=Heap.get?_push_size _ rfl
     refine ⟨fun _=>none,⟨emptyDict,#[],0,by rw [e]; exact hg,rfl,fun e he=>by simp at he,fun name=>rfl,by simp⟩,fun x=>⟨fun v g=>by simp [get_n,get_c] at g,fun _=>rfl⟩⟩
    have hz:(hp.push emptyDict).objs.size=hp.objs.size + 1:=Heap.size_push ..
    obtain ⟨ρ2,e2,R2,S2⟩:=R1.push (a:=hp.objs.size + 1) (h':=(hp.push emptyDict).push (instObj (cl k) hp.objs.size)) (ao:=.ins k st.length) (by rw [← hz]; exact none_at_size _) (fun b o e=>Heap.get?_push_of_some _ e) fun ρ' ag e=>by
     have hg:((hp.push emptyDict).push (instObj (cl k) hp.objs.size)).get? (hp.push emptyDict).objs.size=some (instObj (cl k) hp.objs.size):=Heap.get?_push_size _ rfl
     have hlen:(st++[AObj.ns []]).length=st.length + 1:=by simp
     refine ⟨⟨by rw [hlen]; lia,hk⟩,?_⟩
     rw [e,ag st.length (by rw [hlen]; lia),e1,← hz]
     exact hg
    have hlen:(st++[AObj.ns []]).length=st.length + 1:=by simp
    rw [hlen] at e2
    have est:(st++[AObj.ns []])++[AObj.ins k st.length]=st++[.ns [],.ins k st.length]:=by rw [List.append_assoc]; rfl
    rw [est] at R2 S2
    have hl2:(st++[AObj.ns [],AObj.ins k st.length]).length=st.length + 2:=by simp
    have S12:=Step.trans R1 S1 S2 fun _ x _=>x
    have tw:=type_weight (cl k) vs
    have ho:isFn K (.ref (fa k P.N.init))=true:=by unfold isFn; rw [hin.2]; rfl
    refine df_sound (s:=⟨(hp.push emptyDict).push (instObj (cl k) hp.objs.size),g,dr,tk,os⟩) (Q:=clsK (st.length + 1) Q) (by show A.depth + _ < _; lia) X.lim (X.df k P.N.init ps ds body hfi)
     (bodyOk d' (Nat.le_succ _) (A.under (.builtin "type.__call__" ⟨.ref (cl k) :: vs,[]⟩)) hh (by show A.depth + (Code.builtin "type.__call__" ⟨.ref (cl k) :: vs,[]⟩).weight + 1 + 4 * d' < _; lia) (by show A.units + (Code.builtin "type.__call__" ⟨.ref (cl k) :: vs,[]⟩).cUnits + 3 + 10 * d' + 60 < _; lia) body) hm R2 (.cons ⟨by rw [hl2]; lia,by rw [e2]⟩ (hv.step S12)) h fun a st3 ρ3 h3 tk3 v q R3 S3 hx=>?_
    replace q:=noneM_inv q
    obtain ⟨rfl,q⟩:=q
    refine ⟨hx,?_⟩
    exact G (.ref (st.length + 1)) st3 ρ3 h3 tk3 _ q R3 (Step.trans R2 S12 S3 fun _ x _=>x) ⟨by have:=S3.le; rw [hl2] at this; lia,by rw [S3.ag _ (by rw [hl2]; lia),e2]⟩
end
end Mine
namespace Mine
section
set_option maxRecDepth 100000
open PySem PySem.W PyProof.Rows PySem.Calls
noncomputable abbrev Get:=Addr→Option Obj
noncomputable def lk (g:Get) (a:Addr) (x:Str):Option Value:=(g a).bind fun o=>(lookIn x o).join
noncomputable def addrOf:Option Value→Addr
 | some (.ref a)=>a
 | _=>0
noncomputable def isRef:Option Value→Bool
 | some (.ref _)=>true
 | _=>false
theorem isRef_of {o:Option Value} (h:isRef o=true):o=some (.ref (addrOf o)):=by
 cases o with
 | none=>exact absurd h Bool.false_ne_true
 | some v=>cases v <;> first | rfl | exact absurd h Bool.false_ne_true
noncomputable def clA (g:Get) (k:Nat):Addr:=addrOf (lk g mainGlobals (T k))
noncomputable def clNs (g:Get) (k:Nat):Addr:=match g (clA g k) with
 | some ⟨_,_,.cls cd,_⟩=>cd.ns
 | _=>0
noncomputable def faA (g:Get) (c f:Nat):Addr:=bif Nat.beq c 0 then addrOf (lk g mainGlobals (T f)) else addrOf (lk g (clNs g c) (T f))
noncomputable def kls:List Nat:=[w_Summary,w_EscapeFlow,w_Code]
noncomputable def fragAddrs (g:Get):List Addr:=kls.flatMap (fun k=>[clA g k,clNs g k])++fnsL.map fun p=>faA g p.1 p.2.1
noncomputable def frag (g:Get):Frag:=(fragAddrs g).filterMap fun a=>(g a).map fun o=>(a,o)
theorem frag_in (h:Heap):(frag h.get?).In h:=by
 intro a o e
 have hm:(a,o)∈frag h.get?:=by
  generalize frag h.get?=l at e
  induction l with
  | nil=>cases e
  | cons p r ih =>
   obtain ⟨b,x⟩:=p
   rw [List.lookup_cons] at e
   cases hb:a == b with
   | true=>rw [hb] at e; cases e; rw [eq_of_beq hb]; exact List.mem_cons_self
   | false=>rw [hb] at e; exact List.mem_cons_of_mem _ (ih e)
 obtain ⟨b,_,hb⟩:=List.mem_filterMap.mp hm
 cases q:h.get? b with
 | none=>rw [q] at hb; cases hb
 | some x=>rw [q] at hb; cases hb; exact q
noncomputable def objC (o:Option Obj) (f:Obj→Bool):Bool:=match o with
 | some o=>f o
 | none=>false
noncomputable def dictD (d:Data) (f:Array DictEntry→Bool):Bool:=match d with
 | .dict es _=>f es
 | _=>false
noncomputable def seqD (d:Data) (f:Array Value→Bool):Bool:=match d with
 | .seq vs _=>f vs
 | _=>false
noncomputable def fieldsD (d:Data) (f:Array Value→Bool):Bool:=match d with
 | .fields vs=>f vs
 | _=>false
noncomputable def funcD (d:Data) (f:FuncData→Bool):Bool:=match d with
 | .func fd=>f fd
 | _=>false
noncomputable def refC (v:Value) (f:Addr→Bool):Bool:=match v with
 | .ref a=>f a
 | _=>false
noncomputable def typeC (v:Value) (f:String→Bool):Bool:=match v with
 | .type a=>f a
 | _=>false
noncomputable def strC (v:Value) (f:Str→Bool):Bool:=match v with
 | .str a _=>f a
 | _=>false
noncomputable def intC (v:Value) (f:Int→Bool):Bool:=match v with
 | .int a _=>f a
 | _=>false
noncomputable def boolC (v:Value) (f:Bool→Bool):Bool:=match v with
 | .bool a=>f a
 | _=>false
noncomputable def noneC (v:Value):Bool:=match v with
 | .none=>true
 | _=>false
theorem ff {C:Prop} (h:false=true):C:=absurd h Bool.false_ne_true
section
variable {v:Value} {d:Data}
theorem objC_inv {o:Option Obj} {f:Obj→Bool} (h:objC o f=true):∃ x,o=some x∧f x=true:=by cases o <;> first | exact ⟨_,rfl,h⟩ | exact ff h
theorem dictD_inv {f:Array DictEntry→Bool} (h:dictD d f=true):Ex2 fun es ep=>d=.dict es ep∧f es=true:=by cases d <;> first | exact ⟨_,_,rfl,h⟩ | exact ff h
theorem seqD_inv {f:Array Value→Bool} (h:seqD d f=true):Ex2 fun vs c=>d=.seq vs c∧f vs=true:=by cases d <;> first | exact ⟨_,_,rfl,h⟩ | exact ff h
theorem fieldsD_inv {f:Array Value→Bool} (h:fieldsD d f=true):∃ vs,d=.fields vs∧f vs=true:=by cases d <;> first | exact ⟨_,rfl,h⟩ | exact ff h
theorem funcD_inv {f:FuncData→Bool} (h:funcD d f=true):∃ fd,d=.func fd∧f fd=true:=by cases d <;> first | exact ⟨_,rfl,h⟩ | exact ff h
theorem refC_inv {f:Addr→Bool} (h:refC v f=true):∃ a,v=.ref a∧f a=true:=by cases v <;> first | exact ⟨_,rfl,h⟩ | exact ff h
theorem typeC_inv {f:String→Bool} (h:typeC v f=true):∃ a,v=.type a∧f a=true:=by cases v <;> first | exact ⟨_,rfl,h⟩ | exact ff h
theorem strC_inv {f:Str→Bool} (h:strC v f=true):Ex2 fun a t=>v=.str a t∧f a=true:=by cases v <;> first | exact ⟨_,_,rfl,h⟩ | exact ff h
theorem intC_inv {f:Int→Bool} (h:intC v f=true):Ex2 fun a t=>v=.int a t∧f a=true:=by cases v <;> first | exact ⟨_,_,rfl,h⟩ | exact ff h
theorem boolC_inv {f:Bool→Bool} (h:boolC v f=true):∃ a,v=.bool a∧f a=true:=by cases v <;> first | exact ⟨_,rfl,h⟩ | exact ff h
theorem noneC_inv (h:noneC v=true):v=.none:=by cases v <;> first | rfl | exact ff h
end
noncomputable def strKey (e:DictEntry):Bool:=strC e.key fun _=>true
noncomputable def nsOk (g:Get) (a:Addr):Bool:=objC (g a) fun o=>dictD o.data fun es=>es.toList.all strKey
theorem ns_of {h:Heap} {a:Addr} (e:nsOk h.get? a=true):h.Ns a (fun x=>lk h.get? a x):=by
 obtain ⟨o,ho,e⟩:=objC_inv e
 obtain ⟨es,ep,hd,e⟩:=dictD_inv e
 have hk:StrKeys es:=fun en hen=>by
  obtain ⟨x,t,hx,_⟩:=strC_inv (List.all_eq_true.mp e en (Array.mem_toList_iff.mpr hen))
  exact ⟨x,t,hx⟩
 have hn:h.Ns a (fun x=>nsFind es x):=⟨_,es,ep,ho,hd,hk,fun _=>rfl⟩
 have:(fun x=>lk h.get? a x)=fun x=>nsFind es x:=by
  funext x
  obtain ⟨o,ho',hl⟩:=lookIn_ns hn
  unfold lk
  rw [ho']
  simp only [Option.bind_some,hl]
  rfl
 rw [this]; exact hn
noncomputable def tupB (g:Get) (P:List Value→Bool) (v:Value):Bool:=refC v fun a=>objC (g a) fun o=>typeC o.cls fun n=>n == "tuple" && seqD o.data fun vs=>P vs.toList
noncomputable def chk1 (g:Get) (P:List Value→Bool) (a:AV) (v:Value):Bool:=match a with
 | .none=>noneC v
 | .bool b=>boolC v fun c=>b == c
 | .int i=>intC v fun j=>decide (i=j)
 | .str x=>strC v fun y=>sq y (T x)
 | .nil | .cons ..=>tupB g P v
 | .ref _=>false
noncomputable def chkI (g:Get):AV→List Value→Bool
 | .nil,vs=>vs.isEmpty
 | .cons a r,vs=>(match vs with | v :: q=>chk1 g (chkI g a) a v && chkI g r q | []=>false)
 | _,_=>false
noncomputable def chkV (g:Get) (a:AV) (v:Value):Bool:=chk1 g (chkI g a) a v
theorem tup_of {h:Heap} {P:List Value→Bool} {v:Value} (e:tupB h.get? P v=true):Ex2 fun a vs=>v=.ref a∧IsTup h a (List.toArray vs)∧P vs=true:=by
 obtain ⟨b,rfl,e⟩:=refC_inv e
 obtain ⟨o,ho,e⟩:=objC_inv e
 obtain ⟨n,hn,e⟩:=typeC_inv e
 obtain ⟨e1,e2⟩:=and2 e
 obtain ⟨vs,c,hd,e2⟩:=seqD_inv e2
 exact ⟨b,vs.toList,rfl,⟨_,ho,by rw [hn,beq_iff_eq.mp e1],c,by rw [hd,Array.toArray_toList]⟩,e2⟩
theorem chk1_of {h:Heap} {P:List Value→Bool} {P':List Value→Prop} (hP:∀ vs,P vs=true→P' vs) {a:AV} {v:Value} (e:chk1 h.get? P a v=true):Val1 (fun _=>0) 0 h P' a v:=by
 have tup:tupB h.get? P v=true→Ex2 fun a vs=>v=.ref a∧IsTup h a (List.toArray vs)∧P' vs:=fun e=>by
  obtain ⟨b,vs,e1,e2,e3⟩:=tup_of e
  exact ⟨b,vs,e1,e2,hP _ e3⟩
 cases a with
 | none=>exact noneC_inv e
 | bool b=>obtain ⟨c,rfl,e⟩:=boolC_inv e; rw [eq_of_beq e]; rfl
 | int i=>obtain ⟨c,t,rfl,e⟩:=intC_inv e; rw [of_decide_eq_true e]; exact ⟨t,rfl⟩
 | str x=>obtain ⟨c,t,rfl,e⟩:=strC_inv e; rw [sq_eq e]; exact ⟨t,rfl⟩
 | nil=>exact tup e
 | cons a b=>exact tup e
 | ref i=>exact ff e
theorem chkI_of {h:Heap}:∀ {a:AV} {vs:List Value},chkI h.get? a vs=true→Items (fun _=>0) 0 h a vs:=by
 intro a
 induction a with
 | nil=>intro vs e; cases vs with
  | nil=>rfl
  | cons _ _=>cases e
 | cons a r iha ihr =>
  intro vs e
  cases vs with
  | nil=>cases e
  | cons v q =>
   replace e:=and2 (show (chk1 h.get? (chkI h.get? a) a v && chkI h.get? r q)=true from e)
   exact ⟨v,q,rfl,chk1_of (fun vs x=>iha x) e.1,ihr e.2⟩
 | _=>intro vs e; cases e
theorem chkV_of {h:Heap} {a:AV} {v:Value} (e:chkV h.get? a v=true):Val (fun _=>0) 0 h a v:=chk1_of (fun _ x=>chkI_of x) e
noncomputable def codeOk (g:Get) (cd:Value) (q:Str):Bool:=refC cd fun c=>objC (g c) fun o=>fieldsD o.data fun vs=>match vs.toList[1]? with
 | some x=>strC x fun x=>sq x q
 | none=>false
theorem code_of {h:Heap} {cd:Value} {q:Str} (e:codeOk h.get? cd q=true):h.CodeRec cd q:=by
 obtain ⟨c,rfl,e⟩:=refC_inv e
 obtain ⟨o,ho,e⟩:=objC_inv e
 obtain ⟨vs,hd,e⟩:=fieldsD_inv e
 cases hx:vs.toList[1]? with
 | none=>rw [hx] at e; exact ff e
 | some x =>
  rw [hx] at e
  obtain ⟨y,t,rfl,e⟩:=strC_inv e
  rw [Array.getElem?_toList,sq_eq e] at hx
  exact ⟨c,_,vs,t,rfl,ho,hd,hx⟩
noncomputable def chkL (g:Get) (l:List AV) (vs:List Value):Bool:=match l with
 | []=>(match vs with | []=>true | _ :: _=>false)
 | a :: r=>(match vs with | v :: q=>chkV g a v && chkL g r q | []=>false)
theorem chkL_of {h:Heap} {l:List AV}:∀ {vs:List Value},chkL h.get? l vs=true→VL (fun _=>0) 0 h l vs:=by
 induction l with
 | nil=>intro vs e; cases vs with
  | nil=>exact .nil
  | cons=>exact ff e
 | cons a r ih=>intro vs e; cases vs with
  | nil=>exact ff e
  | cons v q =>
   obtain ⟨e1,e2⟩:=and2 e
   exact .cons (chkV_of e1) (ih e2)
noncomputable def dfltOk (g:Get) (ds:List AV) (d:Value):Bool:=match ds with
 | []=>noneC d
 | a :: r=>tupB g (chkL g (a :: r)) d
theorem dflt_of {h:Heap} {ds:List AV} {d:Value} (e:dfltOk h.get? ds d=true):(ds=[]∧d=.none)∨Ex2 fun t dus=>d=.ref t∧IsTup h t (List.toArray dus)∧VL (fun _=>0) 0 h ds dus:=by
 cases ds with
 | nil=>exact .inl ⟨rfl,noneC_inv e⟩
 | cons a r =>
  obtain ⟨t,vs,e1,e2,e3⟩:=tup_of e
  exact .inr ⟨t,vs,e1,e2,chkL_of e3⟩
noncomputable def noneB {α:Type}:Option α→Bool
 | none=>true
 | some _=>false
theorem none_of {α:Type} {x:Option α} (e:noneB x=true):x=none:=by cases x <;> first | rfl | cases e
noncomputable def nilB {α:Type}:List α→Bool
 | []=>true
 | _=>false
theorem nil_of {α:Type} {x:List α} (e:nilB x=true):x=[]:=by cases x <;> first | rfl | cases e
noncomputable def argsIs (as:List Arg) (ps:List Nat):Bool:=match as with
 | []=>nilB ps
 | a :: r=>(match ps with | p :: q=>sq a.arg (T p) && argsIs r q | []=>false)
theorem args_of {as:List Arg}:∀ {ps:List Nat},argsIs as ps=true→as.map (·.arg)=ps.map T:=by
 induction as with
 | nil=>intro ps e; rw [nil_of e]; rfl
 | cons a r ih=>intro ps e; cases ps with
  | nil=>exact ff e
  | cons p q =>
   obtain ⟨e1,e2⟩:=and2 e
   rw [List.map_cons,List.map_cons,sq_eq e1,ih e2]
noncomputable def boundOk (sc:Scope) (x:Nat):Bool:=sc.names.lookup (T x) == some .local || sc.names.lookup (T x) == some .cell
noncomputable def isFree:NameKind→Bool
 | .free=>true
 | _=>false
noncomputable def fdOk (g:Get) (fd:FuncData) (ps:List Nat) (ds:List AV) (body:PS):Bool:=match fd.body with
 | .stmts sb=>mS fd.scope body sb && decide (fd.scope.kind=.function) && !fd.scope.isCoroutine && !fd.scope.isGenerator && nilB fd.closure && Nat.beq fd.globals mainGlobals && Nat.beq fd.builtins builtinsNs && codeOk g fd.code fd.qualname &&
   nilB fd.params.posonlyargs && noneB fd.params.vararg && nilB fd.params.kwonlyargs && noneB fd.params.kwarg && argsIs fd.params.args ps && decide ps.Nodup && ps.all (boundOk fd.scope) && decide (fd.scope.names.map (·.1)).Nodup && fd.scope.names.all (fun y=>!isFree y.2) && Nat.ble ds.length ps.length && dfltOk g ds fd.defaults
 | _=>false
theorem fd_of {h:Heap} {fd:FuncData} {ps:List Nat} {ds:List AV} {body:PS} (e:fdOk h.get? fd ps ds body=true):∃ sb,FdOk h fd sb ps ds body:=by
 unfold fdOk at e
 set_option tactic.hygienic true in split at e
 ·rename_i sb hb
  simp only [Bool.and_eq_true,Bool.not_eq_true',decide_eq_true_eq] at e
  obtain ⟨⟨⟨⟨⟨⟨⟨⟨⟨⟨⟨⟨⟨⟨⟨⟨⟨⟨e1,e2⟩,e3⟩,e4⟩,e5⟩,e6⟩,e7⟩,e8⟩,e9⟩,e10⟩,e11⟩,e12⟩,e13⟩,e14⟩,e15⟩,e16⟩,e17⟩,e18⟩,e19⟩:=e
  refine ⟨sb,hb,e1,e2,e3,e4,nil_of e5,Nat.eq_of_beq_eq_true e6,Nat.eq_of_beq_eq_true e7,code_of e8,nil_of e9,none_of e10,nil_of e11,none_of e12,args_of e13,e14,fun x hx=>?_,e16,fun y hy q=>?_,Nat.le_of_ble_eq_true e18,dflt_of e19⟩
  ·exact (Bool.or_eq_true_iff.mp (List.all_eq_true.mp e15 x hx)).imp beq_iff_eq.mp beq_iff_eq.mp
  ·have:=List.all_eq_true.mp e17 y hy
   rw [q] at this; cases this
 ·cases e
noncomputable def valEq (a:Option Value) (b:Value):Bool:=match a with
 | some v=>v == b
 | none=>false
theorem val_of {a:Option Value} {b:Value} (e:valEq a b=true):a=some b:=by
 cases a with
 | none=>cases e
 | some v=>rw [show v=b from beq_iff_eq.mp e]
noncomputable def biAll:List Bi:=[.len,.list,.sorted,.sum,.max,.int,.tuple,.dict]
theorem biAll_mem (b:Bi):b∈biAll:=by cases b <;> repeat (first | exact List.Mem.head _ | apply List.Mem.tail)
noncomputable def fnOk (g:Get) (p:Nat×Nat×Fn):Bool:=(match p.2.2 with
  | .df ps ds body=>(objC (g (faA g p.1 p.2.1)) fun o=>funcD o.data fun fd=>fdOk g fd ps ds body)
  | .cls k=>Nat.beq p.1 0 && isK k && Nat.beq (faA g p.1 p.2.1) (clA g k) && makesIn (frag g) (clA g k)) &&
 keepIn (frag g) (.ref (faA g p.1 p.2.1)) &&
 (bif Nat.beq p.1 0 then isRef (lk g mainGlobals (T p.2.1)) else findIn (frag g) (.ref (clA g p.1)) (T p.2.1) == some (some (.ref (faA g p.1 p.2.1))) && typeIn (frag g) (.ref (faA g p.1 p.2.1)) == some (.type "function"))
noncomputable def clsOk (g:Get) (k:Nat):Bool:=findIn (frag g) (.ref (clA g k)) "__getattribute__" == some (some (.builtin "object.__getattribute__")) && findIn (frag g) (.ref (clA g k)) "__getattr__" == some none &&
 findIn (frag g) (.ref (clA g k)) "__setattr__" == some (some (.builtin "object.__setattr__")) && hasDictIn (frag g) (clA g k) && plainOver (frag g) (clA g k) && attrs.all fun x=>findIn (frag g) (.ref (clA g k)) (T x) == some none
noncomputable def okProg (g:Get):Bool :=
 nsOk g mainGlobals && nsOk g builtinsNs && nsOk g cStatics && noneB (lk g cStatics "sys.recursionlimit") && !noneB (g sysModules) &&
 globL.all (fun p=>match lk g mainGlobals (T p.1) with | some u=>chkV g p.2 u | none=>false) &&
 bNames.all (fun y=>noneB (lk g mainGlobals y)) &&
 biAll.all (fun b=>valEq (lk g builtinsNs (biName b)) (biVal b)) && valEq (lk g builtinsNs "isinstance") (.builtin "isinstance") && valEq (lk g builtinsNs "range") (.type "range") && valEq (lk g builtinsNs "enumerate") (.type "enumerate") &&
 kls.all (clsOk g) && fnsL.all (fnOk g)
theorem isK_mem {c:Nat} (h:isK c=true):c∈kls:=by
 simp only [isK,Bool.or_eq_true] at h
 rcases h with (h | h) | h <;> rw [Nat.eq_of_beq_eq_true h] <;> simp [kls]
theorem attr_mem {x:Nat} (h:attrOk x=true):x∈attrs:=by
 unfold attrOk at h
 obtain ⟨y,hy,e⟩:=List.any_eq_true.mp h
 rw [Nat.eq_of_beq_eq_true e]; exact hy
theorem fns_mem {c f:Nat} {fn:Fn} (h:fns c f=some fn):(c,f,fn)∈fnsL:=by
 unfold fns at h
 obtain ⟨p,hp,e⟩:=Option.map_eq_some_iff.mp h
 have hm:=List.mem_of_find?_eq_some hp
 have hb:=List.find?_some hp
 simp only [Bool.and_eq_true] at hb
 obtain ⟨c',f',fn'⟩:=p
 have e1:=Nat.eq_of_beq_eq_true hb.1
 have e2:=Nat.eq_of_beq_eq_true hb.2
 dsimp only at e1 e2 e
 subst e1 e2 e
 exact hm
theorem glob_mem {x:Nat} {v:AV} (h:glob x=some v):(x,v)∈globL:=by
 unfold glob at h
 obtain ⟨p,hp,e⟩:=Option.map_eq_some_iff.mp h
 have hm:=List.mem_of_find?_eq_some hp
 have hb:=List.find?_some hp
 obtain ⟨c',f'⟩:=p
 have e1:=Nat.eq_of_beq_eq_true hb
 dsimp only at e1 e
 subst e1 e
 exact hm
theorem sortsOk:SortsOk sorts:=by
 intro k r e
 unfold sorts at e
 cases q:Nat.beq k 0 with
 | true=>rw [q] at e; cases e; exact ⟨by decide +kernel,by decide +kernel,by decide⟩
 | false=>rw [q] at e; cases e
theorem nOk:NOk mnames:=⟨by decide +kernel,by decide +kernel,by decide +kernel,by decide +kernel,by decide +kernel,by decide +kernel⟩
theorem progOk {h:Heap} (e:okProg h.get?=true):ProgOk mprog (frag h.get?) (clA h.get?) (faA h.get?) h:=by
 unfold okProg at e
 simp only [Bool.and_eq_true] at e
 obtain ⟨⟨⟨⟨⟨⟨⟨⟨⟨⟨⟨⟨e1,e2⟩,e3⟩,e4⟩,e5⟩,e6⟩,e7⟩,e8⟩,e9⟩,e10⟩,e11⟩,e12⟩,e13⟩:=e
 have fnat:∀ {c f:Nat} {fn:Fn},fns c f=some fn→fnOk h.get? (c,f,fn)=true:=fun q=>List.all_eq_true.mp e13 _ (fns_mem q)
 have cls:∀ {c:Nat},isK c=true→clsOk h.get? c=true:=fun q=>List.all_eq_true.mp e12 _ (isK_mem q)
 have kok:KOk (frag h.get?) (clA h.get?):=by
  refine ⟨fun c q=>?_,fun c q=>?_,fun c q=>?_,fun c q=>?_,fun c q=>?_,fun c x q hx=>?_⟩ <;>
   (have:=cls q; unfold clsOk at this; simp only [Bool.and_eq_true,beq_iff_eq] at this; obtain ⟨⟨⟨⟨⟨a1,a2⟩,a3⟩,a4⟩,a5⟩,a6⟩:=this)
  ·exact a1
  ·exact a2
  ·exact a3
  ·exact a4
  ·exact a5
  ·exact beq_iff_eq.mp (List.all_eq_true.mp a6 x (attr_mem hx))
 have hf:∀ c f,(fns c f).isSome=true→∃ fn,fns c f=some fn:=fun c f q=>Option.isSome_iff_exists.mp q
 refine ⟨fun C=>⟨kok,frag_in h,nOk,sortsOk,by rfl,⟨_,ns_of e1,fun x v q=>?_,fun f q=>?_,fun y hy=>none_of (List.all_eq_true.mp e7 y hy)⟩,⟨_,ns_of e2,fun b=>val_of (List.all_eq_true.mp e8 b (biAll_mem b)),val_of e9,val_of e10,val_of e11⟩,fun c f q=>?_,fun c f hk q=>?_⟩,⟨_,ns_of e3,none_of e4⟩,?_,fun c f ps ds body q=>?_,fun c f k q=>?_⟩
 ·have:=List.all_eq_true.mp e6 _ (glob_mem (show glob x=some v from q))
  dsimp only at this
  cases hu:lk h.get? mainGlobals (T x) with
  | none=>rw [hu] at this; exact ff this
  | some u=>rw [hu] at this; exact ⟨u,rfl,chkV_of this⟩
 ·obtain ⟨fn,hfn⟩:=hf 0 f q
  have:=fnat hfn
  unfold fnOk at this
  simp only [Bool.and_eq_true,Nat.beq_refl,cond_true] at this
  have hr:=this.2
  show lk h.get? mainGlobals (T f)=some (.ref (addrOf (lk h.get? mainGlobals (T f))))
  exact isRef_of hr
 ·obtain ⟨fn,hfn⟩:=hf c f q
  have:=fnat hfn
  unfold fnOk at this
  simp only [Bool.and_eq_true] at this
  exact this.1.2
 ·obtain ⟨fn,hfn⟩:=hf c f q
  have:=fnat hfn
  unfold fnOk at this
  simp only [Bool.and_eq_true] at this
  have hc:Nat.beq c 0=false:=by
   cases z:Nat.beq c 0 with
   | false=>rfl
   | true=>rw [Nat.eq_of_beq_eq_true z] at hk; exact absurd hk (by decide)
  have h2:=this.2
  rw [hc] at h2
  simp only [cond_false,Bool.and_eq_true,beq_iff_eq] at h2
  exact h2
 ·cases z:h.get? sysModules with
  | none=>rw [z] at e5; cases e5
  | some o=>exact ⟨o,rfl⟩
 ·have:=fnat (show fns c f=some (.df ps ds body) from q)
  unfold fnOk at this
  simp only [Bool.and_eq_true] at this
  obtain ⟨o,ho,h1⟩:=objC_inv this.1.1
  obtain ⟨fd,hd,h1⟩:=funcD_inv h1
  obtain ⟨sb,F⟩:=fd_of h1
  exact ⟨_,fd,sb,ho,hd,F⟩
 ·have:=fnat (show fns c f=some (.cls k) from q)
  unfold fnOk at this
  simp only [Bool.and_eq_true] at this
  obtain ⟨⟨⟨a,b⟩,c'⟩,d⟩:=this.1.1
  exact ⟨Nat.eq_of_beq_eq_true a,b,Nat.eq_of_beq_eq_true c',d⟩
end
end Mine
namespace Mine
section
set_option maxRecDepth 1000000
open PySem PySem.W
noncomputable def topT (st:(Code→Sem Fin)→Program→World→SharedT→Thread→Option (SharedT×Thread)) (ok:Nat→Option Value→Thread→Bool) (den:Code→Sem Fin) (p:Program) (w:World) (n₀:Nat) (ann:Option Value):Nat→SharedT→Thread→Option SharedT
 | 0,_,_=>none
 | n + 1,s,t=>match through t with
  | true=>some s
  | false=>match ok n₀ ann t with
   | false=>none
   | true=>match st den p w s t with
    | some (s',t')=>topT st ok den p w n₀ ann n s' t'
    | none=>none
theorem topT_spec {tb:String→Option Builtin} {p:Program} {w:World} {n₀:Nat} {ann:Option Value} (n:Nat):∀ {s s':SharedT} {t:Thread},topT stepT stepOk (denote tb) p w n₀ ann n s t=some s'→topRun tb p w n₀ ann n s.abs t=some s'.abs:=by
 induction n with
 | zero=>intro s s' t h; cases h
 | succ n ih =>
  intro s s' t h
  replace h:(match through t with
   | true=>some s
   | false=>match stepOk n₀ ann t with
    | false=>none
    | true=>match stepT (denote tb) p w s t with
     | some (s',t')=>topT stepT stepOk (denote tb) p w n₀ ann n s' t'
     | none=>none)=some s':=h
  unfold topRun
  cases ht:through t with
  | true=>rw [ht] at h; cases h; rfl
  | false =>
   rw [ht] at h
   cases hk:stepOk n₀ ann t with
   | false=>rw [hk] at h; cases h
   | true =>
    rw [hk] at h
    cases hs:stepT (denote tb) p w s t with
    | none=>rw [hs] at h; cases h
    | some r=>obtain ⟨s₂,t₂⟩:=r; rw [hs] at h; rw [stepT_spec hs]; exact ih h
noncomputable def treeOf:List Obj→Nat→BT→BT
 | [],_,t=>t
 | o :: r,n,t=>treeOf r (n + 1) (t.ins n o)
noncomputable abbrev pp:Program:=PySem.Challenge.pw_pq0227_01
noncomputable def bootT (w:World) (os:OsState):SharedT:=⟨treeOf (boot_heap w.params).objs.toList 0 .nil,11,(boot_heap w.params).life,Array.mk [],boot_drawn,boot_toks,os⟩
theorem bootT_abs (w:World) (os:OsState):(bootT w os).abs=⟨boot_heap w.params,Array.mk [],boot_drawn,boot_toks,os⟩:=by kernel_rfl
noncomputable def ann0 (w:World):Option Value:=(boot_heap w.params).nsMap mainGlobals "__annotations__"
theorem boot_size (w:World):((boot_heap w.params).isNs mainGlobals,(boot_heap w.params).objs.size)=(true,11):=by kernel_rfl
noncomputable def checks (p:Program) (h₀ h₁:Heap) (s:Shared):Bool:=staticsOk (importedModules p.main.body) h₀ h₁ && namesBound p h₁ && gensDone s && laidKept h₀ h₁
theorem left_of {q:Program} {loose:List Str} {Xt:Shared→Bool} {α:Type} {Yf:Shared→α} {Ya:World→α} {N:Nat} (e:opening pp=plainProg pp.main.scope.names) (hN:Nat.ble 600 N=true) (f:∀ s,fenceModules? pp s=some s)
  (run:∀ (w:World) (os:OsState),(topT stepT stepOk (denote treeTable) pp w 11 (ann0 w) N (bootT w os) (topStub pp)).map (fun s=>(checks pp (boot_heap w.params) s.abs.heap s.abs,openSeen q loose (importedModules pp.main.body) Xt true s.abs,Yf s.abs))=some (true,openGood q loose,Ya w)) :
  LeftO pp q loose Xt Yf Ya N:=fun w=>by
 obtain ⟨⟨h,gs,d,k,os⟩,h0,hv⟩:=Option.map_eq_some_iff.mp (boot_open e hN f w)
 obtain ⟨rfl,rfl,rfl,rfl⟩:h=boot_heap w.params∧gs=Array.mk []∧d=boot_drawn∧k=boot_toks:=by simpa using hv
 obtain ⟨s',hs',e'⟩:=Option.map_eq_some_iff.mp (run w os)
 have e1:checks pp (boot_heap w.params) s'.abs.heap s'.abs=true:=congrArg Prod.fst e'
 have e2:=congrArg Prod.snd e'
 have r:=topT_spec _ hs'
 rw [bootT_abs] at r
 obtain ⟨b1,b2⟩:=Prod.mk.inj (boot_size w)
 unfold openEnds
 rw [h0]
 show (topFrom treeTable pp w N ⟨boot_heap w.params,Array.mk [],boot_drawn,boot_toks,os⟩).map _=_
 unfold topFrom
 dsimp only
 rw [b1]
 show ((topRun treeTable pp w (boot_heap w.params).objs.size (ann0 w) N _ _).bind _).map _=_
 rw [b2,r]
 show (match checks pp (boot_heap w.params) s'.abs.heap s'.abs with | true=>some s'.abs | false=>none).map _=_
 rw [e1]
 exact congrArg some e2
theorem opening_eq:opening pp=plainProg pp.main.scope.names:=by kernel_rfl
theorem fence_eq (s:Shared):fenceModules? pp s=some s:=by kernel_rfl
end
end Mine
namespace Mine
section
set_option maxRecDepth 1000000
set_option maxHeartbeats 0
open PySem PySem.W
noncomputable def q0:Program:=view pp [31]
noncomputable def loose0:List Str:=pp.boundNames.dropLast
noncomputable def getT (s:SharedT):Get:=fun a=>match Nat.blt a s.n with
 | true=>alive ((s.tree.get a).getD default)
 | false=>none
theorem getT_eq (s:SharedT):s.abs.heap.get?=getT s:=by
 funext a
 unfold getT
 show (absHeap s.tree s.n s.life).get? a=_
 by_cases h:a < s.n
 ·have hb:Nat.blt a s.n=true:=by rw [Nat.blt_eq]; exact h
  rw [hb]
  unfold Heap.get?
  rw [absHeap_at,if_pos h]
  show (match some ((s.tree.get a).getD default) with | some ⟨_,_,.freed,_⟩=>none | o=>o)=alive _
  generalize (s.tree.get a).getD default=o
  obtain ⟨c,d,dt,sl⟩:=o
  cases dt <;> rfl
 ·have hb:Nat.blt a s.n=false:=by
   cases q:Nat.blt a s.n with
   | false=>rfl
   | true=>rw [Nat.blt_eq] at q; exact absurd q h
  rw [hb,abs_get_none h]
theorem run1 (w:World) (os:OsState):(topT stepT stepOk (denote treeTable) pp w 11 (ann0 w) 2400 (bootT w os) (topStub pp)).map (fun s=>(checks pp (boot_heap w.params) s.abs.heap s.abs,openSeen q0 loose0 (importedModules pp.main.body) (fun s=>xlAt q0 [] s) true s.abs,okProg (getT s)))=some (true,openGood q0 loose0,true):=by
 rw [PySem.W.Fast.te10156331382660048174,PySem.W.Fast.te11892475500146522536,PySem.W.Fast.te14364793385576792824,PySem.W.Fast.te6613529449190102663,PySem.W.Fast.te4187177175401517315,PySem.W.Fast.te5923862056798008813]
 kernel_rfl
theorem run2 (w:World) (os:OsState):(topT stepT stepOk (denote treeTable) pp w 11 (ann0 w) 2400 (bootT w os) (topStub pp)).map (fun s=>(checks pp (boot_heap w.params) s.abs.heap s.abs,openSeen q0 loose0 (importedModules pp.main.body) (fun s=>xlAt q0 [] s) true s.abs,okProg s.abs.heap.get?))=some (true,openGood q0 loose0,true):=by
 have e:(fun s:SharedT=>(checks pp (boot_heap w.params) s.abs.heap s.abs,openSeen q0 loose0 (importedModules pp.main.body) (fun s=>xlAt q0 [] s) true s.abs,okProg s.abs.heap.get?))=fun s=>(checks pp (boot_heap w.params) s.abs.heap s.abs,openSeen q0 loose0 (importedModules pp.main.body) (fun s=>xlAt q0 [] s) true s.abs,okProg (getT s)):=by
  funext s; rw [getT_eq]
 rw [e]
 exact run1 w os
end
end Mine
namespace Mine
@[irreducible] noncomputable def callP:Prog→Nat→Call:=callW
theorem callP_eq:callP=callW:=by unfold callP; rfl
end Mine
namespace Mine
section
set_option maxRecDepth 10000
@[reducible] noncomputable def sTok (k:AV):AV:=.cons (.str w_site) (.cons k .nil)
@[reducible] noncomputable def oTok (i:AV):AV:=.cons (.str w_outer) (.cons i .nil)
@[reducible] noncomputable def bTok:AV:=.cons (.str w_beyond) .nil
@[reducible] noncomputable def sKey (i:Int):AV:=.cons (.str w_main_f) (.cons (.int i) .nil)
@[reducible] noncomputable def iKey:AV:=.cons (.str w_main_i) (.cons (.int 1) .nil)
@[reducible] noncomputable def pr (a b:AV):AV:=.cons a (.cons b .nil)
set_option genInjectivity true in
set_option genCtorIdx true in
inductive Tb where | held | inside | told deriving DecidableEq
set_option genInjectivity true in
set_option genCtorIdx true in
inductive Tp where | sites | gone | leaks | kept deriving DecidableEq
set_option genInjectivity true in
set_option genCtorIdx true in
inductive Role where | self | ns | sm | smns | tab (t:Tb) | top (s:Tp) | cell (t:Tb) (k:AV) deriving DecidableEq
structure FS where
 adr:Role→Nat
 log:List (Role×AV)
 ks:Tb→List AV
 new:Bool
structure FP where
 code:Nat
 sums:Nat
 U:Role→AV→Prop
noncomputable def FS.S (F:FS) (r:Role):List AV:=F.log.filterMap fun p=>if p.1=r then some p.2 else none
theorem mem_S {F:FS} {r:Role} {x:AV}:x∈F.S r↔(r,x)∈F.log:=by
 simp only [FS.S,List.mem_filterMap]
 constructor
 ·rintro ⟨⟨a,b⟩,h,e⟩
  simp at e
  obtain ⟨rfl,rfl⟩:=e
  exact h
 ·exact fun h=>⟨_,h,by simp⟩
theorem S_len (F:FS) (r:Role):(F.S r).length≤F.log.length:=by simp only [FS.S]; exact List.length_filterMap_le _ _
noncomputable def FS.live (F:FS):Role→Prop
 | .cell t k=>k∈F.ks t
 | _=>True
noncomputable def setO (l:List AV):AObj:=.dct (l.map fun k=>(k,.bool true))
noncomputable def cont (P:FP) (F:FS):Role→AObj
 | .self=>.ins w_EscapeFlow (F.adr .ns)
 | .ns=>.ns [(w_code,.ref P.code),(w_summaries,.ref P.sums),(w_held,.ref (F.adr (.tab .held))),(w_inside,.ref (F.adr (.tab .inside))),(w_sites,.ref (F.adr (.top .sites))),(w_gone,.ref (F.adr (.top .gone))),(w_summary,.ref (F.adr .sm)),(w_is_new,.bool F.new)]
 | .sm=>.ins w_Summary (F.adr .smns)
 | .smns=>.ns [(w_leaks,.ref (F.adr (.top .leaks))),(w_kept,.ref (F.adr (.top .kept))),(w_told,.ref (F.adr (.tab .told)))]
 | .tab t=>.dct ((F.ks t).map fun k=>(k,.ref (F.adr (.cell t k))))
 | .top s=>setO (F.S (.top s))
 | .cell t k=>setO (F.S (.cell t k))
noncomputable def intsW:List AV:=(List.range 18).map fun (k:Nat)=>.int ((k:Int) - 1)
noncomputable def keysW:List AV:=iKey :: (List.range 7).map fun (k:Nat)=>sKey (k:Int)
noncomputable def W:List AV:=intsW++keysW++keysW.map sTok++[bTok,oTok (.int 0),oTok (.int 1)]++[pr (.int (-1)) (.int 0),pr (.int (-1)) (.int 1),pr (.int 0) (.int 0),pr (.int 0) (.int 1),pr (.int 1) (.int 0),pr (.int 1) (.int 1)]
noncomputable def rolesW:List Role:=[.top .sites,.top .gone,.top .leaks,.top .kept]++W.map (.cell .held)++W.map (.cell .inside)++W.map (.cell .told)
noncomputable def logW:List (Role×AV):=rolesW.flatMap fun r=>W.map fun x=>(r,x)
theorem W_isD {x:AV} (h:x∈W):x.isD=true:=by
 have:W.all AV.isD=true:=by decide +kernel
 exact List.all_eq_true.mp this x h
theorem W_len:W.length=43:=by decide +kernel
theorem logW_len:logW.length=5719:=by decide +kernel
theorem nodup_len {α:Type}:∀ {l m:List α},l.Nodup→(∀ x∈l,x∈m)→l.length≤m.length
 | [],_,_,_=>Nat.zero_le _
 | a :: l,m,hn,hs=>by
  obtain ⟨m1,m2,rfl⟩:=List.append_of_mem (hs a (by simp))
  have hn':=List.nodup_cons.mp hn
  have:l.length≤(m1++m2).length:=nodup_len hn'.2 fun x hx=>by
   have:=hs x (by simp [hx])
   simp only [List.mem_append,List.mem_cons] at this ⊢
   rcases this with h | rfl | h
   ·exact .inl h
   ·exact absurd hx hn'.1
   ·exact .inr h
  simp at this ⊢; lia
structure FAt (P:FP) (st:Store) (F:FS):Prop where
 obj:∀ r,F.live r→st[F.adr r]?=some (cont P F r)
 inj:∀ r r',F.live r→F.live r'→F.adr r=F.adr r'→r=r'
 up:∀ r x,(r,x)∈F.log→P.U r x
 nd:F.log.Nodup
 lv:∀ t k x,(Role.cell t k,x)∈F.log→k∈F.ks t
 kn:∀ t,(F.ks t).Nodup
 kw:∀ t,∀ k∈F.ks t,k∈W
structure UOk (U:Role→AV→Prop):Prop where
 w:∀ r x,U r x→r∈rolesW∧x∈W
theorem FAt.log_len {P:FP} {st:Store} {F:FS} (h:FAt P st F) (u:UOk P.U):F.log.length≤5719:=by
 rw [← logW_len]
 refine nodup_len h.nd fun ⟨r,x⟩ hx=>?_
 have:=u.w r x (h.up r x hx)
 simp only [logW,List.mem_flatMap,List.mem_map]
 exact ⟨r,this.1,x,this.2,rfl⟩
theorem FAt.lt {P:FP} {st:Store} {F:FS} (h:FAt P st F) {r:Role} (l:F.live r):F.adr r < st.length:=by
 have:=h.obj r l
 exact (List.getElem?_eq_some_iff.mp this).1
noncomputable def FS.own (F:FS) (a:Nat):Prop:=∃ r,F.live r∧F.adr r=a
structure Ex (st:Store) (F:FS) (st':Store) (F':FS):Prop where
 len:st.length≤st'.length
 out:∀ a,a < st.length→¬ F.own a→st'[a]?=st[a]?
 own:∀ a,F'.own a→F.own a∨st.length≤a
 adr:∀ r,F.live r→F'.live r∧F'.adr r=F.adr r
 log:∃ l,F'.log=F.log++l∧(F'.new=false→l=[]∧F.new=false)∧(F'.new=true→F.new=true∨l≠[])
theorem Ex.refl (st:Store) (F:FS):Ex st F st F:=⟨Nat.le_refl _,fun _ _ _=>rfl,fun _ h=>.inl h,fun _ h=>⟨h,rfl⟩,[],by simp,fun h=>⟨rfl,h⟩,fun h=>.inl h⟩
theorem Ex.trans {a b c:Store} {F G H:FS} (x:Ex a F b G) (y:Ex b G c H):Ex a F c H:=by
 refine ⟨Nat.le_trans x.len y.len,fun i hi ho=>?_,fun i ho=>?_,fun r hr=>?_,?_⟩
 ·have hn:¬ G.own i:=fun z=>(x.own i z).elim ho fun w=>absurd hi (by lia)
  rw [y.out i (Nat.lt_of_lt_of_le hi x.len) hn,x.out i hi ho]
 ·rcases y.own i ho with z | z
  ·exact x.own i z
  ·exact .inr (Nat.le_trans x.len z)
 ·have:=x.adr r hr
  have:=y.adr r this.1
  exact ⟨this.1,by rw [this.2,(x.adr r hr).2]⟩
 ·obtain ⟨l,e,h1,h2⟩:=x.log
  obtain ⟨l',e',h1',h2'⟩:=y.log
  refine ⟨l++l',by rw [e',e,List.append_assoc],fun hn=>?_,fun hn=>?_⟩
  ·obtain ⟨rfl,z⟩:=h1' hn
   obtain ⟨rfl,z⟩:=h1 z
   exact ⟨rfl,z⟩
  ·rcases h2' hn with z | z
   ·rcases h2 z with z | z
    ·exact .inl z
    ·exact .inr (by simp [z])
   ·exact .inr (by simp [z])
theorem Ex.mem {a b:Store} {F G:FS} (x:Ex a F b G) {r:Role} {v:AV} (h:(r,v)∈F.log):(r,v)∈G.log:=by
 obtain ⟨l,e,_⟩:=x.log; rw [e]; simp [h]
theorem Ex.app {P:FP} {st:Store} {F:FS} (h:FAt P st F) (g:Store):Ex st F (st++g) F :=
 ⟨by simp,fun a ha _=>List.getElem?_append_left ha,fun _ h=>.inl h,fun _ h=>⟨h,rfl⟩,[],by simp,fun h=>⟨rfl,h⟩,fun h=>.inl h⟩
theorem FAt.app {P:FP} {st:Store} {F:FS} (h:FAt P st F) (g:Store):FAt P (st++g) F :=
 { h with obj:=fun r l=>by rw [List.getElem?_append_left (h.lt l)]; exact h.obj r l }
theorem FAt.upd {P:FP} {st:Store} {F F':FS} (h:FAt P st F) (r:Role) (l:F.live r) (ea:F'.adr=F.adr) (ek:F'.ks=F.ks) (oth:∀ r',r'≠r→cont P F' r'=cont P F r')
  (up:∀ r x,(r,x)∈F'.log→P.U r x) (nd:F'.log.Nodup) (lv:∀ t k x,(Role.cell t k,x)∈F'.log→k∈F'.ks t):FAt P (st.set (F.adr r) (cont P F' r)) F':=by
 have el:∀ r,F'.live r↔F.live r:=fun r=>by cases r <;> simp [FS.live,ek]
 refine ⟨fun r' l'=>?_,fun a b la lb e=>?_,up,nd,lv,ek ▸ h.kn,ek ▸ h.kw⟩
 ·rw [ea]
  by_cases e:r'=r
  ·subst e; rw [List.getElem?_set_self (h.lt l)]
  ·rw [List.getElem?_set_ne (fun z=>e (h.inj _ _ ((el _).mp l') l z.symm)),h.obj _ ((el _).mp l'),oth _ e]
 ·rw [ea] at e; exact h.inj a b ((el _).mp la) ((el _).mp lb) e
theorem S_add {F:FS} {r r':Role} {x:AV} {b:Bool}:FS.S { F with log:=F.log++[(r,x)],new:=b } r'=if r'=r then F.S r'++[x] else F.S r':=by
 simp only [FS.S,List.filterMap_append,List.filterMap_cons,List.filterMap_nil]
 by_cases e:r'=r
 ·subst e; simp
 ·have:¬ r=r':=fun z=>e z.symm
  simp [e,this]
theorem kget_set {l:List AV} {x:AV}:kget (l.map fun k=>(k,AV.bool true)) x=if x∈l then some (.bool true) else none:=by
 induction l with
 | nil=>rfl
 | cons a l ih =>
  simp only [List.map_cons,kget_n,kget_c,ih,List.mem_cons]
  by_cases e:a=x
  ·simp [e]
  ·have:¬ x=a:=fun z=>e z.symm
   simp [e,this]
theorem kput_set {l:List AV} {x:AV} (h:x ∉ l):kput (l.map fun k=>(k,AV.bool true)) x (.bool true)=(l++[x]).map fun k=>(k,AV.bool true):=by
 induction l with
 | nil=>rfl
 | cons a l ih =>
  simp only [List.mem_cons,not_or] at h
  have:¬ a=x:=fun z=>h.1 z.symm
  simp only [List.map_cons,kput_n,kput_c,this,if_false,ih h.2,List.cons_append]
theorem kget_ks {F:FS} {t:Tb} {x:AV}:∀ {l:List AV},kget (l.map fun k=>(k,AV.ref (F.adr (.cell t k)))) x=if x∈l then some (.ref (F.adr (.cell t x))) else none
 | []=>rfl
 | a :: l=>by
  simp only [List.map_cons,kget_n,kget_c,kget_ks,List.mem_cons]
  by_cases e:a=x
  ·simp [e]
  ·have:¬ x=a:=fun z=>e z.symm
   simp [e,this]
theorem kput_newP {v:AV} {x:AV}:∀ {d:List (AV×AV)},kget d x=none→kput d x v=d++[(x,v)]
 | [],_=>rfl
 | (a,b) :: l,h=>by
  by_cases e:a=x
  ·simp [kget_n,kget_c,e] at h
  ·simp only [kget_n,kget_c,e,if_false] at h
   simp only [kput_n,kput_c,e,if_false,kput_newP h,List.cons_append]
noncomputable def setRole:Role→Prop
 | .top _ | .cell ..=>True
 | _=>False
theorem FAt.note {P:FP} {st:Store} {F:FS} (h:FAt P st F) {r:Role} (l:F.live r) (hs:setRole r) {x:AV} (hx:(r,x) ∉ F.log) (hu:P.U r x) :
  FAt P ((st.set (F.adr r) (setO (F.S r++[x]))).set (F.adr .ns) (cont P { F with new:=true } .ns)) { F with log:=F.log++[(r,x)],new:=true } ∧
  Ex st F ((st.set (F.adr r) (setO (F.S r++[x]))).set (F.adr .ns) (cont P { F with new:=true } .ns)) { F with log:=F.log++[(r,x)],new:=true }:=by
 have c1:cont P { F with log:=F.log++[(r,x)] } r=setO (F.S r++[x]):=by
  cases r with
  | top s=>simp only [cont]; rw [show FS.S { F with log:=F.log++[(Role.top s,x)] } (.top s)=_ from S_add]; simp
  | cell t k=>simp only [cont]; rw [show FS.S { F with log:=F.log++[(Role.cell t k,x)] } (.cell t k)=_ from S_add]; simp
  | _=>cases hs
 have up':∀ r' y,(r',y)∈F.log++[(r,x)]→P.U r' y:=fun r' y hy=>by
  simp at hy
  rcases hy with hy | ⟨rfl,rfl⟩
  ·exact h.up _ _ hy
  ·exact hu
 have nd':(F.log++[(r,x)]).Nodup:=by
  rw [List.nodup_append]
  refine ⟨h.nd,by simp,fun a ha b hb=>?_⟩
  simp at hb; rintro rfl; exact hx (hb ▸ ha)
 have lv':∀ t k y,(Role.cell t k,y)∈F.log++[(r,x)]→k∈F.ks t:=fun t k y hy=>by
  simp at hy
  rcases hy with hy | ⟨rfl,rfl⟩
  ·exact h.lv _ _ _ hy
  ·exact l
 have h1:=h.upd (F':={ F with log:=F.log++[(r,x)] }) r l rfl rfl (fun r' e=>by
  have z:FS.S { F with log:=F.log++[(r,x)] } r'=_:=S_add
  cases r' <;> simp only [cont] <;> rw [z,if_neg e]) up' nd' lv'
 rw [c1] at h1
 have h2:=h1.upd (F':={ F with log:=F.log++[(r,x)],new:=true }) .ns trivial rfl rfl (fun r' e=>by
  cases r' <;> first | rfl | exact absurd rfl e) up' nd' lv'
 refine ⟨h2,⟨by simp,fun a ha ho=>?_,fun a ho=>.inl ?_,fun r hr=>⟨?_,rfl⟩,[(r,x)],rfl,fun z=>by simp at z,fun _=>.inr (by simp)⟩⟩
 ·rw [List.getElem?_set_ne (fun z=>ho ⟨.ns,trivial,z⟩),List.getElem?_set_ne (fun z=>ho ⟨r,l,z⟩)]
 ·obtain ⟨r,hr,e⟩:=ho
  exact ⟨r,by cases r <;> exact hr,e⟩
 ·cases r <;> exact hr
theorem FAt.add {P:FP} {st:Store} {F:FS} (h:FAt P st F) {t:Tb} {k:AV} (hk:k ∉ F.ks t) (hw:k∈W) {a:Nat} (ha:st[a]?=some (.dct [])) (ho:¬ F.own a) :
  ∃ F',And6 (F'.log=F.log) (k∈F'.ks t) (F'.adr (.cell t k)=a) (F'.new=F.new) (FAt P (st.set (F.adr (.tab t)) (.dct ((F.ks t).map (fun k=>(k,AV.ref (F.adr (.cell t k))))++[(k,.ref a)]))) F') (∀ st0:Store,st0.length≤a→Ex st0 F st F→Ex st0 F (st.set (F.adr (.tab t)) (.dct ((F.ks t).map (fun k=>(k,AV.ref (F.adr (.cell t k))))++[(k,.ref a)]))) F'):=by
 have hne:∀ {k'},k'∈F.ks t→k'≠k:=fun z e=>hk (e ▸ z)
 let F':FS:={ F with adr:=fun r=>if r=.cell t k then a else F.adr r,ks:=fun u=>if u=t then F.ks u++[k] else F.ks u }
 have el:∀ r,F'.live r↔F.live r∨r=.cell t k:=fun r=>by
  cases r with
  | cell u j =>
   by_cases e:u=t
   ·subst e; simp [FS.live,F']
   ·simp [FS.live,F',e]
  | _=>simp [FS.live]
 have ea:∀ r,F.live r→F'.adr r=F.adr r:=fun r l=>by
  have:r≠.cell t k:=fun z=>by subst z; exact hk l
  simp [F',this]
 have ek:F'.adr (.cell t k)=a:=by simp [F']
 have hl0:∀ x,(Role.cell t k,x) ∉ F.log:=fun x hx=>hk (h.lv _ _ _ hx)
 have hS:∀ r,F'.S r=F.S r:=fun r=>rfl
 have hlt:a < st.length:=(List.getElem?_eq_some_iff.mp ha).1
 refine ⟨F',rfl,?_,ek,rfl,⟨fun r l=>?_,fun r r' l l' e=>?_,h.up,h.nd,fun u j x hx=>?_,fun u=>?_,fun u j hj=>?_⟩,fun st0 h0 X=>⟨?_,fun b hb hb'=>?_,fun b hb=>?_,fun r l=>⟨(el r).mpr (.inl l),ea r l⟩,[],by simp [F'],fun z=>⟨rfl,z⟩,fun z=>.inl z⟩⟩
 ·show k∈F'.ks t; simp [F']
 ·by_cases e:r=.cell t k
  ·subst e
   rw [ek,List.getElem?_set_ne (fun z=>ho ⟨.tab t,trivial,z⟩),ha]
   show some (AObj.dct [])=some (setO (F'.S (.cell t k)))
   rw [hS]
   have:F.S (.cell t k)=[]:=List.eq_nil_iff_forall_not_mem.mpr fun x hx=>hl0 x (mem_S.mp hx)
   rw [this]; rfl
  ·have l0:F.live r:=((el r).mp l).resolve_right e
   rw [ea r l0]
   by_cases e2:r=.tab t
   ·subst e2
    rw [List.getElem?_set_self (h.lt l0)]
    show some _=some (AObj.dct ((F'.ks t).map fun k=>(k,AV.ref (F'.adr (.cell t k)))))
    have:F'.ks t=F.ks t++[k]:=by simp [F']
    rw [this,List.map_append]
    congr 3
    ·refine List.map_congr_left fun j hj=>?_
     rw [ea (.cell t j) hj]
    ·simp [ek]
   ·rw [List.getElem?_set_ne (fun z=>e2 (h.inj _ _ l0 trivial z.symm)),h.obj _ l0]
    congr 1
    cases r with
    | self=>simp only [cont]; rw [ea .ns trivial]
    | ns=>simp only [cont]; rw [ea (.tab .held) trivial,ea (.tab .inside) trivial,ea (.top .sites) trivial,ea (.top .gone) trivial,ea .sm trivial]
    | sm=>simp only [cont]; rw [ea .smns trivial]
    | smns=>simp only [cont]; rw [ea (.top .leaks) trivial,ea (.top .kept) trivial,ea (.tab .told) trivial]
    | tab u =>
     have hu:¬ u=t:=fun z=>e2 (by rw [z])
     have:F'.ks u=F.ks u:=by simp [F',hu]
     simp only [cont,this]
     congr 1
     refine List.map_congr_left fun j hj=>?_
     rw [ea (.cell u j) hj]
    | top s=>rfl
    | cell u j=>rfl
 ·have big:∀ r,F.live r→F'.adr r=a→False:=fun r l z=>by
   rw [ea r l] at z; exact ho ⟨r,l,z⟩
  rcases (el r).mp l with l0 | rfl <;> rcases (el r').mp l' with l1 | rfl
  ·rw [ea _ l0,ea _ l1] at e; exact h.inj _ _ l0 l1 e
  ·exact (big r l0 (e.trans ek)).elim
  ·exact (big r' l1 (e.symm.trans ek)).elim
  ·rfl
 ·have:=h.lv u j x hx
  by_cases e:u=t
  ·subst e; simp [F',this]
  ·simp [F',e,this]
 ·by_cases e:u=t
  ·subst e
   simp only [F',if_true]
   rw [List.nodup_append]
   exact ⟨h.kn u,by simp,fun x hx y hy=>by simp at hy; subst hy; exact hne hx⟩
  ·simp only [F',e,if_false]; exact h.kn u
 ·by_cases e:u=t
  ·subst e
   simp only [F',if_true] at hj
   simp at hj
   rcases hj with hj | rfl
   ·exact h.kw u j hj
   ·exact hw
  ·simp only [F',e,if_false] at hj; exact h.kw u j hj
 ·rw [List.length_set]; exact X.len
 ·rw [List.getElem?_set_ne (fun z=>hb' ⟨.tab t,trivial,z⟩)]; exact X.out b hb hb'
 ·obtain ⟨r,l,e⟩:=hb
  rcases (el r).mp l with l0 | rfl
  ·exact .inl ⟨r,l0,by rw [← e,ea r l0]⟩
  ·exact .inr (by rw [← e,ek]; exact h0)
end
end Mine
namespace Mine
section
set_option maxRecDepth 10000
theorem mem_set_kget {l:List AV} {x:AV}:(kget (l.map fun k=>(k,AV.bool true)) x).isSome=decide (x∈l):=by
 rw [kget_set]; by_cases e:x∈l <;> simp [e]
theorem memF_dct {st:Store} {a:AV} {i:Nat} {d:List (AV×AV)} {Q:Bool→Prop} (ha:a.isD=true) (h:st[i]?=some (.dct d)) (k:Q (kget d a).isSome):memF st a (.ref i) Q:=by
 refine ⟨ha,?_⟩
 show objM st[i]? _ _ _
 rw [h]
 exact k
theorem nes {op:COp} {st:Store} {a b:Nat} {Q:Bool→Prop} (o:op=.ne) (k:Q (!Nat.beq a b)):cmpF op st (.str a) (.str b) Q:=by
 subst o
 have:decide (a=b)=Nat.beq a b:=by
  cases e:Nat.beq a b
  ·exact decide_eq_false fun z=>by subst z; simp at e
  ·exact decide_eq_true (Nat.eq_of_beq_eq_true e)
 show neF _ _ _ _
 unfold neF
 show Q (!decide (a=b))
 rw [this]; exact k
theorem cmp_notin {st:Store} {a b:AV} {Q:Bool→Prop} (h:memF st a b fun r=>Q (!r)):cmpF .notin st a b Q:=h
theorem cmp_isin {st:Store} {a b:AV} {Q:Bool→Prop} (h:memF st a b Q):cmpF .isin st a b Q:=h
theorem setI_dct {st:Store} {i:Nat} {d:List (AV×AV)} {k v:AV} (hk:k.isD=true) (h:st[i]?=some (.dct d)) (hl:d.length < 2 ^ 20):setI st (.ref i) k v=some (st.set i (.dct (kput d k v))):=by
 show objO st[i]? _ _ _=_
 rw [h]
 exact if_pos ⟨hk,hl⟩
theorem setA_ns {st:Store} {i d:Nat} {c:Nat} {fs:List (Nat×AV)} {x:Nat} {v:AV} (h:st[i]?=some (.ins c d)) (h2:st[d]?=some (.ns fs)) (hl:fs.length < 1000):setA st (.ref i) x v=some (st.set d (.ns (put fs x v))):=by
 show insO st[i]? _=_
 rw [h]
 show nsO st[d]? _=_
 rw [h2]
 exact if_pos hl
theorem getA_ns {st:Store} {i d:Nat} {c:Nat} {fs:List (Nat×AV)} {x:Nat} {v:AV} (h:st[i]?=some (.ins c d)) (h2:st[d]?=some (.ns fs)) (hv:get fs x=some v):getA st (.ref i) x=some v:=by
 show insO st[i]? _=_
 rw [h]
 show nsO st[d]? _=_
 rw [h2]
 exact hv
@[reducible] noncomputable def Vd (d:Nat):MEnv:=⟨mnames,glob,sorts,callP mprog d,fun c f=>(fns c f).isSome⟩
theorem Vd_eq (d:Nat):Vd d=⟨mnames,glob,sorts,callW mprog d,fun c f=>(fns c f).isSome⟩:=by
 unfold Vd; rw [callP_eq]
theorem call_df {c f:Nat} {ps:List Nat} {ds:List AV} {body:PS} {args:List AV} {m:Loc} {st:Store} {Q:AV→Store→Prop} {d:Nat} (e:fns c f=some (.df ps ds body)) (b:bindF ps ds args=some m)
  (k:exW (Vd d) body m st (dfK Q)):callP mprog (d + 1) c f args st Q:=by
 rw [Vd_eq] at k
 rw [callP_eq]
 exact ⟨_,e,m,b,k⟩
theorem call_cls {c f kk:Nat} {args:List AV} {st:Store} {Q:AV→Store→Prop} {d:Nat} (e:fns c f=some (.cls kk))
  (k:callP mprog d kk w___init__ (.ref (st.length + 1) :: args) (st++[.ns [],.ins kk st.length]) (clsK (st.length + 1) Q)):callP mprog (d + 1) c f args st Q:=by
 rw [callP_eq] at k
 rw [callP_eq]
 exact ⟨_,e,k⟩
theorem note_spec {P:FP} {st:Store} {F:FS} {r:Role} {x:AV} {d:Nat} {Q:AV→Store→Prop} (u:UOk P.U) (h:FAt P st F) (l:F.live r) (hs:setRole r) (hu:P.U r x)
  (k:∀ st' F',FAt P st' F'→Ex st F st' F'→(r,x)∈F'.log→Q .none st'):callP mprog (d + 1) w_EscapeFlow w_note [.ref (F.adr .self),.ref (F.adr r),x] st Q:=by
 refine call_df rfl rfl ?_
 have hx:x.isD=true:=W_isD (u.w _ _ hu).2
 have hc:st[F.adr r]?=some (setO (F.S r)):=by
  have:=h.obj r l
  cases r <;> first | exact this | cases hs
 refine cmp_notin (memF_dct hx hc ?_)
 rw [mem_set_kget]
 by_cases e:x∈F.S r
 ·simp only [e,decide_true,Bool.not_true]
  exact k st F h (Ex.refl _ _) (mem_S.mp e)
 ·simp only [e,decide_false,Bool.not_false]
  have hlen:((F.S r).map fun k=>(k,AV.bool true)).length < 2 ^ 20:=by
   have:=S_len F r; have:=h.log_len u; rw [List.length_map]; lia
  refine xI (setI_dct hx hc hlen) ?_
  rw [kput_set e]
  have hn:=h.note l hs (fun z=>e (mem_S.mpr z)) hu
  have h1:=hn.1.obj .self trivial
  have hr1:F.adr r≠F.adr .self:=fun z=>by have:=h.inj r .self l trivial z; subst this; cases hs
  have hr2:F.adr r≠F.adr .ns:=fun z=>by have:=h.inj r .ns l trivial z; subst this; cases hs
  refine xI (setA_ns (by rw [List.getElem?_set_ne hr1]; exact h.obj .self trivial) (by rw [List.getElem?_set_ne hr2]; exact h.obj .ns trivial) (by show (8:Nat) < 1000; lia)) ?_
  exact k _ _ hn.1 hn.2 (by simp)
end
end Mine
namespace Mine
section
set_option maxRecDepth 10000
theorem m_dct {st:Store} {i:Nat} {d:List (AV×AV)} (h:st[i]?=some (.dct d)) {A:Nat→Nat→Prop} {B C:Prop} (k:C):objI st[i]? A B C:=by
 rw [h]; exact k
theorem m_lst {st:Store} {i:Nat} {d:List AV} (h:st[i]?=some (.lst d)) {A:Nat→Nat→Prop} {B C:Prop} (k:B):objI st[i]? A B C:=by
 rw [h]; exact k
theorem m_ins {st:Store} {i:Nat} {c d:Nat} (h:st[i]?=some (.ins c d)) {A:Nat→Nat→Prop} {B C:Prop} (k:A c d):objI st[i]? A B C:=by
 rw [h]; exact k
theorem src_lst {st:Store} {i:Nat} {l:List AV} {Q:List AV→Option Nat→Prop} (h:st[i]?=some (.lst l)) (k:Q l (some i)):srcF .val st (.ref i) Q:=by
 show objM st[i]? _ _ _
 rw [h]; exact k
theorem src_dct {st:Store} {i:Nat} {d:List (AV×AV)} {Q:List AV→Option Nat→Prop} (h:st[i]?=some (.dct d)) (k:Q (d.map (·.1)) (some i)):srcF .val st (.ref i) Q:=by
 show objM st[i]? _ _ _
 rw [h]; exact k
theorem for_inv (J:List AV→Loc→Store→Prop) {step:AV→Loc→Store→(Fl→Loc→Store→Prop)→Prop} {keep:Store→Prop} {l:List AV} {m:Loc} {st:Store} {Q:Fl→Loc→Store→Prop}
  (hk:∀ done m st,J done m st→keep st)
  (hs:∀ done x rest,l=done++x :: rest→∀ m st,J done m st→∀ Q:Fl→Loc→Store→Prop,(∀ m' st',J (done++[x]) m' st'→Q .next m' st'∧Q .cont m' st')→step x m st Q)
  (h0:J [] m st) (k:∀ m' st',J l m' st'→Q .next m' st'):forW step keep l m st Q:=by
 suffices H:∀ rest done m st,l=done++rest→J done m st→forW step keep rest m st Q from H l [] m st rfl h0
 intro rest
 induction rest with
 | nil=>intro done m st e j; rw [List.append_nil] at e; subst e; exact ⟨hk _ _ _ j,k _ _ j⟩
 | cons x rest ih =>
  intro done m st e j
  refine ⟨hk _ _ _ j,hs done x rest e m st j _ fun m' st' j'=>?_⟩
  have:=ih (done++[x]) m' st' (by simp [e]) j'
  exact ⟨this,this⟩
noncomputable def cmN2 (acc:List AV) (Q:List AV→Store→Prop) (v:AV) (s2:Store):Prop:=acc.length < 2 ^ 20∧Q (acc++[v]) s2
noncomputable def cmN (elt:AV→Store→(AV→Store→Prop)→Prop) (x:AV) (acc:List AV) (Q:List AV→Store→Prop) (c:AV) (s1:Store):Prop:=boolM c (elt x s1 (cmN2 acc Q)) (Q acc s1)
theorem comp_inv (J:List AV→List AV→Store→Prop) {cond elt:AV→Store→(AV→Store→Prop)→Prop} {keep:Store→Prop} {l:List AV} {st:Store} {Q:List AV→Store→Prop}
  (hk:∀ done acc st,J done acc st→keep st)
  (hs:∀ done x rest,l=done++x :: rest→∀ acc st,J done acc st→∀ Q:List AV→Store→Prop,(∀ acc' st',J (done++[x]) acc' st'→Q acc' st') →
   cond x st (cmN elt x acc Q))
  (h0:J [] [] st) (k:∀ acc st',J l acc st'→Q acc st'):compW cond elt keep l st [] Q:=by
 suffices H:∀ rest done acc st,l=done++rest→J done acc st→compW cond elt keep rest st acc Q from H l [] [] st rfl h0
 intro rest
 induction rest with
 | nil=>intro done acc st e j; rw [List.append_nil] at e; subst e; exact ⟨hk _ _ _ j,k _ _ j⟩
 | cons x rest ih =>
  intro done acc st e j
  exact ⟨hk _ _ _ j,hs done x rest e acc st j (fun acc' st'=>compW cond elt keep rest st' acc' Q) fun acc' st' j'=>ih (done++[x]) acc' st' (by simp [e]) j'⟩
theorem while_inv (J JT:Nat→Loc→Store→Prop) (JF:Loc→Store→Prop) {test:Loc→Store→(AV→Store→Prop)→Prop} {body:Loc→Store→(Fl→Loc→Store→Prop)→Prop} {Q:Fl→Loc→Store→Prop}
  (ht:∀ n m st,J n m st→∀ K:AV→Store→Prop,(∀ s1,JT n m s1→K (.bool true) s1)→(∀ s1,JF m s1→K (.bool false) s1)→test m st K)
  (hb:∀ n m st,JT n m st→∀ Q:Fl→Loc→Store→Prop,(∀ n' m' st',n' < n→J n' m' st'→Q .next m' st'∧Q .cont m' st')→body m st Q)
  (k:∀ m st,JF m st→Q .next m st) {n:Nat} {m:Loc} {st:Store} (h0:J n m st):∃ k,whileW test body k m st Q:=by
 suffices H:∀ k n m st,n < k→J n m st→whileW test body k m st Q from ⟨n + 1,H _ n m st (Nat.lt_succ_self _) h0⟩
 intro k'
 induction k' with
 | zero=>intro n m st hn; lia
 | succ k' ih =>
  intro n m st hn j
  refine ht n m st j _ (fun s1 z=>?_) fun s1 z=>k _ _ z
  refine hb n m s1 z _ fun n' m' st' hl j'=>?_
  have:=ih n' m' st' (by lia) j'
  exact ⟨this,this⟩
theorem get_put_eq {m:Loc} {x:Nat} {v:AV}:get (put m x v) x=some v:=by
 induction m with
 | nil=>simp [put_n,put_c,get_n,get_c]
 | cons p m ih =>
  obtain ⟨y,u⟩:=p
  simp only [put_n,put_c]
  by_cases e:Nat.beq y x=true
  ·simp [get_n,get_c,e]
  ·have e:Nat.beq y x=false:=Bool.eq_false_iff.mpr e
   simp [get_n,get_c,e,ih]
theorem get_put_ne {m:Loc} {x y:Nat} {v u:AV} (h:Nat.beq x y=false) (hg:get m y=some u):get (put m x v) y=some u:=by
 induction m with
 | nil=>simp [get_n,get_c] at hg
 | cons p m ih =>
  obtain ⟨z,w⟩:=p
  simp only [put_n,put_c]
  by_cases e:Nat.beq z x=true
  ·have e0:=Nat.eq_of_beq_eq_true e; subst e0
   simp only [e,cond_true,get_n,get_c,h,cond_false] at hg ⊢; exact hg
  ·have e:Nat.beq z x=false:=Bool.eq_false_iff.mpr e
   simp only [e,cond_false,get_n,get_c] at hg ⊢
   by_cases e2:Nat.beq z y=true
   ·simp only [e2,cond_true] at hg ⊢; exact hg
   ·have e2:Nat.beq z y=false:=Bool.eq_false_iff.mpr e2
    simp only [e2,cond_false] at hg ⊢; exact ih hg
theorem FAt.ks_len {P:FP} {st:Store} {F:FS} (h:FAt P st F) (t:Tb):(F.ks t).length≤43:=by
 rw [← W_len]; exact nodup_len (h.kn t) (h.kw t)
theorem setdef {P:FP} {st:Store} {F:FS} {t:Tb} {k:AV} {Q:AV→Store→Prop} (h:FAt P st F) (hk:k∈W)
  (kk:∀ st' F',FAt P st' F'→Ex st F st' F'→k∈F'.ks t→F'.log=F.log→Q (.ref (F'.adr (.cell t k))) st'):dctF mnames w_setdefault (F.adr (.tab t)) (st++[.dct []]) [k,.ref st.length] Q:=by
 have ho:=(h.app [.dct []]).obj (.tab t) trivial
 refine ⟨_,ho,?_⟩
 show k.isD=true∧((F.ks t).map fun k=>(k,AV.ref (F.adr (.cell t k)))).length < 2 ^ 20∧_
 refine ⟨W_isD hk,?_,?_⟩
 ·have:=h.ks_len t; rw [List.length_map]; lia
 ·rw [kget_ks]
  by_cases e:k∈F.ks t
  ·simp only [e,if_true]
   exact kk _ F (h.app _) (Ex.app h _) e rfl
  ·simp only [e,if_false]
   have hn:¬ F.own st.length:=fun ⟨r,l,z⟩=>by have:=h.lt l; lia
   obtain ⟨F',h1,h2,h3,h4,h5,h6⟩:=(h.app [.dct []]).add e hk (a:=st.length) (by simp) hn
   rw [kput_newP (by rw [kget_ks]; simp [e])]
   have:=kk _ F' h5 (h6 st (Nat.le_refl _) (Ex.app h _)) h2 h1
   rw [h3] at this; exact this
end
end Mine
namespace Mine
section
set_option maxRecDepth 10000
theorem own_out {st st':Store} {F F':FS} (x:Ex st F st' F') {i:Nat} {o:AObj} (h:st[i]?=some o) (ho:¬ F.own i):st'[i]?=some o:=by
 rw [x.out i (List.getElem?_eq_some_iff.mp h).1 ho,h]
theorem own_not {st st':Store} {F F':FS} (x:Ex st F st' F') {i:Nat} (h:i < st.length) (ho:¬ F.own i):¬ F'.own i:=fun z=>(x.own i z).elim ho fun w=>by lia
theorem own_new {P:FP} {st:Store} {F:FS} (h:FAt P st F) {i:Nat} (hi:st.length≤i):¬ F.own i:=fun ⟨r,l,e⟩=>by have:=h.lt l; lia
theorem set_new {st:Store} {o:AObj}:(st++[o])[st.length]?=some o:=by simp
theorem for_flow {P:FP} {st:Store} {F:FS} {i:Nat} {l:List AV} (I:Loc→Prop) (R:AV→FS→Prop) {step:AV→Loc→Store→(Fl→Loc→Store→Prop)→Prop} {m:Loc} {Q:Fl→Loc→Store→Prop}
  (h:FAt P st F) (hi:st[i]?=some (.lst l)) (hio:¬ F.own i) (mono:∀ x s G s' G',Ex s G s' G'→R x G→R x G')
  (hs:∀ x∈l,∀ m st1 F1,I m→FAt P st1 F1→Ex st F st1 F1→∀ Q:Fl→Loc→Store→Prop,(∀ m' st' F',I m'→FAt P st' F'→Ex st1 F1 st' F'→R x F'→Q .next m' st'∧Q .cont m' st')→step x m st1 Q)
  (hm:I m) (k:∀ m' st' F',I m'→FAt P st' F'→Ex st F st' F'→(∀ x∈l,R x F')→Q .next m' st'):forW step (keepF (some i) st) l m st Q:=by
 refine for_inv (fun done m st'=>I m∧∃ F',FAt P st' F'∧Ex st F st' F'∧∀ x∈done,R x F') (fun done m st' ⟨_,F',h',x,_⟩=>?_) (fun done x rest e m st1 ⟨im,F1,h1,x1,r1⟩ Q kk=>?_) ⟨hm,F,h,Ex.refl _ _,by simp⟩ fun m' st' ⟨im,F',h',x,r⟩=>k m' st' F' im h' x r
 ·show st'[i]?=st[i]?
  rw [own_out x hi hio,hi]
 ·refine hs x (by rw [e]; simp) m st1 F1 im h1 x1 Q fun m' st' F' im' h' x' r'=>kk m' st' ⟨im',F',h',x1.trans x',fun y hy=>?_⟩
  simp at hy
  rcases hy with hy | rfl
  ·exact mono _ _ _ _ _ x' (r1 y hy)
  ·exact r'
theorem give_spec {P:FP} {st:Store} {F:FS} {d:Nat} {i:Nat} {toks:List AV} {j:Int} {Q:AV→Store→Prop} (u:UOk P.U) (h:FAt P st F) (hj:AV.int j∈W) (hi:st[i]?=some (.lst toks)) (hio:¬ F.own i) (hU:∀ t∈toks,P.U (.cell .held (.int j)) t)
  (k:∀ st' F',FAt P st' F'→Ex st F st' F'→(∀ t∈toks,(Role.cell .held (.int j),t)∈F'.log)→Q .none st'):callP mprog (d + 2) w_EscapeFlow w_give [.ref (F.adr .self),.int j,.ref i] st Q:=by
 refine call_df rfl rfl ?_
 refine xI (getA_ns (h.obj .self trivial) (h.obj .ns trivial) rfl) ?_
 refine m_dct (h.obj (.tab .held) trivial) ⟨rfl,?_⟩
 refine setdef h hj fun st1 F1 h1 x1 l1 _=>?_
 have es:F1.adr .self=F.adr .self:=(x1.adr .self trivial).2
 have hi1:=own_out x1 hi hio
 have hio1:=own_not x1 (List.getElem?_eq_some_iff.mp hi).1 hio
 refine src_lst hi1 ?_
 refine for_flow (fun m=>get m w_self=some (.ref (F.adr .self))∧get m w_held=some (.ref (F1.adr (.cell .held (.int j))))) (fun t G=>(Role.cell .held (.int j),t)∈G.log) h1 hi1 hio1 (fun x _ _ _ _ e=>e.mem) (fun x hx m st2 F2 im h2 x2 Q kk=>?_) ⟨rfl,rfl⟩ fun m' st' F' _ h' x' r=>k st' F' h' (x1.trans x') r
 have es2:F2.adr .self=F.adr .self:=by rw [(x2.adr .self trivial).2,es]
 have l2:=x2.adr (.cell .held (.int j)) l1
 refine xI (get_put_ne rfl im.1) ?_
 rw [← es2]
 refine m_ins (h2.obj .self trivial) ⟨rfl,⟨_,h2.obj .ns trivial,rfl⟩,?_⟩
 refine xI (get_put_ne rfl im.2) ?_
 refine xI get_put_eq ?_
 rw [← l2.2]
 refine note_spec u h2 l2.1 trivial (hU x hx) fun st3 F3 h3 x3 r3=>?_
 exact (kk _ _ _ ⟨get_put_ne rfl im.1,get_put_ne rfl im.2⟩ h3 x3 r3).1
end
end Mine
namespace Mine
section
set_option maxRecDepth 10000
noncomputable def isTok (t:AV):Prop:=t=bTok∨(∃ i,t=oTok (.int i))∨∃ k,t=sTok k
noncomputable def TW (t:AV):Prop:=isTok t∧t∈W
noncomputable abbrev MP:=Role→AV→Prop
noncomputable def FS.M (F:FS):MP:=fun r x=>(r,x)∈F.log
noncomputable def inTok (i:AV):AV:=if i=.int (-1) then bTok else oTok i
inductive Ld (M:MP):AV→AV→Prop
 | inn {k u}:M (.cell .inside k) u→Ld M (sTok k) u
 | out {k}:M (.top .gone) k→Ld M (sTok k) bTok
 | selfB:Ld M bTok bTok
 | selfO {i}:Ld M (oTok (.int i)) (oTok (.int i))
 | kept {i o}:M (.top .kept) (pr i (.int o))→Ld M (oTok (.int o)) (inTok i)
inductive Rch (M:MP):AV→AV→Prop
 | refl (t):Rch M t t
 | step {t u v}:Rch M t u→Ld M u v→Rch M t v
theorem Ld.mono {M N:MP} (h:∀ r x,M r x→N r x) {t u:AV} (x:Ld M t u):Ld N t u:=by
 cases x with
 | inn a=>exact .inn (h _ _ a)
 | out a=>exact .out (h _ _ a)
 | selfB=>exact .selfB
 | selfO=>exact .selfO
 | kept a=>exact .kept (h _ _ a)
theorem Rch.mono {M N:MP} (h:∀ r x,M r x→N r x) {t u:AV} (x:Rch M t u):Rch N t u:=by
 induction x with
 | refl=>exact .refl _
 | step _ a ih=>exact .step ih (a.mono h)
structure UTk (U:MP):Prop where
 ok:UOk U
 ins:∀ k x,U (.cell .inside k) x→isTok x
 held:∀ k x,U (.cell .held k) x→isTok x
 kp:∀ x,U (.top .kept) x→Ex2 fun (i o:Int)=>x=pr (.int i) (.int o)∧(i=-1∨oTok (.int i)∈W)
theorem bTok_TW:TW bTok:=⟨.inl rfl,by decide +kernel⟩
theorem Ld.tw {U:MP} (u:UTk U) {t x:AV} (h:Ld U t x) (ht:TW t):TW x:=by
 cases h with
 | inn a=>exact ⟨u.ins _ _ a,(u.ok.w _ _ a).2⟩
 | out a=>exact bTok_TW
 | selfB=>exact ht
 | selfO=>exact ht
 | kept a =>
  obtain ⟨i,o,e,z⟩:=u.kp _ a
  simp at e
  obtain ⟨rfl,rfl⟩:=e
  unfold inTok
  by_cases e:i=-1
  ·subst e; exact bTok_TW
  ·rw [if_neg (by simp [e])]
   exact ⟨.inr (.inl ⟨i,rfl⟩),z.resolve_left e⟩
noncomputable def ladd (l:List AV) (x:AV):List AV:=if x∈l then l else l++[x]
theorem mem_ladd {l:List AV} {x y:AV}:y∈ladd l x↔y∈l∨y=x:=by
 unfold ladd; by_cases e:x∈l
 ·rw [if_pos e]; exact ⟨.inl,fun h=>h.elim id fun z=>z ▸ e⟩
 ·rw [if_neg e]; simp
theorem nodup_ladd {l:List AV} {x:AV} (h:l.Nodup):(ladd l x).Nodup:=by
 unfold ladd; by_cases e:x∈l
 ·rw [if_pos e]; exact h
 ·rw [if_neg e,List.nodup_append]; exact ⟨h,by simp,fun a ha b hb=>by simp at hb; subst hb; rintro rfl; exact e ha⟩
theorem kput_ladd {l:List AV} {x:AV}:kput (l.map fun k=>(k,AV.bool true)) x (.bool true)=(ladd l x).map fun k=>(k,AV.bool true):=by
 unfold ladd; by_cases e:x∈l
 ·rw [if_pos e]
  induction l with
  | nil=>simp at e
  | cons a l ih =>
   by_cases ea:a=x
   ·simp [kput_n,kput_c,ea]
   ·have:x∈l:=by simp at e; exact e.resolve_left fun z=>ea z.symm
    simp [kput_n,kput_c,ea,ih this]
 ·rw [if_neg e]; exact kput_set e
theorem set_mid {st g:Store} {o o':AObj}:(st++o :: g).set st.length o'=st++o' :: g:=by simp
theorem get_mid {st g:Store} {o:AObj}:(st++o :: g)[st.length]?=some o:=by simp
theorem w_len {l:List AV} (hn:l.Nodup) (hw:∀ x∈l,x∈W):l.length≤43:=by rw [← W_len]; exact nodup_len hn hw
theorem setI_mid {st g:Store} {l:List AV} {x:AV} (hn:l.Nodup) (hw:∀ x∈l,x∈W) (hx:x∈W):setI (st++setO l :: g) (.ref st.length) x (.bool true)=some (st++setO (ladd l x) :: g):=by
 rw [setI_dct (W_isD hx) (show (st++setO l :: g)[st.length]?=some (.dct (l.map fun k=>(k,AV.bool true))) from get_mid) (by have:=w_len hn hw; rw [List.length_map]; lia),kput_ladd,set_mid]; rfl
theorem S_nodup {F:FS} (h:F.log.Nodup) (r:Role):(F.S r).Nodup:=by
 simp only [FS.S]
 revert h
 generalize F.log=l
 induction l with
 | nil=>simp
 | cons p l ih =>
  intro h
  have h':=List.nodup_cons.mp h
  by_cases e:p.1=r
  ·simp only [List.filterMap_cons,e,if_true]
   refine List.nodup_cons.mpr ⟨fun z=>?_,ih h'.2⟩
   obtain ⟨⟨a,b⟩,q1,q2⟩:=List.mem_filterMap.mp z
   simp at q2
   refine h'.1 ?_
   have:p=(a,b):=by cases p; simp at e; simp [e,q2]
   rw [this]; exact q1
  ·simp only [List.filterMap_cons,e,if_false]
   exact ih h'.2
theorem get_cell {P:FP} {st:Store} {F:FS} {t:Tb} {k:AV} {Q:AV→Store→Prop} (h:FAt P st F) (hk:k.isD=true)
  (kk:∀ a items,(st++[.dct []])[a]?=some (setO items)→(a < st.length∧F.own a∨a=st.length)→(∀ x,x∈items↔(Role.cell t k,x)∈F.log)→items.Nodup→Q (.ref a) (st++[.dct []])):dctF mnames w_get (F.adr (.tab t)) (st++[.dct []]) [k,.ref st.length] Q:=by
 refine ⟨_,(h.app _).obj (.tab t) trivial,?_⟩
 show k.isD=true∧_
 refine ⟨hk,?_⟩
 rw [kget_ks]
 by_cases e:k∈F.ks t
 ·simp only [e,if_true,Option.getD_some]
  exact kk _ _ ((h.app _).obj (.cell t k) e) (.inl ⟨h.lt (r:=.cell t k) e,.cell t k,e,rfl⟩) (fun x=>mem_S) (S_nodup h.nd _)
 ·simp only [e,if_false,Option.getD_none]
  exact kk _ [] (by simp [setO]) (.inr rfl) (fun x=>by simp; exact fun z=>e (h.lv _ _ _ z)) .nil
theorem isD_sTok {k:AV} (h:(sTok k).isD=true):k.isD=true:=by
 replace h:((true && true && (k.isD0 && true && true)) && Nat.ble (max (0 + 1) (max (k.depth + 1) 0)) 6)=true:=h
 simp only [Bool.and_eq_true,Bool.true_and,Bool.and_true] at h
 exact Bool.and_eq_true_iff.mpr ⟨h.1,Nat.ble_eq_true_of_le (by have:=Nat.le_of_ble_eq_true h.2; lia)⟩
theorem setO_keys {l:List AV}:(l.map fun k=>(k,AV.bool true)).map (·.1)=l:=by induction l <;> simp_all
theorem bi_list {st:Store} {a:AV} {Q:AV→Store→Prop} (h:srcF .val st a fun l _=>l.length < 2 ^ 20∧Q (.ref st.length) (st++[.lst l])):biF (fun _=>.none) .list st [a] Q:=h
theorem mid_ne {st g:Store} {o o':AObj} {a:Nat} (h:a≠st.length):(st++o :: g)[a]?=(st++o' :: g)[a]?:=by
 rw [← set_mid (o:=o') (o':=o),List.getElem?_set_ne (fun e=>h e.symm)]
theorem getA_sm {P:FP} {st:Store} {F:FS} (h:FAt P st F):getA st (.ref (F.adr .self)) w_summary=some (.ref (F.adr .sm)):=getA_ns (h.obj .self trivial) (h.obj .ns trivial) rfl
theorem loaded_spec {P:FP} {st:Store} {F:FS} {d:Nat} {i:Nat} {toks:List AV} {Q:AV→Store→Prop} (u:UTk P.U) (h:FAt P st F) (hi:st[i]?=some (.lst toks)) (ht:∀ t∈toks,TW t)
  (k:∀ g a l,(st++g)[a]?=some (.lst l)→st.length≤a→(∀ x,x∈l↔∃ t∈toks,Ld F.M t x)→l.Nodup→Q (.ref a) (st++g)):callP mprog (d + 1) w_EscapeFlow w_loaded [.ref (F.adr .self),.ref i] st Q:=by
 refine call_df rfl rfl ?_
 have tw:∀ t∈toks,∀ x,Ld F.M t x→x∈W:=fun t h1 x h2=>((h2.mono h.up).tw u (ht t h1)).2
 refine src_lst (by rw [List.getElem?_append_left (List.getElem?_eq_some_iff.mp hi).1]; exact hi) ?_
 refine for_inv (fun done m st'=>(get m w_self=some (.ref (F.adr .self))∧get m w_found=some (.ref st.length))∧Ex2 fun l g=>st'=st++setO l :: g∧l.Nodup∧∀ x,x∈l↔∃ t∈done,Ld F.M t x) ?_ ?_ ⟨⟨rfl,rfl⟩,[],[],rfl,.nil,by simp⟩ ?_
 ·rintro done m st' ⟨_,l,g,rfl,_⟩
  show (st++setO l :: g)[i]?=(st++[setO []])[i]?
  rw [List.getElem?_append_left (List.getElem?_eq_some_iff.mp hi).1,List.getElem?_append_left (List.getElem?_eq_some_iff.mp hi).1]
 ·intro done x rest e m st' hI Q kk
  obtain ⟨⟨m1,m2⟩,l,g,rfl,hn,hl⟩:=hI
  have hx:x∈toks:=by rw [e]; simp
  have hd:∀ t∈done,t∈toks:=fun t z=>by rw [e]; simp [z]
  have lw:∀ y∈l,y∈W:=fun y hy=>by obtain ⟨t,h1,h2⟩:=(hl y).mp hy; exact tw t (hd t h1) y h2
  refine xI get_put_eq ?_
  obtain ⟨tk,xw⟩:=ht x hx
  have fin:∀ l':List AV,l'.Nodup→(∀ y,y∈l'↔y∈l∨Ld F.M x y)→l'.Nodup∧∀ y,y∈l'↔∃ t∈done++[x],Ld F.M t y:=fun l' hn' hl'=>⟨hn',fun y=>by
   rw [hl',hl]
   constructor
   ·rintro (⟨t,h1,h2⟩ | h2)
    ·exact ⟨t,by simp [h1],h2⟩
    ·exact ⟨x,by simp,h2⟩
   ·rintro ⟨t,h1,h2⟩
    simp at h1
    rcases h1 with h1 | rfl
    ·exact .inl ⟨t,h1,h2⟩
    ·exact .inr h2⟩
  have kpt:∀ y∈F.S (.top .kept),Ex2 fun (i o:Int)=>y=pr (.int i) (.int o)∧(i=-1∨oTok (.int i)∈W):=fun y hy=>u.kp y (h.up _ _ (mem_S.mp hy))
  have ownk:F.adr (.top .kept)≠st.length:=fun e=>by have:=h.lt (r:=.top .kept) trivial; lia
  rcases tk with rfl | ⟨j,rfl⟩ | ⟨s,rfl⟩
  ·refine nes rfl ?_
   refine xI (get_put_ne rfl m2) ?_
   refine xI get_put_eq ?_
   refine xI (setI_mid hn lw xw) ?_
   refine xI (get_put_ne rfl m1) ?_
   refine xI (getA_sm (h.app _)) ?_
   refine xI (getA_ns ((h.app _).obj .sm trivial) ((h.app _).obj .smns trivial) rfl) ?_
   refine src_dct ((h.app _).obj (.top .kept) trivial) ?_
   rw [setO_keys]
   refine for_inv (fun done2 m' st'=>(get m' w_self=some (.ref (F.adr .self))∧get m' w_found=some (.ref st.length)∧get m' w_token=some bTok)∧st'=st++setO (ladd l bTok) :: g) ?_ ?_ ⟨⟨get_put_ne rfl m1,get_put_ne rfl m2,get_put_eq⟩,rfl⟩ ?_
   ·rintro _ _ _ ⟨_,rfl⟩; rfl
   ·intro done2 y rest2 e2 m' _ hI Q2 kk2
    obtain ⟨⟨n1,n2,n3⟩,rfl⟩:=hI
    obtain ⟨a,b,rfl,_⟩:=kpt y (by rw [e2]; simp)
    refine And.intro rfl ?_
    refine xI (get_put_ne rfl (get_put_ne rfl n3)) ?_
    refine xI get_put_eq ?_
    refine And.intro rfl (And.intro rfl ?_)
    rw [show decide (bTok=oTok (.int b))=false from by simp]
    exact (kk2 _ _ ⟨⟨get_put_ne rfl (get_put_ne rfl n1),get_put_ne rfl (get_put_ne rfl n2),get_put_ne rfl (get_put_ne rfl n3)⟩,rfl⟩).1
   ·rintro m' _ ⟨⟨n1,n2,_⟩,rfl⟩
    refine (kk _ _ ⟨⟨n1,n2⟩,_,_,rfl,fin _ (nodup_ladd hn) fun y=>?_⟩).2
    rw [mem_ladd]
    constructor
    ·rintro (a | rfl)
     ·exact .inl a
     ·exact .inr .selfB
    ·rintro (a | a)
     ·exact .inl a
     ·cases a; exact .inr rfl
  ·refine nes rfl ?_
   refine xI (get_put_ne rfl m2) ?_
   refine xI get_put_eq ?_
   refine xI (setI_mid hn lw xw) ?_
   refine xI (get_put_ne rfl m1) ?_
   refine xI (getA_sm (h.app _)) ?_
   refine xI (getA_ns ((h.app _).obj .sm trivial) ((h.app _).obj .smns trivial) rfl) ?_
   refine src_dct ((h.app _).obj (.top .kept) trivial) ?_
   rw [setO_keys]
   refine for_inv (fun done2 m' st'=>(get m' w_self=some (.ref (F.adr .self))∧get m' w_found=some (.ref st.length)∧get m' w_token=some (oTok (.int j)))∧∃ l',st'=st++setO l' :: g∧l'.Nodup∧∀ y,y∈l'↔(y∈l∨y=oTok (.int j))∨∃ i,pr i (.int j)∈done2∧y=inTok i) ?_ ?_ ⟨⟨get_put_ne rfl m1,get_put_ne rfl m2,get_put_eq⟩,_,rfl,nodup_ladd hn,by simp [mem_ladd]⟩ ?_
   ·rintro _ _ _ ⟨_,l',rfl,_⟩
    exact mid_ne ownk
   ·intro done2 y rest2 e2 m' _ hI Q2 kk2
    obtain ⟨⟨n1,n2,n3⟩,l',rfl,hn',hl'⟩:=hI
    have hy:y∈F.S (.top .kept):=by rw [e2]; simp
    obtain ⟨a,b,rfl,_⟩:=kpt y hy
    have lw':∀ y∈l',y∈W:=fun y hy=>by
     rcases (hl' y).mp hy with (z | rfl) | ⟨i,z,rfl⟩
     ·exact lw y z
     ·exact xw
     ·exact tw _ hx _ (.kept (mem_S.mp (by rw [e2]; simp [z])))
    refine And.intro rfl ?_
    refine xI (get_put_ne rfl (get_put_ne rfl n3)) ?_
    refine xI get_put_eq ?_
    refine And.intro rfl (And.intro rfl ?_)
    have n1':=get_put_ne (x:=w_outer) (v:=.int b) rfl (get_put_ne (x:=w_inner) (v:=.int a) rfl n1)
    have n2':=get_put_ne (x:=w_outer) (v:=.int b) rfl (get_put_ne (x:=w_inner) (v:=.int a) rfl n2)
    have n3':=get_put_ne (x:=w_outer) (v:=.int b) rfl (get_put_ne (x:=w_inner) (v:=.int a) rfl n3)
    by_cases eb:j=b
    ·subst eb
     rw [show decide (oTok (.int j)=oTok (.int j))=true from by simp]
     have iw:inTok (.int a)∈W:=tw _ hx _ (.kept (mem_S.mp hy))
     have fin2:=kk2 _ (st++setO (ladd l' (inTok (.int a))) :: g) ⟨⟨n1',n2',n3'⟩,_,rfl,nodup_ladd hn',fun y=>by
      rw [mem_ladd,hl']
      simp only [List.mem_append,List.mem_singleton]
      constructor
      ·rintro ((z | ⟨i,z1,z2⟩) | rfl)
       ·exact .inl z
       ·exact .inr ⟨i,.inl z1,z2⟩
       ·exact .inr ⟨_,.inr rfl,rfl⟩
      ·rintro (z | ⟨i,z1 | z1,z2⟩)
       ·exact .inl (.inl z)
       ·exact .inl (.inr ⟨i,z1,z2⟩)
       ·simp at z1; subst z1; exact .inr z2⟩
     refine xI n2' ?_
     refine xI (get_put_ne rfl get_put_eq) ?_
     refine And.intro rfl (And.intro rfl ?_)
     by_cases ea:a=-1
     ·rw [show decide (AV.int a=AV.int (-1))=true from by simp [ea]]
      have ei:inTok (.int a)=bTok:=by simp [inTok,ea]
      rw [ei] at fin2 iw
      refine xI (setI_mid hn' lw' iw) ?_
      exact fin2.1
     ·rw [show decide (AV.int a=AV.int (-1))=false from by simp [ea]]
      refine xI (get_put_ne rfl get_put_eq) ?_
      have ei:inTok (.int a)=oTok (.int a):=by simp [inTok,ea]
      rw [ei] at fin2 iw
      refine xI (setI_mid hn' lw' iw) ?_
      exact fin2.1
    ·rw [show decide (oTok (.int j)=oTok (.int b))=false from by simp [eb]]
     refine (kk2 _ _ ⟨⟨n1',n2',n3'⟩,_,rfl,hn',fun y=>?_⟩).1
     rw [hl']
     simp only [List.mem_append,List.mem_singleton]
     constructor
     ·rintro (z | ⟨i,z1,z2⟩)
      ·exact .inl z
      ·exact .inr ⟨i,.inl z1,z2⟩
     ·rintro (z | ⟨i,z1 | z1,z2⟩)
      ·exact .inl z
      ·exact .inr ⟨i,z1,z2⟩
      ·simp at z1; exact absurd z1.2 eb
   ·rintro m' _ ⟨⟨n1,n2,_⟩,l',rfl,hn',hl'⟩
    refine (kk _ _ ⟨⟨n1,n2⟩,_,_,rfl,fin _ hn' fun y=>?_⟩).2
    rw [hl']
    constructor
    ·rintro ((a | rfl) | ⟨i,z,rfl⟩)
     ·exact .inl a
     ·exact .inr .selfO
     ·exact .inr (.kept (mem_S.mp z))
    ·rintro (a | a)
     ·exact .inl (.inl a)
     ·cases a with
      | selfO=>exact .inl (.inr rfl)
      | kept a=>exact .inr ⟨_,mem_S.mpr a,rfl⟩
  ·have hs:=isD_sTok (W_isD xw)
   refine nes rfl ?_
   refine xI (get_put_ne rfl m1) ?_
   refine xI (getA_ns ((h.app _).obj .self trivial) ((h.app _).obj .ns trivial) rfl) ?_
   refine m_dct ((h.app _).obj (.tab .inside) trivial) ⟨rfl,?_⟩
   refine xI get_put_eq ?_
   refine get_cell (h.app _) hs fun a items ha ho hit _=>?_
   have hane:a≠st.length:=by
    rcases ho with ⟨_,r,l,rfl⟩ | rfl
    ·have:=h.lt l; lia
    ·simp
   refine src_dct ha ?_
   rw [setO_keys]
   have tw2:∀ y,(y∈l∨y∈items)→y∈W:=fun y hy=>hy.elim (lw y) fun z=>tw _ hx y (.inn ((hit y).mp z))
   refine for_inv (fun done2 m' st'=>(get m' w_self=some (.ref (F.adr .self))∧get m' w_found=some (.ref st.length)∧get m' w_token=some (sTok s))∧∃ l',st'=st++setO l' :: (g++[.dct []])∧l'.Nodup∧∀ y,y∈l'↔y∈l∨y∈done2) ?_ ?_ ⟨⟨get_put_ne rfl m1,get_put_ne rfl m2,get_put_eq⟩,l,by simp,hn,by simp⟩ ?_
   ·rintro _ _ _ ⟨_,l',rfl,_⟩
    show _=(st++setO l :: g++[.dct []])[a]?
    rw [List.append_assoc,List.cons_append]
    exact mid_ne hane
   ·intro done2 y rest2 e2 m' _ hI Q2 kk2
    obtain ⟨⟨n1,n2,n3⟩,l',rfl,hn',hl'⟩:=hI
    refine xI (get_put_ne rfl n2) ?_
    refine xI get_put_eq ?_
    refine xI (setI_mid hn' (fun z hz=>tw2 z (((hl' z).mp hz).imp id fun q=>by rw [e2]; simp [q])) (tw2 y (.inr (by rw [e2]; simp)))) ?_
    exact (kk2 _ _ ⟨⟨get_put_ne rfl n1,get_put_ne rfl n2,get_put_ne rfl n3⟩,_,rfl,nodup_ladd hn',fun z=>by rw [mem_ladd,hl']; simp [or_assoc]⟩).1
   ·rintro m' _ ⟨⟨n1,n2,n3⟩,l',rfl,hn',hl'⟩
    refine xI n3 ?_
    refine xI n1 ?_
    refine xI (getA_ns ((h.app _).obj .self trivial) ((h.app _).obj .ns trivial) rfl) ?_
    refine cmp_isin (memF_dct hs ((h.app _).obj (.top .gone) trivial) ?_)
    rw [mem_set_kget]
    by_cases eg:s∈F.S (.top .gone)
    ·simp only [eg,decide_true]
     refine xI n2 ?_
     refine xI (setI_mid hn' (fun z hz=>tw2 z ((hl' z).mp hz)) bTok_TW.2) ?_
     refine (kk _ _ ⟨⟨n1,n2⟩,_,_,rfl,fin _ (nodup_ladd hn') fun y=>?_⟩).1
     rw [mem_ladd,hl',hit]
     constructor
     ·rintro ((a | a) | rfl)
      ·exact .inl a
      ·exact .inr (.inn a)
      ·exact .inr (.out (mem_S.mp eg))
     ·rintro (a | a)
      ·exact .inl (.inl a)
      ·cases a with
       | inn a=>exact .inl (.inr a)
       | out a=>exact .inr rfl
    ·simp only [eg,decide_false]
     refine (kk _ _ ⟨⟨n1,n2⟩,_,_,rfl,fin _ hn' fun y=>?_⟩).1
     rw [hl',hit]
     constructor
     ·rintro (a | a)
      ·exact .inl a
      ·exact .inr (.inn a)
     ·rintro (a | a)
      ·exact .inl a
      ·cases a with
       | inn a=>exact .inr a
       | out a=>exact absurd (mem_S.mpr a) eg
 ·rintro m' st' ⟨⟨m1,m2⟩,l,g,rfl,hn,hl⟩
  refine xI m2 ?_
  refine bi_list (src_dct get_mid ?_)
  rw [setO_keys]
  have lw:∀ y∈l,y∈W:=fun y hy=>by obtain ⟨t,h1,h2⟩:=(hl y).mp hy; exact tw t h1 y h2
  refine ⟨by have:=w_len hn lw; lia,?_⟩
  have:=k (setO l :: g++[.lst l]) (st++setO l :: g).length l (by rw [← List.append_assoc]; simp) (by simp) hl hn
  rw [← List.append_assoc] at this
  exact this
end
end Mine
namespace Mine
section
set_option maxRecDepth 10000
theorem cmp_ne {st:Store} {a b:AV} {Q:Bool→Prop} (h:neF st a b Q):cmpF .ne st a b Q:=h
theorem ne_nil {st:Store} {i j:Nat} {l:List AV} {Q:Bool→Prop} (hi:st[i]?=some (.lst l)) (hj:st[j]?=some (.lst [])) (k:Q (!isNil l)):neF st (.ref i) (.ref j) Q:=by
 unfold neF
 show objM st[i]? _ _ _
 rw [hi]
 show objM st[j]? _ _ _
 rw [hj]
 exact ⟨rfl,k⟩
theorem get_mid2 {st g:Store} {o p:AObj}:(st++o :: p :: g)[st.length + 1]?=some p:=by
 rw [List.getElem?_append_right (by lia)]; simp
theorem set_mid2 {st g:Store} {o p p':AObj}:(st++o :: p :: g).set (st.length + 1) p'=st++o :: p' :: g:=by
 rw [List.set_append_right _ _ (by lia)]; simp
theorem lst_pop {st:Store} {i:Nat} {xs:List AV} {x:AV} {Q:AV→Store→Prop} (h:st[i]?=some (.lst (xs++[x]))) (hl:xs.length < 2 ^ 20) (k:Q x (st.set i (.lst xs))):lstF mnames w_pop i st [] Q:=⟨xs,x,h,rfl,hl,k⟩
theorem lst_extend {st:Store} {i j:Nat} {xs ys:List AV} {Q:AV→Store→Prop} (h:st[i]?=some (.lst xs)) (h2:st[j]?=some (.lst ys)) (hn:j≠i) (hl:xs.length + ys.length < 2 ^ 20) (k:Q .none (st.set i (.lst (xs++ys)))):lstF mnames w_extend i st [.ref j] Q:=⟨xs,j,ys,h,rfl,h2,hn,hl,k⟩
theorem lst_append {st:Store} {i:Nat} {xs:List AV} {x:AV} {Q:AV→Store→Prop} (h:st[i]?=some (.lst xs)) (hl:xs.length < 2 ^ 20) (k:Q .none (st.set i (.lst (xs++[x])))):lstF mnames w_append i st [x] Q:=⟨xs,x,h,rfl,hl,k⟩
theorem rch_closed {M:MP} {l:List AV} (h:∀ y∈l,∀ z,Ld M y z→z∈l) {t x:AV} (ht:t∈l) (r:Rch M t x):x∈l:=by
 induction r with
 | refl=>exact ht
 | step _ b ih=>exact h _ ih _ b
theorem reached_spec {P:FP} {st:Store} {F:FS} {d:Nat} {i:Nat} {toks:List AV} {Q:AV→Store→Prop} (u:UTk P.U) (h:FAt P st F) (hi:st[i]?=some (.lst toks)) (ht:∀ t∈toks,TW t) (hlen:toks.length≤1000)
  (k:∀ g a l,(st++g)[a]?=some (.lst l)→st.length≤a→(∀ x,x∈l↔∃ t∈toks,Rch F.M t x)→l.Nodup→Q (.ref a) (st++g)):callP mprog (d + 2) w_EscapeFlow w_reached [.ref (F.adr .self),.ref i] st Q:=by
 refine call_df rfl rfl ?_
 refine bi_list (src_lst (by rw [List.getElem?_append_left (List.getElem?_eq_some_iff.mp hi).1]; exact hi) ⟨by lia,?_⟩)
 refine And.intro rfl ?_
 have big:(st++[AObj.dct []]).length=st.length + 1:=by simp
 rw [big,List.append_assoc]
 let J (w0:Bool):Nat→Loc→Store→Prop:=fun n m st'=>(get m w_self=some (.ref (F.adr .self))∧get m w_found=some (.ref st.length)∧get m w_waiting=some (.ref (st.length + 1)))∧Ex3 fun l w g=>And10 (st'=st++setO l :: .lst w :: g) l.Nodup (∀ y∈l,TW y) (∀ y∈w,TW y) (∀ t∈toks,t∈l∨t∈w) (∀ y∈l,∀ z,Ld F.M y z→z∈l∨z∈w) (∀ y,y∈l∨y∈w→∃ t∈toks,Rch F.M t y) (n=(43 - l.length) * 44 + w.length) (n≤3000) (w0=true→w≠[])
 let JF:Loc→Store→Prop:=fun m st'=>get m w_found=some (.ref st.length)∧Ex2 fun l g=>And6 (st'=st++setO l :: g) l.Nodup (∀ y∈l,TW y) (∀ t∈toks,t∈l) (∀ y∈l,∀ z,Ld F.M y z→z∈l) (∀ y,y∈l→∃ t∈toks,Rch F.M t y)
 refine while_inv (J false) (J true) JF ?_ ?_ ?_ (n:=43 * 44 + toks.length) ?_
 ·intro n m _ hI K kt kf
  obtain ⟨⟨m1,m2,m3⟩,l,w,g,rfl,hn,lw,ww,h1,h2,h3,h4,h5,_⟩:=hI
  refine xI (m3) ?_
  refine cmp_ne (ne_nil (l:=w) (by rw [List.getElem?_append_left (by simp)]; exact get_mid2) set_new ?_)
  by_cases ew:w=[]
  ·subst ew
   refine kf _ ⟨m2,l,.lst [] :: g++[.lst []],by simp,hn,lw,fun t z=>(h1 t z).resolve_right (by simp),fun y hy z hz=>(h2 y hy z hz).resolve_right (by simp),fun y hy=>h3 y (.inl hy)⟩
  ·rw [show isNil w=false from by cases w <;> first | exact absurd rfl ew | rfl]
   refine kt _ ⟨⟨m1,m2,m3⟩,l,w,g++[.lst []],by simp,hn,lw,ww,h1,h2,h3,h4,h5,fun _=>ew⟩
 ·intro n m _ hI Q kk
  obtain ⟨⟨m1,m2,m3⟩,l,w,g,rfl,hn,lw,ww,h1,h2,h3,h4,h5,ew⟩:=hI
  obtain ⟨xs,x,rfl⟩:Ex2 fun xs x=>w=xs++[x]:=by
   rcases List.eq_nil_or_concat w with e | ⟨xs,x,e⟩
   ·exact absurd e (ew rfl)
   ·exact ⟨xs,x,by rw [e,List.concat_eq_append]⟩
  have xl:xs.length < 2 ^ 20:=by simp at h4; lia
  have xt:TW x:=ww x (by simp)
  have llen:=w_len hn fun y hy=>(lw y hy).2
  refine xI (m3) ?_
  refine m_lst get_mid2 ⟨rfl,?_⟩
  refine lst_pop get_mid2 xl ?_
  rw [set_mid2]
  refine xI (get_put_eq) ?_
  refine xI (get_put_ne rfl m2) ?_
  refine cmp_notin (memF_dct (W_isD xt.2) (show _=some (AObj.dct (l.map fun k=>(k,AV.bool true))) from get_mid) ?_)
  rw [mem_set_kget]
  by_cases e:x∈l
  ·simp only [e,decide_true]
   refine (kk ((43 - l.length) * 44 + xs.length) _ _ (by simp at h4; lia) ⟨⟨get_put_ne rfl m1,get_put_ne rfl m2,get_put_ne rfl m3⟩,l,xs,g,rfl,hn,lw,fun y hy=>ww y (by simp [hy]),fun t z=>?_,fun y hy z hz=>?_,fun y hy=>h3 y (hy.imp id fun z=>by simp [z]),rfl,by simp at h4; lia,by simp⟩).1
   ·have:=h1 t z; simp at this; rcases this with a | a | rfl
    ·exact .inl a
    ·exact .inr a
    ·exact .inl e
   ·have:=h2 y hy z hz; simp at this; rcases this with a | a | rfl
    ·exact .inl a
    ·exact .inr a
    ·exact .inl e
  ·simp only [e,decide_false]
   refine xI (get_put_ne rfl m2) ?_
   refine xI (get_put_eq) ?_
   refine xI (setI_mid hn (fun y hy=>(lw y hy).2) xt.2) ?_
   refine xI (get_put_ne rfl m3) ?_
   refine m_lst get_mid2 ⟨rfl,?_⟩
   refine xI (get_put_ne rfl m1) ?_
   refine m_ins ((h.app _).obj .self trivial) ⟨rfl,⟨_,(h.app _).obj .ns trivial,rfl⟩,?_⟩
   refine xI (get_put_eq) ?_
   refine loaded_spec u ((h.app _).app _) set_new (by simp; exact xt) fun g2 a ys ha hlt hys hyn=>?_
   have len2:st.length + 2≤a:=by simp at hlt; lia
   have ll:ladd l x=l++[x]:=by simp [ladd,e]
   have yt:∀ y∈ys,TW y:=fun y hy=>by
    obtain ⟨t,z1,z2⟩:=(hys y).mp hy
    simp at z1; subst z1
    exact (z2.mono h.up).tw u xt
   have yl:=w_len hyn fun y hy=>(yt y hy).2
   have lln:=w_len (nodup_ladd (x:=x) hn) fun y hy=>by rcases mem_ladd.mp hy with z | rfl; exact (lw y z).2; exact xt.2
   rw [ll] at lln
   simp at lln
   refine lst_extend (xs:=xs) (by rw [List.append_assoc,List.append_assoc,List.cons_append,List.cons_append]; exact get_mid2) ha (by lia) (by simp at h4; lia) ?_
   rw [List.append_assoc,List.append_assoc,List.cons_append,List.cons_append,set_mid2]
   refine (kk ((43 - (ladd l x).length) * 44 + (xs++ys).length) _ _ (by rw [ll]; simp at h4 ⊢; lia) ⟨⟨get_put_ne rfl m1,get_put_ne rfl m2,get_put_ne rfl m3⟩,ladd l x,xs++ys,_,rfl,nodup_ladd hn,fun y hy=>?_,fun y hy=>?_,fun t z=>?_,fun y hy z hz=>?_,fun y hy=>?_,rfl,by rw [ll]; simp at h4 ⊢; lia,by simp⟩).1
   ·rcases mem_ladd.mp hy with z | rfl
    ·exact lw y z
    ·exact xt
   ·simp at hy
    rcases hy with z | z
    ·exact ww y (by simp [z])
    ·exact yt y z
   ·have:=h1 t z; simp at this; rw [mem_ladd]; simp; rcases this with a | a | rfl
    ·exact .inl (.inl a)
    ·exact .inr (.inl a)
    ·exact .inl (.inr rfl)
   ·rcases mem_ladd.mp hy with q | rfl
    ·have:=h2 y q z hz; simp at this; rw [mem_ladd]; simp; rcases this with a | a | rfl
     ·exact .inl (.inl a)
     ·exact .inr (.inl a)
     ·exact .inl (.inr rfl)
    ·exact .inr (by simp; exact .inr ((hys z).mpr ⟨y,by simp,hz⟩))
   ·rw [mem_ladd] at hy; simp at hy
    rcases hy with (q | rfl) | q | q
    ·exact h3 y (.inl q)
    ·exact h3 y (.inr (by simp))
    ·exact h3 y (.inr (by simp [q]))
    ·obtain ⟨t,z1,z2⟩:=(hys y).mp q
     simp at z1; subst z1
     obtain ⟨t0,r1,r2⟩:=h3 t (.inr (by simp))
     exact ⟨t0,r1,.step r2 z2⟩
 ·rintro m _ ⟨m2,l,g,rfl,hn,lw,h1,h2,h3⟩
  refine xI (m2) ?_
  refine bi_list (src_dct get_mid ?_)
  rw [setO_keys]
  refine ⟨by have:=w_len hn fun y hy=>(lw y hy).2; lia,?_⟩
  have:=k (setO l :: g++[.lst l]) (st++setO l :: g).length l (by rw [← List.append_assoc]; simp) (by simp) (fun x=>⟨h3 x,fun ⟨t,z1,z2⟩=>rch_closed h2 (h1 t z1) z2⟩) hn
  rw [← List.append_assoc] at this
  exact this
 ·exact ⟨⟨rfl,rfl,rfl⟩,[],toks,[],by simp [setO],.nil,by simp,ht,fun t z=>.inr z,by simp,fun y hy=>by simp at hy; exact ⟨y,hy,.refl _⟩,rfl,by lia,by simp⟩
end
end Mine
namespace Mine
section
set_option maxRecDepth 10000
noncomputable def Lk (U:MP) (t:AV):Prop:=∀ x,Rch U t x→(∀ s,x=sTok s→U (.top .gone) s)∧(∀ i,x=oTok (.int i)→U (.top .leaks) (.int i))
noncomputable def Lkd (F F':FS) (t:AV):Prop:=∀ x,Rch F.M t x→(∀ s,x=sTok s→F'.M (.top .gone) s)∧(∀ i,x=oTok (.int i)→F'.M (.top .leaks) (.int i))
theorem Ex.M {a b:Store} {F G:FS} (x:Ex a F b G):∀ r v,F.M r v→G.M r v:=fun _ _ h=>x.mem h
theorem rch_tw {U:MP} (u:UTk U) {t x:AV} (r:Rch U t x) (ht:TW t):TW x:=by
 induction r with
 | refl=>exact ht
 | step _ b ih=>exact b.tw u ih
theorem eqs {a b:Nat} {Q:Bool→Prop} (k:Q (Nat.beq a b)):cmpF .eq [] (.str a) (.str b) Q:=by
 refine ⟨rfl,rfl,?_⟩
 have:decide (AV.str a=AV.str b)=Nat.beq a b:=by
  cases e:Nat.beq a b
  ·simp; exact fun z=>by subst z; simp at e
  ·simp; exact Nat.eq_of_beq_eq_true e
 rw [this]; exact k
theorem o_ne_s {a b:AV}:oTok a≠sTok b:=fun e=>by injection e with e _; injection e with e; exact absurd e (by decide)
theorem s_ne_o {a b:AV}:sTok a≠oTok b:=fun e=>o_ne_s e.symm
theorem b_ne_s {b:AV}:bTok≠sTok b:=fun e=>by injection e with e _; injection e with e; exact absurd e (by decide)
theorem b_ne_o {b:AV}:bTok≠oTok b:=fun e=>by injection e with e _; injection e with e; exact absurd e (by decide)
theorem leak_spec {P:FP} {st:Store} {F:FS} {d:Nat} {i:Nat} {toks:List AV} {Q:AV→Store→Prop} (u:UTk P.U) (h:FAt P st F) (hi:st[i]?=some (.lst toks)) (ht:∀ t∈toks,TW t) (hlen:toks.length≤1000)
  (hU:∀ t∈toks,Lk P.U t) (k:∀ st' F',FAt P st' F'→Ex st F st' F'→(∀ t∈toks,Lkd F F' t)→Q .none st'):callP mprog (d + 3) w_EscapeFlow w_leak [.ref (F.adr .self),.ref i] st Q:=by
 refine call_df rfl rfl ?_
 refine m_ins (h.obj .self trivial) ⟨rfl,⟨_,h.obj .ns trivial,rfl⟩,?_⟩
 refine reached_spec u h hi ht hlen fun g a l ha hge hl hn=>?_
 refine src_lst ha ?_
 refine for_flow (fun m=>get m w_self=some (.ref (F.adr .self))) (fun x G=>(∀ s,x=sTok s→G.M (.top .gone) s)∧(∀ i,x=oTok (.int i)→G.M (.top .leaks) (.int i))) (h.app g) ha (own_new h hge) (fun x _ _ _ _ e z=>⟨fun s hs=>e.mem (z.1 s hs),fun s hs=>e.mem (z.2 s hs)⟩) (fun x hx m st1 F1 im h1 x1 Q kk=>?_) rfl fun m' st' F' _ h' x' r=>k st' F' h' ((Ex.app h g).trans x') fun t z x rx=>r x ((hl x).mpr ⟨t,z,rx⟩)
 have es:F1.adr .self=F.adr .self:=(x1.adr .self trivial).2
 obtain ⟨t,tz,rx⟩:=(hl x).mp hx
 have xw:=rch_tw u (rx.mono h.up) (ht t tz)
 have xu:=hU t tz x (rx.mono h.up)
 refine xI (get_put_eq) ?_
 rcases xw.1 with rfl | ⟨j,rfl⟩ | ⟨s,rfl⟩
 ·refine eqs ?_
  refine xI (get_put_eq) ?_
  refine eqs ?_
  exact (kk _ _ _ (get_put_ne rfl im) h1 (Ex.refl _ _) ⟨fun s e=>absurd e b_ne_s,fun s e=>absurd e b_ne_o⟩).1
 ·refine eqs ?_
  refine xI (get_put_eq) ?_
  refine eqs ?_
  refine xI (get_put_ne rfl im) ?_
  rw [← es]
  refine m_ins (h1.obj .self trivial) ⟨rfl,⟨_,h1.obj .ns trivial,rfl⟩,?_⟩
  refine xI (get_put_ne rfl im) ?_
  rw [← es]
  refine xI (getA_sm h1) ?_
  refine xI (getA_ns (h1.obj .sm trivial) (h1.obj .smns trivial) rfl) ?_
  refine xI (get_put_eq) ?_
  refine note_spec u.ok h1 (r:=.top .leaks) trivial trivial (xu.2 _ rfl) fun st3 F3 h3 x3 r3=>?_
  exact (kk _ _ _ (get_put_ne rfl im) h3 x3 ⟨fun s e=>absurd e o_ne_s,fun s e=>by simp at e; subst e; exact r3⟩).1
 ·refine eqs ?_
  refine xI (get_put_ne rfl im) ?_
  rw [← es]
  refine m_ins (h1.obj .self trivial) ⟨rfl,⟨_,h1.obj .ns trivial,rfl⟩,?_⟩
  refine xI (get_put_ne rfl im) ?_
  rw [← es]
  refine xI (getA_ns (h1.obj .self trivial) (h1.obj .ns trivial) rfl) ?_
  refine xI (get_put_eq) ?_
  refine note_spec u.ok h1 (r:=.top .gone) trivial trivial (xu.1 _ rfl) fun st3 F3 h3 x3 r3=>?_
  exact (kk _ _ _ (get_put_ne rfl im) h3 x3 ⟨fun s' e=>by simp at e; subst e; exact r3,fun s e=>absurd e s_ne_o⟩).1
noncomputable def kx (x:AV):AV:=match x with
 | .cons (.str n) (.cons i .nil)=>bif Nat.beq n w_outer then i else .int (-1)
 | _=>.int (-1)
noncomputable def POk (U:MP) (o:Int) (t:AV):Prop:=∀ x,Rch U t x→(∀ s,x=sTok s→Lk U x)∧U (.top .kept) (pr (kx x) (.int o))
noncomputable def POd (F F':FS) (o:Int) (t:AV):Prop:=∀ x,Rch F.M t x→(∀ s,x=sTok s→F'.M (.top .gone) s)∧F'.M (.top .kept) (pr (kx x) (.int o))
theorem put_out_spec {P:FP} {st:Store} {F:FS} {d:Nat} {i:Nat} {o:Int} {toks:List AV} {Q:AV→Store→Prop} (u:UTk P.U) (h:FAt P st F) (hi:st[i]?=some (.lst toks)) (ht:∀ t∈toks,TW t) (hlen:toks.length≤1000)
  (hU:∀ t∈toks,POk P.U o t) (k:∀ st' F',FAt P st' F'→Ex st F st' F'→(∀ t∈toks,POd F F' o t)→Q .none st'):callP mprog (d + 4) w_EscapeFlow w_put_out [.ref (F.adr .self),.int o,.ref i] st Q:=by
 refine call_df rfl rfl ?_
 refine m_ins (h.obj .self trivial) ⟨rfl,⟨_,h.obj .ns trivial,rfl⟩,?_⟩
 refine reached_spec u h hi ht hlen fun g a l ha hge hl hn=>?_
 refine src_lst ha ?_
 refine for_flow (fun m=>get m w_self=some (.ref (F.adr .self))∧get m w_outer=some (.int o)) (fun x G=>(∀ s,x=sTok s→G.M (.top .gone) s)∧G.M (.top .kept) (pr (kx x) (.int o))) (h.app g) ha (own_new h hge) (fun x _ _ _ _ e z=>⟨fun s hs=>e.mem (z.1 s hs),e.mem z.2⟩) (fun x hx m st1 F1 im h1 x1 Q kk=>?_) ⟨rfl,rfl⟩ fun m' st' F' _ h' x' r=>k st' F' h' ((Ex.app h g).trans x') fun t z x rx=>r x ((hl x).mpr ⟨t,z,rx⟩)
 have es:F1.adr .self=F.adr .self:=(x1.adr .self trivial).2
 obtain ⟨t,tz,rx⟩:=(hl x).mp hx
 have xw:=rch_tw u (rx.mono h.up) (ht t tz)
 have xu:=hU t tz x (rx.mono h.up)
 refine xI (get_put_eq) ?_
 rcases xw.1 with rfl | ⟨j,rfl⟩ | ⟨s,rfl⟩
 ·refine eqs ?_
  refine xI (get_put_ne rfl im.1) ?_
  rw [← es]
  refine m_ins (h1.obj .self trivial) ⟨rfl,⟨_,h1.obj .ns trivial,rfl⟩,?_⟩
  refine xI (get_put_ne rfl im.1) ?_
  rw [← es]
  refine xI (getA_sm h1) ?_
  refine xI (getA_ns (h1.obj .sm trivial) (h1.obj .smns trivial) rfl) ?_
  refine xI (get_put_eq) ?_
  refine eqs ?_
  refine xI (get_put_ne rfl im.2) ?_
  refine note_spec u.ok h1 (r:=.top .kept) trivial trivial xu.2 fun st3 F3 h3 x3 r3=>?_
  exact (kk _ _ _ ⟨get_put_ne rfl im.1,get_put_ne rfl im.2⟩ h3 x3 ⟨fun s e=>absurd e b_ne_s,r3⟩).1
 ·refine eqs ?_
  refine xI (get_put_ne rfl im.1) ?_
  rw [← es]
  refine m_ins (h1.obj .self trivial) ⟨rfl,⟨_,h1.obj .ns trivial,rfl⟩,?_⟩
  refine xI (get_put_ne rfl im.1) ?_
  rw [← es]
  refine xI (getA_sm h1) ?_
  refine xI (getA_ns (h1.obj .sm trivial) (h1.obj .smns trivial) rfl) ?_
  refine xI (get_put_eq) ?_
  refine eqs ?_
  refine xI (get_put_eq) ?_
  refine xI (get_put_ne rfl im.2) ?_
  refine note_spec u.ok h1 (r:=.top .kept) trivial trivial xu.2 fun st3 F3 h3 x3 r3=>?_
  exact (kk _ _ _ ⟨get_put_ne rfl im.1,get_put_ne rfl im.2⟩ h3 x3 ⟨fun s e=>absurd e o_ne_s,r3⟩).1
 ·refine eqs ?_
  refine xI (get_put_ne rfl im.1) ?_
  rw [← es]
  refine m_ins (h1.obj .self trivial) ⟨rfl,⟨_,h1.obj .ns trivial,rfl⟩,?_⟩
  refine xI (get_put_eq) ?_
  refine leak_spec u (h1.app _) set_new (by simp; exact xw) (by simp) (by simp; exact xu.1 s rfl) fun st2 F2 h2 x2 r2=>?_
  have x2':=(Ex.app h1 _).trans x2
  have es2:F2.adr .self=F.adr .self:=by rw [(x2.adr .self trivial).2,es]
  refine xI (get_put_ne rfl im.1) ?_
  rw [← es2]
  refine m_ins (h2.obj .self trivial) ⟨rfl,⟨_,h2.obj .ns trivial,rfl⟩,?_⟩
  refine xI (get_put_ne rfl im.1) ?_
  rw [← es2]
  refine xI (getA_sm h2) ?_
  refine xI (getA_ns (h2.obj .sm trivial) (h2.obj .smns trivial) rfl) ?_
  refine xI (get_put_eq) ?_
  refine eqs ?_
  refine xI (get_put_ne rfl im.2) ?_
  refine note_spec u.ok h2 (r:=.top .kept) trivial trivial xu.2 fun st3 F3 h3 x3 r3=>?_
  exact (kk _ _ _ ⟨get_put_ne rfl im.1,get_put_ne rfl im.2⟩ h3 (x2'.trans x3) ⟨fun s' e=>x3.mem ((r2 _ (by simp) _ (.refl _)).1 s' e),r3⟩).1
end
end Mine
namespace Mine
section
set_option maxRecDepth 10000
theorem sTok_W {s:AV} (h:sTok s∈W):s∈W:=by
 have:W.all (fun x=>match x with | .cons (.str n) (.cons s .nil)=>!(Nat.beq n w_site) || decide (s∈W) | _=>true)=true:=by decide +kernel
 have:=List.all_eq_true.mp this _ h
 simpa using this
noncomputable def Pm (U:MP) (g:AV) (toks:List AV):Prop:=(g=bTok→∀ t∈toks,Lk U t)∧(∀ o,g=oTok (.int o)→∀ t∈toks,POk U o t)∧∀ s,g=sTok s→(∀ t∈toks,U (.cell .inside s) t)∧(U (.top .gone) s→∀ t∈toks,Lk U t)
noncomputable def Pd (F F':FS) (g:AV) (toks:List AV):Prop:=(g=bTok→∀ t∈toks,Lkd F F' t)∧(∀ o,g=oTok (.int o)→∀ t∈toks,POd F F' o t)∧∀ s,g=sTok s→∀ t∈toks,F'.M (.cell .inside s) t
theorem Lkd.mono {a b c e:Store} {F G F' G':FS} {t:AV} (x:Ex a F b G) (y:Ex c F' e G') (h:Lkd G F' t):Lkd F G' t:=fun z r=>⟨fun s hs=>y.mem ((h z (r.mono x.M)).1 s hs),fun s hs=>y.mem ((h z (r.mono x.M)).2 s hs)⟩
theorem POd.mono {a b c e:Store} {F G F' G':FS} {o:Int} {t:AV} (x:Ex a F b G) (y:Ex c F' e G') (h:POd G F' o t):POd F G' o t:=fun z r=>⟨fun s hs=>y.mem ((h z (r.mono x.M)).1 s hs),y.mem (h z (r.mono x.M)).2⟩
theorem Pd.mono {a b c e:Store} {F G F' G':FS} {g:AV} {toks:List AV} (x:Ex a F b G) (y:Ex c F' e G') (h:Pd G F' g toks):Pd F G' g toks :=
 ⟨fun z t ht=>(h.1 z t ht).mono x y,fun o z t ht=>(h.2.1 o z t ht).mono x y,fun s z t ht=>y.mem (h.2.2 s z t ht)⟩
theorem put_spec {P:FP} {st:Store} {F:FS} {d:Nat} {i j:Nat} {tgs toks:List AV} {Q:AV→Store→Prop} (u:UTk P.U) (h:FAt P st F) (hi:st[i]?=some (.lst tgs)) (hio:¬ F.own i) (hj:st[j]?=some (.lst toks)) (hjo:¬ F.own j)
  (hg:∀ g∈tgs,TW g) (ht:∀ t∈toks,TW t) (hlen:toks.length≤1000) (hU:∀ g∈tgs,Pm P.U g toks)
  (k:∀ st' F',FAt P st' F'→Ex st F st' F'→(∀ g∈tgs,Pd F F' g toks)→Q .none st'):callP mprog (d + 5) w_EscapeFlow w_put [.ref (F.adr .self),.ref i,.ref j] st Q:=by
 refine call_df rfl rfl ?_
 refine src_lst hi ?_
 refine for_flow (fun m=>get m w_self=some (.ref (F.adr .self))∧get m w_tokens=some (.ref j)) (fun g G=>Pd F G g toks) h hi hio (fun x _ _ _ _ e z=>z.mono (Ex.refl [] F) e) (fun g hgm m st1 F1 im h1 x1 Q kk=>?_) ⟨rfl,rfl⟩ fun m' st' F' _ h' x' r=>k st' F' h' x' r
 have es:F1.adr .self=F.adr .self:=(x1.adr .self trivial).2
 have hj1:=own_out x1 hj hjo
 have hjo1:=own_not x1 (List.getElem?_eq_some_iff.mp hj).1 hjo
 have gw:=hg g hgm
 have gu:=hU g hgm
 refine xI (get_put_eq) ?_
 rcases gw.1 with rfl | ⟨o,rfl⟩ | ⟨s,rfl⟩
 ·refine And.intro rfl (And.intro rfl ?_)
  rw [show decide (bTok=bTok)=true from by simp]
  refine xI (get_put_ne rfl im.1) ?_
  rw [← es]
  refine m_ins (h1.obj .self trivial) ⟨rfl,⟨_,h1.obj .ns trivial,rfl⟩,?_⟩
  refine xI (get_put_ne rfl im.2) ?_
  refine leak_spec u h1 hj1 ht hlen (gu.1 rfl) fun st2 F2 h2 x2 r2=>?_
  exact (kk _ _ _ ⟨get_put_ne rfl im.1,get_put_ne rfl im.2⟩ h2 x2 ⟨fun _ t z=>(r2 t z).mono x1 (Ex.refl [] F2),fun o e=>absurd e b_ne_o,fun s e=>absurd e b_ne_s⟩).1
 ·refine And.intro rfl (And.intro rfl ?_)
  rw [show decide (oTok (.int o)=bTok)=false from by simp]
  refine xI (get_put_eq) ?_
  refine eqs ?_
  refine xI (get_put_ne rfl im.1) ?_
  rw [← es]
  refine m_ins (h1.obj .self trivial) ⟨rfl,⟨_,h1.obj .ns trivial,rfl⟩,?_⟩
  refine xI (get_put_eq) ?_
  refine xI (get_put_ne rfl im.2) ?_
  refine put_out_spec u h1 hj1 ht hlen (gu.2.1 o rfl) fun st2 F2 h2 x2 r2=>?_
  exact (kk _ _ _ ⟨get_put_ne rfl im.1,get_put_ne rfl im.2⟩ h2 x2 ⟨fun e=>absurd e.symm b_ne_o,fun o' e t z=>by simp at e; subst e; exact (r2 t z).mono x1 (Ex.refl [] F2),fun s e=>absurd e o_ne_s⟩).1
 ·have sw:=sTok_W gw.2
  have sd:=W_isD sw
  refine And.intro (W_isD gw.2) (And.intro rfl ?_)
  rw [show decide (sTok s=bTok)=false from by simp]
  refine xI (get_put_eq) ?_
  refine eqs ?_
  refine xI (get_put_ne rfl im.1) ?_
  rw [← es]
  refine xI (getA_ns (h1.obj .self trivial) (h1.obj .ns trivial) rfl) ?_
  refine m_dct (h1.obj (.tab .inside) trivial) ⟨rfl,?_⟩
  refine xI (get_put_eq) ?_
  refine setdef h1 sw fun st2 F2 h2 x2 l2 _=>?_
  have es2:F2.adr .self=F.adr .self:=by rw [(x2.adr .self trivial).2,es]
  have hj2:=own_out x2 hj1 hjo1
  have hjo2:=own_not x2 (List.getElem?_eq_some_iff.mp hj1).1 hjo1
  refine xI (get_put_ne rfl (get_put_ne rfl im.2)) ?_
  refine src_lst hj2 ?_
  refine for_flow (fun m=>And4 (get m w_self=some (.ref (F.adr .self))) (get m w_tokens=some (.ref j)) (get m w_held=some (.ref (F2.adr (.cell .inside s)))) (get m w_target=some (sTok s))) (fun t G=>G.M (.cell .inside s) t) h2 hj2 hjo2 (fun x _ _ _ _ e z=>e.mem z) (fun t htm m st3 F3 im3 h3 x3 Q kk3=>?_) ⟨get_put_ne rfl (get_put_ne rfl im.1),get_put_ne rfl (get_put_ne rfl im.2),get_put_eq,get_put_ne rfl get_put_eq⟩ fun m' st3 F3 im3 h3 x3 r3=>?_
  ·have es3:F3.adr .self=F.adr .self:=by rw [(x3.adr .self trivial).2,es2]
   have l3:=x3.adr (.cell .inside s) l2
   refine xI (get_put_ne rfl im3.1) ?_
   rw [← es3]
   refine m_ins (h3.obj .self trivial) ⟨rfl,⟨_,h3.obj .ns trivial,rfl⟩,?_⟩
   refine xI (get_put_ne rfl im3.3) ?_
   refine xI (get_put_eq) ?_
   rw [← l3.2]
   refine note_spec u.ok h3 l3.1 trivial ((gu.2.2 s rfl).1 t htm) fun st4 F4 h4 x4 r4=>?_
   exact (kk3 _ _ _ ⟨get_put_ne rfl im3.1,get_put_ne rfl im3.2,get_put_ne rfl im3.3,get_put_ne rfl im3.4⟩ h4 x4 r4).1
  ·have es3:F3.adr .self=F.adr .self:=by rw [(x3.adr .self trivial).2,es2]
   refine xI im3.4 ?_
   refine xI im3.1 ?_
   rw [← es3]
   refine xI (getA_ns (h3.obj .self trivial) (h3.obj .ns trivial) rfl) ?_
   refine cmp_isin (memF_dct sd (h3.obj (.top .gone) trivial) ?_)
   rw [mem_set_kget]
   by_cases eg:s∈F3.S (.top .gone)
   ·simp only [eg,decide_true]
    refine xI im3.1 ?_
    rw [← es3]
    refine m_ins (h3.obj .self trivial) ⟨rfl,⟨_,h3.obj .ns trivial,rfl⟩,?_⟩
    refine xI im3.2 ?_
    refine leak_spec u h3 (own_out x3 hj2 hjo2) ht hlen ((gu.2.2 s rfl).2 (h3.up _ _ (mem_S.mp eg))) fun st4 F4 h4 x4 r4=>?_
    exact (kk _ _ _ ⟨im3.1,im3.2⟩ h4 ((x2.trans x3).trans x4) ⟨fun e=>absurd e.symm b_ne_s,fun o e=>absurd e s_ne_o,fun s' e t z=>by simp at e; subst e; exact x4.mem (r3 t z)⟩).1
   ·simp only [eg,decide_false]
    exact (kk _ _ _ ⟨im3.1,im3.2⟩ h3 (x2.trans x3) ⟨fun e=>absurd e.symm b_ne_s,fun o e=>absurd e s_ne_o,fun s' e t z=>by simp at e; subst e; exact r3 t z⟩).1
theorem make_spec {P:FP} {st:Store} {F:FS} {d:Nat} {j:Int} {s:AV} {Q:AV→Store→Prop} (u:UOk P.U) (h:FAt P st F) (hj:AV.int j∈W) (hs:P.U (.top .sites) s) (hU:P.U (.cell .held (.int j)) (sTok s))
  (k:∀ st' F',FAt P st' F'→Ex st F st' F'→F'.M (.top .sites) s→F'.M (.cell .held (.int j)) (sTok s)→Q .none st'):callP mprog (d + 3) w_EscapeFlow w_make [.ref (F.adr .self),.int j,s] st Q:=by
 refine call_df rfl rfl ?_
 refine m_ins (h.obj .self trivial) ⟨rfl,⟨_,h.obj .ns trivial,rfl⟩,?_⟩
 refine xI (getA_ns (h.obj .self trivial) (h.obj .ns trivial) rfl) ?_
 refine note_spec u h (r:=.top .sites) trivial trivial hs fun st1 F1 h1 x1 r1=>?_
 have es:F1.adr .self=F.adr .self:=(x1.adr .self trivial).2
 rw [← es]
 refine m_ins (h1.obj .self trivial) ⟨rfl,⟨_,h1.obj .ns trivial,rfl⟩,?_⟩
 refine give_spec u (h1.app _) hj set_new (own_new h1 (Nat.le_refl _)) (by simp; exact hU) fun st2 F2 h2 x2 r2=>?_
 have x2':=(Ex.app h1 _).trans x2
 exact k _ _ h2 (x1.trans x2') (x2'.mem r1) (r2 _ (by simp))
theorem told_by_spec {P:FP} {st:Store} {F:FS} {d:Nat} {k:AV} {Q:AV→Store→Prop} (h:FAt P st F) (hk:k∈W)
  (kk:∀ st' F',FAt P st' F'→Ex st F st' F'→k∈F'.ks .told→F'.log=F.log→Q (.ref (F'.adr (.cell .told k))) st'):callP mprog (d + 1) w_Summary w_told_by [.ref (F.adr .sm),k] st Q:=by
 refine call_df rfl rfl ?_
 refine xI (getA_ns (h.obj .sm trivial) (h.obj .smns trivial) rfl) ?_
 refine m_dct (h.obj (.tab .told) trivial) ⟨rfl,?_⟩
 exact setdef h hk kk
end
end Mine
namespace Mine
section
set_option maxRecDepth 10000
@[reducible] noncomputable def rg (j:Int):AV:=.cons (.str w_reg) (.cons (.int j) .nil)
@[reducible] noncomputable def gPtr:AV:=.cons (.str w_ptr) (.cons (.str w_main_g) (.cons .nil .nil))
noncomputable def TkOf (M:MP) (o x:AV):Prop:=(∃ j,o=rg j∧M (.cell .held (.int j)) x)∨(o=c__law_GLOBAL∧x=bTok)
noncomputable def isOp (o:AV):Prop:=o=c__law_NIL∨o=c__law_GLOBAL∨∃ j,o=rg j
theorem memF_lst {st:Store} {a:AV} {i:Nat} {l:List AV} {Q:Bool→Prop} (ha:a.isD=true) (h:st[i]?=some (.lst l)) (hd:allD l=true) (k:Q (decide (a∈l))):memF st a (.ref i) Q:=by
 refine ⟨ha,?_⟩
 show objM st[i]? _ _ _
 rw [h]
 exact ⟨hd,k⟩
theorem objw_none {st:Store} {d:Nat} {Q:AV→Store→Prop} (k:∀ g,(st++g)[st.length]?=some (.lst [])→Q (.ref st.length) (st++g)):callP mprog (d + 1) 0 w_objects_within [.none] st Q:=by
 refine call_df rfl rfl ?_
 refine And.intro rfl ?_
 have big:(st++[AObj.lst []]).length=st.length + 1:=by simp
 rw [big,List.append_assoc]
 refine ⟨2,?_⟩
 refine cmp_ne (ne_nil (l:=[.none]) (by rw [List.getElem?_append_left (by simp)]; exact get_mid2) set_new ?_)
 rw [List.append_assoc]
 refine m_lst get_mid2 ⟨rfl,?_⟩
 refine lst_pop (xs:=[]) get_mid2 (by simp) ?_
 show exW _ _ _ ((st++AObj.lst [] :: AObj.lst [AV.none] :: [AObj.lst []]).set (st.length + 1) (.lst [])) _
 rw [set_mid2]
 refine And.intro (by simp) ?_
 refine cmp_ne (ne_nil (l:=[]) (by rw [List.getElem?_append_left (by simp)]; exact get_mid2) set_new ?_)
 rw [List.append_assoc]
 exact k _ (by simp)
theorem objw_ptr {st:Store} {d:Nat} {Q:AV→Store→Prop} (k:∀ g,(st++g)[st.length]?=some (.lst [.str w_main_g])→Q (.ref st.length) (st++g)):callP mprog (d + 1) 0 w_objects_within [gPtr] st Q:=by
 refine call_df rfl rfl ?_
 refine And.intro rfl ?_
 have big:(st++[AObj.lst []]).length=st.length + 1:=by simp
 rw [big,List.append_assoc]
 refine ⟨2,?_⟩
 refine cmp_ne (ne_nil (l:=[gPtr]) (by rw [List.getElem?_append_left (by simp)]; exact get_mid2) set_new ?_)
 rw [List.append_assoc]
 refine m_lst get_mid2 ⟨rfl,?_⟩
 refine lst_pop (xs:=[]) get_mid2 (by simp) ?_
 show exW _ _ _ ((st++AObj.lst [] :: AObj.lst [gPtr] :: [AObj.lst []]).set (st.length + 1) (.lst [])) _
 rw [set_mid2]
 refine And.intro (by simp) ?_
 refine And.intro rfl (And.intro rfl ?_)
 rw [show decide (gPtr=AV.nil)=false from by simp]
 refine And.intro rfl (Exists.intro _ (And.intro rfl (And.intro rfl ?_)))
 rw [show decide (AV.str w_ptr∈[AV.str w_ptr,AV.str w_slice,AV.str w_map,AV.str w_chan,AV.str w_iter])=true from by decide]
 refine And.intro (by simp) ?_
 refine cmp_notin (memF_lst rfl get_mid rfl ?_)
 rw [show decide (AV.str w_main_g∈([]:List AV))=false from by simp]
 refine m_lst get_mid ⟨rfl,?_⟩
 refine lst_append get_mid (by simp) ?_
 rw [set_mid]
 refine cmp_ne (ne_nil (l:=[]) (by rw [List.getElem?_append_left (by simp)]; exact get_mid2) set_new ?_)
 rw [List.append_assoc]
 exact k _ (by simp)
theorem tokens_of_spec {P:FP} {st:Store} {F:FS} {d:Nat} {o:AV} {Q:AV→Store→Prop} (h:FAt P st F) (u:UTk P.U) (ho:isOp o)
  (k:∀ g a l,(st++g)[a]?=some (.lst l)→st.length≤a→(∀ x,x∈l↔TkOf F.M o x)→l.length≤43→Q (.ref a) (st++g)):callP mprog (d + 2) w_EscapeFlow w_tokens_of [.ref (F.adr .self),o] st Q:=by
 refine call_df rfl rfl ?_
 rcases ho with rfl | rfl | ⟨j,rfl⟩
 ·refine eqs ?_
  refine objw_none fun g hg=>?_
  refine cmp_ne (ne_nil (l:=[]) (by rw [List.getElem?_append_left (List.getElem?_eq_some_iff.mp hg).1]; exact hg) set_new ?_)
  have:=k (g++[AObj.lst []]++[AObj.lst []]) (st++g++[AObj.lst []]).length [] (by rw [← List.append_assoc,← List.append_assoc]; exact set_new) (by simp) (fun x=>by
   simp [TkOf]) (by simp)
  rw [← List.append_assoc,← List.append_assoc] at this
  exact this
 ·refine eqs ?_
  refine objw_ptr fun g hg=>?_
  refine cmp_ne (ne_nil (l:=[.str w_main_g]) (by rw [List.getElem?_append_left (List.getElem?_eq_some_iff.mp hg).1]; exact hg) set_new ?_)
  have:=k (g++[AObj.lst []]++[AObj.lst [bTok]]) (st++g++[AObj.lst []]).length [bTok] (by rw [← List.append_assoc,← List.append_assoc]; exact set_new) (by simp) (fun x=>by
   simp [TkOf]) (by simp)
  rw [← List.append_assoc,← List.append_assoc] at this
  exact this
 ·refine eqs ?_
  refine xI (getA_ns (h.obj .self trivial) (h.obj .ns trivial) rfl) ?_
  refine m_dct (h.obj (.tab .held) trivial) ⟨rfl,?_⟩
  refine get_cell h rfl fun a items ha hao hit hin=>?_
  refine bi_list (src_dct ha ?_)
  rw [setO_keys]
  have hw:items.length≤43:=w_len hin fun x hx=>(u.ok.w _ _ (h.up _ _ ((hit x).mp hx))).2
  refine ⟨by lia,?_⟩
  have:=k ([AObj.dct []]++[AObj.lst items]) (st++[AObj.dct []]).length items (by rw [← List.append_assoc]; exact set_new) (by simp) (fun x=>by
   rw [hit,TkOf]
   constructor
   ·exact fun z=>.inl ⟨j,rfl,z⟩
   ·rintro (⟨j',e,z⟩ | ⟨e,_⟩)
    ·simp at e; subst e; exact z
    ·injection e with e _; injection e with e; exact absurd e (by decide)) (by lia)
  rw [← List.append_assoc] at this
  exact this
end
end Mine
namespace Mine
section
set_option maxRecDepth 10000
theorem for_flow2 {P:FP} {st:Store} {F:FS} {l:List AV} {keep:Store→Prop} (I:Loc→Prop) (R:AV→FS→Prop) {step:AV→Loc→Store→(Fl→Loc→Store→Prop)→Prop} {m:Loc} {Q:Fl→Loc→Store→Prop}
  (h:FAt P st F) (hk:∀ st' F',Ex st F st' F'→keep st') (mono:∀ x s G s' G',Ex s G s' G'→R x G→R x G')
  (hs:∀ x∈l,∀ m st1 F1,I m→FAt P st1 F1→Ex st F st1 F1→∀ Q:Fl→Loc→Store→Prop,(∀ m' st' F',I m'→FAt P st' F'→Ex st1 F1 st' F'→R x F'→Q .next m' st'∧Q .cont m' st')→step x m st1 Q)
  (hm:I m) (k:∀ m' st' F',I m'→FAt P st' F'→Ex st F st' F'→(∀ x∈l,R x F')→Q .next m' st'):forW step keep l m st Q:=by
 refine for_inv (fun done m st'=>I m∧∃ F',FAt P st' F'∧Ex st F st' F'∧∀ x∈done,R x F') (fun done m st' ⟨_,F',h',x,_⟩=>hk _ _ x) (fun done x rest e m st1 ⟨im,F1,h1,x1,r1⟩ Q kk=>?_) ⟨hm,F,h,Ex.refl _ _,by simp⟩ fun m' st' ⟨im,F',h',x,r⟩=>k m' st' F' im h' x r
 refine hs x (by rw [e]; simp) m st1 F1 im h1 x1 Q fun m' st' F' im' h' x' r'=>kk m' st' ⟨im',F',h',x1.trans x',fun y hy=>?_⟩
 simp at hy
 rcases hy with hy | rfl
 ·exact mono _ _ _ _ _ x' (r1 y hy)
 ·exact r'
theorem toL_ofL (l:List AV):(AV.ofL l).toL=some l:=by
 induction l with
 | nil=>rfl
 | cons a r ih=>show (AV.ofL r).toL.map _=_; rw [ih]; rfl
theorem src_ofL {st:Store} {l:List AV} {Q:List AV→Option Nat→Prop} (k:Q l none):srcF .val st (AV.ofL l) Q:=by
 cases l with
 | nil=>exact k
 | cons a l=>exact xI (toL_ofL (a :: l)) k
theorem enum_ofL {st:Store} {l:List AV} {Q:List AV→Option Nat→Prop} (k:Q (enumL 0 l) none):srcF .enum st (.cons (AV.ofL l) .nil) Q:=by
 cases l with
 | nil=>exact k
 | cons a l=>exact xI (toL_ofL (a :: l)) k
theorem tokens_of_all_spec {P:FP} {st:Store} {F:FS} {d:Nat} {ops:List AV} {Q:AV→Store→Prop} (h:FAt P st F) (u:UTk P.U) (ho:∀ o∈ops,isOp o) (hl:ops.length≤8)
  (k:∀ g a l,(st++g)[a]?=some (.lst l)→st.length≤a→(∀ x,x∈l↔∃ o∈ops,TkOf F.M o x)→l.length≤1000→Q (.ref a) (st++g)):callP mprog (d + 3) w_EscapeFlow w_tokens_of_all [.ref (F.adr .self),AV.ofL ops] st Q:=by
 refine call_df rfl rfl ?_
 refine src_ofL ?_
 refine for_inv (fun done m st'=>(get m w_self=some (.ref (F.adr .self))∧get m w_found=some (.ref st.length))∧∃ l g,st'=st++.lst l :: g∧(∀ x,x∈l↔∃ o∈done,TkOf F.M o x)∧l.length≤43 * done.length) ?_ ?_ ⟨⟨rfl,rfl⟩,[],[],rfl,by simp,by simp⟩ ?_
 ·exact fun _ _ _ _=>trivial
 ·intro done o rest e m _ hI Q kk
  obtain ⟨⟨m1,m2⟩,l,g,rfl,hl1,hl2⟩:=hI
  have od:o∈ops:=by rw [e]; simp
  have dl:done.length≤8:=by rw [e] at hl; simp at hl; lia
  refine xI (get_put_ne rfl m2) ?_
  refine m_lst get_mid ⟨rfl,?_⟩
  refine xI (get_put_ne rfl m1) ?_
  refine m_ins ((h.app _).obj .self trivial) ⟨rfl,⟨_,(h.app _).obj .ns trivial,rfl⟩,?_⟩
  refine xI (get_put_eq) ?_
  refine tokens_of_spec (h.app _) u (ho o od) fun g2 a l2 ha hge hx hll=>?_
  refine lst_extend (xs:=l) (by rw [List.append_assoc,List.cons_append]; exact get_mid) ha (by simp at hge; lia) (by lia) ?_
  rw [List.append_assoc,List.cons_append,set_mid]
  refine (kk _ _ ⟨⟨get_put_ne rfl m1,get_put_ne rfl m2⟩,_,_,rfl,fun x=>?_,by simp; lia⟩).1
  simp only [List.mem_append,hl1,hx,List.mem_singleton]
  constructor
  ·rintro (⟨o',z1,z2⟩ | z)
   ·exact ⟨o',.inl z1,z2⟩
   ·exact ⟨o,.inr rfl,z⟩
  ·rintro ⟨o',z1 | rfl,z2⟩
   ·exact .inl ⟨o',z1,z2⟩
   ·exact .inr z2
 ·rintro m _ ⟨⟨m1,m2⟩,l,g,rfl,hl1,hl2⟩
  refine xI (m2) ?_
  exact k _ _ l get_mid (Nat.le_refl _) hl1 (by lia)
theorem TkOf.mono {M N:MP} (h:∀ r x,M r x→N r x) {o x:AV} (z:TkOf M o x):TkOf N o x:=by
 rcases z with ⟨j,e,z⟩ | z
 ·exact .inl ⟨j,e,h _ _ z⟩
 ·exact .inr z
theorem TkOf.tw {U:MP} (u:UTk U) {o x:AV} (z:TkOf U o x):TW x:=by
 rcases z with ⟨j,e,z⟩ | ⟨_,rfl⟩
 ·exact ⟨u.held _ _ z,(u.ok.w _ _ z).2⟩
 ·exact bTok_TW
theorem mem_enumL:∀ {l:List AV} {i:Int} {x:AV},x∈enumL i l↔∃ (j:Nat) (a:AV),l[j]?=some a∧x=pr (.int (i + j)) a
 | [],_,_=>by simp [enumL]
 | b :: l,i,x=>by
  simp only [enumL,List.mem_cons,mem_enumL (l:=l)]
  constructor
  ·rintro (rfl | ⟨j,a,h,rfl⟩)
   ·exact ⟨0,b,rfl,by simp⟩
   ·exact ⟨j + 1,a,h,by simp; lia⟩
  ·rintro ⟨j,a,h,rfl⟩
   cases j with
   | zero=>simp at h; subst h; exact .inl (by simp)
   | succ j=>exact .inr ⟨j,a,h,by simp; lia⟩
noncomputable def LOk (U:MP) (j:Int) (o:AV):Prop:=isOp o∧.int j∈W∧∀ x,TkOf U o x→U (.cell .told (.int j)) (kx x)∧(∀ s,x=sTok s→Lk U x)
noncomputable def LOd (F F':FS) (j:Int) (o:AV):Prop:=∀ x,TkOf F.M o x→F'.M (.cell .told (.int j)) (kx x)∧(∀ s,x=sTok s→Lkd F F' x)
theorem leave_ret {P:FP} {st:Store} {F:FS} {d:Nat} {ops:List AV} {Q:AV→Store→Prop} (h:FAt P st F) (u:UTk P.U) (ho:∀ (j:Nat) o,ops[j]?=some o→LOk P.U j o)
  (k:∀ st' F',FAt P st' F'→Ex st F st' F'→(∀ (j:Nat) o,ops[j]?=some o→LOd F F' j o)→Q .none st'):callP mprog (d + 4) w_EscapeFlow w_leave [.ref (F.adr .self),pr (.str w_return) (AV.ofL ops)] st Q:=by
 refine call_df rfl rfl ?_
 refine eqs ?_
 refine eqs ?_
 refine enum_ofL ?_
 refine for_flow2 (fun m=>get m w_self=some (.ref (F.adr .self))) (fun x G=>∀ (j:Nat) o,x=pr (.int j) o→LOd F G j o) h (fun _ _ _=>trivial) (fun x s G s' G' e z j o hx y hy=>⟨e.mem (z j o hx y hy).1,fun s hs=>((z j o hx y hy).2 s hs).mono (Ex.refl [] F) e⟩) (fun x hx m st1 F1 im h1 x1 Q kk=>?_) rfl fun m' st' F' _ h' x' r=>k st' F' h' x' fun j o hj=>r _ (mem_enumL.mpr ⟨j,o,hj,by simp⟩) j o rfl
 obtain ⟨j,o,hj,rfl⟩:=mem_enumL.mp hx
 rw [show ((0:Int) + (j:Nat))=(j:Int) from by lia] at *
 obtain ⟨lo,jw,lu⟩:=ho j o hj
 have es:F1.adr .self=F.adr .self:=(x1.adr .self trivial).2
 refine And.intro rfl ?_
 refine xI (get_put_ne rfl (get_put_ne rfl im)) ?_
 rw [← es]
 refine xI (getA_sm h1) ?_
 refine m_ins (h1.obj .sm trivial) ⟨rfl,⟨_,h1.obj .smns trivial,rfl⟩,?_⟩
 refine xI (get_put_ne rfl get_put_eq) ?_
 refine told_by_spec h1 jw fun st2 F2 h2 x2 l2 e2=>?_
 have es2:F2.adr .self=F.adr .self:=by rw [(x2.adr .self trivial).2,es]
 refine xI (get_put_ne rfl (get_put_ne rfl im)) ?_
 rw [← es2]
 refine m_ins (h2.obj .self trivial) ⟨rfl,⟨_,h2.obj .ns trivial,rfl⟩,?_⟩
 refine xI (get_put_eq) ?_
 refine tokens_of_spec h2 u lo fun g a l ha hge hl hll=>?_
 have h3:=h2.app g
 have hao:¬ F2.own a:=own_new h2 hge
 refine And.intro rfl ?_
 have l3:(FS.live F2 (.cell .told (.int j))):=l2
 refine xI get_put_eq ?_
 refine src_lst ha ?_
 refine for_flow (fun m=>get m w_self=some (.ref (F.adr .self))∧get m w_tokens=some (.ref a)∧get m w_told=some (.ref (F2.adr (.cell .told (.int j))))) (fun x G=>G.M (.cell .told (.int j)) (kx x)) h3 ha hao (fun x _ _ _ _ e z=>e.mem z) (fun x hx m st4 F4 im4 h4 x4 Q kk4=>?_) ⟨get_put_ne rfl (get_put_ne rfl (get_put_ne rfl (get_put_ne rfl im))),get_put_eq,get_put_ne rfl get_put_eq⟩ fun m' st4 F4 im4 h4 x4 r4=>?_
 ·have es4:F4.adr .self=F.adr .self:=by rw [(x4.adr .self trivial).2,es2]
  have l4:=x4.adr (.cell .told (.int j)) l3
  have xo:=(hl x).mp hx
  have xw:TW x:=(xo.mono h2.up).tw u
  have xu:=(lu x (xo.mono h2.up)).1
  refine xI (get_put_ne rfl im4.1) ?_
  rw [← es4]
  refine m_ins (h4.obj .self trivial) ⟨rfl,⟨_,h4.obj .ns trivial,rfl⟩,?_⟩
  refine xI (get_put_ne rfl im4.2.2) ?_
  refine xI (get_put_eq) ?_
  rw [← l4.2]
  rcases xw.1 with rfl | ⟨i,rfl⟩ | ⟨s,rfl⟩
  ·refine eqs ?_
   refine note_spec u.ok h4 l4.1 trivial xu fun st5 F5 h5 x5 r5=>?_
   exact (kk4 _ _ _ ⟨get_put_ne rfl im4.1,get_put_ne rfl im4.2.1,get_put_ne rfl im4.2.2⟩ h5 x5 r5).1
  ·refine eqs ?_
   refine xI (get_put_eq) ?_
   refine note_spec u.ok h4 l4.1 trivial xu fun st5 F5 h5 x5 r5=>?_
   exact (kk4 _ _ _ ⟨get_put_ne rfl im4.1,get_put_ne rfl im4.2.1,get_put_ne rfl im4.2.2⟩ h5 x5 r5).1
  ·refine eqs ?_
   refine note_spec u.ok h4 l4.1 trivial xu fun st5 F5 h5 x5 r5=>?_
   exact (kk4 _ _ _ ⟨get_put_ne rfl im4.1,get_put_ne rfl im4.2.1,get_put_ne rfl im4.2.2⟩ h5 x5 r5).1
 ·have es4:F4.adr .self=F.adr .self:=by rw [(x4.adr .self trivial).2,es2]
  have ha4:=own_out x4 ha hao
  have hao4:=own_not x4 (List.getElem?_eq_some_iff.mp ha).1 hao
  refine xI im4.1 ?_
  rw [← es4]
  refine m_ins (h4.obj .self trivial) ⟨rfl,⟨_,h4.obj .ns trivial,rfl⟩,?_⟩
  refine xI im4.2.1 ?_
  refine src_lst ha4 ?_
  refine comp_inv (fun done acc s=>st4=s∧acc.length≤done.length∧∀ x,x∈acc↔x∈done∧∃ s,x=sTok s) (fun _ _ _ ⟨e,_⟩=>by subst e; rfl) ?_ ⟨rfl,by simp,by simp⟩ ?_
  ·intro done x rest e acc _ hI Q3 kk3
   obtain ⟨rfl,al,hx⟩:=hI
   have dl:done.length≤43:=by rw [e] at hll; simp at hll; lia
   have xo:=(hl x).mp (by rw [e]; simp)
   have xw:TW x:=(xo.mono h2.up).tw u
   refine xI (get_put_eq) ?_
   rcases xw.1 with rfl | ⟨i,rfl⟩ | ⟨s,rfl⟩
   ·refine eqs ?_
    refine kk3 _ _ ⟨rfl,by simp; lia,fun y=>?_⟩
    rw [hx]; simp only [List.mem_append,List.mem_singleton]
    exact ⟨fun z=>⟨.inl z.1,z.2⟩,fun ⟨z,s,e⟩=>⟨z.resolve_right fun q=>by rw [q] at e; exact b_ne_s e,s,e⟩⟩
   ·refine eqs ?_
    refine kk3 _ _ ⟨rfl,by simp; lia,fun y=>?_⟩
    rw [hx]; simp only [List.mem_append,List.mem_singleton]
    exact ⟨fun z=>⟨.inl z.1,z.2⟩,fun ⟨z,s,e⟩=>⟨z.resolve_right fun q=>by rw [q] at e; exact o_ne_s e,s,e⟩⟩
   ·refine eqs ?_
    refine xI (get_put_eq) ?_
    refine ⟨by lia,kk3 _ _ ⟨rfl,by simp; lia,fun y=>?_⟩⟩
    simp only [List.mem_append,List.mem_singleton,hx]
    constructor
    ·rintro (z | rfl)
     ·exact ⟨.inl z.1,z.2⟩
     ·exact ⟨.inr rfl,s,rfl⟩
    ·rintro ⟨z | rfl,z2⟩
     ·exact .inl ⟨z,z2⟩
     ·exact .inr rfl
  ·rintro acc _ ⟨rfl,al,hx⟩
   have aw:∀ t∈acc,TkOf F2.M o t∧∃ s,t=sTok s:=fun t z=>⟨(hl t).mp ((hx t).mp z).1,((hx t).mp z).2⟩
   refine leak_spec u (h4.app _) set_new (fun t z=>((aw t z).1.mono h2.up).tw u) (by lia) (fun t z=>(lu t ((aw t z).1.mono h2.up)).2 _ (aw t z).2.choose_spec) fun st6 F6 h6 x6 r6=>?_
   have x26:Ex st2 F2 st6 F6:=(Ex.app h2 g).trans (x4.trans ((Ex.app h4 _).trans x6))
   have x46:Ex st4 F4 st6 F6:=(Ex.app h4 _).trans x6
   refine (kk _ _ _ im4.1 h6 (x2.trans x26) fun j' o' e y hy=>?_).1
   simp at e
   obtain ⟨ej,rfl⟩:=e
   have ej:j=j':=by lia
   subst ej
   have hy2:=hy.mono (x1.trans x2).M
   refine ⟨x46.mem (r4 y ((hl y).mpr hy2)),fun s hs=>?_⟩
   refine (r6 y ((hx y).mpr ⟨(hl y).mpr hy2,s,hs⟩)).mono ((x1.trans x2).trans ((Ex.app h2 g).trans x4)) (Ex.refl [] F6)
theorem leave_panic {P:FP} {st:Store} {F:FS} {d:Nat} {o:AV} {Q:AV→Store→Prop} (h:FAt P st F) (u:UTk P.U) (ho:isOp o) (hU:∀ x,TkOf P.U o x→Lk P.U x)
  (k:∀ st' F',FAt P st' F'→Ex st F st' F'→(∀ x,TkOf F.M o x→Lkd F F' x)→Q .none st'):callP mprog (d + 4) w_EscapeFlow w_leave [.ref (F.adr .self),pr (.str w_panic) o] st Q:=by
 refine call_df rfl rfl ?_
 refine eqs ?_
 refine m_ins (h.obj .self trivial) ⟨rfl,⟨_,h.obj .ns trivial,rfl⟩,?_⟩
 refine m_ins (h.obj .self trivial) ⟨rfl,⟨_,h.obj .ns trivial,rfl⟩,?_⟩
 refine tokens_of_spec h u ho fun g a l ha hge hl hll=>?_
 refine leak_spec u (h.app g) ha (fun t z=>(((hl t).mp z).mono h.up).tw u) (by lia) (fun t z=>hU t (((hl t).mp z).mono h.up)) fun st2 F2 h2 x2 r2=>?_
 exact k _ _ h2 ((Ex.app h g).trans x2) fun x z=>r2 x ((hl x).mpr z)
end
end Mine
namespace Mine
section
set_option maxRecDepth 10000
theorem mem_chain {st:Store} {a:AV} {v:AV} {l:List AV} {Q:Bool→Prop} (ha:a.isD=true) (hv:v.isChain=true) (hl:v.toL=some l) (hd:allD l=true) (k:Q (decide (a∈l))):cmpF .isin st a v Q:=by
 cases v <;> first | exact ⟨ha,l,hl,hd,k⟩ | exact absurd hv (by simp [AV.isChain])
theorem look_new {P:FP} {st:Store} {F:FS} {d:Nat} {j:Int} {s t:AV} {Q:AV→Store→Prop} (u:UTk P.U) (h:FAt P st F) (hj:AV.int j∈W) (hs:P.U (.top .sites) s) (hU:P.U (.cell .held (.int j)) (sTok s))
  (k:∀ st' F',FAt P st' F'→Ex st F st' F'→F'.M (.top .sites) s→F'.M (.cell .held (.int j)) (sTok s)→Q .none st'):callP mprog (d + 9) w_EscapeFlow w_look [.ref (F.adr .self),.cons (.str w_new) (.cons (.int j) (.cons t (.cons s .nil)))] st Q:=by
 refine call_df rfl rfl ?_
 refine mem_chain rfl rfl rfl rfl ?_
 refine m_ins (h.obj .self trivial) ⟨rfl,⟨_,h.obj .ns trivial,rfl⟩,?_⟩
 refine call_df rfl rfl ?_
 refine m_ins (h.obj .self trivial) ⟨rfl,⟨_,h.obj .ns trivial,rfl⟩,?_⟩
 refine make_spec u.ok h hj hs hU fun st1 F1 h1 x1 r1 r2=>?_
 refine eqs ?_
 refine eqs ?_
 refine eqs ?_
 exact k _ _ h1 x1 r1 r2
theorem tof_tw {P:FP} {st:Store} {F:FS} (u:UTk P.U) (h:FAt P st F) {l:List AV} {o:AV} (hl:∀ x,x∈l↔TkOf F.M o x):∀ t∈l,TW t:=fun t z=>(((hl t).mp z).mono h.up).tw u
noncomputable def PmO (U:MP) (o1 o2:AV):Prop:=∀ g,TkOf U o1 g→(g=bTok→∀ t,TkOf U o2 t→Lk U t)∧(∀ o,g=oTok (.int o)→∀ t,TkOf U o2 t→POk U o t)∧∀ s,g=sTok s→(∀ t,TkOf U o2 t→U (.cell .inside s) t)∧(U (.top .gone) s→∀ t,TkOf U o2 t→Lk U t)
noncomputable def PdO (F F':FS) (o1 o2:AV):Prop:=∀ g,TkOf F.M o1 g→(g=bTok→∀ t,TkOf F.M o2 t→Lkd F F' t)∧(∀ o,g=oTok (.int o)→∀ t,TkOf F.M o2 t→POd F F' o t)∧∀ s,g=sTok s→∀ t,TkOf F.M o2 t→F'.M (.cell .inside s) t
theorem look_store {P:FP} {st:Store} {F:FS} {d:Nat} {o1 o2:AV} {Q:AV→Store→Prop} (u:UTk P.U) (h:FAt P st F) (p1:isOp o1) (p2:isOp o2) (hU:PmO P.U o1 o2)
  (k:∀ st' F',FAt P st' F'→Ex st F st' F'→PdO F F' o1 o2→Q .none st'):callP mprog (d + 9) w_EscapeFlow w_look [.ref (F.adr .self),.cons (.str w_store) (.cons o1 (.cons o2 .nil))] st Q:=by
 refine call_df rfl rfl ?_
 refine mem_chain rfl rfl rfl rfl ?_
 refine mem_chain rfl rfl rfl rfl ?_
 refine mem_chain rfl rfl rfl rfl ?_
 refine m_ins (h.obj .self trivial) ⟨rfl,⟨_,h.obj .ns trivial,rfl⟩,?_⟩
 refine call_df rfl rfl ?_
 refine eqs ?_
 refine m_ins (h.obj .self trivial) ⟨rfl,⟨_,h.obj .ns trivial,rfl⟩,?_⟩
 refine m_ins (h.obj .self trivial) ⟨rfl,⟨_,h.obj .ns trivial,rfl⟩,?_⟩
 refine tokens_of_spec h u p1 fun g1 a1 l1 ha1 hge1 hl1 hll1=>?_
 have h1:=h.app g1
 refine m_ins (h1.obj .self trivial) ⟨rfl,⟨_,h1.obj .ns trivial,rfl⟩,?_⟩
 refine tokens_of_spec h1 u p2 fun g2 a2 l2 ha2 hge2 hl2 hll2=>?_
 have h2:=h1.app g2
 refine put_spec u h2 (tgs:=l1) (by rw [List.getElem?_append_left (List.getElem?_eq_some_iff.mp ha1).1]; exact ha1) (own_new h hge1) ha2 (own_new h1 hge2) (tof_tw u h hl1) (tof_tw u h hl2) (by lia) (fun g hg=>?_) fun st3 F3 h3 x3 r3=>?_
 ·have:=hU g (((hl1 g).mp hg).mono h.up)
  exact ⟨fun e t z=>this.1 e t (((hl2 t).mp z).mono h.up),fun o e t z=>this.2.1 o e t (((hl2 t).mp z).mono h.up),fun s e=>⟨fun t z=>(this.2.2 s e).1 t (((hl2 t).mp z).mono h.up),fun q t z=>(this.2.2 s e).2 q t (((hl2 t).mp z).mono h.up)⟩⟩
 ·refine k _ _ h3 (((Ex.app h g1).trans (Ex.app h1 g2)).trans x3) fun g hg=>?_
  have:=r3 g ((hl1 g).mpr hg)
  exact ⟨fun e t z=>this.1 e t ((hl2 t).mpr z),fun o e t z=>this.2.1 o e t ((hl2 t).mpr z),fun s e t z=>this.2.2 s e t ((hl2 t).mpr z)⟩
theorem look_send {P:FP} {st:Store} {F:FS} {d:Nat} {o1 o:AV} {Q:AV→Store→Prop} (u:UTk P.U) (h:FAt P st F) (p:isOp o) (hU:∀ x,TkOf P.U o x→Lk P.U x)
  (k:∀ st' F',FAt P st' F'→Ex st F st' F'→(∀ x,TkOf F.M o x→Lkd F F' x)→Q .none st'):callP mprog (d + 9) w_EscapeFlow w_look [.ref (F.adr .self),.cons (.str w_send) (.cons o1 (.cons o .nil))] st Q:=by
 refine call_df rfl rfl ?_
 refine mem_chain rfl rfl rfl rfl ?_
 refine mem_chain rfl rfl rfl rfl ?_
 refine mem_chain rfl rfl rfl rfl ?_
 refine m_ins (h.obj .self trivial) ⟨rfl,⟨_,h.obj .ns trivial,rfl⟩,?_⟩
 refine call_df rfl rfl ?_
 refine eqs ?_
 refine eqs ?_
 refine eqs ?_
 refine eqs ?_
 refine m_ins (h.obj .self trivial) ⟨rfl,⟨_,h.obj .ns trivial,rfl⟩,?_⟩
 refine m_ins (h.obj .self trivial) ⟨rfl,⟨_,h.obj .ns trivial,rfl⟩,?_⟩
 refine tokens_of_spec h u p fun g1 a1 l1 ha1 hge1 hl1 hll1=>?_
 refine leak_spec u (h.app g1) ha1 (tof_tw u h hl1) (by lia) (fun t z=>hU t (((hl1 t).mp z).mono h.up)) fun st2 F2 h2 x2 r2=>?_
 exact k _ _ h2 ((Ex.app h g1).trans x2) fun x z=>r2 x ((hl1 x).mpr z)
theorem look_face {P:FP} {st:Store} {F:FS} {d:Nat} {o t:AV} {j:Int} {Q:AV→Store→Prop} (u:UTk P.U) (h:FAt P st F) (p:isOp o) (hj:AV.int j∈W) (hU:∀ x,TkOf P.U o x→Lk P.U x∧P.U (.cell .held (.int j)) x)
  (k:∀ st' F',FAt P st' F'→Ex st F st' F'→(∀ x,TkOf F.M o x→Lkd F F' x)→Q .none st'):callP mprog (d + 9) w_EscapeFlow w_look [.ref (F.adr .self),.cons (.str w_face) (.cons (.int j) (.cons o (.cons t .nil)))] st Q:=by
 refine call_df rfl rfl ?_
 refine mem_chain rfl rfl rfl rfl ?_
 refine mem_chain rfl rfl rfl rfl ?_
 refine mem_chain rfl rfl rfl rfl ?_
 refine m_ins (h.obj .self trivial) ⟨rfl,⟨_,h.obj .ns trivial,rfl⟩,?_⟩
 refine call_df rfl rfl ?_
 refine eqs ?_
 refine eqs ?_
 refine eqs ?_
 refine eqs ?_
 refine eqs ?_
 refine m_ins (h.obj .self trivial) ⟨rfl,⟨_,h.obj .ns trivial,rfl⟩,?_⟩
 refine m_ins (h.obj .self trivial) ⟨rfl,⟨_,h.obj .ns trivial,rfl⟩,?_⟩
 refine tokens_of_spec h u p fun g1 a1 l1 ha1 hge1 hl1 hll1=>?_
 refine leak_spec u (h.app g1) ha1 (tof_tw u h hl1) (by lia) (fun t z=>(hU t (((hl1 t).mp z).mono h.up)).1) fun st2 F2 h2 x2 r2=>?_
 have es:F2.adr .self=F.adr .self:=(x2.adr .self trivial).2
 rw [← es]
 refine m_ins (h2.obj .self trivial) ⟨rfl,⟨_,h2.obj .ns trivial,rfl⟩,?_⟩
 refine m_ins (h2.obj .self trivial) ⟨rfl,⟨_,h2.obj .ns trivial,rfl⟩,?_⟩
 refine tokens_of_spec h2 u p fun g3 a3 l3 ha3 hge3 hl3 hll3=>?_
 refine give_spec u.ok (h2.app g3) hj ha3 (own_new h2 hge3) (fun t z=>(hU t (((hl3 t).mp z).mono h2.up)).2) fun st4 F4 h4 x4 r4=>?_
 have x24:=(Ex.app h2 g3).trans x4
 exact k _ _ h4 (((Ex.app h g1).trans x2).trans x24) fun x z=>(r2 x ((hl1 x).mpr z)).mono (Ex.refl [] F) x24
theorem look_load {P:FP} {st:Store} {F:FS} {d:Nat} {o:AV} {j:Int} {Q:AV→Store→Prop} (u:UTk P.U) (h:FAt P st F) (p:isOp o) (hj:AV.int j∈W) (hU:∀ t x,TkOf P.U o t→Ld P.U t x→P.U (.cell .held (.int j)) x)
  (k:∀ st' F',FAt P st' F'→Ex st F st' F'→Q .none st'):callP mprog (d + 9) w_EscapeFlow w_look [.ref (F.adr .self),.cons (.str w_load) (.cons (.int j) (.cons o .nil))] st Q:=by
 refine call_df rfl rfl ?_
 refine mem_chain rfl rfl rfl rfl ?_
 refine mem_chain rfl rfl rfl rfl ?_
 refine mem_chain rfl rfl rfl rfl ?_
 refine mem_chain rfl rfl rfl rfl ?_
 refine mem_chain rfl rfl rfl rfl ?_
 refine m_ins (h.obj .self trivial) ⟨rfl,⟨_,h.obj .ns trivial,rfl⟩,?_⟩
 refine call_df rfl rfl ?_
 refine eqs ?_
 refine m_ins (h.obj .self trivial) ⟨rfl,⟨_,h.obj .ns trivial,rfl⟩,?_⟩
 refine m_ins (h.obj .self trivial) ⟨rfl,⟨_,h.obj .ns trivial,rfl⟩,?_⟩
 refine m_ins (h.obj .self trivial) ⟨rfl,⟨_,h.obj .ns trivial,rfl⟩,?_⟩
 refine tokens_of_spec h u p fun g1 a1 l1 ha1 hge1 hl1 hll1=>?_
 have h1:=h.app g1
 refine loaded_spec u h1 ha1 (tof_tw u h hl1) fun g2 a2 l2 ha2 hge2 hl2 hn2=>?_
 have h2:=h1.app g2
 refine give_spec u.ok h2 hj ha2 (own_new h1 hge2) (fun x z=>?_) fun st4 F4 h4 x4 r4=>k _ _ h4 (((Ex.app h g1).trans (Ex.app h1 g2)).trans x4)
 obtain ⟨t,z1,z2⟩:=(hl2 x).mp z
 exact hU t x (((hl1 t).mp z1).mono h.up) (z2.mono h.up)
theorem look_move {P:FP} {st:Store} {F:FS} {d:Nat} {o:AV} {j:Int} {Q:AV→Store→Prop} (u:UTk P.U) (h:FAt P st F) (p:isOp o) (hj:AV.int j∈W) (hU:∀ t,TkOf P.U o t→P.U (.cell .held (.int j)) t)
  (k:∀ st' F',FAt P st' F'→Ex st F st' F'→(∀ x,TkOf F.M o x→F'.M (.cell .held (.int j)) x)→Q .none st'):callP mprog (d + 9) w_EscapeFlow w_look [.ref (F.adr .self),.cons (.str w_move) (.cons (.int j) (.cons o .nil))] st Q:=by
 refine call_df rfl rfl ?_
 refine mem_chain rfl rfl rfl rfl ?_
 refine mem_chain rfl rfl rfl rfl ?_
 refine mem_chain rfl rfl rfl rfl ?_
 refine mem_chain rfl rfl rfl rfl ?_
 refine m_ins (h.obj .self trivial) ⟨rfl,⟨_,h.obj .ns trivial,rfl⟩,?_⟩
 refine m_ins (h.obj .self trivial) ⟨rfl,⟨_,h.obj .ns trivial,rfl⟩,?_⟩
 refine tokens_of_spec h u p fun g1 a1 l1 ha1 hge1 hl1 hll1=>?_
 have h1:=h.app g1
 refine give_spec u.ok h1 hj ha1 (own_new h hge1) (fun x z=>hU x (((hl1 x).mp z).mono h.up)) fun st4 F4 h4 x4 r4=>?_
 refine eqs ?_
 exact k _ _ h4 ((Ex.app h g1).trans x4) fun x z=>r4 x ((hl1 x).mpr z)
end
end Mine
namespace Mine
section
set_option maxRecDepth 10000
noncomputable def SumAt (st:Store) (N:Nat→Prop) (sm:Nat) (ks tl:List AV):Prop:=Ex4 fun n a1 a2 a3=>And10 (st[sm]?=some (.ins w_Summary n)) (st[n]?=some (.ns [(w_leaks,.ref a1),(w_kept,.ref a2),(w_told,.ref a3)])) (st[a1]?=some (.dct [])) (st[a2]?=some (setO ks)) (N sm) (N n) (N a1) (N a2) (N a3) (∃ td,st[a3]?=some (.dct td)∧(kget td (.int 0)=none∧tl=[]∨∃ b,kget td (.int 0)=some (.ref b)∧st[b]?=some (setO tl)∧N b))
theorem SumAt.ex {st st':Store} {F F':FS} {sm:Nat} {ks tl:List AV} (h:SumAt st (fun a=>¬ F.own a) sm ks tl) (x:Ex st F st' F'):SumAt st' (fun a=>¬ F'.own a) sm ks tl:=by
 obtain ⟨n,a1,a2,a3,h1,h2,h3,h4,n1,n2,n3,n4,n5,h5⟩:=h
 have t:∀ {a:Nat} {o:AObj},st[a]?=some o→¬ F.own a→st'[a]?=some o:=fun e z=>own_out x e z
 have w:∀ {a:Nat} {o:AObj},st[a]?=some o→¬ F.own a→¬ F'.own a:=fun e z=>own_not x (List.getElem?_eq_some_iff.mp e).1 z
 refine ⟨n,a1,a2,a3,t h1 n1,t h2 n2,t h3 n3,t h4 n4,w h1 n1,w h2 n2,w h3 n3,w h4 n4,?_,?_⟩
 ·obtain ⟨td,e,_⟩:=h5; exact w e n5
 ·obtain ⟨td,e,h5⟩:=h5
  refine ⟨td,t e n5,?_⟩
  rcases h5 with q | ⟨b,q0,q,z⟩
  ·exact .inl q
  ·exact .inr ⟨b,q0,t q z,w q z⟩
noncomputable def RT (M:MP) (o x:AV):Prop:=∃ t,TkOf M o t∧Rch M t x
theorem RT.mono {M N:MP} (h:∀ r x,M r x→N r x) {o x:AV} (z:RT M o x):RT N o x:=let ⟨t,a,b⟩:=z; ⟨t,a.mono h,b.mono h⟩
theorem RT.tw {U:MP} (u:UTk U) {o x:AV} (z:RT U o x):TW x:=let ⟨_,a,b⟩:=z; rch_tw u b (a.tw u)
theorem sub_lst {st:Store} {i:Nat} {l:List AV} {j:Int} {v:AV} (h:st[i]?=some (.lst l)) (hj:0≤j∧j < 2 ^ 62) (hv:l[j.toNat]?=some v):subF st (.ref i) (.int j)=some v:=by
 show objO st[i]? _ _ _=_
 rw [h]
 exact (if_pos hj).trans hv
theorem sub_dct {st:Store} {i:Nat} {d:List (AV×AV)} {k v:AV} (hk:k.isD=true) (h:st[i]?=some (.dct d)) (hv:kget d k=some v):subF st (.ref i) k=some v:=by
 show objO st[i]? _ _ _=_
 rw [h]
 exact (if_pos hk).trans hv
theorem bi_len {st:Store} {i:Nat} {l:List AV} {Q:AV→Store→Prop} (h:st[i]?=some (.lst l)) (hl:l.length < 2 ^ 24) (k:Q (.int l.length) st):biF (fun _=>.none) .len st [.ref i] Q:=by
 show objM st[i]? _ _ _
 rw [h]; exact ⟨hl,k⟩
theorem le_if {op:COp} {st:Store} {a b:Int} {Q:Bool→Prop} (o:op=.le) (h:a≤b) (k:Q true):cmpF op st (.int a) (.int b) Q:=by
 subst o; show Q (decide (a≤b)); rw [decide_eq_true h]; exact k
theorem lt_tt {st:Store} {a b:Int} {Q:Bool→Prop} (h:a < b) (k:Q true):cmpF .lt st (.int a) (.int b) Q:=by
 show Q (decide (a < b)); rw [decide_eq_true h]; exact k
theorem Ex.lkup {st st':Store} {F F':FS} (x:Ex st F st' F') {i:Nat} {o:AObj} (h:st[i]?=some o) (ho:¬ F.own i):st'[i]?=st[i]?:=by rw [own_out x h ho,h]
theorem follow_spec {P:FP} {st:Store} {F:FS} {d:Nat} {o0 o1:AV} {j:Int} {sm rs:Nat} {ks tl:List AV} {Q:AV→Store→Prop} (u:UTk P.U) (h:FAt P st F) (p0:isOp o0) (p1:isOp o1) (hj:AV.int j∈W)
  (hs:SumAt st (fun a=>¬ F.own a) sm ks tl) (hrs:st[rs]?=some (.lst [.int j])) (hro:¬ F.own rs)
  (hk:ks=[]∨ks=[pr (.int 1) (.int 0)]∧∀ g,RT P.U o0 g→(g=bTok→∀ t,RT P.U o1 t→Lk P.U t)∧(∀ o,g=oTok (.int o)→∀ t,RT P.U o1 t→POk P.U o t)∧∀ s,g=sTok s→(∀ t,RT P.U o1 t→P.U (.cell .inside s) t)∧(P.U (.top .gone) s→∀ t,RT P.U o1 t→Lk P.U t))
  (ht:tl=[]∨tl=[.int 0]∧∀ x,RT P.U o0 x→P.U (.cell .held (.int j)) x)
  (k:∀ st' F',FAt P st' F'→Ex st F st' F'→(ks=[pr (.int 1) (.int 0)]→∀ s t,RT F.M o0 (sTok s)→RT F.M o1 t→F'.M (.cell .inside s) t)→Q .none st') :
  callP mprog (d + 7) w_EscapeFlow w_follow [.ref (F.adr .self),.ref sm,pr o0 o1,.ref rs] st Q:=by
 refine call_df rfl rfl ?_
 refine And.intro trivial ?_
 refine m_ins (h.obj .self trivial) ⟨rfl,⟨_,h.obj .ns trivial,rfl⟩,?_⟩
 refine m_ins (h.obj .self trivial) ⟨rfl,⟨_,h.obj .ns trivial,rfl⟩,?_⟩
 refine tokens_of_spec h u p0 fun g1 a1 l1 ha1 hge1 hl1 hll1=>?_
 have h1:=h.app g1
 refine reached_spec u h1 ha1 (tof_tw u h hl1) (by lia) fun g2 a2 l2 ha2 hge2 hl2 hn2=>?_
 have h2:=h1.app g2
 refine And.intro (by simp) ?_
 refine And.intro trivial ?_
 refine m_ins (h2.obj .self trivial) ⟨rfl,⟨_,h2.obj .ns trivial,rfl⟩,?_⟩
 refine m_ins (h2.obj .self trivial) ⟨rfl,⟨_,h2.obj .ns trivial,rfl⟩,?_⟩
 refine tokens_of_spec h2 u p1 fun g3 a3 l3 ha3 hge3 hl3 hll3=>?_
 have h3:=h2.app g3
 refine reached_spec u h3 ha3 (tof_tw u h hl3) (by lia) fun g4 a4 l4 ha4 hge4 hl4 hn4=>?_
 have h4:=h3.app g4
 refine And.intro (by simp) ?_
 refine And.intro trivial ?_
 have x4:Ex st F (st++g1++g2++g3++g4) F:=(Ex.app h g1).trans ((Ex.app h1 g2).trans ((Ex.app h2 g3).trans (Ex.app h3 g4)))
 have q2:∀ x,x∈l2↔RT F.M o0 x:=fun x=>by rw [hl2]; exact ⟨fun ⟨t,a,b⟩=>⟨t,(hl1 t).mp a,b⟩,fun ⟨t,a,b⟩=>⟨t,(hl1 t).mpr a,b⟩⟩
 have q4:∀ x,x∈l4↔RT F.M o1 x:=fun x=>by rw [hl4]; exact ⟨fun ⟨t,a,b⟩=>⟨t,(hl3 t).mp a,b⟩,fun ⟨t,a,b⟩=>⟨t,(hl3 t).mpr a,b⟩⟩
 have ha2':(st++g1++g2++g3++g4)[a2]?=some (.lst l2):=own_out ((Ex.app h2 g3).trans (Ex.app h3 g4)) ha2 (own_new h1 hge2)
 generalize st++g1++g2++g3++g4=s4 at *
 have h5:=h4.app [.lst [.ref a2,.ref a4]]
 have x5:=x4.trans (Ex.app h4 [.lst [.ref a2,.ref a4]])
 have n2:¬ F.own a2:=own_new h1 hge2
 have n4:¬ F.own a4:=own_new h3 hge4
 have hb2:=own_out (Ex.app h4 [.lst [.ref a2,.ref a4]]) ha2' n2
 have hb4:=own_out (Ex.app h4 [.lst [.ref a2,.ref a4]]) ha4 n4
 have hh:(s4++[AObj.lst [.ref a2,.ref a4]])[s4.length]?=some (.lst [.ref a2,.ref a4]):=set_new
 have hho:¬ F.own s4.length:=own_new h4 (Nat.le_refl _)
 have hs5:=hs.ex x5
 show exW _ _ _ (s4++[AObj.lst [.ref a2,.ref a4]]) _
 generalize s4.length=hd at *
 generalize s4++[AObj.lst [.ref a2,.ref a4]]=s5 at *
 have x5':Ex st F s5 F:=x5
 obtain ⟨n,b1,b2,b3,e1,e2,e3,e4,f1,f2,f3,f4,f5,e5⟩:=id hs5
 refine xI (getA_ns e1 e2 rfl) ?_
 refine ⟨[],[],e3,by simp,.inl ⟨rfl,rfl⟩,?_⟩
 refine src_lst set_new ?_
 refine And.intro rfl ?_
 have h6:=h5.app [.lst []]
 have x6:=x5'.trans (Ex.app h5 [.lst []])
 have y56:=Ex.app h5 [.lst []]
 have hb2':=own_out y56 hb2 n2
 have hb4':=own_out y56 hb4 n4
 have hh':=own_out y56 hh hho
 have hs6:=hs5.ex y56
 have hr6:=own_out x6 hrs hro
 clear e1 e2 e3 e4 e5 f1 f2 f3 f4 f5
 generalize s5++[AObj.lst []]=s6 at *
 obtain ⟨n,b1,b2,b3,e1,e2,e3,e4,f1,f2,f3,f4,f5,e5⟩:=id hs6
 refine xI (getA_ns e1 e2 rfl) ?_
 have last:∀ st7 F7 m,FAt P st7 F7→Ex s6 F st7 F7→(ks=[pr (.int 1) (.int 0)]→∀ s t,RT F.M o0 (sTok s)→RT F.M o1 t→F7.M (.cell .inside s) t) →
   get m w_self=some (.ref (F.adr .self))→get m w_summary=some (.ref sm)→get m w_registers=some (.ref rs)→get m w_handed=some (.ref hd) →
   exW (Vd (d + 6)) (.seq (.forr (.tup (.cons (.nm w_at) (.cons (.nm w_register) .nil))) .enum (.cons (.nm w_registers) .nil) (.seq (.forr (.nm w_told) .val (.meth (.attr (.nm w_summary) w_told) w_get (.cons (.nm w_at) (.cons (.dct .nil) .nil))) (.seq (.exp (.meth (.nm w_self) w_give (.cons (.nm w_register) (.cons (.ife (.cmp .eq (.nm w_told) (.gl w_UNKNOWN)) (.lst (.cons (.gl w_BEYOND) .nil)) (.sub (.nm w_handed) (.nm w_told))) .nil)))) .skip)) .skip)) .skip) m st7 fun fl _ s1=>Q (match fl with | .ret v=>v | _=>.none) s1:=by
  intro st7 F7 m h7 x7 r7 g1 g2 g3 g4
  have es:F7.adr .self=F.adr .self:=(x7.adr .self trivial).2
  have hr7:=own_out x7 hr6 hro
  have hrn:¬ F7.own rs:=own_not x7 (List.getElem?_eq_some_iff.mp hr6).1 hro
  have hs7:=hs6.ex x7
  have hh8:=own_out x7 hh' hho
  have hb28:=own_out x7 hb2' n2
  have n28:¬ F7.own a2:=own_not x7 (List.getElem?_eq_some_iff.mp hb2').1 n2
  have x67:=x6.trans x7
  clear e1 e2 e3 e4 e5 f1 f2 f3 f4 f5
  obtain ⟨n,b1,b2,b3,e1,e2,e3,e4,f1,f2,f3,f4,f5,e5⟩:=hs7
  have g1':∀ v w,get (put (put m w_at v) w_register w) w_self=some (.ref (F.adr .self)):=fun v w=>get_put_ne rfl (get_put_ne rfl g1)
  have g2':∀ v w,get (put (put m w_at v) w_register w) w_summary=some (.ref sm):=fun v w=>get_put_ne rfl (get_put_ne rfl g2)
  have g4':∀ v w,get (put (put m w_at v) w_register w) w_handed=some (.ref hd):=fun v w=>get_put_ne rfl (get_put_ne rfl g4)
  refine xI g3 ?_
  refine ⟨_,hr7,?_⟩
  refine And.intro rfl ?_
  refine And.intro rfl ?_
  refine xI (g2' _ _) ?_
  refine xI (getA_ns e1 e2 rfl) ?_
  have h8:=h7.app [.dct []]
  have x8:=Ex.app h7 [.dct []]
  have keep8:(st7++[AObj.dct []])[rs]?=st7[rs]?:=x8.lkup hr7 hrn
  have fin8:=k _ _ h8 (x67.trans x8) (fun e s t a b=>x8.mem (r7 e s t a b))
  obtain ⟨td,e5,e7⟩:=e5
  rcases e7 with ⟨e7,et⟩ | ⟨b,e7,e6,f6⟩
  ·refine m_dct e5 ⟨rfl,?_⟩
   refine xI (get_put_ne rfl get_put_eq) ?_
   refine ⟨_,own_out x8 e5 f5,?_⟩
   refine And.intro rfl ?_
   rw [e7]
   refine src_dct set_new ?_
   refine And.intro rfl ?_
   refine And.intro keep8 ?_
   exact fin8
  ·refine m_dct e5 ⟨rfl,?_⟩
   refine xI (get_put_ne rfl get_put_eq) ?_
   refine ⟨_,own_out x8 e5 f5,?_⟩
   refine And.intro rfl ?_
   rw [e7]
   refine src_dct (own_out x8 e6 f6) ?_
   rw [setO_keys]
   rcases ht with rfl | ⟨rfl,ht⟩
   ·refine And.intro rfl ?_
    refine And.intro keep8 ?_
    exact fin8
   ·refine And.intro rfl ?_
    refine xI (get_put_ne rfl (g1' _ _)) ?_
    rw [← es]
    refine m_ins (h8.obj .self trivial) ⟨rfl,⟨_,h8.obj .ns trivial,rfl⟩,?_⟩
    refine xI (get_put_ne rfl get_put_eq) ?_
    refine xI (get_put_eq) ?_
    refine And.intro rfl (And.intro rfl ?_)
    rw [show decide (AV.int 0=AV.int (-1))=false from by simp]
    refine xI (get_put_ne rfl (g4' _ _)) ?_
    refine xI (get_put_eq) ?_
    refine xI (sub_lst (own_out x8 hh8 (own_not x7 (List.getElem?_eq_some_iff.mp hh').1 hho)) (by decide) rfl) ?_
    refine give_spec u.ok h8 hj (own_out x8 hb28 n28) n28 (fun x z=>ht x (((q2 x).mp z).mono h.up)) fun st9 F9 h9 x9 r9=>?_
    have x89:=x8.trans x9
    refine And.intro ?_ ?_
    ·show st9[b]?=(st7++[AObj.dct []])[b]?
     exact x9.lkup (own_out x8 e6 f6) f6
    refine And.intro ?_ ?_
    ·show st9[rs]?=st7[rs]?
     exact x89.lkup hr7 hrn
    exact k _ _ h9 (x67.trans x89) (fun e s t a b=>x89.mem (r7 e s t a b))
 rcases hk with rfl | ⟨rfl,hk⟩
 ·refine ⟨[],[],e4,by simp,.inl ⟨rfl,rfl⟩,?_⟩
  refine src_lst set_new ?_
  refine And.intro rfl ?_
  exact last _ F _ (h6.app _) (Ex.app h6 _) (fun e=>by simp at e) rfl rfl rfl rfl
 ·refine ⟨_,_,e4,by simp,.inr (.inl ⟨_,rfl,rfl⟩),?_⟩
  refine src_lst set_new ?_
  refine And.intro rfl ?_
  have h7:=h6.app [.lst [pr (.int 1) (.int 0)]]
  have y67:=Ex.app h6 [.lst [pr (.int 1) (.int 0)]]
  have hh7:=own_out y67 hh' hho
  have hb27:=own_out y67 hb2' n2
  have hb47:=own_out y67 hb4' n4
  refine And.intro rfl ?_
  refine bi_len hh7 (by simp) ?_
  refine lt_tt (by simp) ?_
  refine m_ins (h7.obj .self trivial) ⟨rfl,⟨_,h7.obj .ns trivial,rfl⟩,?_⟩
  refine xI (sub_lst hh7 (by decide) rfl) ?_
  refine (?_:evW _ (.cmp2 _ _ _ _ _) _ _ _)
  refine (?_:cmqK _ _ _ _ _ _ _)
  refine (?_:evW _ (.nm w_inner) _ _ _)
  refine xI rfl ?_
  refine le_if rfl (by decide) ?_
  refine bi_len hh7 (by simp) ?_
  refine lt_tt (by simp) ?_
  refine xI (sub_lst hh7 (by decide) rfl) ?_
  have tw2:∀ t∈l2,TW t:=fun t z=>(((q2 t).mp z).mono h.up).tw u
  have tw4:∀ t∈l4,TW t:=fun t z=>(((q4 t).mp z).mono h.up).tw u
  refine put_spec u h7 hb27 n2 hb47 n4 tw2 tw4 (by have:=w_len hn4 fun y hy=>(tw4 y hy).2; lia) (fun g hg=>?_) fun st8 F8 h8 x8 r8=>?_
  ·have:=hk g (((q2 g).mp hg).mono h.up)
   exact ⟨fun e t z=>this.1 e t (((q4 t).mp z).mono h.up),fun o e t z=>this.2.1 o e t (((q4 t).mp z).mono h.up),fun s e=>⟨fun t z=>(this.2.2 s e).1 t (((q4 t).mp z).mono h.up),fun q t z=>(this.2.2 s e).2 q t (((q4 t).mp z).mono h.up)⟩⟩
  ·refine And.intro ?_ ?_
   ·exact x8.lkup set_new (own_new h6 (Nat.le_refl _))
   exact last _ F8 _ h8 (y67.trans x8) (fun _ s t a b=>(r8 _ ((q2 _).mpr a)).2.2 s rfl t ((q4 t).mpr b)) rfl rfl rfl rfl
end
end Mine
namespace Mine
section
set_option maxRecDepth 10000
@[reducible] noncomputable def fnN (n:Nat):AV:=pr (.str w_fn) (.str n)
theorem look_read {P:FP} {st:Store} {F:FS} {d:Nat} {o0 o1:AV} {j:Int} {nm sm:Nat} {dc:List (AV×AV)} {ks tl:List AV} {Q:AV→Store→Prop} (u:UTk P.U) (h:FAt P st F) (p0:isOp o0) (p1:isOp o1) (hj:AV.int j∈W)
  (hd:st[P.sums]?=some (.dct dc)) (hdo:¬ F.own P.sums) (hg:kget dc (.str nm)=some (.ref sm)) (hs:SumAt st (fun a=>¬ F.own a) sm ks tl)
  (hk:ks=[]∨ks=[pr (.int 1) (.int 0)]∧∀ g,RT P.U o0 g→(g=bTok→∀ t,RT P.U o1 t→Lk P.U t)∧(∀ o,g=oTok (.int o)→∀ t,RT P.U o1 t→POk P.U o t)∧∀ s,g=sTok s→(∀ t,RT P.U o1 t→P.U (.cell .inside s) t)∧(P.U (.top .gone) s→∀ t,RT P.U o1 t→Lk P.U t))
  (ht:tl=[]∨tl=[.int 0]∧∀ x,RT P.U o0 x→P.U (.cell .held (.int j)) x)
  (k:∀ st' F',FAt P st' F'→Ex st F st' F'→(ks=[pr (.int 1) (.int 0)]→∀ s t,RT F.M o0 (sTok s)→RT F.M o1 t→F'.M (.cell .inside s) t)→Q .none st') :
  callP mprog (d + 9) w_EscapeFlow w_look [.ref (F.adr .self),.cons (.str w_call) (.cons (.cons (.int j) .nil) (.cons (fnN nm) (.cons (pr o0 o1) .nil)))] st Q:=by
 refine call_df rfl rfl ?_
 refine mem_chain rfl rfl rfl rfl ?_
 refine mem_chain rfl rfl rfl rfl ?_
 refine m_ins (h.obj .self trivial) ⟨rfl,⟨_,h.obj .ns trivial,rfl⟩,?_⟩
 refine call_df rfl rfl ?_
 refine eqs ?_
 refine And.intro rfl ?_
 refine eqs ?_
 refine And.intro (by simp) ?_
 refine eqs ?_
 refine nes rfl ?_
 have h1:=h.app [.lst [.int j]]
 have x1:=Ex.app h [.lst [.int j]]
 refine xI (getA_ns (h1.obj .self trivial) (h1.obj .ns trivial) rfl) ?_
 refine m_dct (own_out x1 hd hdo) ⟨rfl,?_⟩
 refine ⟨_,own_out x1 hd hdo,?_⟩
 refine And.intro rfl ?_
 rw [hg]
 refine m_ins (h1.obj .self trivial) ⟨rfl,⟨_,h1.obj .ns trivial,rfl⟩,?_⟩
 refine follow_spec u h1 p0 p1 hj (hs.ex x1) set_new (own_new h (Nat.le_refl _)) hk ht fun st2 F2 h2 x2 r2=>k _ _ h2 (x1.trans x2) r2
theorem look_unk {P:FP} {st:Store} {F:FS} {d:Nat} {o v:AV} {j:Int} {Q:AV→Store→Prop} (u:UTk P.U) (h:FAt P st F) (p:isOp o) (hj:AV.int j∈W)
  (hU:∀ x,TkOf P.U o x→Lk P.U x) (hb:P.U (.cell .held (.int j)) bTok)
  (k:∀ st' F',FAt P st' F'→Ex st F st' F'→(∀ x,TkOf F.M o x→Lkd F F' x)→Q .none st') :
  callP mprog (d + 9) w_EscapeFlow w_look [.ref (F.adr .self),.cons (.str w_call) (.cons (.cons (.int j) .nil) (.cons (pr (.str w_value) v) (.cons (.cons o .nil) .nil)))] st Q:=by
 refine call_df rfl rfl ?_
 refine mem_chain rfl rfl rfl rfl ?_
 refine mem_chain rfl rfl rfl rfl ?_
 refine m_ins (h.obj .self trivial) ⟨rfl,⟨_,h.obj .ns trivial,rfl⟩,?_⟩
 refine call_df rfl rfl ?_
 refine eqs ?_
 refine And.intro rfl ?_
 refine eqs ?_
 refine And.intro (by simp) ?_
 refine eqs ?_
 have h1:=h.app [.lst [.int j]]
 have x1:=Ex.app h [.lst [.int j]]
 refine m_ins (h1.obj .self trivial) ⟨rfl,⟨_,h1.obj .ns trivial,rfl⟩,?_⟩
 refine m_ins (h1.obj .self trivial) ⟨rfl,⟨_,h1.obj .ns trivial,rfl⟩,?_⟩
 refine tokens_of_all_spec (ops:=[o]) h1 u (by simpa using p) (by simp) fun g2 a2 l2 ha2 hge2 hl2 hll2=>?_
 have h2:=h1.app g2
 have x2:=x1.trans (Ex.app h1 g2)
 have hl2':∀ x,x∈l2↔TkOf F.M o x:=fun x=>by rw [hl2]; simp
 refine leak_spec u h2 ha2 (tof_tw u h hl2') hll2 (fun t z=>hU t (((hl2' t).mp z).mono h.up)) fun st3 F3 h3 x3 r3=>?_
 have es:F3.adr .self=F.adr .self:=(x3.adr .self trivial).2
 refine eqs ?_
 refine eqs ?_
 have hr3:st3[st.length]?=some (.lst [.int j]):=own_out x3 (own_out (Ex.app h1 g2) set_new (own_new h (Nat.le_refl _))) (own_new h (Nat.le_refl _))
 refine src_lst hr3 ?_
 refine And.intro rfl ?_
 rw [← es]
 refine m_ins (h3.obj .self trivial) ⟨rfl,⟨_,h3.obj .ns trivial,rfl⟩,?_⟩
 have x34:=Ex.app h3 [.lst [bTok]]
 refine give_spec u.ok (h3.app [.lst [bTok]]) hj set_new (own_new h3 (Nat.le_refl _)) (by simpa using hb) fun st4 F4 h4 x4 r4=>?_
 have x4':=x34.trans x4
 refine And.intro (x4'.lkup hr3 (own_not ((Ex.app h1 g2).trans x3) (by simp) (own_new h (Nat.le_refl _)))) ?_
 refine k _ _ h4 ((x2.trans x3).trans x4') fun x z=>(r3 x ((hl2' x).mpr z)).mono (Ex.refl [] F) x4'
theorem look_go {P:FP} {st:Store} {F:FS} {d:Nat} {o0 o1:AV} {nm:Nat} {Q:AV→Store→Prop} (u:UTk P.U) (h:FAt P st F) (p0:isOp o0) (p1:isOp o1)
  (hU:∀ x,TkOf P.U o0 x∨TkOf P.U o1 x→Lk P.U x)
  (k:∀ st' F',FAt P st' F'→Ex st F st' F'→(∀ x,TkOf F.M o0 x→Lkd F F' x)→Q .none st') :
  callP mprog (d + 9) w_EscapeFlow w_look [.ref (F.adr .self),.cons (.str w_go) (.cons (fnN nm) (.cons (pr o0 o1) .nil))] st Q:=by
 refine call_df rfl rfl ?_
 refine mem_chain rfl rfl rfl rfl ?_
 refine mem_chain rfl rfl rfl rfl ?_
 refine m_ins (h.obj .self trivial) ⟨rfl,⟨_,h.obj .ns trivial,rfl⟩,?_⟩
 refine call_df rfl rfl ?_
 refine eqs ?_
 refine And.intro rfl ?_
 refine eqs ?_
 refine eqs ?_
 refine nes rfl ?_
 have h1:=h.app [.lst []]
 have x1:=Ex.app h [.lst []]
 refine m_ins (h1.obj .self trivial) ⟨rfl,⟨_,h1.obj .ns trivial,rfl⟩,?_⟩
 refine m_ins (h1.obj .self trivial) ⟨rfl,⟨_,h1.obj .ns trivial,rfl⟩,?_⟩
 refine tokens_of_all_spec (ops:=[o0,o1]) h1 u (by simp; exact ⟨p0,p1⟩) (by simp) fun g2 a2 l2 ha2 hge2 hl2 hll2=>?_
 have h2:=h1.app g2
 have x2:=x1.trans (Ex.app h1 g2)
 have hl2':∀ x,x∈l2↔TkOf F.M o0 x∨TkOf F.M o1 x:=fun x=>by rw [hl2]; simp
 refine leak_spec u h2 ha2 (fun t z=>((hl2' t).mp z).elim (fun q=>(q.mono h.up).tw u) fun q=>(q.mono h.up).tw u) hll2 (fun t z=>hU t (((hl2' t).mp z).imp (fun q=>q.mono h.up) fun q=>q.mono h.up)) fun st3 F3 h3 x3 r3=>?_
 refine eqs ?_
 refine nes rfl ?_
 refine eqs ?_
 have hr3:st3[st.length]?=some (.lst []):=own_out x3 (own_out (Ex.app h1 g2) set_new (own_new h (Nat.le_refl _))) (own_new h (Nat.le_refl _))
 refine src_lst hr3 ?_
 refine And.intro rfl ?_
 exact k _ _ h3 (x2.trans x3) fun x z=>r3 x ((hl2' x).mpr (.inl z))
theorem look_defer {P:FP} {st:Store} {F:FS} {d:Nat} {o:AV} {nm:Nat} {dc:List (AV×AV)} {Q:AV→Store→Prop} (u:UTk P.U) (h:FAt P st F) (p:isOp o)
  (hd:st[P.sums]?=some (.dct dc)) (hdo:¬ F.own P.sums) (hg:kget dc (.str nm)=none)
  (hU:∀ x,TkOf P.U o x→Lk P.U x)
  (k:∀ st' F',FAt P st' F'→Ex st F st' F'→(∀ x,TkOf F.M o x→Lkd F F' x)→Q .none st') :
  callP mprog (d + 9) w_EscapeFlow w_look [.ref (F.adr .self),.cons (.str w_defer) (.cons (fnN nm) (.cons (.cons o .nil) .nil))] st Q:=by
 refine call_df rfl rfl ?_
 refine mem_chain rfl rfl rfl rfl ?_
 refine mem_chain rfl rfl rfl rfl ?_
 refine m_ins (h.obj .self trivial) ⟨rfl,⟨_,h.obj .ns trivial,rfl⟩,?_⟩
 refine call_df rfl rfl ?_
 refine eqs ?_
 refine And.intro rfl ?_
 refine eqs ?_
 refine eqs ?_
 refine nes rfl ?_
 have h1:=h.app [.lst []]
 have x1:=Ex.app h [.lst []]
 refine xI (getA_ns (h1.obj .self trivial) (h1.obj .ns trivial) rfl) ?_
 refine m_dct (own_out x1 hd hdo) ⟨rfl,?_⟩
 refine ⟨_,own_out x1 hd hdo,?_⟩
 refine And.intro rfl ?_
 rw [hg]
 refine m_ins (h1.obj .self trivial) ⟨rfl,⟨_,h1.obj .ns trivial,rfl⟩,?_⟩
 refine m_ins (h1.obj .self trivial) ⟨rfl,⟨_,h1.obj .ns trivial,rfl⟩,?_⟩
 refine tokens_of_all_spec (ops:=[o]) h1 u (by simpa using p) (by simp) fun g2 a2 l2 ha2 hge2 hl2 hll2=>?_
 have h2:=h1.app g2
 have x2:=x1.trans (Ex.app h1 g2)
 have hl2':∀ x,x∈l2↔TkOf F.M o x:=fun x=>by rw [hl2]; simp
 refine leak_spec u h2 ha2 (tof_tw u h hl2') hll2 (fun t z=>hU t (((hl2' t).mp z).mono h.up)) fun st3 F3 h3 x3 r3=>?_
 refine eqs ?_
 refine eqs ?_
 have hr3:st3[st.length]?=some (.lst []):=own_out x3 (own_out (Ex.app h1 g2) set_new (own_new h (Nat.le_refl _))) (own_new h (Nat.le_refl _))
 refine src_lst hr3 ?_
 refine And.intro rfl ?_
 exact k _ _ h3 (x2.trans x3) fun x z=>r3 x ((hl2' x).mpr z)
end
end Mine
namespace Mine
section
set_option maxRecDepth 10000
@[reducible] noncomputable def FS.fl (F:FS) (b:Bool):FS:={ F with new:=b }
noncomputable def Wk (st:Store) (F:FS) (st':Store) (F':FS):Prop:=Ex st (F.fl true) st' (F'.fl true)
theorem live_fl {F:FS} {b:Bool} {r:Role}:(F.fl b).live r↔F.live r:=by cases r <;> exact Iff.rfl
theorem own_fl {F:FS} {b:Bool} {a:Nat}:(F.fl b).own a↔F.own a:=⟨fun ⟨r,l,e⟩=>⟨r,live_fl.mp l,e⟩,fun ⟨r,l,e⟩=>⟨r,live_fl.mpr l,e⟩⟩
theorem Ex.wk {st st':Store} {F F':FS} (x:Ex st F st' F'):Wk st F st' F' :=
 ⟨x.len,fun a ha ho=>x.out a ha fun z=>ho (own_fl.mpr z),fun a ho=>(x.own a (own_fl.mp ho)).imp own_fl.mpr id,fun r hr=>⟨live_fl.mpr (x.adr r (live_fl.mp hr)).1,(x.adr r (live_fl.mp hr)).2⟩,by
  obtain ⟨l,e,_,_⟩:=x.log
  exact ⟨l,e,fun z=>by simp at z,fun _=>.inl rfl⟩⟩
theorem Wk.trans {a b c:Store} {F G H:FS} (x:Wk a F b G) (y:Wk b G c H):Wk a F c H:=Ex.trans x y
theorem Wk.out {st st':Store} {F F':FS} (x:Wk st F st' F') {i:Nat} {o:AObj} (h:st[i]?=some o) (ho:¬ F.own i):st'[i]?=some o:=own_out x h fun z=>ho (own_fl.mp z)
theorem Wk.not {st st':Store} {F F':FS} (x:Wk st F st' F') {i:Nat} (h:i < st.length) (ho:¬ F.own i):¬ F'.own i:=fun z=>own_not x h (fun q=>ho (own_fl.mp q)) (own_fl.mpr z)
theorem Wk.adr {st st':Store} {F F':FS} (x:Wk st F st' F') {r:Role} (l:F.live r):F'.adr r=F.adr r:=(Ex.adr x r (live_fl.mpr l)).2
theorem FAt.flag {P:FP} {st:Store} {F:FS} (h:FAt P st F) (b:Bool):FAt P (st.set (F.adr .ns) (cont P (F.fl b) .ns)) (F.fl b)∧Wk st F (st.set (F.adr .ns) (cont P (F.fl b) .ns)) (F.fl b):=by
 refine ⟨h.upd (F':=F.fl b) .ns trivial rfl rfl (fun r e=>by cases r <;> first | rfl | exact absurd rfl e) h.up h.nd h.lv,?_⟩
 refine ⟨by simp,fun a ha ho=>?_,fun a ho=>.inl ho,fun r hr=>⟨hr,rfl⟩,[],by simp,fun z=>by simp at z,fun _=>.inl rfl⟩
 rw [List.getElem?_set_ne fun z=>ho ⟨.ns,trivial,z⟩]
theorem app2 {α:Type} {a b c:List α} (h:(a++b)++c=a):b=[]∧c=[]:=by
 have:=congrArg List.length h
 simp only [List.length_append] at this
 exact ⟨List.length_eq_zero_iff.mp (by lia),List.length_eq_zero_iff.mp (by lia)⟩
noncomputable def Act (P:FP) (st0:Store) (F0:FS) (c:Nat) (args:FS→List AV) (f:Nat) (C:MP→Prop):Prop :=
 ∀ st F,FAt P st F→Wk st0 F0 st F→∀ Q:AV→Store→Prop,(∀ st' F',FAt P st' F'→Ex st F st' F'→(F'.log=F.log→C F'.M)→Q .none st')→callP mprog c w_EscapeFlow f (args F) st Q
theorem go_spec {P:FP} {st:Store} {F:FS} {c:Nat} {cn bl b1 il:Nat} {ins:List AV} {te:AV} {fs:List (Nat×AV)} {CI:AV→MP→Prop} {CE:MP→Prop} {Q:AV→Store→Prop} (u:UTk P.U) (h:FAt P st F)
  (k1:st[P.code]?=some (.ins w_Code cn)) (n1:¬ F.own P.code) (k2:st[cn]?=some (.ns fs)) (n2:¬ F.own cn) (k3:get fs w_blocks=some (.ref bl)) (k4:st[bl]?=some (.lst [.ref b1])) (n4:¬ F.own bl)
  (k5:st[b1]?=some (.lst [.ref il,te])) (n5:¬ F.own b1) (k6:st[il]?=some (.lst ins)) (n6:¬ F.own il)
  (hi:∀ x∈ins,Act P st F c (fun G=>[.ref (G.adr .self),x]) w_look (CI x)) (he:Act P st F c (fun G=>[.ref (G.adr .self),te]) w_leave CE)
  (k:∀ st' F',FAt P st' F'→Wk st F st' F'→(∀ x∈ins,CI x F'.M)→CE F'.M→Q .none st'):callP mprog (c + 1) w_EscapeFlow w_go_through [.ref (F.adr .self)] st Q:=by
 refine call_df rfl rfl ?_
 refine xI (setA_ns (h.obj .self trivial) (h.obj .ns trivial) (by show (8:Nat) < 1000; lia)) ?_
 show exW _ _ _ (st.set (F.adr .ns) (cont P (F.fl true) .ns)) _
 have h1:=(h.flag true).1
 have x1:=(h.flag true).2
 generalize st.set (F.adr .ns) (cont P (F.fl true) .ns)=s1 at *
 let J (t:Bool):Nat→Loc→Store→Prop:=fun n m s=>get m w_self=some (.ref (F.adr .self))∧∃ G,And5 (FAt P s G) (Wk st F s G) (n=(5720 - G.log.length) * 2 + (if G.new then 1 else 0)) (t=true→G.new=true) (t=false→G.new=false→(∀ x∈ins,CI x G.M)∧CE G.M)
 let JF:Loc→Store→Prop:=fun m s=>∃ G,And4 (FAt P s G) (Wk st F s G) (∀ x∈ins,CI x G.M) (CE G.M)
 refine while_inv (J false) (J true) JF ?_ ?_ ?_ (n:=(5720 - F.log.length) * 2 + 1) ⟨rfl,_,h1,x1,rfl,by simp,by simp⟩
 ·intro n m s hI K kt kf
  obtain ⟨m1,G,hG,xG,hn,_,hc⟩:=hI
  have es:G.adr .self=F.adr .self:=xG.adr trivial
  refine xI m1 ?_
  rw [← es]
  refine xI (getA_ns (hG.obj .self trivial) (hG.obj .ns trivial) rfl) ?_
  cases e:G.new with
  | true=>exact kt _ ⟨es ▸ m1,G,hG,xG,hn,fun _=>e,by simp⟩
  | false=>exact kf _ ⟨G,hG,xG,(hc rfl e).1,(hc rfl e).2⟩
 ·intro n m s hI Q' kk
  obtain ⟨m1,G,hG,xG,hn,hnew,_⟩:=hI
  have es:G.adr .self=F.adr .self:=xG.adr trivial
  refine xI m1 ?_
  rw [← es]
  refine xI (setA_ns (hG.obj .self trivial) (hG.obj .ns trivial) (by show (8:Nat) < 1000; lia)) ?_
  show exW _ _ _ (s.set (G.adr .ns) (cont P (G.fl false) .ns)) _
  have h2:=(hG.flag false).1
  have x2:=xG.trans (hG.flag false).2
  generalize s.set (G.adr .ns) (cont P (G.fl false) .ns)=s2 at *
  have e2:(G.fl false).adr .self=F.adr .self:=es
  refine xI m1 ?_
  rw [← es]
  refine xI (getA_ns (h2.obj .self trivial) (h2.obj .ns trivial) rfl) ?_
  refine xI (getA_ns (x2.out k1 n1) (x2.out k2 n2) k3) ?_
  refine src_lst (x2.out k4 n4) ?_
  refine And.intro rfl ?_
  refine xI (unp_lst (x2.out k5 n5)) ?_
  refine And.intro rfl ?_
  refine xI (get_put_ne rfl get_put_eq) ?_
  refine src_lst (x2.out k6 n6) ?_
  refine for_flow (fun m=>get m w_self=some (.ref (F.adr .self))∧get m w_terminator=some te) (fun x H=>(∃ l,H.log=G.log++l)∧(H.log=G.log→CI x H.M)) h2 (x2.out k6 n6) (x2.not (List.getElem?_eq_some_iff.mp k6).1 n6) ?_ ?_ ⟨get_put_ne rfl (get_put_ne rfl m1),get_put_eq⟩ ?_
  ·rintro x a A b B e ⟨⟨l,hl⟩,hc⟩
   obtain ⟨l',el,_⟩:=e.log
   refine ⟨⟨l++l',by rw [el,hl,List.append_assoc]⟩,fun z=>?_⟩
   have:l'=[]:=by
    rw [el,hl] at z
    exact (app2 z).2
   subst this
   have eB:B.log=A.log:=by simpa using el
   have:B.M=A.M:=by unfold FS.M; rw [eB]
   rw [this]; exact hc (eB ▸ z)
  ·intro x hx m3 s3 F3 im h3 x3 Q3 kk3
   have es3:F3.adr .self=F.adr .self:=by rw [(x3.adr .self trivial).2]; exact es
   refine xI (get_put_ne rfl im.1) ?_
   rw [← es3]
   refine m_ins (h3.obj .self trivial) ⟨rfl,⟨_,h3.obj .ns trivial,rfl⟩,?_⟩
   refine xI (get_put_eq) ?_
   refine hi x hx s3 F3 h3 (x2.trans x3.wk) _ fun s4 F4 h4 x4 c4=>?_
   obtain ⟨l,el,_⟩:=x3.log
   obtain ⟨l',el',_⟩:=x4.log
   refine (kk3 _ _ _ ⟨get_put_ne rfl im.1,get_put_ne rfl im.2⟩ h4 x4 ⟨⟨l++l',by rw [el',el,List.append_assoc]⟩,fun z=>c4 ?_⟩).1
   rw [z,el]
   rw [el',el] at z
   rw [(app2 z).1]; simp
  ·intro m3 s3 F3 im h3 x3 r3
   have es3:F3.adr .self=F.adr .self:=by rw [(x3.adr .self trivial).2]; exact es
   refine xI im.1 ?_
   rw [← es3]
   refine m_ins (h3.obj .self trivial) ⟨rfl,⟨_,h3.obj .ns trivial,rfl⟩,?_⟩
   refine xI im.2 ?_
   refine he s3 F3 h3 (x2.trans x3.wk) _ fun s4 F4 h4 x4 c4=>?_
   have x24:=x3.trans x4
   have ll:=h4.log_len u.ok
   refine And.intro (x24.lkup (x2.out k4 n4) (x2.not (List.getElem?_eq_some_iff.mp k4).1 n4)) ?_
   obtain ⟨l,el,q1,q2⟩:=x24.log
   have el:F4.log=G.log++l:=el
   refine (kk ((5720 - F4.log.length) * 2 + (if F4.new then 1 else 0)) _ _ ?_ ⟨im.1,F4,h4,x2.trans x24.wk,rfl,by simp,fun _ e=>?_⟩).1
   ·rw [hn,hnew rfl]
    have:F4.log.length=G.log.length + l.length:=by rw [el]; simp
    cases e:F4.new with
    | false=>simp; lia
    | true =>
     have:=(q2 e).resolve_left (by simp)
     have:l.length≠0:=fun z=>this (List.length_eq_zero_iff.mp z)
     simp; lia
   ·obtain ⟨rfl,_⟩:=q1 e
    have e4:F4.log=G.log:=by simpa using el
    obtain ⟨l3,el3,_⟩:=x3.log
    obtain ⟨l4,el4,_⟩:=x4.log
    have e3:F3.log=G.log:=by
     have el3:F3.log=G.log++l3:=el3
     rw [el4,el3] at e4
     rw [el3,(app2 e4).1]; simp
    have e43:F4.log=F3.log:=by rw [e4,e3]
    refine ⟨fun x hx=>?_,c4 e43⟩
    have:F4.M=F3.M:=by unfold FS.M; rw [e43]
    rw [this]; exact (r3 x hx).2 e3
 ·rintro m s ⟨G,hG,xG,c1,c2⟩
  exact k s G hG xG c1 c2
end
end Mine
namespace Mine
section
set_option maxRecDepth 10000
theorem init_d {V:MEnv} {m:Loc} {st g:Store} {fs:List (Nat×AV)} {c x:Nat} {rest:PS} {Q:Fl→Loc→Store→Prop} (hm:get m w_self=some (.ref (st.length + 1))) (hl:Nat.ble fs.length 999=true)
  (k:exW V rest m (st++.ns (put fs x (.ref (st.length + (g.length + 2)))) :: .ins c st.length :: (g++[.dct []])) Q):exW V (.seq (.asg (.attr (.nm w_self) x) (.dct .nil)) rest) m (st++.ns fs :: .ins c st.length :: g) Q:=by
 refine xI (hm) ?_
 have e:(st++AObj.ns fs :: AObj.ins c st.length :: g)++[AObj.dct []]=st++AObj.ns fs :: AObj.ins c st.length :: (g++[AObj.dct []]):=by simp
 have e2:(st++AObj.ns fs :: AObj.ins c st.length :: g).length=st.length + (g.length + 2):=by simp
 rw [e,e2]
 refine xI (setA_ns get_mid2 get_mid (Nat.lt_succ_of_le (Nat.le_of_ble_eq_true hl))) ?_
 rw [set_mid]
 exact k
theorem init_v {V:MEnv} {m:Loc} {st g:Store} {fs:List (Nat×AV)} {c x:Nat} {e:PE} {v:AV} {rest:PS} {Q:Fl→Loc→Store→Prop} (hm:get m w_self=some (.ref (st.length + 1))) (hl:Nat.ble fs.length 999=true)
  (he:∀ (st:Store) (Q:AV→Store→Prop),Q v st→evW V e m st Q)
  (k:exW V rest m (st++.ns (put fs x v) :: .ins c st.length :: g) Q):exW V (.seq (.asg (.attr (.nm w_self) x) e) rest) m (st++.ns fs :: .ins c st.length :: g) Q:=by
 refine he _ _ ?_
 refine xI (hm) ?_
 refine xI (setA_ns get_mid2 get_mid (Nat.lt_succ_of_le (Nat.le_of_ble_eq_true hl))) ?_
 rw [set_mid]
 exact k
theorem summary_new {d:Nat} {s:Store} {Q:AV→Store→Prop} (k:Q (.ref (s.length + 1)) (s++[.ns [(w_leaks,.ref (s.length + 2)),(w_kept,.ref (s.length + 3)),(w_told,.ref (s.length + 4))],.ins w_Summary s.length,.dct [],.dct [],.dct []])):callP mprog (d + 2) 0 w_Summary [] s Q:=by
 refine call_cls rfl ?_
 refine call_df rfl rfl ?_
 refine init_d rfl rfl ?_
 refine init_d rfl rfl ?_
 refine init_d rfl rfl ?_
 exact k
theorem app_at {st L:Store} {k:Nat}:(st++L)[st.length + k]?=L[k]?:=by rw [List.getElem?_append_right (by lia)]; congr 1; lia
theorem app_set {st L:Store} {k:Nat} {o:AObj}:(st++L).set (st.length + k) o=st++L.set k o:=by rw [List.set_append_right _ _ (by lia)]; congr 2; lia
noncomputable def idx0:Role→Nat
 | .ns=>0
 | .self=>1
 | .tab .held=>2
 | .tab .inside=>3
 | .top .sites=>4
 | .top .gone=>5
 | .smns=>6
 | .sm=>7
 | .top .leaks=>8
 | .top .kept=>9
 | .tab .told=>10
 | .cell .held (.int i)=>11 + i.toNat
 | .cell _ _=>20
noncomputable def adr0 (n:Nat) (r:Role):Nat:=n + idx0 r
noncomputable def F0 (n:Nat):FS:={ adr:=adr0 n,log:=[(.cell .held (.int 0),oTok (.int 0)),(.cell .held (.int 1),oTok (.int 1))],ks:=fun t=>match t with | .held=>[.int 0,.int 1] | _=>[],new:=false }
noncomputable def L0 (P:FP) (n:Nat):Store:=[.ns [(w_code,.ref P.code),(w_summaries,.ref P.sums),(w_held,.ref (n + 2)),(w_inside,.ref (n + 3)),(w_sites,.ref (n + 4)),(w_gone,.ref (n + 5)),(w_summary,.ref (n + 7)),(w_is_new,.bool false)],.ins w_EscapeFlow n,
 .dct [(.int 0,.ref (n + 11)),(.int 1,.ref (n + 12))],.dct [],.dct [],.dct [],.ns [(w_leaks,.ref (n + 8)),(w_kept,.ref (n + 9)),(w_told,.ref (n + 10))],.ins w_Summary n.succ.succ.succ.succ.succ.succ,.dct [],.dct [],.dct [],.dct [(oTok (.int 0),.bool true)],.dct [(oTok (.int 1),.bool true)]]
noncomputable def roles0:List Role:=[.self,.ns,.sm,.smns,.tab .held,.tab .inside,.tab .told,.top .sites,.top .gone,.top .leaks,.top .kept,.cell .held (.int 0),.cell .held (.int 1)]
theorem mem_two {a b k:AV} (h:k∈[a,b]):k=a∨k=b:=by
 rcases List.mem_cons.mp h with h | h
 ·exact .inl h
 ·exact .inr (List.mem_singleton.mp h)
theorem live0 {n:Nat} {r:Role} (h:(F0 n).live r):r∈roles0:=by
 cases r with
 | cell t k =>
  cases t with
  | held=>rcases mem_two (show k∈[AV.int 0,AV.int 1] from h) with rfl | rfl <;> decide +kernel
  | inside=>exact absurd (show k∈([]:List AV) from h) List.not_mem_nil
  | told=>exact absurd (show k∈([]:List AV) from h) List.not_mem_nil
 | tab t=>cases t <;> decide +kernel
 | top s=>cases s <;> decide +kernel
 | _=>decide +kernel
theorem idx0_inj:∀ r∈roles0,∀ r'∈roles0,idx0 r=idx0 r'→r=r':=by decide +kernel
theorem FAt0 {P:FP} {st:Store} (u0:P.U (.cell .held (.int 0)) (oTok (.int 0))) (u1:P.U (.cell .held (.int 1)) (oTok (.int 1))):FAt P (st++L0 P st.length) (F0 st.length):=by
 refine ⟨fun r l=>?_,fun r r' l l' e=>?_,fun r x hx=>?_,by simp [F0],fun t k x hx=>?_,fun t=>?_,fun t k hk=>?_⟩
 ·cases r with
  | cell t k =>
   cases t with
   | held =>
    rcases mem_two (show k∈[AV.int 0,AV.int 1] from l) with rfl | rfl
    ·exact app_at (k:=11)
    ·exact app_at (k:=12)
   | inside=>exact absurd (show k∈([]:List AV) from l) List.not_mem_nil
   | told=>exact absurd (show k∈([]:List AV) from l) List.not_mem_nil
  | tab t=>cases t <;> exact app_at
  | top s=>cases s <;> exact app_at
  | ns=>exact app_at (k:=0)
  | _=>exact app_at
 ·exact idx0_inj r (live0 l) r' (live0 l') (Nat.add_left_cancel e)
 ·simp [F0] at hx
  rcases hx with ⟨rfl,rfl⟩ | ⟨rfl,rfl⟩
  ·exact u0
  ·exact u1
 ·simp [F0] at hx
  rcases hx with ⟨⟨rfl,rfl⟩,rfl⟩ | ⟨⟨rfl,rfl⟩,rfl⟩ <;> simp [F0]
 ·cases t <;> simp [F0]
 ·cases t
  ·have:k∈[AV.int 0,AV.int 1]:=hk
   simp at this
   rcases this with rfl | rfl <;> decide +kernel
  ·exact absurd (show k∈([]:List AV) from hk) (by simp)
  ·exact absurd (show k∈([]:List AV) from hk) (by simp)
theorem reg_dct {V:MEnv} {m:Loc} {st st':Store} {Q:Fl→Loc→Store→Prop} {a j x:AV} (e1:get m w_register=some j) (e0:get m w_self=some a) (hd:(oTok j).isD=true) (e2:getA (st++[.dct [(oTok j,.bool true)]]) a w_held=some x)
  (e3:setI (st++[.dct [(oTok j,.bool true)]]) x j (.ref st.length)=some st') (k:Q .next m st'):exW V (.seq (.asg (.sub (.attr (.nm w_self) w_held) (.nm w_register)) (.dct (.cons (.tup (.cons (.cst (.str w_outer)) (.cons (.nm w_register) .nil))) (.cons (.cst (.bool true)) .nil)))) .skip) m st Q:=by
 refine xI e1 ?_
 refine xI (o:=mkKvs [] [oTok j,.bool true]) (if_pos hd) ?_
 exact xI e0 (xI e2 (xI e1 (xI e3 k)))
theorem flow_new {P:FP} {st:Store} {d cn:Nat} {fs:List (Nat×AV)} {Q:AV→Store→Prop} (u0:P.U (.cell .held (.int 0)) (oTok (.int 0))) (u1:P.U (.cell .held (.int 1)) (oTok (.int 1)))
  (k1:st[P.code]?=some (.ins w_Code cn)) (k2:st[cn]?=some (.ns fs)) (k3:get fs w_captured=some (.int 0)) (k4:get fs w_params=some (.int 2))
  (k:∀ F,FAt P (st++L0 P st.length) F→F=F0 st.length→Q (.ref (F.adr .self)) (st++L0 P st.length)):callP mprog (d + 4) 0 w_EscapeFlow [.ref P.code,.ref P.sums] st Q:=by
 refine call_cls rfl ?_
 refine call_df rfl rfl ?_
 refine init_v rfl rfl (fun _ _ q=>q) ?_
 refine init_v rfl rfl (fun _ _ q=>q) ?_
 refine init_d rfl rfl ?_
 refine init_d rfl rfl ?_
 refine init_d rfl rfl ?_
 refine init_d rfl rfl ?_
 show exW _ _ _ (st++[AObj.ns [(w_code,.ref P.code),(w_summaries,.ref P.sums),(w_held,.ref (st.length + 2)),(w_inside,.ref (st.length + 3)),(w_sites,.ref (st.length + 4)),(w_gone,.ref (st.length + 5))],.ins w_EscapeFlow st.length,.dct [],.dct [],.dct [],.dct []]) _
 have e6:(st++[AObj.ns [(w_code,.ref P.code),(w_summaries,.ref P.sums),(w_held,.ref (st.length + 2)),(w_inside,.ref (st.length + 3)),(w_sites,.ref (st.length + 4)),(w_gone,.ref (st.length + 5))],.ins w_EscapeFlow st.length,.dct [],.dct [],.dct [],.dct []]).length=st.length + 6:=by simp
 refine summary_new ?_
 rw [e6,List.append_assoc]
 refine xI (setA_ns app_at (app_at (k:=0)) (by show (6:Nat) < 1000; lia)) ?_
 rw [show ∀ L o,(st++L).set st.length o=st++L.set 0 o from fun L o=>app_set (k:=0)]
 refine init_v (g:=_) rfl rfl (fun st Q q=>q) ?_
 show exW _ _ _ (st++[AObj.ns [(w_code,.ref P.code),(w_summaries,.ref P.sums),(w_held,.ref (st.length + 2)),(w_inside,.ref (st.length + 3)),(w_sites,.ref (st.length + 4)),(w_gone,.ref (st.length + 5)),(w_summary,.ref (st.length + 7)),(w_is_new,.bool false)],.ins w_EscapeFlow st.length,.dct [],.dct [],.dct [],.dct [],.ns [(w_leaks,.ref (st.length + 8)),(w_kept,.ref (st.length + 9)),(w_told,.ref (st.length + 10))],.ins w_Summary (st.length + 6),.dct [],.dct [],.dct []]) _
 have e11:(st++[AObj.ns [(w_code,.ref P.code),(w_summaries,.ref P.sums),(w_held,.ref (st.length + 2)),(w_inside,.ref (st.length + 3)),(w_sites,.ref (st.length + 4)),(w_gone,.ref (st.length + 5)),(w_summary,.ref (st.length + 7)),(w_is_new,.bool false)],.ins w_EscapeFlow st.length,.dct [],.dct [],.dct [],.dct [],.ns [(w_leaks,.ref (st.length + 8)),(w_kept,.ref (st.length + 9)),(w_told,.ref (st.length + 10))],.ins w_Summary (st.length + 6),.dct [],.dct [],.dct []]).length=st.length + 11:=by simp
 have e12:(st++[AObj.ns [(w_code,.ref P.code),(w_summaries,.ref P.sums),(w_held,.ref (st.length + 2)),(w_inside,.ref (st.length + 3)),(w_sites,.ref (st.length + 4)),(w_gone,.ref (st.length + 5)),(w_summary,.ref (st.length + 7)),(w_is_new,.bool false)],.ins w_EscapeFlow st.length,.dct [(.int 0,.ref (st.length + 11))],.dct [],.dct [],.dct [],.ns [(w_leaks,.ref (st.length + 8)),(w_kept,.ref (st.length + 9)),(w_told,.ref (st.length + 10))],.ins w_Summary (st.length + 6),.dct [],.dct [],.dct [],.dct [(oTok (.int 0),.bool true)]]).length=st.length + 12:=by simp
 have c1:∀ L,(st++L)[P.code]?=some (.ins w_Code cn):=fun L=>by rw [List.getElem?_append_left (List.getElem?_eq_some_iff.mp k1).1]; exact k1
 have c2:∀ L,(st++L)[cn]?=some (.ns fs):=fun L=>by rw [List.getElem?_append_left (List.getElem?_eq_some_iff.mp k2).1]; exact k2
 refine xI (getA_ns (c1 _) (c2 _) k3) ?_
 refine xI (getA_ns (c1 _) (c2 _) k4) ?_
 refine And.intro (by decide) ?_
 rw [show rangeL 0 (0 + 2)=[.int 0,.int 1] from rfl]
 refine And.intro trivial ?_
 refine (?_:exW _ (.seq (.asg (.sub _ _) _) .skip) _ _ _)
 refine reg_dct (x:=.ref (st.length + 2)) rfl rfl rfl (by rw [List.append_assoc]; refine getA_ns app_at (app_at (k:=0)) ?_; rfl) (by rw [e11,List.append_assoc]; exact setI_dct rfl app_at (by show (0:Nat) < 2 ^ 20; decide)) ?_
 rw [app_set]
 refine And.intro trivial ?_
 show asgW _ _ _ _ (st++[AObj.ns [(w_code,.ref P.code),(w_summaries,.ref P.sums),(w_held,.ref (st.length + 2)),(w_inside,.ref (st.length + 3)),(w_sites,.ref (st.length + 4)),(w_gone,.ref (st.length + 5)),(w_summary,.ref (st.length + 7)),(w_is_new,.bool false)],.ins w_EscapeFlow st.length,.dct [(.int 0,.ref (st.length + 11))],.dct [],.dct [],.dct [],.ns [(w_leaks,.ref (st.length + 8)),(w_kept,.ref (st.length + 9)),(w_told,.ref (st.length + 10))],.ins w_Summary (st.length + 6),.dct [],.dct [],.dct [],.dct [(oTok (.int 0),.bool true)]]) _
 refine (?_:exW _ (.seq (.asg (.sub _ _) _) .skip) _ _ _)
 refine reg_dct (x:=.ref (st.length + 2)) rfl rfl rfl (by rw [List.append_assoc]; refine getA_ns app_at (app_at (k:=0)) ?_; rfl) (by rw [e12,List.append_assoc]; exact setI_dct rfl app_at (by show (1:Nat) < 2 ^ 20; decide)) ?_
 rw [app_set]
 refine And.intro trivial ?_
 exact k (F0 st.length) (FAt0 u0 u1) rfl
end
end Mine
namespace Mine
section
set_option maxRecDepth 10000
inductive Rea (S:Nat→Nat→Prop):Nat→Nat→Prop
 | refl (a):Rea S a a
 | step {a y z}:Rea S a y→S z y→Rea S a z
theorem Rea.mono {S T:Nat→Nat→Prop} (h:∀ x y,S x y→T x y) {a b:Nat} (r:Rea S a b):Rea T a b:=by
 induction r with
 | refl=>exact .refl _
 | step _ b ih=>exact .step ih (h _ _ b)
theorem Rea.trans {S:Nat→Nat→Prop} {a b c:Nat} (x:Rea S a b) (y:Rea S b c):Rea S a c:=by
 induction y with
 | refl=>exact x
 | step _ b ih=>exact .step ih b
noncomputable def Clo (pairs pp:List (Nat×Nat)) (S:Nat→Nat→Prop):Prop:=(∀ x h,(x,h)∈pairs→S x h)∧∀ o a x h,(o,a)∈pp→Rea S o x→Rea S a h→S x h
noncomputable def Cc (pairs pp:List (Nat×Nat)) (x h:Nat):Prop:=∀ S,Clo pairs pp S→S x h
theorem Cc.clo (pairs pp:List (Nat×Nat)):Clo pairs pp (Cc pairs pp) :=
 ⟨fun x h e S c=>c.1 x h e,fun o a x h e r1 r2 S c=>c.2 o a x h e (r1.mono fun _ _ z=>z S c) (r2.mono fun _ _ z=>z S c)⟩
structure LD where
 many:Nat
 pairs:List (Nat×Nat)
 puts:List (Nat×Nat)
 out:List Nat
 ends:List Nat
 thrown:Bool
 outer:Bool
structure LD.Ok (D:LD):Prop where
 m2:2≤D.many
 m7:D.many≤7
 pairs:∀ x h,(x,h)∈D.pairs→x < D.many∧h < D.many
 puts:∀ o a,(o,a)∈D.puts→o < D.many∧a < D.many
 out:∀ a∈D.out,a < D.many
 ends:∀ a∈D.ends,a∈D.out
 elen:D.ends.length≤7
 thr:D.thrown=true→D.ends.length=1
noncomputable def LD.C (D:LD) (b:Bool):Nat→Nat→Prop:=Cc D.pairs (if b then D.puts else [])
noncomputable def LD.R (D:LD) (b:Bool):Nat→Nat→Prop:=Rea (D.C b)
noncomputable def LD.L (D:LD) (b:Bool) (x:Nat):Prop:=∃ o∈D.out,D.R b o x
theorem LD.Ok.c_lt {D:LD} (k:D.Ok) {b:Bool} {x h:Nat} (c:D.C b x h):x < D.many∧h < D.many:=by
 refine c (fun x h=>x < D.many∧h < D.many) ⟨fun x h e=>k.pairs x h e,fun o a x h e r1 r2=>?_⟩
 have:o < D.many∧a < D.many:=by
  cases b
  ·simp at e
  ·exact k.puts o a e
 constructor
 ·cases r1 with
  | refl=>exact this.1
  | step _ z=>exact z.1
 ·cases r2 with
  | refl=>exact this.2
  | step _ z=>exact z.1
theorem LD.L_r {D:LD} {b:Bool} {x y:Nat} (l:D.L b x) (r:D.R b x y):D.L b y:=let ⟨o,ho,q⟩:=l; ⟨o,ho,q.trans r⟩
noncomputable def UF (D:LD) (b:Bool):MP
 | .top .sites,s=>∃ a,a < D.many∧s=sKey a
 | .top .gone,s=>∃ a,a < D.many∧s=sKey a∧D.L b a
 | .top .leaks,_=>False
 | .top .kept,k=>D.outer=true∧k=pr (.int (-1)) (.int 0)
 | .cell .held k,t=>(k=.int 0∧t=oTok (.int 0))∨(k=.int 1∧t=oTok (.int 1))∨(∃ a:Nat,a < D.many∧k=.int (2 + a)∧t=sTok (sKey a))∨((k=.int 13∨k=.int 14∨k=.int 15)∧(t=bTok∨∃ a:Nat,a < D.many∧t=sTok (sKey a)))
 | .cell .inside h,t=>∃ k:Nat,k < D.many∧h=sKey k∧((∃ y:Nat,t=sTok (sKey y)∧D.C b y k)∨(t=bTok∧∃ z,D.R b k z∧D.L b z))
 | .cell .told j,x=>D.thrown=false∧x=.int (-1)∧∃ i:Nat,i < D.ends.length∧j=.int i
 | _,_=>False
theorem sKey_W:∀ a:Nat,a < 7→sKey a∈W∧sTok (sKey a)∈W:=by
 have:∀ a:Fin 7,sKey (a.val:Nat)∈W∧sTok (sKey (a.val:Nat))∈W:=by decide +kernel
 exact fun a h=>this ⟨a,h⟩
theorem int_W:∀ a:Nat,a < 16→AV.int (a:Nat)∈W:=by
 have:∀ a:Fin 16,AV.int (a.val:Nat)∈W:=by decide +kernel
 exact fun a h=>this ⟨a,h⟩
theorem cell_W {t:Tb} {k:AV} (h:k∈W):Role.cell t k∈rolesW:=by
 cases t <;> simp [rolesW,h]
theorem UF_ok {D:LD} (k:D.Ok) (b:Bool):UTk (UF D b):=by
 have m7:=k.m7
 refine ⟨⟨fun r x h=>?_⟩,fun j x h=>?_,fun j x h=>?_,fun x h=>?_⟩
 ·cases r with
  | top s =>
   cases s with
   | sites=>obtain ⟨a,ha,rfl⟩:=h; exact ⟨by simp [rolesW],(sKey_W a (by lia)).1⟩
   | gone=>obtain ⟨a,ha,rfl,_⟩:=h; exact ⟨by simp [rolesW],(sKey_W a (by lia)).1⟩
   | leaks=>exact h.elim
   | kept=>obtain ⟨_,rfl⟩:=h; exact ⟨by simp [rolesW],by decide +kernel⟩
  | cell t j =>
   cases t with
   | held =>
    rcases h with ⟨rfl,rfl⟩ | ⟨rfl,rfl⟩ | ⟨a,ha,rfl,rfl⟩ | ⟨hk,hx⟩
    ·exact ⟨cell_W (by decide +kernel),by decide +kernel⟩
    ·exact ⟨cell_W (by decide +kernel),by decide +kernel⟩
    ·have:=int_W (2 + a) (by lia)
     exact ⟨cell_W (by simpa using this),(sKey_W a (by lia)).2⟩
    ·refine ⟨cell_W ?_,?_⟩
     ·rcases hk with rfl | rfl | rfl <;> decide +kernel
     ·rcases hx with rfl | ⟨a,ha,rfl⟩
      ·exact bTok_TW.2
      ·exact (sKey_W a (by lia)).2
   | inside =>
    obtain ⟨j,hj,rfl,h⟩:=h
    refine ⟨cell_W (sKey_W j (by lia)).1,?_⟩
    rcases h with ⟨y,rfl,c⟩ | ⟨rfl,_⟩
    ·exact (sKey_W y (by have:=k.c_lt c; lia)).2
    ·exact bTok_TW.2
   | told =>
    obtain ⟨_,rfl,i,hi,rfl⟩:=h
    have:=k.elen
    exact ⟨cell_W (int_W i (by lia)),by decide +kernel⟩
  | _=>exact h.elim
 ·obtain ⟨j,hj,rfl,h⟩:=h
  rcases h with ⟨y,rfl,c⟩ | ⟨rfl,_⟩
  ·exact .inr (.inr ⟨_,rfl⟩)
  ·exact .inl rfl
 ·rcases h with ⟨rfl,rfl⟩ | ⟨rfl,rfl⟩ | ⟨a,ha,rfl,rfl⟩ | ⟨hk,rfl | ⟨a,ha,rfl⟩⟩
  ·exact .inr (.inl ⟨_,rfl⟩)
  ·exact .inr (.inl ⟨_,rfl⟩)
  ·exact .inr (.inr ⟨_,rfl⟩)
  ·exact .inl rfl
  ·exact .inr (.inr ⟨_,rfl⟩)
 ·obtain ⟨_,rfl⟩:=h; exact ⟨-1,0,rfl,.inl rfl⟩
theorem rch_b {U:MP} {u:AV} (r:Rch U bTok u):u=bTok:=by
 induction r with
 | refl=>rfl
 | step _ b ih=>subst ih; cases b; rfl
theorem sKey_inj {a b:Nat} (h:sKey a=sKey b):a=b:=by simp at h; lia
theorem rch_s {D:LD} (k:D.Ok) {b:Bool} {a:Nat} (ha:a < D.many) {u:AV} (r:Rch (UF D b) (sTok (sKey a)) u) :
  (∃ x,x < D.many∧u=sTok (sKey x)∧D.R b a x)∨(u=bTok∧∃ z,D.R b a z∧D.L b z):=by
 induction r with
 | refl=>exact .inl ⟨a,ha,rfl,.refl _⟩
 | step _ l ih =>
  rcases ih with ⟨x,hx,rfl,rx⟩ | ⟨rfl,z,rz,lz⟩
  ·cases l with
   | inn m =>
    obtain ⟨j,hj,e,m⟩:=m
    have:=sKey_inj e; subst this
    rcases m with ⟨y,rfl,c⟩ | ⟨rfl,z,rz,lz⟩
    ·exact .inl ⟨y,(k.c_lt c).1,rfl,.step rx c⟩
    ·exact .inr ⟨rfl,z,rx.trans rz,lz⟩
   | out m =>
    obtain ⟨j,hj,e,m⟩:=m
    have:=sKey_inj e; subst this
    exact .inr ⟨rfl,x,rx,m⟩
  ·cases l; exact .inr ⟨rfl,z,rz,lz⟩
theorem lk_b {U:MP}:Lk U bTok:=fun x r=>by
 have:=rch_b r; subst this
 exact ⟨fun s e=>absurd e b_ne_s,fun i e=>absurd e b_ne_o⟩
theorem lk_s {D:LD} (k:D.Ok) {b:Bool} {a:Nat} (ha:a < D.many) (l:D.L b a):Lk (UF D b) (sTok (sKey a)):=fun x r=>by
 rcases rch_s k ha r with ⟨y,hy,rfl,ry⟩ | ⟨rfl,_⟩
 ·exact ⟨fun s e=>by simp at e; subst e; exact ⟨y,hy,rfl,LD.L_r l ry⟩,fun i e=>absurd e s_ne_o⟩
 ·exact ⟨fun s e=>absurd e b_ne_s,fun i e=>absurd e b_ne_o⟩
theorem pok_s {D:LD} (k:D.Ok) {b:Bool} {a:Nat} (ho:D.outer=true) (ha:a < D.many) (l:D.L b a):POk (UF D b) 0 (sTok (sKey a)):=fun x r=>by
 rcases rch_s k ha r with ⟨y,hy,rfl,ry⟩ | ⟨rfl,_⟩
 ·exact ⟨fun s _=>lk_s k hy (LD.L_r l ry),ho,rfl⟩
 ·exact ⟨fun s e=>absurd e b_ne_s,ho,rfl⟩
@[reducible] noncomputable def reg (a:Nat):AV:=rg (2 + (a:Int))
theorem tk_reg {D:LD} (k:D.Ok) {b:Bool} {a:Nat} (ha:a < D.many) {x:AV} (h:TkOf (UF D b) (reg a) x):x=sTok (sKey a):=by
 have m7:=k.m7
 rcases h with ⟨j,e,h⟩ | ⟨e,_⟩
 ·simp at e; subst e
  rcases h with ⟨e,_⟩ | ⟨e,_⟩ | ⟨c,hc,e,rfl⟩ | ⟨e | e | e,_⟩
  ·simp at e; lia
  ·simp at e; lia
  ·simp at e; rw [show a=c by lia]
  ·simp at e; lia
  ·simp at e; lia
  ·simp at e; lia
 ·injection e with e _; injection e with e; exact absurd e (by decide)
theorem tk_nil {M:MP} {x:AV} (h:TkOf M c__law_NIL x):False:=by
 rcases h with ⟨j,e,h⟩ | ⟨e,_⟩
 ·injection e with e _; injection e with e; exact absurd e (by decide)
 ·simp at e
theorem tk_glob {M:MP} {x:AV} (h:TkOf M c__law_GLOBAL x):x=bTok:=by
 rcases h with ⟨j,e,h⟩ | ⟨e,h⟩
 ·injection e with e _; injection e with e; exact absurd e (by decide)
 ·exact h
end
end Mine
namespace Mine
section
set_option maxRecDepth 10000
set_option genInjectivity true in
inductive Kd | new (a:Nat) | load (a:Nat) | clear (a:Nat) | read (a:Nat) | same (a:Nat) | put (a o:Nat) | sent (a:Nat) | face (a:Nat) | glob (a:Nat) | outer (a:Nat) | go (a:Nat) | unk (a:Nat) | defr (a:Nat) | store (h x:Nat)
@[reducible] noncomputable def iStore (o1 o2:AV):AV:=.cons (.str w_store) (.cons o1 (.cons o2 .nil))
@[reducible] noncomputable def iCall (n:Nat) (o0 o1:AV):AV:=.cons (.str w_call) (.cons (.cons (.int 15) .nil) (.cons (fnN n) (.cons (pr o0 o1) .nil)))
noncomputable def enc:Kd→AV
 | .new a=>.cons (.str w_new) (.cons (.int (2 + (a:Int))) (.cons c__law_T (.cons (sKey a) .nil)))
 | .load a=>.cons (.str w_load) (.cons (.int 14) (.cons (reg a) .nil))
 | .clear a=>iStore (reg a) c__law_NIL
 | .read a=>iCall w_main_load (reg a) c__law_NIL
 | .same a=>iCall w_main_same (reg a) c__law_NIL
 | .put a o=>iCall w_main_put (reg a) (reg o)
 | .sent a=>.cons (.str w_send) (.cons c__law_CHANNEL (.cons (reg a) .nil))
 | .face a=>.cons (.str w_face) (.cons (.int 13) (.cons (reg a) (.cons c__law_T .nil)))
 | .glob a=>iStore c__law_GLOBAL (reg a)
 | .outer a=>iStore (rg 0) (reg a)
 | .go a=>.cons (.str w_go) (.cons (fnN w_main_load) (.cons (pr (reg a) c__law_NIL) .nil))
 | .unk a=>.cons (.str w_call) (.cons (.cons (.int 15) .nil) (.cons (pr (.str w_value) (rg 1)) (.cons (.cons (reg a) .nil) .nil)))
 | .defr a=>.cons (.str w_defer) (.cons (fnN w_other_none) (.cons (.cons (reg a) .nil) .nil))
 | .store h x=>iStore (reg h) (reg x)
noncomputable def hdA:AV→AV
 | .cons a _=>a
 | a=>a
noncomputable def tlA:AV→AV
 | .cons _ b=>b
 | a=>a
noncomputable def strA:AV→Nat
 | .str n=>n
 | _=>0
noncomputable def intA:AV→Nat
 | .int i=>i.toNat
 | _=>0
noncomputable def numA (x:AV):Nat:=intA (hdA (tlA x))
noncomputable def rgA (x:AV):Nat:=numA x - 2
noncomputable def decS (o1 o2:AV):Kd:=bif Nat.beq (strA (hdA o1)) w_reg then (bif Nat.beq (strA (hdA o2)) w_reg then (bif Nat.beq (numA o1) 0 then .outer (rgA o2) else .store (rgA o1) (rgA o2)) else .clear (rgA o1)) else .glob (rgA o2)
noncomputable def decC (f x:AV):Kd:=bif Nat.beq (strA (hdA f)) w_value then .unk (rgA (hdA x)) else bif Nat.beq (strA (hdA (tlA f))) w_main_load then .read (rgA (hdA x)) else bif Nat.beq (strA (hdA (tlA f))) w_main_same then .same (rgA (hdA x)) else .put (rgA (hdA x)) (rgA (hdA (tlA x)))
noncomputable def dec (x:AV):Kd :=
 bif Nat.beq (strA (hdA x)) w_new then .new (numA (hdA (tlA (tlA (tlA x))))) else
 bif Nat.beq (strA (hdA x)) w_load then .load (rgA (hdA (tlA (tlA x)))) else
 bif Nat.beq (strA (hdA x)) w_send then .sent (rgA (hdA (tlA (tlA x)))) else
 bif Nat.beq (strA (hdA x)) w_face then .face (rgA (hdA (tlA (tlA x)))) else
 bif Nat.beq (strA (hdA x)) w_go then .go (rgA (hdA (hdA (tlA (tlA x))))) else
 bif Nat.beq (strA (hdA x)) w_defer then .defr (rgA (hdA (hdA (tlA (tlA x))))) else
 bif Nat.beq (strA (hdA x)) w_store then decS (hdA (tlA x)) (hdA (tlA (tlA x))) else decC (hdA (tlA (tlA x))) (hdA (tlA (tlA (tlA x))))
theorem numA_reg (a:Nat):numA (reg a)=2 + a:=by show (2 + (a:Int)).toNat=_; lia
theorem rgA_reg (a:Nat):rgA (reg a)=a:=by show numA (reg a) - 2=a; rw [numA_reg]; lia
theorem dec_store (h x:Nat):decS (reg h) (reg x)=.store h x:=by
 show (bif Nat.beq (numA (reg h)) 0 then Kd.outer (rgA (reg x)) else .store (rgA (reg h)) (rgA (reg x)))=_
 rw [numA_reg,rgA_reg,rgA_reg,Nat.add_comm]; rfl
theorem dec_enc (k:Kd):dec (enc k)=k:=by
 cases k with
 | new a=>rfl
 | load a=>exact congrArg Kd.load (rgA_reg a)
 | clear a=>exact congrArg Kd.clear (rgA_reg a)
 | read a=>exact congrArg Kd.read (rgA_reg a)
 | same a=>exact congrArg Kd.same (rgA_reg a)
 | put a o=>exact (congrArg (Kd.put · (rgA (reg o))) (rgA_reg a)).trans (congrArg (Kd.put a) (rgA_reg o))
 | sent a=>exact congrArg Kd.sent (rgA_reg a)
 | face a=>exact congrArg Kd.face (rgA_reg a)
 | glob a=>exact congrArg Kd.glob (rgA_reg a)
 | outer a=>exact congrArg Kd.outer (rgA_reg a)
 | go a=>exact congrArg Kd.go (rgA_reg a)
 | unk a=>exact congrArg Kd.unk (rgA_reg a)
 | defr a=>exact congrArg Kd.defr (rgA_reg a)
 | store h x=>exact dec_store h x
theorem enc_inj {k k':Kd} (h:enc k=enc k'):k=k':=by rw [← dec_enc k,h,dec_enc]
noncomputable def KOkP (D:LD):Kd→Prop
 | .new a | .load a | .clear a | .read a | .same a=>a < D.many
 | .put a o=>(o,a)∈D.puts
 | .sent a | .face a | .glob a | .go a | .unk a | .defr a=>a∈D.out
 | .outer a=>a∈D.out∧D.outer=true
 | .store h x=>(x,h)∈D.pairs
noncomputable def GoneOf (M:MP) (a:Nat):Prop:=∀ x,TkOf M (reg a) x→∀ u,Rch M x u→∀ s,u=sTok s→M (.top .gone) s
noncomputable def CK (b:Bool):Kd→MP→Prop
 | .new a,M=>M (.top .sites) (sKey a)∧M (.cell .held (.int (2 + (a:Int)))) (sTok (sKey a))
 | .put a o,M=>b=true→∀ s t,RT M (reg a) (sTok s)→RT M (reg o) t→M (.cell .inside s) t
 | .sent a,M | .face a,M | .glob a,M | .go a,M | .unk a,M | .defr a,M=>GoneOf M a
 | .outer a,M=>GoneOf M a∧∀ x,TkOf M (reg a) x→M (.top .kept) (pr (kx x) (.int 0))
 | .store h x,M=>∀ s t,TkOf M (reg h) (sTok s)→TkOf M (reg x) t→M (.cell .inside s) t
 | _,_=>True
theorem M_eq {F F':FS} (e:F'.log=F.log):F'.M=F.M:=by unfold FS.M; rw [e]
theorem gone_of {F F':FS} {a:Nat} (e:F'.log=F.log) (h:∀ x,TkOf F.M (reg a) x→Lkd F F' x):GoneOf F'.M a:=fun x hx u hu s hs=>by
 rw [M_eq e] at hx hu
 exact (h x hx u hu).1 s hs
theorem SumAt.wk {st st':Store} {F F':FS} {sm:Nat} {ks tl:List AV} (h:SumAt st (fun a=>¬ F.own a) sm ks tl) (x:Wk st F st' F'):SumAt st' (fun a=>¬ F'.own a) sm ks tl:=by
 have e1:(fun a=>¬ F.own a)=fun a=>¬ (F.fl true).own a:=by funext a; exact propext (not_congr own_fl.symm)
 have e2:(fun a=>¬ F'.own a)=fun a=>¬ (F'.fl true).own a:=by funext a; exact propext (not_congr own_fl.symm)
 rw [e1] at h; rw [e2]; exact h.ex x
structure Base (P:FP) (st:Store) (F:FS) (b:Bool) where
 dc:List (AV×AV)
 sl:Nat
 ss:Nat
 sp:Nat
 hd:st[P.sums]?=some (.dct dc)
 hn:¬ F.own P.sums
 gl:kget dc (.str w_main_load)=some (.ref sl)
 gs:kget dc (.str w_main_same)=some (.ref ss)
 gp:kget dc (.str w_main_put)=some (.ref sp)
 h0:(Role.cell .held (.int 0),oTok (.int 0))∈F.log
 go:kget dc (.str w_other_none)=none
 ql:SumAt st (fun a=>¬ F.own a) sl [] []
 qs:SumAt st (fun a=>¬ F.own a) ss [] (if b then [.int 0] else [])
 qp:SumAt st (fun a=>¬ F.own a) sp (if b then [pr (.int 1) (.int 0)] else []) []
theorem isOp_reg (a:Nat):isOp (reg a):=.inr (.inr ⟨_,rfl⟩)
theorem isOp_nil:isOp c__law_NIL:=.inl rfl
theorem isOp_glob:isOp c__law_GLOBAL:=.inr (.inl rfl)
theorem rt_reg {D:LD} (k:D.Ok) {b:Bool} {a:Nat} (ha:a < D.many) {x:AV} (h:RT (UF D b) (reg a) x):(∃ y,y < D.many∧x=sTok (sKey y)∧D.R b a y)∨(x=bTok∧∃ z,D.R b a z∧D.L b z):=by
 obtain ⟨t,h1,h2⟩:=h
 have:=tk_reg k ha h1; subst this
 exact rch_s k ha h2
theorem rt_held {D:LD} (k:D.Ok) {b:Bool} {a:Nat} (ha:a < D.many) {x:AV} (h:RT (UF D b) (reg a) x):UF D b (.cell .held (.int 15)) x:=by
 refine .inr (.inr (.inr ⟨by simp,?_⟩))
 rcases rt_reg k ha h with ⟨y,hy,rfl,_⟩ | ⟨rfl,_⟩
 ·exact .inr ⟨y,hy,rfl⟩
 ·exact .inl rfl
theorem lk_out {D:LD} (k:D.Ok) {b:Bool} {a:Nat} (ha:a∈D.out) {x:AV} (h:TkOf (UF D b) (reg a) x):Lk (UF D b) x:=by
 have:=tk_reg k (k.out a ha) h; subst this
 exact lk_s k (k.out a ha) ⟨a,ha,.refl _⟩
theorem act_k {D:LD} (k:D.Ok) {b:Bool} {P:FP} {st0:Store} {F0:FS} {d:Nat} (hP:P.U=UF D b) (B:Base P st0 F0 b) (x:Kd) (hx:KOkP D x):Act P st0 F0 (d + 9) (fun G=>[.ref (G.adr .self),enc x]) w_look (CK b x):=by
 intro st F h wk Q kk
 have u:UTk P.U:=hP ▸ UF_ok k b
 have m7:=k.m7
 have w13:AV.int 13∈W:=by decide +kernel
 have w14:AV.int 14∈W:=by decide +kernel
 have w15:AV.int 15∈W:=by decide +kernel
 cases x with
 | new a =>
  have ha:a < D.many:=hx
  have wj:AV.int (2 + (a:Int))∈W:=by have:=int_W (2 + a) (by lia); simpa using this
  refine look_new u h wj (hP ▸ ⟨a,ha,rfl⟩) (hP ▸ .inr (.inr (.inl ⟨a,ha,rfl,rfl⟩))) fun st' F' h' x' r1 r2=>kk st' F' h' x' fun _=>⟨r1,r2⟩
 | load a =>
  have ha:a < D.many:=hx
  refine look_load u h (isOp_reg a) w14 (fun t x ht hl=>?_) fun st' F' h' x'=>kk st' F' h' x' fun _=>trivial
  rw [hP] at ht hl ⊢
  have:=tk_reg k ha ht; subst this
  refine .inr (.inr (.inr ⟨by simp,?_⟩))
  rcases rch_s k ha (.step (.refl _) hl) with ⟨y,hy,rfl,_⟩ | ⟨rfl,_⟩
  ·exact .inr ⟨y,hy,rfl⟩
  ·exact .inl rfl
 | clear a =>
  have ha:a < D.many:=hx
  refine look_store u h (isOp_reg a) isOp_nil (fun g hg=>?_) fun st' F' h' x' r=>kk st' F' h' x' fun _=>trivial
  exact ⟨fun _ t ht=>(tk_nil ht).elim,fun _ _ t ht=>(tk_nil ht).elim,fun _ _=>⟨fun t ht=>(tk_nil ht).elim,fun _ t ht=>(tk_nil ht).elim⟩⟩
 | read a =>
  have ha:a < D.many:=hx
  exact look_read u h (isOp_reg a) isOp_nil w15 (wk.out B.hd B.hn) (wk.not (List.getElem?_eq_some_iff.mp B.hd).1 B.hn) B.gl (B.ql.wk wk) (.inl rfl) (.inl rfl) fun st' F' h' x' r=>kk st' F' h' x' fun _=>trivial
 | same a =>
  have ha:a < D.many:=hx
  refine look_read u h (isOp_reg a) isOp_nil w15 (wk.out B.hd B.hn) (wk.not (List.getElem?_eq_some_iff.mp B.hd).1 B.hn) B.gs (B.qs.wk wk) (.inl rfl) ?_ fun st' F' h' x' r=>kk st' F' h' x' fun _=>trivial
  cases b
  ·exact .inl rfl
  ·exact .inr ⟨rfl,fun x z=>by rw [hP] at z ⊢; exact rt_held k ha z⟩
 | put a o =>
  have hx:(o,a)∈D.puts:=hx
  have ⟨ho,ha⟩:=k.puts o a hx
  refine look_read u h (isOp_reg a) (isOp_reg o) w15 (wk.out B.hd B.hn) (wk.not (List.getElem?_eq_some_iff.mp B.hd).1 B.hn) B.gp (B.qp.wk wk) ?_ (.inl rfl) fun st' F' h' x' r=>kk st' F' h' x' fun e=>?_
  ·cases b
   ·exact .inl rfl
   ·refine .inr ⟨rfl,fun g hg=>?_⟩
    rw [hP] at hg ⊢
    have cl:∀ {x h},D.R true o x→D.R true a h→D.C true x h:=fun r1 r2=>(Cc.clo D.pairs D.puts).2 o a _ _ hx r1 r2
    have tt:∀ t,RT (UF D true) (reg o) t→∀ h,D.R true a h→D.L true h→Lk (UF D true) t:=fun t ht h rh lh=>by
     rcases rt_reg k ho ht with ⟨y,hy,rfl,ry⟩ | ⟨rfl,_⟩
     ·exact lk_s k hy (LD.L_r lh (.step (.refl _) (cl ry rh)))
     ·exact lk_b
    refine ⟨fun e t ht=>?_,fun o' e=>?_,fun s e=>⟨fun t ht=>?_,fun gn t ht=>?_⟩⟩
    ·rcases rt_reg k ha hg with ⟨y,hy,rfl,_⟩ | ⟨_,z,rz,lz⟩
     ·exact absurd e.symm b_ne_s
     ·exact tt t ht z rz lz
    ·rcases rt_reg k ha hg with ⟨y,hy,rfl,_⟩ | ⟨rfl,_⟩
     ·exact absurd e s_ne_o
     ·exact absurd e b_ne_o
    ·rcases rt_reg k ha hg with ⟨y,hy,rfl,ry⟩ | ⟨rfl,_⟩
     ·simp at e; subst e
      refine ⟨y,hy,rfl,?_⟩
      rcases rt_reg k ho ht with ⟨z,hz,rfl,rz⟩ | ⟨rfl,z,rz,lz⟩
      ·exact .inl ⟨z,rfl,cl rz ry⟩
      ·exact .inr ⟨rfl,z,.step (.refl _) (cl rz ry),lz⟩
     ·exact absurd e b_ne_s
    ·rcases rt_reg k ha hg with ⟨y,hy,rfl,ry⟩ | ⟨rfl,_⟩
     ·simp at e; subst e
      obtain ⟨c,hc,e,lc⟩:=gn
      have:=sKey_inj e; subst this
      exact tt t ht y ry lc
     ·exact absurd e b_ne_s
  ·intro hb; subst hb
   intro s t z1 z2
   rw [M_eq e] at z1 z2
   exact r rfl s t z1 z2
 | sent a=>exact look_send u h (isOp_reg a) (fun x z=>by rw [hP] at z ⊢; exact lk_out k hx z) fun st' F' h' x' r=>kk st' F' h' x' fun e=>gone_of e r
 | face a =>
  refine look_face u h (isOp_reg a) w13 (fun x z=>?_) fun st' F' h' x' r=>kk st' F' h' x' fun e=>gone_of e r
  rw [hP] at z ⊢
  refine ⟨lk_out k hx z,?_⟩
  have:=tk_reg k (k.out a hx) z; subst this
  exact .inr (.inr (.inr ⟨by simp,.inr ⟨a,k.out a hx,rfl⟩⟩))
 | glob a =>
  refine look_store u h isOp_glob (isOp_reg a) (fun g hg=>?_) fun st' F' h' x' r=>kk st' F' h' x' fun e=>gone_of e ((r bTok (.inr ⟨rfl,rfl⟩)).1 rfl)
  have:=tk_glob hg; subst this
  exact ⟨fun _ t z=>by rw [hP] at z ⊢; exact lk_out k hx z,fun o e=>absurd e b_ne_o,fun s e=>absurd e b_ne_s⟩
 | outer a =>
  have ha:=k.out a hx.1
  refine look_store u h (.inr (.inr ⟨0,rfl⟩)) (isOp_reg a) (fun g hg=>?_) fun st' F' h' x' r=>kk st' F' h' x' fun e=>?_
  ·rw [hP] at hg ⊢
   have:g=oTok (.int 0):=by
    rcases hg with ⟨j,e,hg⟩ | ⟨e,_⟩
    ·simp at e; subst e
     rcases hg with ⟨_,rfl⟩ | ⟨e,_⟩ | ⟨c,hc,e,rfl⟩ | ⟨e | e | e,_⟩
     ·rfl
     ·simp at e
     ·simp at e; lia
     ·simp at e
     ·simp at e
     ·simp at e
    ·injection e with e _; injection e with e; exact absurd e (by decide)
   subst this
   refine ⟨fun e=>absurd e.symm b_ne_o,fun o e t z=>?_,fun s e=>absurd e o_ne_s⟩
   simp at e; subst e
   have:=tk_reg k ha z; subst this
   exact pok_s k hx.2 ha ⟨a,hx.1,.refl _⟩
  ·have h0:TkOf F.M (rg 0) (oTok (.int 0)):=.inl ⟨0,rfl,Ex.mem wk (F:=F0.fl true) (G:=F.fl true) B.h0⟩
   have r0:=(r _ h0).2.1 0 rfl
   refine ⟨fun x hx u hu s hs=>?_,fun x hx=>?_⟩
   ·rw [M_eq e] at hx hu
    exact (r0 x hx u hu).1 s hs
   ·rw [M_eq e] at hx
    exact (r0 x hx x (.refl _)).2
 | go a =>
  refine look_go u h (isOp_reg a) isOp_nil (fun x z=>?_) fun st' F' h' x' r=>kk st' F' h' x' fun e=>gone_of e r
  rcases z with z | z
  ·rw [hP] at z ⊢; exact lk_out k hx z
  ·exact (tk_nil z).elim
 | unk a =>
  exact look_unk u h (isOp_reg a) w15 (fun x z=>by rw [hP] at z ⊢; exact lk_out k hx z) (hP ▸ .inr (.inr (.inr ⟨by simp,.inl rfl⟩))) fun st' F' h' x' r=>kk st' F' h' x' fun e=>gone_of e r
 | defr a =>
  exact look_defer u h (isOp_reg a) (wk.out B.hd B.hn) (wk.not (List.getElem?_eq_some_iff.mp B.hd).1 B.hn) B.go (fun x z=>by rw [hP] at z ⊢; exact lk_out k hx z) fun st' F' h' x' r=>kk st' F' h' x' fun e=>gone_of e r
 | store hh y =>
  have hx:(y,hh)∈D.pairs:=hx
  have ⟨hy,hhh⟩:=k.pairs y hh hx
  have cl:D.C b y hh:=(Cc.clo D.pairs _).1 y hh hx
  refine look_store u h (isOp_reg hh) (isOp_reg y) (fun g hg=>?_) fun st' F' h' x' r=>kk st' F' h' x' fun e s t z1 z2=>?_
  ·rw [hP] at hg ⊢
   have:=tk_reg k hhh hg; subst this
   refine ⟨fun e=>absurd e.symm b_ne_s,fun o e=>absurd e s_ne_o,fun s e=>?_⟩
   simp at e; subst e
   refine ⟨fun t z=>?_,fun gn t z=>?_⟩
   ·have:=tk_reg k hy z; subst this
    exact ⟨hh,hhh,rfl,.inl ⟨y,rfl,cl⟩⟩
   ·have:=tk_reg k hy z; subst this
    obtain ⟨c,hc,e,lc⟩:=gn
    have:=sKey_inj e; subst this
    exact lk_s k hy (LD.L_r lc (.step (.refl _) cl))
  ·rw [M_eq e] at z1 z2
   have:=(r _ z1).2.2 s rfl t z2
   exact this
end
end Mine
namespace Mine
section
set_option maxRecDepth 10000
noncomputable def te (D:LD):AV:=if D.thrown then pr (.str w_panic) (reg (D.ends.headD 0)) else pr (.str w_return) (AV.ofL (D.ends.map reg))
noncomputable def CE (D:LD) (M:MP):Prop:=(D.thrown=false→∀ (j e:Nat),D.ends[j]?=some e→(∀ x,TkOf M (reg e) x→M (.cell .told (.int j)) (kx x))∧GoneOf M e)∧(D.thrown=true→∀ e∈D.ends,GoneOf M e)
noncomputable def CI (b:Bool) (x:AV) (M:MP):Prop:=∃ k,enc k=x∧CK b k M
theorem tok_isS {D:LD} (k:D.Ok) {b:Bool} {a:Nat} (ha:a < D.many) {M:MP} (hM:∀ r x,M r x→UF D b r x) {x:AV} (h:TkOf M (reg a) x):x=sTok (sKey a):=tk_reg k ha (h.mono hM)
theorem act_end {D:LD} (k:D.Ok) {b:Bool} {P:FP} {st0:Store} {F0:FS} {d:Nat} (hP:P.U=UF D b):Act P st0 F0 (d + 9) (fun G=>[.ref (G.adr .self),te D]) w_leave (CE D):=by
 intro st F h wk Q kk
 have u:UTk P.U:=hP ▸ UF_ok k b
 have m7:=k.m7
 unfold te
 cases ht:D.thrown with
 | true =>
  have e1:=k.thr ht
  obtain ⟨e,he⟩:∃ e,D.ends=[e]:=by
   match D.ends,e1 with
   | [e],_=>exact ⟨e,rfl⟩
  have eo:e∈D.out:=k.ends e (by rw [he]; simp)
  simp only [he,if_true,List.headD_cons]
  refine leave_panic h u (isOp_reg e) (fun x z=>by rw [hP] at z ⊢; exact lk_out k eo z) fun st' F' h' x' r=>kk st' F' h' x' fun q=>⟨fun z=>(by rw [ht] at z; cases z),fun _ e' he'=>?_⟩
  rw [he] at he'; simp at he'; subst he'
  exact gone_of q r
 | false =>
  have el:=k.elen
  have get:∀ (j:Nat) o,(D.ends.map reg)[j]?=some o→∃ e,D.ends[j]?=some e∧o=reg e:=fun j o z=>by
   simp at z; obtain ⟨e,z1,z2⟩:=z; exact ⟨e,z1,z2.symm⟩
  simp only [Bool.false_eq_true,if_false]
  refine leave_ret h u (fun j o z=>?_) fun st' F' h' x' r=>kk st' F' h' x' fun q=>⟨fun _ j e he=>?_,fun z=>by rw [ht] at z; cases z⟩
  ·obtain ⟨e,he,rfl⟩:=get j o z
   have jl:j < D.ends.length:=(List.getElem?_eq_some_iff.mp he).1
   have eo:e∈D.out:=k.ends e (List.mem_of_getElem? he)
   refine ⟨isOp_reg e,int_W j (by lia),fun x hx=>?_⟩
   rw [hP] at hx ⊢
   refine ⟨?_,fun s _=>lk_out k eo hx⟩
   have:=tk_reg k (k.out e eo) hx; subst this
   exact ⟨ht,rfl,j,jl,rfl⟩
  ·have:=r j (reg e) (by simp [he])
   have eo:e∈D.out:=k.ends e (List.mem_of_getElem? he)
   refine ⟨fun x hx=>?_,fun x hx u hu s hs=>?_⟩
   ·rw [M_eq q] at hx
    exact (this x hx).1
   ·rw [M_eq q] at hx hu
    have hx':x=sTok (sKey e):=tok_isS k (k.out e eo) (fun r y z=>by have:=h.up r y z; rwa [hP] at this) hx
    exact ((this x hx).2 (sKey e) hx' u hu).1 s hs
structure KC (D:LD) (ks:List Kd):Prop where
 ok:∀ k∈ks,KOkP D k
 new:∀ a,a < D.many→Kd.new a∈ks
 store:∀ x h,(x,h)∈D.pairs→Kd.store h x∈ks
 put:∀ o a,(o,a)∈D.puts→Kd.put a o∈ks
 out:∀ a∈D.out,(∃ k∈ks,∀ b M,CK b k M→GoneOf M a)∨a∈D.ends
 outer:D.outer=true→∃ a,Kd.outer a∈ks
noncomputable def sumRole:Role→Bool
 | .top .leaks | .top .kept | .cell .told _=>true
 | _=>false
noncomputable def outRole:Role→Bool
 | .top _ | .cell .told _=>true
 | _=>false
theorem f_exact {D:LD} (k:D.Ok) {b:Bool} {ks:List Kd} (K:KC D ks) {M:MP} (hM:∀ r x,M r x→UF D b r x) (hi:∀ x∈ks.map enc,CI b x M) (he:CE D M) {r:Role} (hr:outRole r=true) {x:AV}:M r x↔UF D b r x:=by
 refine ⟨hM r x,fun h=>?_⟩
 have ck:∀ y∈ks,CK b y M:=fun y hy=>by
  obtain ⟨y',e,c⟩:=hi _ (List.mem_map_of_mem hy)
  have:=enc_inj e; subst this; exact c
 have held:∀ a,a < D.many→TkOf M (reg a) (sTok (sKey a)):=fun a ha=>.inl ⟨_,rfl,(ck _ (K.new a ha)).2⟩
 have hS:Clo D.pairs (if b then D.puts else []) fun x h=>M (.cell .inside (sKey h)) (sTok (sKey x)):=by
  have rr:∀ {a y},Rea (fun x h=>M (.cell .inside (sKey h)) (sTok (sKey x))) a y→Rch M (sTok (sKey a)) (sTok (sKey y)):=fun z=>by
   induction z with
   | refl=>exact .refl _
   | step _ q ih=>exact .step ih (.inn q)
  refine ⟨fun x h e=>?_,fun o a x h e r1 r2=>?_⟩
  ·have ⟨hx,hh⟩:=k.pairs x h e
   exact ck _ (K.store x h e) _ _ (held h hh) (held x hx)
  ·cases b with
   | false=>simp at e
   | true =>
    have e:(o,a)∈D.puts:=e
    have ⟨ho,ha⟩:=k.puts o a e
    exact ck _ (K.put o a e) rfl _ _ ⟨_,held a ha,rr r2⟩ ⟨_,held o ho,rr r1⟩
 have hC:∀ x h,D.C b x h→M (.cell .inside (sKey h)) (sTok (sKey x)):=fun x h z=>z _ hS
 have hR:∀ {a y},D.R b a y→Rch M (sTok (sKey a)) (sTok (sKey y)):=fun z=>by
  induction z with
  | refl=>exact .refl _
  | step _ q ih=>exact .step ih (.inn (hC _ _ q))
 have hG:∀ a∈D.out,GoneOf M a:=fun a ha=>by
  rcases K.out a ha with ⟨y,hy,z⟩ | z
  ·exact z b M (ck y hy)
  ·cases ht:D.thrown with
   | true=>exact he.2 ht a z
   | false =>
    obtain ⟨j,hj⟩:=List.getElem?_of_mem z
    exact (he.1 ht j a hj).2
 cases r with
 | top s =>
  cases s with
  | sites=>obtain ⟨a,ha,rfl⟩:=h; exact (ck _ (K.new a ha)).1
  | gone =>
   obtain ⟨a,ha,rfl,o,ho,ro⟩:=h
   exact hG o ho _ (held o (k.out o ho)) _ (hR ro) _ rfl
  | leaks=>exact h.elim
  | kept =>
   obtain ⟨ho,rfl⟩:=h
   obtain ⟨a,ha⟩:=K.outer ho
   have:=(ck _ ha).2 _ (held a (k.out a (K.ok _ ha).1))
   exact this
 | cell t j =>
  cases t with
  | told =>
   obtain ⟨ht,rfl,i,hi',rfl⟩:=h
   obtain ⟨e,he'⟩:∃ e,D.ends[i]?=some e:=⟨_,List.getElem?_eq_getElem hi'⟩
   exact (he.1 ht i e he').1 _ (held e (k.out e (k.ends e (List.mem_of_getElem? he'))))
  | held=>cases hr
  | inside=>cases hr
 | _=>cases hr
end
end Mine
namespace Mine
section
set_option maxRecDepth 10000
structure CodeAt (st:Store) (cd:Nat) (ins:List AV) (te:AV):Prop where
 ex:Ex5 fun cn bl b1 il fs=>And8 (st[cd]?=some (.ins w_Code cn)) (st[cn]?=some (.ns fs)) (get fs w_captured=some (.int 0)) (get fs w_params=some (.int 2)) (get fs w_blocks=some (.ref bl)) (st[bl]?=some (.lst [.ref b1])) (st[b1]?=some (.lst [.ref il,te])) (st[il]?=some (.lst ins))
noncomputable def GoOk (d:Nat) (P:FP) (st:Store) (E:MP):Prop:=∀ Q:AV→Store→Prop,(∀ st' F',FAt P st' F'→Wk (st++L0 P st.length) (F0 st.length) st' F'→(∀ r x,outRole r=true→(F'.M r x↔E r x))→Q .none st') →
 callP mprog (d + 10) w_EscapeFlow w_go_through [.ref (st.length + 1)] (st++L0 P st.length) Q
theorem own0 {n a:Nat} (h:(F0 n).own a):n≤a:=by
 obtain ⟨r,l,rfl⟩:=h
 exact Nat.le_add_right n _
theorem look_app {st L:Store} {a:Nat} {o:AObj} (h:st[a]?=some o):(st++L)[a]?=some o:=by rw [List.getElem?_append_left (List.getElem?_eq_some_iff.mp h).1]; exact h
theorem nown {st:Store} {a:Nat} {o:AObj} (h:st[a]?=some o):¬ (F0 st.length).own a:=fun z=>by
 have:=own0 z; have:=(List.getElem?_eq_some_iff.mp h).1; lia
theorem SumAt.up {st L:Store} {N:Nat→Prop} {sm:Nat} {ks tl:List AV} (h:SumAt st N sm ks tl):SumAt (st++L) (fun a=>¬ (F0 st.length).own a) sm ks tl:=by
 obtain ⟨n,a1,a2,a3,h1,h2,h3,h4,_,_,_,_,_,h5⟩:=h
 refine ⟨n,a1,a2,a3,look_app h1,look_app h2,look_app h3,look_app h4,nown h1,nown h2,nown h3,nown h4,?_,?_⟩
 ·obtain ⟨td,e,_⟩:=h5; exact nown e
 ·obtain ⟨td,e,h5⟩:=h5
  refine ⟨td,look_app e,?_⟩
  rcases h5 with q | ⟨b,q0,q,_⟩
  ·exact .inl q
  ·exact .inr ⟨b,q0,look_app q,nown q⟩
theorem go_of {d:Nat} {P:FP} {st:Store} {ins:List AV} {te:AV} {CI:AV→MP→Prop} {CE:MP→Prop} {E:MP} (u:UTk P.U) (C:CodeAt st P.code ins te)
  (u0:P.U (.cell .held (.int 0)) (oTok (.int 0))) (u1:P.U (.cell .held (.int 1)) (oTok (.int 1)))
  (hi:∀ x∈ins,Act P (st++L0 P st.length) (F0 st.length) (d + 9) (fun G=>[.ref (G.adr .self),x]) w_look (CI x)) (he:Act P (st++L0 P st.length) (F0 st.length) (d + 9) (fun G=>[.ref (G.adr .self),te]) w_leave CE)
  (hE:∀ M:MP,(∀ r x,M r x→P.U r x)→M (.cell .held (.int 0)) (oTok (.int 0))→M (.cell .held (.int 1)) (oTok (.int 1))→(∀ x∈ins,CI x M)→CE M→∀ r x,outRole r=true→(M r x↔E r x)):GoOk d P st E:=by
 intro Q k
 obtain ⟨cn,bl,b1,il,fs,k1,k2,_,_,k3,k4,k5,k6⟩:=C.ex
 refine go_spec u (FAt0 u0 u1) (look_app k1) (nown k1) (look_app k2) (nown k2) k3 (look_app k4) (nown k4) (look_app k5) (nown k5) (look_app k6) (nown k6) hi he fun st' F' h' x' ci ce=>k st' F' h' x' fun r x hr=>?_
 have m0:∀ {r x},(r,x)∈(F0 st.length).log→F'.M r x:=fun z=>Ex.mem x' (F:=(F0 st.length).fl true) (G:=F'.fl true) z
 exact hE F'.M h'.up (m0 (by simp [F0])) (m0 (by simp [F0])) ci ce r x hr
theorem go_f {d:Nat} {D:LD} (k:D.Ok) {ks:List Kd} (K:KC D ks) {b:Bool} {P:FP} {st:Store} (hP:P.U=UF D b) (C:CodeAt st P.code (ks.map enc) (te D)) (B:Base P (st++L0 P st.length) (F0 st.length) b):GoOk d P st (UF D b):=by
 refine go_of (CI:=CI b) (CE:=CE D) (hP ▸ UF_ok k b) C (hP ▸ .inl ⟨rfl,rfl⟩) (hP ▸ .inr (.inl ⟨rfl,rfl⟩)) (fun x hx=>?_) (act_end k hP) fun M hM _ _ ci ce r x hr=>f_exact k K (fun r x z=>by have:=hM r x z; rwa [hP] at this) ci ce hr
 obtain ⟨y,hy,rfl⟩:=List.mem_map.mp hx
 intro s F h wk Q kk
 exact act_k k hP B y (K.ok y hy) s F h wk Q fun st' F' h' x' q=>kk st' F' h' x' fun e=>⟨y,rfl,q e⟩
noncomputable def UH (t2 s kp tl:Option AV):MP
 | .top .sites,x=>s=some x
 | .top .kept,x=>kp=some x
 | .cell .held k,t=>(k=.int 0∧t=oTok (.int 0))∨(k=.int 1∧t=oTok (.int 1))∨(k=.int 2∧t2=some t)
 | .cell .told j,x=>j=.int 0∧tl=some x
 | _,_=>False
theorem UH_sites {t2 s kp tl:Option AV} {x:AV}:UH t2 s kp tl (.top .sites) x=(s=some x):=rfl
theorem UH_kept {t2 s kp tl:Option AV} {x:AV}:UH t2 s kp tl (.top .kept) x=(kp=some x):=rfl
theorem UH_told {t2 s kp tl:Option AV} {j x:AV}:UH t2 s kp tl (.cell .told j) x=(j=.int 0∧tl=some x):=rfl
theorem UH_ok {t2 s kp tl:Option AV} (h1:t2=none∨t2=some (oTok (.int 0))∨t2=some (sTok iKey)) (h2:s=none∨s=some iKey) (h3:kp=none∨kp=some (pr (.int 1) (.int 0))) (h4:tl=none∨tl=some (.int 0)):UTk (UH t2 s kp tl):=by
 refine ⟨⟨fun r x h=>?_⟩,fun j x h=>h.elim,fun j x h=>?_,fun x h=>?_⟩
 ·cases r with
  | top q =>
   cases q with
   | sites =>
    have h:s=some x:=h
    rcases h2 with e | e <;> rw [e] at h <;> cases h
    exact ⟨by simp [rolesW],by decide +kernel⟩
   | kept =>
    have h:kp=some x:=h
    rcases h3 with e | e <;> rw [e] at h <;> cases h
    exact ⟨by simp [rolesW],by decide +kernel⟩
   | _=>exact h.elim
  | cell t j =>
   cases t with
   | held =>
    rcases h with ⟨rfl,rfl⟩ | ⟨rfl,rfl⟩ | ⟨rfl,h⟩
    ·exact ⟨cell_W (by decide +kernel),by decide +kernel⟩
    ·exact ⟨cell_W (by decide +kernel),by decide +kernel⟩
    ·refine ⟨cell_W (by decide +kernel),?_⟩
     rcases h1 with e | e | e <;> rw [e] at h <;> cases h <;> decide +kernel
   | inside=>exact h.elim
   | told =>
    obtain ⟨rfl,h⟩:=h
    rcases h4 with e | e <;> rw [e] at h <;> cases h
    exact ⟨cell_W (by decide +kernel),by decide +kernel⟩
  | _=>exact h.elim
 ·rcases h with ⟨rfl,rfl⟩ | ⟨rfl,rfl⟩ | ⟨rfl,h⟩
  ·exact .inr (.inl ⟨_,rfl⟩)
  ·exact .inr (.inl ⟨_,rfl⟩)
  ·rcases h1 with e | e | e <;> rw [e] at h <;> cases h
   ·exact .inr (.inl ⟨_,rfl⟩)
   ·exact .inr (.inr ⟨_,rfl⟩)
 ·have h:kp=some x:=h
  rcases h3 with e | e <;> rw [e] at h <;> cases h
  exact ⟨1,0,rfl,.inr (by decide +kernel)⟩
theorem tk_h {t2 s kp tl:Option AV} {j:Int} {x:AV} (h:TkOf (UH t2 s kp tl) (rg j) x):(j=0∧x=oTok (.int 0))∨(j=1∧x=oTok (.int 1))∨(j=2∧t2=some x):=by
 rcases h with ⟨i,e,h⟩ | ⟨e,_⟩
 ·simp at e; subst e
  rcases h with ⟨e,h⟩ | ⟨e,h⟩ | ⟨e,h⟩ <;> simp at e
  ·exact .inl ⟨e,h⟩
  ·exact .inr (.inl ⟨e,h⟩)
  ·exact .inr (.inr ⟨e,h⟩)
 ·injection e with e _; injection e with e; exact absurd e (by decide)
theorem ret_nil {P:FP} {st0:Store} {F0:FS} {d:Nat} (u:UTk P.U):Act P st0 F0 (d + 9) (fun G=>[.ref (G.adr .self),pr (.str w_return) (AV.ofL [c__law_NIL])]) w_leave (fun _=>True):=by
 intro st F h wk Q kk
 refine leave_ret h u (fun j o z=>?_) fun st' F' h' x' r=>kk st' F' h' x' fun _=>trivial
 have:j=0∧o=c__law_NIL:=by
  cases j with
  | zero=>simp at z; exact ⟨rfl,z.symm⟩
  | succ j=>simp at z
 obtain ⟨rfl,rfl⟩:=this
 exact ⟨isOp_nil,by decide +kernel,fun x hx=>(tk_nil hx).elim⟩
theorem ret_reg {P:FP} {st0:Store} {F0:FS} {d:Nat} {i:Int} {t2 s kp tl:Option AV} (hP:P.U=UH t2 s kp tl) (u:UTk P.U) (hr:∀ x,TkOf P.U (rg i) x→x=oTok (.int 0)) (ht:tl=some (.int 0)) :
  Act P st0 F0 (d + 9) (fun G=>[.ref (G.adr .self),pr (.str w_return) (AV.ofL [rg i])]) w_leave (fun M=>∀ x,TkOf M (rg i) x→M (.cell .told (.int 0)) (kx x)):=by
 intro st F h wk Q kk
 refine leave_ret h u (fun j o z=>?_) fun st' F' h' x' r=>kk st' F' h' x' fun e x hx=>?_
 ·have:j=0∧o=rg i:=by
   cases j with
   | zero=>simp at z; exact ⟨rfl,z.symm⟩
   | succ j=>simp at z
  obtain ⟨rfl,rfl⟩:=this
  refine ⟨.inr (.inr ⟨i,rfl⟩),by decide +kernel,fun x hx=>?_⟩
  have:=hr x hx; subst this
  rw [hP]
  exact ⟨⟨rfl,ht⟩,fun s e=>absurd e o_ne_s⟩
 ·rw [M_eq e] at hx
  exact (r 0 (rg i) rfl x hx).1
end
end Mine
namespace Mine
section
set_option maxRecDepth 10000
noncomputable def U_load:MP:=UH (some (oTok (.int 0))) none none none
noncomputable def U_same:MP:=UH (some (oTok (.int 0))) none none (some (.int 0))
noncomputable def U_put:MP:=UH none none (some (pr (.int 1) (.int 0))) none
noncomputable def U_idle:MP:=UH (some (sTok iKey)) (some iKey) none (some (.int 0))
noncomputable def t_nil:AV:=pr (.str w_return) (AV.ofL [c__law_NIL])
@[reducible] noncomputable def iTwo (n:Nat) (j:Int) (o:AV):AV:=.cons (.str n) (.cons (.int j) (.cons o .nil))
theorem ld_o {t2 s tl:Option AV} {i:Int} {x:AV} (h:Ld (UH t2 s none tl) (oTok (.int i)) x):x=oTok (.int i):=by
 cases h with
 | selfO=>rfl
 | kept m=>cases m
theorem two_W:AV.int 2∈W:=by decide +kernel
theorem go_load {d:Nat} {P:FP} {st:Store} (hP:P.U=U_load) (C:CodeAt st P.code [iTwo w_load 2 (rg 0)] t_nil):GoOk d P st U_load:=by
 have u:UTk P.U:=hP ▸ UH_ok (.inr (.inl rfl)) (.inl rfl) (.inl rfl) (.inl rfl)
 refine go_of (CI:=fun _ _=>True) (CE:=fun _=>True) u C (hP ▸ .inl ⟨rfl,rfl⟩) (hP ▸ .inr (.inl ⟨rfl,rfl⟩)) (fun x hx=>?_) (ret_nil u) fun M hM _ _ _ _ r x hr=>⟨fun z=>hP ▸ hM r x z,fun z=>?_⟩
 ·simp at hx; subst hx
  intro s F h wk Q kk
  refine look_load u h (.inr (.inr ⟨0,rfl⟩)) two_W (fun t x ht hl=>?_) fun st' F' h' x'=>kk st' F' h' x' fun _=>trivial
  rw [hP] at ht hl ⊢
  rcases tk_h ht with ⟨_,rfl⟩ | ⟨e,_⟩ | ⟨e,_⟩
  ·have:=ld_o hl; subst this
   exact .inr (.inr ⟨rfl,rfl⟩)
  ·lia
  ·lia
 ·cases r with
  | top q=>cases q <;> cases z
  | cell t j=>cases t with
   | told=>obtain ⟨_,z⟩:=z; cases z
   | _=>cases hr
  | _=>cases hr
theorem go_same {d:Nat} {P:FP} {st:Store} (hP:P.U=U_same) (C:CodeAt st P.code [iTwo w_move 2 (rg 0)] (pr (.str w_return) (AV.ofL [rg 2]))):GoOk d P st U_same:=by
 have u:UTk P.U:=hP ▸ UH_ok (.inr (.inl rfl)) (.inl rfl) (.inl rfl) (.inr rfl)
 have r2:∀ x,TkOf P.U (rg 2) x→x=oTok (.int 0):=fun x hx=>by
  rw [hP] at hx
  rcases tk_h hx with ⟨e,_⟩ | ⟨e,_⟩ | ⟨_,e⟩
  ·lia
  ·lia
  ·cases e; rfl
 refine go_of (CI:=fun _ M=>∀ x,TkOf M (rg 0) x→M (.cell .held (.int 2)) x) (CE:=fun M=>∀ x,TkOf M (rg 2) x→M (.cell .told (.int 0)) (kx x)) u C (hP ▸ .inl ⟨rfl,rfl⟩) (hP ▸ .inr (.inl ⟨rfl,rfl⟩)) (fun x hx=>?_) (ret_reg hP u r2 rfl) fun M hM m0 _ ci ce r x hr=>⟨fun z=>hP ▸ hM r x z,fun z=>?_⟩
 ·simp at hx; subst hx
  intro s F h wk Q kk
  refine look_move u h (.inr (.inr ⟨0,rfl⟩)) two_W (fun t ht=>?_) fun st' F' h' x' r=>kk st' F' h' x' fun e x hx=>?_
  ·rw [hP] at ht ⊢
   rcases tk_h ht with ⟨_,rfl⟩ | ⟨e,_⟩ | ⟨e,_⟩
   ·exact .inr (.inr ⟨rfl,rfl⟩)
   ·lia
   ·lia
  ·rw [M_eq e] at hx; exact r x hx
 ·cases r with
  | top q=>cases q <;> cases z
  | cell t j =>
   cases t with
   | told =>
    obtain ⟨rfl,z⟩:=z
    cases z
    exact ce _ (.inl ⟨2,rfl,ci _ (by simp; rfl) _ (.inl ⟨0,rfl,m0⟩)⟩)
   | _=>cases hr
  | _=>cases hr
theorem go_put {d:Nat} {P:FP} {st:Store} (hP:P.U=U_put) (C:CodeAt st P.code [iStore (rg 0) (rg 1)] t_nil):GoOk d P st U_put:=by
 have u:UTk P.U:=hP ▸ UH_ok (.inl rfl) (.inl rfl) (.inr rfl) (.inl rfl)
 have ld1:∀ {x},Rch U_put (oTok (.int 1)) x→x=oTok (.int 1):=fun r=>by
  induction r with
  | refl=>rfl
  | step _ b ih =>
   subst ih
   cases b with
   | selfO=>rfl
   | kept m=>cases m
 refine go_of (CI:=fun _ M=>M (.cell .held (.int 0)) (oTok (.int 0))→M (.cell .held (.int 1)) (oTok (.int 1))→M (.top .kept) (pr (.int 1) (.int 0))) (CE:=fun _=>True) u C (hP ▸ .inl ⟨rfl,rfl⟩) (hP ▸ .inr (.inl ⟨rfl,rfl⟩)) (fun x hx=>?_) (ret_nil u) fun M hM m0 m1 ci ce r x hr=>⟨fun z=>hP ▸ hM r x z,fun z=>?_⟩
 ·simp at hx; subst hx
  intro s F h wk Q kk
  refine look_store u h (.inr (.inr ⟨0,rfl⟩)) (.inr (.inr ⟨1,rfl⟩)) (fun g hg=>?_) fun st' F' h' x' r=>kk st' F' h' x' fun e m0 m1=>?_
  ·rw [hP] at hg ⊢
   have:g=oTok (.int 0):=by
    rcases tk_h hg with ⟨_,e⟩ | ⟨e,_⟩ | ⟨e,_⟩
    ·exact e
    ·lia
    ·lia
   subst this
   refine ⟨fun e=>absurd e.symm b_ne_o,fun o e t ht=>?_,fun s e=>absurd e o_ne_s⟩
   simp at e; subst e
   have:t=oTok (.int 1):=by
    rcases tk_h ht with ⟨e,_⟩ | ⟨_,e⟩ | ⟨e,_⟩
    ·lia
    ·exact e
    ·lia
   subst this
   intro x rx
   have:=ld1 rx; subst this
   exact ⟨fun s e=>absurd e o_ne_s,rfl⟩
  ·rw [M_eq e] at m0 m1
   exact ((r _ (.inl ⟨0,rfl,m0⟩)).2.1 0 rfl _ (.inl ⟨1,rfl,m1⟩) _ (.refl _)).2
 ·cases r with
  | top q =>
   cases q with
   | kept=>cases z; exact ci _ (by simp; rfl) m0 m1
   | _=>cases z
  | cell t j=>cases t with
   | told=>obtain ⟨_,z⟩:=z; cases z
   | _=>cases hr
  | _=>cases hr
theorem go_idle {d:Nat} {P:FP} {st:Store} {t:AV} (hP:P.U=U_idle) (C:CodeAt st P.code [.cons (.str w_new) (.cons (.int 2) (.cons t (.cons iKey .nil)))] (pr (.str w_return) (AV.ofL [rg 0]))):GoOk d P st U_idle:=by
 have u:UTk P.U:=hP ▸ UH_ok (.inr (.inr rfl)) (.inr rfl) (.inl rfl) (.inr rfl)
 have r2:∀ x,TkOf P.U (rg 0) x→x=oTok (.int 0):=fun x hx=>by
  rw [hP] at hx
  rcases tk_h hx with ⟨_,e⟩ | ⟨e,_⟩ | ⟨e,_⟩
  ·exact e
  ·lia
  ·lia
 refine go_of (CI:=fun _ M=>M (.top .sites) iKey) (CE:=fun M=>∀ x,TkOf M (rg 0) x→M (.cell .told (.int 0)) (kx x)) u C (hP ▸ .inl ⟨rfl,rfl⟩) (hP ▸ .inr (.inl ⟨rfl,rfl⟩)) (fun x hx=>?_) (ret_reg hP u r2 rfl) fun M hM m0 _ ci ce r x hr=>⟨fun z=>hP ▸ hM r x z,fun z=>?_⟩
 ·simp at hx; subst hx
  intro s F h wk Q kk
  refine look_new u h two_W (hP ▸ rfl) (hP ▸ .inr (.inr ⟨rfl,rfl⟩)) fun st' F' h' x' r1 r2=>kk st' F' h' x' fun _=>r1
 ·cases r with
  | top q =>
   cases q with
   | sites=>cases z; exact ci _ (by simp; rfl)
   | _=>cases z
  | cell t j =>
   cases t with
   | told =>
    obtain ⟨rfl,z⟩:=z
    cases z
    exact ce _ (.inl ⟨0,rfl,m0⟩)
   | _=>cases hr
  | _=>cases hr
end
end Mine
namespace Mine
section
set_option maxRecDepth 10000
structure Td where
 k:AV
 a:Nat
 l:List AV
structure SmAt (st:Store) (sm:Nat) (lk kp:List AV) (td:List Td):Prop where
 ex:Ex4 fun n a1 a2 a3=>And5 (st[sm]?=some (.ins w_Summary n)) (st[n]?=some (.ns [(w_leaks,.ref a1),(w_kept,.ref a2),(w_told,.ref a3)])) (st[a1]?=some (setO lk)) (st[a2]?=some (setO kp)) (st[a3]?=some (.dct (td.map fun p=>(p.k,AV.ref p.a))))
 cell:∀ p∈td,st[p.a]?=some (setO p.l)
noncomputable def tsz (td:List Td):Nat:=(td.map fun p=>p.l.length).sum
theorem SmAt.keep {st st':Store} {sm:Nat} {lk kp:List AV} {td:List Td} (h:SmAt st sm lk kp td) (hk:∀ (a:Nat) (o:AObj),st[a]?=some o→st'[a]?=some o):SmAt st' sm lk kp td:=by
 obtain ⟨n,a1,a2,a3,h1,h2,h3,h4,h5⟩:=h.ex
 exact ⟨⟨n,a1,a2,a3,hk _ _ h1,hk _ _ h2,hk _ _ h3,hk _ _ h4,hk _ _ h5⟩,fun p hp=>hk _ _ (h.cell p hp)⟩
theorem bi_len_d {st:Store} {i:Nat} {l:List AV} {Q:AV→Store→Prop} (h:st[i]?=some (setO l)) (hl:l.length < 2 ^ 24) (k:Q (.int l.length) st):biF (fun _=>.none) .len st [.ref i] Q:=by
 have h:st[i]?=some (.dct (l.map fun k=>(k,AV.bool true))):=h
 show objM st[i]? _ _ _
 rw [h]
 refine ⟨by simpa using hl,?_⟩
 rw [List.length_map]; exact k
theorem sum_ok (l:List Nat):sumL (l.map fun (n:Nat)=>AV.int (n:Int))=some ((l.sum:Nat):Int):=by
 induction l with
 | nil=>rfl
 | cons a l ih=>exact (congrArg (Option.map ((a:Int) + ·)) ih).trans (by rw [List.sum_cons,Int.natCast_add]; rfl)
theorem bi_sum {st:Store} {i:Nat} {l:List Nat} {Q:AV→Store→Prop} (h:st[i]?=some (.lst (l.map fun (n:Nat)=>AV.int (n:Int)))) (hl:∀ n∈l,n < 2 ^ 24) (hn:l.length < 2 ^ 20) (k:Q (.int ((l.sum:Nat):Int)) st):biF (fun _=>.none) .sum st [.ref i] Q:=by
 refine ⟨_,_,h,sum_ok l,fun a ha=>?_,by simpa using hn,k⟩
 obtain ⟨n,hn,rfl⟩:=List.mem_map.mp ha
 exact ⟨n,rfl,by lia,by have:=hl n hn; lia⟩
theorem size_spec {st:Store} {sm d:Nat} {lk kp:List AV} {td:List Td} {Q:AV→Store→Prop} (h:SmAt st sm lk kp td) (b1:lk.length < 2 ^ 20) (b2:kp.length < 2 ^ 20) (b3:td.length < 2 ^ 20) (b4:∀ p∈td,p.l.length < 2 ^ 20)
  (k:∀ g,Q (.int ((lk.length + kp.length + tsz td:Nat):Int)) (st++g)):callP mprog (d + 1) 0 w_size_of_summary [.ref sm] st Q:=by
 obtain ⟨n,a1,a2,a3,h1,h2,h3,h4,h5⟩:=h.ex
 refine call_df rfl rfl ?_
 refine xI (getA_ns h1 h2 rfl) ?_
 refine bi_len_d h3 (by lia) ?_
 refine xI (getA_ns h1 h2 rfl) ?_
 refine bi_len_d h4 (by lia) ?_
 refine xI (getA_ns h1 h2 rfl) ?_
 refine ⟨_,h5,?_⟩
 refine comp_inv (fun done acc s=>st=s∧Ex2 fun td1 td2=>td=td1++td2∧done=td1.map (fun p=>AV.ref p.a)∧acc=(td1.map fun p=>p.l.length).map fun (n:Nat)=>AV.int (n:Int)) (fun _ _ _ ⟨e,_⟩=>by subst e; rfl) ?_ ⟨rfl,[],td,rfl,rfl,rfl⟩ ?_
 ·intro done x rest e acc _ hI Q3 kk
  obtain ⟨rfl,td1,td2,rfl,rfl,rfl⟩:=hI
  cases td2 with
  | nil=>simp [Function.comp_def] at e
  | cons p td2 =>
   have hx:x=AV.ref p.a:=by simp [Function.comp_def] at e; exact e.1.symm
   subst hx
   refine bi_len_d (h.cell p (by simp)) (by have:=b4 p (by simp); lia) ?_
   refine ⟨by simp at b3 ⊢; lia,kk _ _ ⟨rfl,td1++[p],td2,by simp,by simp,by simp⟩⟩
 ·rintro acc _ ⟨rfl,td1,td2,e1,e2,rfl⟩
  have:td2=[]:=by
   have:=congrArg List.length e2
   rw [e1] at this; simp at this; exact this
  subst this
  have:td1=td:=by simp at e1; exact e1.symm
  subst this
  refine bi_sum (l:=td1.map fun p=>p.l.length) set_new (fun n hn=>?_) (by simpa using b3) ?_
  ·obtain ⟨p,hp,rfl⟩:=List.mem_map.mp hn
   have:=b4 p hp; lia
  ·have:=k [AObj.lst ((td1.map fun p=>p.l.length).map fun (n:Nat)=>AV.int (n:Int))]
   have e:(((lk.length + kp.length + tsz td1:Nat)):Int)=(lk.length:Int) + (kp.length:Int) + (((td1.map fun p=>p.l.length).sum:Nat):Int):=by simp [tsz]
   rw [e] at this
   exact this
noncomputable def Sz (E:MP) (n:Nat):Prop:=∃ l:List (Role×AV),l.Nodup∧(∀ p,p∈l↔sumRole p.1=true∧E p.1 p.2)∧l.length=n
theorem Sz.uniq {E:MP} {n m:Nat} (a:Sz E n) (b:Sz E m):n=m:=by
 obtain ⟨l,h1,h2,rfl⟩:=a
 obtain ⟨l',h1',h2',rfl⟩:=b
 exact Nat.le_antisymm (nodup_len h1 fun x hx=>(h2' x).mpr ((h2 x).mp hx)) (nodup_len h1' fun x hx=>(h2 x).mpr ((h2' x).mp hx))
noncomputable def tdOf (F:FS):List Td:=(F.ks .told).map fun k=>⟨k,F.adr (.cell .told k),F.S (.cell .told k)⟩
theorem fl_c {α:Type} {p:α→Bool} {a:α} {l:List α}:((a :: l).filter p).length=(l.filter p).length + (bif p a then 1 else 0):=by
 rw [List.filter_cons]; cases p a <;> rfl
theorem fm_c {α β:Type} {f:α→Option β} {a:α} {l:List α}:((a :: l).filterMap f).length=(l.filterMap f).length + (bif (f a).isSome then 1 else 0):=by
 rw [List.filterMap_cons]; cases f a <;> rfl
theorem sum_add {α:Type} (f g:α→Nat) (ks:List α):(ks.map fun k=>f k + g k).sum=(ks.map f).sum + (ks.map g).sum:=by
 induction ks with
 | nil=>rfl
 | cons a ks ih=>rw [List.map_cons,List.map_cons,List.map_cons,List.sum_cons,List.sum_cons,List.sum_cons,ih,Nat.add_add_add_comm]
theorem sum_zero {α:Type} {f:α→Nat} {ks:List α} (h:∀ k∈ks,f k=0):(ks.map f).sum=0:=by
 induction ks with
 | nil=>rfl
 | cons a ks ih=>rw [List.map_cons,List.sum_cons,h a List.mem_cons_self,ih fun k hk=>h k (List.mem_cons_of_mem _ hk)]
theorem sum_one {α:Type} {f:α→Nat} {ks:List α} {k0:α} (hn:ks.Nodup) (hk:k0∈ks) (h1:f k0=1) (h0:∀ k,¬ k=k0→f k=0):(ks.map f).sum=1:=by
 induction ks with
 | nil=>cases hk
 | cons a ks ih =>
  have hn':=List.nodup_cons.mp hn
  rw [List.map_cons,List.sum_cons]
  rcases List.mem_cons.mp hk with rfl | hk
  ·rw [h1,sum_zero fun k z=>h0 k fun e=>hn'.1 (e ▸ z)]
  ·rw [h0 a fun e=>hn'.1 (e ▸ hk),ih hn'.2 hk]
theorem sum_cells (ks:List AV) (hn:ks.Nodup) (log:List (Role×AV)) (h:∀ k x,(Role.cell .told k,x)∈log→k∈ks) :
  (ks.map fun k=>(log.filterMap fun p=>if p.1=Role.cell .told k then some p.2 else none).length).sum=(log.filter fun p=>match p.1 with | .cell .told _=>true | _=>false).length:=by
 induction log with
 | nil=>exact sum_zero fun _ _=>rfl
 | cons q log ih =>
  obtain ⟨r,x⟩:=q
  simp only [fm_c,fl_c]
  rw [sum_add,ih fun k y z=>h k y (List.mem_cons_of_mem _ z)]
  refine congrArg _ ?_
  by_cases hr:∃ k,r=Role.cell .told k
  ·obtain ⟨k,rfl⟩:=hr
   refine sum_one hn (h k x List.mem_cons_self) ?_ fun j e=>?_
   ·rw [if_pos rfl]; rfl
   ·rw [if_neg fun z=>e (by injection z with _ z; exact z.symm)]; rfl
  ·rw [sum_zero fun k _=>by rw [if_neg fun z=>hr ⟨k,z⟩]; rfl]
   cases r with
   | cell t k=>cases t <;> first | rfl | exact absurd ⟨k,rfl⟩ hr
   | _=>rfl
theorem add6 {X Y Z a b c s:Nat} (h:s=a + b + c):X + Y + Z + s=(X + a) + (Y + b) + (Z + c):=by lia
theorem filt3 (log:List (Role×AV)):(log.filter fun p=>sumRole p.1).length=(log.filterMap fun p=>if p.1=Role.top .leaks then some p.2 else none).length + (log.filterMap fun p=>if p.1=Role.top .kept then some p.2 else none).length + (log.filter fun p=>match p.1 with | .cell .told _=>true | _=>false).length:=by
 induction log with
 | nil=>rfl
 | cons q log ih =>
  obtain ⟨r,x⟩:=q
  rw [fl_c,fm_c,fm_c,fl_c,ih]
  refine add6 ?_
  cases r with
  | top s=>cases s <;> rfl
  | cell t k=>cases t <;> rfl
  | _=>rfl
theorem FAt.size {P:FP} {st:Store} {F:FS} (h:FAt P st F) {E:MP} (hE:∀ r x,outRole r=true→(F.M r x↔E r x)):Sz E ((F.S (.top .leaks)).length + (F.S (.top .kept)).length + tsz (tdOf F)):=by
 refine ⟨F.log.filter fun p=>sumRole p.1,List.Pairwise.filter _ h.nd,fun ⟨r,x⟩=>?_,?_⟩
 ·rw [List.mem_filter]
  simp only
  constructor
  ·rintro ⟨a,b⟩
   exact ⟨b,(hE r x (by cases r with | top s=>rfl | cell t k=>(cases t <;> first | rfl | cases b) | _=>cases b)).mp a⟩
  ·rintro ⟨a,b⟩
   exact ⟨(hE r x (by cases r with | top s=>rfl | cell t k=>(cases t <;> first | rfl | cases a) | _=>cases a)).mpr b,a⟩
 ·rw [filt3,← sum_cells (F.ks .told) (h.kn .told) F.log fun k x z=>h.lv _ _ _ z]
  simp only [tsz,tdOf,List.map_map]; rfl
end
end Mine
namespace Mine
section
set_option maxRecDepth 10000
theorem kput_keysP {k v:AV}:∀ {d:List (AV×AV)} {x:AV},x∈(kput d k v).map (·.1)↔x∈d.map (·.1)∨x=k
 | [],x=>by simp [kput_n,kput_c]
 | (a,b) :: d,x=>by
  by_cases e:a=k
  ·subst e
   simp only [kput_n,kput_c,if_true,List.map_cons,List.mem_cons]
   exact ⟨fun z=>.inl z,fun z=>z.elim id fun q=>.inl q⟩
  ·simp only [kput_n,kput_c,e,if_false,List.map_cons,List.mem_cons,kput_keysP (d:=d)]
   exact ⟨fun z=>z.elim (fun q=>.inl (.inl q)) fun q=>q.elim (fun q=>.inl (.inr q)) .inr,fun z=>z.elim (fun q=>q.elim .inl fun q=>.inr (.inl q)) fun q=>.inr (.inr q)⟩
theorem kput_nodup {k v:AV}:∀ {d:List (AV×AV)},(d.map (·.1)).Nodup→((kput d k v).map (·.1)).Nodup
 | [],_=>by simp [kput_n,kput_c]
 | (a,b) :: d,h=>by
  have h':=List.nodup_cons.mp h
  by_cases e:a=k
  ·subst e; simp only [kput_n,kput_c,if_true]; exact h
  ·simp only [kput_n,kput_c,e,if_false,List.map_cons]
   refine List.nodup_cons.mpr ⟨fun z=>?_,kput_nodup h'.2⟩
   rcases kput_keysP.mp z with z | z
   ·exact h'.1 z
   ·exact e z
theorem kget_kput {k v:AV}:∀ {d:List (AV×AV)} {x:AV},kget (kput d k v) x=if x=k then some v else kget d x
 | [],x=>by
  by_cases e:x=k
  ·simp [kput_n,kput_c,kget_n,kget_c,e]
  ·have:¬ k=x:=fun z=>e z.symm
   simp [kput_n,kput_c,kget_n,kget_c,e,this]
 | (a,b) :: d,x=>by
  by_cases e:a=k
  ·subst e
   by_cases e2:x=a
   ·simp [kput_n,kput_c,kget_n,kget_c,e2]
   ·have:¬ a=x:=fun z=>e2 z.symm
    simp [kput_n,kput_c,kget_n,kget_c,e2,this]
  ·simp only [kput_n,kput_c,e,if_false,kget_n,kget_c,kget_kput (d:=d)]
   by_cases e2:a=x
   ·subst e2; simp [e]
   ·simp [e2]
theorem get_put_o {m:Loc} {x y:Nat} {v:AV} (h:Nat.beq x y=false):get (put m x v) y=get m y:=by
 induction m with
 | nil=>simp [put_n,put_c,get_n,get_c,h]
 | cons p m ih =>
  obtain ⟨z,w⟩:=p
  simp only [put_n,put_c]
  by_cases e:Nat.beq z x=true
  ·have e0:=Nat.eq_of_beq_eq_true e; subst e0
   simp only [e,cond_true,get_n,get_c,h,cond_false]
  ·have e:Nat.beq z x=false:=Bool.eq_false_iff.mpr e
   simp only [e,cond_false,get_n,get_c,ih]
structure FD (found:List (AV×AV)) (done:List AV) (val:AV→AV) (fd:List (AV×AV)):Prop where
 nd:(fd.map (·.1)).Nodup
 ks:∀ s,s∈fd.map (·.1)↔s∈found.map (·.1)∨s∈done
 on:∀ s∈done,kget fd s=some (val s)
 off:∀ s,s ∉ done→kget fd s=kget found s
theorem FD.step {found:List (AV×AV)} {done:List AV} {val:AV→AV} {fd:List (AV×AV)} (h:FD found done val fd) (s:AV):FD found (done++[s]) val (kput fd s (val s)):=by
 refine ⟨kput_nodup h.nd,fun x=>?_,fun x hx=>?_,fun x hx=>?_⟩
 ·rw [kput_keysP,h.ks]; simp [or_assoc]
 ·rw [kget_kput]
  by_cases e:x=s
  ·simp [e]
  ·simp [e] at hx ⊢; exact h.on x hx
 ·simp at hx
  rw [kget_kput,if_neg hx.2,h.off x hx.1]
structure SmB (st:Store) (b:Nat) (sm:Nat) (lk kp:List AV) (td:List Td):Prop where
 ex:Ex4 fun n a1 a2 a3=>And10 (st[sm]?=some (.ins w_Summary n)) (st[n]?=some (.ns [(w_leaks,.ref a1),(w_kept,.ref a2),(w_told,.ref a3)])) (st[a1]?=some (setO lk)) (st[a2]?=some (setO kp)) (st[a3]?=some (.dct (td.map fun p=>(p.k,AV.ref p.a)))) (b < sm) (b < n) (b < a1) (b < a2) (b < a3)
 cell:∀ p∈td,st[p.a]?=some (setO p.l)∧b < p.a
theorem SmB.at {st:Store} {b sm:Nat} {lk kp:List AV} {td:List Td} (h:SmB st b sm lk kp td):SmAt st sm lk kp td:=by
 obtain ⟨n,a1,a2,a3,h1,h2,h3,h4,h5,_⟩:=h.ex
 exact ⟨⟨n,a1,a2,a3,h1,h2,h3,h4,h5⟩,fun p hp=>(h.cell p hp).1⟩
theorem SmB.keep {st st':Store} {b sm:Nat} {lk kp:List AV} {td:List Td} (h:SmB st b sm lk kp td) (hk:∀ (a:Nat) (o:AObj),st[a]?=some o→b < a→st'[a]?=some o):SmB st' b sm lk kp td:=by
 obtain ⟨n,a1,a2,a3,h1,h2,h3,h4,h5,b0,b1,b2,b3,b4⟩:=h.ex
 exact ⟨⟨n,a1,a2,a3,hk _ _ h1 b0,hk _ _ h2 b1,hk _ _ h3 b2,hk _ _ h4 b3,hk _ _ h5 b4,b0,b1,b2,b3,b4⟩,fun p hp=>⟨hk _ _ (h.cell p hp).1 (h.cell p hp).2,(h.cell p hp).2⟩⟩
theorem set_keep {st:Store} {i a:Nat} {o x:AObj} (h:st[a]?=some o) (hn:a≠i):(st.set i x)[a]?=some o:=by rw [List.getElem?_set_ne (fun z=>hn z.symm)]; exact h
noncomputable def b_key:PS:=(.seq (.asg (.nm w_flow) (.fn w_EscapeFlow (.cons (.sub (.nm w_codes) (.nm w_key)) (.cons (.nm w_summaries) .nil)))) (.seq (.exp (.meth (.nm w_flow) w_go_through .nil)) (.seq (.asg (.sub (.nm w_summaries) (.nm w_key)) (.attr (.nm w_flow) w_summary)) (.seq (.forr (.nm w_site) .val (.attr (.nm w_flow) w_sites) (.seq (.asg (.sub (.nm w_found) (.nm w_site)) (.ife (.cmp .isin (.nm w_site) (.attr (.nm w_flow) w_gone)) (.gl w_HEAP) (.gl w_FRAME))) .skip)) .skip))))
structure KeyDone (E:MP) (F:FS) (sm:Nat) (lk kp:List AV) (td:List Td):Prop where
 esm:sm=F.adr .sm
 elk:lk=F.S (.top .leaks)
 ekp:kp=F.S (.top .kept)
 etd:td=tdOf F
 ex:∀ r x,outRole r=true→(F.M r x↔E r x)
 kn:(F.ks .told).Nodup
 nd:F.log.Nodup
 lv:∀ k x,(Role.cell .told k,x)∈F.log→k∈F.ks .told
 sz:Sz E (lk.length + kp.length + tsz td)
 b1:lk.length < 2 ^ 20
 b2:kp.length < 2 ^ 20
 b3:td.length < 2 ^ 20
 b4:∀ p∈td,p.l.length < 2 ^ 20
theorem key_step {d cA sA fA:Nat} {P:FP} {st:Store} {m:Loc} {key:AV} {cn:Nat} {fs:List (Nat×AV)} {codes sums found:List (AV×AV)} {E:MP} {ins:List AV} {te:AV} {Q:Fl→Loc→Store→Prop}
  (u:UTk P.U) (u0:P.U (.cell .held (.int 0)) (oTok (.int 0))) (u1:P.U (.cell .held (.int 1)) (oTok (.int 1))) (C:CodeAt st P.code ins te)
  (m1:get m w_codes=some (.ref cA)) (m2:get m w_summaries=some (.ref P.sums)) (m3:get m w_found=some (.ref fA)) (m4:get m w_key=some key) (hkd:key.isD=true)
  (hc:st[cA]?=some (.dct codes)) (hck:kget codes key=some (.ref P.code)) (hs:st[P.sums]?=some (.dct sums)) (hsl:sums.length < 2 ^ 20) (hf:st[fA]?=some (.dct found)) (hsf:P.sums≠fA)
  (hfn:(found.map (·.1)).Nodup) (hfw:∀ s∈found.map (·.1),s∈W)
  (go:GoOk d P st E)
  (k:∀ m' st' sm lk kp td fd F,get m' w_codes=some (.ref cA)→get m' w_summaries=some (.ref P.sums)→get m' w_found=some (.ref fA)→get m' w_ahead=get m w_ahead→st.length≤st'.length→(∀ (a:Nat) (o:AObj),st[a]?=some o→a≠P.sums→a≠fA→st'[a]?=some o) →
   st'[P.sums]?=some (.dct (kput sums key (.ref sm)))→st'[fA]?=some (.dct fd)→SmB st' (st.length - 1) sm lk kp td→KeyDone E F sm lk kp td →
   FD found (F.S (.top .sites)) (fun s=>if s∈F.S (.top .gone) then c_HEAP else c_FRAME) fd→(∀ s∈fd.map (·.1),s∈W)→Q .next m' st'):exW (Vd (d + 10)) b_key m st Q:=by
 obtain ⟨cn,bl,b1,il,fs,k1,k2,k3,k4,_⟩:=C.ex
 have hn1:1≤st.length:=by have:=(List.getElem?_eq_some_iff.mp hc).1; lia
 refine xI m1 ?_
 refine xI m4 ?_
 refine xI (sub_dct hkd hc hck) ?_
 refine xI m2 ?_
 refine flow_new (d:=d + 6) u0 u1 k1 k2 k3 k4 fun F00 h0 e0=>?_
 subst e0
 refine xI (get_put_eq) ?_
 refine m_ins (h0.obj .self trivial) ⟨rfl,⟨_,h0.obj .ns trivial,rfl⟩,?_⟩
 refine go _ fun s2 F h2 x2 hE=>?_
 have old:∀ (a:Nat) (o:AObj),st[a]?=some o→s2[a]?=some o:=fun a o e=>x2.out (look_app e) (nown e)
 have nw:∀ a,F.own a→st.length≤a:=fun a z=>by
  rcases Ex.own x2 a (own_fl.mpr z) with q | q
  ·exact own0 (own_fl.mp q)
  ·simp at q; lia
 have es:F.adr .self=st.length + 1:=x2.adr (r:=.self) trivial
 have nsA:∀ r,F.live r→F.adr r≠P.sums:=fun r l z=>by have:=nw _ ⟨r,l,rfl⟩; have:=(List.getElem?_eq_some_iff.mp hs).1; lia
 have nfA:∀ r,F.live r→F.adr r≠fA:=fun r l z=>by have:=nw _ ⟨r,l,rfl⟩; have:=(List.getElem?_eq_some_iff.mp hf).1; lia
 have hself:s2[st.length + 1]?=some (.ins w_EscapeFlow (F.adr .ns)):=es ▸ h2.obj .self trivial
 have eself:(F0 st.length).adr .self=st.length + 1:=rfl
 have sAl:=(List.getElem?_eq_some_iff.mp hs).1
 have fAl:=(List.getElem?_eq_some_iff.mp hf).1
 have ll:=h2.log_len u.ok
 refine xI (get_put_eq) ?_
 refine xI (getA_ns hself (h2.obj .ns trivial) rfl) ?_
 refine xI (get_put_ne rfl m2) ?_
 refine xI (get_put_ne rfl m4) ?_
 refine xI (setI_dct hkd (old _ _ hs) hsl) ?_
 refine xI (get_put_eq) ?_
 have hselfn:st.length + 1≠P.sums:=by lia
 refine xI (getA_ns (set_keep hself hselfn) (set_keep (h2.obj .ns trivial) (nsA .ns trivial)) rfl) ?_
 have hsites:(s2.set P.sums (.dct (kput sums key (.ref (F.adr .sm)))))[F.adr (.top .sites)]?=some (setO (F.S (.top .sites))):=set_keep (h2.obj (.top .sites) trivial) (nsA (.top .sites) trivial)
 refine src_dct hsites ?_
 rw [setO_keys]
 have sw:∀ s∈F.S (.top .sites),s∈W:=fun s hs=>(u.ok.w _ _ (h2.up _ _ (mem_S.mp hs))).2
 let val:AV→AV:=fun s=>if s∈F.S (.top .gone) then c_HEAP else c_FRAME
 refine for_inv (fun done m' s=>(And5 (get m' w_codes=some (.ref cA)) (get m' w_summaries=some (.ref P.sums)) (get m' w_found=some (.ref fA)) (get m' w_ahead=get m w_ahead) (get m' w_flow=some (.ref (st.length + 1))))∧∃ fd,And5 (FD found done val fd) (∀ s∈done,s∈F.S (.top .sites)) (s[fA]?=some (.dct fd)) (s.length=s2.length) (∀ a,a≠fA→s[a]?=(s2.set P.sums (.dct (kput sums key (.ref (F.adr .sm)))))[a]?)) ?_ ?_ ⟨⟨get_put_ne rfl m1,get_put_ne rfl m2,get_put_ne rfl m3,?_,get_put_eq⟩,found,⟨hfn,fun s=>by simp,fun s z=>by simp at z,fun s _=>rfl⟩,by simp,set_keep (old _ _ hf) (fun z=>hsf z.symm),by simp,fun _ _=>rfl⟩ ?_
 ·rintro done m' s ⟨_,fd,_,_,_,_,hk⟩
  exact hk _ (nfA (.top .sites) trivial)
 ·intro done x rest e m' s hI Q' kk
  obtain ⟨⟨q1,q2,q3,q4,q5⟩,fd,hfd,hdn,hs1,hs2,hs3⟩:=hI
  have xS:x∈F.S (.top .sites):=by rw [e]; simp
  have xW:=sw x xS
  have fdw:∀ s∈fd.map (·.1),s∈W:=fun s z=>((hfd.ks s).mp z).elim (hfw s) fun z=>sw s (hdn s z)
  have fdl:fd.length < 2 ^ 20:=by have:=w_len hfd.nd fdw; rw [List.length_map] at this; lia
  have st':=hfd.step x
  have done':∀ s':Store,s'[fA]?=some (.dct (kput fd x (val x)))→s'.length=s2.length→(∀ a,a≠fA→s'[a]?=s[a]?)→Q' .next (put m' w_site x) s':=fun s' a1 a2 a3=>(kk _ _ ⟨⟨get_put_ne rfl q1,get_put_ne rfl q2,get_put_ne rfl q3,by rw [← q4]; exact get_put_o rfl,get_put_ne rfl q5⟩,_,st',fun s z=>by simp at z; exact z.elim (hdn s) fun z=>z ▸ xS,a1,a2,fun a ha=>by rw [a3 a ha,hs3 a ha]⟩).1
  refine xI (get_put_eq) ?_
  refine xI (get_put_ne rfl q5) ?_
  have hself3:s[st.length + 1]?=some (.ins w_EscapeFlow (F.adr .ns)):=by rw [hs3 _ (by lia)]; exact set_keep hself hselfn
  have hns3:s[F.adr .ns]?=some (cont P F .ns):=by rw [hs3 _ (nfA .ns trivial)]; exact set_keep (h2.obj .ns trivial) (nsA .ns trivial)
  have hgone3:s[F.adr (.top .gone)]?=some (setO (F.S (.top .gone))):=by rw [hs3 _ (nfA (.top .gone) trivial)]; exact set_keep (h2.obj (.top .gone) trivial) (nsA (.top .gone) trivial)
  refine xI (getA_ns hself3 hns3 rfl) ?_
  refine cmp_isin (memF_dct (W_isD xW) hgone3 ?_)
  rw [mem_set_kget]
  by_cases eg:x∈F.S (.top .gone)
  ·simp only [eg,decide_true]
   refine xI (get_put_ne rfl q3) ?_
   refine xI (get_put_eq) ?_
   refine xI (setI_dct (W_isD xW) hs1 fdl) ?_
   have ev:val x=c_HEAP:=by simp [val,eg]
   rw [ev] at done'
   exact done' _ (by rw [List.getElem?_set_self (List.getElem?_eq_some_iff.mp hs1).1]) (by simp [hs2]) fun a ha=>List.getElem?_set_ne fun z=>ha z.symm
  ·simp only [eg,decide_false]
   refine xI (get_put_ne rfl q3) ?_
   refine xI (get_put_eq) ?_
   refine xI (setI_dct (W_isD xW) hs1 fdl) ?_
   have ev:val x=c_FRAME:=by simp [val,eg]
   rw [ev] at done'
   exact done' _ (by rw [List.getElem?_set_self (List.getElem?_eq_some_iff.mp hs1).1]) (by simp [hs2]) fun a ha=>List.getElem?_set_ne fun z=>ha z.symm
 ·exact get_put_o rfl
 ·rintro m' s ⟨⟨q1,q2,q3,q4,q5⟩,fd,hfd,hdn,hs1,hs2,hs3⟩
  have len2:st.length≤s2.length:=Nat.le_trans (by simp) x2.len
  have kp:∀ r,F.live r→s[F.adr r]?=some (cont P F r):=fun r l=>by rw [hs3 _ (nfA r l)]; exact set_keep (h2.obj r l) (nsA r l)
  have gt:∀ r,F.live r→st.length - 1 < F.adr r:=fun r l=>by have:=nw _ ⟨r,l,rfl⟩; lia
  refine k m' s (F.adr .sm) _ _ (tdOf F) fd F q1 q2 q3 q4 (by lia) (fun a o ha hn1 hn2=>?_) ?_ hs1 ⟨⟨_,_,_,_,kp .sm trivial,kp .smns trivial,kp (.top .leaks) trivial,kp (.top .kept) trivial,?_,gt .sm trivial,gt .smns trivial,gt (.top .leaks) trivial,gt (.top .kept) trivial,gt (.tab .told) trivial⟩,fun p hp=>?_⟩ ⟨rfl,rfl,rfl,rfl,hE,h2.kn .told,h2.nd,h2.lv .told,h2.size hE,by have:=S_len F (.top .leaks); lia,by have:=S_len F (.top .kept); lia,by have:=h2.ks_len .told; simp [tdOf]; lia,fun p hp=>?_⟩ hfd fun s z=>((hfd.ks s).mp z).elim (hfw s) fun z=>sw s (hdn s z)
  ·rw [hs3 a hn2]; exact set_keep (old a o ha) hn1
  ·rw [hs3 _ hsf,List.getElem?_set_self (by lia)]
  ·have:=kp (.tab .told) trivial
   simp only [tdOf,List.map_map]; exact this
  ·obtain ⟨j,hj,rfl⟩:=List.mem_map.mp hp
   exact ⟨kp (.cell .told j) hj,gt (.cell .told j) hj⟩
  ·obtain ⟨j,hj,rfl⟩:=List.mem_map.mp hp
   have:=S_len F (.cell .told j); show (F.S _).length < _; lia
end
end Mine
namespace Mine
section
set_option maxRecDepth 10000
@[reducible] noncomputable def e_sum:PE:=.bi .sum (.cons (.comp (.fn w_size_of_summary (.cons (.sub (.nm w_summaries) (.nm w_key)) .nil)) w_key .val (.nm w_codes) (.cst (.bool true))) .nil)
noncomputable def HasSz (st:Store) (b:Nat) (sums:List (AV×AV)) (key:AV) (n:Nat):Prop:=Ex4 fun sm lk kp td=>And8 (kget sums key=some (.ref sm)) (SmB st b sm lk kp td) (lk.length + kp.length + tsz td=n) (n < 2 ^ 24) (lk.length < 2 ^ 20) (kp.length < 2 ^ 20) (td.length < 2 ^ 20) (∀ p∈td,p.l.length < 2 ^ 20)
theorem HasSz.keep {st st':Store} {b:Nat} {sums sums':List (AV×AV)} {key:AV} {n:Nat} (h:HasSz st b sums key n) (hk:∀ (a:Nat) (o:AObj),st[a]?=some o→b < a→st'[a]?=some o) (hs:kget sums' key=kget sums key):HasSz st' b sums' key n:=by
 obtain ⟨sm,lk,kp,td,h1,h2,h3,h4,h5,h6,h7,h8⟩:=h
 exact ⟨sm,lk,kp,td,hs.trans h1,h2.keep hk,h3,h4,h5,h6,h7,h8⟩
theorem sum_eval {d cA sA b:Nat} {m:Loc} {st:Store} {codes sums:List (AV×AV)} {sz:AV→Nat} {Q:AV→Store→Prop} (m1:get m w_codes=some (.ref cA)) (m2:get m w_summaries=some (.ref sA))
  (hc:st[cA]?=some (.dct codes)) (hs:st[sA]?=some (.dct sums)) (hcl:codes.length < 2 ^ 20) (hD:∀ p∈codes,p.1.isD=true) (hz:∀ p∈codes,HasSz st b sums p.1 (sz p.1))
  (k:∀ g,Q (.int (((codes.map fun p=>sz p.1).sum:Nat):Int)) (st++g)):evW (Vd (d + 1)) e_sum m st Q:=by
 refine xI m1 ?_
 refine src_dct hc ?_
 refine comp_inv (fun done acc s=>∃ g,s=st++g∧acc=(done.map sz).map fun (n:Nat)=>AV.int (n:Int)) ?_ ?_ ⟨[],by simp,rfl⟩ ?_
 ·rintro done acc _ ⟨g,rfl,_⟩
  show (st++g)[cA]?=st[cA]?
  rw [look_app hc,hc]
 ·intro done x rest e acc _ hI Q3 kk
  obtain ⟨g,rfl,rfl⟩:=hI
  obtain ⟨p,hp,rfl⟩:∃ p∈codes,p.1=x:=by
   have:x∈codes.map (·.1):=by rw [e]; simp
   obtain ⟨p,hp,q⟩:=List.mem_map.mp this
   exact ⟨p,hp,q⟩
  obtain ⟨sm,lk,kp,td,h1,h2,h3,_,b1,b2,b3,b4⟩:=hz p hp
  have hdl:done.length < 2 ^ 20:=by have:=congrArg List.length e; simp at this; lia
  refine xI (get_put_ne rfl m2) ?_
  refine xI (get_put_eq) ?_
  refine xI (sub_dct (hD p hp) (look_app hs) h1) ?_
  refine size_spec (h2.at.keep fun a o z=>look_app z) b1 b2 b3 b4 fun g2=>?_
  refine And.intro (by simpa using hdl) ?_
  rw [h3,List.append_assoc]
  exact kk _ _ ⟨g++g2,rfl,by simp⟩
 ·rintro acc _ ⟨g,rfl,rfl⟩
  refine bi_sum (l:=(codes.map (·.1)).map sz) set_new (fun n hn=>?_) (by simpa using hcl) ?_
  ·simp at hn
   obtain ⟨a,⟨b,h⟩,rfl⟩:=hn
   obtain ⟨_,_,_,_,_,_,_,q,_⟩:=hz (a,b) h
   exact q
  ·have:=k (g++[AObj.lst (((codes.map (·.1)).map sz).map fun (n:Nat)=>AV.int (n:Int))])
   rw [← List.append_assoc] at this
   rw [List.map_map]; simp only [List.map_map] at this ⊢; exact this
theorem neI {st:Store} {a b:Int} {Q:Bool→Prop} (k:Q (!decide (a=b))):cmpF .ne st (.int a) (.int b) Q:=by show neF _ _ _ _; unfold neF; exact k
theorem KeyDone.sumAt {E:MP} {F:FS} {sm:Nat} {lk kp:List AV} {td:List Td} (h:KeyDone E F sm lk kp td) {st:Store} {b:Nat} (s:SmB st b sm lk kp td) {ks tl:List AV} (hl:∀ x,¬ E (.top .leaks) x) (hk:∀ x,E (.top .kept) x↔x∈ks) (hk1:ks=[]∨∃ a,ks=[a])
  (ht:∀ x,E (.cell .told (.int 0)) x↔x∈tl) (ht1:tl=[]∨∃ a,tl=[a]):SumAt st (fun a=>b < a) sm ks tl:=by
 obtain ⟨n,a1,a2,a3,h1,h2,h3,h4,h5,b0,b1,b2,b3,b4⟩:=s.ex
 have one:∀ {l l':List AV},l.Nodup→(∀ x,x∈l↔x∈l')→(l'=[]∨∃ a,l'=[a])→l=l':=fun {l l'} hn he hl=>by
  rcases hl with rfl | ⟨a,rfl⟩
  ·exact List.eq_nil_iff_forall_not_mem.mpr fun x hx=>by have:=(he x).mp hx; simp at this
  ·match l,hn with
   | [],_=>have:=(he a).mpr (by simp); simp at this
   | [y],_=>have:=(he y).mp (by simp); simp at this; rw [this]
   | y :: z :: r,hn =>
    have e1:=(he y).mp (by simp); have e2:=(he z).mp (by simp)
    simp at e1 e2; subst e1; subst e2; simp at hn
 have mk:∀ {r x},outRole r=true→(x∈F.S r↔E r x):=fun {r x} hr=>mem_S.trans (h.ex r x hr)
 have el:lk=[]:=by rw [h.elk]; exact List.eq_nil_iff_forall_not_mem.mpr fun x hx=>hl x ((mk rfl).mp hx)
 have ek:kp=ks:=by rw [h.ekp]; exact one (S_nodup h.nd _) (fun x=>(mk rfl).trans (hk x)) hk1
 subst ek
 rw [el] at h3
 refine ⟨n,a1,a2,a3,h1,h2,h3,h4,b0,b1,b2,b3,b4,_,h5,?_⟩
 by_cases e:AV.int 0∈F.ks .told
 ·refine .inr ⟨F.adr (.cell .told (.int 0)),?_,?_,?_⟩
  ·rw [h.etd,tdOf,List.map_map]
   show kget ((F.ks .told).map fun k=>(k,AV.ref (F.adr (.cell .told k)))) (.int 0)=_
   rw [kget_ks,if_pos e]
  ·have:=(s.cell ⟨.int 0,F.adr (.cell .told (.int 0)),F.S (.cell .told (.int 0))⟩ (by rw [h.etd]; exact List.mem_map.mpr ⟨_,e,rfl⟩)).1
   rw [← one (S_nodup h.nd (.cell .told (.int 0))) (fun x=>(mk rfl).trans (ht x)) ht1]; exact this
  ·exact (s.cell ⟨.int 0,F.adr (.cell .told (.int 0)),F.S (.cell .told (.int 0))⟩ (by rw [h.etd]; exact List.mem_map.mpr ⟨_,e,rfl⟩)).2
 ·refine .inl ⟨?_,List.eq_nil_iff_forall_not_mem.mpr fun x hx=>e (h.lv _ x ((h.ex _ x rfl).mpr ((ht x).mpr hx)))⟩
  rw [h.etd,tdOf,List.map_map]
  show kget ((F.ks .told).map fun k=>(k,AV.ref (F.adr (.cell .told k)))) (.int 0)=_
  rw [kget_ks,if_neg e]
theorem SumAt.keepN {st st':Store} {N:Nat→Prop} {sm:Nat} {ks tl:List AV} (h:SumAt st N sm ks tl) (hk:∀ (a:Nat) (o:AObj),st[a]?=some o→N a→st'[a]?=some o):SumAt st' N sm ks tl:=by
 obtain ⟨n,a1,a2,a3,h1,h2,h3,h4,n1,n2,n3,n4,n5,td,h5,h6⟩:=h
 refine ⟨n,a1,a2,a3,hk _ _ h1 n1,hk _ _ h2 n2,hk _ _ h3 n3,hk _ _ h4 n4,n1,n2,n3,n4,n5,td,hk _ _ h5 n5,?_⟩
 rcases h6 with q | ⟨b,q0,q,z⟩
 ·exact .inl q
 ·exact .inr ⟨b,q0,hk _ _ q z,z⟩
theorem KeyDone.has {E:MP} {F:FS} {sm:Nat} {lk kp:List AV} {td:List Td} (h:KeyDone E F sm lk kp td) {st:Store} {b n:Nat} (s:SmB st b sm lk kp td) {sums:List (AV×AV)} {key:AV} (hk:kget sums key=some (.ref sm)) (hz:Sz E n) (hn:n < 2 ^ 24):HasSz st b sums key n :=
 ⟨sm,lk,kp,td,hk,s,h.sz.uniq hz,hn,h.b1,h.b2,h.b3,h.b4⟩
end
end Mine
namespace Mine
section
set_option maxRecDepth 10000
@[reducible] noncomputable def kF:AV:=.str w_main_f
@[reducible] noncomputable def kL:AV:=.str w_main_load
@[reducible] noncomputable def kP:AV:=.str w_main_put
@[reducible] noncomputable def kS:AV:=.str w_main_same
theorem kput_keys_same {k v:AV}:∀ {d:List (AV×AV)},k∈d.map (·.1)→(kput d k v).map (·.1)=d.map (·.1)
 | (a,b) :: d,h=>by
  by_cases e:a=k
  ·simp [kput_n,kput_c,e]
  ·simp only [List.map_cons,List.mem_cons] at h
   have:k∈d.map (·.1):=h.resolve_left fun z=>e z.symm
   simp only [kput_n,kput_c,e,if_false,List.map_cons,kput_keys_same this]
theorem kget_noneP {k:AV}:∀ {d:List (AV×AV)},k ∉ d.map (·.1)→kget d k=none
 | [],_=>rfl
 | (a,b) :: d,h=>by
  simp only [List.map_cons,List.mem_cons,not_or] at h
  have:¬ a=k:=fun z=>h.1 z.symm
  simp only [kget_n,kget_c,this,if_false,kget_noneP h.2]
theorem Sz.le {E:MP} {n:Nat} (u:UOk E) (h:Sz E n):n < 2 ^ 24:=by
 obtain ⟨l,h1,h2,rfl⟩:=h
 have:l.length≤logW.length:=nodup_len h1 fun ⟨r,x⟩ hx=>by
  have:=u.w r x ((h2 _).mp hx).2
  simp only [logW,List.mem_flatMap,List.mem_map]
  exact ⟨r,this.1,x,this.2,rfl⟩
 rw [logW_len] at this; lia
theorem Sz.congr {E E':MP} {n:Nat} (h:Sz E n) (e:∀ r x,sumRole r=true→(E r x↔E' r x)):Sz E' n:=by
 obtain ⟨l,h1,h2,h3⟩:=h
 exact ⟨l,h1,fun p=>(h2 p).trans ⟨fun ⟨a,b⟩=>⟨a,(e _ _ a).mp b⟩,fun ⟨a,b⟩=>⟨a,(e _ _ a).mpr b⟩⟩,h3⟩
theorem uf_sum {D:LD} {b b':Bool} {r:Role} {x:AV} (h:sumRole r=true):UF D b r x↔UF D b' r x:=by
 cases r with
 | top s=>cases s <;> first | exact Iff.rfl | cases h
 | cell t k =>
  cases t with
  | told=>exact Iff.rfl
  | _=>cases h
 | _=>cases h
structure SzOk (D:LD) (sz:AV→Nat):Prop where
 f:Sz (UF D true) (sz kF)
 l:Sz U_load (sz kL)
 p:Sz U_put (sz kP)
 s:Sz U_same (sz kS)
structure ECtx (st0:Store) (cA:Nat) (cl cs cp cf:Nat) (D:LD) (ks:List Kd):Prop where
 hc:st0[cA]?=some (.dct [(kL,.ref cl),(kS,.ref cs),(kP,.ref cp),(kF,.ref cf)])
 f:CodeAt st0 cf (ks.map enc) (te D)
 l:CodeAt st0 cl [iTwo w_load 2 (rg 0)] t_nil
 s:CodeAt st0 cs [iTwo w_move 2 (rg 0)] (pr (.str w_return) (AV.ofL [rg 2]))
 p:CodeAt st0 cp [iStore (rg 0) (rg 1)] t_nil
structure RS (D:LD) (st0:Store) (b:Bool) (sz:AV→Nat) (st:Store) (sums found:List (AV×AV)):Prop where
 keep:∀ (a:Nat) (o:AObj),st0[a]?=some o→st[a]?=some o
 hs:st[st0.length]?=some (.dct sums)
 hf:st[st0.length + 1]?=some (.dct found)
 sk:sums.map (·.1)=[kL,kS,kP,kF]
 hl:∃ sm,kget sums kL=some (.ref sm)∧SumAt st (fun a=>st0.length + 1 < a) sm [] []
 hS:∃ sm,kget sums kS=some (.ref sm)∧SumAt st (fun a=>st0.length + 1 < a) sm [] (if b then [.int 0] else [])
 hp:∃ sm,kget sums kP=some (.ref sm)∧SumAt st (fun a=>st0.length + 1 < a) sm (if b then [pr (.int 1) (.int 0)] else []) []
 z:∀ k∈[kL,kS,kP,kF],HasSz st (st0.length + 1) sums k (sz k)
 fn:(found.map (·.1)).Nodup
 fw:∀ s∈found.map (·.1),s∈W
theorem CodeAt.keep {st st':Store} {cd:Nat} {ins:List AV} {te:AV} (h:CodeAt st cd ins te) (hk:∀ (a:Nat) (o:AObj),st[a]?=some o→st'[a]?=some o):CodeAt st' cd ins te:=by
 obtain ⟨cn,bl,b1,il,fs,k1,k2,k3,k4,k5,k6,k7,k8⟩:=h.ex
 exact ⟨cn,bl,b1,il,fs,hk _ _ k1,hk _ _ k2,k3,k4,k5,hk _ _ k6,hk _ _ k7,hk _ _ k8⟩
theorem SmB.mono {st:Store} {b b' sm:Nat} {lk kp:List AV} {td:List Td} (h:SmB st b sm lk kp td) (hb:b'≤b):SmB st b' sm lk kp td:=by
 obtain ⟨n,a1,a2,a3,h1,h2,h3,h4,h5,b0,b1,b2,b3,b4⟩:=h.ex
 exact ⟨⟨n,a1,a2,a3,h1,h2,h3,h4,h5,by lia,by lia,by lia,by lia,by lia⟩,fun p hp=>⟨(h.cell p hp).1,by have:=(h.cell p hp).2; lia⟩⟩
theorem rs_step {st0:Store} {d cA cd:Nat} {st:Store} {m:Loc} {key:AV} {codes sums found:List (AV×AV)} {E:MP} {ins:List AV} {te':AV} {Q:Fl→Loc→Store→Prop} {U:MP}
  (u:UTk U) (u0:U (.cell .held (.int 0)) (oTok (.int 0))) (u1:U (.cell .held (.int 1)) (oTok (.int 1))) (C:CodeAt st0 cd ins te')
  (m1:get m w_codes=some (.ref cA)) (m2:get m w_summaries=some (.ref st0.length)) (m3:get m w_found=some (.ref (st0.length + 1))) (m4:get m w_key=some key) (hkd:key.isD=true)
  (hc:st0[cA]?=some (.dct codes)) (hck:kget codes key=some (.ref cd))
  (keep:∀ (a:Nat) (o:AObj),st0[a]?=some o→st[a]?=some o) (hs:st[st0.length]?=some (.dct sums)) (hf:st[st0.length + 1]?=some (.dct found)) (sk:sums.map (·.1)=[kL,kS,kP,kF]) (hkk:key∈[kL,kS,kP,kF])
  (fn:(found.map (·.1)).Nodup) (fw:∀ s∈found.map (·.1),s∈W)
  (go:GoOk d ⟨cd,st0.length,U⟩ st E)
  (k:∀ m' st' sm lk kp td fd F,get m' w_codes=some (.ref cA)→get m' w_summaries=some (.ref st0.length)→get m' w_found=some (.ref (st0.length + 1))→get m' w_ahead=get m w_ahead→st.length≤st'.length→(∀ (a:Nat) (o:AObj),st[a]?=some o→a≠st0.length→a≠st0.length + 1→st'[a]?=some o) →
   st'[st0.length]?=some (.dct (kput sums key (.ref sm)))→st'[st0.length + 1]?=some (.dct fd)→(kput sums key (.ref sm)).map (·.1)=[kL,kS,kP,kF]→SmB st' (st0.length + 1) sm lk kp td→KeyDone E F sm lk kp td →
   FD found (F.S (.top .sites)) (fun s=>if s∈F.S (.top .gone) then c_HEAP else c_FRAME) fd→(∀ s∈fd.map (·.1),s∈W)→Q .next m' st'):exW (Vd (d + 10)) b_key m st Q:=by
 have l1:st0.length + 1 < st.length:=(List.getElem?_eq_some_iff.mp hf).1
 refine key_step (P:=⟨cd,st0.length,U⟩) (sA:=0) (cn:=0) (fs:=[]) u u0 u1 (C.keep keep) m1 m2 m3 m4 hkd (keep _ _ hc) hck hs (by have:=congrArg List.length sk; simp at this; lia) hf (by simp) fn fw go fun m' st' sm lk kp td fd F q1 q2 q3 q4 q5 q6 q7 q8 q9 q10 q11 q12=>?_
 exact k m' st' sm lk kp td fd F q1 q2 q3 q4 q5 q6 q7 q8 (by rw [kput_keys_same (by rw [sk]; exact hkk),sk]) (q9.mono (by lia)) q10 q11 q12
noncomputable def ValP (D:LD) (b:Bool) (fd:List (AV×AV)):Prop:=∀ a,a < D.many→(D.L b a→kget fd (sKey a)=some c_HEAP)∧(¬ D.L b a→kget fd (sKey a)=some c_FRAME)
@[reducible] noncomputable def s_round:PS:=.forr (.nm w_key) .val (.bi .sorted (.cons (.nm w_codes) .nil)) b_key
theorem round {D:LD} (k:D.Ok) {ks:List Kd} (K:KC D ks) {st0 st:Store} {b:Bool} {sz:AV→Nat} {d cA cl cs cp cf:Nat} {m:Loc} {sums found:List (AV×AV)} {Q:Fl→Loc→Store→Prop} (C:ECtx st0 cA cl cs cp cf D ks) (R:RS D st0 b sz st sums found)
  (m1:get m w_codes=some (.ref cA)) (m2:get m w_summaries=some (.ref st0.length)) (m3:get m w_found=some (.ref (st0.length + 1)))
  (kk:∀ m' st' sums' fd sz',get m' w_codes=some (.ref cA)→get m' w_summaries=some (.ref st0.length)→get m' w_found=some (.ref (st0.length + 1))→get m' w_ahead=get m w_ahead→RS D st0 true sz' st' sums' fd→SzOk D sz' →
   (∀ s,s∈fd.map (·.1)↔s∈found.map (·.1)∨∃ a,a < D.many∧s=sKey a)→ValP D b fd→Q .next m' st'):exW (Vd (d + 10)) s_round m st Q:=by
 have l1:st0.length + 1 < st.length:=(List.getElem?_eq_some_iff.mp R.hf).1
 refine xI m1 ?_
 refine ⟨_,sorts4,R.keep _ _ C.hc,by simp,.inr (.inr ⟨0,rfl,(by decide +kernel:List.Perm [kL,kS,kP,kF] sorts4)⟩),?_⟩
 refine src_lst set_new ?_
 have oldA:∀ (a:Nat) (o:AObj),st[a]?=some o→(st++[AObj.lst sorts4])[a]?=some o:=fun a o e=>look_app e
 have hsorted:(st++[AObj.lst sorts4])[st.length]?=some (.lst sorts4):=set_new
 obtain ⟨sl,gl,ql⟩:=R.hl
 obtain ⟨ss,gs,qs⟩:=R.hS
 obtain ⟨sp,gp,qp⟩:=R.hp
 generalize hs1:st++[AObj.lst sorts4]=s1 at *
 have b1:∀ L,(s1++L)[st0.length]?=some (.dct sums):=fun L=>look_app (oldA _ _ R.hs)
 have nA:st.length≠st0.length:=by lia
 have nB:st.length≠st0.length + 1:=by lia
 have B:Base ⟨cf,st0.length,UF D b⟩ (s1++L0 ⟨cf,st0.length,UF D b⟩ s1.length) (F0 s1.length) b:={ dc:=sums,sl:=sl,ss:=ss,sp:=sp,hd:=b1 _,hn:=nown (oldA _ _ R.hs),gl:=gl,gs:=gs,gp:=gp,h0:=by simp [F0],go:=kget_noneP (by rw [R.sk]; decide +kernel),ql:=(ql.keepN fun a o e _=>oldA a o e).up,qs:=(qs.keepN fun a o e _=>oldA a o e).up,qp:=(qp.keepN fun a o e _=>oldA a o e).up }
 refine And.intro rfl ?_
 refine rs_step (st0:=st0) (cd:=cf) (U:=UF D b) (E:=UF D b) (UF_ok k b) (.inl ⟨rfl,rfl⟩) (.inr (.inl ⟨rfl,rfl⟩)) C.f (get_put_ne rfl m1) (get_put_ne rfl m2) (get_put_ne rfl m3) get_put_eq rfl C.hc rfl (fun a o e=>oldA a o (R.keep a o e)) (oldA _ _ R.hs) (oldA _ _ R.hf) R.sk (by simp) R.fn R.fw
  (go_f k K rfl (C.f.keep fun a o e=>oldA a o (R.keep a o e)) B) fun mA sA smA lkA kpA tdA fdA FA a1 a2 a3 a4 a5 a6 a7 a8 a9 a10 a11 a12 a13=>?_
 have ksA:∀ (a:Nat) (o:AObj),st0[a]?=some o→sA[a]?=some o:=fun a o e=>a6 a o (oldA a o (R.keep a o e)) (fun z=>by have:=(List.getElem?_eq_some_iff.mp e).1; lia) fun z=>by have:=(List.getElem?_eq_some_iff.mp e).1; lia
 refine And.intro (by show sA[st.length]?=s1[st.length]?; rw [a6 _ _ hsorted nA nB,hsorted]) ?_
 refine rs_step (st0:=st0) (cd:=cl) (U:=U_load) (E:=U_load) (UH_ok (.inr (.inl rfl)) (.inl rfl) (.inl rfl) (.inl rfl)) (.inl ⟨rfl,rfl⟩) (.inr (.inl ⟨rfl,rfl⟩)) C.l (get_put_ne rfl a1) (get_put_ne rfl a2) (get_put_ne rfl a3) get_put_eq rfl C.hc rfl ksA a7 a8 a9 (by simp) a12.nd a13
  (go_load rfl (C.l.keep ksA)) fun mB sB smB lkB kpB tdB fdB FB b1 b2 b3 b4 b5 b6 b7 b8 b9 b10 b11 b12 b13=>?_
 have ksB:∀ (a:Nat) (o:AObj),st0[a]?=some o→sB[a]?=some o:=fun a o e=>b6 a o (ksA a o e) (fun z=>by have:=(List.getElem?_eq_some_iff.mp e).1; lia) fun z=>by have:=(List.getElem?_eq_some_iff.mp e).1; lia
 have hsA:sA[st.length]?=some (.lst sorts4):=a6 _ _ hsorted nA nB
 have hsB:sB[st.length]?=some (.lst sorts4):=b6 _ _ hsA nA nB
 refine And.intro (by show sB[st.length]?=s1[st.length]?; rw [hsB,hsorted]) ?_
 refine rs_step (st0:=st0) (cd:=cp) (U:=U_put) (E:=U_put) (UH_ok (.inl rfl) (.inl rfl) (.inr rfl) (.inl rfl)) (.inl ⟨rfl,rfl⟩) (.inr (.inl ⟨rfl,rfl⟩)) C.p (get_put_ne rfl b1) (get_put_ne rfl b2) (get_put_ne rfl b3) get_put_eq rfl C.hc rfl ksB b7 b8 b9 (by simp) b12.nd b13
  (go_put rfl (C.p.keep ksB)) fun mC sC smC lkC kpC tdC fdC FC c1 c2 c3 c4 c5 c6 c7 c8 c9 c10 c11 c12 c13=>?_
 have ksC:∀ (a:Nat) (o:AObj),st0[a]?=some o→sC[a]?=some o:=fun a o e=>c6 a o (ksB a o e) (fun z=>by have:=(List.getElem?_eq_some_iff.mp e).1; lia) fun z=>by have:=(List.getElem?_eq_some_iff.mp e).1; lia
 have hsC:sC[st.length]?=some (.lst sorts4):=c6 _ _ hsB nA nB
 refine And.intro (by show sC[st.length]?=s1[st.length]?; rw [hsC,hsorted]) ?_
 refine rs_step (st0:=st0) (cd:=cs) (U:=U_same) (E:=U_same) (UH_ok (.inr (.inl rfl)) (.inl rfl) (.inl rfl) (.inr rfl)) (.inl ⟨rfl,rfl⟩) (.inr (.inl ⟨rfl,rfl⟩)) C.s (get_put_ne rfl c1) (get_put_ne rfl c2) (get_put_ne rfl c3) get_put_eq rfl C.hc rfl ksC c7 c8 c9 (by simp) c12.nd c13
  (go_same rfl (C.s.keep ksC)) fun mD sD smD lkD kpD tdD fdD FD' d1 d2 d3 d4 d5 d6 d7 d8 d9 d10 d11 d12 d13=>?_
 have ksD:∀ (a:Nat) (o:AObj),st0[a]?=some o→sD[a]?=some o:=fun a o e=>d6 a o (ksC a o e) (fun z=>by have:=(List.getElem?_eq_some_iff.mp e).1; lia) fun z=>by have:=(List.getElem?_eq_some_iff.mp e).1; lia
 have hsD:sD[st.length]?=some (.lst sorts4):=d6 _ _ hsC nA nB
 refine And.intro (by show sD[st.length]?=s1[st.length]?; rw [hsD,hsorted]) ?_
 have big:∀ {x y:Store},(∀ (a:Nat) (o:AObj),x[a]?=some o→a≠st0.length→a≠st0.length + 1→y[a]?=some o)→∀ (a:Nat) (o:AObj),x[a]?=some o→st0.length + 1 < a→y[a]?=some o:=fun h a o e z=>h a o e (by lia) (by lia)
 have kD:=big d6
 have kC:∀ (a:Nat) (o:AObj),sB[a]?=some o→st0.length + 1 < a→sD[a]?=some o:=fun a o e z=>kD a o (big c6 a o e z) z
 have kB:∀ (a:Nat) (o:AObj),sA[a]?=some o→st0.length + 1 < a→sD[a]?=some o:=fun a o e z=>kC a o (big b6 a o e z) z
 have smF:=a10.keep kB
 have smL:=b10.keep kC
 have smP:=c10.keep kD
 have gF:kget (kput (kput (kput (kput sums kF (.ref smA)) kL (.ref smB)) kP (.ref smC)) kS (.ref smD)) kF=some (.ref smA):=by simp [kget_kput,w_main_f,w_main_load,w_main_put,w_main_same]
 have gL:kget (kput (kput (kput (kput sums kF (.ref smA)) kL (.ref smB)) kP (.ref smC)) kS (.ref smD)) kL=some (.ref smB):=by simp [kget_kput,w_main_f,w_main_load,w_main_put,w_main_same]
 have gP:kget (kput (kput (kput (kput sums kF (.ref smA)) kL (.ref smB)) kP (.ref smC)) kS (.ref smD)) kP=some (.ref smC):=by simp [kget_kput,w_main_f,w_main_load,w_main_put,w_main_same]
 have gS:kget (kput (kput (kput (kput sums kF (.ref smA)) kL (.ref smB)) kP (.ref smC)) kS (.ref smD)) kS=some (.ref smD):=by simp [kget_kput,w_main_f,w_main_load,w_main_put,w_main_same]
 have uL:=UH_ok (t2:=some (oTok (.int 0))) (s:=none) (kp:=none) (tl:=none) (.inr (.inl rfl)) (.inl rfl) (.inl rfl) (.inl rfl)
 have uP:=UH_ok (t2:=none) (s:=none) (kp:=some (pr (.int 1) (.int 0))) (tl:=none) (.inl rfl) (.inl rfl) (.inr rfl) (.inl rfl)
 have uS:=UH_ok (t2:=some (oTok (.int 0))) (s:=none) (kp:=none) (tl:=some (.int 0)) (.inr (.inl rfl)) (.inl rfl) (.inl rfl) (.inr rfl)
 have nS:∀ {E:MP} {F:FS} {sm:Nat} {lk kp:List AV} {td:List Td},KeyDone E F sm lk kp td→(∀ x,¬ E (.top .sites) x)→F.S (.top .sites)=[]:=fun h n=>List.eq_nil_iff_forall_not_mem.mpr fun x hx=>n x ((h.ex _ x rfl).mp (mem_S.mp hx))
 have sB0:=nS b11 (fun x z=>by cases z)
 have sC0:=nS c11 (fun x z=>by cases z)
 have sD0:=nS d11 (fun x z=>by cases z)
 rw [sB0] at b12; rw [sC0] at c12; rw [sD0] at d12
 have ke:∀ s,s∈fdD.map (·.1)↔s∈fdA.map (·.1):=fun s=>by rw [d12.ks,c12.ks,b12.ks]; simp
 have ge:∀ s,kget fdD s=kget fdA s:=fun s=>by rw [d12.off s (by simp),c12.off s (by simp),b12.off s (by simp)]
 let sz':AV→Nat:=fun k=>if k=kF then lkA.length + kpA.length + tsz tdA else if k=kL then lkB.length + kpB.length + tsz tdB else if k=kP then lkC.length + kpC.length + tsz tdC else lkD.length + kpD.length + tsz tdD
 have zF:Sz (UF D true) (sz' kF):=by
  have:sz' kF=lkA.length + kpA.length + tsz tdA:=by simp [sz',w_main_f,w_main_load,w_main_put,w_main_same]
  rw [this]; exact a11.sz.congr fun r x h=>uf_sum h
 have zL:Sz U_load (sz' kL):=by
  have:sz' kL=lkB.length + kpB.length + tsz tdB:=by simp [sz',w_main_f,w_main_load,w_main_put,w_main_same]
  rw [this]; exact b11.sz
 have zP:Sz U_put (sz' kP):=by
  have:sz' kP=lkC.length + kpC.length + tsz tdC:=by simp [sz',w_main_f,w_main_load,w_main_put,w_main_same]
  rw [this]; exact c11.sz
 have zS:Sz U_same (sz' kS):=by
  have:sz' kS=lkD.length + kpD.length + tsz tdD:=by simp [sz',w_main_f,w_main_load,w_main_put,w_main_same]
  rw [this]; exact d11.sz
 have hE1:∀ (t2 s kp tl:Option AV) x,¬ UH t2 s kp tl (.top .leaks) x:=fun _ _ _ _ x z=>z
 refine kk mD sD _ fdD sz' d1 d2 d3 (by rw [d4,get_put_o rfl,c4,get_put_o rfl,b4,get_put_o rfl,a4,get_put_o rfl]) ⟨ksD,d7,d8,d9,⟨_,gL,?_⟩,⟨_,gS,?_⟩,⟨_,gP,?_⟩,fun q hq=>?_,d12.nd,d13⟩ ⟨zF,zL,zP,zS⟩ (fun s=>?_) fun a ha=>?_
 ·exact b11.sumAt smL (hE1 _ _ _ _) (fun x=>by simp [U_load,UH_kept,UH_told]) (.inl rfl) (fun x=>by simp [U_load,UH_kept,UH_told]) (.inl rfl)
 ·exact d11.sumAt d10 (hE1 _ _ _ _) (fun x=>by simp [U_same,UH_kept,UH_told]) (.inl rfl) (fun x=>by simp [U_same,UH_kept,UH_told,eq_comm]) (.inr ⟨_,rfl⟩)
 ·exact c11.sumAt smP (hE1 _ _ _ _) (fun x=>by simp [U_put,UH_kept,UH_told,eq_comm]) (.inr ⟨_,rfl⟩) (fun x=>by simp [U_put,UH_kept,UH_told]) (.inl rfl)
 ·simp at hq
  rcases hq with rfl | rfl | rfl | rfl
  ·exact b11.has smL gL zL (zL.le uL.ok)
  ·exact d11.has d10 gS zS (zS.le uS.ok)
  ·exact c11.has smP gP zP (zP.le uP.ok)
  ·exact a11.has smF gF (zF.congr fun r x h=>uf_sum h) (zF.le (UF_ok k true).ok)
 ·rw [ke,a12.ks]
  exact or_congr Iff.rfl (mem_S.trans (a11.ex _ _ rfl))
 ·have hsit:sKey a∈FA.S (.top .sites):=mem_S.mpr ((a11.ex _ _ rfl).mpr ⟨a,ha,rfl⟩)
  rw [ge,a12.on _ hsit]
  have hg:sKey a∈FA.S (.top .gone)↔D.L b a:=mem_S.trans ((a11.ex _ _ rfl).trans ⟨fun ⟨c,hc,e,l⟩=>by rw [sKey_inj e]; exact l,fun l=>⟨a,ha,rfl,l⟩⟩)
  exact ⟨fun l=>by rw [if_pos (hg.mpr l)],fun l=>by rw [if_neg (fun z=>l (hg.mp z))]⟩
end
end Mine
namespace Mine
section
set_option maxRecDepth 10000
theorem HasSz.mono {st:Store} {b:Nat} {sums:List (AV×AV)} {key:AV} {n:Nat} {st':Store} (h:HasSz st b sums key n) (hk:∀ (a:Nat) (o:AObj),st[a]?=some o→st'[a]?=some o):HasSz st' b sums key n:=h.keep (fun a o e _=>hk a o e) rfl
theorem RS.mono {D:LD} {st0:Store} {b:Bool} {sz:AV→Nat} {st st':Store} {sums found:List (AV×AV)} (R:RS D st0 b sz st sums found) (hk:∀ (a:Nat) (o:AObj),st[a]?=some o→st'[a]?=some o):RS D st0 b sz st' sums found:=by
 obtain ⟨sl,gl,ql⟩:=R.hl
 obtain ⟨ss,gs,qs⟩:=R.hS
 obtain ⟨sp,gp,qp⟩:=R.hp
 exact ⟨fun a o e=>hk a o (R.keep a o e),hk _ _ R.hs,hk _ _ R.hf,R.sk,⟨sl,gl,ql.keepN fun a o e _=>hk a o e⟩,⟨ss,gs,qs.keepN fun a o e _=>hk a o e⟩,⟨sp,gp,qp.keepN fun a o e _=>hk a o e⟩,fun k hkk=>(R.z k hkk).mono hk,R.fn,R.fw⟩
theorem SmB.sum0 {st:Store} {b sm:Nat} (s:SmB st b sm [] [] []):SumAt st (fun a=>b < a) sm [] []:=by
 obtain ⟨n,a1,a2,a3,h1,h2,h3,h4,h5,b0,b1,b2,b3,b4⟩:=s.ex
 exact ⟨n,a1,a2,a3,h1,h2,h3,h4,b0,b1,b2,b3,b4,[],h5,.inl ⟨rfl,rfl⟩⟩
theorem SmB.has0 {st:Store} {b sm:Nat} (s:SmB st b sm [] [] []) {sums:List (AV×AV)} {k:AV} (h:kget sums k=some (.ref sm)):HasSz st b sums k 0:=⟨sm,[],[],[],h,s,rfl,by decide,by decide,by decide,by decide,by simp⟩
theorem init_loop {st0:Store} {cA d:Nat} {codes:List (AV×AV)} {m:Loc} {Q:Fl→Loc→Store→Prop} (hc:st0[cA]?=some (.dct codes)) (hD:∀ p∈codes,p.1.isD=true) (hn:(codes.map (·.1)).Nodup) (hl:codes.length < 1000)
  (m1:get m w_codes=some (.ref cA)) (m2:get m w_summaries=some (.ref st0.length)) (m3:get m w_found=some (.ref (st0.length + 1))) (m4:get m w_ahead=some (.int (-1)))
  (k:∀ m' st' sums,get m' w_codes=some (.ref cA)→get m' w_summaries=some (.ref st0.length)→get m' w_found=some (.ref (st0.length + 1))→get m' w_ahead=some (.int (-1))→(∀ (a:Nat) (o:AObj),st0[a]?=some o→st'[a]?=some o)→st'[st0.length]?=some (.dct sums)→st'[st0.length + 1]?=some (.dct []) →
   sums.map (·.1)=codes.map (·.1)→(∀ k∈codes.map (·.1),∃ sm,kget sums k=some (.ref sm)∧SmB st' (st0.length + 1) sm [] [] [])→Q .next m' st') :
  exW (Vd (d + 10)) (.forr (.nm w_key) .val (.nm w_codes) (.seq (.asg (.sub (.nm w_summaries) (.nm w_key)) (.fn w_Summary .nil)) .skip)) m (st0++[.dct [],.dct []]) Q:=by
 refine xI m1 ?_
 refine src_dct (look_app hc) ?_
 refine for_inv (fun done m' s=>(And4 (get m' w_codes=some (.ref cA)) (get m' w_summaries=some (.ref st0.length)) (get m' w_found=some (.ref (st0.length + 1))) (get m' w_ahead=some (.int (-1))))∧(∀ (a:Nat) (o:AObj),st0[a]?=some o→s[a]?=some o)∧∃ sums,And4 (s[st0.length]?=some (.dct sums)) (s[st0.length + 1]?=some (.dct [])) (sums.map (·.1)=done) (∀ k∈done,∃ sm,kget sums k=some (.ref sm)∧SmB s (st0.length + 1) sm [] [] [])) ?_ ?_ ⟨⟨m1,m2,m3,m4⟩,fun a o e=>look_app e,[],app_at (k:=0),app_at (k:=1),rfl,by simp⟩ ?_
 ·rintro done m' s ⟨_,hk,_⟩
  show s[cA]?=(st0++[AObj.dct [],.dct []])[cA]?
  rw [hk _ _ hc,look_app hc]
 ·intro done x rest e m' s hI Q' kk
  obtain ⟨⟨q1,q2,q3,q4⟩,hk,sums,h1,h2,h3,h4⟩:=hI
  have xd:x ∉ done:=by rw [e] at hn; intro z; have:=List.nodup_append.mp hn; exact this.2.2 x z x (by simp) rfl
  have xD:x.isD=true:=by
   have:x∈codes.map (·.1):=by rw [e]; simp
   obtain ⟨p,hp,rfl⟩:=List.mem_map.mp this
   exact hD p hp
  have dl:done.length < 1000:=by have:=congrArg List.length e; simp at this; lia
  have sl:st0.length + 1 < s.length:=(List.getElem?_eq_some_iff.mp h2).1
  refine summary_new ?_
  refine xI (get_put_ne rfl q2) ?_
  refine xI (get_put_eq) ?_
  refine xI (setI_dct xD (look_app h1) (by have:=congrArg List.length h3; simp at this; lia)) ?_
  have gn:kget sums x=none:=kget_noneP (by rw [h3]; exact xd)
  rw [kput_newP gn]
  let T:Store:=[.ns [(w_leaks,.ref (s.length + 2)),(w_kept,.ref (s.length + 3)),(w_told,.ref (s.length + 4))],.ins w_Summary s.length,.dct [],.dct [],.dct []]
  have nw:∀ (j:Nat) (o:AObj),T[j]?=some o→((s++T).set st0.length (.dct (sums++[(x,.ref (s.length + 1))])))[s.length + j]?=some o:=fun j o z=>set_keep (by rw [app_at]; exact z) (by lia)
  have old:∀ (a:Nat) (o:AObj),s[a]?=some o→a≠st0.length→((s++T).set st0.length (.dct (sums++[(x,.ref (s.length + 1))])))[a]?=some o:=fun a o z hne=>set_keep (look_app z) hne
  refine (kk _ _ ⟨⟨get_put_ne rfl q1,get_put_ne rfl q2,get_put_ne rfl q3,get_put_ne rfl q4⟩,fun a o z=>old a o (hk a o z) (by have:=(List.getElem?_eq_some_iff.mp z).1; lia),sums++[(x,.ref (s.length + 1))],?_,old _ _ h2 (by lia),by simp [h3],fun y hy=>?_⟩).1
  ·rw [List.getElem?_set_self (by simp; lia)]
  ·simp at hy
   rcases hy with hy | rfl
   ·obtain ⟨sm,g1,g2⟩:=h4 y hy
    refine ⟨sm,?_,g2.keep fun a o z hb=>old a o z (by lia)⟩
    have yx:¬ y=x:=fun z=>xd (z ▸ hy)
    rw [← kput_newP gn,kget_kput,if_neg yx,g1]
   ·refine ⟨s.length + 1,by rw [← kput_newP gn,kget_kput,if_pos rfl],⟨⟨s.length,s.length + 2,s.length + 3,s.length + 4,nw 1 _ rfl,nw 0 _ rfl,nw 2 _ rfl,nw 3 _ rfl,nw 4 _ rfl,by lia,by lia,by lia,by lia,by lia⟩,by simp⟩⟩
 ·rintro m' s ⟨⟨q1,q2,q3,q4⟩,hk,sums,h1,h2,h3,h4⟩
  exact k m' s sums q1 q2 q3 q4 hk h1 h2 h3 h4
theorem escapes_spec {D:LD} (k:D.Ok) {ks:List Kd} (K:KC D ks) {st0:Store} {d cA cl cs cp cf:Nat} {Q:AV→Store→Prop} (C:ECtx st0 cA cl cs cp cf D ks)
  (kk:∀ st' fd,(∀ (a:Nat) (o:AObj),st0[a]?=some o→st'[a]?=some o)→st'[st0.length + 1]?=some (.dct fd)→(fd.map (·.1)).Nodup→(∀ s,s∈fd.map (·.1)↔∃ a,a < D.many∧s=sKey a)→ValP D true fd→Q (.ref (st0.length + 1)) st') :
  callP mprog (d + 11) 0 w_escapes [.ref cA] st0 Q:=by
 refine call_df rfl rfl ?_
 refine And.intro rfl ?_
 have e1:(st0++[AObj.dct []]).length=st0.length + 1:=by simp
 rw [e1,List.append_assoc]
 have cD:∀ p∈[(kL,AV.ref cl),(kS,.ref cs),(kP,.ref cp),(kF,.ref cf)],p.1.isD=true:=by
  intro p hp; simp at hp; rcases hp with rfl | rfl | rfl | rfl <;> rfl
 refine (?_:exW _ (.forr _ _ _ _) _ _ _)
 refine init_loop C.hc cD (by show [kL,kS,kP,kF].Nodup; decide +kernel) (by simp) rfl rfl rfl rfl fun m1 s1 sums a1 a2 a3 a4 a5 a6 a7 a8 a9=>?_
 have R0:RS D st0 false (fun _=>0) s1 sums []:=by
  obtain ⟨sl,gl,ql⟩:=a9 kL (by simp)
  obtain ⟨ss,gs,qs⟩:=a9 kS (by simp)
  obtain ⟨sp,gp,qp⟩:=a9 kP (by simp)
  refine ⟨a5,a6,a7,a8,⟨sl,gl,ql.sum0⟩,⟨ss,gs,qs.sum0⟩,⟨sp,gp,qp.sum0⟩,fun q hq=>?_,by simp,by simp⟩
  obtain ⟨sq,gq,qq⟩:=a9 q hq
  exact qq.has0 gq
 have hz:∀ {b:Bool} {sz:AV→Nat} {st:Store} {sums found:List (AV×AV)},RS D st0 b sz st sums found→∀ p∈[(kL,AV.ref cl),(kS,.ref cs),(kP,.ref cp),(kF,.ref cf)],HasSz st (st0.length + 1) sums p.1 (sz p.1):=fun R p hp=>by
  simp at hp; rcases hp with rfl | rfl | rfl | rfl <;> exact R.z _ (by simp)
 refine Exists.intro 3 ?_
 refine xI (a4) ?_
 refine sum_eval a1 a2 (R0.keep _ _ C.hc) R0.hs (by simp) cD (hz R0) fun g1=>?_
 refine neI ?_
 have R1:=R0.mono (st':=s1++g1) fun a o e=>look_app e
 rw [show (!decide ((-1:Int)=((([(kL,AV.ref cl),(kS,.ref cs),(kP,.ref cp),(kF,.ref cf)].map fun p=>(fun _=>0) p.1).sum:Nat):Int)))=true from by simp]
 refine sum_eval a1 a2 (R1.keep _ _ C.hc) R1.hs (by simp) cD (hz R1) fun g2=>?_
 have R2:=R1.mono (st':=s1++g1++g2) fun a o e=>look_app e
 refine round k K C R2 (get_put_ne rfl a1) (get_put_ne rfl a2) (get_put_ne rfl a3) fun m2 s2 sums2 fd2 sz2 b1 b2 b3 b4 R3 z3 f3 v3=>?_
 rw [get_put_eq] at b4
 refine xI (b4) ?_
 refine sum_eval b1 b2 (R3.keep _ _ C.hc) R3.hs (by simp) cD (hz R3) fun g3=>?_
 refine neI ?_
 have R4:=R3.mono (st':=s2++g3) fun a o e=>look_app e
 have pos:1≤sz2 kS:=by
  obtain ⟨l,h1,h2,h3⟩:=z3.s
  have:(Role.cell .told (.int 0),AV.int 0)∈l:=(h2 _).mpr ⟨rfl,rfl,rfl⟩
  rw [← h3]; exact List.length_pos_of_mem this
 rw [show (!decide (((([(kL,AV.ref cl),(kS,.ref cs),(kP,.ref cp),(kF,.ref cf)].map fun p=>(fun _=>0) p.1).sum:Nat):Int)=((([(kL,AV.ref cl),(kS,.ref cs),(kP,.ref cp),(kF,.ref cf)].map fun p=>sz2 p.1).sum:Nat):Int)))=true from by simp; lia]
 refine sum_eval b1 b2 (R4.keep _ _ C.hc) R4.hs (by simp) cD (hz R4) fun g4=>?_
 have R5:=R4.mono (st':=s2++g3++g4) fun a o e=>look_app e
 refine round k K C R5 (get_put_ne rfl b1) (get_put_ne rfl b2) (get_put_ne rfl b3) fun m3 s3 sums3 fd3 sz3 c1 c2 c3 c4 R6 z6 f6 v6=>?_
 rw [get_put_eq] at c4
 refine xI (c4) ?_
 refine sum_eval c1 c2 (R6.keep _ _ C.hc) R6.hs (by simp) cD (hz R6) fun g5=>?_
 refine neI ?_
 have R7:=R6.mono (st':=s3++g5) fun a o e=>look_app e
 have E1:=z3.f.uniq z6.f
 have E2:=z3.l.uniq z6.l
 have E3:=z3.p.uniq z6.p
 have E4:=z3.s.uniq z6.s
 rw [show (!decide (((([(kL,AV.ref cl),(kS,.ref cs),(kP,.ref cp),(kF,.ref cf)].map fun p=>sz2 p.1).sum:Nat):Int)=((([(kL,AV.ref cl),(kS,.ref cs),(kP,.ref cp),(kF,.ref cf)].map fun p=>sz3 p.1).sum:Nat):Int)))=false from by simp [E1,E2,E3,E4]]
 refine xI (c3) ?_
 exact kk _ fd3 R7.keep R7.hf R7.fn (fun s=>by rw [f6,f3]; simp) v6
end
end Mine
namespace Mine
section
set_option maxRecDepth 10000
@[reducible] noncomputable def kI:AV:=.str w_main_i
@[reducible] noncomputable def iIdle (t:AV):AV:=.cons (.str w_new) (.cons (.int 2) (.cons t (.cons iKey .nil)))
structure RI (st0:Store) (n:Nat) (st:Store) (sums found:List (AV×AV)):Prop where
 keep:∀ (a:Nat) (o:AObj),st0[a]?=some o→st[a]?=some o
 hs:st[st0.length]?=some (.dct sums)
 hf:st[st0.length + 1]?=some (.dct found)
 sk:sums.map (·.1)=[kI]
 z:HasSz st (st0.length + 1) sums kI n
 fn:(found.map (·.1)).Nodup
 fw:∀ s∈found.map (·.1),s∈W
theorem RI.mono {st0:Store} {n:Nat} {st st':Store} {sums found:List (AV×AV)} (R:RI st0 n st sums found) (hk:∀ (a:Nat) (o:AObj),st[a]?=some o→st'[a]?=some o):RI st0 n st' sums found :=
 ⟨fun a o e=>hk a o (R.keep a o e),hk _ _ R.hs,hk _ _ R.hf,R.sk,R.z.mono hk,R.fn,R.fw⟩
theorem round_i {st0 st:Store} {n d cA ci:Nat} {t:AV} {m:Loc} {sums found:List (AV×AV)} {Q:Fl→Loc→Store→Prop} (hc:st0[cA]?=some (.dct [(kI,.ref ci)])) (C:CodeAt st0 ci [iIdle t] (pr (.str w_return) (AV.ofL [rg 0]))) (R:RI st0 n st sums found)
  (m1:get m w_codes=some (.ref cA)) (m2:get m w_summaries=some (.ref st0.length)) (m3:get m w_found=some (.ref (st0.length + 1)))
  (kk:∀ m' st' sums' fd n',get m' w_codes=some (.ref cA)→get m' w_summaries=some (.ref st0.length)→get m' w_found=some (.ref (st0.length + 1))→get m' w_ahead=get m w_ahead→RI st0 n' st' sums' fd→Sz U_idle n' →
   (∀ s,s∈fd.map (·.1)↔s∈found.map (·.1)∨s=iKey)→kget fd iKey=some c_FRAME→Q .next m' st'):exW (Vd (d + 10)) s_round m st Q:=by
 have l1:st0.length + 1 < st.length:=(List.getElem?_eq_some_iff.mp R.hf).1
 refine xI m1 ?_
 refine ⟨_,[kI],R.keep _ _ hc,by simp,.inr (.inl ⟨kI,rfl,rfl⟩),?_⟩
 refine src_lst set_new ?_
 have oldA:∀ (a:Nat) (o:AObj),st[a]?=some o→(st++[AObj.lst [kI]])[a]?=some o:=fun a o e=>look_app e
 have hsorted:(st++[AObj.lst [kI]])[st.length]?=some (.lst [kI]):=set_new
 generalize hs1:st++[AObj.lst [kI]]=s1 at *
 have nA:st.length≠st0.length:=by lia
 have nB:st.length≠st0.length + 1:=by lia
 have l2:st0.length + 1 < s1.length:=(List.getElem?_eq_some_iff.mp (oldA _ _ R.hf)).1
 have uI:=UH_ok (t2:=some (sTok iKey)) (s:=some iKey) (kp:=none) (tl:=some (.int 0)) (.inr (.inr rfl)) (.inr rfl) (.inl rfl) (.inr rfl)
 refine And.intro rfl ?_
 refine key_step (d:=d) (E:=U_idle) (P:=⟨ci,st0.length,U_idle⟩) (sA:=0) (cn:=0) (fs:=[]) uI (.inl ⟨rfl,rfl⟩) (.inr (.inl ⟨rfl,rfl⟩)) (C.keep fun a o e=>oldA a o (R.keep a o e)) (get_put_ne rfl m1) (get_put_ne rfl m2) (get_put_ne rfl m3) get_put_eq rfl (oldA _ _ (R.keep _ _ hc)) rfl (oldA _ _ R.hs) (by have:=congrArg List.length R.sk; simp at this; lia) (oldA _ _ R.hf) (by simp) R.fn R.fw
  (go_idle rfl (C.keep fun a o e=>oldA a o (R.keep a o e))) fun mA sA smA lkA kpA tdA fdA FA a1 a2 a3 a4 a5 a6 a7 a8 a10 a11 a12 a13=>?_
 have ksA:∀ (a:Nat) (o:AObj),st0[a]?=some o→sA[a]?=some o:=fun a o e=>a6 a o (oldA a o (R.keep a o e)) (fun z=>by have:=(List.getElem?_eq_some_iff.mp e).1; dsimp only at z; lia) fun z=>by have:=(List.getElem?_eq_some_iff.mp e).1; lia
 refine And.intro (by show sA[st.length]?=s1[st.length]?; rw [a6 _ _ hsorted nA nB,hsorted]) ?_
 have a10':=a10.mono (b':=st0.length + 1) (by lia)
 have hS:∀ s,s∈FA.S (.top .sites)↔s=iKey:=fun s=>mem_S.trans ((a11.ex _ _ rfl).trans (by simp [U_idle,UH_sites,UH_kept,UH_told,eq_comm]))
 have hG:∀ s,s ∉ FA.S (.top .gone):=fun s z=>by have:=(a11.ex _ _ rfl).mp (mem_S.mp z); cases this
 refine kk mA sA _ fdA _ a1 a2 a3 (by rw [a4,get_put_o rfl]) ⟨ksA,a7,a8,by rw [kput_keys_same (by rw [R.sk]; simp),R.sk],a11.has a10' (by rw [kget_kput,if_pos rfl]) a11.sz (a11.sz.le uI.ok),a12.nd,a13⟩ a11.sz (fun s=>?_) ?_
 ·rw [a12.ks,hS]
 ·rw [a12.on _ ((hS _).mpr rfl),if_neg (hG _)]
theorem escapes_idle {st0:Store} {d cA ci:Nat} {t:AV} {Q:AV→Store→Prop} (hc:st0[cA]?=some (.dct [(kI,.ref ci)])) (C:CodeAt st0 ci [iIdle t] (pr (.str w_return) (AV.ofL [rg 0])))
  (kk:∀ st' fd,(∀ (a:Nat) (o:AObj),st0[a]?=some o→st'[a]?=some o)→st'[st0.length + 1]?=some (.dct fd)→(fd.map (·.1)).Nodup→(∀ s,s∈fd.map (·.1)↔s=iKey)→kget fd iKey=some c_FRAME→Q (.ref (st0.length + 1)) st') :
  callP mprog (d + 11) 0 w_escapes [.ref cA] st0 Q:=by
 refine call_df rfl rfl ?_
 refine And.intro rfl ?_
 have e1:(st0++[AObj.dct []]).length=st0.length + 1:=by simp
 rw [e1,List.append_assoc]
 have cD:∀ p∈[(kI,AV.ref ci)],p.1.isD=true:=by
  intro p hp; simp at hp; rcases hp with rfl; rfl
 refine (?_:exW _ (.forr _ _ _ _) _ _ _)
 refine init_loop hc cD (by simp) (by simp) rfl rfl rfl rfl fun m1 s1 sums a1 a2 a3 a4 a5 a6 a7 a8 a9=>?_
 have R0:RI st0 0 s1 sums []:=by
  obtain ⟨sq,gq,qq⟩:=a9 kI (by simp)
  exact ⟨a5,a6,a7,a8,qq.has0 gq,by simp,by simp⟩
 have hz:∀ {n:Nat} {st:Store} {sums found:List (AV×AV)},RI st0 n st sums found→∀ p∈[(kI,AV.ref ci)],HasSz st (st0.length + 1) sums p.1 ((fun _=>n) p.1):=fun R p hp=>by
  simp at hp; rcases hp with rfl; exact R.z
 refine Exists.intro 3 ?_
 refine xI (a4) ?_
 refine sum_eval (sz:=fun _=>0) a1 a2 (R0.keep _ _ hc) R0.hs (by simp) cD (hz R0) fun g1=>?_
 refine neI ?_
 have R1:=R0.mono (st':=s1++g1) fun a o e=>look_app e
 rw [show (!decide ((-1:Int)=((([(kI,AV.ref ci)].map fun p=>(fun _=>0) p.1).sum:Nat):Int)))=true from by simp]
 refine sum_eval (sz:=fun _=>0) a1 a2 (R1.keep _ _ hc) R1.hs (by simp) cD (hz R1) fun g2=>?_
 have R2:=R1.mono (st':=s1++g1++g2) fun a o e=>look_app e
 refine round_i hc C R2 (get_put_ne rfl a1) (get_put_ne rfl a2) (get_put_ne rfl a3) fun m2 s2 sums2 fd2 n2 b1 b2 b3 b4 R3 z3 f3 v3=>?_
 rw [get_put_eq] at b4
 refine xI (b4) ?_
 refine sum_eval (sz:=fun _=>n2) b1 b2 (R3.keep _ _ hc) R3.hs (by simp) cD (hz R3) fun g3=>?_
 refine neI ?_
 have R4:=R3.mono (st':=s2++g3) fun a o e=>look_app e
 have pos:1≤n2:=by
  obtain ⟨l,h1,h2,h3⟩:=z3
  have:(Role.cell .told (.int 0),AV.int 0)∈l:=(h2 _).mpr ⟨rfl,rfl,rfl⟩
  rw [← h3]; exact List.length_pos_of_mem this
 rw [show (!decide (((([(kI,AV.ref ci)].map fun p=>(fun _=>0) p.1).sum:Nat):Int)=((([(kI,AV.ref ci)].map fun p=>(fun _=>n2) p.1).sum:Nat):Int)))=true from by simp; lia]
 refine sum_eval (sz:=fun _=>n2) b1 b2 (R4.keep _ _ hc) R4.hs (by simp) cD (hz R4) fun g4=>?_
 have R5:=R4.mono (st':=s2++g3++g4) fun a o e=>look_app e
 refine round_i hc C R5 (get_put_ne rfl b1) (get_put_ne rfl b2) (get_put_ne rfl b3) fun m3 s3 sums3 fd3 n3 c1 c2 c3 c4 R6 z6 f6 v6=>?_
 rw [get_put_eq] at c4
 refine xI (c4) ?_
 refine sum_eval (sz:=fun _=>n3) c1 c2 (R6.keep _ _ hc) R6.hs (by simp) cD (hz R6) fun g5=>?_
 refine neI ?_
 have R7:=R6.mono (st':=s3++g5) fun a o e=>look_app e
 have E1:=z3.uniq z6
 rw [show (!decide (((([(kI,AV.ref ci)].map fun p=>(fun _=>n2) p.1).sum:Nat):Int)=((([(kI,AV.ref ci)].map fun p=>(fun _=>n3) p.1).sum:Nat):Int)))=false from by simp [E1]]
 refine xI (c3) ?_
 exact kk _ fd3 R7.keep R7.hf R7.fn (fun s=>by rw [f6,f3]; simp) v6
end
end Mine
namespace Mine
section
set_option maxRecDepth 10000
noncomputable def SrcAt (st:Store) (a:Nat):Prop:=∃ s0 s1:Int,st[a]?=some (.lst [.int s0,.int s1])∧0≤s0∧0≤s1∧s1 < 2147483647
theorem setI_lst {st:Store} {i:Nat} {l:List AV} {j:Int} {v:AV} (h:st[i]?=some (.lst l)) (h0:0≤j) (h1:j < l.length) (hl:l.length < 2 ^ 20):setI st (.ref i) (.int j) v=some (st.set i (.lst (l.set j.toNat v))):=by
 show objO st[i]? _ _ _=_
 rw [h]
 exact if_pos ⟨h0,h1,hl⟩
theorem gtc {V:MEnv} {m:Loc} {st:Store} {a b:Int} {K:Bool→Store→Prop} (k:K (decide (a > b)) st):evW V (.cst (.int b)) m st (fun y s2=>cmpF .gt s2 (.int a) y fun r=>K r s2):=k
theorem take_spec {st:Store} {a d:Nat} {top:Int} {Q:AV→Store→Prop} (h:SrcAt st a) (t1:0 < top) (t2:top < 2 ^ 20)
  (k:∀ (v:Int) (o:AObj),0≤v→v < top→SrcAt (st.set a o) a→Q (.int v) (st.set a o)):callP mprog (d + 1) 0 w__law_take [.ref a,.int top] st Q:=by
 obtain ⟨s0,s1,e,h0,h1,h2⟩:=h
 have al:=(List.getElem?_eq_some_iff.mp e).1
 refine call_df rfl rfl ?_
 refine xI (sub_lst e (by decide) rfl) ?_
 refine gtc ?_
 by_cases g:s0 > 0
 ·rw [decide_eq_true g]
  refine xI (sub_lst e (by decide) rfl) ?_
  refine And.intro t1 ?_
  refine xI (sub_lst e (by decide) rfl) ?_
  refine And.intro ⟨t1,by lia⟩ ?_
  refine xI (setI_lst e (by decide) (by simp) (by simp)) ?_
  refine k _ _ (Int.fmod_nonneg_of_pos _ t1) (Int.fmod_lt_of_pos _ t1) ⟨s0.fdiv top,s1,by rw [List.getElem?_set_self al]; rfl,Int.fdiv_nonneg h0 (by lia),h1,h2⟩
 ·rw [decide_eq_false g]
  refine xI (sub_lst e (by decide) rfl) ?_
  refine And.intro (.inr (by decide)) ?_
  refine And.intro (by decide) ?_
  refine xI (setI_lst e (by decide) (by simp) (by simp)) ?_
  have e2:∀ x:Int,(st.set a (AObj.lst (List.set [AV.int s0,AV.int s1] (1:Int).toNat (.int x))))[a]?=some (.lst [.int s0,.int x]):=fun x=>by rw [List.getElem?_set_self al]; rfl
  have n1:0≤((s1 * 39373 + 7).fmod 2147483647):=Int.fmod_nonneg_of_pos _ (by decide)
  have n2:((s1 * 39373 + 7).fmod 2147483647) < 2147483647:=Int.fmod_lt_of_pos _ (by decide)
  refine xI (sub_lst (e2 _) (by decide) rfl) ?_
  refine xI (sub_lst (e2 _) (by decide) rfl) ?_
  refine And.intro (.inl (by lia)) ?_
  refine And.intro (by decide) ?_
  refine And.intro (by decide) ?_
  refine And.intro t1 ?_
  exact k _ _ (Int.fmod_nonneg_of_pos _ t1) (Int.fmod_lt_of_pos _ t1) ⟨s0,_,e2 _,h0,n1,n2⟩
theorem bi_len_scr {st:Store} {i:Nat} {l:List Int} {Q:AV→Store→Prop} (h:st[i]?=some (.scr l)) (hl:l.length < 2 ^ 24) (k:Q (.int l.length) st):biF (fun _=>.none) .len st [.ref i] Q:=by
 show objM st[i]? _ _ _
 rw [h]; exact ⟨hl,k⟩
theorem lt_ff {st:Store} {a b:Int} {Q:Bool→Prop} (h:¬ a < b) (k:Q false):cmpF .lt st (.int a) (.int b) Q:=by
 show Q (decide (a < b)); rw [decide_eq_false h]; exact k
theorem ite01 {a:Int} {b:Bool} (h:0≤a):0≤a * (if b=true then 1 else 0):=by
 cases b
 ·exact Int.le_of_eq (Int.mul_zero a).symm
 ·rw [if_pos rfl,Int.mul_one]; exact h
theorem k_ret2 {V:MEnv} {m:Loc} {s:Store} {a x:AV} {Q:KS} (h:Q (.ret (.ref s.length)) m (s++[.lst [a,x]])):atK (consK (evW V .nil m) (consK2 a (lstK (retK m Q)))) s x:=h
theorem k_itef {f g:KT} {m:Loc} {Q:KS} {s:Store} (h:g m s Q):cmpK3 (iteK f g m Q) s false:=h
theorem k_skip {V:MEnv} {m:Loc} {s:Store} {r:PS} {Q:KS} (h:exW V r m s Q):exW V .skip m s (seqK (exW V r) Q):=h
theorem k_asg' {V:MEnv} {v:AV} {m:Loc} {s:Store} {x:Nat} {r:PS} {Q:KS} (h:exW V r (put m x v) s Q):atK (asgK (asgW V (.nm x)) m (seqK (exW V r) Q)) s v:=h
theorem pool_spec {st:Store} {a d:Nat} {ns:List Int} {Q:AV→Store→Prop} (h:st[a]?=some (.scr ns)) (hl:ns.length≤63)
  (k:∀ o,SrcAt (st++[o]) st.length→Q (.ref st.length) (st++[o])):callP mprog (d + 1) 0 w__law_pool [.ref a,.int 0] st Q:=by
 refine call_df rfl rfl ?_
 have rest:∀ (c:Int) (m:Loc),get m w_cell=some (.int c)→get m w_k=some (.int 0)→exW (Vd d) (.seq (.asg (.nm w_big) (.bi .max (.cons (.bi .int (.cons (.nm w_cell) .nil)) (.cons (.bi .int (.cons (.bin .sub (.neg (.cst (.int 1))) (.nm w_cell)) .nil)) .nil)))) (.seq (.asg (.nm w_mixed) (.bin .mod (.bi .int (.cons (.bin .mul (.bin .add (.bin .add (.bin .add (.bin .mod (.bi .int (.cons (.nm w_big) .nil)) (.cst (.int 2147483629))) (.bin .mul (.bin .mul (.cst (.int 7919)) (.nm w_k)) (.nm w_k))) (.bin .mul (.cst (.int 31)) (.nm w_k))) (.cst (.int 17))) (.cst (.int 48271))) .nil)) (.cst (.int 2147483647)))) (.seq (.ret (.lst (.cons (.bin .mul (.nm w_big) (.bi .int (.cons (.cmp .ge (.nm w_big) (.bin .pow (.cst (.int 10)) (.cst (.int 18)))) .nil))) (.cons (.nm w_mixed) .nil)))) .skip))) m st fun fl _ s1=>Q (match fl with | .ret v=>v | _=>.none) s1:=by
  intro c m hc hk
  refine xI (hc) ?_
  refine xI (hc) ?_
  have big0:0≤max c (-1 - c):=by lia
  refine xI (get_put_eq) ?_
  refine And.intro (by decide) ?_
  refine xI (get_put_ne rfl hk) ?_
  refine And.intro (.inl (by decide)) ?_
  refine xI (get_put_ne rfl hk) ?_
  refine And.intro (.inl (by decide)) ?_
  refine xI (get_put_ne rfl hk) ?_
  refine And.intro (.inl (by decide)) ?_
  refine And.intro (.inr (by decide)) ?_
  refine And.intro (by decide) ?_
  refine xI (get_put_ne rfl get_put_eq) ?_
  refine xI (get_put_ne rfl get_put_eq) ?_
  refine And.intro rfl (And.intro rfl ?_)
  refine And.intro (.inr (by split <;> decide)) ?_
  refine xI (get_put_eq) ?_
  refine k_ret2 ?_
  refine k _ ⟨_,_,set_new,ite01 big0,Int.fmod_nonneg_of_pos _ (by decide),Int.fmod_lt_of_pos _ (by decide)⟩
 refine bi_len_scr h (by lia) ?_
 by_cases e:(0:Int) < ns.length
 ·refine lt_tt e ?_
  obtain ⟨x,r,rfl⟩:∃ x r,ns=x :: r:=by
   cases ns with
   | nil=>simp at e
   | cons x r=>exact ⟨x,r,rfl⟩
  refine xI (show objO st[a]? _ _ _=_ by rw [h]; rfl) ?_
  refine k_asg' ?_
  refine k_skip ?_
  exact rest x _ rfl rfl
 ·refine lt_ff e ?_
  refine k_itef ?_
  refine k_skip ?_
  exact rest 0 _ rfl rfl
end
end Mine
namespace Mine
section
set_option maxRecDepth 10000
theorem one_spec {st:Store} {a i d:Nat} {l:List AV} {Q:AV→Store→Prop} (h:SrcAt st a) (hi:st[i]?=some (.lst l)) (hn:i≠a) (hl0:l≠[]) (hl:l.length < 2 ^ 20)
  (k:∀ (x:AV) (o:AObj),x∈l→SrcAt (st.set a o) a→Q x (st.set a o)):callP mprog (d + 2) 0 w__law_one [.ref a,.ref i] st Q:=by
 have hp:0 < l.length:=List.length_pos_iff.mpr hl0
 refine call_df rfl rfl ?_
 refine bi_len hi (by lia) ?_
 refine take_spec h (by lia) (by lia) fun v o v0 v1 hs=>?_
 have hj:v.toNat < l.length:=by lia
 refine xI (sub_lst (v:=l[v.toNat]) (set_keep hi hn) ⟨v0,by lia⟩ (List.getElem?_eq_getElem hj)) ?_
 exact k _ o (List.getElem_mem hj) hs
theorem init_l {V:MEnv} {m:Loc} {st g:Store} {fs:List (Nat×AV)} {c x y j:Nat} {l:List AV} {rest:PS} {Q:Fl→Loc→Store→Prop} (hm:get m w_self=some (.ref (st.length + 1))) (hl:Nat.ble fs.length 999=true)
  (hy:get m y=some (.ref j)) (hj:st[j]?=some (.lst l)) (hll:l.length < 2 ^ 20)
  (k:exW V rest m (st++.ns (put fs x (.ref (st.length + (g.length + 2)))) :: .ins c st.length :: (g++[.lst l])) Q):exW V (.seq (.asg (.attr (.nm w_self) x) (.bi .list (.cons (.nm y) .nil))) rest) m (st++.ns fs :: .ins c st.length :: g) Q:=by
 refine xI (hy) ?_
 refine bi_list (src_lst (look_app hj) ⟨hll,?_⟩)
 refine xI (hm) ?_
 have e:(st++AObj.ns fs :: AObj.ins c st.length :: g)++[AObj.lst l]=st++AObj.ns fs :: AObj.ins c st.length :: (g++[AObj.lst l]):=by simp
 have e2:(st++AObj.ns fs :: AObj.ins c st.length :: g).length=st.length + (g.length + 2):=by simp
 rw [e,e2]
 refine xI (setA_ns get_mid2 get_mid (Nat.lt_succ_of_le (Nat.le_of_ble_eq_true hl))) ?_
 rw [set_mid]
 exact k
theorem code_new {st:Store} {d rl bl b1 il:Nat} {key te:AV} {ins rr:List AV} {args:List AV} {Q:AV→Store→Prop} (hr:st[rl]?=some (.lst rr)) (hrl:rr.length < 2 ^ 20) (h1:st[bl]?=some (.lst [.ref b1])) (h2:st[b1]?=some (.lst [.ref il,te])) (h3:st[il]?=some (.lst ins))
  (ha:args=[key,.int 2,.ref rl,.ref bl,.int 0,.int 1])
  (k:∀ g cd,CodeAt (st++g) cd ins te→Q (.ref cd) (st++g)):callP mprog (d + 2) 0 w_Code args st Q:=by
 subst ha
 refine call_cls rfl ?_
 refine call_df rfl rfl ?_
 refine init_v rfl rfl (fun _ _ q=>q) ?_
 refine init_v rfl rfl (fun _ _ q=>q) ?_
 refine init_l rfl rfl rfl hr hrl ?_
 refine init_v rfl rfl (fun _ _ q=>q) ?_
 refine init_v rfl rfl (fun _ _ q=>q) ?_
 refine init_v rfl rfl (fun _ _ q=>q) ?_
 refine init_v rfl rfl (fun _ _ q=>q) ?_
 refine k _ (st.length + 1) ⟨⟨st.length,bl,b1,il,_,app_at (k:=1),app_at (k:=0),rfl,rfl,rfl,look_app h1,look_app h2,look_app h3⟩⟩
theorem mul16 {st:Store} {i:Nat} {l:List AV} {K:AV→Store→Prop} (h:st[i]?=some (.lst l)) (hl:l.length≤1) (k:K (.ref st.length) (st++[.lst (List.replicate 16 l).flatten])):binF .mul st (.ref i) (.int 16) K:=by
 show objM st[i]? _ _ _
 rw [h]
 exact ⟨by decide,by decide,hl,k⟩
theorem code_spec {st:Store} {d il:Nat} {key te:AV} {ins:List AV} {Q:AV→Store→Prop} (h:st[il]?=some (.lst ins))
  (k:∀ g cd,CodeAt (st++g) cd ins te→Q (.ref cd) (st++g)):callP mprog (d + 3) 0 w__law_code [key,.ref il,te] st Q:=by
 refine call_df rfl rfl ?_
 refine mul16 set_new (by simp) ?_
 refine code_new (rl:=(st++[AObj.lst [c__law_T]]).length) (bl:=(st++[AObj.lst [c__law_T]]++[AObj.lst (List.replicate 16 [c__law_T]).flatten]++[AObj.lst [AV.ref il,te]]).length) (b1:=(st++[AObj.lst [c__law_T]]++[AObj.lst (List.replicate 16 [c__law_T]).flatten]).length) (il:=il) (te:=te) (ins:=ins)
  (look_app (look_app set_new)) (by decide) set_new (look_app set_new) (look_app (look_app (look_app (look_app h)))) rfl fun g cd C=>?_
 have:=k ([AObj.lst [c__law_T]]++[AObj.lst (List.replicate 16 [c__law_T]).flatten]++[AObj.lst [AV.ref il,te]]++[AObj.lst [AV.ref (st++[AObj.lst [c__law_T]]++[AObj.lst (List.replicate 16 [c__law_T]).flatten]).length]]++g) cd
 simp only [← List.append_assoc] at this
 exact this C
theorem setI_r {st:Store} {d:List (AV×AV)} {k v:AV} (hk:k.isD=true) (hl:Nat.ble d.length 999=true):setI (st++[.dct d]) (.ref st.length) k v=some (st++[.dct (kput d k v)]):=by
 rw [setI_dct hk set_new (by have:=Nat.le_of_ble_eq_true hl; lia),set_mid]
theorem k_ret1 {V:MEnv} {m:Loc} {s:Store} {x:AV} {Q:KS} (h:Q (.ret (.ref s.length)) m (s++[.lst [x]])):atK (consK (evW V .nil m) (lstK (retK m Q))) s x:=h
theorem loud_spec {st:Store} {d:Nat} {one way v:AV} {Q:AV→Store→Prop} (hw:way.isD=true)
  (hv:kget [(.str w_sent,.cons (.str w_send) (.cons c__law_CHANNEL (.cons one .nil))),(.str w_face,.cons (.str w_face) (.cons (.int 13) (.cons one (.cons c__law_T .nil)))),(.str w_global,iStore c__law_GLOBAL one),(.str w_outer,iStore (rg 0) one),
   (.str w_go,.cons (.str w_go) (.cons (fnN w_main_load) (.cons (pr one c__law_NIL) .nil))),(.str w_unknown,.cons (.str w_call) (.cons (.cons (.int 15) .nil) (.cons (pr (.str w_value) (rg 1)) (.cons (.cons one .nil) .nil)))),
   (.str w_deferred,.cons (.str w_defer) (.cons (fnN w_other_none) (.cons (.cons one .nil) .nil)))] way=some v)
  (k:∀ g a,(st++g)[a]?=some (.lst [v])→st.length≤a→Q (.ref a) (st++g)):callP mprog (d + 1) 0 w__law_loud [way,one] st Q:=by
 refine call_df rfl rfl ?_
 refine xI (setI_r rfl rfl) ?_
 refine And.intro rfl ?_
 refine xI (setI_r rfl rfl) ?_
 refine xI (setI_r rfl rfl) ?_
 refine xI (setI_r rfl rfl) ?_
 refine xI (setI_r rfl rfl) ?_
 refine xI (sub_dct hw set_new hv) ?_
 have key:∀ x:AObj,Q (.ref (st.length + 1)) (st++[x,AObj.lst [v]]):=fun x=>k [x,AObj.lst [v]] (st.length + 1) (app_at (k:=1)) (by lia)
 have key2:∀ x:AObj,Q (.ref (st++[x]).length) (st++[x]++[.lst [v]]):=fun x=>by
  rw [List.append_assoc,List.length_append]; exact key x
 refine k_ret1 ?_
 exact key2 _
end
end Mine
namespace Mine
section
set_option maxRecDepth 10000
theorem setI_a {st L:Store} {j:Nat} {d:List (AV×AV)} {k v:AV} (hk:k.isD=true) (h:L[j]?=some (.dct d)) (hl:Nat.ble d.length 999=true):setI (st++L) (.ref (st.length + j)) k v=some (st++L.set j (.dct (kput d k v))):=by
 rw [setI_dct hk (by rw [app_at]; exact h) (by have:=Nat.le_of_ble_eq_true hl; lia),app_set]
theorem subF_a {st L:Store} {j:Nat} {d:List (AV×AV)} {k v:AV} (hk:k.isD=true) (h:L[j]?=some (.dct d)) (hv:kget d k=some v):subF (st++L) (.ref (st.length + j)) k=some v:=by
 have:(st++L)[st.length + j]?=some (.dct d):=by rw [app_at]; exact h
 exact sub_dct hk this hv
theorem snoc2 {st L:Store} {o:AObj}:(st++L)++[o]=st++(L++[o]):=List.append_assoc _ _ _
theorem len2 {st L:Store}:(st++L).length=st.length + L.length:=List.length_append
theorem app4 {st:Store} {a b c x:AObj}:st++[a]++[b]++[c]++[x]=st++[a,b,c,x]:=by simp
theorem len_1 {st:Store} {a:AObj}:(st++[a]).length=st.length + 1:=by simp
theorem len_2 {st:Store} {a b:AObj}:(st++[a]++[b]).length=st.length + 2:=by simp
theorem len_3 {st:Store} {a b c:AObj}:(st++[a]++[b]++[c]).length=st.length + 3:=by simp
noncomputable def QV (one other way:AV) (l:List AV):Prop:=(way=.str w_idle∧l=[])∨(way=.str w_load∧l=[iTwo w_load 14 one])∨(way=.str w_clear∧l=[iStore one c__law_NIL])∨(way=.str w_read∧l=[iCall w_main_load one c__law_NIL]) ∨
 (way=.str w_same∧l=[iCall w_main_same one c__law_NIL])∨(way=.str w_put∧l=[iCall w_main_put one other])
theorem k_asgn {V:MEnv} {v:AV} {m:Loc} {s:Store} {x:Nat} {r:PS} {Q:KS} (h:exW V r (put m x v) s Q):asgW V (.nm x) v m s (nextK (seqK (exW V r) Q)):=h
theorem row_set {V:MEnv} {m:Loc} {s s':Store} {E:PE} {r:PS} {x key a:AV} {Q:KS} (hE:∀ K:KV,K x s→evW V E m s K) (hr:get m w_rows=some a) (hs:setI (s++[.lst [x]]) a key (.ref s.length)=some s') (h:exW V r m s' Q):exW V (.seq (.asg (.sub (.nm w_rows) (.cst key)) (.lst (.cons E .nil))) r) m s Q :=
 hE _ (xI hr (xI hs h))
theorem quiet_spec {st:Store} {d:Nat} {one other way:AV} {l:List AV} {Q:AV→Store→Prop} (hv:QV one other way l)
  (k:∀ g a,(st++g)[a]?=some (.lst l)→st.length≤a→Q (.ref a) (st++g)):callP mprog (d + 1) 0 w__law_quiet [way,one,other] st Q:=by
 refine call_df rfl rfl ?_
 show asgW _ _ (.ref (st++[AObj.lst []]++[AObj.lst [iTwo w_load 14 one]]++[AObj.lst [iStore one c__law_NIL]]).length) _ (st++[AObj.lst []]++[AObj.lst [iTwo w_load 14 one]]++[AObj.lst [iStore one c__law_NIL]]++[AObj.dct [(.str w_idle,.ref st.length),(.str w_load,.ref (st++[AObj.lst []]).length),(.str w_clear,.ref (st++[AObj.lst []]++[AObj.lst [iTwo w_load 14 one]]).length)]]) _
 rw [app4,len_3,len_2,len_1]
 show asgW _ _ (.ref (st.length + 3)) _ (st++[AObj.lst [],.lst [iTwo w_load 14 one],.lst [iStore one c__law_NIL],.dct [(.str w_idle,.ref st.length),(.str w_load,.ref (st.length + 1)),(.str w_clear,.ref (st.length + 2))]]) _
 refine k_asgn ?_
 refine row_set (fun _ q=>q) rfl (by rw [snoc2,len2]; exact setI_a rfl rfl rfl) ?_
 refine row_set (fun _ q=>q) rfl (by rw [snoc2,len2]; exact setI_a rfl rfl rfl) ?_
 refine row_set (fun _ q=>q) rfl (by rw [snoc2,len2]; exact setI_a rfl rfl rfl) ?_
 rcases hv with ⟨rfl,rfl⟩ | ⟨rfl,rfl⟩ | ⟨rfl,rfl⟩ | ⟨rfl,rfl⟩ | ⟨rfl,rfl⟩ | ⟨rfl,rfl⟩
 ·refine xI (subF_a rfl rfl rfl) ?_
  exact k _ _ (app_at (k:=0)) (by lia)
 ·refine xI (subF_a rfl rfl rfl) ?_
  exact k _ _ (app_at (k:=1)) (by lia)
 ·refine xI (subF_a rfl rfl rfl) ?_
  exact k _ _ (app_at (k:=2)) (by lia)
 ·refine xI (subF_a rfl rfl rfl) ?_
  exact k _ _ (app_at (k:=4)) (by lia)
 ·refine xI (subF_a rfl rfl rfl) ?_
  exact k _ _ (app_at (k:=5)) (by lia)
 ·refine xI (subF_a rfl rfl rfl) ?_
  exact k _ _ (app_at (k:=6)) (by lia)
end
end Mine
namespace Mine
section
set_option maxRecDepth 10000
noncomputable def Keep2 (st st':Store):Prop:=∀ (a:Nat) (o:AObj),st[a]?=some o→(∀ d,o≠.dct d)→st'[a]?=some o
theorem Keep2.trans {a b c:Store} (x:Keep2 a b) (y:Keep2 b c):Keep2 a c:=fun i o e n=>y i o (x i o e n) n
theorem Keep2.app (st g:Store):Keep2 st (st++g):=fun a o e _=>look_app e
theorem Keep2.set {st:Store} {i:Nat} {d d':List (AV×AV)} (h:st[i]?=some (.dct d)):Keep2 st (st.set i (.dct d')):=fun a o e n=>set_keep e fun z=>n d (by subst z; rw [h] at e; exact (Option.some.inj e).symm)
theorem CodeAt.keep2 {st st':Store} {cd:Nat} {ins:List AV} {te:AV} (h:CodeAt st cd ins te) (hk:Keep2 st st'):CodeAt st' cd ins te:=by
 obtain ⟨cn,bl,b1,il,fs,k1,k2,k3,k4,k5,k6,k7,k8⟩:=h.ex
 exact ⟨cn,bl,b1,il,fs,hk _ _ k1 (by simp),hk _ _ k2 (by simp),k3,k4,k5,hk _ _ k6 (by simp),hk _ _ k7 (by simp),hk _ _ k8 (by simp)⟩
theorem set_self {st:Store} {i:Nat} {o o':AObj} (h:st[i]?=some o):(st.set i o')[i]?=some o':=List.getElem?_set_self (List.getElem?_eq_some_iff.mp h).1
theorem helpers_spec {st:Store} {d:Nat} {Q:AV→Store→Prop}
  (k:∀ st' cl cs cp,(∀ (a:Nat) (o:AObj),st[a]?=some o→st'[a]?=some o)→st'[st.length]?=some (.dct [(kL,.ref cl),(kS,.ref cs),(kP,.ref cp)])→CodeAt st' cl [iTwo w_load 2 (rg 0)] t_nil→CodeAt st' cs [iTwo w_move 2 (rg 0)] (pr (.str w_return) (AV.ofL [rg 2]))→CodeAt st' cp [iStore (rg 0) (rg 1)] t_nil→Q (.ref st.length) st') :
  callP mprog (d + 4) 0 w__law_helpers [] st Q:=by
 refine call_df rfl rfl ?_
 refine And.intro rfl ?_
 have h0:(st++[AObj.dct []])[st.length]?=some (.dct []):=set_new
 refine code_spec (ins:=[iTwo w_load 2 (rg 0)]) (te:=t_nil) set_new fun g1 cl C1=>?_
 have h1:=look_app (L:=g1) (look_app (L:=[AObj.lst [iTwo w_load 2 (rg 0)]]) h0)
 refine xI (setI_dct rfl h1 (by decide)) ?_
 have o1:∀ (a:Nat) (o:AObj),st[a]?=some o→((st++[AObj.dct []]++[AObj.lst [iTwo w_load 2 (rg 0)]]++g1).set st.length (.dct (kput [] kL (.ref cl))))[a]?=some o:=fun a o e=>set_keep (look_app (look_app (look_app e))) (by have:=(List.getElem?_eq_some_iff.mp e).1; lia)
 have h1':=set_self (o':=AObj.dct (kput [] kL (.ref cl))) h1
 have C1':=C1.keep2 (Keep2.set (d':=kput [] kL (.ref cl)) h1)
 show exW _ _ _ ((st++[AObj.dct []]++[AObj.lst [iTwo w_load 2 (rg 0)]]++g1).set st.length (.dct (kput [] kL (.ref cl)))) _
 generalize (st++[AObj.dct []]++[AObj.lst [iTwo w_load 2 (rg 0)]]++g1).set st.length (.dct (kput [] kL (.ref cl)))=s1 at *
 refine code_spec (ins:=[iTwo w_move 2 (rg 0)]) (te:=pr (.str w_return) (AV.ofL [rg 2])) set_new fun g2 cs C2=>?_
 have h2:=look_app (L:=g2) (look_app (L:=[AObj.lst [iTwo w_move 2 (rg 0)]]) h1')
 refine xI (setI_dct rfl h2 (by simp [kput_n,kput_c])) ?_
 have o2:∀ (a:Nat) (o:AObj),st[a]?=some o→((s1++[AObj.lst [iTwo w_move 2 (rg 0)]]++g2).set st.length (.dct (kput (kput [] kL (.ref cl)) kS (.ref cs))))[a]?=some o:=fun a o e=>set_keep (look_app (look_app (o1 a o e))) (by have:=(List.getElem?_eq_some_iff.mp e).1; lia)
 have h2':=set_self (o':=AObj.dct (kput (kput [] kL (.ref cl)) kS (.ref cs))) h2
 have K2:Keep2 s1 ((s1++[AObj.lst [iTwo w_move 2 (rg 0)]]++g2).set st.length (.dct (kput (kput [] kL (.ref cl)) kS (.ref cs)))):=((Keep2.app _ _).trans (Keep2.app _ _)).trans (Keep2.set h2)
 have C1'':=C1'.keep2 K2
 have C2':=C2.keep2 (Keep2.set (d':=kput (kput [] kL (.ref cl)) kS (.ref cs)) h2)
 show exW _ _ _ ((s1++[AObj.lst [iTwo w_move 2 (rg 0)]]++g2).set st.length (.dct (kput (kput [] kL (.ref cl)) kS (.ref cs)))) _
 generalize (s1++[AObj.lst [iTwo w_move 2 (rg 0)]]++g2).set st.length (.dct (kput (kput [] kL (.ref cl)) kS (.ref cs)))=s2 at *
 refine code_spec (ins:=[iStore (rg 0) (rg 1)]) (te:=t_nil) set_new fun g3 cp C3=>?_
 have h3:=look_app (L:=g3) (look_app (L:=[AObj.lst [iStore (rg 0) (rg 1)]]) h2')
 refine xI (setI_dct rfl h3 (by show (2:Nat) < _; decide)) ?_
 have K3:Keep2 s2 ((s2++[AObj.lst [iStore (rg 0) (rg 1)]]++g3).set st.length (.dct (kput (kput (kput [] kL (.ref cl)) kS (.ref cs)) kP (.ref cp)))):=((Keep2.app _ _).trans (Keep2.app _ _)).trans (Keep2.set h3)
 exact k _ cl cs cp (fun a o e=>set_keep (look_app (look_app (o2 a o e))) (by have:=(List.getElem?_eq_some_iff.mp e).1; lia)) (set_self h3) (C1''.keep2 K3) (C2'.keep2 K3) (C3.keep2 (Keep2.set h3))
end
end Mine
namespace Mine
section
set_option maxRecDepth 10000
@[reducible] noncomputable def iN (n:Nat):AV:=.int (n:Int)
@[reducible] noncomputable def ip (p:Nat×Nat):AV:=pr (iN p.1) (iN p.2)
theorem iN_inj {a b:Nat} (h:iN a=iN b):a=b:=by injection h with h; lia
theorem ip_inj {a b:Nat×Nat} (h:ip a=ip b):a=b:=by
 injection h with h1 h2; injection h2 with h2 _
 exact Prod.ext (iN_inj h1) (iN_inj h2)
theorem mem_iN {l:List Nat} {n:Nat}:iN n∈l.map iN↔n∈l:=by
 simp only [List.mem_map]
 exact ⟨fun ⟨a,h,e⟩=>iN_inj e ▸ h,fun h=>⟨n,h,rfl⟩⟩
theorem mem_ip {l:List (Nat×Nat)} {p:Nat×Nat}:ip p∈l.map ip↔p∈l:=by
 simp only [List.mem_map]
 exact ⟨fun ⟨a,h,e⟩=>ip_inj e ▸ h,fun h=>⟨p,h,rfl⟩⟩
theorem allD_iN {l:List Nat}:allD (l.map iN)=true:=by simp only [allD,List.all_map]; exact List.all_eq_true.mpr fun _ _=>rfl
theorem allD_ip {l:List (Nat×Nat)}:allD (l.map ip)=true:=by simp only [allD,List.all_map]; exact List.all_eq_true.mpr fun _ _=>rfl
theorem eq_int {a b:Nat}:decide (iN a=iN b)=decide (a=b):=by
 by_cases e:a=b
 ·subst e; simp
 ·rw [decide_eq_false e,decide_eq_false fun z=>e (iN_inj z)]
theorem lt7 {l:List Nat} (hn:l.Nodup) (h:∀ x∈l,x < 7):l.length≤7:=by
 have:=nodup_len (m:=List.range 7) hn fun x hx=>List.mem_range.mpr (h x hx)
 simpa using this
theorem led_spec {st:Store} {d i a:Nat} {ps:List (Nat×Nat)} {Q:AV→Store→Prop} (hi:st[i]?=some (.lst (ps.map ip))) (ha:a < 7) (hp:∀ p∈ps,p.1 < 7)
  (k:∀ (g:Store) (r:Nat) (l:List Nat),(st++g)[r]?=some (.lst (l.map iN))→st.length≤r→(∀ x,x∈l↔Rea (fun x h=>(x,h)∈ps) a x)→l.Nodup→Q (.ref r) (st++g)):callP mprog (d + 1) 0 w__law_led_to [.ref i,iN a] st Q:=by
 have il:=(List.getElem?_eq_some_iff.mp hi).1
 refine call_df rfl rfl ?_
 refine And.intro rfl ?_
 have big:(st++[AObj.lst [iN a]]).length=st.length + 1:=by simp
 rw [big,List.append_assoc]
 let J (t:Bool):Nat→Loc→Store→Prop:=fun n m s=>(get m w_pairs=some (.ref i)∧get m w_found=some (.ref st.length)∧get m w_left=some (.ref (st.length + 1)))∧Ex3 fun (l w:List Nat) (g:Store)=>And9 (s=st++.lst (l.map iN) :: .lst (w.map iN) :: g) l.Nodup (∀ x∈l,x < 7) (a∈l) (∀ x∈w,x∈l) (∀ y∈l,y∈w∨∀ x,(x,y)∈ps→x∈l) (∀ x∈l,Rea (fun x h=>(x,h)∈ps) a x) (n=2 * (8 - l.length) + w.length∧n≤20) (t=true→w≠[])
 let JF:Loc→Store→Prop:=fun m s=>get m w_found=some (.ref st.length)∧Ex2 fun (l:List Nat) (g:Store)=>And5 (s=st++.lst (l.map iN) :: g) l.Nodup (a∈l) (∀ y∈l,∀ x,(x,y)∈ps→x∈l) (∀ x∈l,Rea (fun x h=>(x,h)∈ps) a x)
 refine while_inv (J false) (J true) JF ?_ ?_ ?_ (n:=15) ?_
 ·intro n m _ hI K kt kf
  obtain ⟨⟨m1,m2,m3⟩,l,w,g,rfl,h1,h2,h3,h4,h5,h6,h7,_⟩:=hI
  refine xI (m3) ?_
  refine cmp_ne (ne_nil (l:=w.map iN) (by rw [List.getElem?_append_left (by simp)]; exact get_mid2) set_new ?_)
  by_cases ew:w=[]
  ·subst ew
   exact kf _ ⟨m2,l,.lst [] :: g++[.lst []],by simp,h1,h3,fun y hy=>(h5 y hy).resolve_left (by simp),h6⟩
  ·rw [show isNil (w.map iN)=false from by cases w <;> first | exact absurd rfl ew | rfl]
   exact kt _ ⟨⟨m1,m2,m3⟩,l,w,g++[.lst []],by simp,h1,h2,h3,h4,h5,h6,h7,fun _=>ew⟩
 ·intro n m _ hI Q kk
  obtain ⟨⟨m1,m2,m3⟩,l,w,g,rfl,h1,h2,h3,h4,h5,h6,h7,ew⟩:=hI
  obtain ⟨xs,y,rfl⟩:Ex2 fun xs y=>w=xs++[y]:=by
   rcases List.eq_nil_or_concat w with e | ⟨xs,x,e⟩
   ·exact absurd e (ew rfl)
   ·exact ⟨xs,x,by rw [e,List.concat_eq_append]⟩
  have l7:=lt7 h1 h2
  have wl:xs.length < 20:=by have:=h7.1; simp at this; lia
  refine xI (m3) ?_
  refine m_lst get_mid2 ⟨rfl,?_⟩
  refine lst_pop (xs:=xs.map iN) (x:=iN y) (by rw [get_mid2]; simp) (by simp; lia) ?_
  rw [set_mid2]
  refine xI (get_put_ne rfl m1) ?_
  refine src_lst (look_app hi) ?_
  refine for_inv (fun done m' s=>(And4 (get m' w_pairs=some (.ref i)) (get m' w_found=some (.ref st.length)) (get m' w_left=some (.ref (st.length + 1))) (get m' w_here=some (iN y)))∧Ex3 fun (d1 d2:List (Nat×Nat)) (nw:List Nat)=>And6 (ps=d1++d2) (done=d1.map ip) (s=st++.lst ((l++nw).map iN) :: .lst ((xs++nw).map iN) :: g) ((l++nw).Nodup) (∀ z∈nw,(z,y)∈ps) (∀ p∈d1,p.2=y→p.1∈l++nw)) ?_ ?_ ⟨⟨get_put_ne rfl m1,get_put_ne rfl m2,get_put_ne rfl m3,get_put_eq⟩,[],ps,[],rfl,rfl,by simp,by simpa using h1,by simp,by simp⟩ ?_
  ·rintro done m' _ ⟨_,d1,d2,nw,_,_,rfl,_⟩
   show (st++_)[i]?=(st++_)[i]?
   rw [look_app hi,look_app hi]
  ·intro done x rest e m' _ hI Q' kk'
   obtain ⟨⟨q1,q2,q3,q4⟩,d1,d2,nw,rfl,rfl,rfl,e4,e5,e6⟩:=hI
   cases d2 with
   | nil=>simp at e
   | cons p d2 =>
    have hx:x=ip p:=by simp at e; exact e.1.symm
    subst hx
    have nwl:nw.length≤7:=by
     have:=lt7 (List.nodup_append.mp e4).2.1 fun z hz=>hp _ (e5 z hz); exact this
    have al7:∀ z∈l++nw,z < 7:=fun z hz=>by simp at hz; exact hz.elim (h2 z) fun q=>hp _ (e5 z q)
    have fin:∀ s,s=st++.lst ((l++nw).map iN) :: .lst ((xs++nw).map iN) :: g→(p.2=y→p.1∈l++nw)→Q' .next (put (put m' w_held (iN p.1)) w_holder (iN p.2)) s:=fun s es hh =>
     (kk' _ _ ⟨⟨get_put_ne rfl (get_put_ne rfl q1),get_put_ne rfl (get_put_ne rfl q2),get_put_ne rfl (get_put_ne rfl q3),get_put_ne rfl (get_put_ne rfl q4)⟩,d1++[p],d2,nw,by simp,by simp,es,e4,e5,fun p' hp'=>by
      simp at hp'
      rcases hp' with z | rfl
      ·exact e6 p' z
      ·exact hh⟩).1
    refine And.intro rfl ?_
    refine xI (get_put_eq) ?_
    refine xI (get_put_ne rfl (get_put_ne rfl q4)) ?_
    refine And.intro rfl (And.intro rfl ?_)
    rw [eq_int]
    by_cases ey:p.2=y
    ·simp only [ey,decide_true]
     refine xI (get_put_ne rfl get_put_eq) ?_
     refine xI (get_put_ne rfl (get_put_ne rfl q2)) ?_
     refine cmp_notin (memF_lst rfl get_mid allD_iN ?_)
     rw [show decide (iN p.1∈(l++nw).map iN)=decide (p.1∈l++nw) from by simp only [mem_iN]]
     by_cases em:p.1∈l++nw
     ·simp only [em,decide_true]
      rw [← ey]
      exact fin _ rfl fun _=>em
     ·simp only [em,decide_false]
      refine xI (get_put_ne rfl (get_put_ne rfl q2)) ?_
      refine m_lst get_mid ⟨rfl,?_⟩
      refine xI (get_put_ne rfl get_put_eq) ?_
      refine lst_append get_mid (by simp; lia) ?_
      rw [set_mid]
      refine xI (get_put_ne rfl (get_put_ne rfl q3)) ?_
      refine m_lst get_mid2 ⟨rfl,?_⟩
      refine xI (get_put_ne rfl get_put_eq) ?_
      refine lst_append get_mid2 (by simp; lia) ?_
      rw [set_mid2]
      refine (kk' _ _ ⟨⟨get_put_ne rfl (get_put_ne rfl q1),get_put_ne rfl (get_put_ne rfl q2),get_put_ne rfl (get_put_ne rfl q3),get_put_ne rfl (get_put_ne rfl q4)⟩,d1++[p],d2,nw++[p.1],by simp,by simp,by simp,?_,fun z hz=>?_,fun p' hp' ep=>?_⟩).1
      ·rw [← List.append_assoc,List.nodup_append]
       exact ⟨e4,by simp,fun a ha b hb=>by simp at hb; subst hb; rintro rfl; exact em ha⟩
      ·simp at hz
       rcases hz with hz | rfl
       ·exact e5 z hz
       ·rw [← ey]; simp
      ·simp at hp'
       rcases hp' with z | rfl
       ·have:=e6 p' z ep; rw [← List.append_assoc]; simp only [List.mem_append] at this ⊢; exact .inl this
       ·simp
    ·simp only [ey,decide_false]
     exact fin _ rfl fun z=>absurd z ey
  ·rintro m' _ ⟨⟨q1,q2,q3,q4⟩,d1,d2,nw,e1,e2,rfl,e4,e5,e6⟩
   have:d2=[]:=by
    have:=congrArg List.length e2
    rw [e1] at this; simp at this; exact this
   subst this
   have e1:ps=d1:=by simpa using e1
   subst e1
   have al7:∀ z∈l++nw,z < 7:=fun z hz=>by simp at hz; exact hz.elim (h2 z) fun q=>hp _ (e5 z q)
   have al:=lt7 e4 al7
   have hn:=h7.1
   have hn2:=h7.2
   simp at hn al
   refine (kk (2 * (8 - (l++nw).length) + (xs++nw).length) _ _ (by simp; lia) ⟨⟨q1,q2,q3⟩,l++nw,xs++nw,g,rfl,e4,al7,by simp [h3],fun x hx=>?_,fun z hz=>?_,fun x hx=>?_,⟨rfl,by simp; lia⟩,by simp⟩).1
   ·simp at hx ⊢
    rcases hx with hx | hx
    ·exact .inl (h4 x (by simp [hx]))
    ·exact .inr hx
   ·simp at hz
    rcases hz with hz | hz
    ·rcases h5 z hz with q | q
     ·simp at q
      rcases q with q | rfl
      ·exact .inl (by simp [q])
      ·exact .inr fun x hx=>e6 (x,z) hx rfl
     ·exact .inr fun x hx=>by simp; exact .inl (q x hx)
    ·exact .inl (by simp [hz])
   ·simp at hx
    rcases hx with hx | hx
    ·exact h6 x hx
    ·exact .step (h6 y (h4 y (by simp))) (e5 x hx)
 ·rintro m _ ⟨m2,l,g,rfl,h1,h3,h5,h6⟩
  refine xI (m2) ?_
  exact k _ _ l get_mid (Nat.le_refl _) (fun x=>⟨h6 x,fun r=>by
   induction r with
   | refl=>exact h3
   | step _ b ih=>exact h5 _ ih _ b⟩) h1
 ·exact ⟨⟨rfl,rfl,rfl⟩,[a],[a],[],rfl,by simp,by simpa using ha,by simp,by simp,by simp,fun x hx=>by simp at hx; subst hx; exact .refl _,⟨rfl,by decide⟩,by simp⟩
end
end Mine
namespace Mine
section
set_option maxRecDepth 10000
noncomputable def LClo (ps:List (Nat×Nat)) (l:List Nat):Prop:=∀ x h,(x,h)∈ps→h∈l→x∈l
theorem rea_in {ps:List (Nat×Nat)} {l:List Nat} (cl:LClo ps l) {a x:Nat} (ha:a∈l) (r:Rea (fun x h=>(x,h)∈ps) a x):x∈l:=by
 induction r with
 | refl=>exact ha
 | step _ b ih=>exact cl _ _ b ih
theorem let_spec {st:Store} {d i j many:Nat} {out:List Nat} {ps:List (Nat×Nat)} {Q:AV→Store→Prop} (hi:st[i]?=some (.lst (out.map iN))) (hj:st[j]?=some (.lst (ps.map ip))) (ho:∀ x∈out,x < many) (hp:∀ p∈ps,p.1 < many) (hm:many≤7) (hon:out.Nodup)
  (k:∀ (g:Store) (r:Nat) (l:List Nat),(st++g)[r]?=some (.lst (l.map iN))→st.length≤r→(∀ x,x∈l↔∃ o∈out,Rea (fun x h=>(x,h)∈ps) o x)→Q (.ref r) (st++g)):callP mprog (d + 1) 0 w__law_let_out [.ref i,.ref j,iN many] st Q:=by
 refine call_df rfl rfl ?_
 refine bi_list (src_lst hi ⟨by have:=lt7 hon (fun x hx=>by have:=ho x hx; lia); simp; lia,?_⟩)
 refine And.intro ⟨by lia,by lia⟩ ?_
 have bnd:∀ {l:List Nat},l.Nodup→(∀ x∈l,x < many)→l.length≤many:=fun {l} hn h=>by
  have:=nodup_len (m:=List.range many) hn fun x hx=>List.mem_range.mpr (h x hx)
  simpa using this
 have rl:(rangeL 0 (many:Int)).length=many:=by simp [rangeL]
 refine for_inv (fun done m s=>(get m w_pairs=some (.ref j)∧get m w_found=some (.ref st.length))∧∃ l:List Nat,And6 (s=st++[.lst (l.map iN)]) l.Nodup (∀ x∈l,x < many) (∀ x∈out,x∈l) (∀ x∈l,∃ o∈out,Rea (fun x h=>(x,h)∈ps) o x) (LClo ps l∨done.length≤l.length)) ?_ ?_ ⟨⟨rfl,rfl⟩,out,rfl,hon,ho,fun x hx=>hx,fun x hx=>⟨x,hx,.refl _⟩,.inr (by simp)⟩ ?_
 ·exact fun _ _ _ _=>trivial
 ·intro done x rest e m _ hI Q' kk
  obtain ⟨⟨m1,m2⟩,l,rfl,h1,h2,h3,h4,h5⟩:=hI
  refine xI (get_put_ne rfl m1) ?_
  refine src_lst (look_app hj) ?_
  refine for_inv (fun dn m' s=>(get m' w_pairs=some (.ref j)∧get m' w_found=some (.ref st.length))∧Ex3 fun (d1 d2:List (Nat×Nat)) (nw:List Nat)=>And8 (ps=d1++d2) (dn=d1.map ip) (s=st++[.lst ((l++nw).map iN)]) ((l++nw).Nodup) (∀ x∈l++nw,x < many) (∀ x∈l++nw,∃ o∈out,Rea (fun x h=>(x,h)∈ps) o x) (∀ p∈d1,p.2∈l→p.1∈l++nw) (LClo ps l→nw=[])) ?_ ?_ ⟨⟨get_put_ne rfl m1,get_put_ne rfl m2⟩,[],ps,[],rfl,rfl,by simp,by simpa using h1,by simpa using h2,by simpa using h4,by simp,by simp⟩ ?_
  ·rintro dn m' _ ⟨_,d1,d2,nw,_,_,rfl,_⟩
   show (st++_)[j]?=(st++_)[j]?
   rw [look_app hj,look_app hj]
  ·intro dn y rst e' m' _ hI Q2 kk'
   obtain ⟨⟨q1,q2⟩,d1,d2,nw,rfl,rfl,rfl,e4,e5,e6,e7,e8⟩:=hI
   cases d2 with
   | nil=>simp at e'
   | cons p d2 =>
    have hy:y=ip p:=by simp at e'; exact e'.1.symm
    subst hy
    have lb:=bnd e4 e5
    have q1':∀ v w,get (put (put m' w_held v) w_holder w) w_pairs=some (.ref j):=fun v w=>get_put_ne rfl (get_put_ne rfl q1)
    have q2':∀ v w,get (put (put m' w_held v) w_holder w) w_found=some (.ref st.length):=fun v w=>get_put_ne rfl (get_put_ne rfl q2)
    have fin:(p.2∈l→p.1∈l++nw)→Q2 .next (put (put m' w_held (iN p.1)) w_holder (iN p.2)) (st++[.lst ((l++nw).map iN)]):=fun hh=>(kk' _ _ ⟨⟨q1' _ _,q2' _ _⟩,d1++[p],d2,nw,by simp,by simp,rfl,e4,e5,e6,fun p' hp'=>by
     simp at hp'
     rcases hp' with z | rfl
     ·exact e7 p' z
     ·exact hh,e8⟩).1
    refine And.intro rfl ?_
    refine xI (get_put_eq) ?_
    refine xI (q2' _ _) ?_
    refine cmp_isin (memF_lst rfl set_new allD_iN ?_)
    rw [show decide (iN p.2∈(l++nw).map iN)=decide (p.2∈l++nw) from by simp only [mem_iN]]
    by_cases em:p.2∈l++nw
    ·simp only [em,decide_true]
     refine xI (get_put_ne rfl get_put_eq) ?_
     refine xI (q2' _ _) ?_
     refine cmp_notin (memF_lst rfl set_new allD_iN ?_)
     rw [show decide (iN p.1∈(l++nw).map iN)=decide (p.1∈l++nw) from by simp only [mem_iN]]
     by_cases en:p.1∈l++nw
     ·simp only [en,decide_true]
      exact fin fun _=>en
     ·simp only [en,decide_false]
      refine xI (q2' _ _) ?_
      refine m_lst set_new ⟨rfl,?_⟩
      refine xI (get_put_ne rfl get_put_eq) ?_
      refine lst_append set_new (by simp at lb ⊢; lia) ?_
      rw [set_mid]
      have hpp:p∈d1++p :: d2:=by simp
      refine (kk' _ _ ⟨⟨q1' _ _,q2' _ _⟩,d1++[p],d2,nw++[p.1],by simp,by simp,by simp,?_,fun x hx=>?_,fun x hx=>?_,fun p' hp' z=>?_,fun cl=>?_⟩).1
      ·rw [← List.append_assoc,List.nodup_append]
       exact ⟨e4,by simp,fun a ha b hb=>by simp at hb; subst hb; rintro rfl; exact en ha⟩
      ·rw [← List.append_assoc] at hx
       rcases List.mem_append.mp hx with z | z
       ·exact e5 x z
       ·simp at z; rw [z]; exact hp p hpp
      ·rw [← List.append_assoc] at hx
       rcases List.mem_append.mp hx with z | z
       ·exact e6 x z
       ·simp at z; subst z
        obtain ⟨o,o1,o2⟩:=e6 _ em
        exact ⟨o,o1,.step o2 hpp⟩
      ·rw [← List.append_assoc]
       simp at hp'
       rcases hp' with q | rfl
       ·exact List.mem_append.mpr (.inl (e7 p' q z))
       ·simp
      ·have:=e8 cl; subst this
       simp at em en
       exact absurd (cl p.1 p.2 hpp em) en
    ·simp only [em,decide_false]
     exact fin fun z=>absurd (List.mem_append.mpr (.inl z)) em
  ·rintro m' _ ⟨⟨q1,q2⟩,d1,d2,nw,e1,e2,rfl,e4,e5,e6,e7,e8⟩
   have:d2=[]:=by
    have:=congrArg List.length e2
    rw [e1] at this; simp at this; exact this
   subst this
   have e1:ps=d1:=by simpa using e1
   subst e1
   refine (kk _ _ ⟨⟨q1,q2⟩,l++nw,rfl,e4,e5,fun x hx=>List.mem_append.mpr (.inl (h3 x hx)),e6,?_⟩).1
   by_cases en:nw=[]
   ·subst en
    exact .inl fun x h hx hh=>by have:=e7 (x,h) hx (by simpa using hh); simpa using this
   ·rcases h5 with c | c
    ·exact absurd (e8 c) en
    ·refine .inr ?_
     have:1≤nw.length:=List.length_pos_iff.mpr en
     simp; lia
 ·rintro m _ ⟨⟨m1,m2⟩,l,rfl,h1,h2,h3,h4,h5⟩
  refine xI (m2) ?_
  have cl:LClo ps l:=by
   rcases h5 with c | c
   ·exact c
   ·rw [rl] at c
    intro x h hx _
    have xm:=hp _ hx
    by_cases z:x∈l
    ·exact z
    ·have:=bnd (l:=x :: l) (List.nodup_cons.mpr ⟨z,h1⟩) (fun y hy=>by simp at hy; rcases hy with rfl | hy; exact xm; exact h2 y hy)
     simp at this; lia
  refine k [.lst (l.map iN)] st.length l set_new (Nat.le_refl _) fun x=>⟨h4 x,fun ⟨o,o1,o2⟩=>rea_in cl (h3 o o1) o2⟩
end
end Mine
namespace Mine
section
set_option maxRecDepth 10000
@[reducible] noncomputable def Rl (l:List (Nat×Nat)):Nat→Nat→Prop:=Rea fun x h=>(x,h)∈l
theorem lt49 {l:List (Nat×Nat)} (hn:l.Nodup) (h:∀ p∈l,p.1 < 7∧p.2 < 7):l.length≤49:=by
 have:=nodup_len (m:=(List.range 7).flatMap fun a=>(List.range 7).map fun b=>(a,b)) hn fun p hp=>by
  simp only [List.mem_flatMap,List.mem_map,List.mem_range]
  exact ⟨p.1,(h p hp).1,p.2,(h p hp).2,rfl⟩
 exact Nat.le_trans this (by decide)
structure Gr (S:Nat→Nat→Prop) (l l':List (Nat×Nat)):Prop where
 pre:∃ nw,l'=l++nw
 nd:l'.Nodup
 lt:∀ p∈l',p.1 < 7∧p.2 < 7
 cc:∀ p∈l',S p.1 p.2
theorem Gr.add {S:Nat→Nat→Prop} {l l':List (Nat×Nat)} (g:Gr S l l') {p:Nat×Nat} (h:p ∉ l') (h1:p.1 < 7∧p.2 < 7) (h2:S p.1 p.2):Gr S l (l'++[p]):=by
 obtain ⟨nw,e⟩:=g.pre
 refine ⟨⟨nw++[p],by rw [e,List.append_assoc]⟩,?_,fun q hq=>?_,fun q hq=>?_⟩
 ·rw [List.nodup_append]; exact ⟨g.nd,by simp,fun a ha b hb=>by simp at hb; subst hb; rintro rfl; exact h ha⟩
 ·rcases List.mem_append.mp hq with z | z
  ·exact g.lt q z
  ·simp at z; rw [z]; exact h1
 ·rcases List.mem_append.mp hq with z | z
  ·exact g.cc q z
  ·simp at z; rw [z]; exact h2
theorem Gr.sub {S:Nat→Nat→Prop} {l l':List (Nat×Nat)} (g:Gr S l l') {p:Nat×Nat} (h:p∈l):p∈l':=by obtain ⟨nw,e⟩:=g.pre; rw [e]; exact List.mem_append.mpr (.inl h)
theorem Gr.trans {S:Nat→Nat→Prop} {l l' l'':List (Nat×Nat)} (g:Gr S l l') (h:Gr S l' l''):Gr S l l'':=by
 obtain ⟨nw,e⟩:=g.pre; obtain ⟨nw',e'⟩:=h.pre
 exact ⟨⟨nw++nw',by rw [e',e,List.append_assoc]⟩,h.nd,h.lt,h.cc⟩
noncomputable def b_pair:PS:=(.seq (.forr (.nm w_one) .val (.nm w_insides) (.seq (.forr (.nm w_other) .val (.nm w_outsides) (.seq (.ite (.cmp .notin (.tup (.cons (.nm w_one) (.cons (.nm w_other) .nil))) (.nm w_found)) (.seq (.exp (.meth (.nm w_found) w_append (.cons (.tup (.cons (.nm w_one) (.cons (.nm w_other) .nil))) .nil))) .skip) .skip) .skip)) .skip)) .skip)
theorem pair_loops {st g:Store} {d ia io:Nat} {l:List (Nat×Nat)} {li lo:List Nat} {S:Nat→Nat→Prop} {m:Loc} {Q:Fl→Loc→Store→Prop} (G0:Gr S l l)
  (m1:get m w_insides=some (.ref ia)) (m2:get m w_outsides=some (.ref io)) (m3:get m w_found=some (.ref st.length)) (na:ia≠st.length) (no:io≠st.length)
  (h1:(st++AObj.lst (l.map ip) :: g)[ia]?=some (.lst (li.map iN))) (h2:(st++AObj.lst (l.map ip) :: g)[io]?=some (.lst (lo.map iN))) (hS:∀ x∈li,∀ y∈lo,S x y) (hx:∀ x∈li,x < 7) (hy:∀ y∈lo,y < 7)
  (k:∀ m' l',get m' w_puts=get m w_puts→get m' w_many=get m w_many→get m' w_found=some (.ref st.length)→Gr S l l'→(∀ x∈li,∀ y∈lo,(x,y)∈l')→Q .next m' (st++AObj.lst (l'.map ip) :: g)):exW (Vd d) b_pair m (st++AObj.lst (l.map ip) :: g) Q:=by
 refine xI m1 ?_
 refine src_lst h1 ?_
 have kp:∀ {a:Nat} {l':List (Nat×Nat)},a≠st.length→(st++AObj.lst (l'.map ip) :: g)[a]?=(st++AObj.lst (l.map ip) :: g)[a]?:=fun h=>mid_ne h
 refine for_inv (fun done m' s=>(And5 (get m' w_insides=some (.ref ia)) (get m' w_outsides=some (.ref io)) (get m' w_found=some (.ref st.length)) (get m' w_puts=get m w_puts) (get m' w_many=get m w_many))∧Ex3 fun (d1 d2:List Nat) (l':List (Nat×Nat))=>And5 (li=d1++d2) (done=d1.map iN) (s=st++AObj.lst (l'.map ip) :: g) (Gr S l l') (∀ x∈d1,∀ y∈lo,(x,y)∈l')) ?_ ?_ ⟨⟨m1,m2,m3,rfl,rfl⟩,[],li,l,rfl,rfl,rfl,G0,by simp⟩ ?_
 ·rintro done m' _ ⟨_,_,_,l',_,_,rfl,_⟩; exact kp na
 ·intro done x rest e m' _ hI Q' kk
  obtain ⟨⟨q1,q2,q3,q4,q5⟩,d1,d2,l',rfl,rfl,rfl,G,hd⟩:=hI
  cases d2 with
  | nil=>simp at e
  | cons p d2 =>
   have hxp:x=iN p:=by simp at e; exact e.1.symm
   subst hxp
   refine xI (get_put_ne rfl q2) ?_
   refine src_lst (by rw [kp no]; exact h2) ?_
   refine for_inv (fun done m' s=>(And6 (get m' w_insides=some (.ref ia)) (get m' w_outsides=some (.ref io)) (get m' w_found=some (.ref st.length)) (get m' w_puts=get m w_puts) (get m' w_many=get m w_many) (get m' w_one=some (iN p)))∧Ex3 fun (c1 c2:List Nat) (l3:List (Nat×Nat))=>And5 (lo=c1++c2) (done=c1.map iN) (s=st++AObj.lst (l3.map ip) :: g) (Gr S l' l3) (∀ y∈c1,(p,y)∈l3)) ?_ ?_ ⟨⟨get_put_ne rfl q1,get_put_ne rfl q2,get_put_ne rfl q3,by rw [← q4]; exact get_put_o rfl,by rw [← q5]; exact get_put_o rfl,get_put_eq⟩,[],lo,l',rfl,rfl,rfl,⟨⟨[],by simp⟩,G.nd,G.lt,G.cc⟩,by simp⟩ ?_
   ·rintro done m' _ ⟨_,_,_,l3,_,_,rfl,_⟩
    show (st++AObj.lst (l3.map ip) :: g)[io]?=(st++AObj.lst (l'.map ip) :: g)[io]?
    exact (kp no).trans (kp no).symm
   ·intro done y rst e' m' _ hI Q2 kk2
    obtain ⟨⟨r1,r2,r3,r4,r5,r6⟩,c1,c2,l3,rfl,rfl,rfl,G3,hc⟩:=hI
    cases c2 with
    | nil=>simp at e'
    | cons q c2 =>
     have hyq:y=iN q:=by simp at e'; exact e'.1.symm
     subst hyq
     have lb:=lt49 G3.nd G3.lt
     have env:∀ v,(And6 (get (put m' w_other v) w_insides=some (.ref ia)) (get (put m' w_other v) w_outsides=some (.ref io)) (get (put m' w_other v) w_found=some (.ref st.length)) (get (put m' w_other v) w_puts=get m w_puts) (get (put m' w_other v) w_many=get m w_many) (get (put m' w_other v) w_one=some (iN p))):=fun v=>⟨get_put_ne rfl r1,get_put_ne rfl r2,get_put_ne rfl r3,by rw [← r4]; exact get_put_o rfl,by rw [← r5]; exact get_put_o rfl,get_put_ne rfl r6⟩
     refine xI ((env _).6) ?_
     refine xI (get_put_eq) ?_
     refine xI ((env _).3) ?_
     refine cmp_notin (memF_lst rfl get_mid allD_ip ?_)
     rw [show decide (AV.cons (iN p) (.cons (iN q) .nil)∈l3.map ip)=decide ((p,q)∈l3) from decide_eq_decide.mpr (mem_ip (p:=(p,q)))]
     by_cases em:(p,q)∈l3
     ·simp only [em,decide_true]
      exact (kk2 _ _ ⟨env _,c1++[q],c2,l3,by simp,by simp,rfl,G3,fun z hz=>by simp at hz; rcases hz with hz | rfl; exact hc z hz; exact em⟩).1
     ·simp only [em,decide_false]
      refine xI ((env _).3) ?_
      refine m_lst get_mid ⟨rfl,?_⟩
      refine xI ((env _).6) ?_
      refine xI (get_put_eq) ?_
      refine lst_append get_mid (by simp; lia) ?_
      rw [set_mid]
      refine (kk2 _ _ ⟨env _,c1++[q],c2,l3++[(p,q)],by simp,by simp,by simp,G3.add em ⟨hx p (by simp),hy q (by simp)⟩ (hS p (by simp) q (by simp)),fun z hz=>?_⟩).1
      simp at hz
      rcases hz with hz | rfl
      ·exact List.mem_append.mpr (.inl (hc z hz))
      ·simp
   ·rintro m' _ ⟨⟨r1,r2,r3,r4,r5,r6⟩,c1,c2,l3,e1,e2,rfl,G3,hc⟩
    have:c2=[]:=by
     have:=congrArg List.length e2
     rw [e1] at this; simp at this; exact this
    subst this
    have e1:lo=c1:=by simpa using e1
    subst e1
    refine (kk _ _ ⟨⟨r1,r2,r3,r4,r5⟩,d1++[p],d2,l3,by simp,by simp,rfl,G.trans G3,fun x hx y hy=>?_⟩).1
    simp at hx
    rcases hx with hx | rfl
    ·exact G3.sub (hd x hx y hy)
    ·exact hc y hy
 ·rintro m' _ ⟨⟨q1,q2,q3,q4,q5⟩,d1,d2,l',e1,e2,rfl,G,hd⟩
  have:d2=[]:=by
   have:=congrArg List.length e2
   rw [e1] at this; simp at this; exact this
  subst this
  have e1:li=d1:=by simpa using e1
  subst e1
  exact k m' l' q4 q5 q3 G hd
end
end Mine
namespace Mine
section
set_option maxRecDepth 10000
theorem closed_spec {st:Store} {d ia ib:Nat} {ps pp:List (Nat×Nat)} {Q:AV→Store→Prop} (hi:st[ia]?=some (.lst (ps.map ip))) (hj:st[ib]?=some (.lst (pp.map ip))) (hp:∀ p∈ps,p.1 < 7∧p.2 < 7) (hq:∀ p∈pp,p.1 < 7∧p.2 < 7)
  (k:∀ (g:Store) (r:Nat) (l:List (Nat×Nat)),(st++g)[r]?=some (.lst (l.map ip))→st.length≤r→(∀ x h,(x,h)∈l↔Cc ps pp x h)→l.length≤49→Q (.ref r) (st++g)):callP mprog (d + 2) 0 w__law_closed [.ref ia,.ref ib] st Q:=by
 have il:=(List.getElem?_eq_some_iff.mp hi).1
 have jl:=(List.getElem?_eq_some_iff.mp hj).1
 have cc:=Cc.clo ps pp
 refine call_df rfl rfl ?_
 refine And.intro rfl ?_
 refine src_lst (look_app hi) ?_
 refine for_inv (fun done m s=>(get m w_puts=some (.ref ib)∧get m w_found=some (.ref st.length)∧get m w_many=some (.int (-1)))∧Ex3 fun (d1 d2 l:List (Nat×Nat))=>And5 (ps=d1++d2) (done=d1.map ip) (s=st++[.lst (l.map ip)]) (Gr (Cc ps pp) [] l) (∀ p∈d1,p∈l)) ?_ ?_ ⟨⟨rfl,rfl,rfl⟩,[],ps,[],rfl,rfl,rfl,⟨⟨[],rfl⟩,.nil,by simp,by simp⟩,by simp⟩ ?_
 ·rintro done m _ ⟨_,d1,d2,l,_,_,rfl,_⟩
  show (st++_)[ia]?=(st++_)[ia]?
  rw [look_app hi,look_app hi]
 ·intro done x rest e m _ hI Q' kk
  obtain ⟨⟨m1,m2,m3⟩,d1,d2,l,hps,rfl,rfl,G,hd⟩:=hI
  cases d2 with
  | nil=>rw [hps] at e; simp at e
  | cons p d2 =>
   have hx:x=ip p:=by rw [hps] at e; simp at e; exact e.1.symm
   subst hx
   have pm:p∈ps:=by rw [hps]; simp
   have lb:=lt49 G.nd G.lt
   have fin:∀ l',Gr (Cc ps pp) [] l'→(∀ q∈l,q∈l')→p∈l'→Q' .next (put m w_pair (ip p)) (st++[.lst (l'.map ip)]):=fun l' G' s1 s2=>(kk _ _ ⟨⟨get_put_ne rfl m1,get_put_ne rfl m2,get_put_ne rfl m3⟩,d1++[p],d2,l',by simp [hps],by simp,rfl,G',fun q hq=>by simp at hq; rcases hq with hq | rfl; exact s1 q (hd q hq); exact s2⟩).1
   refine xI (get_put_eq) ?_
   refine xI (get_put_ne rfl m2) ?_
   refine cmp_notin (memF_lst rfl set_new allD_ip ?_)
   rw [show decide (ip p∈l.map ip)=decide (p∈l) from decide_eq_decide.mpr mem_ip]
   by_cases em:p∈l
   ·simp only [em,decide_true]
    exact fin l G (fun q z=>z) em
   ·simp only [em,decide_false]
    refine xI (get_put_ne rfl m2) ?_
    refine m_lst set_new ⟨rfl,?_⟩
    refine xI (get_put_eq) ?_
    refine lst_append set_new (by simp; lia) ?_
    rw [set_mid]
    have:=fin (l++[p]) (G.add em (hp p pm) (cc.1 p.1 p.2 pm)) (fun q z=>List.mem_append.mpr (.inl z)) (by simp)
    rw [List.map_append] at this; exact this
 ·rintro m _ ⟨⟨m1,m2,m3⟩,d1,d2,l,hps,hdn,rfl,G,hd⟩
  have:d2=[]:=by
   have:=congrArg List.length hdn
   rw [hps] at this; simp at this; exact this
  subst this
  have e1:ps=d1:=by simpa using hps
  subst e1
  let J (t:Bool):Nat→Loc→Store→Prop:=fun n m s=>∃ mv:Int,(get m w_puts=some (.ref ib)∧get m w_found=some (.ref st.length)∧get m w_many=some (.int mv))∧Ex2 fun (l:List (Nat×Nat)) (g:Store)=>And6 (s=st++.lst (l.map ip) :: g) (Gr (Cc ps pp) [] l) (∀ p∈ps,p∈l) (mv < l.length∨mv=l.length∧Clo ps pp fun x h=>(x,h)∈l) (n=2 * (60 - l.length) + (if mv=l.length then 0 else 1)) (t=true→mv≠l.length)
  let JF:Loc→Store→Prop:=fun m s=>get m w_found=some (.ref st.length)∧Ex2 fun (l:List (Nat×Nat)) (g:Store)=>s=st++.lst (l.map ip) :: g∧Gr (Cc ps pp) [] l∧Clo ps pp fun x h=>(x,h)∈l
  refine while_inv (J false) (J true) JF ?_ ?_ ?_ (n:=2 * (60 - l.length) + 1) ⟨-1,⟨m1,m2,m3⟩,l,[],rfl,G,hd,.inl (by lia),by rw [if_neg (by lia)],by simp⟩
  ·intro n m _ hI K kt kf
   obtain ⟨mv,⟨q1,q2,q3⟩,l,g,rfl,G,hd,hc,hn,_⟩:=hI
   refine xI (q3) ?_
   refine xI (q2) ?_
   refine bi_len get_mid (by have:=lt49 G.nd G.lt; simp; lia) ?_
   refine neI ?_
   rw [List.length_map]
   by_cases e:mv=l.length
   ·rw [show (!decide (mv=((l.length:Nat):Int)))=false from by simp [e]]
    exact kf _ ⟨q2,l,g,rfl,G,by rcases hc with z | z; lia; exact z.2⟩
   ·rw [show (!decide (mv=((l.length:Nat):Int)))=true from by simp [e]]
    exact kt _ ⟨mv,⟨q1,q2,q3⟩,l,g,rfl,G,hd,hc,hn,fun _=>e⟩
  ·intro n m _ hI Q' kk
   obtain ⟨mv,⟨q1,q2,q3⟩,l,g,rfl,G,hd,hc,hn,hne⟩:=hI
   have lb:=lt49 G.nd G.lt
   rw [if_neg (hne rfl)] at hn
   refine xI (q2) ?_
   refine bi_len get_mid (by simp; lia) ?_
   rw [List.length_map]
   refine xI (get_put_ne rfl q1) ?_
   refine src_lst (look_app hj) ?_
   refine for_inv (fun done m s=>(get m w_puts=some (.ref ib)∧get m w_found=some (.ref st.length)∧get m w_many=some (.int (l.length:Int)))∧Ex4 fun (d1 d2 l':List (Nat×Nat)) (g':Store)=>And5 (pp=d1++d2) (done=d1.map ip) (s=st++.lst (l'.map ip) :: g') (Gr (Cc ps pp) l l') (∀ p∈d1,∀ x h,Rl l p.1 x→Rl l p.2 h→(x,h)∈l')) ?_ ?_ ⟨⟨get_put_ne rfl q1,get_put_ne rfl q2,get_put_eq⟩,[],pp,l,g,rfl,rfl,rfl,⟨⟨[],by simp⟩,G.nd,G.lt,G.cc⟩,by simp⟩ ?_
   ·rintro done m' _ ⟨_,_,_,l',g',_,_,rfl,_⟩
    show (st++_)[ib]?=(st++_)[ib]?
    rw [look_app hj,look_app hj]
   ·intro done x rest e m' _ hI Q2 kk2
    obtain ⟨⟨r1,r2,r3⟩,c1,c2,l',g',hpp,rfl,rfl,G',hcl⟩:=hI
    cases c2 with
    | nil=>rw [hpp] at e; simp at e
    | cons p c2 =>
     have hx:x=ip p:=by rw [hpp] at e; simp at e; exact e.1.symm
     subst hx
     have pm:p∈pp:=by rw [hpp]; simp
     have p7:=hq p pm
     have lt1:∀ {a x:Nat},a < 7→Rl l' a x→x < 7:=fun ha r=>by
      cases r with
      | refl=>exact ha
      | step _ b=>exact (G'.lt _ b).1
     have toC:∀ {a x:Nat},Rl l' a x→Rea (Cc ps pp) a x:=fun r=>r.mono fun x h z=>G'.cc _ z
     have up:∀ {a x:Nat},Rl l a x→Rl l' a x:=fun r=>r.mono fun x h z=>G'.sub z
     refine And.intro rfl ?_
     refine xI (get_put_ne rfl (get_put_ne rfl r2)) ?_
     refine xI (get_put_ne rfl get_put_eq) ?_
     refine led_spec (i:=st.length) (ps:=l') get_mid p7.1 (fun q hq=>(G'.lt q hq).1) fun g1 rr1 li a1 a2 a3 a4=>?_
     refine xI (get_put_ne rfl (get_put_ne rfl r2)) ?_
     refine xI get_put_eq ?_
     refine led_spec (i:=st.length) (ps:=l') (look_app get_mid) p7.2 (fun q hq=>(G'.lt q hq).1) fun g2 rr2 lo b1 b2 b3 b4=>?_
     refine And.intro rfl ?_
     have a1':=look_app (L:=g2) a1
     simp at a2 b2
     rw [List.append_assoc,List.append_assoc,List.cons_append] at a1' b1
     rw [List.append_assoc,List.append_assoc,List.cons_append]
     refine pair_loops (S:=Cc ps pp) (li:=li) (lo:=lo) ⟨⟨[],by simp⟩,G'.nd,G'.lt,G'.cc⟩ (get_put_ne rfl get_put_eq) get_put_eq (get_put_ne rfl (get_put_ne rfl (get_put_ne rfl (get_put_ne rfl r2)))) (by lia) (by lia) a1' b1 (fun x hx y hy=>cc.2 p.1 p.2 x y pm (toC ((a3 x).mp hx)) (toC ((b3 y).mp hy))) (fun x hx=>lt1 p7.1 ((a3 x).mp hx)) (fun y hy=>lt1 p7.2 ((b3 y).mp hy)) fun m3 l3 w1 w2 w3 G3 hc3=>?_
     refine (kk2 _ _ ⟨⟨by rw [w1]; exact get_put_ne rfl (get_put_ne rfl (get_put_ne rfl (get_put_ne rfl r1))),w3,by rw [w2]; exact get_put_ne rfl (get_put_ne rfl (get_put_ne rfl (get_put_ne rfl r3)))⟩,c1++[p],c2,l3,_,by simp [hpp],by simp,rfl,G'.trans G3,fun q hq x h z1 z2=>?_⟩).1
     simp at hq
     rcases hq with hq | rfl
     ·exact G3.sub (hcl q hq x h z1 z2)
     ·exact hc3 x ((a3 x).mpr (up z1)) h ((b3 h).mpr (up z2))
   ·rintro m' _ ⟨⟨r1,r2,r3⟩,c1,c2,l',g',hpp,hdn2,rfl,G',hcl⟩
    have:c2=[]:=by
     have:=congrArg List.length hdn2
     rw [hpp] at this; simp at this; exact this
    subst this
    have e2:pp=c1:=by simpa using hpp
    subst e2
    have lb':=lt49 G'.nd G'.lt
    obtain ⟨nw,enw⟩:=G'.pre
    have ll:l'.length=l.length + nw.length:=by rw [enw]; simp
    refine (kk (2 * (60 - l'.length) + (if (l.length:Int)=l'.length then 0 else 1)) _ _ ?_ ⟨(l.length:Int),⟨r1,r2,r3⟩,l',g',rfl,⟨⟨l',by simp⟩,G'.nd,G'.lt,G'.cc⟩,fun p z=>G'.sub (hd p z),?_,rfl,by simp⟩).1
    ·split <;> lia
    ·by_cases en:nw=[]
     ·subst en
      have:l'=l:=by rw [enw]; simp
      subst this
      exact .inr ⟨rfl,fun x h z=>hd _ z,fun o a x h z r1 r2=>hcl (o,a) z x h r1 r2⟩
     ·have:1≤nw.length:=List.length_pos_iff.mpr en
      exact .inl (by lia)
  ·rintro m _ ⟨m2,l,g,rfl,G,cl⟩
   refine xI (m2) ?_
   exact k _ _ l get_mid (Nat.le_refl _) (fun x h=>⟨fun z=>G.cc _ z,fun z=>z _ cl⟩) (lt49 G.nd G.lt)
end
end Mine
namespace Mine
section
set_option maxRecDepth 10000
noncomputable def quietL:List AV:=[.str w_idle,.str w_load,.str w_clear,.str w_read,.str w_same,.str w_put]
noncomputable def loudL:List AV:=[.str w_sent,.str w_face,.str w_global,.str w_outer,.str w_go,.str w_unknown,.str w_deferred,.str w_end,.str w_end]
structure MS (st:Store) (a:Nat) (s:Store) (ln:List AV) (out:List Nat) (pairs puts:List (Nat×Nat)) (ends:List Nat):Prop where
 keep:∀ (b:Nat) (o:AObj),st[b]?=some o→b≠a→s[b]?=some o
 al:a < st.length
 src:SrcAt s a
 l0:s[st.length]?=some (.lst ln)
 l1:s[st.length + 1]?=some (.lst (out.map iN))
 l2:s[st.length + 2]?=some (.lst (pairs.map ip))
 l3:s[st.length + 3]?=some (.lst (puts.map ip))
 l4:s[st.length + 4]?=some (.lst (ends.map reg))
 q:s[st.length + 5]?=some (.lst quietL)
 l:s[st.length + 6]?=some (.lst loudL)
theorem MS.app {st:Store} {a:Nat} {s:Store} {ln:List AV} {out:List Nat} {pairs puts:List (Nat×Nat)} {ends:List Nat} (h:MS st a s ln out pairs puts ends) (g:Store):MS st a (s++g) ln out pairs puts ends:=by
 obtain ⟨s0,s1,e,z⟩:=h.src
 exact ⟨fun b o e n=>look_app (h.keep b o e n),h.al,⟨s0,s1,look_app e,z⟩,look_app h.l0,look_app h.l1,look_app h.l2,look_app h.l3,look_app h.l4,look_app h.q,look_app h.l⟩
theorem MS.take {st:Store} {a:Nat} {s:Store} {ln:List AV} {out:List Nat} {pairs puts:List (Nat×Nat)} {ends:List Nat} (h:MS st a s ln out pairs puts ends) (o:AObj) (hs:SrcAt (s.set a o) a):MS st a (s.set a o) ln out pairs puts ends:=by
 have:=h.al
 exact ⟨fun b o e n=>set_keep (h.keep b o e n) n,h.al,hs,set_keep h.l0 (by lia),set_keep h.l1 (by lia),set_keep h.l2 (by lia),set_keep h.l3 (by lia),set_keep h.l4 (by lia),set_keep h.q (by lia),set_keep h.l (by lia)⟩
theorem SrcAt.keep {s:Store} {a i:Nat} {o:AObj} (h:SrcAt s a) (n:a≠i):SrcAt (s.set i o) a:=by
 obtain ⟨s0,s1,e,z⟩:=h
 exact ⟨s0,s1,set_keep e n,z⟩
theorem MS.set0 {st:Store} {a:Nat} {s:Store} {ln ln':List AV} {out:List Nat} {pairs puts:List (Nat×Nat)} {ends:List Nat} (h:MS st a s ln out pairs puts ends):MS st a (s.set st.length (.lst ln')) ln' out pairs puts ends:=by
 have:=h.al
 exact ⟨fun b o e n=>set_keep (h.keep b o e n) (by have:=(List.getElem?_eq_some_iff.mp e).1; lia),h.al,h.src.keep (by lia),set_self h.l0,set_keep h.l1 (by lia),set_keep h.l2 (by lia),set_keep h.l3 (by lia),set_keep h.l4 (by lia),set_keep h.q (by lia),set_keep h.l (by lia)⟩
theorem MS.set1 {st:Store} {a:Nat} {s:Store} {ln:List AV} {out out':List Nat} {pairs puts:List (Nat×Nat)} {ends:List Nat} (h:MS st a s ln out pairs puts ends):MS st a (s.set (st.length + 1) (.lst (out'.map iN))) ln out' pairs puts ends:=by
 have:=h.al
 exact ⟨fun b o e n=>set_keep (h.keep b o e n) (by have:=(List.getElem?_eq_some_iff.mp e).1; lia),h.al,h.src.keep (by lia),set_keep h.l0 (by lia),set_self h.l1,set_keep h.l2 (by lia),set_keep h.l3 (by lia),set_keep h.l4 (by lia),set_keep h.q (by lia),set_keep h.l (by lia)⟩
theorem MS.set2 {st:Store} {a:Nat} {s:Store} {ln:List AV} {out:List Nat} {pairs pairs' puts:List (Nat×Nat)} {ends:List Nat} (h:MS st a s ln out pairs puts ends):MS st a (s.set (st.length + 2) (.lst (pairs'.map ip))) ln out pairs' puts ends:=by
 have:=h.al
 exact ⟨fun b o e n=>set_keep (h.keep b o e n) (by have:=(List.getElem?_eq_some_iff.mp e).1; lia),h.al,h.src.keep (by lia),set_keep h.l0 (by lia),set_keep h.l1 (by lia),set_self h.l2,set_keep h.l3 (by lia),set_keep h.l4 (by lia),set_keep h.q (by lia),set_keep h.l (by lia)⟩
theorem MS.set3 {st:Store} {a:Nat} {s:Store} {ln:List AV} {out:List Nat} {pairs puts puts':List (Nat×Nat)} {ends:List Nat} (h:MS st a s ln out pairs puts ends):MS st a (s.set (st.length + 3) (.lst (puts'.map ip))) ln out pairs puts' ends:=by
 have:=h.al
 exact ⟨fun b o e n=>set_keep (h.keep b o e n) (by have:=(List.getElem?_eq_some_iff.mp e).1; lia),h.al,h.src.keep (by lia),set_keep h.l0 (by lia),set_keep h.l1 (by lia),set_keep h.l2 (by lia),set_self h.l3,set_keep h.l4 (by lia),set_keep h.q (by lia),set_keep h.l (by lia)⟩
theorem MS.set4 {st:Store} {a:Nat} {s:Store} {ln:List AV} {out:List Nat} {pairs puts:List (Nat×Nat)} {ends ends':List Nat} (h:MS st a s ln out pairs puts ends):MS st a (s.set (st.length + 4) (.lst (ends'.map reg))) ln out pairs puts ends':=by
 have:=h.al
 exact ⟨fun b o e n=>set_keep (h.keep b o e n) (by have:=(List.getElem?_eq_some_iff.mp e).1; lia),h.al,h.src.keep (by lia),set_keep h.l0 (by lia),set_keep h.l1 (by lia),set_keep h.l2 (by lia),set_keep h.l3 (by lia),set_self h.l4,set_keep h.q (by lia),set_keep h.l (by lia)⟩
end
end Mine
namespace Mine
section
set_option maxRecDepth 10000
theorem range0 (n:Nat):rangeL 0 (n:Int)=(List.range n).map iN:=by
 simp only [rangeL]
 rw [show ((n:Int) - 0).toNat=n by lia]
 refine List.map_congr_left fun k _=>?_
 show AV.int (0 + (k:Int))=iN k
 rw [Int.zero_add]
theorem range1 (n:Nat) (h:1≤n):rangeL 1 (n:Int)=(List.range (n - 1)).map fun k=>iN (k + 1):=by
 simp only [rangeL]
 rw [show ((n:Int) - 1).toNat=n - 1 by lia]
 refine List.map_congr_left fun k _=>?_
 show AV.int (1 + (k:Int))=AV.int ((k + 1:Nat):Int)
 congr 1; lia
noncomputable def newsK (n:Nat):List Kd:=(List.range n).map .new
structure Env5 (m:Loc) (a n many:Nat):Prop where
 s:get m w_source=some (.ref a)
 many:get m w_many=some (iN many)
 l0:get m w_lines=some (.ref n)
 l1:get m w_out=some (.ref (n + 1))
 l2:get m w_pairs=some (.ref (n + 2))
 l3:get m w_puts=some (.ref (n + 3))
 l4:get m w_ends=some (.ref (n + 4))
 q:get m w_quiet=some (.ref (n + 5))
 l:get m w_loud=some (.ref (n + 6))
theorem Env5.put {m:Loc} {a n many x:Nat} {v:AV} (e:Env5 m a n many) (h:[w_source,w_many,w_lines,w_out,w_pairs,w_puts,w_ends,w_quiet,w_loud].all (fun y=>!Nat.beq x y)=true):Env5 (put m x v) a n many:=by
 simp only [List.all_cons,List.all_nil,Bool.and_true,Bool.and_eq_true,Bool.not_eq_true'] at h
 obtain ⟨h1,h2,h3,h4,h5,h6,h7,h8,h9⟩:=h
 exact ⟨get_put_ne h1 e.s,get_put_ne h2 e.many,get_put_ne h3 e.l0,get_put_ne h4 e.l1,get_put_ne h5 e.l2,get_put_ne h6 e.l3,get_put_ne h7 e.l4,get_put_ne h8 e.q,get_put_ne h9 e.l⟩
@[reducible] noncomputable def s_news:PS:=(.forr (.nm w_at) .range (.cons (.nm w_many) .nil) (.seq (.exp (.meth (.nm w_lines) w_append (.cons (.tup (.cons (.cst (.str w_new)) (.cons (.bin .add (.cst (.int 2)) (.nm w_at)) (.cons (.gl w__law_T) (.cons (.tup (.cons (.cst (.str w_main_f)) (.cons (.nm w_at) .nil))) .nil))))) .nil))) .skip))
theorem news_loop {st s:Store} {d a many:Nat} {m:Loc} {Q:Fl→Loc→Store→Prop} (E:Env5 m a st.length many) (hm:many≤7) (M:MS st a s [] [] [] [] [])
  (k:∀ m' s',Env5 m' a st.length many→MS st a s' ((newsK many).map enc) [] [] [] []→Q .next m' s'):exW (Vd d) s_news m s Q:=by
 refine xI E.many ?_
 refine And.intro ⟨by lia,by lia⟩ ?_
 rw [range0]
 refine for_inv (fun done m' s'=>Env5 m' a st.length many∧∃ j,j≤many∧done=(List.range j).map iN∧MS st a s' ((newsK j).map enc) [] [] [] []) (fun _ _ _ _=>trivial) ?_ ⟨E,0,by lia,rfl,M⟩ ?_
 ·intro done x rest e m' s' hI Q' kk
  obtain ⟨E',j,hj,rfl,M'⟩:=hI
  have hx:x=iN j∧j < many:=by
   have h1:=congrArg (fun l=>l[j]?) e
   simp only [List.getElem?_append_right,List.length_map,List.length_range,Nat.le_refl,Nat.sub_self,List.getElem?_cons_zero,List.getElem?_map,List.getElem?_range] at h1
   by_cases z:j < many
   ·simp [z] at h1; exact ⟨h1.symm,z⟩
   ·simp [z] at h1
  obtain ⟨rfl,hlt⟩:=hx
  have E2:=E'.put (x:=w_at) (v:=iN j) rfl
  refine xI E2.l0 ?_
  refine m_lst M'.l0 ⟨rfl,?_⟩
  refine xI get_put_eq ?_
  refine xI get_put_eq ?_
  refine lst_append M'.l0 (by simp [newsK]; lia) ?_
  refine (kk _ _ ⟨E2,j + 1,hlt,by simp [List.range_succ],?_⟩).1
  have:=M'.set0 (ln':=(newsK (j + 1)).map enc)
  have e2:(newsK (j + 1)).map enc=(newsK j).map enc++[enc (.new j)]:=by simp [newsK,List.range_succ]
  rw [e2] at this
  exact e2 ▸ this
 ·rintro m' s' ⟨E',j,hj,e,M'⟩
  have:j=many:=by have:=congrArg List.length e; simp at this; lia
  subst this
  exact k m' s' E' M'
end
end Mine
namespace Mine
section
set_option maxRecDepth 10000
inductive Loud:Kd→Nat→Prop
 | sent (a):Loud (.sent a) a
 | face (a):Loud (.face a) a
 | glob (a):Loud (.glob a) a
 | outer (a):Loud (.outer a) a
 | go (a):Loud (.go a) a
 | unk (a):Loud (.unk a) a
 | defr (a):Loud (.defr a) a
theorem Loud.gone {k:Kd} {a:Nat} (h:Loud k a):∀ b M,CK b k M→GoneOf M a:=by
 intro b M c
 cases h <;> first | exact c | exact c.1
noncomputable def KW (many:Nat) (out:List Nat) (pairs puts:List (Nat×Nat)):Kd→Prop
 | .new a | .load a | .clear a | .read a | .same a=>a < many
 | .put a o=>(o,a)∈puts
 | .sent a | .face a | .glob a | .go a | .unk a | .defr a | .outer a=>a∈out
 | .store h x=>(x,h)∈pairs
theorem KW.mono {many:Nat} {out out':List Nat} {pairs pairs' puts puts':List (Nat×Nat)} {k:Kd} (h:KW many out pairs puts k) (h1:∀ x∈out,x∈out') (h2:∀ x∈pairs,x∈pairs') (h3:∀ x∈puts,x∈puts'):KW many out' pairs' puts' k:=by
 cases k <;> first | exact h | exact h1 _ h | exact h2 _ h | exact h3 _ h
structure WS (many j:Nat) (ks:List Kd) (out:List Nat) (pairs puts:List (Nat×Nat)) (ends:List Nat):Prop where
 ok:∀ k∈ks,KW many out pairs puts k
 new:∀ a,a < many→Kd.new a∈ks
 store:∀ x h,(x,h)∈pairs→Kd.store h x∈ks
 pt:∀ o a,(o,a)∈puts→Kd.put a o∈ks
 lo:∀ a∈out,(∃ k∈ks,Loud k a)∨a∈ends
 olt:∀ a∈out,a≤j∧a < many
 ond:out.Nodup
 eo:∀ a∈ends,a∈out
 el:ends.length≤j
 plt:∀ x h,(x,h)∈pairs→x < many∧h < many
 qlt:∀ o a,(o,a)∈puts→o < many∧a < many
theorem WS.quiet {many j:Nat} {ks:List Kd} {out:List Nat} {pairs puts:List (Nat×Nat)} {ends:List Nat} (h:WS many j ks out pairs puts ends) {l:List Kd} (hl:∀ k∈l,KW many out pairs puts k):WS many (j + 1) (ks++l) out pairs puts ends:=by
 refine ⟨fun k hk=>?_,fun a ha=>List.mem_append.mpr (.inl (h.new a ha)),fun x y z=>List.mem_append.mpr (.inl (h.store x y z)),fun x y z=>List.mem_append.mpr (.inl (h.pt x y z)),fun a ha=>?_,fun a ha=>⟨Nat.le_succ_of_le (h.olt a ha).1,(h.olt a ha).2⟩,h.ond,h.eo,Nat.le_succ_of_le h.el,h.plt,h.qlt⟩
 ·rcases List.mem_append.mp hk with z | z
  ·exact h.ok k z
  ·exact hl k z
 ·rcases h.lo a ha with ⟨k,hk,z⟩ | z
  ·exact .inl ⟨k,List.mem_append.mpr (.inl hk),z⟩
  ·exact .inr z
theorem WS.putw {many j:Nat} {ks:List Kd} {out:List Nat} {pairs puts:List (Nat×Nat)} {ends:List Nat} (h:WS many j ks out pairs puts ends) {o a:Nat} (ho:o < many) (ha:a < many):WS many (j + 1) (ks++[.put a o]) out pairs (puts++[(o,a)]) ends:=by
 have up:∀ x∈puts,x∈puts++[(o,a)]:=fun x z=>List.mem_append.mpr (.inl z)
 refine ⟨fun k hk=>?_,fun a ha=>List.mem_append.mpr (.inl (h.new a ha)),fun x y z=>List.mem_append.mpr (.inl (h.store x y z)),fun x y z=>?_,fun a ha=>?_,fun a ha=>⟨Nat.le_succ_of_le (h.olt a ha).1,(h.olt a ha).2⟩,h.ond,h.eo,Nat.le_succ_of_le h.el,h.plt,fun x y z=>?_⟩
 ·rcases List.mem_append.mp hk with z | z
  ·exact (h.ok k z).mono (fun _ q=>q) (fun _ q=>q) up
  ·simp at z; subst z; show (o,a)∈_; simp
 ·rcases List.mem_append.mp z with z | z
  ·exact List.mem_append.mpr (.inl (h.pt x y z))
  ·simp at z; obtain ⟨rfl,rfl⟩:=z; simp
 ·rcases h.lo a ha with ⟨k,hk,z⟩ | z
  ·exact .inl ⟨k,List.mem_append.mpr (.inl hk),z⟩
  ·exact .inr z
 ·rcases List.mem_append.mp z with z | z
  ·exact h.qlt x y z
  ·simp at z; obtain ⟨rfl,rfl⟩:=z; exact ⟨ho,ha⟩
theorem WS.loud {many j:Nat} {ks:List Kd} {out:List Nat} {pairs puts:List (Nat×Nat)} {ends:List Nat} (h:WS many j ks out pairs puts ends) {k:Kd} (hj:j + 1 < many) (hk:Loud k (j + 1)):WS many (j + 1) (ks++[k]) (out++[j + 1]) pairs puts ends:=by
 have up:∀ x∈out,x∈out++[j + 1]:=fun x z=>List.mem_append.mpr (.inl z)
 refine ⟨fun q hq=>?_,fun a ha=>List.mem_append.mpr (.inl (h.new a ha)),fun x y z=>List.mem_append.mpr (.inl (h.store x y z)),fun x y z=>List.mem_append.mpr (.inl (h.pt x y z)),fun a ha=>?_,fun a ha=>?_,?_,fun a ha=>up a (h.eo a ha),Nat.le_succ_of_le h.el,h.plt,h.qlt⟩
 ·rcases List.mem_append.mp hq with z | z
  ·exact (h.ok q z).mono up (fun _ q=>q) fun _ q=>q
  ·simp at z; subst z
   cases hk <;> (show _∈out++[_]; simp)
 ·rcases List.mem_append.mp ha with z | z
  ·rcases h.lo a z with ⟨q,hq,z⟩ | z
   ·exact .inl ⟨q,List.mem_append.mpr (.inl hq),z⟩
   ·exact .inr z
  ·simp at z; subst z; exact .inl ⟨k,by simp,hk⟩
 ·rcases List.mem_append.mp ha with z | z
  ·exact ⟨Nat.le_succ_of_le (h.olt a z).1,(h.olt a z).2⟩
  ·simp at z; subst z; exact ⟨Nat.le_refl _,hj⟩
 ·rw [List.nodup_append]
  exact ⟨h.ond,by simp,fun a ha b hb=>by simp at hb; subst hb; rintro rfl; have:=(h.olt _ ha).1; lia⟩
theorem WS.endw {many j:Nat} {ks:List Kd} {out:List Nat} {pairs puts:List (Nat×Nat)} {ends:List Nat} (h:WS many j ks out pairs puts ends) (hj:j + 1 < many):WS many (j + 1) ks (out++[j + 1]) pairs puts (ends++[j + 1]):=by
 have up:∀ x∈out,x∈out++[j + 1]:=fun x z=>List.mem_append.mpr (.inl z)
 refine ⟨fun q hq=>(h.ok q hq).mono up (fun _ q=>q) fun _ q=>q,h.new,h.store,h.pt,fun a ha=>?_,fun a ha=>?_,?_,fun a ha=>?_,by have:=h.el; simp; lia,h.plt,h.qlt⟩
 ·rcases List.mem_append.mp ha with z | z
  ·exact (h.lo a z).imp id fun q=>List.mem_append.mpr (.inl q)
  ·simp at z; subst z; exact .inr (by simp)
 ·rcases List.mem_append.mp ha with z | z
  ·exact ⟨Nat.le_succ_of_le (h.olt a z).1,(h.olt a z).2⟩
  ·simp at z; subst z; exact ⟨Nat.le_refl _,hj⟩
 ·rw [List.nodup_append]
  exact ⟨h.ond,by simp,fun a ha b hb=>by simp at hb; subst hb; rintro rfl; have:=(h.olt _ ha).1; lia⟩
 ·rcases List.mem_append.mp ha with z | z
  ·exact up a (h.eo a z)
  ·simp at z; subst z; simp
theorem WS.pair {many j:Nat} {ks:List Kd} {out:List Nat} {pairs puts:List (Nat×Nat)} {ends:List Nat} (h:WS many j ks out pairs puts ends) {x y:Nat} (hx:x < many) (hy:y < many):WS many j (ks++[.store y x]) out (pairs++[(x,y)]) puts ends:=by
 have up:∀ z∈pairs,z∈pairs++[(x,y)]:=fun _ z=>List.mem_append.mpr (.inl z)
 refine ⟨fun q hq=>?_,fun a ha=>List.mem_append.mpr (.inl (h.new a ha)),fun u v z=>?_,fun u v z=>List.mem_append.mpr (.inl (h.pt u v z)),fun a ha=>?_,h.olt,h.ond,h.eo,h.el,fun u v z=>?_,h.qlt⟩
 ·rcases List.mem_append.mp hq with z | z
  ·exact (h.ok q z).mono (fun _ q=>q) up fun _ q=>q
  ·simp at z; subst z; show (x,y)∈_; simp
 ·rcases List.mem_append.mp z with z | z
  ·exact List.mem_append.mpr (.inl (h.store u v z))
  ·simp at z; obtain ⟨rfl,rfl⟩:=z; simp
 ·rcases h.lo a ha with ⟨k,hk,z⟩ | z
  ·exact .inl ⟨k,List.mem_append.mpr (.inl hk),z⟩
  ·exact .inr z
 ·rcases List.mem_append.mp z with z | z
  ·exact h.plt u v z
  ·simp at z; obtain ⟨rfl,rfl⟩:=z; exact ⟨hx,hy⟩
end
end Mine
namespace Mine
section
set_option maxRecDepth 10000
theorem add_lst {st:Store} {i j:Nat} {l l':List AV} {Q:AV→Store→Prop} (h:st[i]?=some (.lst l)) (h':st[j]?=some (.lst l')) (hl:l.length + l'.length < 2 ^ 20) (k:Q (.ref st.length) (st++[.lst (l++l')])):binF .add st (.ref i) (.ref j) Q:=by
 show objM st[i]? _ _ _
 rw [h]
 show objM st[j]? _ _ _
 rw [h']
 exact ⟨hl,k⟩
@[reducible] noncomputable def b_way:PS:=(.seq (.asg (.tup (.cons (.nm w_one) (.cons (.nm w_other) .nil))) (.tup (.cons (.tup (.cons (.cst (.str w_reg)) (.cons (.bin .add (.cst (.int 2)) (.nm w_at)) .nil))) (.cons (.fn w__law_take (.cons (.nm w_source) (.cons (.nm w_many) .nil))) .nil)))) (.seq (.asg (.nm w_way) (.fn w__law_one (.cons (.nm w_source) (.cons (.bin .add (.nm w_quiet) (.nm w_loud)) .nil)))) (.seq (.ite (.cmp .eq (.nm w_way) (.cst (.str w_end))) (.seq (.exp (.meth (.nm w_out) w_append (.cons (.nm w_at) .nil))) (.seq (.exp (.meth (.nm w_ends) w_append (.cons (.nm w_one) .nil))) .skip)) (.seq (.ite (.cmp .isin (.nm w_way) (.nm w_quiet)) (.seq (.exp (.meth (.nm w_lines) w_extend (.cons (.fn w__law_quiet (.cons (.nm w_way) (.cons (.nm w_one) (.cons (.tup (.cons (.cst (.str w_reg)) (.cons (.bin .add (.cst (.int 2)) (.nm w_other)) .nil))) .nil)))) .nil))) (.seq (.exp (.meth (.nm w_puts) w_extend (.cons (.bin .mul (.lst (.cons (.tup (.cons (.nm w_other) (.cons (.nm w_at) .nil))) .nil)) (.bi .int (.cons (.cmp .eq (.nm w_way) (.cst (.str w_put))) .nil))) .nil))) .skip)) (.seq (.exp (.meth (.nm w_lines) w_extend (.cons (.fn w__law_loud (.cons (.nm w_way) (.cons (.nm w_one) .nil))) .nil))) (.seq (.exp (.meth (.nm w_out) w_append (.cons (.nm w_at) .nil))) .skip))) .skip)) .skip)))
theorem mulI {st:Store} {i:Nat} {l:List AV} {y:Int} {Q:AV→Store→Prop} (h:st[i]?=some (.lst l)) (h0:0≤y) (h1:y≤16) (hl:l.length≤1) (k:Q (.ref st.length) (st++[.lst (List.replicate y.toNat l).flatten])):binF .mul st (.ref i) (.int y) Q:=by
 show objM st[i]? _ _ _
 rw [h]; exact ⟨h0,h1,hl,k⟩
theorem k_biint {V:MEnv} {m:Loc} {b:Bool} {s:Store} {Q:KV} (h:Q (.int (if b=true then 1 else 0)) s):cmpK3 (consK (evW V .nil m) (biK V .int Q)) s b:=h
@[reducible] noncomputable def b_way2:PS:=(.seq (.ite (.cmp .eq (.nm w_way) (.cst (.str w_end))) (.seq (.exp (.meth (.nm w_out) w_append (.cons (.nm w_at) .nil))) (.seq (.exp (.meth (.nm w_ends) w_append (.cons (.nm w_one) .nil))) .skip)) (.seq (.ite (.cmp .isin (.nm w_way) (.nm w_quiet)) (.seq (.exp (.meth (.nm w_lines) w_extend (.cons (.fn w__law_quiet (.cons (.nm w_way) (.cons (.nm w_one) (.cons (.tup (.cons (.cst (.str w_reg)) (.cons (.bin .add (.cst (.int 2)) (.nm w_other)) .nil))) .nil)))) .nil))) (.seq (.exp (.meth (.nm w_puts) w_extend (.cons (.bin .mul (.lst (.cons (.tup (.cons (.nm w_other) (.cons (.nm w_at) .nil))) .nil)) (.bi .int (.cons (.cmp .eq (.nm w_way) (.cst (.str w_put))) .nil))) .nil))) .skip)) (.seq (.exp (.meth (.nm w_lines) w_extend (.cons (.fn w__law_loud (.cons (.nm w_way) (.cons (.nm w_one) .nil))) .nil))) (.seq (.exp (.meth (.nm w_out) w_append (.cons (.nm w_at) .nil))) .skip))) .skip)) .skip)
theorem way_end {st s:Store} {d a many j:Nat} {m:Loc} {ks:List Kd} {out:List Nat} {puts:List (Nat×Nat)} {ends:List Nat} {Q:Fl→Loc→Store→Prop} (E:Env5 m a st.length many) (hat:get m w_at=some (iN (j + 1))) (hone:get m w_one=some (reg (j + 1))) (hway:get m w_way=some (.str w_end)) (hj:j + 1 < many) (hm:many≤7)
  (M:MS st a s (ks.map enc) out [] puts ends) (w:WS many j ks out [] puts ends)
  (k:∀ m' s' ks' out' puts' ends',Env5 m' a st.length many→MS st a s' (ks'.map enc) out' [] puts' ends'→WS many (j + 1) ks' out' [] puts' ends'→ks'.length≤ks.length + 1→puts'.length≤puts.length + 1→Q .next m' s'):exW (Vd (d + 2)) b_way2 m s Q:=by
 have ol:=lt7 w.ond fun x hx=>by have:=(w.olt x hx).2; lia
 have el:=w.el
 refine xI (hway) ?_
 refine eqs ?_
 refine xI E.l1 ?_
 refine m_lst M.l1 ⟨rfl,?_⟩
 refine xI (hat) ?_
 refine lst_append M.l1 (by simp; lia) ?_
 have M1:=M.set1 (out':=out++[j + 1])
 rw [List.map_append] at M1
 refine xI E.l4 ?_
 refine m_lst M1.l4 ⟨rfl,?_⟩
 refine xI (hone) ?_
 refine lst_append M1.l4 (by simp; lia) ?_
 have M2:=M1.set4 (ends':=ends++[j + 1])
 rw [List.map_append] at M2
 exact k m _ ks _ puts _ E M2 (w.endw hj) (by lia) (by lia)
theorem way_quiet {st s:Store} {d a many j ov wn:Nat} {m:Loc} {ks lk:List Kd} {out:List Nat} {puts:List (Nat×Nat)} {ends:List Nat} {Q:Fl→Loc→Store→Prop} (E:Env5 m a st.length many) (hat:get m w_at=some (iN (j + 1))) (hone:get m w_one=some (reg (j + 1))) (hoth:get m w_other=some (iN ov)) (hway:get m w_way=some (.str wn))
  (hne:Nat.beq wn w_end=false) (hq:decide (AV.str wn∈quietL)=true) (hv:QV (reg (j + 1)) (reg ov) (.str wn) (lk.map enc)) (hlk:lk.length≤1) (hkl:ks.length≤1000) (hpl:puts.length≤1000)
  (M:MS st a s (ks.map enc) out [] puts ends)
  (k:∀ m' s',Env5 m' a st.length many→MS st a s' ((ks++lk).map enc) out [] (puts++(if Nat.beq wn w_put then [(ov,j + 1)] else [])) ends→Q .next m' s'):exW (Vd (d + 2)) b_way2 m s Q:=by
 refine xI (hway) ?_
 refine eqs ?_
 rw [hne]
 refine xI (hway) ?_
 refine xI E.q ?_
 refine cmp_isin (memF_lst rfl M.q (by decide +kernel) ?_)
 rw [hq]
 refine xI E.l0 ?_
 refine m_lst M.l0 ⟨rfl,?_⟩
 refine xI (hway) ?_
 refine xI (hone) ?_
 refine xI (hoth) ?_
 refine quiet_spec hv fun g r hr hge=>?_
 have M1:=M.app g
 have rn:r≠st.length:=by have:=(List.getElem?_eq_some_iff.mp M.l0).1; lia
 refine lst_extend M1.l0 hr rn (by simp; lia) ?_
 have M2:=M1.set0 (ln':=(ks++lk).map enc)
 rw [List.map_append] at M2
 refine xI E.l3 ?_
 refine m_lst M2.l3 ⟨rfl,?_⟩
 refine xI (hoth) ?_
 refine xI (hat) ?_
 refine xI (hway) ?_
 refine eqs ?_
 have M3:=M2.app [.lst [ip (ov,j + 1)]]
 have M4:=M3.app [.lst (List.replicate (if Nat.beq wn w_put=true then (1:Int) else 0).toNat [ip (ov,j + 1)]).flatten]
 refine k_biint ?_
 refine mulI (y:=if Nat.beq wn w_put=true then (1:Int) else 0) (l:=[ip (ov,j + 1)]) set_new (by split <;> decide) (by split <;> decide) (by simp) ?_
 refine lst_extend M4.l3 set_new (Nat.ne_of_gt (List.getElem?_eq_some_iff.mp M3.l3).1) (by cases Nat.beq wn w_put <;> simp <;> lia) ?_
 have M5:=M4.set3 (puts':=puts++(if Nat.beq wn w_put then [(ov,j + 1)] else []))
 have e5:(puts++(if Nat.beq wn w_put then [(ov,j + 1)] else [])).map ip=puts.map ip++(List.replicate (if Nat.beq wn w_put=true then (1:Int) else 0).toNat [ip (ov,j + 1)]).flatten:=by
  rw [List.map_append]; cases Nat.beq wn w_put <;> rfl
 rw [e5] at M5
 refine k m _ E ?_
 rw [List.map_append]
 exact M5
theorem way_loud {st s:Store} {d a many j wn:Nat} {m:Loc} {ks:List Kd} {kd:Kd} {out:List Nat} {puts:List (Nat×Nat)} {ends:List Nat} {Q:Fl→Loc→Store→Prop} (E:Env5 m a st.length many) (hat:get m w_at=some (iN (j + 1))) (hone:get m w_one=some (reg (j + 1))) (hway:get m w_way=some (.str wn)) (hol:out.length≤7)
  (hne:Nat.beq wn w_end=false) (hq:decide (AV.str wn∈quietL)=false) (hkl:ks.length≤1000)
  (hv:kget [(.str w_sent,.cons (.str w_send) (.cons c__law_CHANNEL (.cons (reg (j + 1)) .nil))),(.str w_face,.cons (.str w_face) (.cons (.int 13) (.cons (reg (j + 1)) (.cons c__law_T .nil)))),(.str w_global,iStore c__law_GLOBAL (reg (j + 1))),(.str w_outer,iStore (rg 0) (reg (j + 1))),
   (.str w_go,.cons (.str w_go) (.cons (fnN w_main_load) (.cons (pr (reg (j + 1)) c__law_NIL) .nil))),(.str w_unknown,.cons (.str w_call) (.cons (.cons (.int 15) .nil) (.cons (pr (.str w_value) (rg 1)) (.cons (.cons (reg (j + 1)) .nil) .nil)))),
   (.str w_deferred,.cons (.str w_defer) (.cons (fnN w_other_none) (.cons (.cons (reg (j + 1)) .nil) .nil)))] (.str wn)=some (enc kd))
  (M:MS st a s (ks.map enc) out [] puts ends)
  (k:∀ m' s',Env5 m' a st.length many→MS st a s' ((ks++[kd]).map enc) (out++[j + 1]) [] puts ends→Q .next m' s'):exW (Vd (d + 2)) b_way2 m s Q:=by
 refine xI (hway) ?_
 refine eqs ?_
 rw [hne]
 refine xI (hway) ?_
 refine xI E.q ?_
 refine cmp_isin (memF_lst rfl M.q (by decide +kernel) ?_)
 rw [hq]
 refine xI E.l0 ?_
 refine m_lst M.l0 ⟨rfl,?_⟩
 refine xI (hway) ?_
 refine xI (hone) ?_
 refine loud_spec rfl hv fun g r hr hge=>?_
 have M1:=M.app g
 have rn:r≠st.length:=by have:=(List.getElem?_eq_some_iff.mp M.l0).1; lia
 refine lst_extend M1.l0 hr rn (by simp; lia) ?_
 have M2:=M1.set0 (ln':=(ks++[kd]).map enc)
 rw [List.map_append] at M2
 refine xI E.l1 ?_
 refine m_lst M2.l1 ⟨rfl,?_⟩
 refine xI (hat) ?_
 refine lst_append M2.l1 (by simp; lia) ?_
 have M3:=M2.set1 (out':=out++[j + 1])
 rw [List.map_append] at M3
 refine k m _ E ?_
 rw [List.map_append]
 exact M3
theorem way_step {st s:Store} {d a many j:Nat} {m:Loc} {ks:List Kd} {out:List Nat} {puts:List (Nat×Nat)} {ends:List Nat} {Q:Fl→Loc→Store→Prop} (E:Env5 m a st.length many) (hat:get m w_at=some (iN (j + 1))) (hj:j + 1 < many) (hm:many≤7)
  (M:MS st a s (ks.map enc) out [] puts ends) (w:WS many j ks out [] puts ends) (hkl:ks.length≤1000) (hpl:puts.length≤1000)
  (k:∀ m' s' ks' out' puts' ends',Env5 m' a st.length many→MS st a s' (ks'.map enc) out' [] puts' ends'→WS many (j + 1) ks' out' [] puts' ends'→ks'.length≤ks.length + 1→puts'.length≤puts.length + 1→Q .next m' s'):exW (Vd (d + 2)) b_way m s Q:=by
 have al:=M.al
 refine xI (hat) ?_
 refine xI E.s ?_
 refine xI E.many ?_
 refine take_spec M.src (by lia) (by lia) fun v o v0 v1 hs=>?_
 have M1:=M.take o hs
 obtain ⟨ov,rfl⟩:∃ n:Nat,v=(n:Int):=⟨v.toNat,by lia⟩
 have ovl:ov < many:=by lia
 refine And.intro rfl ?_
 have E1:=(E.put (x:=w_one) (v:=reg (j + 1)) rfl).put (x:=w_other) (v:=iN ov) rfl
 have hat1:get (put (put m w_one (reg (j + 1))) w_other (iN ov)) w_at=some (iN (j + 1)):=get_put_ne rfl (get_put_ne rfl hat)
 refine xI E1.s ?_
 refine xI E1.q ?_
 refine xI E1.l ?_
 refine add_lst M1.q M1.l (by decide) ?_
 have M2:=M1.app [.lst (quietL++loudL)]
 have l2:a≠(s.set a o).length:=by have:=(List.getElem?_eq_some_iff.mp M1.l0).1; lia
 refine one_spec M2.src set_new (fun z=>l2 z.symm) (by simp [quietL]) (by decide) fun way o2 hw hs2=>?_
 have M3:=M2.take o2 hs2
 have E2:=E1.put (x:=w_way) (v:=way) rfl
 have hat2:get (put (put (put m w_one (reg (j + 1))) w_other (iN ov)) w_way way) w_at=some (iN (j + 1)):=get_put_ne rfl hat1
 have hone2:get (put (put (put m w_one (reg (j + 1))) w_other (iN ov)) w_way way) w_one=some (reg (j + 1)):=get_put_ne rfl (get_put_ne rfl get_put_eq)
 have hoth2:get (put (put (put m w_one (reg (j + 1))) w_other (iN ov)) w_way way) w_other=some (iN ov):=get_put_ne rfl get_put_eq
 have ol:=lt7 w.ond fun x hx=>by have:=(w.olt x hx).2; lia
 show exW _ b_way2 _ _ _
 simp only [quietL,loudL,List.cons_append,List.nil_append,List.mem_cons,List.not_mem_nil,or_false] at hw
 rcases hw with rfl | rfl | rfl | rfl | rfl | rfl | rfl | rfl | rfl | rfl | rfl | rfl | rfl | rfl | rfl
 ·refine way_quiet (lk:=[]) E2 hat2 hone2 hoth2 get_put_eq rfl (by decide +kernel) (.inl ⟨rfl,rfl⟩) (by simp) hkl hpl M3 fun m' s' E' M'=>?_
  refine k m' s' (ks++[]) out puts ends E' (by have:=M'; rw [show (if Nat.beq w_idle w_put then [(ov,j + 1)] else [])=[] from rfl,List.append_nil,List.append_nil] at this; rw [List.append_nil]; exact this) (w.quiet ?_) (by simp) (by simp)
  intro q hq; simp at hq; try (subst hq; exact hj)
 ·refine way_quiet (lk:=[.load (j + 1)]) E2 hat2 hone2 hoth2 get_put_eq rfl (by decide +kernel) (.inr (.inl ⟨rfl,rfl⟩)) (by simp) hkl hpl M3 fun m' s' E' M'=>?_
  refine k m' s' (ks++[.load (j + 1)]) out puts ends E' (by have:=M'; rw [show (if Nat.beq w_load w_put then [(ov,j + 1)] else [])=[] from rfl,List.append_nil] at this; exact this) (w.quiet ?_) (by simp) (by simp)
  intro q hq; simp at hq; try (subst hq; exact hj)
 ·refine way_quiet (lk:=[.clear (j + 1)]) E2 hat2 hone2 hoth2 get_put_eq rfl (by decide +kernel) (.inr (.inr (.inl ⟨rfl,rfl⟩))) (by simp) hkl hpl M3 fun m' s' E' M'=>?_
  refine k m' s' (ks++[.clear (j + 1)]) out puts ends E' (by have:=M'; rw [show (if Nat.beq w_clear w_put then [(ov,j + 1)] else [])=[] from rfl,List.append_nil] at this; exact this) (w.quiet ?_) (by simp) (by simp)
  intro q hq; simp at hq; try (subst hq; exact hj)
 ·refine way_quiet (lk:=[.read (j + 1)]) E2 hat2 hone2 hoth2 get_put_eq rfl (by decide +kernel) (.inr (.inr (.inr (.inl ⟨rfl,rfl⟩)))) (by simp) hkl hpl M3 fun m' s' E' M'=>?_
  refine k m' s' (ks++[.read (j + 1)]) out puts ends E' (by have:=M'; rw [show (if Nat.beq w_read w_put then [(ov,j + 1)] else [])=[] from rfl,List.append_nil] at this; exact this) (w.quiet ?_) (by simp) (by simp)
  intro q hq; simp at hq; try (subst hq; exact hj)
 ·refine way_quiet (lk:=[.same (j + 1)]) E2 hat2 hone2 hoth2 get_put_eq rfl (by decide +kernel) (.inr (.inr (.inr (.inr (.inl ⟨rfl,rfl⟩))))) (by simp) hkl hpl M3 fun m' s' E' M'=>?_
  refine k m' s' (ks++[.same (j + 1)]) out puts ends E' (by have:=M'; rw [show (if Nat.beq w_same w_put then [(ov,j + 1)] else [])=[] from rfl,List.append_nil] at this; exact this) (w.quiet ?_) (by simp) (by simp)
  intro q hq; simp at hq; try (subst hq; exact hj)
 ·refine way_quiet (lk:=[.put (j + 1) ov]) E2 hat2 hone2 hoth2 get_put_eq rfl (by decide +kernel) (.inr (.inr (.inr (.inr (.inr ⟨rfl,rfl⟩))))) (by simp) hkl hpl M3 fun m' s' E' M'=>?_
  exact k m' s' (ks++[.put (j + 1) ov]) out (puts++[(ov,j + 1)]) ends E' M' (w.putw ovl hj) (by simp) (by simp)
 ·refine way_loud (kd:=.sent (j + 1)) E2 hat2 hone2 get_put_eq ol rfl (by decide +kernel) hkl rfl M3 fun m' s' E' M'=>k m' s' _ _ _ _ E' M' (w.loud hj (by constructor)) (by simp) (by simp)
 ·refine way_loud (kd:=.face (j + 1)) E2 hat2 hone2 get_put_eq ol rfl (by decide +kernel) hkl rfl M3 fun m' s' E' M'=>k m' s' _ _ _ _ E' M' (w.loud hj (by constructor)) (by simp) (by simp)
 ·refine way_loud (kd:=.glob (j + 1)) E2 hat2 hone2 get_put_eq ol rfl (by decide +kernel) hkl rfl M3 fun m' s' E' M'=>k m' s' _ _ _ _ E' M' (w.loud hj (by constructor)) (by simp) (by simp)
 ·refine way_loud (kd:=.outer (j + 1)) E2 hat2 hone2 get_put_eq ol rfl (by decide +kernel) hkl rfl M3 fun m' s' E' M'=>k m' s' _ _ _ _ E' M' (w.loud hj (by constructor)) (by simp) (by simp)
 ·refine way_loud (kd:=.go (j + 1)) E2 hat2 hone2 get_put_eq ol rfl (by decide +kernel) hkl rfl M3 fun m' s' E' M'=>k m' s' _ _ _ _ E' M' (w.loud hj (by constructor)) (by simp) (by simp)
 ·refine way_loud (kd:=.unk (j + 1)) E2 hat2 hone2 get_put_eq ol rfl (by decide +kernel) hkl rfl M3 fun m' s' E' M'=>k m' s' _ _ _ _ E' M' (w.loud hj (by constructor)) (by simp) (by simp)
 ·refine way_loud (kd:=.defr (j + 1)) E2 hat2 hone2 get_put_eq ol rfl (by decide +kernel) hkl rfl M3 fun m' s' E' M'=>k m' s' _ _ _ _ E' M' (w.loud hj (by constructor)) (by simp) (by simp)
 ·exact way_end E2 hat2 hone2 get_put_eq hj hm M3 w k
 ·exact way_end E2 hat2 hone2 get_put_eq hj hm M3 w k
end
end Mine
namespace Mine
section
set_option maxRecDepth 10000
@[reducible] noncomputable def s_ways:PS:=.forr (.nm w_at) .range (.cons (.cst (.int 1)) (.cons (.nm w_many) .nil)) b_way
theorem WS.zero (many:Nat):WS many 0 (newsK many) [] [] [] [] :=
 ⟨fun k hk=>by obtain ⟨a,ha,rfl⟩:=List.mem_map.mp hk; exact List.mem_range.mp ha,fun a ha=>List.mem_map.mpr ⟨a,List.mem_range.mpr ha,rfl⟩,by simp,by simp,by simp,by simp,.nil,by simp,by simp,by simp,by simp⟩
theorem range_at {n j:Nat} {f:Nat→AV} {x:AV} {rest:List AV} (e:(List.range n).map f=(List.range j).map f++x :: rest):x=f j∧j < n:=by
 have h1:=congrArg (fun l=>l[j]?) e
 simp only [List.getElem?_append_right,List.length_map,List.length_range,Nat.le_refl,Nat.sub_self,List.getElem?_cons_zero,List.getElem?_map,List.getElem?_range] at h1
 by_cases z:j < n
 ·simp [z] at h1; exact ⟨h1.symm,z⟩
 ·simp [z] at h1
theorem ways_loop {st s:Store} {d a many:Nat} {m:Loc} {Q:Fl→Loc→Store→Prop} (E:Env5 m a st.length many) (h2:2≤many) (hm:many≤7) (M:MS st a s ((newsK many).map enc) [] [] [] [])
  (k:∀ m' s' ks out puts ends,Env5 m' a st.length many→MS st a s' (ks.map enc) out [] puts ends→WS many (many - 1) ks out [] puts ends→ks.length≤14→puts.length≤7→Q .next m' s'):exW (Vd (d + 2)) s_ways m s Q:=by
 refine xI E.many ?_
 refine And.intro ⟨by lia,by lia,by lia,by lia⟩ ?_
 rw [range1 many (by lia)]
 refine for_inv (fun done m' s'=>Env5 m' a st.length many∧Ex5 fun j ks out puts ends=>And6 (j≤many - 1) (done=(List.range j).map (fun k=>iN (k + 1))) (MS st a s' (ks.map enc) out [] puts ends) (WS many j ks out [] puts ends) (ks.length≤7 + j) (puts.length≤j)) (fun _ _ _ _=>trivial) ?_ ⟨E,0,newsK many,[],[],[],by lia,rfl,M,WS.zero many,by simp [newsK]; lia,by simp⟩ ?_
 ·intro done x rest e m' s' hI Q' kk
  obtain ⟨E',j,ks,out,puts,ends,hj,rfl,M',w,hk,hp⟩:=hI
  obtain ⟨rfl,hlt⟩:=range_at (f:=fun k=>iN (k + 1)) e
  refine way_step (E'.put (x:=w_at) rfl) get_put_eq (by lia) hm M' w (by lia) (by lia) fun m2 s2 ks2 out2 puts2 ends2 E2 M2 w2 hk2 hp2=>?_
  exact (kk m2 s2 ⟨E2,j + 1,ks2,out2,puts2,ends2,by lia,by simp [List.range_succ],M2,w2,by lia,by lia⟩).1
 ·rintro m' s' ⟨E',j,ks,out,puts,ends,hj,e,M',w,hk,hp⟩
  have:j=many - 1:=by have:=congrArg List.length e; simp at this; lia
  subst this
  exact k m' s' ks out puts ends E' M' w (by lia) (by lia)
end
end Mine
namespace Mine
section
set_option maxRecDepth 10000
@[reducible] noncomputable def s_turns:PS:=.forr (.nm w_turn) .range (.cons (.fn w__law_take (.cons (.nm w_source) (.cons (.cst (.int 5)) .nil))) .nil) (.seq (.asg (.tup (.cons (.nm w_held) (.cons (.nm w_holder) .nil))) (.tup (.cons (.fn w__law_take (.cons (.nm w_source) (.cons (.nm w_many) .nil))) (.cons (.fn w__law_take (.cons (.nm w_source) (.cons (.nm w_many) .nil))) .nil)))) (.seq (.ite (.cmp .notin (.cst (.int 0)) (.lst (.cons (.nm w_held) (.cons (.nm w_holder) .nil)))) (.seq (.exp (.meth (.nm w_lines) w_append (.cons (.tup (.cons (.cst (.str w_store)) (.cons (.tup (.cons (.cst (.str w_reg)) (.cons (.bin .add (.cst (.int 2)) (.nm w_holder)) .nil))) (.cons (.tup (.cons (.cst (.str w_reg)) (.cons (.bin .add (.cst (.int 2)) (.nm w_held)) .nil))) .nil)))) .nil))) (.seq (.exp (.meth (.nm w_pairs) w_append (.cons (.tup (.cons (.nm w_held) (.cons (.nm w_holder) .nil))) .nil))) .skip)) .skip) .skip))
theorem turns_loop {st s:Store} {d a many:Nat} {m:Loc} {ks:List Kd} {out:List Nat} {puts:List (Nat×Nat)} {ends:List Nat} {Q:Fl→Loc→Store→Prop} (E:Env5 m a st.length many) (h2:2≤many) (hm:many≤7) (M:MS st a s (ks.map enc) out [] puts ends) (w:WS many (many - 1) ks out [] puts ends) (hk:ks.length≤14)
  (k:∀ m' s' ks pairs,Env5 m' a st.length many→MS st a s' (ks.map enc) out pairs puts ends→WS many (many - 1) ks out pairs puts ends→Q .next m' s'):exW (Vd (d + 2)) s_turns m s Q:=by
 have al:=M.al
 refine xI E.s ?_
 refine take_spec M.src (by lia) (by lia) fun v o v0 v1 hs=>?_
 have M1:=M.take o hs
 obtain ⟨n,rfl⟩:∃ n:Nat,v=(n:Int):=⟨v.toNat,by lia⟩
 refine And.intro ⟨by lia,by lia⟩ ?_
 rw [range0]
 refine for_inv (fun done m' s'=>Env5 m' a st.length many∧Ex3 fun j ks pairs=>And6 (j≤n) (done=(List.range j).map iN) (MS st a s' (ks.map enc) out pairs puts ends) (WS many (many - 1) ks out pairs puts ends) (ks.length≤14 + j) (pairs.length≤j)) (fun _ _ _ _=>trivial) ?_ ⟨E,0,ks,[],by lia,rfl,M1,w,by lia,by simp⟩ ?_
 ·intro done x rest e m' s' hI Q' kk
  obtain ⟨E',j,ks,pairs,hj,rfl,M',w,hk,hp⟩:=hI
  obtain ⟨rfl,hlt⟩:=range_at (f:=iN) e
  have E1:=E'.put (x:=w_turn) (v:=iN j) rfl
  refine xI E1.s ?_
  refine xI E1.many ?_
  refine take_spec M'.src (by lia) (by lia) fun v1 o1 v10 v11 hs1=>?_
  have M2:=M'.take o1 hs1
  obtain ⟨x,rfl⟩:∃ n:Nat,v1=(n:Int):=⟨v1.toNat,by lia⟩
  refine xI E1.s ?_
  refine xI E1.many ?_
  refine take_spec M2.src (by lia) (by lia) fun v2 o2 v20 v21 hs2=>?_
  have M3:=M2.take o2 hs2
  obtain ⟨y,rfl⟩:∃ n:Nat,v2=(n:Int):=⟨v2.toNat,by lia⟩
  refine And.intro rfl ?_
  have E2:=(E1.put (x:=w_held) (v:=iN x) rfl).put (x:=w_holder) (v:=iN y) rfl
  have hx:get (put (put (put m' w_turn (iN j)) w_held (iN x)) w_holder (iN y)) w_held=some (iN x):=get_put_ne rfl get_put_eq
  have hy:get (put (put (put m' w_turn (iN j)) w_held (iN x)) w_holder (iN y)) w_holder=some (iN y):=get_put_eq
  refine xI hx ?_
  refine xI hy ?_
  have M4:=M3.app [.lst [iN x,iN y]]
  refine cmp_notin (memF_lst (l:=[iN x,iN y]) rfl set_new (by simp [allD]; exact ⟨rfl,rfl⟩) ?_)
  by_cases e0:AV.int 0∈[iN x,iN y]
  ·rw [show decide (AV.int 0∈[iN x,iN y])=true from decide_eq_true e0]
   exact (kk _ _ ⟨E2,j + 1,ks,pairs,by lia,by simp [List.range_succ],M4,w,by lia,by lia⟩).1
  ·rw [show decide (AV.int 0∈[iN x,iN y])=false from decide_eq_false e0]
   refine xI E2.l0 ?_
   refine m_lst M4.l0 ⟨rfl,?_⟩
   refine xI hy ?_
   refine xI hx ?_
   refine lst_append M4.l0 (by simp; lia) ?_
   have M5:=M4.set0 (ln':=(ks++[Kd.store y x]).map enc)
   rw [List.map_append] at M5
   refine xI E2.l2 ?_
   refine m_lst M5.l2 ⟨rfl,?_⟩
   refine xI hx ?_
   refine xI hy ?_
   refine lst_append M5.l2 (by simp; lia) ?_
   have M6:=M5.set2 (pairs':=pairs++[(x,y)])
   rw [List.map_append] at M6
   refine (kk _ _ ⟨E2,j + 1,ks++[Kd.store y x],pairs++[(x,y)],by lia,by simp [List.range_succ],?_,w.pair (by lia) (by lia),by simp; lia,by simp; lia⟩).1
   rw [List.map_append]; exact M6
 ·rintro m' s' ⟨E',j,ks,pairs,hj,e,M',w,hk,hp⟩
  exact k m' s' ks pairs E' M' w
end
end Mine
namespace Mine
section
set_option maxRecDepth 10000
theorem app5 {st:Store} {a b c x y:AObj}:st++[a]++[b]++[c]++[x]++[y]=st++[a,b,c,x,y]:=by simp
theorem len_4 {st:Store} {a b c x:AObj}:(st++[a]++[b]++[c]++[x]).length=st.length + 4:=by simp
theorem k_lst {V:MEnv} {m:Loc} {s:Store} {x:Nat} {E:PE} {t:AV} {l:List AV} {r:PS} {Q:KS} (hE:∀ K:KV,K t s→evW V E m s K) (ht:t.toL=some l) (h:exW V r (put m x (.ref s.length)) (s++[.lst l]) Q):exW V (.seq (.asg (.nm x) (.lst E)) r) m s Q:=hE _ (xI ht h)
theorem made_spec {st:Store} {d a many:Nat} {Q:AV→Store→Prop} (hs:SrcAt st a) (h2:2≤many) (hm:many≤7)
  (k:∀ s' r ks out pairs puts ends,MS st a s' (ks.map enc) out pairs puts ends→WS many (many - 1) ks out pairs puts ends→s'[r]?=some (.lst [.ref st.length,.ref (st.length + 1),.ref (st.length + 2),.ref (st.length + 3),.ref (st.length + 4)])→st.length < r→Q (.ref r) s') :
  callP mprog (d + 3) 0 w__law_made [.ref a,iN many] st Q:=by
 refine call_df rfl rfl ?_
 refine And.intro rfl ?_
 rw [app5,len_4,len_3,len_2,len_1]
 refine k_lst (fun _ q=>q) rfl ?_
 refine k_lst (fun _ q=>q) rfl ?_
 rw [snoc2,snoc2,len2,len2]
 have al:a < st.length:=by obtain ⟨_,_,e,_⟩:=hs; exact (List.getElem?_eq_some_iff.mp e).1
 have M:MS st a (st++[AObj.lst [],.lst [],.lst [],.lst [],.lst [],.lst quietL,.lst loudL]) [] [] [] [] []:=by
  obtain ⟨s0,s1,e,z⟩:=hs
  exact ⟨fun b o e _=>look_app e,al,⟨s0,s1,look_app e,z⟩,app_at (k:=0),app_at (k:=1),app_at (k:=2),app_at (k:=3),app_at (k:=4),app_at (k:=5),app_at (k:=6)⟩
 refine news_loop (a:=a) (many:=many) ⟨rfl,rfl,rfl,rfl,rfl,rfl,rfl,rfl,rfl⟩ hm M fun m1 s1 E1 M1=>?_
 refine ways_loop E1 h2 hm M1 fun m2 s2 ks out puts ends E2 M2 w2 hk hp=>?_
 refine turns_loop E2 h2 hm M2 w2 hk fun m3 s3 ks3 pairs E3 M3 w3=>?_
 refine xI E3.l0 ?_
 refine xI E3.l1 ?_
 refine xI E3.l2 ?_
 refine xI E3.l3 ?_
 refine xI E3.l4 ?_
 exact k _ _ ks3 out pairs puts ends (M3.app _) w3 set_new (by have:=(List.getElem?_eq_some_iff.mp M3.l0).1; exact this)
end
end Mine
namespace Mine
section
set_option maxRecDepth 10000
noncomputable def isOuter:Kd→Bool
 | .outer _=>true
 | _=>false
noncomputable def mkLD (many:Nat) (ks:List Kd) (out:List Nat) (pairs puts:List (Nat×Nat)) (ends:List Nat) (t:Bool):LD:=⟨many,pairs,puts,out,ends,t,ks.any isOuter⟩
theorem mkLD_ok {many:Nat} {ks:List Kd} {out:List Nat} {pairs puts:List (Nat×Nat)} {ends:List Nat} {t:Bool} (h2:2≤many) (hm:many≤7) (w:WS many (many - 1) ks out pairs puts ends) (ht:t=true→ends.length=1):(mkLD many ks out pairs puts ends t).Ok :=
 ⟨h2,hm,w.plt,w.qlt,fun a ha=>(w.olt a ha).2,w.eo,by have:=w.el; show ends.length≤7; lia,ht⟩
theorem mkLD_kc {many:Nat} {ks:List Kd} {out:List Nat} {pairs puts:List (Nat×Nat)} {ends:List Nat} {t:Bool} (w:WS many (many - 1) ks out pairs puts ends):KC (mkLD many ks out pairs puts ends t) ks:=by
 refine ⟨fun k hk=>?_,w.new,w.store,w.pt,fun a ha=>(w.lo a ha).imp (fun ⟨k,hk,l⟩=>⟨k,hk,l.gone⟩) id,fun h=>?_⟩
 ·have:=w.ok k hk
  cases k <;> first | exact this | exact ⟨this,List.any_eq_true.mpr ⟨_,hk,rfl⟩⟩
 ·obtain ⟨k,hk,e⟩:=List.any_eq_true.mp (show ks.any isOuter=true from h)
  cases k <;> first | exact ⟨_,hk⟩ | cases e
end
end Mine
namespace Mine
section
set_option maxRecDepth 10000
@[reducible] noncomputable def s_due:PS:=(.asg (.nm w_due) (.bi .dict (.cons (.comp (.tup (.cons (.tup (.cons (.cst (.str w_main_f)) (.cons (.nm w_at) .nil))) (.cons (.ife (.cmp .isin (.nm w_at) (.nm w_let_out)) (.cst (.str w_heap)) (.cst (.str w_frame))) .nil))) w_at .range (.cons (.nm w_many) .nil) (.cst (.bool true))) .nil)))
@[reducible] noncomputable def hfv (lo:List Nat) (a:Nat):AV:=if a∈lo then c_HEAP else c_FRAME
@[reducible] noncomputable def dueL (lo:List Nat) (n:Nat):List (AV×AV):=(List.range n).map fun (a:Nat)=>(sKey a,hfv lo a)
theorem kget_of_mem {d:List (AV×AV)} {q:AV×AV}:(d.map (·.1)).Nodup→q∈d→kget d q.1=some q.2:=by
 induction d with
 | nil=>intro _ h; cases h
 | cons b d ih =>
  obtain ⟨b1,b2⟩:=b
  intro hn h
  have hn':=List.nodup_cons.mp hn
  rcases List.mem_cons.mp h with rfl | h
  ·exact if_pos rfl
  ·have:¬ b1=q.1:=fun z=>hn'.1 (by rw [z]; exact List.mem_map.mpr ⟨q,h,rfl⟩)
   exact (if_neg this).trans (ih hn'.2 h)
theorem mkD_due (lo:List Nat) (l:List Nat):∀ (d:List (AV×AV)),(∀ a∈l,sKey a ∉ d.map (·.1))→l.Nodup→(∀ a∈l,a < 7)→mkD d (l.map fun (a:Nat)=>pr (sKey a) (hfv lo a))=some (d++l.map fun (a:Nat)=>(sKey a,hfv lo a)):=by
 induction l with
 | nil=>intro d _ _ _; exact congrArg some (List.append_nil d).symm
 | cons a l ih =>
  intro d h hn h7
  have hn':=List.nodup_cons.mp hn
  have hd:(sKey a).isD=true:=W_isD (sKey_W a (h7 a List.mem_cons_self)).1
  show (if (sKey a).isD=true then mkD (kput d (sKey a) (hfv lo a)) (l.map fun (a:Nat)=>pr (sKey a) (hfv lo a)) else none)=_
  rw [if_pos hd,kput_newP (kget_noneP (h a List.mem_cons_self)),ih _ (fun b hb=>?_) hn'.2 fun b hb=>h7 b (List.mem_cons_of_mem _ hb)]
  ·rw [List.append_assoc]; rfl
  ·rw [List.map_append]
   exact fun z=>(List.mem_append.mp z).elim (h b (List.mem_cons_of_mem _ hb)) fun z=>hn'.1 (sKey_inj (List.mem_singleton.mp z) ▸ hb)
theorem due_spec {st:Store} {d il many:Nat} {lo:List Nat} {m:Loc} {Q:Fl→Loc→Store→Prop} (hm:many≤7) (g1:get m w_many=some (iN many)) (g2:get m w_let_out=some (.ref il)) (hl:st[il]?=some (.lst (lo.map iN)))
  (k:∀ g r,(st++g)[r]?=some (.dct (dueL lo many))→st.length≤r→Q .next (put m w_due (.ref r)) (st++g)):exW (Vd d) s_due m st Q:=by
 refine xI g1 ?_
 refine And.intro ⟨by lia,by lia⟩ ?_
 rw [range0]
 refine comp_inv (fun done acc s=>st=s∧∃ j,j≤many∧done=(List.range j).map iN∧acc=(List.range j).map fun (a:Nat)=>pr (sKey a) (hfv lo a)) (fun _ _ _ _=>trivial) ?_ ⟨rfl,0,by lia,rfl,rfl⟩ ?_
 ·intro done x rest e acc _ hI Q' kk
  obtain ⟨rfl,j,hj,rfl,rfl⟩:=hI
  obtain ⟨rfl,hlt⟩:=range_at (f:=iN) e
  refine xI (get_put_eq) ?_
  refine xI (get_put_eq) ?_
  refine xI (get_put_ne rfl g2) ?_
  refine cmp_isin (memF_lst rfl hl allD_iN ?_)
  rw [show decide (iN j∈lo.map iN)=decide (j∈lo) from by simp only [mem_iN]]
  have fin:=kk ((List.range (j + 1)).map fun (a:Nat)=>pr (sKey a) (hfv lo a)) st ⟨rfl,j + 1,by lia,by simp [List.range_succ],rfl⟩
  rw [show ((List.range (j + 1)).map fun (a:Nat)=>pr (sKey a) (hfv lo a))=((List.range j).map fun (a:Nat)=>pr (sKey a) (hfv lo a))++[pr (sKey j) (hfv lo j)] from by simp [List.range_succ]] at fin
  by_cases ej:j∈lo
  ·simp only [ej,decide_true]
   rw [show hfv lo j=c_HEAP from by simp [hfv,ej]] at fin
   exact ⟨by simp; lia,fin⟩
  ·simp only [ej,decide_false]
   rw [show hfv lo j=c_FRAME from by simp [hfv,ej]] at fin
   exact ⟨by simp; lia,fin⟩
 ·rintro acc _ ⟨rfl,j,hj,e,rfl⟩
  have:j=many:=by have:=congrArg List.length e; simp at this; lia
  subst this
  refine ⟨_,_,set_new,by simp; lia,mkD_due lo (List.range j) [] (by simp) List.nodup_range (fun a ha=>by have:=List.mem_range.mp ha; lia),?_⟩
  have:=k ([.lst ((List.range j).map fun (a:Nat)=>pr (sKey a) (hfv lo a))]++[.dct (dueL lo j)]) (st++[AObj.lst ((List.range j).map fun (a:Nat)=>pr (sKey a) (hfv lo a))]).length (by rw [← List.append_assoc]; exact set_new) (by simp)
  rw [← List.append_assoc] at this
  exact this
theorem dictEq_due {lo:List Nat} {n:Nat} {fd:List (AV×AV)} (hn:(fd.map (·.1)).Nodup) (hk:∀ s,s∈fd.map (·.1)↔∃ a,a < n∧s=sKey a) (hv:∀ a,a < n→kget fd (sKey a)=some (hfv lo a)):dictEq fd (dueL lo n)=true:=by
 have kd:∀ a,a < n→kget (dueL lo n) (sKey a)=some (hfv lo a):=fun a ha=>by
  have:∀ l:List Nat,a∈l→kget (l.map fun (a:Nat)=>(sKey a,hfv lo a)) (sKey a)=some (hfv lo a):=fun l=>by
   induction l with
   | nil=>intro h; simp at h
   | cons b l ih =>
    intro h
    by_cases e:b=a
    ·subst e; simp [kget_n,kget_c]
    ·have:¬ sKey b=sKey a:=fun z=>e (sKey_inj z)
     simp only [List.map_cons,kget_n,kget_c,this,if_false]
     simp at h; exact ih (h.resolve_left fun z=>e z.symm)
  exact this _ (List.mem_range.mpr ha)
 simp only [dictEq,Bool.and_eq_true,beq_iff_eq,List.all_eq_true]
 refine ⟨?_,fun p hp=>?_⟩
 ·have l1:(fd.map (·.1)).length≤((List.range n).map fun (a:Nat)=>sKey a).length:=nodup_len hn fun s hs=>by
   obtain ⟨a,ha,rfl⟩:=(hk s).mp hs
   exact List.mem_map.mpr ⟨a,List.mem_range.mpr ha,rfl⟩
  have nd:((List.range n).map fun (a:Nat)=>sKey a).Nodup:=by
   refine List.pairwise_map.mpr (List.Pairwise.imp (fun h z=>h (sKey_inj z)) List.nodup_range)
  have l2:((List.range n).map fun (a:Nat)=>sKey a).length≤(fd.map (·.1)).length:=nodup_len nd fun s hs=>by
   obtain ⟨a,ha,rfl⟩:=List.mem_map.mp hs
   exact (hk _).mpr ⟨a,List.mem_range.mp ha,rfl⟩
  simp at l1 l2 ⊢; lia
 ·obtain ⟨a,ha,e⟩:=(hk p.1).mp (List.mem_map.mpr ⟨p,hp,rfl⟩)
  have:=kget_of_mem hn hp
  rw [e,hv a ha] at this
  rw [e,kd a ha,this]
end
end Mine
namespace Mine
section
set_option maxRecDepth 10000
theorem eqc {V:MEnv} {m:Loc} {st:Store} {a b:Int} {K:Bool→Store→Prop} (k:K (decide (a=b)) st):evW V (.cst (.int b)) m st (fun y s2=>cmpF .eq s2 (.int a) y fun r=>K r s2):=by
 show eqF st (.int a) (.int b) fun r=>K r st
 refine ⟨rfl,rfl,?_⟩
 rw [show decide (AV.int a=AV.int b)=decide (a=b) from by simp]; exact k
theorem add2 {st:Store} {n:Nat} {K:AV→Store→Prop} (k:K (iN (2 + n)) st):binF .add st (.int 2) (.int (n:Int)) K:=by
 show K (.int (2 + (n:Int))) st
 rw [show (2 + (n:Int))=((2 + n:Nat):Int) by lia]; exact k
theorem eqd {st:Store} {i j:Nat} {d e:List (AV×AV)} {Q:Bool→Prop} (hi:st[i]?=some (.dct d)) (hj:st[j]?=some (.dct e)) (vd:∀ p∈d,p.2.isD=true) (ve:∀ p∈e,p.2.isD=true) (k:Q (dictEq d e)):cmpF .eq st (.ref i) (.ref j) Q:=by
 show eqF st (.ref i) (.ref j) Q
 show objM st[i]? _ _ _
 rw [hi]
 show objM st[j]? _ _ _
 rw [hj]
 exact ⟨vd,ve,k⟩
theorem mul3 {st:Store} {i:Nat} {l:List AV} {K:AV→Store→Prop} (h:st[i]?=some (.lst l)) (hl:l.length≤1) (k:K (.ref st.length) (st++[.lst (List.replicate 3 l).flatten])):binF .mul st (.ref i) (.int 3) K:=by
 show objM st[i]? _ _ _
 rw [h]
 exact ⟨by decide,by decide,hl,k⟩
@[reducible] noncomputable def s_thrown:PS:=(.asg (.nm w_is_thrown) (.band (.cmp .eq (.fn w__law_take (.cons (.nm w_source) (.cons (.cst (.int 4)) .nil))) (.cst (.int 0))) (.cmp .eq (.bi .len (.cons (.nm w_ends) .nil)) (.cst (.int 1)))))
theorem thrown_spec {st:Store} {d a ie:Nat} {ends:List Nat} {m:Loc} {K:Fl→Loc→Store→Prop} (S:SrcAt st a) (g1:get m w_source=some (.ref a)) (g2:get m w_ends=some (.ref ie)) (hie:st[ie]?=some (.lst (ends.map reg))) (ha:ie≠a) (hlen:ends.length < 2 ^ 20)
  (k:∀ t o,SrcAt (st.set a o) a→(t=true→ends.length=1)→K .next (put m w_is_thrown (.bool t)) (st.set a o)):exW (Vd (d + 1)) s_thrown m st K:=by
 refine xI (g1) ?_
 refine take_spec S (by decide) (by decide) fun v o v0 v1 S2=>?_
 refine eqc ?_
 by_cases e:v=0
 ·rw [decide_eq_true e]
  refine xI (g2) ?_
  refine bi_len (set_keep hie ha) (by simp; lia) ?_
  refine eqc ?_
  refine k _ o S2 fun z=>?_
  have:=of_decide_eq_true z
  simp at this; lia
 ·rw [decide_eq_false e]
  exact k false o S2 fun z=>by cases z
@[reducible] noncomputable def s_end:PS:=(.asg (.nm w_end) (.ife (.nm w_is_thrown) (.tup (.cons (.cst (.str w_panic)) (.cons (.sub (.nm w_ends) (.cst (.int 0))) .nil))) (.tup (.cons (.cst (.str w_return)) (.cons (.bi .tuple (.cons (.nm w_ends) .nil)) .nil)))))
theorem end_spec {st:Store} {d ie:Nat} {D:LD} {m:Loc} {K:Fl→Loc→Store→Prop} (g1:get m w_is_thrown=some (.bool D.thrown)) (g2:get m w_ends=some (.ref ie)) (hie:st[ie]?=some (.lst (D.ends.map reg))) (ht:D.thrown=true→D.ends.length=1) (hlen:D.ends.length < 2 ^ 20)
  (k:K .next (put m w_end (te D)) st):exW (Vd d) s_end m st K:=by
 refine xI (g1) ?_
 cases e:D.thrown with
 | true =>
  obtain ⟨x,hx⟩:∃ x,D.ends=[x]:=by
   match D.ends,ht e with
   | [x],_=>exact ⟨x,rfl⟩
  have ek:te D=pr (.str w_panic) (reg x):=by simp [te,e,hx]
  rw [ek] at k
  rw [hx] at hie
  refine xI (g2) ?_
  refine xI (sub_lst hie (by decide) rfl) ?_
  exact k
 | false =>
  have ek:te D=pr (.str w_return) (AV.ofL (D.ends.map reg)):=by simp [te,e]
  rw [ek] at k
  refine xI (g2) ?_
  refine ⟨_,hie,by simp; lia,?_⟩
  exact k
end
end Mine
namespace Mine
section
set_option maxRecDepth 10000
@[reducible] noncomputable def s_idle:PS:=(.asg (.nm w_idle) (.fn w_Code (.cons (.cst (.str w_main_i)) (.cons (.cst (.int 2)) (.cons (.bin .mul (.lst (.cons (.gl w__law_T) .nil)) (.cst (.int 3))) (.cons (.lst (.cons (.lst (.cons (.lst (.cons (.tup (.cons (.cst (.str w_new)) (.cons (.cst (.int 2)) (.cons (.gl w__law_T) (.cons (.tup (.cons (.cst (.str w_main_i)) (.cons (.cst (.int 1)) .nil))) .nil))))) .nil)) (.cons (.tup (.cons (.cst (.str w_return)) (.cons (.tup (.cons (.tup (.cons (.cst (.str w_reg)) (.cons (.cst (.int 0)) .nil))) .nil)) .nil))) .nil))) .nil)) (.cons (.cst (.int 0)) (.cons (.cst (.int 1)) .nil))))))))
@[reducible] noncomputable def s_last:PS:=(.ret (.band (.cmp .eq (.nm w_told) (.nm w_due)) (.cmp .eq (.fn w_escapes (.cons (.dct (.cons (.cst (.str w_main_i)) (.cons (.nm w_idle) .nil))) .nil)) (.dct (.cons (.tup (.cons (.cst (.str w_main_i)) (.cons (.cst (.int 1)) .nil))) (.cons (.cst (.str w_frame)) .nil))))))
theorem idle_spec {st:Store} {d:Nat} {m:Loc} {K:Fl→Loc→Store→Prop} (k:∀ g cd t,CodeAt (st++g) cd [iIdle t] (pr (.str w_return) (AV.ofL [rg 0]))→K .next (put m w_idle (.ref cd)) (st++g)):exW (Vd (d + 2)) s_idle m st K:=by
 refine mul3 set_new (by simp) ?_
 refine code_new (rl:=(st++[AObj.lst [c__law_T]]).length) (bl:=(st++[AObj.lst [c__law_T]]++[AObj.lst (List.replicate 3 [c__law_T]).flatten]++[AObj.lst [iIdle c__law_T]]++[AObj.lst [AV.ref (st++[AObj.lst [c__law_T]]++[AObj.lst (List.replicate 3 [c__law_T]).flatten]).length,pr (.str w_return) (AV.ofL [rg 0])]]).length) (b1:=(st++[AObj.lst [c__law_T]]++[AObj.lst (List.replicate 3 [c__law_T]).flatten]++[AObj.lst [iIdle c__law_T]]).length) (il:=(st++[AObj.lst [c__law_T]]++[AObj.lst (List.replicate 3 [c__law_T]).flatten]).length) (te:=pr (.str w_return) (AV.ofL [rg 0])) (ins:=[iIdle c__law_T])
  (look_app (look_app (look_app set_new))) (by decide) set_new (look_app set_new) (look_app (look_app set_new)) rfl fun g cd C=>?_
 have:=k ([AObj.lst [c__law_T]]++[AObj.lst (List.replicate 3 [c__law_T]).flatten]++[AObj.lst [iIdle c__law_T]]++[AObj.lst [AV.ref (st++[AObj.lst [c__law_T]]++[AObj.lst (List.replicate 3 [c__law_T]).flatten]).length,pr (.str w_return) (AV.ofL [rg 0])]]++[AObj.lst [AV.ref (st++[AObj.lst [c__law_T]]++[AObj.lst (List.replicate 3 [c__law_T]).flatten]++[AObj.lst [iIdle c__law_T]]).length]]++g) cd c__law_T
 simp only [← List.append_assoc] at this
 exact this C
theorem dictEq_one {fd:List (AV×AV)} {x v:AV} (hn:(fd.map (·.1)).Nodup) (hk:∀ s,s∈fd.map (·.1)↔s=x) (hv:kget fd x=some v):fd=[(x,v)]:=by
 match fd,hn,hk,hv with
 | [],_,hk,_=>have:=(hk x).mpr rfl; simp at this
 | [(a,b)],_,hk,hv =>
  have ea:a=x:=(hk a).mp (by simp)
  subst ea
  simp [kget_n,kget_c] at hv
  rw [hv]
 | (a,b) :: (c,e) :: r,hn,hk,_ =>
  have ea:a=x:=(hk a).mp (by simp)
  have ec:c=x:=(hk c).mp (by simp)
  subst ea; subst ec
  simp at hn
theorem dictEq_self {x v:AV}:dictEq [(x,v)] [(x,v)]=true:=by simp [dictEq,kget_n,kget_c]
theorem last_spec {st:Store} {d it iu ci:Nat} {t:AV} {m:Loc} {fd du:List (AV×AV)} {K:Fl→Loc→Store→Prop} (g1:get m w_told=some (.ref it)) (g2:get m w_due=some (.ref iu)) (g3:get m w_idle=some (.ref ci)) (h1:st[it]?=some (.dct fd)) (h2:st[iu]?=some (.dct du)) (v1:∀ p∈fd,p.2.isD=true) (v2:∀ p∈du,p.2.isD=true) (e:dictEq fd du=true)
  (C:CodeAt st ci [iIdle t] (pr (.str w_return) (AV.ofL [rg 0]))) (k:∀ st',K (.ret (.bool true)) m st'):exW (Vd (d + 11)) s_last m st K:=by
 refine xI (g1) ?_
 refine xI (g2) ?_
 refine eqd h1 h2 v1 v2 ?_
 rw [e]
 refine xI (g3) ?_
 refine escapes_idle (st0:=st++[AObj.dct [(kI,AV.ref ci)]]) set_new (C.keep fun a o e=>look_app e) fun st' fd' q1 q2 q3 q4 q5=>?_
 have ef:=dictEq_one q3 q4 q5
 subst ef
 refine eqd (look_app q2) set_new (fun p hp=>?_) (fun p hp=>?_) ?_
 ·rw [List.mem_singleton.mp hp]; rfl
 ·rw [List.mem_singleton.mp hp]; rfl
 ·rw [show dictEq [(iKey,c_FRAME)] (kput [] iKey c_FRAME)=true from dictEq_self]
  exact k _
end
end Mine
namespace Mine
section
set_option maxRecDepth 10000
set_option tactic.hygienic true in
theorem seqI {V:MEnv} {a b:PS} {m:Loc} {st:Store} {Q:Fl→Loc→Store→Prop} (k:exW V a m st fun fl m1 s1=>match fl with | .next=>exW V b m1 s1 Q | fl=>Q fl m1 s1):exW V (.seq a b) m st Q:=k
theorem L_iff {many:Nat} {ks:List Kd} {out:List Nat} {pairs puts:List (Nat×Nat)} {ends:List Nat} {t:Bool} {l7:List (Nat×Nat)} {lo:List Nat} (h:∀ x y,(x,y)∈l7↔Cc pairs puts x y) (g:∀ x,x∈lo↔∃ o∈out,Rea (fun x h=>(x,h)∈l7) o x) (a:Nat):a∈lo↔(mkLD many ks out pairs puts ends t).L true a:=by
 rw [g]
 constructor
 ·rintro ⟨o,ho,r⟩; exact ⟨o,ho,r.mono fun x y z=>(h x y).mp z⟩
 ·rintro ⟨o,ho,r⟩; exact ⟨o,ho,Rea.mono (S:=Cc pairs puts) (fun x y z=>(h x y).mpr z) r⟩
theorem hfv_D (lo:List Nat) (a:Nat):(hfv lo a).isD=true:=by simp only [hfv]; split <;> rfl
set_option maxHeartbeats 8000000 in
theorem walk {d:Nat} {ns:List Int} (hl:ns.length≤63):callP mprog (d + 12) 0 w_law [.ref 0] [.scr ns] (fun v _=>v=.bool true):=by
 refine call_df rfl rfl ?_
 show exW _ _ [(w_script,.ref 0)] _ _
 refine pool_spec (st:=[AObj.scr ns]) rfl hl fun o0 S0=>?_
 generalize [AObj.scr ns]++[o0]=s0 at *
 generalize [AObj.scr ns].length=a at *
 refine take_spec S0 (by decide) (by decide) fun v o1 v0 v1 S1=>?_
 obtain ⟨n,rfl⟩:=Int.eq_ofNat_of_zero_le v0
 refine add2 ?_
 generalize s0.set a o1=s1 at *
 have n6:n < 6:=by lia
 refine made_spec (many:=2 + n) S1 (by lia) (by lia) fun s2 r ks out pairs puts ends M w hr hlt=>?_
 refine xI (unp_lst hr) ?_
 refine And.intro rfl ?_
 show exW _ _ [(w_script,.ref 0),(w_source,.ref a),(w_many,iN (2 + n)),(w_lines,.ref s1.length),(w_out,.ref (s1.length + 1)),(w_pairs,.ref (s1.length + 2)),(w_puts,.ref (s1.length + 3)),(w_ends,.ref (s1.length + 4))] _ _
 have el:ends.length < 2 ^ 20:=by have:=w.el; lia
 refine seqI ?_
 refine thrown_spec (ends:=ends) M.src rfl rfl M.l4 (by have:=M.al; lia) el fun t o2 S2 ht=>?_
 have M2:=M.take o2 S2
 generalize s2.set a o2=s3 at *
 show exW _ _ [(w_script,.ref 0),(w_source,.ref a),(w_many,iN (2 + n)),(w_lines,.ref s1.length),(w_out,.ref (s1.length + 1)),(w_pairs,.ref (s1.length + 2)),(w_puts,.ref (s1.length + 3)),(w_ends,.ref (s1.length + 4)),(w_is_thrown,.bool t)] _ _
 refine seqI ?_
 refine end_spec (D:=mkLD (2 + n) ks out pairs puts ends t) rfl rfl M2.l4 ht el ?_
 have ok:=mkLD_ok (t:=t) (by lia) (by lia) w ht
 have kc:=mkLD_kc (t:=t) w
 show exW _ _ [(w_script,.ref 0),(w_source,.ref a),(w_many,iN (2 + n)),(w_lines,.ref s1.length),(w_out,.ref (s1.length + 1)),(w_pairs,.ref (s1.length + 2)),(w_puts,.ref (s1.length + 3)),(w_ends,.ref (s1.length + 4)),(w_is_thrown,.bool t),(w_end,te (mkLD (2 + n) ks out pairs puts ends t))] _ _
 refine helpers_spec fun s4 cl cs cp keep hd C1 C2 C3=>?_
 show exW _ _ [(w_script,.ref 0),(w_source,.ref a),(w_many,iN (2 + n)),(w_lines,.ref s1.length),(w_out,.ref (s1.length + 1)),(w_pairs,.ref (s1.length + 2)),(w_puts,.ref (s1.length + 3)),(w_ends,.ref (s1.length + 4)),(w_is_thrown,.bool t),(w_end,te (mkLD (2 + n) ks out pairs puts ends t)),(w_codes,.ref s3.length)] _ _
 refine code_spec (ins:=ks.map enc) (keep _ _ M2.l0) fun g cf C4=>?_
 have hd':=look_app (L:=g) hd
 refine xI (setI_dct rfl hd' (by show (3:Nat) < _; decide)) ?_
 have K5:Keep2 s4 ((s4++g).set s3.length (.dct (kput [(kL,.ref cl),(kS,.ref cs),(kP,.ref cp)] kF (.ref cf)))):=(Keep2.app _ _).trans (Keep2.set hd')
 have E:ECtx ((s4++g).set s3.length (.dct (kput [(kL,.ref cl),(kS,.ref cs),(kP,.ref cp)] kF (.ref cf)))) s3.length cl cs cp cf (mkLD (2 + n) ks out pairs puts ends t) ks :=
  ⟨set_self hd',C4.keep2 (Keep2.set hd'),C1.keep2 K5,C2.keep2 K5,C3.keep2 K5⟩
 have q1:=K5 _ _ (keep _ _ M2.l1) (by simp)
 have q2:=K5 _ _ (keep _ _ M2.l2) (by simp)
 have q3:=K5 _ _ (keep _ _ M2.l3) (by simp)
 show exW _ _ _ ((s4++g).set s3.length (.dct (kput [(kL,.ref cl),(kS,.ref cs),(kP,.ref cp)] kF (.ref cf)))) _
 generalize (s4++g).set s3.length (.dct (kput [(kL,.ref cl),(kS,.ref cs),(kP,.ref cp)] kF (.ref cf)))=s5 at *
 refine escapes_spec ok kc E fun s6 fd k6 hfd nd hk hv=>?_
 refine closed_spec (ps:=pairs) (pp:=puts) (k6 _ _ q2) (k6 _ _ q3) (fun p hp=>by have:=w.plt p.1 p.2 hp; lia) (fun p hp=>by have:=w.qlt p.1 p.2 hp; lia) fun g7 r7 l7 h7 _ hl7 _=>?_
 refine let_spec (out:=out) (ps:=l7) (look_app (k6 _ _ q1)) h7 (fun x hx=>(w.olt x hx).2) (fun p hp=>(ok.c_lt (b:=true) ((hl7 p.1 p.2).mp hp)).1) (by lia) w.ond fun g8 r8 lo h8 _ hlo=>?_
 refine And.intro rfl ?_
 show exW _ _ [(w_script,.ref 0),(w_source,.ref a),(w_many,iN (2 + n)),(w_lines,.ref s1.length),(w_out,.ref (s1.length + 1)),(w_pairs,.ref (s1.length + 2)),(w_puts,.ref (s1.length + 3)),(w_ends,.ref (s1.length + 4)),(w_is_thrown,.bool t),(w_end,te (mkLD (2 + n) ks out pairs puts ends t)),(w_codes,.ref s3.length),(w_told,.ref (s5.length + 1)),(w_let_out,.ref r8)] _ _
 have Li:=L_iff (many:=2 + n) (ks:=ks) (ends:=ends) (t:=t) hl7 hlo
 refine seqI ?_
 refine due_spec (lo:=lo) (many:=2 + n) (by lia) rfl rfl h8 fun g9 r9 h9 _=>?_
 show exW _ _ [(w_script,.ref 0),(w_source,.ref a),(w_many,iN (2 + n)),(w_lines,.ref s1.length),(w_out,.ref (s1.length + 1)),(w_pairs,.ref (s1.length + 2)),(w_puts,.ref (s1.length + 3)),(w_ends,.ref (s1.length + 4)),(w_is_thrown,.bool t),(w_end,te (mkLD (2 + n) ks out pairs puts ends t)),(w_codes,.ref s3.length),(w_told,.ref (s5.length + 1)),(w_let_out,.ref r8),(w_due,.ref r9)] _ _
 refine seqI ?_
 refine idle_spec fun g10 ci ty C5=>?_
 show exW _ _ [(w_script,.ref 0),(w_source,.ref a),(w_many,iN (2 + n)),(w_lines,.ref s1.length),(w_out,.ref (s1.length + 1)),(w_pairs,.ref (s1.length + 2)),(w_puts,.ref (s1.length + 3)),(w_ends,.ref (s1.length + 4)),(w_is_thrown,.bool t),(w_end,te (mkLD (2 + n) ks out pairs puts ends t)),(w_codes,.ref s3.length),(w_told,.ref (s5.length + 1)),(w_let_out,.ref r8),(w_due,.ref r9),(w_idle,.ref ci)] _ _
 have v1:∀ p∈fd,p.2.isD=true:=fun p hp=>by
  obtain ⟨b,hb,e⟩:=(hk p.1).mp (List.mem_map.mpr ⟨p,hp,rfl⟩)
  have z:=kget_of_mem nd hp
  rw [e] at z
  by_cases lb:(mkLD (2 + n) ks out pairs puts ends t).L true b
  ·rw [(hv b hb).1 lb] at z; rw [← Option.some.inj z]; rfl
  ·rw [(hv b hb).2 lb] at z; rw [← Option.some.inj z]; rfl
 have v2:∀ p∈dueL lo (2 + n),p.2.isD=true:=fun p hp=>by
  obtain ⟨b,_,rfl⟩:=List.mem_map.mp hp
  exact hfv_D lo b
 have de:dictEq fd (dueL lo (2 + n))=true:=dictEq_due nd hk fun b hb=>by
  by_cases lb:b∈lo
  ·rw [(hv b hb).1 ((Li b).mp lb)]; simp [hfv,lb]
  ·rw [(hv b hb).2 fun z=>lb ((Li b).mpr z)]; simp [hfv,lb]
 refine seqI ?_
 refine last_spec (fd:=fd) (du:=dueL lo (2 + n)) rfl rfl rfl (look_app (look_app (look_app (look_app hfd)))) (look_app h9) v1 v2 de C5 fun st'=>?_
 rfl
theorem law_plainP:∀ ns:List Int,ns.length≤63→∃ d,d≤60∧callP mprog d 0 w_law [.ref 0] [.scr ns] (fun v _=>v=.bool true):=fun _ h=>⟨12,by decide,walk (d:=0) h⟩
end
end Mine
namespace Mine
theorem law_plain:∀ ns:List Int,ns.length≤63→∃ d,d≤60∧callW mprog d 0 w_law [.ref 0] [.scr ns] fun v _=>v=.bool true:=fun ns h=>by
 have:=law_plainP ns h
 rw [callP_eq] at this
 exact this
theorem law_said:PySem.Challenge.rw_pq0227_01.wellSaid=true:=by
 rw [PySem.W.Fast.te9446332074065402090]
 unfold PySem.W.Fast.tw9446332074065402090 PySem.W.Fast.tw17960256430627541270 PySem.W.Fast.tw2436336058641802641 PySem.W.Fast.tw12908688711261696721
 repeat' with_reducible apply PySem.W.look_both
 all_goals decide +kernel
end Mine
namespace Mine
section
set_option maxRecDepth 1000000
set_option maxHeartbeats 0
open PySem PySem.W PyProof.Rows PySem.Calls
theorem ProgOk.keeps {P:Prog} {K:Frag} {cl:Nat→Addr} {fa:Nat→Nat→Addr} {B B':Heap} (X:ProgOk P K cl fa B) (k:∀ b o,B.get? b=some o→B'.get? b=some o):ProgOk P K cl fa B' where
 vok:=fun C=>by
  have V:=X.vok C
  obtain ⟨mg,h1,h2,h3,h4⟩:=V.glob
  obtain ⟨mb,b1,b2,b3,b4,b5⟩:=V.blt
  exact ⟨V.kok,V.kin.keeps k,V.nok,V.sok,V.stuck,⟨mg,h1.keeps k,fun x v e=>let ⟨u,a,b⟩:=h2 x v e; ⟨u,a,b.tk (TK.of_keep k)⟩,h3,h4⟩,⟨mb,b1.keeps k,b2,b3,b4,b5⟩,V.keep,V.meth⟩
 lim:=X.lim.keeps k
 sys:=let ⟨o,e⟩:=X.sys; ⟨o,k _ o e⟩
 df:=fun c f ps ds body e=>by
  obtain ⟨o,fd,sb,a,b,D⟩:=(X.df c f ps ds body e).ex
  refine ⟨⟨o,fd,sb,k _ o a,b,{ D with code:=D.code.keeps k,dflt:=?_ }⟩⟩
  rcases D.dflt with z | ⟨t,dus,e,ht,hv⟩
  ·exact .inl z
  ·exact .inr ⟨t,dus,e,isTup_tk ht (TK.of_keep k),hv.mono (TK.of_keep k) (Nat.le_refl _) fun _ _=>rfl⟩
 cls:=X.cls
theorem ns_uniq {h:Heap} {a:Addr} {m m':Str→Option Value} (x:h.Ns a m) (y:h.Ns a m'):m=m':=by
 obtain ⟨o,es,ep,e,d,_,f⟩:=x
 obtain ⟨o',es',ep',e',d',_,f'⟩:=y
 rw [e] at e'; cases e'
 rw [d] at d'; cases d'
 funext n; rw [← f n,← f' n]
theorem leftF:LeftO pp q0 loose0 (fun s=>xlAt q0 [] s) (fun s=>okProg s.heap.get?) (fun _=>true) 2400:=left_of opening_eq rfl fence_eq run2
noncomputable def okH (h:Heap):Prop:=∃ K cl fa,ProgOk mprog K cl fa h
theorem okH_of (s:PySem.Shared) (h:okProg s.heap.get?=true):okH s.heap:=⟨_,_,_,progOk h⟩
theorem okH_keeps (h h':Heap) (x:okH h) (k:∀ b o,h.get? b=some o→h'.get? b=some o):okH h':=let ⟨K,cl,fa,z⟩:=x; ⟨K,cl,fa,z.keeps k⟩
theorem hYs (w:World) (s:PySem.Shared):(fun s:PySem.Shared=>okProg s.heap.get?) s=(fun _:World=>true) w→(fun (_:World) h=>okH h) w s.heap:=fun e=>okH_of s e
theorem wlaw_isSome:(mprog.fns 0 w_law).isSome=true:=by decide +kernel
theorem wlaw_T:T w_law=Str.ofString "law":=by decide +kernel
theorem fa_eq {mg mg':Str→Option Value} {n m:Str} {a b:Addr} (e2:mg'=mg) (e:n=m) (h1:mg' n=some (.ref a)) (h2:mg m=some (.ref b)):a=b:=by
 subst e2 e; rw [h1] at h2; cases h2; rfl
set_option tactic.hygienic true in
theorem foo:PySem.Challenge.rw_pq0227_01.Holds:=by
 w_on
 refine holds_law law_said fun said=>?_
 refine holds_open (r:=PySem.Challenge.rw_pq0227_01.row) (q:=q0) (loose:=loose0) (Xt:=fun s=>xlAt q0 [] s) (XP:=XL q0 []) (Yf:=fun s=>okProg s.heap.get?) (Ya:=fun _=>true) (YP:=fun _ h=>okH h) (N:=2400)
  leftF hYs (fun _=>okH_keeps) (fun s e=>xl_of s e) XL.keeps (by rfl) (by rfl) (by rfl) (fun s _=>recFacts_nil rfl) rfl said (by decide +kernel) ⟨rfl,rfl,rfl,rfl,rfl,by decide +kernel⟩ ?hw ?hc
 case hw=>w_witness2
 intro w s₀ s₁ mg mb G Y fa o pm cd doc dV kV ho hd hcd hD hmg hg args vals as hpre hlay hrd hwl hlo
 wrow_args hpre hlay hrd hwl hlo
 clear hcd hd hD
 rename_i ns _ _ _ _ _ _ _ a vs _ hL _ _ _ hI _ hmost _
 obtain ⟨K,cl,fa',X⟩:=Y
 obtain ⟨d,hd60,hlaw⟩:=law_plain ns (by lia)
 have hmg':mg (Str.ofString "law")=some (.ref fa):=hmg
 clear hmg
 obtain ⟨mg',hmm,_,hfn,_⟩:=(X.vok (callW mprog d)).glob
 have e1:mg' (T w_law)=some (.ref (fa' 0 w_law)):=hfn w_law wlaw_isSome
 have e2:mg'=mg:=ns_uniq hmm G.T.g
 have e4:fa' 0 w_law=fa:=fa_eq e2 wlaw_T e1 hmg'
 have hlt:a < s₁.heap.objs.size:=by obtain ⟨o,ho,_⟩:=hL; exact Heap.lt_size ho
 have R:Rel w cl s₁.heap (fun _=>a) [.scr ns] s₁.heap:=by
  refine ⟨fun _ _ e=>e,fun i o e=>?_,fun i j hi hj _=>?_,fun i o e hs=>?_⟩
  ·cases i with
   | zero=>cases e; exact ⟨vs,hL,hI⟩
   | succ i=>simp at e
  ·simp at hi hj; lia
  ·cases i with
   | zero=>cases e; cases hs
   | succ i=>simp at e
 show wpAny _ callerA (call (.ref fa) [.ref a]) _ _ s₁
 rw [← e4]
 refine call_sound (prog:=PySem.Challenge.rw_pq0227_01.row.prog) (w:=w) X d callerA rfl ?_ ?_ 0 w_law [.ref 0] [.scr ns] _ (fun _=>a) s₁ [.ref a] _ _ hlaw R (.cons ⟨by simp,rfl⟩ .nil) fun b st' ρ' h' tk v q R' S' hv=>?_
 ·show 301 + 4 * d < recursionLimit
  have:recursionLimit=1000:=rfl
  lia
 ·show 4 + 10 * d + 60 < cLine
  have:cLine=9900:=rfl
  lia
 ·subst q
  obtain rfl:v=.bool true:=hv
  refine ⟨.inl ⟨_,.bool true,[],rfl,?_,.bool true,?_,?_⟩,.of_keep ?_,rfl,?_⟩
  ·intro cls; rfl
  ·refine postW_of (by wrow_shape) (by first | exact w_eq_bool (w_res rfl) w_lit | wtm_val) ?_; rfl
  ·exact fun _=>⟨.nil,fun _ z=>by cases z⟩
  ·exact R'.keep
  ·show AllBare s₁.gens; rw [hg]; exact .empty
end
end Mine
theorem PySem.Challenge.cw_pq0227_01_holds : PySem.Challenge.rw_pq0227_01.Holds :=
  Mine.foo
