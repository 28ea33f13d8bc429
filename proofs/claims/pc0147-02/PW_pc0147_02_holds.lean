import PyProof.Rows.All
import Wide.All
import OpenK.AllK
import Wide.FinOn
import PySem.Challenge.RW_pc0147_02
set_option Elab.async false
set_option maxRecDepth 100000
set_option autoImplicit false
set_option maxHeartbeats 0
set_option linter.unusedVariables false
set_option linter.unusedSimpArgs false
section
set_option genSizeOf false
namespace Mine
open PySem
abbrev CS:=List Nat
inductive V where
  | none | bool (b:Bool) | int (i:Int) | str (s:CS)
  | tup (l:List V) | lst (l:List V) | dct (ks:List CS) (vs:List V)
  | rcd (C:Nat) (fs:List (Nat × V))
  | ref (i:Nat) | base (a:Nat) | clo (k:Nat) (l:List V)
inductive Cell where
  | inst (C:Nat) (fs:List (Nat × V))
  | list (l:List V)
  | exc (C:Nat) (fs:List (Nat × V))
  | new (C:Nat) (fs:List (Nat × V))
inductive X where
  | none (p:Pos) | bool (b:Bool) (p:Pos) | int (i:Int) (p:Pos) | str (s:CS) (p:Pos)
  | loc (i:Nat) (p:Pos) | glob (g:Nat) (p:Pos)
  | attr (x:X) (f:Nat) (p:Pos)
  | call (f:X) (as:List X) (p:Pos)
  | bcall (b:Nat) (bp:Pos) (as:List X) (p:Pos)
  | meth (o:X) (f:Nat) (pa:Pos) (as:List X) (p:Pos)
  | bin (l:X) (op:Operator) (r:X) (p:Pos)
  | not (x:X) (p:Pos) | neg (x:X) (p:Pos)
  | and (xs:List X) (p:Pos) | or (xs:List X) (p:Pos)
  | ite (t a b:X) (p:Pos)
  | cmp (l:X) (op:CmpOp) (r:X) (p:Pos)
  | cmp2 (l:X) (op:CmpOp) (m:X) (op2:CmpOp) (r:X) (p:Pos)
  | tup (xs:List X) (k:Nat) (p:Pos) | lst (xs:List X) (p:Pos) | lstF (xs:List X) (p:Pos) | dct (ks vs:List X) (p:Pos)
  | sub (x i:X) (p:Pos)
  | slc (x:X) (lo hi:Option X) (sp p:Pos)
  | lam (k:Nat) (p:Pos)
inductive S where
  | expr (x:X) (p:Pos)
  | asN (i:Nat) (pn:Pos) (x:X) (p:Pos)
  | asT (ts:List (Nat × Pos)) (k:Nat) (pt:Pos) (x:X) (p:Pos)
  | asA (o:X) (f:Nat) (pa:Pos) (x:X) (p:Pos)
  | asI (o i:X) (pi:Pos) (x:X) (p:Pos)
  | ifs (t:X) (a b:List S) (p:Pos)
  | whl (t:X) (a:List S) (p:Pos)
  | forN (i:Nat) (pn:Pos) (x:X) (a:List S) (p:Pos)
  | forT (ts:List (Nat × Pos)) (k:Nat) (pt:Pos) (x:X) (a:List S) (p:Pos)
  | ret (x:X) (p:Pos)
  | raise (x:X) (p:Pos)
  | try1 (a:List S) (g:Nat) (pg:Pos) (i:Nat) (h:List S) (ph p:Pos)
structure FnD where
  nm:List Str
  np:Nat
  dflt:List V:=[]
  body:List S
end Mine
end
section
namespace Mine
open PySem
theorem hideG {P:Prop} (h : ∀ G:Prop,(P→G)→G):P:=h P id
theorem oi {α:Type} {a b:α} (h:some a=some b):a=b:=Option.some.inj h
theorem n0 {α:Type} {a:α} {P:Prop} (h:none=some a):P:=by cases h
theorem n1 {α:Type} {a:α} {P:Prop} (h:some a=none):P:=by cases h
theorem bI {α β:Type} {m:Option α} {k:α→Option β} {b:β} (h:m.bind k=some b) : ∃ a,m=some a∧k a=some b:=by
  cases m with
  | none=>exact n0 h
  | some a=>exact ⟨a,rfl,h⟩
theorem mI {α β:Type} {m:Option α} {k:α→β} {b:β} (h:m.map k=some b) : ∃ a,m=some a∧k a=b:=by
  cases m with
  | none=>exact n0 h
  | some a=>exact ⟨a,rfl,oi h⟩
theorem ifI {α:Type} {p:Prop} [Decidable p] {x t:α} (h:(if p then some x else none)=some t):p∧x=t:=by
  by_cases q:p
  · rw [if_pos q] at h; exact ⟨q,oi h⟩
  · rw [if_neg q] at h; exact n0 h
noncomputable def look {α:Type}:List (Nat × α)→Nat→Option α
  | [],_=>none
  | p :: r,g=>bif Nat.beq g p.1 then some p.2 else look r g
noncomputable def look2 {α:Type}:List ((Nat × Nat) × α)→Nat→Nat→Option α
  | [],_,_=>none
  | p :: r,g,f=>bif Nat.beq g p.1.1 && Nat.beq f p.1.2 then some p.2 else look2 r g f
theorem look_mem {α:Type} : ∀ {l:List (Nat × α)} {g:Nat} {v:α},look l g=some v→(g,v) ∈ l
  | p :: r, g, v, h => by
    unfold look at h
    cases e:Nat.beq g p.1 with
    | true =>
      rw [e] at h
      obtain rfl:=Nat.eq_of_beq_eq_true e
      obtain rfl:=Option.some.inj h
      exact .head _
    | false=>rw [e] at h; exact .tail _ (look_mem h)
theorem look2_mem {α:Type} : ∀ {l:List ((Nat × Nat) × α)} {g f:Nat} {v:α},look2 l g f=some v→((g,f),v) ∈ l
  | p :: r, g, f, v, h => by
    unfold look2 at h
    cases e:Nat.beq g p.1.1 && Nat.beq f p.1.2 with
    | true =>
      rw [e] at h
      obtain ⟨e1,e2⟩:=Bool.and_eq_true_iff.mp e
      obtain rfl:=Nat.eq_of_beq_eq_true e1
      obtain rfl:=Nat.eq_of_beq_eq_true e2
      obtain rfl:=Option.some.inj h
      exact .head _
    | false=>rw [e] at h; exact .tail _ (look2_mem h)
inductive R (α:Type) where
  | ok (a:α) (s:List Cell) | ex (i:Nat) (s:List Cell)
abbrev O (α:Type):=Option (R α)
noncomputable def bnd {α β:Type} (m:O α) (f:α→List Cell→O β):O β:=match m with
  | none=>none
  | some (.ok a s)=>f a s
  | some (.ex i s)=>some (.ex i s)
noncomputable def lif {α:Type} (m:Option α) (s:List Cell):O α:=m.map fun a => .ok a s
noncomputable def cle (a b:CS):Bool := !(decide (b < a))
noncomputable def sml (n:Nat):Bool:=decide (n≤1000)
noncomputable def items (s:List Cell):V→Option (List V)
  | .lst l=>some l
  | .ref i=>match s[i]? with | some (.list l)=>some l | _=>none
  | _=>none
noncomputable def truthy (s:List Cell):V→Option Bool
  | .none=>some false
  | .bool b=>some b
  | .int i=>some (!decide (i=0))
  | .str l=>if sml l.length then some (!l.isEmpty) else none
  | .ref i=>match s[i]? with | some (.list l)=>if sml l.length then some (!l.isEmpty) else none | _=>none
  | _=>none
noncomputable def flatB:V→Bool
  | .none=>true
  | .int _=>true
  | .str l=>l.all fun c=>decide (c < 1114112)
  | _=>false
noncomputable def isDataN:Nat→V→Bool
  | 0,v=>flatB v
  | n + 1, v => match v with
    | .tup l=>l.all (isDataN n)
    | v=>flatB v
noncomputable def isData (v:V):Bool:=isDataN 40 v
mutual
noncomputable def veq:V→V→Bool
  | .none, .none=>true
  | .int i, .int j=>decide (i=j)
  | .str a, .str b=>decide (a=b)
  | .tup a, .tup b=>veqL a b
  | _,_=>false
noncomputable def veqL:List V→List V→Bool
  | [],[]=>true
  | a :: r,b :: t=>veq a b && veqL r t
  | _,_=>false
end
noncomputable def isPre:CS→CS→Bool
  | [],_=>true
  | _ :: _,[]=>false
  | a :: r,b :: t=>decide (a=b) && isPre r t
noncomputable def isSub (a:CS):CS→Bool
  | []=>a.isEmpty
  | b :: t=>isPre a (b :: t) || isSub a t
noncomputable def strsV:List V→Option (List CS)
  | []=>some []
  | .str b :: r=>(strsV r).map (b :: ·)
  | _ :: _=>none
noncomputable def dget (a:CS):List CS→List V→Option V
  | k :: ks,v :: vs=>if a=k then some v else dget a ks vs
  | _,_=>none
noncomputable def isIn (a b:V):Option Bool:=match a,b with
  | .str x, .tup l=>(strsV l).map (·.contains x)
  | .str x, .dct ks _=>some (ks.contains x)
  | .str x, .str y=>some (isSub x y)
  | _,_=>none
noncomputable def isNone:V→Bool
  | .none=>true
  | _=>false
noncomputable def cmpV (op:CmpOp) (a b:V):Option Bool:=match op with
  | .Eq=>if isData a && isData b then some (veq a b) else none
  | .NotEq=>if isData a && isData b then some (!veq a b) else none
  | .Lt=>match a,b with | .int x, .int y=>some (decide (x < y)) | _,_=>none
  | .LtE=>match a,b with | .int x, .int y=>some (decide (x≤y)) | .str x, .str y=>some (cle x y) | _,_=>none
  | .Gt=>match a,b with | .int x, .int y=>some (decide (y < x)) | _,_=>none
  | .GtE=>match a,b with | .int x, .int y=>some (decide (y≤x)) | _,_=>none
  | .Is=>match b with | .none=>some (isNone a) | _=>none
  | .IsNot=>match b with | .none=>some (!isNone a) | _=>none
  | .In=>isIn a b
  | .NotIn=>(isIn a b).map (!·)
noncomputable def binN (op:Operator) (x y:Int):Option V:=match op with
  | .Add=>some (.int (x + y))
  | .Sub=>some (.int (x - y))
  | .Mult=>if x.natAbs < 2 ^ 64 then some (.int (x * y)) else none
  | .FloorDiv=>if y ≠ 0∧y.natAbs < 2 ^ 64 then some (.int (x.fdiv y)) else none
  | .Mod=>if y ≠ 0 then some (.int (x.fmod y)) else none
  | .Pow=>if y=18∧x.natAbs < 2 ^ 64 then some (.int (x ^ 18)) else none
  | _=>none
noncomputable def binV (s:List Cell) (op:Operator) (a b:V):Option V:=match a with
  | .int x=>(match b with | .int y=>binN op x y | _=>none)
  | .str x=>(match b with | .str y=>(match op with | .Add=>if sml (x.length + y.length) then some (.str (x ++ y)) else none | _=>none) | _=>none)
  | a=>(match op with | .Add=>(items s a).bind fun x=>(items s b).bind fun y=>if sml (x.length + y.length) then some (.lst (x ++ y)) else none | _=>none)
noncomputable def subV (s:List Cell) (a i:V):Option V:=match i with
  | .int k => if 0 ≤ k ∧ k ≤ 1000 then (match a with
    | .tup l=>l[k.toNat]?
    | .str l=>l[k.toNat]?.map fun c => .str [c]
    | a=>(items s a).bind (·[k.toNat]?)) else none
  | .str x=>(match a with | .dct ks vs=>dget x ks vs | _=>none)
  | _=>none
noncomputable def slcV (s:List Cell) (a:V) (lo hi:Option V):Option V:=match lo,hi with
  | none,some (.int k)=>(items s a).bind fun l=>if sml l.length∧k.natAbs≤1000 then some (.lst (if 0≤k then l.take k.toNat else l.take (l.length - k.natAbs))) else none
  | _,_=>none
theorem ifO {α:Type} {p:Prop} [Decidable p] {m:Option α} {t:α} (h:(if p then m else none)=some t):p∧m=some t:=by
  by_cases q:p
  · exact ⟨q,(if_pos q).symm.trans h⟩
  · exact n0 ((if_neg q).symm.trans h)
theorem smlI {α:Type} {n:Nat} {m t:α} (h:(if sml n then some m else none)=some t):n≤1000∧m=t:=by
  obtain ⟨a,b⟩:=ifI h; exact ⟨of_decide_eq_true a,b⟩
theorem listB {α:Type} {o:Option Cell} {k:List V→Option α} {b:α} (h:(match o with | some (.list l)=>k l | _=>none)=some b) : ∃ l,o=some (.list l)∧k l=some b:=by
  cases o with
  | none=>exact n0 h
  | some q => cases q with
    | list l=>exact ⟨l,rfl,h⟩
    | _=>exact n0 h
inductive ItI (s:List Cell):V→List V→Prop where
  | lst {l}:ItI s (.lst l) l
  | ref {i l}:s[i]? = some (.list l)→ItI s (.ref i) l
theorem itI {s:List Cell} {v:V} {l:List V} (h:items s v=some l):ItI s v l:=by
  cases v with
  | lst l=>obtain rfl:=oi h; exact .lst
  | ref i=>obtain ⟨l,e,h⟩:=listB (k:=some) h; obtain rfl:=oi h; exact .ref e
  | _=>exact n0 h
inductive TruI (s:List Cell):V→Bool→Prop where
  | none:TruI s .none false
  | bool (b):TruI s (.bool b) b
  | int (i):TruI s (.int i) (!decide (i=0))
  | str {l}:l.length≤1000→TruI s (.str l) (!l.isEmpty)
  | ref {i l}:s[i]? = some (.list l)→l.length≤1000→TruI s (.ref i) (!l.isEmpty)
theorem truI {s:List Cell} {v:V} {b:Bool} (h:truthy s v=some b):TruI s v b:=by
  cases v with
  | none=>obtain rfl:=oi h; exact .none
  | bool b=>obtain rfl:=oi h; exact .bool _
  | int i=>obtain rfl:=oi h; exact .int _
  | str l=>obtain ⟨a,rfl⟩:=smlI h; exact .str a
  | ref i=>obtain ⟨l,e,h⟩:=listB h; obtain ⟨a,rfl⟩:=smlI h; exact .ref e a
  | _=>exact n0 h
inductive BinI (s:List Cell):Operator→V→V→V→Prop where
  | add {x y}:BinI s .Add (.int x) (.int y) (.int (x + y))
  | sub {x y}:BinI s .Sub (.int x) (.int y) (.int (x - y))
  | mul {x y}:x.natAbs < 2 ^ 64→BinI s .Mult (.int x) (.int y) (.int (x * y))
  | div {x y}:y ≠ 0→y.natAbs < 2 ^ 64→BinI s .FloorDiv (.int x) (.int y) (.int (x.fdiv y))
  | mod {x y}:y ≠ 0→BinI s .Mod (.int x) (.int y) (.int (x.fmod y))
  | pow {x}:x.natAbs < 2 ^ 64→BinI s .Pow (.int x) (.int 18) (.int (x ^ 18))
  | str {x y}:x.length + y.length≤1000→BinI s .Add (.str x) (.str y) (.str (x ++ y))
  | lst {a b x y}:items s a=some x→items s b=some y→x.length + y.length≤1000→BinI s .Add a b (.lst (x ++ y))
theorem binL {s:List Cell} {op:Operator} {a b w:V} (h:(match op with | .Add=>(items s a).bind fun x=>(items s b).bind fun y=>if sml (x.length + y.length) then some (V.lst (x ++ y)) else none | _=>none)=some w):BinI s op a b w:=by
  cases op with
  | Add=>obtain ⟨x,hx,h⟩:=bI h; obtain ⟨y,hy,h⟩:=bI h; obtain ⟨a,rfl⟩:=smlI h; exact .lst hx hy a
  | _=>exact n0 h
theorem binO {s:List Cell} {op:Operator} {a b w:V} (h:binV s op a b=some w):BinI s op a b w:=by
  cases a with
  | int x => cases b with
    | int y => cases op with
      | Add=>obtain rfl:=oi h; exact .add
      | Sub=>obtain rfl:=oi h; exact .sub
      | Mult=>obtain ⟨a,rfl⟩:=ifI h; exact .mul a
      | FloorDiv=>obtain ⟨a,rfl⟩:=ifI h; exact .div a.1 a.2
      | Mod=>obtain ⟨a,rfl⟩:=ifI h; exact .mod a
      | Pow=>obtain ⟨⟨rfl,a⟩,rfl⟩:=ifI h; exact .pow a
      | _=>exact n0 h
    | _=>exact n0 h
  | str x => cases b with
    | str y => cases op with
      | Add=>obtain ⟨a,rfl⟩:=smlI h; exact .str a
      | _=>exact n0 h
    | _=>exact n0 h
  | _=>exact binL h
inductive SubI (s:List Cell):V→V→V→Prop where
  | tup {l k w}:0≤k→k≤1000→l[k.toNat]? = some w→SubI s (.tup l) (.int k) w
  | str {l k ch}:0≤k→k≤1000→l[k.toNat]? = some ch→SubI s (.str l) (.int k) (.str [ch])
  | it {a l k w}:items s a=some l→0≤k→k≤1000→l[k.toNat]? = some w→SubI s a (.int k) w
  | dct {ks vs x w}:dget x ks vs=some w→SubI s (.dct ks vs) (.str x) w
theorem subO {s:List Cell} {a i w:V} (h:subV s a i=some w):SubI s a i w:=by
  cases i with
  | int k =>
    obtain ⟨⟨h0,h1⟩,h⟩:=ifO h
    cases a with
    | tup l=>exact .tup h0 h1 h
    | str l=>obtain ⟨ch,hc,rfl⟩:=mI h; exact .str h0 h1 hc
    | lst l=>exact .it rfl h0 h1 h
    | ref i=>obtain ⟨l,hl,h⟩:=bI h; exact .it hl h0 h1 h
    | _=>exact n0 h
  | str x => cases a with
    | dct ks vs=>exact .dct h
    | _=>exact n0 h
  | _=>exact n0 h
inductive SlcI (s:List Cell) (a:V):V→V→Prop where
  | mk {l k}:items s a=some l→l.length≤1000→k.natAbs≤1000→SlcI s a (.int k) (.lst (if 0≤k then l.take k.toNat else l.take (l.length - k.natAbs)))
theorem slcO {s:List Cell} {a b w:V} (h:slcV s a none (some b)=some w):SlcI s a b w:=by
  cases b with
  | int k=>obtain ⟨l,hl,h⟩:=bI h; obtain ⟨⟨a,b⟩,rfl⟩:=ifI h; exact .mk hl (of_decide_eq_true a) b
  | _=>exact n0 h
noncomputable def sumI:List V→Option Int
  | []=>some 0
  | .int i :: r=>(sumI r).map (i + ·)
  | _ :: _=>none
noncomputable def bifV (s:List Cell) (b:Nat) (as:List V):Option V:=match b with
  | 0=>match as with | [v]=>(items s v).bind fun l=>if sml l.length then some (.int l.length) else none | _=>none
  | 1=>match as with | [.int i]=>some (.int i.natAbs) | _=>none
  | 2=>match as with | [v]=>(items s v).bind fun l=>if sml l.length then (sumI l).map .int else none | _=>none
  | 3=>match as with | [.int a, .int b]=>some (.int (min a b)) | _=>none
  | 4=>match as with | [v]=>(items s v).bind fun l=>if sml l.length then some (.lst l) else none | _=>none
  | 5=>match as with | [v]=>(items s v).bind fun l=>if sml l.length then some (.tup l) else none | _=>none
  | _=>none
theorem oneI {as:List V} {k:V→Option V} {w:V} (h:(match as with | [v]=>k v | _=>none)=some w) : ∃ v,as=[v]∧k v=some w:=by
  cases as with
  | nil=>exact n0 h
  | cons v r => cases r with
    | nil=>exact ⟨v,rfl,h⟩
    | cons _ _=>exact n0 h
inductive BifI (s:List Cell):Nat→List V→V→Prop where
  | len {v l}:items s v=some l→l.length≤1000→BifI s 0 [v] (.int l.length)
  | abs {i}:BifI s 1 [.int i] (.int i.natAbs)
  | sum {v l t}:items s v=some l→sumI l=some t→BifI s 2 [v] (.int t)
  | min {a b}:BifI s 3 [.int a, .int b] (.int (min a b))
  | lst {v l}:items s v=some l→l.length≤1000→BifI s 4 [v] (.lst l)
  | tup {v l}:items s v=some l→l.length≤1000→BifI s 5 [v] (.tup l)
theorem bifO {s : List Cell} {as : List V} {w : V} : ∀ {b : Nat}, bifV s b as = some w → BifI s b as w
  | 0, h => by
    obtain ⟨v,rfl,h1⟩:=oneI h; obtain ⟨l,hl,h⟩:=bI h1; obtain ⟨a,rfl⟩:=smlI h; exact .len hl a
  | 1, h => by
    cases as with
    | nil=>exact n0 h
    | cons v r => cases v with
      | int i => cases r with
        | nil=>obtain rfl:=oi h; exact .abs
        | cons=>exact n0 h
      | _=>exact n0 h
  | 2, h => by
    obtain ⟨v,rfl,h1⟩:=oneI h; obtain ⟨l,hl,h⟩:=bI h1; obtain ⟨_,h⟩:=ifO h; obtain ⟨t,ht,rfl⟩:=mI h; exact .sum hl ht
  | 3, h => by
    cases as with
    | nil=>exact n0 h
    | cons v r => cases v with
      | int i => cases r with
        | nil=>exact n0 h
        | cons v r => cases v with
          | int i => cases r with
            | nil=>obtain rfl:=oi h; exact .min
            | cons=>exact n0 h
          | _=>exact n0 h
      | _=>exact n0 h
  | 4, h => by
    obtain ⟨v,rfl,h1⟩:=oneI h; obtain ⟨l,hl,h⟩:=bI h1; obtain ⟨a,rfl⟩:=smlI h; exact .lst hl a
  | 5, h => by
    obtain ⟨v,rfl,h1⟩:=oneI h; obtain ⟨l,hl,h⟩:=bI h1; obtain ⟨a,rfl⟩:=smlI h; exact .tup hl a
  | n + 6,h=>n0 h
noncomputable def low (s:CS):CS:=s.map fun c=>if 65≤c && c≤90 then c + 32 else c
noncomputable def fget (f:Nat):List (Nat × V)→Option V
  | []=>none
  | (g,v) :: r=>if f=g then some v else fget f r
noncomputable def fput (f:Nat) (v:V):List (Nat × V)→List (Nat × V)
  | []=>[(f,v)]
  | (g,w) :: r=>if f=g then (f,v) :: r else (g,w) :: fput f v r
noncomputable def attrV (s:List Cell) (f:Nat):V→Option V
  | .ref i => match s[i]? with
    | some (.inst C fs)=>if C=0 then none else fget f fs
    | some (.exc C fs)=>if C=0 then fget f fs else none
    | _=>none
  | _=>none
inductive AttI (s:List Cell) (f:Nat) (w:V):V→Prop where
  | inst {i C fs}:s[i]? = some (.inst C fs)→C ≠ 0→fget f fs=some w→AttI s f w (.ref i)
  | exc {i fs}:s[i]? = some (.exc 0 fs)→fget f fs=some w→AttI s f w (.ref i)
theorem attC {o:Option Cell} {f:Nat} {w:V} (h:(match o with | some (.inst C fs)=>if C=0 then none else fget f fs | some (.exc C fs)=>if C=0 then fget f fs else none | _=>none)=some w) :
    (∃ C fs,o=some (.inst C fs)∧C ≠ 0∧fget f fs=some w) ∨ ∃ fs,o=some (.exc 0 fs)∧fget f fs=some w:=by
  cases o with
  | none=>exact n0 h
  | some q => cases q with
    | inst C fs =>
      by_cases q:C=0
      · exact n0 ((if_pos q).symm.trans h)
      · exact .inl ⟨_,_,rfl,q,(if_neg q).symm.trans h⟩
    | exc C fs=>obtain ⟨rfl,h⟩:=ifO h; exact .inr ⟨_,rfl,h⟩
    | _=>exact n0 h
theorem attO {s:List Cell} {f:Nat} {v w:V} (h:attrV s f v=some w):AttI s f w v:=by
  cases v with
  | ref i =>
    rcases attC h with ⟨_,_,e,c,h⟩ | ⟨_,e,h⟩
    · exact .inst e c h
    · exact .exc e h
  | _=>exact n0 h
noncomputable def strO:X→Option CS
  | .str l _=>some l
  | _=>none
noncomputable def litO:X→Option V
  | .str l _=>some (.str l)
  | .int i _=>some (.int i)
  | _=>none
noncomputable def strL:List X→Option (List CS)
  | []=>some []
  | x :: r=>(strO x).bind fun l=>(strL r).bind fun ls=>some (l :: ls)
noncomputable def litL:List X→Option (List V)
  | []=>some []
  | x :: r=>(litO x).bind fun l=>(litL r).bind fun ls=>some (l :: ls)
theorem strO_ {x:X} {l:CS} (h:strO x=some l) : ∃ p,x = .str l p:=by
  cases x with
  | str l p=>exact ⟨p,by rw [oi h]⟩
  | _=>exact n0 h
theorem ifN {α:Type} {p:Prop} [Decidable p] {x t:α} (h:(if p then none else some x)=some t) : ¬ p∧x=t:=by
  by_cases q:p
  · exact n0 ((if_pos q).symm.trans h)
  · exact ⟨q,oi ((if_neg q).symm.trans h)⟩
inductive RS where
  | nx (fr:List (Option V)) (s:List Cell)
  | rt (v:V) (s:List Cell)
  | ex (i:Nat) (fr:List (Option V)) (s:List Cell)
noncomputable def hndS:List S→Option (Nat × Nat)
  | [.asN j _ (.loc k _) _]=>some (j,k)
  | _=>none
noncomputable def excK:Option Cell→Option Nat
  | some (.exc C _)=>some C
  | _=>none
noncomputable def tryH (g i:Nat) (h:List S) (e:Nat) (fr:List (Option V)) (s:List Cell):Option RS :=
  (excK s[e]?).bind fun C=>if C=g∧g=0 then (hndS h).bind fun q=>((fr.set i (some (.ref e)))[q.2]?).join.bind fun v=>some (.nx (((fr.set i (some (.ref e))).set q.1 (some v)).set i none) s) else none
theorem hndO {h : List S} {q : Nat × Nat} (H : hndS h = some q) : ∃ pj pk pp, h = [.asN q.1 pj (.loc q.2 pk) pp] := by
  cases h with
  | nil=>exact n0 H
  | cons a r => cases a with
    | asN j pj x pp => cases x with
      | loc k pk => cases r with
        | nil=>obtain rfl:=oi H; exact ⟨_,_,_,rfl⟩
        | cons=>exact n0 H
      | _=>exact n0 H
    | _=>exact n0 H
theorem excO {o:Option Cell} {C:Nat} (h:excK o=some C) : ∃ fs,o=some (.exc C fs):=by
  cases o with
  | none=>exact n0 h
  | some q => cases q with
    | exc C fs=>obtain rfl:=oi h; exact ⟨_,rfl⟩
    | _=>exact n0 h
theorem joinO {α:Type} {o:Option (Option α)} {v:α} (h:o.join=some v):o=some (some v):=by
  cases o with
  | none=>exact n0 h
  | some q=>exact congrArg some h
inductive TryI (g i:Nat) (h:List S) (e:Nat) (fr:List (Option V)) (s:List Cell) (o:RS):Prop
  | mk (j k:Nat) (pj pk pp:Pos) (v:V) (fs:List (Nat × V)) (hc:s[e]? = some (.exc 0 fs)) (hg:g=0) (hh:h=[.asN j pj (.loc k pk) pp]) (hv:(fr.set i (some (.ref e)))[k]? = some (some v)) (ho:RS.nx (((fr.set i (some (.ref e))).set j (some v)).set i none) s=o)
theorem tryO {g i e:Nat} {h:List S} {fr:List (Option V)} {s:List Cell} {o:RS} (H:tryH g i h e fr s=some o):TryI g i h e fr s o:=by
  obtain ⟨C,h1,H⟩:=bI H
  obtain ⟨⟨rfl,rfl⟩,H⟩:=ifO H
  obtain ⟨q,h2,H⟩:=bI H
  obtain ⟨v,h3,H⟩:=bI H
  obtain ⟨fs,h1⟩:=excO h1
  obtain ⟨_,_,_,h2⟩:=hndO h2
  exact ⟨_,_,_,_,_,v,fs,h1,rfl,h2,joinO h3,oi H⟩
noncomputable def raiS (fr:List (Option V)) (v:V) (s:List Cell):Option RS:=match v with
  | .ref i => match s[i]? with
    | some (.new C fs)=>if C=0 then some (.ex i fr (s.set i (.exc C fs))) else none
    | _=>none
  | _=>none
theorem newB {α:Type} {o:Option Cell} {k:Nat→List (Nat × V)→Option α} {b:α} (h:(match o with | some (.new C fs)=>k C fs | _=>none)=some b) : ∃ C fs,o=some (.new C fs)∧k C fs=some b:=by
  cases o with
  | none=>exact n0 h
  | some q => cases q with
    | new C fs=>exact ⟨C,fs,rfl,h⟩
    | _=>exact n0 h
inductive RaiI (fr:List (Option V)) (v:V) (s:List Cell) (o:RS):Prop
  | mk (i:Nat) (fs:List (Nat × V)) (hv:v = .ref i) (hc:s[i]? = some (.new 0 fs)) (ho:RS.ex i fr (s.set i (.exc 0 fs))=o)
theorem raiO {fr:List (Option V)} {v:V} {s:List Cell} {o:RS} (h:raiS fr v s=some o):RaiI fr v s o:=by
  cases v with
  | ref i =>
    obtain ⟨C,fs,hc,h1⟩:=newB h
    obtain ⟨rfl,rfl⟩:=ifI h1
    exact ⟨i,fs,rfl,hc,rfl⟩
  | _=>exact n0 h
structure Tabs where
  fn:Nat→Option FnD
  init : Nat → Option Nat        -- a class's __init__
  lamn : Nat → Nat               -- a lambda's parameters
  mth:Nat→Nat→Option Nat
  gl:Nat→Option V
  lamc : Nat → List Nat          -- what a lambda captures (the maker's places)
  lam:Nat→Option X
noncomputable def methV (o:V) (f:Nat) (as:List V) (s:List Cell):O V:=match o with
  | .str l => match f, as with
    | 37,[.str [c]]=>if sml l.length then some (.ok (.lst ((Txt.split ⟨l.toArray⟩ ⟨#[c]⟩).map fun x => .str x.cps.toList)) s) else none
    | 38,[]=>if sml l.length && l.all (fun c=>decide (c < 128)) then some (.ok (.str (low l)) s) else none
    | _,_=>none
  | .ref i => match s[i]? with
    | some (.list l) => match f, as with
      | 39,[v]=>if sml l.length then some (.ok .none (s.set i (.list (l ++ [v])))) else none
      | _,_=>none
    | _=>none
  | _=>none
noncomputable def putT (fr:List (Option V)):List (Nat × Pos)→List V→Option (List (Option V))
  | [],[]=>some fr
  | (i,_) :: r,v :: t=>putT (fr.set i (some v)) r t
  | _,_=>none
noncomputable def enumV:Nat→List V→List V
  | _,[]=>[]
  | k,v :: r => .tup [.int k,v] :: enumV (k + 1) r
noncomputable def enumA:X→Option X
  | .bcall b _ as _=>bif Nat.beq b 6 then (match as with | [x]=>some x | _=>none) else none
  | _=>none
noncomputable def stT (ts:List (Nat × Pos)) (fr:List (Option V)) (v:V):Option (List (Option V)):=match v with
  | .tup vs=>putT fr ts vs
  | _=>none
noncomputable def caps (fr:List (Option V)):List Nat→Option (List V)
  | []=>some []
  | i :: r => match fr[i]? with
    | some (some v)=>(caps fr r).map (v :: ·)
    | _=>none
section
variable (T:Tabs)
noncomputable def methF (s:List Cell) (o:V) (f:Nat):Option (Option (V × Bool)):=match o with
  | .str _=>if f=37 ∨ f=38 then some none else none
  | .ref i => match s[i]? with
    | some (.list _)=>if f=39 then some none else none
    | some (.inst C fs) => match fget f fs with
      | some v=>if f≤10∧C ≠ 0 then some (some (v,false)) else none
      | none=>if f < 40 then (T.mth C f).map fun g=>some (.base g,true) else none
    | _=>none
  | _=>none
mutual
noncomputable def exX:Nat→X→List (Option V)→List Cell→O V
  | 0,_,_,_=>none
  | n + 1, x, fr, s => match x with
    | .none _=>some (.ok .none s)
    | .bool b _=>some (.ok (.bool b) s)
    | .int i _=>some (.ok (.int i) s)
    | .str l _=>some (.ok (.str l) s)
    | .loc i _=>lif (fr[i]?.join) s
    | .glob g _=>lif (T.gl g) s
    | .attr x f _=>bnd (exX n x fr s) fun v s=>lif (attrV s f v) s
    | .call f as _=>bnd (exX n f fr s) fun f s=>bnd (exXs n as fr s) fun as s=>callV n f as s
    | .bcall b _ as _=>bnd (exXs n as fr s) fun as s=>lif (bifV s b as) s
    | .meth o f _ as _ => bnd (exX n o fr s) fun o s => match methF T s o f with
      | some (some (g,b))=>bnd (exXs n as fr s) fun as s=>callV n g (if b then o :: as else as) s
      | some none=>bnd (exXs n as fr s) fun as s=>methV o f as s
      | none=>none
    | .bin l op r _=>bnd (exX n l fr s) fun a s=>bnd (exX n r fr s) fun b s=>lif (binV s op a b) s
    | .not x _=>bnd (exX n x fr s) fun v s=>lif ((truthy s v).map fun b => .bool (!b)) s
    | .neg x _=>bnd (exX n x fr s) fun v s=>match v with | .int i=>some (.ok (.int (-i)) s) | _=>none
    | .and xs _=>exBool n true xs fr s
    | .or xs _=>exBool n false xs fr s
    | .ite t a b _ => bnd (exX n t fr s) fun v s => match truthy s v with
      | some true=>exX n a fr s
      | some false=>exX n b fr s
      | none=>none
    | .cmp l op r _=>bnd (exX n l fr s) fun a s=>bnd (exX n r fr s) fun b s=>lif ((cmpV op a b).map .bool) s
    | .cmp2 l op m op2 r _ => bnd (exX n l fr s) fun a s => bnd (exX n m fr s) fun b s => match cmpV op a b with
      | some true=>bnd (exX n r fr s) fun c s=>lif ((cmpV op2 b c).map .bool) s
      | some false=>some (.ok (.bool false) s)
      | none=>none
    | .tup xs _ _=>bnd (exXs n xs fr s) fun vs s=>if sml vs.length then some (.ok (.tup vs) s) else none
    | .lst xs _=>bnd (exXs n xs fr s) fun vs s=>if sml vs.length then some (.ok (.ref s.length) (s ++ [.list vs])) else none
    | .lstF xs _=>bnd (exXs n xs fr s) fun vs s=>if sml vs.length then some (.ok (.lst vs) s) else none
    | .dct ks vs _ => match strL ks, litL vs with
      | some ks,some vs=>if ks.length=vs.length∧ks.Nodup∧ks.length≤15 then some (.ok (.dct ks vs) s) else none
      | _,_=>none
    | .sub x i _=>bnd (exX n x fr s) fun a s=>bnd (exX n i fr s) fun b s=>lif (subV s a b) s
    | .slc x none (some hi) _ _=>bnd (exX n x fr s) fun a s=>bnd (exX n hi fr s) fun b s=>lif (slcV s a none (some b)) s
    | .slc _ _ _ _ _=>none
    | .lam k _=>lif ((caps fr (T.lamc k)).map (.clo k)) s
noncomputable def exXs:Nat→List X→List (Option V)→List Cell→O (List V)
  | 0,_,_,_=>none
  | _ + 1,[],_,s=>some (.ok [] s)
  | n + 1,x :: r,fr,s=>bnd (exX n x fr s) fun v s=>bnd (exXs n r fr s) fun vs s=>some (.ok (v :: vs) s)
noncomputable def exBool:Nat→Bool→List X→List (Option V)→List Cell→O V
  | 0,_,_,_,_=>none
  | _ + 1,_,[],_,_=>none
  | n + 1,_,[x],fr,s=>exX n x fr s
  | n + 1, b, x :: r, fr, s => bnd (exX n x fr s) fun v s => match truthy s v with
    | some t=>if t=b then exBool n b r fr s else some (.ok v s)
    | none=>none
noncomputable def callV:Nat→V→List V→List Cell→O V
  | 0,_,_,_=>none
  | n + 1, f, as, s => match f with
    | .base g => match T.fn g with
      | some d =>
        if as.length≤d.np && d.np≤as.length + d.dflt.length then
          let bs:=as ++ d.dflt.drop (d.dflt.length - (d.np - as.length))
          match exSs n d.body (bs.map some ++ List.replicate (d.nm.length - d.np) none) s with
          | some (.nx _ s)=>some (.ok .none s)
          | some (.rt v s)=>some (.ok v s)
          | some (.ex i _ s)=>some (.ex i s)
          | none=>none
        else none
      | none => match T.init g with
        | some k=>bnd (callV n (.base k) (.ref s.length :: as) (s ++ [.inst g []])) fun v s'=>match v with | .none=>some (.ok (.ref s.length) s') | _=>none
        | none => if g = 0 ∧ 3 ≤ n then match as with
            | [w,a]=>some (.ok (.ref s.length) (s ++ [.new g [(10,w),(1,a)]]))
            | _=>none
          else none
    | .clo k cs => match T.lam k with
      | some x=>if as.length=T.lamn k then exX n x ((as ++ cs).map some) s else none
      | none=>none
    | _=>none
noncomputable def exSs:Nat→List S→List (Option V)→List Cell→Option RS
  | 0,_,_,_=>none
  | _ + 1,[],fr,s=>some (.nx fr s)
  | n + 1, t :: r, fr, s => match exS n t fr s with
    | some (.nx fr s)=>exSs n r fr s
    | o=>o
noncomputable def exS:Nat→S→List (Option V)→List Cell→Option RS
  | 0,_,_,_=>none
  | n + 1, t, fr, s => match t with
    | .expr x _ => match exX n x fr s with
      | some (.ok _ s)=>some (.nx fr s)
      | some (.ex i s)=>some (.ex i fr s)
      | none=>none
    | .asN i _ x _ => match exX n x fr s with
      | some (.ok v s)=>some (.nx (fr.set i (some v)) s)
      | some (.ex i s)=>some (.ex i fr s)
      | none=>none
    | .asT ts _ _ x _ => match exX n x fr s with
      | some (.ok (.tup vs) s)=>(putT fr ts vs).map fun fr => .nx fr s
      | some (.ok _ _)=>none
      | some (.ex i s)=>some (.ex i fr s)
      | none=>none
    | .asA o f _ x _ => match bnd (exX n x fr s) fun v s => bnd (exX n o fr s) fun o s => match o with
          | .ref i => match s[i]? with
            | some (.inst C fs)=>if f≤10∧C ≠ 0∧fs.length≤40 then some (.ok V.none (s.set i (.inst C (fput f v fs)))) else none
            | _=>none
          | _=>none with
      | some (.ok _ s)=>some (.nx fr s)
      | some (.ex i s)=>some (.ex i fr s)
      | none=>none
    | .asI o k _ x _ => match bnd (exX n x fr s) fun v s => bnd (exX n o fr s) fun o s => bnd (exX n k fr s) fun k s => match o, k with
          | .ref i, .int j => match s[i]? with
            | some (.list l)=>if 0≤j∧j≤1000∧j.toNat < l.length then some (.ok V.none (s.set i (.list (l.set j.toNat v)))) else none
            | _=>none
          | _,_=>none with
      | some (.ok _ s)=>some (.nx fr s)
      | some (.ex i s)=>some (.ex i fr s)
      | none=>none
    | .ifs t a b _ => match exX n t fr s with
      | some (.ok v s) => match truthy s v with
        | some true=>exSs n a fr s
        | some false=>exSs n b fr s
        | none=>none
      | some (.ex i s)=>some (.ex i fr s)
      | none=>none
    | .whl t a _=>exW n t a fr s
    | .forN i _ x a _ => match exX n x fr s with
      | some (.ok v s) => match v with
        | .lst l=>exF n (fun fr v=>some (fr.set i (some v))) a l fr s
        | _=>none
      | some (.ex i s)=>some (.ex i fr s)
      | none=>none
    | .forT ts _ _ x a _ => match enumA x with
      | some x => match bnd (exXs n [x] fr s) (fun vs s => match vs with | [v] => some (.ok v s) | _ => none) with
        | some (.ok v s) => match v with
          | .lst l=>exF n (stT ts) a (enumV 0 l) fr s
          | _=>none
        | some (.ex i s)=>some (.ex i fr s)
        | none=>none
      | none=>none
    | .ret x _ => match exX n x fr s with
      | some (.ok v s)=>some (.rt v s)
      | some (.ex i s)=>some (.ex i fr s)
      | none=>none
    | .raise x _ => match exX n x fr s with
      | some (.ok v s)=>raiS fr v s
      | some (.ex i s)=>some (.ex i fr s)
      | none=>none
    | .try1 a g _ i h _ _ => match exSs n a fr s with
      | some (.ex e fr s)=>tryH g i h e fr s
      | o=>o
noncomputable def exW:Nat→X→List S→List (Option V)→List Cell→Option RS
  | 0,_,_,_,_=>none
  | n + 1, t, a, fr, s => match exX n t fr s with
    | some (.ok v s) => match truthy s v with
      | some true => match exSs n a fr s with
        | some (.nx fr s)=>exW n t a fr s
        | o=>o
      | some false=>some (.nx fr s)
      | none=>none
    | some (.ex i s)=>some (.ex i fr s)
    | none=>none
noncomputable def exF:Nat→(List (Option V)→V→Option (List (Option V)))→List S→List V→List (Option V)→List Cell→Option RS
  | 0,_,_,_,_,_=>none
  | _ + 1,_,_,[],fr,s=>some (.nx fr s)
  | n + 1, st, a, v :: r, fr, s => match st fr v with
    | some fr => match exSs n a fr s with
      | some (.nx fr s)=>exF n st a r fr s
      | o=>o
    | none=>none
end
end
end Mine
end
section
namespace Mine
open PySem
noncomputable def bd_is_part_next:List S :=
 [.asT [(1,⟨69,4,69,9⟩),(2,⟨69,11,69,16⟩)] 0 ⟨69,4,69,16⟩ (.tup [(.int 0 ⟨69,20,69,21⟩),(.int 0 ⟨69,23,69,24⟩)] 0 ⟨69,19,69,25⟩) ⟨69,4,69,25⟩,
    .whl (.or [(.cmp (.loc 1 ⟨70,10,70,15⟩) .Gt (.int 0 ⟨70,18,70,19⟩) ⟨70,10,70,19⟩),(.and [(.cmp (.loc 2 ⟨70,24,70,29⟩) .Eq (.int 0 ⟨70,33,70,34⟩) ⟨70,24,70,34⟩),(.meth (.loc 0 ⟨70,39,70,45⟩) 20 ⟨70,39,70,53⟩ [(.str [40] ⟨70,54,70,57⟩)] ⟨70,39,70,58⟩)] ⟨70,24,70,58⟩)] ⟨70,10,70,59⟩) [.ifs (.cmp (.meth (.loc 0 ⟨71,11,71,17⟩) 11 ⟨71,11,71,22⟩ [(.loc 2 ⟨71,23,71,28⟩)] ⟨71,11,71,29⟩) .Is (.none ⟨71,33,71,37⟩) ⟨71,11,71,37⟩) [.ret (.bool false ⟨72,19,72,24⟩) ⟨72,12,72,24⟩] [] ⟨71,8,72,24⟩,
    .ifs (.meth (.loc 0 ⟨73,11,73,17⟩) 20 ⟨73,11,73,25⟩ [(.str [40] ⟨73,26,73,29⟩),(.loc 2 ⟨73,31,73,36⟩)] ⟨73,11,73,37⟩) [.asN 1 ⟨74,12,74,17⟩ (.bin (.loc 1 ⟨74,20,74,25⟩) .Add (.int 1 ⟨74,28,74,29⟩) ⟨74,20,74,29⟩) ⟨74,12,74,29⟩] [.ifs (.meth (.loc 0 ⟨75,13,75,19⟩) 20 ⟨75,13,75,27⟩ [(.str [41] ⟨75,28,75,31⟩),(.loc 2 ⟨75,33,75,38⟩)] ⟨75,13,75,39⟩) [.asN 1 ⟨76,12,76,17⟩ (.bin (.loc 1 ⟨76,20,76,25⟩) .Sub (.int 1 ⟨76,28,76,29⟩) ⟨76,20,76,29⟩) ⟨76,12,76,29⟩] [.ifs (.and [(.cmp (.loc 1 ⟨77,13,77,18⟩) .Eq (.int 1 ⟨77,22,77,23⟩) ⟨77,13,77,23⟩),(.meth (.loc 0 ⟨77,28,77,34⟩) 20 ⟨77,28,77,42⟩ [(.str [58] ⟨77,43,77,46⟩),(.loc 2 ⟨77,48,77,53⟩)] ⟨77,28,77,54⟩)] ⟨77,13,77,54⟩) [.ret (.bool true ⟨78,19,78,23⟩) ⟨78,12,78,23⟩] [] ⟨77,8,78,23⟩] ⟨75,8,78,23⟩] ⟨73,8,78,23⟩,
    .asN 2 ⟨79,8,79,13⟩ (.bin (.loc 2 ⟨79,16,79,21⟩) .Add (.int 1 ⟨79,24,79,25⟩) ⟨79,16,79,25⟩) ⟨79,8,79,25⟩] ⟨70,4,79,25⟩,
    .ret (.bool false ⟨80,11,80,16⟩) ⟨80,4,80,16⟩]
noncomputable def fd_is_part_next : FnD := { nm := ["reader", "depth", "ahead"], np := 1, body := bd_is_part_next }
noncomputable def bd_read_ref:List S :=
 [.asN 2 ⟨97,4,97,8⟩ (.meth (.loc 0 ⟨97,11,97,17⟩) 19 ⟨97,11,97,22⟩ [] ⟨97,11,97,24⟩) ⟨97,4,97,24⟩,
    .asN 3 ⟨98,4,98,14⟩ (.lst [] ⟨98,17,98,19⟩) ⟨98,4,98,19⟩,
    .whl (.cmp (.meth (.loc 0 ⟨99,10,99,16⟩) 17 ⟨99,10,99,23⟩ [(.str [79,70,32,73,78] ⟨99,24,99,31⟩)] ⟨99,10,99,32⟩) .NotEq (.str [] ⟨99,36,99,38⟩) ⟨99,10,99,38⟩) [.expr (.meth (.loc 3 ⟨100,8,100,18⟩) 39 ⟨100,8,100,25⟩ [(.meth (.loc 0 ⟨100,26,100,32⟩) 19 ⟨100,26,100,37⟩ [] ⟨100,26,100,39⟩)] ⟨100,8,100,40⟩) ⟨100,8,100,40⟩] ⟨99,4,100,40⟩,
    .asN 4 ⟨101,4,101,14⟩ (.tup [] 0 ⟨101,17,101,19⟩) ⟨101,4,101,19⟩,
    .ifs (.and [(.meth (.loc 0 ⟨102,7,102,13⟩) 20 ⟨102,7,102,21⟩ [(.str [40] ⟨102,22,102,25⟩)] ⟨102,7,102,26⟩),(.not (.call (.glob 16 ⟨102,36,102,48⟩) [(.loc 0 ⟨102,49,102,55⟩)] ⟨102,36,102,56⟩) ⟨102,32,102,56⟩)] ⟨102,7,102,57⟩) [.asN 4 ⟨103,8,103,18⟩ (.call (.glob 17 ⟨103,21,103,36⟩) [(.loc 0 ⟨103,37,103,43⟩),(.loc 1 ⟨103,45,103,54⟩)] ⟨103,21,103,55⟩) ⟨103,8,103,55⟩] [] ⟨102,4,103,55⟩,
    .asN 5 ⟨104,4,104,8⟩ (.ite (.call (.glob 16 ⟨104,43,104,55⟩) [(.loc 0 ⟨104,56,104,62⟩)] ⟨104,43,104,63⟩) (.call (.glob 18 ⟨104,11,104,20⟩) [(.loc 0 ⟨104,21,104,27⟩),(.loc 1 ⟨104,29,104,38⟩)] ⟨104,11,104,39⟩) (.none ⟨104,69,104,73⟩) ⟨104,11,104,73⟩) ⟨104,4,104,73⟩,
    .ret (.tup [(.str [114,101,102] ⟨105,12,105,17⟩),(.loc 2 ⟨105,19,105,23⟩),(.bcall 5 ⟨105,25,105,30⟩ [(.loc 3 ⟨105,31,105,41⟩)] ⟨105,25,105,42⟩),(.loc 4 ⟨105,44,105,54⟩),(.loc 5 ⟨105,56,105,60⟩)] 0 ⟨105,11,105,61⟩) ⟨105,4,105,61⟩]
noncomputable def fd_read_ref : FnD := { nm := ["reader", "read_expr", "name", "qualifiers", "subscripts", "part"], np := 2, body := bd_read_ref }
noncomputable def bd_read_figure:List S :=
 [.ifs (.or [(.not (.meth (.loc 0 ⟨114,11,114,17⟩) 14 ⟨114,11,114,25⟩ [(.str [119,111,114,100] ⟨114,26,114,32⟩)] ⟨114,11,114,33⟩) ⟨114,7,114,33⟩),(.cmp (.attr (.meth (.loc 0 ⟨114,37,114,43⟩) 11 ⟨114,37,114,48⟩ [] ⟨114,37,114,50⟩) 4 ⟨114,37,114,56⟩) .NotIn (.glob 4 ⟨114,64,114,76⟩) ⟨114,37,114,76⟩)] ⟨114,7,114,76⟩) [.ret (.none ⟨115,15,115,19⟩) ⟨115,8,115,19⟩] [] ⟨114,4,115,19⟩,
    .ret (.tup [(.str [102,105,103,117,114,101] ⟨116,12,116,20⟩),(.sub (.glob 4 ⟨116,22,116,34⟩) (.attr (.meth (.loc 0 ⟨116,35,116,41⟩) 13 ⟨116,35,116,46⟩ [] ⟨116,35,116,48⟩) 4 ⟨116,35,116,54⟩) ⟨116,22,116,55⟩)] 0 ⟨116,11,116,56⟩) ⟨116,4,116,56⟩]
noncomputable def fd_read_figure : FnD := { nm := ["reader"], np := 1, body := bd_read_figure }
noncomputable def bd_read_operand:List S :=
 [.ifs (.meth (.loc 0 ⟨118,7,118,13⟩) 23 ⟨118,7,118,23⟩ [] ⟨118,7,118,25⟩) [.ret (.tup [(.str [110,117,109,98,101,114] ⟨119,16,119,24⟩),(.meth (.loc 0 ⟨119,26,119,32⟩) 24 ⟨119,26,119,39⟩ [] ⟨119,26,119,41⟩)] 0 ⟨119,15,119,42⟩) ⟨119,8,119,42⟩] [] ⟨118,4,119,42⟩,
    .ifs (.meth (.loc 0 ⟨120,7,120,13⟩) 14 ⟨120,7,120,21⟩ [(.str [108,105,116,101,114,97,108] ⟨120,22,120,31⟩)] ⟨120,7,120,32⟩) [.ret (.tup [(.str [116,101,120,116] ⟨121,16,121,22⟩),(.meth (.loc 0 ⟨121,24,121,30⟩) 25 ⟨121,24,121,37⟩ [] ⟨121,24,121,39⟩)] 0 ⟨121,15,121,40⟩) ⟨121,8,121,40⟩] [] ⟨120,4,121,40⟩,
    .ifs (.meth (.loc 0 ⟨122,7,122,13⟩) 16 ⟨122,7,122,18⟩ [(.str [65,76,76] ⟨122,19,122,24⟩)] ⟨122,7,122,25⟩) [.ret (.call (.glob 20 ⟨123,15,123,23⟩) [(.loc 0 ⟨123,24,123,30⟩)] ⟨123,15,123,31⟩) ⟨123,8,123,31⟩] [] ⟨122,4,123,31⟩,
    .asN 2 ⟨124,4,124,10⟩ (.call (.glob 21 ⟨124,13,124,24⟩) [(.loc 0 ⟨124,25,124,31⟩)] ⟨124,13,124,32⟩) ⟨124,4,124,32⟩,
    .ret (.ite (.cmp (.loc 2 ⟨125,42,125,48⟩) .Is (.none ⟨125,52,125,56⟩) ⟨125,42,125,56⟩) (.call (.glob 19 ⟨125,11,125,19⟩) [(.loc 0 ⟨125,20,125,26⟩),(.loc 1 ⟨125,28,125,37⟩)] ⟨125,11,125,38⟩) (.loc 2 ⟨125,62,125,68⟩) ⟨125,11,125,68⟩) ⟨125,4,125,68⟩]
noncomputable def fd_read_operand : FnD := { nm := ["reader", "read_expr", "figure"], np := 2, body := bd_read_operand }
noncomputable def bd_read_expression:List S :=
 [.ret (.call (.glob 25 ⟨129,11,129,19⟩) [(.loc 0 ⟨129,20,129,26⟩),(.int 0 ⟨129,28,129,29⟩)] ⟨129,11,129,30⟩) ⟨129,4,129,30⟩]
noncomputable def fd_read_expression : FnD := { nm := ["reader"], np := 1, body := bd_read_expression }
noncomputable def bd_sign_among:List S :=
 [.asN 2 ⟨131,4,131,9⟩ (.meth (.loc 0 ⟨131,12,131,18⟩) 11 ⟨131,12,131,23⟩ [] ⟨131,12,131,25⟩) ⟨131,4,131,25⟩,
    .ifs (.or [(.cmp (.loc 2 ⟨132,7,132,12⟩) .Is (.none ⟨132,16,132,20⟩) ⟨132,7,132,20⟩),(.cmp (.attr (.loc 2 ⟨132,24,132,29⟩) 3 ⟨132,24,132,34⟩) .NotEq (.str [115,105,103,110] ⟨132,38,132,44⟩) ⟨132,24,132,44⟩),(.cmp (.attr (.loc 2 ⟨132,48,132,53⟩) 4 ⟨132,48,132,59⟩) .NotIn (.loc 1 ⟨132,67,132,72⟩) ⟨132,48,132,72⟩)] ⟨132,7,132,72⟩) [.ret (.str [] ⟨133,15,133,17⟩) ⟨133,8,133,17⟩] [] ⟨132,4,133,17⟩,
    .ret (.attr (.loc 2 ⟨134,11,134,16⟩) 4 ⟨134,11,134,22⟩) ⟨134,4,134,22⟩]
noncomputable def fd_sign_among : FnD := { nm := ["reader", "signs", "token"], np := 2, body := bd_sign_among }
noncomputable def bd_read_sum:List S :=
 [.ifs (.cmp (.loc 1 ⟨136,7,136,12⟩) .Gt (.glob 11 ⟨136,15,136,36⟩) ⟨136,7,136,36⟩) [.raise (.meth (.loc 0 ⟨137,14,137,20⟩) 12 ⟨137,14,137,26⟩ [(.str [98,114,97,99,107,101,116,115,32,97,114,101,32,110,101,115,116,101,100,32,116,111,111,32,100,101,101,112] ⟨137,27,137,57⟩)] ⟨137,14,137,58⟩) ⟨137,8,137,58⟩] [] ⟨136,4,137,58⟩,
    .asN 2 ⟨138,4,138,9⟩ (.call (.glob 26 ⟨138,12,138,24⟩) [(.loc 0 ⟨138,25,138,31⟩),(.loc 1 ⟨138,33,138,38⟩)] ⟨138,12,138,39⟩) ⟨138,4,138,39⟩,
    .whl (.cmp (.call (.glob 24 ⟨139,10,139,20⟩) [(.loc 0 ⟨139,21,139,27⟩),(.tup [(.str [43] ⟨139,30,139,33⟩),(.str [45] ⟨139,35,139,38⟩)] 0 ⟨139,29,139,39⟩)] ⟨139,10,139,40⟩) .NotEq (.str [] ⟨139,44,139,46⟩) ⟨139,10,139,46⟩) [.asN 3 ⟨140,8,140,12⟩ (.attr (.meth (.loc 0 ⟨140,15,140,21⟩) 13 ⟨140,15,140,26⟩ [] ⟨140,15,140,28⟩) 4 ⟨140,15,140,34⟩) ⟨140,8,140,34⟩,
    .asN 2 ⟨141,8,141,13⟩ (.tup [(.loc 3 ⟨141,17,141,21⟩),(.loc 2 ⟨141,23,141,28⟩),(.call (.glob 26 ⟨141,30,141,42⟩) [(.loc 0 ⟨141,43,141,49⟩),(.loc 1 ⟨141,51,141,56⟩)] ⟨141,30,141,57⟩)] 0 ⟨141,16,141,58⟩) ⟨141,8,141,58⟩] ⟨139,4,141,58⟩,
    .ret (.loc 2 ⟨142,11,142,16⟩) ⟨142,4,142,16⟩]
noncomputable def fd_read_sum : FnD := { nm := ["reader", "depth", "found", "sign"], np := 2, body := bd_read_sum }
noncomputable def bd_read_product:List S :=
 [.asN 2 ⟨144,4,144,9⟩ (.call (.glob 27 ⟨144,12,144,23⟩) [(.loc 0 ⟨144,24,144,30⟩),(.loc 1 ⟨144,32,144,37⟩)] ⟨144,12,144,38⟩) ⟨144,4,144,38⟩,
    .whl (.cmp (.call (.glob 24 ⟨145,10,145,20⟩) [(.loc 0 ⟨145,21,145,27⟩),(.tup [(.str [42] ⟨145,30,145,33⟩),(.str [47] ⟨145,35,145,38⟩)] 0 ⟨145,29,145,39⟩)] ⟨145,10,145,40⟩) .NotEq (.str [] ⟨145,44,145,46⟩) ⟨145,10,145,46⟩) [.asN 3 ⟨146,8,146,12⟩ (.attr (.meth (.loc 0 ⟨146,15,146,21⟩) 13 ⟨146,15,146,26⟩ [] ⟨146,15,146,28⟩) 4 ⟨146,15,146,34⟩) ⟨146,8,146,34⟩,
    .asN 2 ⟨147,8,147,13⟩ (.tup [(.loc 3 ⟨147,17,147,21⟩),(.loc 2 ⟨147,23,147,28⟩),(.call (.glob 27 ⟨147,30,147,41⟩) [(.loc 0 ⟨147,42,147,48⟩),(.loc 1 ⟨147,50,147,55⟩)] ⟨147,30,147,56⟩)] 0 ⟨147,16,147,57⟩) ⟨147,8,147,57⟩] ⟨145,4,147,57⟩,
    .ret (.loc 2 ⟨148,11,148,16⟩) ⟨148,4,148,16⟩]
noncomputable def fd_read_product : FnD := { nm := ["reader", "depth", "found", "sign"], np := 2, body := bd_read_product }
noncomputable def bd_read_factor:List S :=
 [.asN 2 ⟨150,4,150,8⟩ (.call (.glob 24 ⟨150,11,150,21⟩) [(.loc 0 ⟨150,22,150,28⟩),(.tup [(.str [43] ⟨150,31,150,34⟩),(.str [45] ⟨150,36,150,39⟩)] 0 ⟨150,30,150,40⟩)] ⟨150,11,150,41⟩) ⟨150,4,150,41⟩,
    .ifs (.cmp (.loc 2 ⟨151,7,151,11⟩) .Eq (.str [] ⟨151,15,151,17⟩) ⟨151,7,151,17⟩) [.ret (.call (.glob 29 ⟨152,15,152,25⟩) [(.loc 0 ⟨152,26,152,32⟩),(.loc 1 ⟨152,34,152,39⟩)] ⟨152,15,152,40⟩) ⟨152,8,152,40⟩] [] ⟨151,4,152,40⟩,
    .expr (.meth (.loc 0 ⟨153,4,153,10⟩) 13 ⟨153,4,153,15⟩ [] ⟨153,4,153,17⟩) ⟨153,4,153,17⟩,
    .asN 3 ⟨154,4,154,10⟩ (.and [(.cmp (.loc 2 ⟨154,13,154,17⟩) .Eq (.str [45] ⟨154,21,154,24⟩) ⟨154,13,154,24⟩),(.call (.glob 28 ⟨154,29,154,43⟩) [(.loc 0 ⟨154,44,154,50⟩)] ⟨154,29,154,51⟩)] ⟨154,13,154,51⟩) ⟨154,4,154,51⟩,
    .asN 4 ⟨155,4,155,9⟩ (.call (.glob 29 ⟨155,12,155,22⟩) [(.loc 0 ⟨155,23,155,29⟩),(.loc 1 ⟨155,31,155,36⟩)] ⟨155,12,155,37⟩) ⟨155,4,155,37⟩,
    .ifs (.loc 3 ⟨156,7,156,13⟩) [.ret (.tup [(.str [110,117,109,98,101,114] ⟨157,16,157,24⟩),(.call (.glob 31 ⟨157,26,157,33⟩) [(.sub (.loc 4 ⟨157,34,157,39⟩) (.int 1 ⟨157,40,157,41⟩) ⟨157,34,157,42⟩)] ⟨157,26,157,43⟩)] 0 ⟨157,15,157,44⟩) ⟨157,8,157,44⟩] [] ⟨156,4,157,44⟩,
    .ret (.ite (.cmp (.loc 2 ⟨158,29,158,33⟩) .Eq (.str [45] ⟨158,37,158,40⟩) ⟨158,29,158,40⟩) (.tup [(.str [110,101,103] ⟨158,12,158,17⟩),(.loc 4 ⟨158,19,158,24⟩)] 0 ⟨158,11,158,25⟩) (.loc 4 ⟨158,46,158,51⟩) ⟨158,11,158,51⟩) ⟨158,4,158,51⟩]
noncomputable def fd_read_factor : FnD := { nm := ["reader", "depth", "sign", "is_own", "found"], np := 2, body := bd_read_factor }
noncomputable def bd_is_lone_number:List S :=
 [.asT [(1,⟨160,4,160,9⟩),(2,⟨160,11,160,17⟩)] 0 ⟨160,4,160,17⟩ (.tup [(.meth (.loc 0 ⟨160,21,160,27⟩) 11 ⟨160,21,160,32⟩ [] ⟨160,21,160,34⟩),(.meth (.loc 0 ⟨160,36,160,42⟩) 11 ⟨160,36,160,47⟩ [(.int 1 ⟨160,48,160,49⟩)] ⟨160,36,160,50⟩)] 0 ⟨160,20,160,51⟩) ⟨160,4,160,51⟩,
    .ifs (.or [(.cmp (.loc 1 ⟨161,7,161,12⟩) .Is (.none ⟨161,16,161,20⟩) ⟨161,7,161,20⟩),(.cmp (.attr (.loc 1 ⟨161,24,161,29⟩) 3 ⟨161,24,161,34⟩) .NotEq (.str [110,117,109,98,101,114] ⟨161,38,161,46⟩) ⟨161,24,161,46⟩)] ⟨161,7,161,46⟩) [.ret (.bool false ⟨162,15,162,20⟩) ⟨162,8,162,20⟩] [] ⟨161,4,162,20⟩,
    .ret (.or [(.cmp (.loc 2 ⟨163,11,163,17⟩) .Is (.none ⟨163,21,163,25⟩) ⟨163,11,163,25⟩),(.cmp (.attr (.loc 2 ⟨163,29,163,35⟩) 3 ⟨163,29,163,40⟩) .NotEq (.str [115,105,103,110] ⟨163,44,163,50⟩) ⟨163,29,163,50⟩),(.cmp (.attr (.loc 2 ⟨163,54,163,60⟩) 4 ⟨163,54,163,66⟩) .NotEq (.str [42,42] ⟨163,70,163,74⟩) ⟨163,54,163,74⟩)] ⟨163,11,163,74⟩) ⟨163,4,163,74⟩]
noncomputable def fd_is_lone_number : FnD := { nm := ["reader", "token", "behind"], np := 1, body := bd_is_lone_number }
noncomputable def bd_read_power:List S :=
 [.asN 2 ⟨165,4,165,9⟩ (.call (.glob 30 ⟨165,12,165,24⟩) [(.loc 0 ⟨165,25,165,31⟩),(.loc 1 ⟨165,33,165,38⟩)] ⟨165,12,165,39⟩) ⟨165,4,165,39⟩,
    .whl (.cmp (.call (.glob 24 ⟨166,10,166,20⟩) [(.loc 0 ⟨166,21,166,27⟩),(.tup [(.str [42,42] ⟨166,30,166,34⟩)] 0 ⟨166,29,166,36⟩)] ⟨166,10,166,37⟩) .NotEq (.str [] ⟨166,41,166,43⟩) ⟨166,10,166,43⟩) [.expr (.meth (.loc 0 ⟨167,8,167,14⟩) 13 ⟨167,8,167,19⟩ [] ⟨167,8,167,21⟩) ⟨167,8,167,21⟩,
    .asN 2 ⟨168,8,168,13⟩ (.tup [(.str [42,42] ⟨168,17,168,21⟩),(.loc 2 ⟨168,23,168,28⟩),(.call (.glob 30 ⟨168,30,168,42⟩) [(.loc 0 ⟨168,43,168,49⟩),(.loc 1 ⟨168,51,168,56⟩)] ⟨168,30,168,57⟩)] 0 ⟨168,16,168,58⟩) ⟨168,8,168,58⟩] ⟨166,4,168,58⟩,
    .ret (.loc 2 ⟨169,11,169,16⟩) ⟨169,4,169,16⟩]
noncomputable def fd_read_power : FnD := { nm := ["reader", "depth", "found"], np := 2, body := bd_read_power }
noncomputable def bd_read_primary:List S :=
 [.ifs (.cmp (.call (.glob 24 ⟨171,7,171,17⟩) [(.loc 0 ⟨171,18,171,24⟩),(.tup [(.str [43] ⟨171,27,171,30⟩),(.str [45] ⟨171,32,171,35⟩)] 0 ⟨171,26,171,36⟩)] ⟨171,7,171,37⟩) .NotEq (.str [] ⟨171,41,171,43⟩) ⟨171,7,171,43⟩) [.raise (.meth (.loc 0 ⟨172,14,172,20⟩) 12 ⟨172,14,172,26⟩ [(.str [97,110,32,111,112,101,114,97,110,100,32,105,115,32,97,115,107,101,100,32,104,101,114,101] ⟨172,27,172,53⟩)] ⟨172,14,172,54⟩) ⟨172,8,172,54⟩] [] ⟨171,4,172,54⟩,
    .ifs (.not (.meth (.loc 0 ⟨173,11,173,17⟩) 21 ⟨173,11,173,27⟩ [(.str [40] ⟨173,28,173,31⟩)] ⟨173,11,173,32⟩) ⟨173,7,173,32⟩) [.ret (.call (.glob 22 ⟨174,15,174,27⟩) [(.loc 0 ⟨174,28,174,34⟩),(.lam 0 ⟨174,36,174,76⟩)] ⟨174,15,174,77⟩) ⟨174,8,174,77⟩] [] ⟨173,4,174,77⟩,
    .asN 2 ⟨175,4,175,9⟩ (.call (.glob 25 ⟨175,12,175,20⟩) [(.loc 0 ⟨175,21,175,27⟩),(.bin (.loc 1 ⟨175,29,175,34⟩) .Add (.int 1 ⟨175,37,175,38⟩) ⟨175,29,175,38⟩)] ⟨175,12,175,39⟩) ⟨175,4,175,39⟩,
    .expr (.meth (.loc 0 ⟨176,4,176,10⟩) 22 ⟨176,4,176,20⟩ [(.str [41] ⟨176,21,176,24⟩)] ⟨176,4,176,25⟩) ⟨176,4,176,25⟩,
    .ret (.loc 2 ⟨177,11,177,16⟩) ⟨177,4,177,16⟩]
noncomputable def fd_read_primary : FnD := { nm := ["reader", "depth", "found"], np := 2, body := bd_read_primary }
noncomputable def bd_word_here:List S :=
 [.asN 2 ⟨186,4,186,9⟩ (.meth (.loc 0 ⟨186,12,186,18⟩) 11 ⟨186,12,186,23⟩ [(.loc 1 ⟨186,24,186,29⟩)] ⟨186,12,186,30⟩) ⟨186,4,186,30⟩,
    .ret (.ite (.and [(.cmp (.loc 2 ⟨187,26,187,31⟩) .IsNot (.none ⟨187,39,187,43⟩) ⟨187,26,187,43⟩),(.cmp (.attr (.loc 2 ⟨187,48,187,53⟩) 3 ⟨187,48,187,58⟩) .Eq (.str [119,111,114,100] ⟨187,62,187,68⟩) ⟨187,48,187,68⟩)] ⟨187,26,187,68⟩) (.attr (.loc 2 ⟨187,11,187,16⟩) 4 ⟨187,11,187,22⟩) (.str [] ⟨187,74,187,76⟩) ⟨187,11,187,76⟩) ⟨187,4,187,76⟩]
noncomputable def fd_word_here : FnD := { nm := ["reader", "ahead", "token"], np := 2, dflt := [.int 0], body := bd_word_here }
noncomputable def bd_is_relation_at:List S :=
 [.asN 2 ⟨189,4,189,9⟩ (.meth (.loc 0 ⟨189,12,189,18⟩) 11 ⟨189,12,189,23⟩ [(.loc 1 ⟨189,24,189,29⟩)] ⟨189,12,189,30⟩) ⟨189,4,189,30⟩,
    .ifs (.and [(.cmp (.loc 2 ⟨190,7,190,12⟩) .IsNot (.none ⟨190,20,190,24⟩) ⟨190,7,190,24⟩),(.cmp (.attr (.loc 2 ⟨190,29,190,34⟩) 3 ⟨190,29,190,39⟩) .Eq (.str [115,105,103,110] ⟨190,43,190,49⟩) ⟨190,29,190,49⟩),(.cmp (.attr (.loc 2 ⟨190,55,190,60⟩) 4 ⟨190,55,190,66⟩) .In (.glob 9 ⟨190,70,190,79⟩) ⟨190,55,190,79⟩)] ⟨190,7,190,80⟩) [.ret (.bool true ⟨191,15,191,19⟩) ⟨191,8,191,19⟩] [] ⟨190,4,191,19⟩,
    .ret (.cmp (.call (.glob 32 ⟨192,11,192,20⟩) [(.loc 0 ⟨192,21,192,27⟩),(.loc 1 ⟨192,29,192,34⟩)] ⟨192,11,192,35⟩) .In (.glob 8 ⟨192,39,192,57⟩) ⟨192,11,192,57⟩) ⟨192,4,192,57⟩]
noncomputable def fd_is_relation_at : FnD := { nm := ["reader", "ahead", "token"], np := 2, body := bd_is_relation_at }
noncomputable def bd_place_of_word:List S :=
 [.asN 1 ⟨194,4,194,9⟩ (.ite (.cmp (.call (.glob 32 ⟨194,17,194,26⟩) [(.loc 0 ⟨194,27,194,33⟩)] ⟨194,17,194,34⟩) .Eq (.str [73,83] ⟨194,38,194,42⟩) ⟨194,17,194,42⟩) (.int 1 ⟨194,12,194,13⟩) (.int 0 ⟨194,48,194,49⟩) ⟨194,12,194,49⟩) ⟨194,4,194,49⟩,
    .ret (.ite (.cmp (.call (.glob 32 ⟨195,24,195,33⟩) [(.loc 0 ⟨195,34,195,40⟩),(.loc 1 ⟨195,42,195,47⟩)] ⟨195,24,195,48⟩) .Eq (.str [78,79,84] ⟨195,52,195,57⟩) ⟨195,24,195,57⟩) (.bin (.loc 1 ⟨195,11,195,16⟩) .Add (.int 1 ⟨195,19,195,20⟩) ⟨195,11,195,20⟩) (.loc 1 ⟨195,63,195,68⟩) ⟨195,11,195,68⟩) ⟨195,4,195,68⟩]
noncomputable def fd_place_of_word : FnD := { nm := ["reader", "ahead"], np := 1, body := bd_place_of_word }
noncomputable def bd_is_predicate_here:List S :=
 [.asN 1 ⟨197,4,197,9⟩ (.call (.glob 34 ⟨197,12,197,25⟩) [(.loc 0 ⟨197,26,197,32⟩)] ⟨197,12,197,33⟩) ⟨197,4,197,33⟩,
    .asN 2 ⟨198,4,198,8⟩ (.call (.glob 32 ⟨198,11,198,20⟩) [(.loc 0 ⟨198,21,198,27⟩),(.loc 1 ⟨198,29,198,34⟩)] ⟨198,11,198,35⟩) ⟨198,4,198,35⟩,
    .ret (.or [(.call (.glob 33 ⟨199,11,199,25⟩) [(.loc 0 ⟨199,26,199,32⟩),(.loc 1 ⟨199,34,199,39⟩)] ⟨199,11,199,40⟩),(.cmp (.loc 2 ⟨199,44,199,48⟩) .In (.glob 6 ⟨199,52,199,59⟩) ⟨199,44,199,59⟩),(.cmp (.loc 2 ⟨199,63,199,67⟩) .In (.glob 7 ⟨199,71,199,85⟩) ⟨199,63,199,85⟩)] ⟨199,11,199,85⟩) ⟨199,4,199,85⟩]
noncomputable def fd_is_predicate_here : FnD := { nm := ["reader", "ahead", "word"], np := 1, body := bd_is_predicate_here }
noncomputable def bd_is_bare_relation_here:List S :=
 [.ret (.call (.glob 33 ⟨201,11,201,25⟩) [(.loc 0 ⟨201,26,201,32⟩),(.call (.glob 34 ⟨201,34,201,47⟩) [(.loc 0 ⟨201,48,201,54⟩)] ⟨201,34,201,55⟩)] ⟨201,11,201,56⟩) ⟨201,4,201,56⟩]
noncomputable def fd_is_bare_relation_here : FnD := { nm := ["reader"], np := 1, body := bd_is_bare_relation_here }
noncomputable def bd_ConditionReader___init__:List S :=
 [.asA (.loc 0 ⟨205,8,205,12⟩) 6 ⟨205,8,205,19⟩ (.loc 1 ⟨205,22,205,28⟩) ⟨205,8,205,28⟩,
    .asA (.loc 0 ⟨206,8,206,12⟩) 7 ⟨206,8,206,21⟩ (.loc 2 ⟨206,24,206,32⟩) ⟨206,8,206,32⟩,
    .asA (.loc 0 ⟨207,8,207,12⟩) 8 ⟨207,8,207,18⟩ (.loc 3 ⟨207,21,207,26⟩) ⟨207,8,207,26⟩,
    .asA (.loc 0 ⟨208,8,208,12⟩) 9 ⟨208,8,208,17⟩ (.none ⟨208,20,208,24⟩) ⟨208,8,208,24⟩]
noncomputable def fd_ConditionReader___init__ : FnD := { nm := ["self", "reader", "is_named", "depth"], np := 4, body := bd_ConditionReader___init__ }
noncomputable def bd_ConditionReader_either:List S :=
 [.asN 1 ⟨211,8,211,13⟩ (.meth (.loc 0 ⟨211,16,211,20⟩) 27 ⟨211,16,211,25⟩ [] ⟨211,16,211,27⟩) ⟨211,8,211,27⟩,
    .whl (.meth (.attr (.loc 0 ⟨212,14,212,18⟩) 6 ⟨212,14,212,25⟩) 16 ⟨212,14,212,30⟩ [(.str [79,82] ⟨212,31,212,35⟩)] ⟨212,14,212,36⟩) [.asN 1 ⟨213,12,213,17⟩ (.tup [(.str [111,114] ⟨213,21,213,25⟩),(.loc 1 ⟨213,27,213,32⟩),(.meth (.loc 0 ⟨213,34,213,38⟩) 27 ⟨213,34,213,43⟩ [] ⟨213,34,213,45⟩)] 0 ⟨213,20,213,46⟩) ⟨213,12,213,46⟩] ⟨212,8,213,46⟩,
    .ret (.loc 1 ⟨214,15,214,20⟩) ⟨214,8,214,20⟩]
noncomputable def fd_ConditionReader_either : FnD := { nm := ["self", "found"], np := 1, body := bd_ConditionReader_either }
noncomputable def bd_ConditionReader_both:List S :=
 [.asN 1 ⟨217,8,217,13⟩ (.meth (.loc 0 ⟨217,16,217,20⟩) 28 ⟨217,16,217,27⟩ [] ⟨217,16,217,29⟩) ⟨217,8,217,29⟩,
    .whl (.meth (.attr (.loc 0 ⟨218,14,218,18⟩) 6 ⟨218,14,218,25⟩) 16 ⟨218,14,218,30⟩ [(.str [65,78,68] ⟨218,31,218,36⟩)] ⟨218,14,218,37⟩) [.asN 1 ⟨219,12,219,17⟩ (.tup [(.str [97,110,100] ⟨219,21,219,26⟩),(.loc 1 ⟨219,28,219,33⟩),(.meth (.loc 0 ⟨219,35,219,39⟩) 28 ⟨219,35,219,46⟩ [] ⟨219,35,219,48⟩)] 0 ⟨219,20,219,49⟩) ⟨219,12,219,49⟩] ⟨218,8,219,49⟩,
    .ret (.loc 1 ⟨220,15,220,20⟩) ⟨220,8,220,20⟩]
noncomputable def fd_ConditionReader_both : FnD := { nm := ["self", "found"], np := 1, body := bd_ConditionReader_both }
noncomputable def bd_ConditionReader_turned:List S :=
 [.ifs (.and [(.cmp (.call (.glob 32 ⟨223,11,223,20⟩) [(.attr (.loc 0 ⟨223,21,223,25⟩) 6 ⟨223,21,223,32⟩)] ⟨223,11,223,33⟩) .Eq (.str [78,79,84] ⟨223,37,223,42⟩) ⟨223,11,223,42⟩),(.not (.call (.glob 36 ⟨223,52,223,73⟩) [(.attr (.loc 0 ⟨223,74,223,78⟩) 6 ⟨223,74,223,85⟩)] ⟨223,52,223,86⟩) ⟨223,48,223,86⟩)] ⟨223,11,223,87⟩) [.expr (.meth (.attr (.loc 0 ⟨224,12,224,16⟩) 6 ⟨224,12,224,23⟩) 13 ⟨224,12,224,28⟩ [] ⟨224,12,224,30⟩) ⟨224,12,224,30⟩,
    .ret (.tup [(.str [110,111,116] ⟨225,20,225,25⟩),(.meth (.loc 0 ⟨225,27,225,31⟩) 29 ⟨225,27,225,38⟩ [] ⟨225,27,225,40⟩)] 0 ⟨225,19,225,41⟩) ⟨225,12,225,41⟩] [] ⟨223,8,225,41⟩,
    .ret (.meth (.loc 0 ⟨226,15,226,19⟩) 29 ⟨226,15,226,26⟩ [] ⟨226,15,226,28⟩) ⟨226,8,226,28⟩]
noncomputable def fd_ConditionReader_turned : FnD := { nm := ["self"], np := 1, body := bd_ConditionReader_turned }
noncomputable def bd_ConditionReader_single:List S :=
 [.ifs (.not (.meth (.attr (.loc 0 ⟨229,15,229,19⟩) 6 ⟨229,15,229,26⟩) 20 ⟨229,15,229,34⟩ [(.str [40] ⟨229,35,229,38⟩)] ⟨229,15,229,39⟩) ⟨229,11,229,39⟩) [.ret (.meth (.loc 0 ⟨230,19,230,23⟩) 30 ⟨230,19,230,35⟩ [] ⟨230,19,230,37⟩) ⟨230,12,230,37⟩] [] ⟨229,8,230,37⟩,
    .asN 1 ⟨231,8,231,13⟩ (.attr (.attr (.loc 0 ⟨231,16,231,20⟩) 6 ⟨231,16,231,27⟩) 1 ⟨231,16,231,30⟩) ⟨231,8,231,30⟩,
    .try1 [.ret (.meth (.loc 0 ⟨233,19,233,23⟩) 31 ⟨233,19,233,35⟩ [] ⟨233,19,233,37⟩) ⟨233,12,233,37⟩] 0 ⟨234,15,234,27⟩ 2 [.asT [(3,⟨235,12,235,17⟩),(4,⟨235,19,235,22⟩)] 0 ⟨235,12,235,22⟩ (.tup [(.loc 2 ⟨235,26,235,31⟩),(.attr (.attr (.loc 0 ⟨235,33,235,37⟩) 6 ⟨235,33,235,44⟩) 1 ⟨235,33,235,47⟩)] 0 ⟨235,25,235,48⟩) ⟨235,12,235,48⟩] ⟨234,8,235,48⟩ ⟨232,8,235,48⟩,
    .asA (.attr (.loc 0 ⟨236,8,236,12⟩) 6 ⟨236,8,236,19⟩) 1 ⟨236,8,236,22⟩ (.loc 1 ⟨236,25,236,30⟩) ⟨236,8,236,30⟩,
    .try1 [.ret (.meth (.loc 0 ⟨238,19,238,23⟩) 30 ⟨238,19,238,35⟩ [] ⟨238,19,238,37⟩) ⟨238,12,238,37⟩] 0 ⟨239,15,239,27⟩ 2 [.raise (.ite (.cmp (.attr (.attr (.loc 0 ⟨240,27,240,31⟩) 6 ⟨240,27,240,38⟩) 1 ⟨240,27,240,41⟩) .GtE (.loc 4 ⟨240,45,240,48⟩) ⟨240,27,240,48⟩) (.loc 2 ⟨240,18,240,23⟩) (.loc 3 ⟨240,54,240,59⟩) ⟨240,18,240,59⟩) ⟨240,12,240,59⟩] ⟨239,8,240,59⟩ ⟨237,8,240,59⟩]
noncomputable def fd_ConditionReader_single : FnD := { nm := ["self", "start", "error", "elder", "far"], np := 1, body := bd_ConditionReader_single }
noncomputable def bd_ConditionReader_unbracketed:List S :=
 [.ifs (.call (.glob 36 ⟨243,11,243,32⟩) [(.attr (.loc 0 ⟨243,33,243,37⟩) 6 ⟨243,33,243,44⟩)] ⟨243,11,243,45⟩) [.ret (.meth (.loc 0 ⟨244,19,244,23⟩) 35 ⟨244,19,244,32⟩ [(.meth (.loc 0 ⟨244,33,244,37⟩) 32 ⟨244,33,244,53⟩ [] ⟨244,33,244,55⟩)] ⟨244,19,244,56⟩) ⟨244,12,244,56⟩] [] ⟨243,8,244,56⟩,
    .asN 1 ⟨245,8,245,15⟩ (.call (.glob 23 ⟨245,18,245,33⟩) [(.attr (.loc 0 ⟨245,34,245,38⟩) 6 ⟨245,34,245,45⟩)] ⟨245,18,245,46⟩) ⟨245,8,245,46⟩,
    .ifs (.and [(.cmp (.sub (.loc 1 ⟨246,11,246,18⟩) (.int 0 ⟨246,19,246,20⟩) ⟨246,11,246,21⟩) .Eq (.str [114,101,102] ⟨246,25,246,30⟩) ⟨246,11,246,30⟩),(.meth (.loc 0 ⟨246,35,246,39⟩) 7 ⟨246,35,246,48⟩ [(.sub (.loc 1 ⟨246,49,246,56⟩) (.int 1 ⟨246,57,246,58⟩) ⟨246,49,246,59⟩),(.sub (.loc 1 ⟨246,61,246,68⟩) (.int 2 ⟨246,69,246,70⟩) ⟨246,61,246,71⟩)] ⟨246,35,246,72⟩)] ⟨246,11,246,72⟩) [.asA (.loc 0 ⟨247,12,247,16⟩) 9 ⟨247,12,247,21⟩ (.none ⟨247,24,247,28⟩) ⟨247,12,247,28⟩,
    .ret (.tup [(.str [110,97,109,101,100] ⟨248,20,248,27⟩),(.loc 1 ⟨248,29,248,36⟩)] 0 ⟨248,19,248,37⟩) ⟨248,12,248,37⟩] [] ⟨246,8,248,37⟩,
    .ifs (.call (.glob 35 ⟨249,11,249,28⟩) [(.attr (.loc 0 ⟨249,29,249,33⟩) 6 ⟨249,29,249,40⟩)] ⟨249,11,249,41⟩) [.ret (.meth (.loc 0 ⟨250,19,250,23⟩) 34 ⟨250,19,250,33⟩ [(.loc 1 ⟨250,34,250,41⟩)] ⟨250,19,250,42⟩) ⟨250,12,250,42⟩] [] ⟨249,8,250,42⟩,
    .ret (.tup [(.str [114,101,108] ⟨251,16,251,21⟩),(.meth (.loc 0 ⟨251,23,251,27⟩) 33 ⟨251,23,251,40⟩ [] ⟨251,23,251,42⟩),(.meth (.loc 0 ⟨251,44,251,48⟩) 32 ⟨251,44,251,64⟩ [] ⟨251,44,251,66⟩),(.loc 1 ⟨251,68,251,75⟩)] 0 ⟨251,15,251,76⟩) ⟨251,8,251,76⟩]
noncomputable def fd_ConditionReader_unbracketed : FnD := { nm := ["self", "subject"], np := 1, body := bd_ConditionReader_unbracketed }
noncomputable def bd_ConditionReader_in_brackets:List S :=
 [.ifs (.cmp (.attr (.loc 0 ⟨254,11,254,15⟩) 8 ⟨254,11,254,21⟩) .GtE (.glob 12 ⟨254,25,254,45⟩) ⟨254,11,254,45⟩) [.raise (.meth (.attr (.loc 0 ⟨255,18,255,22⟩) 6 ⟨255,18,255,29⟩) 12 ⟨255,18,255,35⟩ [(.str [98,114,97,99,107,101,116,115,32,97,114,101,32,110,101,115,116,101,100,32,116,111,111,32,100,101,101,112] ⟨255,36,255,66⟩)] ⟨255,18,255,67⟩) ⟨255,12,255,67⟩] [] ⟨254,8,255,67⟩,
    .expr (.meth (.attr (.loc 0 ⟨256,8,256,12⟩) 6 ⟨256,8,256,19⟩) 22 ⟨256,8,256,29⟩ [(.str [40] ⟨256,30,256,33⟩)] ⟨256,8,256,34⟩) ⟨256,8,256,34⟩,
    .asN 1 ⟨257,8,257,13⟩ (.meth (.call (.glob 3 ⟨257,16,257,31⟩) [(.attr (.loc 0 ⟨257,32,257,36⟩) 6 ⟨257,32,257,43⟩),(.attr (.loc 0 ⟨257,45,257,49⟩) 7 ⟨257,45,257,58⟩),(.bin (.attr (.loc 0 ⟨257,60,257,64⟩) 8 ⟨257,60,257,70⟩) .Add (.int 1 ⟨257,73,257,74⟩) ⟨257,60,257,74⟩)] ⟨257,16,257,75⟩) 26 ⟨257,16,257,82⟩ [] ⟨257,16,257,84⟩) ⟨257,8,257,84⟩,
    .expr (.meth (.attr (.loc 0 ⟨258,8,258,12⟩) 6 ⟨258,8,258,19⟩) 22 ⟨258,8,258,29⟩ [(.str [41] ⟨258,30,258,33⟩)] ⟨258,8,258,34⟩) ⟨258,8,258,34⟩,
    .asA (.loc 0 ⟨259,8,259,12⟩) 9 ⟨259,8,259,17⟩ (.none ⟨259,20,259,24⟩) ⟨259,8,259,24⟩,
    .ret (.loc 1 ⟨260,15,260,20⟩) ⟨260,8,260,20⟩]
noncomputable def fd_ConditionReader_in_brackets : FnD := { nm := ["self", "found"], np := 1, body := bd_ConditionReader_in_brackets }
noncomputable def bd_ConditionReader_subject_of_last:List S :=
 [.ifs (.cmp (.attr (.loc 0 ⟨263,11,263,15⟩) 9 ⟨263,11,263,20⟩) .Is (.none ⟨263,24,263,28⟩) ⟨263,11,263,28⟩) [.raise (.meth (.attr (.loc 0 ⟨264,18,264,22⟩) 6 ⟨264,18,264,29⟩) 12 ⟨264,18,264,35⟩ [(.str [97,32,114,101,108,97,116,105,111,110,32,105,115,32,109,105,115,115,105,110,103] ⟨264,36,264,59⟩)] ⟨264,18,264,60⟩) ⟨264,12,264,60⟩] [] ⟨263,8,264,60⟩,
    .ret (.sub (.attr (.loc 0 ⟨265,15,265,19⟩) 9 ⟨265,15,265,24⟩) (.int 0 ⟨265,25,265,26⟩) ⟨265,15,265,27⟩) ⟨265,8,265,27⟩]
noncomputable def fd_ConditionReader_subject_of_last : FnD := { nm := ["self"], np := 1, body := bd_ConditionReader_subject_of_last }
noncomputable def bd_ConditionReader_sign_of_last:List S :=
 [.ifs (.cmp (.attr (.loc 0 ⟨268,11,268,15⟩) 9 ⟨268,11,268,20⟩) .Is (.none ⟨268,24,268,28⟩) ⟨268,11,268,28⟩) [.raise (.meth (.attr (.loc 0 ⟨269,18,269,22⟩) 6 ⟨269,18,269,29⟩) 12 ⟨269,18,269,35⟩ [(.str [97,32,114,101,108,97,116,105,111,110,32,105,115,32,109,105,115,115,105,110,103] ⟨269,36,269,59⟩)] ⟨269,18,269,60⟩) ⟨269,12,269,60⟩] [] ⟨268,8,269,60⟩,
    .ret (.sub (.attr (.loc 0 ⟨270,15,270,19⟩) 9 ⟨270,15,270,24⟩) (.int 1 ⟨270,25,270,26⟩) ⟨270,15,270,27⟩) ⟨270,8,270,27⟩]
noncomputable def fd_ConditionReader_sign_of_last : FnD := { nm := ["self"], np := 1, body := bd_ConditionReader_sign_of_last }
noncomputable def bd_ConditionReader_predicate:List S :=
 [.asN 2 ⟨273,8,273,12⟩ (.call (.glob 32 ⟨273,15,273,24⟩) [(.attr (.loc 0 ⟨273,25,273,29⟩) 6 ⟨273,25,273,36⟩),(.call (.glob 34 ⟨273,38,273,51⟩) [(.attr (.loc 0 ⟨273,52,273,56⟩) 6 ⟨273,52,273,63⟩)] ⟨273,38,273,64⟩)] ⟨273,15,273,65⟩) ⟨273,8,273,65⟩,
    .ifs (.and [(.cmp (.loc 2 ⟨274,11,274,15⟩) .NotIn (.glob 6 ⟨274,23,274,30⟩) ⟨274,11,274,30⟩),(.cmp (.loc 2 ⟨274,35,274,39⟩) .NotIn (.glob 7 ⟨274,47,274,61⟩) ⟨274,35,274,61⟩)] ⟨274,11,274,61⟩) [.ret (.meth (.loc 0 ⟨275,19,275,23⟩) 35 ⟨275,19,275,32⟩ [(.loc 1 ⟨275,33,275,40⟩)] ⟨275,19,275,41⟩) ⟨275,12,275,41⟩] [] ⟨274,8,275,41⟩,
    .asA (.loc 0 ⟨276,8,276,12⟩) 9 ⟨276,8,276,17⟩ (.none ⟨276,20,276,24⟩) ⟨276,8,276,24⟩,
    .expr (.meth (.attr (.loc 0 ⟨277,8,277,12⟩) 6 ⟨277,8,277,19⟩) 16 ⟨277,8,277,24⟩ [(.str [73,83] ⟨277,25,277,29⟩)] ⟨277,8,277,30⟩) ⟨277,8,277,30⟩,
    .asN 3 ⟨278,8,278,14⟩ (.meth (.attr (.loc 0 ⟨278,17,278,21⟩) 6 ⟨278,17,278,28⟩) 16 ⟨278,17,278,33⟩ [(.str [78,79,84] ⟨278,34,278,39⟩)] ⟨278,17,278,40⟩) ⟨278,8,278,40⟩,
    .expr (.meth (.attr (.loc 0 ⟨279,8,279,12⟩) 6 ⟨279,8,279,19⟩) 13 ⟨279,8,279,24⟩ [] ⟨279,8,279,26⟩) ⟨279,8,279,26⟩,
    .ifs (.cmp (.loc 2 ⟨280,11,280,15⟩) .In (.glob 6 ⟨280,19,280,26⟩) ⟨280,11,280,26⟩) [.asN 4 ⟨281,12,281,17⟩ (.tup [(.str [99,108,97,115,115] ⟨281,21,281,28⟩),(.loc 2 ⟨281,30,281,34⟩),(.loc 1 ⟨281,36,281,43⟩)] 0 ⟨281,20,281,44⟩) ⟨281,12,281,44⟩] [.asN 4 ⟨283,12,283,17⟩ (.tup [(.str [115,105,103,110] ⟨283,21,283,27⟩),(.sub (.glob 7 ⟨283,29,283,43⟩) (.loc 2 ⟨283,44,283,48⟩) ⟨283,29,283,49⟩),(.loc 1 ⟨283,51,283,58⟩)] 0 ⟨283,20,283,59⟩) ⟨283,12,283,59⟩] ⟨280,8,283,59⟩,
    .ret (.ite (.loc 3 ⟨284,33,284,39⟩) (.tup [(.str [110,111,116] ⟨284,16,284,21⟩),(.loc 4 ⟨284,23,284,28⟩)] 0 ⟨284,15,284,29⟩) (.loc 4 ⟨284,45,284,50⟩) ⟨284,15,284,50⟩) ⟨284,8,284,50⟩]
noncomputable def fd_ConditionReader_predicate : FnD := { nm := ["self", "subject", "word", "is_not", "found"], np := 2, body := bd_ConditionReader_predicate }
noncomputable def bd_ConditionReader_relation:List S :=
 [.expr (.meth (.attr (.loc 0 ⟨287,8,287,12⟩) 6 ⟨287,8,287,19⟩) 16 ⟨287,8,287,24⟩ [(.str [73,83] ⟨287,25,287,29⟩)] ⟨287,8,287,30⟩) ⟨287,8,287,30⟩,
    .asN 2 ⟨288,8,288,14⟩ (.meth (.attr (.loc 0 ⟨288,17,288,21⟩) 6 ⟨288,17,288,28⟩) 16 ⟨288,17,288,33⟩ [(.str [78,79,84] ⟨288,34,288,39⟩)] ⟨288,17,288,40⟩) ⟨288,8,288,40⟩,
    .asN 3 ⟨289,8,289,12⟩ (.meth (.loc 0 ⟨289,15,289,19⟩) 36 ⟨289,15,289,29⟩ [] ⟨289,15,289,31⟩) ⟨289,8,289,31⟩,
    .asA (.loc 0 ⟨290,8,290,12⟩) 9 ⟨290,8,290,17⟩ (.tup [(.loc 1 ⟨290,21,290,28⟩),(.ite (.loc 2 ⟨290,49,290,55⟩) (.sub (.glob 5 ⟨290,30,290,39⟩) (.loc 3 ⟨290,40,290,44⟩) ⟨290,30,290,45⟩) (.loc 3 ⟨290,61,290,65⟩) ⟨290,30,290,65⟩)] 0 ⟨290,20,290,66⟩) ⟨290,8,290,66⟩,
    .ret (.tup [(.str [114,101,108] ⟨291,16,291,21⟩),(.sub (.attr (.loc 0 ⟨291,23,291,27⟩) 9 ⟨291,23,291,32⟩) (.int 1 ⟨291,33,291,34⟩) ⟨291,23,291,35⟩),(.loc 1 ⟨291,37,291,44⟩),(.call (.glob 23 ⟨291,46,291,61⟩) [(.attr (.loc 0 ⟨291,62,291,66⟩) 6 ⟨291,62,291,73⟩)] ⟨291,46,291,74⟩)] 0 ⟨291,15,291,75⟩) ⟨291,8,291,75⟩]
noncomputable def fd_ConditionReader_relation : FnD := { nm := ["self", "subject", "is_not", "sign"], np := 2, body := bd_ConditionReader_relation }
noncomputable def bd_ConditionReader_sign_here:List S :=
 [.asN 1 ⟨294,8,294,13⟩ (.meth (.attr (.loc 0 ⟨294,16,294,20⟩) 6 ⟨294,16,294,27⟩) 13 ⟨294,16,294,32⟩ [] ⟨294,16,294,34⟩) ⟨294,8,294,34⟩,
    .ifs (.cmp (.attr (.loc 1 ⟨295,11,295,16⟩) 3 ⟨295,11,295,21⟩) .Eq (.str [115,105,103,110] ⟨295,25,295,31⟩) ⟨295,11,295,31⟩) [.ret (.attr (.loc 1 ⟨296,19,296,24⟩) 4 ⟨296,19,296,30⟩) ⟨296,12,296,30⟩] [] ⟨295,8,296,30⟩,
    .expr (.meth (.attr (.loc 0 ⟨297,8,297,12⟩) 6 ⟨297,8,297,19⟩) 16 ⟨297,8,297,24⟩ [(.ite (.cmp (.attr (.loc 1 ⟨297,33,297,38⟩) 4 ⟨297,33,297,44⟩) .Eq (.str [69,81,85,65,76] ⟨297,48,297,55⟩) ⟨297,33,297,55⟩) (.str [84,79] ⟨297,25,297,29⟩) (.str [84,72,65,78] ⟨297,61,297,67⟩) ⟨297,25,297,67⟩)] ⟨297,8,297,68⟩) ⟨297,8,297,68⟩,
    .asN 2 ⟨298,8,298,12⟩ (.sub (.glob 8 ⟨298,15,298,33⟩) (.attr (.loc 1 ⟨298,34,298,39⟩) 4 ⟨298,34,298,45⟩) ⟨298,15,298,46⟩) ⟨298,8,298,46⟩,
    .ifs (.and [(.cmp (.attr (.loc 1 ⟨299,11,299,16⟩) 4 ⟨299,11,299,22⟩) .NotEq (.str [69,81,85,65,76] ⟨299,26,299,33⟩) ⟨299,11,299,33⟩),(.cmp (.call (.glob 32 ⟨299,38,299,47⟩) [(.attr (.loc 0 ⟨299,48,299,52⟩) 6 ⟨299,48,299,59⟩)] ⟨299,38,299,60⟩) .Eq (.str [79,82] ⟨299,64,299,68⟩) ⟨299,38,299,68⟩),(.cmp (.call (.glob 32 ⟨299,74,299,83⟩) [(.attr (.loc 0 ⟨299,84,299,88⟩) 6 ⟨299,84,299,95⟩),(.int 1 ⟨299,97,299,98⟩)] ⟨299,74,299,99⟩) .Eq (.str [69,81,85,65,76] ⟨299,103,299,110⟩) ⟨299,74,299,110⟩)] ⟨299,11,299,111⟩) [.expr (.meth (.attr (.loc 0 ⟨300,12,300,16⟩) 6 ⟨300,12,300,23⟩) 13 ⟨300,12,300,28⟩ [] ⟨300,12,300,30⟩) ⟨300,12,300,30⟩,
    .expr (.meth (.attr (.loc 0 ⟨301,12,301,16⟩) 6 ⟨301,12,301,23⟩) 13 ⟨301,12,301,28⟩ [] ⟨301,12,301,30⟩) ⟨301,12,301,30⟩,
    .expr (.meth (.attr (.loc 0 ⟨302,12,302,16⟩) 6 ⟨302,12,302,23⟩) 16 ⟨302,12,302,28⟩ [(.str [84,79] ⟨302,29,302,33⟩)] ⟨302,12,302,34⟩) ⟨302,12,302,34⟩,
    .ret (.bin (.loc 2 ⟨303,19,303,23⟩) .Add (.str [61] ⟨303,26,303,29⟩) ⟨303,19,303,29⟩) ⟨303,12,303,29⟩] [] ⟨299,8,303,29⟩,
    .ret (.loc 2 ⟨304,15,304,19⟩) ⟨304,8,304,19⟩]
noncomputable def fd_ConditionReader_sign_here : FnD := { nm := ["self", "token", "sign"], np := 1, body := bd_ConditionReader_sign_here }
noncomputable def bd_read_condition:List S :=
 [.ifs (.cmp (.loc 1 ⟨306,7,306,15⟩) .Is (.none ⟨306,19,306,23⟩) ⟨306,7,306,23⟩) [.ret (.meth (.call (.glob 3 ⟨307,15,307,30⟩) [(.loc 0 ⟨307,31,307,37⟩),(.lam 1 ⟨307,39,307,84⟩),(.int 0 ⟨307,86,307,87⟩)] ⟨307,15,307,88⟩) 26 ⟨307,15,307,95⟩ [] ⟨307,15,307,97⟩) ⟨307,8,307,97⟩] [] ⟨306,4,307,97⟩,
    .ret (.meth (.call (.glob 3 ⟨308,11,308,26⟩) [(.loc 0 ⟨308,27,308,33⟩),(.loc 1 ⟨308,35,308,43⟩),(.int 0 ⟨308,45,308,46⟩)] ⟨308,11,308,47⟩) 26 ⟨308,11,308,54⟩ [] ⟨308,11,308,56⟩) ⟨308,4,308,56⟩]
noncomputable def fd_read_condition : FnD := { nm := ["reader", "is_named"], np := 2, dflt := [.none], body := bd_read_condition }
noncomputable def bd_is_reserved:List S :=
 [.ret (.cmp (.bin (.bin (.str [32] ⟨313,11,313,14⟩) .Add (.loc 0 ⟨313,17,313,21⟩) ⟨313,11,313,21⟩) .Add (.str [32] ⟨313,24,313,27⟩) ⟨313,11,313,27⟩) .In (.glob 10 ⟨313,31,313,39⟩) ⟨313,11,313,39⟩) ⟨313,4,313,39⟩]
noncomputable def fd_is_reserved : FnD := { nm := ["word"], np := 1, body := bd_is_reserved }
noncomputable def bd_Reader___init__:List S :=
 [.asA (.loc 0 ⟨322,8,322,12⟩) 0 ⟨322,8,322,19⟩ (.loc 1 ⟨322,22,322,28⟩) ⟨322,8,322,28⟩,
    .asA (.loc 0 ⟨323,8,323,12⟩) 1 ⟨323,8,323,15⟩ (.loc 2 ⟨323,18,323,20⟩) ⟨323,8,323,20⟩,
    .asA (.loc 0 ⟨324,8,324,12⟩) 2 ⟨324,8,324,18⟩ (.dct [] [] ⟨324,21,324,23⟩) ⟨324,8,324,23⟩]
noncomputable def fd_Reader___init__ : FnD := { nm := ["self", "tokens", "at"], np := 3, dflt := [.int 0], body := bd_Reader___init__ }
noncomputable def bd_Reader_peek:List S :=
 [.ifs (.cmp (.bin (.attr (.loc 0 ⟨327,11,327,15⟩) 1 ⟨327,11,327,18⟩) .Add (.loc 1 ⟨327,21,327,26⟩) ⟨327,11,327,26⟩) .Lt (.bcall 0 ⟨327,29,327,32⟩ [(.attr (.loc 0 ⟨327,33,327,37⟩) 0 ⟨327,33,327,44⟩)] ⟨327,29,327,45⟩) ⟨327,11,327,45⟩) [.ret (.sub (.attr (.loc 0 ⟨328,19,328,23⟩) 0 ⟨328,19,328,30⟩) (.bin (.attr (.loc 0 ⟨328,31,328,35⟩) 1 ⟨328,31,328,38⟩) .Add (.loc 1 ⟨328,41,328,46⟩) ⟨328,31,328,46⟩) ⟨328,19,328,47⟩) ⟨328,12,328,47⟩] [] ⟨327,8,328,47⟩,
    .ret (.none ⟨329,15,329,19⟩) ⟨329,8,329,19⟩]
noncomputable def fd_Reader_peek : FnD := { nm := ["self", "ahead"], np := 2, dflt := [.int 0], body := bd_Reader_peek }
noncomputable def bd_Reader_fault:List S :=
 [.ifs (.not (.attr (.loc 0 ⟨335,15,335,19⟩) 0 ⟨335,15,335,26⟩) ⟨335,11,335,26⟩) [.ret (.call (.glob 0 ⟨336,19,336,31⟩) [(.loc 1 ⟨336,32,336,36⟩),(.tup [(.int 0 ⟨336,39,336,40⟩),(.int 0 ⟨336,42,336,43⟩)] 0 ⟨336,38,336,44⟩)] ⟨336,19,336,45⟩) ⟨336,12,336,45⟩] [] ⟨335,8,336,45⟩,
    .ret (.call (.glob 0 ⟨337,15,337,27⟩) [(.loc 1 ⟨337,28,337,32⟩),(.attr (.sub (.attr (.loc 0 ⟨337,34,337,38⟩) 0 ⟨337,34,337,45⟩) (.bcall 3 ⟨337,46,337,49⟩ [(.attr (.loc 0 ⟨337,50,337,54⟩) 1 ⟨337,50,337,57⟩),(.bin (.bcall 0 ⟨337,59,337,62⟩ [(.attr (.loc 0 ⟨337,63,337,67⟩) 0 ⟨337,63,337,74⟩)] ⟨337,59,337,75⟩) .Sub (.int 1 ⟨337,78,337,79⟩) ⟨337,59,337,79⟩)] ⟨337,46,337,80⟩) ⟨337,34,337,81⟩) 1 ⟨337,34,337,84⟩)] ⟨337,15,337,85⟩) ⟨337,8,337,85⟩]
noncomputable def fd_Reader_fault : FnD := { nm := ["self", "what"], np := 2, body := bd_Reader_fault }
noncomputable def bd_Reader_take:List S :=
 [.asN 1 ⟨340,8,340,13⟩ (.meth (.loc 0 ⟨340,16,340,20⟩) 11 ⟨340,16,340,25⟩ [] ⟨340,16,340,27⟩) ⟨340,8,340,27⟩,
    .ifs (.cmp (.loc 1 ⟨341,11,341,16⟩) .Is (.none ⟨341,20,341,24⟩) ⟨341,11,341,24⟩) [.raise (.meth (.loc 0 ⟨342,18,342,22⟩) 12 ⟨342,18,342,28⟩ [(.str [116,104,101,32,116,101,120,116,32,101,110,100,115,32,116,111,111,32,101,97,114,108,121] ⟨342,29,342,54⟩)] ⟨342,18,342,55⟩) ⟨342,12,342,55⟩] [] ⟨341,8,342,55⟩,
    .asA (.loc 0 ⟨343,8,343,12⟩) 1 ⟨343,8,343,15⟩ (.bin (.attr (.loc 0 ⟨343,18,343,22⟩) 1 ⟨343,18,343,25⟩) .Add (.int 1 ⟨343,28,343,29⟩) ⟨343,18,343,29⟩) ⟨343,8,343,29⟩,
    .ret (.loc 1 ⟨344,15,344,20⟩) ⟨344,8,344,20⟩]
noncomputable def fd_Reader_take : FnD := { nm := ["self", "token"], np := 1, body := bd_Reader_take }
noncomputable def bd_Reader_is_kind:List S :=
 [.asN 3 ⟨347,8,347,13⟩ (.meth (.loc 0 ⟨347,16,347,20⟩) 11 ⟨347,16,347,25⟩ [(.loc 2 ⟨347,26,347,31⟩)] ⟨347,16,347,32⟩) ⟨347,8,347,32⟩,
    .ret (.and [(.cmp (.loc 3 ⟨348,15,348,20⟩) .IsNot (.none ⟨348,28,348,32⟩) ⟨348,15,348,32⟩),(.cmp (.attr (.loc 3 ⟨348,37,348,42⟩) 3 ⟨348,37,348,47⟩) .Eq (.loc 1 ⟨348,51,348,55⟩) ⟨348,37,348,55⟩)] ⟨348,15,348,55⟩) ⟨348,8,348,55⟩]
noncomputable def fd_Reader_is_kind : FnD := { nm := ["self", "kind", "ahead", "token"], np := 3, dflt := [.int 0], body := bd_Reader_is_kind }
noncomputable def bd_Reader_is_word:List S :=
 [.asN 2 ⟨351,8,351,13⟩ (.int 0 ⟨351,16,351,17⟩) ⟨351,8,351,17⟩,
    .forN 3 ⟨352,12,352,16⟩ (.meth (.loc 1 ⟨352,20,352,25⟩) 37 ⟨352,20,352,31⟩ [(.str [32] ⟨352,32,352,35⟩)] ⟨352,20,352,36⟩) [.ifs (.or [(.not (.meth (.loc 0 ⟨353,19,353,23⟩) 14 ⟨353,19,353,31⟩ [(.str [119,111,114,100] ⟨353,32,353,38⟩),(.loc 2 ⟨353,40,353,45⟩)] ⟨353,19,353,46⟩) ⟨353,15,353,46⟩),(.cmp (.attr (.meth (.loc 0 ⟨353,50,353,54⟩) 11 ⟨353,50,353,59⟩ [(.loc 2 ⟨353,60,353,65⟩)] ⟨353,50,353,66⟩) 4 ⟨353,50,353,72⟩) .NotEq (.loc 3 ⟨353,76,353,80⟩) ⟨353,50,353,80⟩)] ⟨353,15,353,80⟩) [.ret (.bool false ⟨354,23,354,28⟩) ⟨354,16,354,28⟩] [] ⟨353,12,354,28⟩,
    .asN 2 ⟨355,12,355,17⟩ (.bin (.loc 2 ⟨355,20,355,25⟩) .Add (.int 1 ⟨355,28,355,29⟩) ⟨355,20,355,29⟩) ⟨355,12,355,29⟩] ⟨352,8,355,29⟩,
    .ret (.bool true ⟨356,15,356,19⟩) ⟨356,8,356,19⟩]
noncomputable def fd_Reader_is_word : FnD := { nm := ["self", "words", "ahead", "word"], np := 2, body := bd_Reader_is_word }
noncomputable def bd_Reader_skip:List S :=
 [.ifs (.not (.meth (.loc 0 ⟨359,15,359,19⟩) 15 ⟨359,15,359,27⟩ [(.loc 1 ⟨359,28,359,33⟩)] ⟨359,15,359,34⟩) ⟨359,11,359,34⟩) [.ret (.bool false ⟨360,19,360,24⟩) ⟨360,12,360,24⟩] [] ⟨359,8,360,24⟩,
    .asA (.loc 0 ⟨361,8,361,12⟩) 1 ⟨361,8,361,15⟩ (.bin (.attr (.loc 0 ⟨361,18,361,22⟩) 1 ⟨361,18,361,25⟩) .Add (.bcall 0 ⟨361,28,361,31⟩ [(.meth (.loc 1 ⟨361,32,361,37⟩) 37 ⟨361,32,361,43⟩ [(.str [32] ⟨361,44,361,47⟩)] ⟨361,32,361,48⟩)] ⟨361,28,361,49⟩) ⟨361,18,361,49⟩) ⟨361,8,361,49⟩,
    .ret (.bool true ⟨362,15,362,19⟩) ⟨362,8,362,19⟩]
noncomputable def fd_Reader_skip : FnD := { nm := ["self", "words"], np := 2, body := bd_Reader_skip }
noncomputable def bd_Reader_one_of:List S :=
 [.forN 2 ⟨368,12,368,16⟩ (.meth (.loc 1 ⟨368,20,368,25⟩) 37 ⟨368,20,368,31⟩ [(.str [32] ⟨368,32,368,35⟩)] ⟨368,20,368,36⟩) [.ifs (.meth (.loc 0 ⟨369,15,369,19⟩) 16 ⟨369,15,369,24⟩ [(.loc 2 ⟨369,25,369,29⟩)] ⟨369,15,369,30⟩) [.ret (.loc 2 ⟨370,23,370,27⟩) ⟨370,16,370,27⟩] [] ⟨369,12,370,27⟩] ⟨368,8,370,27⟩,
    .ret (.str [] ⟨371,15,371,17⟩) ⟨371,8,371,17⟩]
noncomputable def fd_Reader_one_of : FnD := { nm := ["self", "words", "word"], np := 2, body := bd_Reader_one_of }
noncomputable def bd_Reader_is_name:List S :=
 [.ret (.and [(.meth (.loc 0 ⟨379,15,379,19⟩) 14 ⟨379,15,379,27⟩ [(.str [119,111,114,100] ⟨379,28,379,34⟩),(.loc 1 ⟨379,36,379,41⟩)] ⟨379,15,379,42⟩),(.not (.call (.glob 38 ⟨379,52,379,63⟩) [(.attr (.meth (.loc 0 ⟨379,64,379,68⟩) 11 ⟨379,64,379,73⟩ [(.loc 1 ⟨379,74,379,79⟩)] ⟨379,64,379,80⟩) 4 ⟨379,64,379,86⟩)] ⟨379,52,379,87⟩) ⟨379,48,379,87⟩)] ⟨379,15,379,88⟩) ⟨379,8,379,88⟩]
noncomputable def fd_Reader_is_name : FnD := { nm := ["self", "ahead"], np := 2, dflt := [.int 0], body := bd_Reader_is_name }
noncomputable def bd_Reader_name:List S :=
 [.ifs (.not (.meth (.loc 0 ⟨382,15,382,19⟩) 18 ⟨382,15,382,27⟩ [] ⟨382,15,382,29⟩) ⟨382,11,382,29⟩) [.raise (.meth (.loc 0 ⟨383,18,383,22⟩) 12 ⟨383,18,383,28⟩ [(.str [97,32,110,97,109,101,32,105,115,32,97,115,107,101,100,32,104,101,114,101] ⟨383,29,383,51⟩)] ⟨383,18,383,52⟩) ⟨383,12,383,52⟩] [] ⟨382,8,383,52⟩,
    .ret (.attr (.meth (.loc 0 ⟨384,15,384,19⟩) 13 ⟨384,15,384,24⟩ [] ⟨384,15,384,26⟩) 4 ⟨384,15,384,32⟩) ⟨384,8,384,32⟩]
noncomputable def fd_Reader_name : FnD := { nm := ["self"], np := 1, body := bd_Reader_name }
noncomputable def bd_Reader_is_sign:List S :=
 [.ret (.and [(.meth (.loc 0 ⟨393,15,393,19⟩) 14 ⟨393,15,393,27⟩ [(.str [115,105,103,110] ⟨393,28,393,34⟩),(.loc 2 ⟨393,36,393,41⟩)] ⟨393,15,393,42⟩),(.cmp (.attr (.meth (.loc 0 ⟨393,47,393,51⟩) 11 ⟨393,47,393,56⟩ [(.loc 2 ⟨393,57,393,62⟩)] ⟨393,47,393,63⟩) 4 ⟨393,47,393,69⟩) .Eq (.loc 1 ⟨393,73,393,77⟩) ⟨393,47,393,77⟩)] ⟨393,15,393,77⟩) ⟨393,8,393,77⟩]
noncomputable def fd_Reader_is_sign : FnD := { nm := ["self", "sign", "ahead"], np := 3, dflt := [.int 0], body := bd_Reader_is_sign }
noncomputable def bd_Reader_skip_sign:List S :=
 [.ifs (.not (.meth (.loc 0 ⟨396,15,396,19⟩) 20 ⟨396,15,396,27⟩ [(.loc 1 ⟨396,28,396,32⟩)] ⟨396,15,396,33⟩) ⟨396,11,396,33⟩) [.ret (.bool false ⟨397,19,397,24⟩) ⟨397,12,397,24⟩] [] ⟨396,8,397,24⟩,
    .asA (.loc 0 ⟨398,8,398,12⟩) 1 ⟨398,8,398,15⟩ (.bin (.attr (.loc 0 ⟨398,18,398,22⟩) 1 ⟨398,18,398,25⟩) .Add (.int 1 ⟨398,28,398,29⟩) ⟨398,18,398,29⟩) ⟨398,8,398,29⟩,
    .ret (.bool true ⟨399,15,399,19⟩) ⟨399,8,399,19⟩]
noncomputable def fd_Reader_skip_sign : FnD := { nm := ["self", "sign"], np := 2, body := bd_Reader_skip_sign }
noncomputable def bd_Reader_need_sign:List S :=
 [.ifs (.not (.meth (.loc 0 ⟨402,15,402,19⟩) 21 ⟨402,15,402,29⟩ [(.loc 1 ⟨402,30,402,34⟩)] ⟨402,15,402,35⟩) ⟨402,11,402,35⟩) [.raise (.meth (.loc 0 ⟨403,18,403,22⟩) 12 ⟨403,18,403,28⟩ [(.bin (.loc 1 ⟨403,29,403,33⟩) .Add (.str [32,105,115,32,97,115,107,101,100,32,104,101,114,101] ⟨403,36,403,52⟩) ⟨403,29,403,52⟩)] ⟨403,18,403,53⟩) ⟨403,12,403,53⟩] [] ⟨402,8,403,53⟩]
noncomputable def fd_Reader_need_sign : FnD := { nm := ["self", "sign"], np := 2, body := bd_Reader_need_sign }
noncomputable def bd_Reader_is_number:List S :=
 [.ifs (.or [(.meth (.loc 0 ⟨406,11,406,15⟩) 20 ⟨406,11,406,23⟩ [(.str [43] ⟨406,24,406,27⟩)] ⟨406,11,406,28⟩),(.meth (.loc 0 ⟨406,32,406,36⟩) 20 ⟨406,32,406,44⟩ [(.str [45] ⟨406,45,406,48⟩)] ⟨406,32,406,49⟩)] ⟨406,11,406,49⟩) [.ret (.meth (.loc 0 ⟨407,19,407,23⟩) 14 ⟨407,19,407,31⟩ [(.str [110,117,109,98,101,114] ⟨407,32,407,40⟩),(.int 1 ⟨407,42,407,43⟩)] ⟨407,19,407,44⟩) ⟨407,12,407,44⟩] [] ⟨406,8,407,44⟩,
    .ret (.meth (.loc 0 ⟨408,15,408,19⟩) 14 ⟨408,15,408,27⟩ [(.str [110,117,109,98,101,114] ⟨408,28,408,36⟩)] ⟨408,15,408,37⟩) ⟨408,8,408,37⟩]
noncomputable def fd_Reader_is_number : FnD := { nm := ["self"], np := 1, body := bd_Reader_is_number }
noncomputable def bd_Token___init__:List S :=
 [.asA (.loc 0 ⟨445,8,445,12⟩) 3 ⟨445,8,445,17⟩ (.loc 1 ⟨445,20,445,24⟩) ⟨445,8,445,24⟩,
    .asA (.loc 0 ⟨446,8,446,12⟩) 4 ⟨446,8,446,18⟩ (.loc 2 ⟨446,21,446,26⟩) ⟨446,8,446,26⟩,
    .asA (.loc 0 ⟨447,8,447,12⟩) 1 ⟨447,8,447,15⟩ (.loc 3 ⟨447,18,447,20⟩) ⟨447,8,447,20⟩,
    .asA (.loc 0 ⟨448,8,448,12⟩) 5 ⟨448,8,448,20⟩ (.loc 4 ⟨448,23,448,30⟩) ⟨448,8,448,30⟩]
noncomputable def fd_Token___init__ : FnD := { nm := ["self", "kind", "worth", "at", "is_in_a"], np := 5, dflt := [.tup [.int 0, .int 0], .bool false], body := bd_Token___init__ }
noncomputable def bd__law_turned:List S :=
 [.ret (.dct [(.str [61] ⟨456,12,456,15⟩),(.str [60] ⟨456,23,456,26⟩),(.str [62] ⟨456,34,456,37⟩),(.str [60,61] ⟨456,45,456,49⟩),(.str [62,61] ⟨456,56,456,60⟩)] [(.str [60,62] ⟨456,17,456,21⟩),(.str [62,61] ⟨456,28,456,32⟩),(.str [60,61] ⟨456,39,456,43⟩),(.str [62] ⟨456,51,456,54⟩),(.str [60] ⟨456,62,456,65⟩)] ⟨456,11,456,66⟩) ⟨456,4,456,66⟩]
noncomputable def fd__law_turned:FnD:={ nm:=[],np:=0,body:=bd__law_turned }
noncomputable def bd__law_draw:List S :=
 [.ifs (.cmp (.sub (.loc 0 ⟨458,7,458,10⟩) (.int 2 ⟨458,11,458,12⟩) ⟨458,7,458,13⟩) .Gt (.int 0 ⟨458,16,458,17⟩) ⟨458,7,458,17⟩) [.asN 2 ⟨459,8,459,13⟩ (.bin (.sub (.loc 0 ⟨459,16,459,19⟩) (.int 2 ⟨459,20,459,21⟩) ⟨459,16,459,22⟩) .Mod (.loc 1 ⟨459,25,459,29⟩) ⟨459,16,459,29⟩) ⟨459,8,459,29⟩,
    .asI (.loc 0 ⟨460,8,460,11⟩) (.int 2 ⟨460,12,460,13⟩) ⟨460,8,460,14⟩ (.bin (.sub (.loc 0 ⟨460,17,460,20⟩) (.int 2 ⟨460,21,460,22⟩) ⟨460,17,460,23⟩) .FloorDiv (.loc 1 ⟨460,27,460,31⟩) ⟨460,17,460,31⟩) ⟨460,8,460,31⟩,
    .ret (.loc 2 ⟨461,15,461,20⟩) ⟨461,8,461,20⟩] [] ⟨458,4,461,20⟩,
    .asN 3 ⟨462,4,462,8⟩ (.sub (.loc 0 ⟨462,11,462,14⟩) (.int 1 ⟨462,15,462,16⟩) ⟨462,11,462,17⟩) ⟨462,4,462,17⟩,
    .asI (.loc 0 ⟨463,4,463,7⟩) (.int 1 ⟨463,8,463,9⟩) ⟨463,4,463,10⟩ (.bin (.loc 3 ⟨463,13,463,17⟩) .Add (.int 1 ⟨463,20,463,21⟩) ⟨463,13,463,21⟩) ⟨463,4,463,21⟩,
    .ifs (.cmp (.loc 3 ⟨464,7,464,11⟩) .GtE (.bcall 0 ⟨464,15,464,18⟩ [(.sub (.loc 0 ⟨464,19,464,22⟩) (.int 0 ⟨464,23,464,24⟩) ⟨464,19,464,25⟩)] ⟨464,15,464,26⟩) ⟨464,7,464,26⟩) [.ret (.bin (.bin (.bin (.bin (.bin (.sub (.loc 0 ⟨465,16,465,19⟩) (.int 3 ⟨465,20,465,21⟩) ⟨465,16,465,22⟩) .Add (.int 5 ⟨465,25,465,26⟩) ⟨465,16,465,26⟩) .Mult (.bin (.loc 3 ⟨465,31,465,35⟩) .Add (.int 3 ⟨465,38,465,39⟩) ⟨465,31,465,39⟩) ⟨465,15,465,40⟩) .Mult (.bin (.loc 3 ⟨465,44,465,48⟩) .Add (.int 11 ⟨465,51,465,53⟩) ⟨465,44,465,53⟩) ⟨465,15,465,54⟩) .FloorDiv (.int 7 ⟨465,58,465,59⟩) ⟨465,15,465,59⟩) .Mod (.loc 1 ⟨465,62,465,66⟩) ⟨465,15,465,66⟩) ⟨465,8,465,66⟩] [] ⟨464,4,465,66⟩,
    .asN 4 ⟨466,4,466,8⟩ (.sub (.sub (.loc 0 ⟨466,11,466,14⟩) (.int 0 ⟨466,15,466,16⟩) ⟨466,11,466,17⟩) (.loc 3 ⟨466,18,466,22⟩) ⟨466,11,466,23⟩) ⟨466,4,466,23⟩,
    .ifs (.cmp (.bcall 1 ⟨467,7,467,10⟩ [(.loc 4 ⟨467,11,467,15⟩)] ⟨467,7,467,16⟩) .Lt (.bin (.int 10 ⟨467,19,467,21⟩) .Pow (.int 18 ⟨467,25,467,27⟩) ⟨467,19,467,27⟩) ⟨467,7,467,27⟩) [.ret (.bin (.loc 4 ⟨468,15,468,19⟩) .Mod (.loc 1 ⟨468,22,468,26⟩) ⟨468,15,468,26⟩) ⟨468,8,468,26⟩] [] ⟨467,4,468,26⟩,
    .asN 5 ⟨469,4,469,9⟩ (.bin (.bin (.int 2 ⟨469,12,469,13⟩) .Mult (.bin (.bcall 1 ⟨469,17,469,20⟩ [(.loc 4 ⟨469,21,469,25⟩)] ⟨469,17,469,26⟩) .Sub (.bin (.int 10 ⟨469,29,469,31⟩) .Pow (.int 18 ⟨469,35,469,37⟩) ⟨469,29,469,37⟩) ⟨469,17,469,37⟩) ⟨469,12,469,38⟩) .Add (.ite (.cmp (.loc 4 ⟨469,47,469,51⟩) .Lt (.int 0 ⟨469,54,469,55⟩) ⟨469,47,469,55⟩) (.int 1 ⟨469,42,469,43⟩) (.int 0 ⟨469,61,469,62⟩) ⟨469,42,469,62⟩) ⟨469,12,469,63⟩) ⟨469,4,469,63⟩,
    .asI (.loc 0 ⟨470,4,470,7⟩) (.int 2 ⟨470,8,470,9⟩) ⟨470,4,470,10⟩ (.bin (.loc 5 ⟨470,13,470,18⟩) .FloorDiv (.loc 1 ⟨470,22,470,26⟩) ⟨470,13,470,26⟩) ⟨470,4,470,26⟩,
    .ret (.bin (.loc 5 ⟨471,11,471,16⟩) .Mod (.loc 1 ⟨471,19,471,23⟩) ⟨471,11,471,23⟩) ⟨471,4,471,23⟩]
noncomputable def fd__law_draw : FnD := { nm := ["pen", "many", "digit", "spot", "cell", "great"], np := 2, body := bd__law_draw }
noncomputable def bd__law_pen:List S :=
 [.ret (.lst [(.bcall 4 ⟨473,12,473,16⟩ [(.slc (.loc 0 ⟨473,17,473,23⟩) none (some (.int 63 ⟨473,25,473,27⟩)) ⟨473,24,473,27⟩ ⟨473,17,473,28⟩)] ⟨473,12,473,29⟩),(.int 0 ⟨473,31,473,32⟩),(.int 0 ⟨473,34,473,35⟩),(.bin (.bcall 1 ⟨473,37,473,40⟩ [(.bcall 2 ⟨473,41,473,44⟩ [(.slc (.loc 0 ⟨473,45,473,51⟩) none (some (.int 63 ⟨473,53,473,55⟩)) ⟨473,52,473,55⟩ ⟨473,45,473,56⟩)] ⟨473,41,473,57⟩)] ⟨473,37,473,58⟩) .Mod (.int 1009 ⟨473,61,473,65⟩) ⟨473,37,473,65⟩)] ⟨473,11,473,66⟩) ⟨473,4,473,66⟩]
noncomputable def fd__law_pen : FnD := { nm := ["script"], np := 1, body := bd__law_pen }
noncomputable def bd__law_reader:List S :=
 [.asN 1 ⟨475,4,475,10⟩ (.lst [] ⟨475,13,475,15⟩) ⟨475,4,475,15⟩,
    .forT [(2,⟨476,8,476,10⟩),(3,⟨476,12,476,16⟩)] 0 ⟨476,8,476,16⟩ (.bcall 6 ⟨476,20,476,29⟩ [(.loc 0 ⟨476,30,476,35⟩)] ⟨476,20,476,36⟩) [.asN 4 ⟨477,8,477,12⟩ (.ite (.cmp2 (.str [65] ⟨477,25,477,28⟩) .LtE (.sub (.loc 3 ⟨477,32,477,36⟩) (.int 0 ⟨477,37,477,38⟩) ⟨477,32,477,39⟩) .LtE (.str [90] ⟨477,43,477,46⟩) ⟨477,25,477,46⟩) (.str [119,111,114,100] ⟨477,15,477,21⟩) (.ite (.cmp (.sub (.loc 3 ⟨477,64,477,68⟩) (.int 0 ⟨477,69,477,70⟩) ⟨477,64,477,71⟩) .In (.str [48,49,50,51,52,53,54,55,56,57] ⟨477,75,477,87⟩) ⟨477,64,477,87⟩) (.str [110,117,109,98,101,114] ⟨477,52,477,60⟩) (.ite (.cmp (.sub (.loc 3 ⟨477,106,477,110⟩) (.int 0 ⟨477,111,477,112⟩) ⟨477,106,477,113⟩) .Eq (.str [39] ⟨477,117,477,120⟩) ⟨477,106,477,120⟩) (.str [108,105,116,101,114,97,108] ⟨477,93,477,102⟩) (.str [115,105,103,110] ⟨477,126,477,132⟩) ⟨477,93,477,132⟩) ⟨477,52,477,132⟩) ⟨477,15,477,132⟩) ⟨477,8,477,132⟩,
    .expr (.meth (.loc 1 ⟨478,8,478,14⟩) 39 ⟨478,8,478,21⟩ [(.call (.glob 1 ⟨478,22,478,27⟩) [(.loc 4 ⟨478,28,478,32⟩),(.ite (.cmp (.loc 4 ⟨478,48,478,52⟩) .Eq (.str [108,105,116,101,114,97,108] ⟨478,56,478,65⟩) ⟨478,48,478,65⟩) (.slc (.loc 3 ⟨478,34,478,38⟩) (some (.int 1 ⟨478,39,478,40⟩)) (some (.neg (.int 1 ⟨478,42,478,43⟩) ⟨478,41,478,43⟩)) ⟨478,39,478,43⟩ ⟨478,34,478,44⟩) (.loc 3 ⟨478,71,478,75⟩) ⟨478,34,478,75⟩),(.tup [(.int 1 ⟨478,78,478,79⟩),(.bin (.loc 2 ⟨478,81,478,83⟩) .Add (.int 1 ⟨478,86,478,87⟩) ⟨478,81,478,87⟩)] 0 ⟨478,77,478,88⟩)] ⟨478,22,478,89⟩)] ⟨478,8,478,90⟩) ⟨478,8,478,90⟩] ⟨476,4,478,90⟩,
    .ret (.call (.glob 2 ⟨479,11,479,17⟩) [(.loc 1 ⟨479,18,479,24⟩)] ⟨479,11,479,25⟩) ⟨479,4,479,25⟩]
noncomputable def fd__law_reader : FnD := { nm := ["words", "tokens", "at", "word", "kind"], np := 1, body := bd__law_reader }
noncomputable def bd__law_ref:List S :=
 [.ret (.tup [(.str [114,101,102] ⟨481,12,481,17⟩),(.loc 0 ⟨481,19,481,23⟩),(.tup [] 0 ⟨481,25,481,27⟩),(.tup [] 0 ⟨481,29,481,31⟩),(.none ⟨481,33,481,37⟩)] 0 ⟨481,11,481,38⟩) ⟨481,4,481,38⟩]
noncomputable def fd__law_ref : FnD := { nm := ["name"], np := 1, body := bd__law_ref }
noncomputable def bd__law_told:List S :=
 [.asN 2 ⟨483,4,483,9⟩ (.ite (.cmp (.call (.glob 40 ⟨483,22,483,31⟩) [(.loc 0 ⟨483,32,483,35⟩),(.int 2 ⟨483,37,483,38⟩)] ⟨483,22,483,39⟩) .Eq (.int 1 ⟨483,43,483,44⟩) ⟨483,22,483,44⟩) (.lst [(.str [73,83] ⟨483,13,483,17⟩)] ⟨483,12,483,18⟩) (.lst [] ⟨483,50,483,52⟩) ⟨483,12,483,52⟩) ⟨483,4,483,52⟩,
    .asN 3 ⟨484,4,484,10⟩ (.cmp (.call (.glob 40 ⟨484,13,484,22⟩) [(.loc 0 ⟨484,23,484,26⟩),(.int 2 ⟨484,28,484,29⟩)] ⟨484,13,484,30⟩) .Eq (.int 1 ⟨484,34,484,35⟩) ⟨484,13,484,35⟩) ⟨484,4,484,35⟩,
    .asN 4 ⟨485,4,485,9⟩ (.bin (.bin (.lst [(.loc 1 ⟨485,13,485,17⟩)] ⟨485,12,485,18⟩) .Add (.loc 2 ⟨485,21,485,26⟩) ⟨485,12,485,26⟩) .Add (.ite (.loc 3 ⟨485,41,485,47⟩) (.lst [(.str [78,79,84] ⟨485,31,485,36⟩)] ⟨485,30,485,37⟩) (.lst [] ⟨485,53,485,55⟩) ⟨485,30,485,55⟩) ⟨485,12,485,56⟩) ⟨485,4,485,56⟩,
    .ifs (.cmp (.call (.glob 40 ⟨486,7,486,16⟩) [(.loc 0 ⟨486,17,486,20⟩),(.int 3 ⟨486,22,486,23⟩)] ⟨486,7,486,24⟩) .Eq (.int 2 ⟨486,28,486,29⟩) ⟨486,7,486,29⟩) [.asT [(5,⟨487,8,487,12⟩),(6,⟨487,14,487,18⟩),(7,⟨487,20,487,27⟩)] 0 ⟨487,8,487,27⟩ (.sub (.glob 14 ⟨487,30,487,41⟩) (.call (.glob 40 ⟨487,42,487,51⟩) [(.loc 0 ⟨487,52,487,55⟩),(.int 9 ⟨487,57,487,58⟩)] ⟨487,42,487,59⟩) ⟨487,30,487,60⟩) ⟨487,8,487,60⟩,
    .asN 8 ⟨488,8,488,13⟩ (.tup [(.loc 5 ⟨488,17,488,21⟩),(.loc 6 ⟨488,23,488,27⟩),(.call (.glob 43 ⟨488,29,488,37⟩) [(.loc 1 ⟨488,38,488,42⟩)] ⟨488,29,488,43⟩)] 0 ⟨488,16,488,44⟩) ⟨488,8,488,44⟩,
    .ret (.tup [(.bin (.loc 4 ⟨489,16,489,21⟩) .Add (.lst [(.loc 7 ⟨489,25,489,32⟩)] ⟨489,24,489,33⟩) ⟨489,16,489,33⟩),(.ite (.loc 3 ⟨489,53,489,59⟩) (.tup [(.str [110,111,116] ⟨489,36,489,41⟩),(.loc 8 ⟨489,43,489,48⟩)] 0 ⟨489,35,489,49⟩) (.loc 8 ⟨489,65,489,70⟩) ⟨489,35,489,70⟩)] 0 ⟨489,15,489,71⟩) ⟨489,8,489,71⟩] [] ⟨486,4,489,71⟩,
    .asT [(9,⟨490,4,490,8⟩),(7,⟨490,10,490,17⟩)] 0 ⟨490,4,490,17⟩ (.sub (.glob 13 ⟨490,20,490,32⟩) (.call (.glob 40 ⟨490,33,490,42⟩) [(.loc 0 ⟨490,43,490,46⟩),(.int 15 ⟨490,48,490,50⟩)] ⟨490,33,490,51⟩) ⟨490,20,490,52⟩) ⟨490,4,490,52⟩,
    .ret (.tup [(.bin (.bin (.loc 4 ⟨491,12,491,17⟩) .Add (.loc 7 ⟨491,20,491,27⟩) ⟨491,12,491,27⟩) .Add (.lst [(.str [66] ⟨491,31,491,34⟩)] ⟨491,30,491,35⟩) ⟨491,12,491,35⟩),(.tup [(.str [114,101,108] ⟨491,38,491,43⟩),(.ite (.loc 3 ⟨491,68,491,74⟩) (.sub (.call (.glob 39 ⟨491,45,491,56⟩) [] ⟨491,45,491,58⟩) (.loc 9 ⟨491,59,491,63⟩) ⟨491,45,491,64⟩) (.loc 9 ⟨491,80,491,84⟩) ⟨491,45,491,84⟩),(.call (.glob 43 ⟨491,86,491,94⟩) [(.loc 1 ⟨491,95,491,99⟩)] ⟨491,86,491,100⟩),(.call (.glob 43 ⟨491,102,491,110⟩) [(.str [66] ⟨491,111,491,114⟩)] ⟨491,102,491,115⟩)] 0 ⟨491,37,491,116⟩)] 0 ⟨491,11,491,117⟩) ⟨491,4,491,117⟩]
noncomputable def fd__law_told : FnD := { nm := ["pen", "name", "ahead", "is_not", "words", "kind", "word", "spelled", "found", "sign"], np := 2, body := bd__law_told }
noncomputable def bd__law_heard:List S :=
 [.asT [(1,⟨493,4,493,9⟩),(2,⟨493,11,493,17⟩)] 0 ⟨493,4,493,17⟩ (.tup [(.none ⟨493,21,493,25⟩),(.none ⟨493,27,493,31⟩)] 0 ⟨493,20,493,32⟩) ⟨493,4,493,32⟩,
    .try1 [.asN 1 ⟨495,8,495,13⟩ (.call (.glob 37 ⟨495,16,495,30⟩) [(.loc 0 ⟨495,31,495,37⟩)] ⟨495,16,495,38⟩) ⟨495,8,495,38⟩] 0 ⟨496,11,496,23⟩ 3 [.asN 2 ⟨497,8,497,14⟩ (.loc 3 ⟨497,17,497,22⟩) ⟨497,8,497,22⟩] ⟨496,4,497,22⟩ ⟨494,4,497,22⟩,
    .ret (.ite (.cmp (.loc 2 ⟨498,20,498,26⟩) .Is (.none ⟨498,30,498,34⟩) ⟨498,20,498,34⟩) (.loc 1 ⟨498,11,498,16⟩) (.tup [(.str [102,97,117,108,116] ⟨498,41,498,48⟩),(.attr (.loc 2 ⟨498,50,498,56⟩) 1 ⟨498,50,498,59⟩)] 0 ⟨498,40,498,60⟩) ⟨498,11,498,60⟩) ⟨498,4,498,60⟩]
noncomputable def fd__law_heard : FnD := { nm := ["reader", "found", "caught", "error"], np := 1, body := bd__law_heard }
noncomputable def bd_law:List S :=
 [.asN 1 ⟨500,4,500,7⟩ (.call (.glob 41 ⟨500,10,500,18⟩) [(.loc 0 ⟨500,19,500,25⟩)] ⟨500,10,500,26⟩) ⟨500,4,500,26⟩,
    .asT [(2,⟨501,4,501,9⟩),(3,⟨501,11,501,14⟩)] 0 ⟨501,4,501,14⟩ (.call (.glob 44 ⟨501,17,501,26⟩) [(.loc 1 ⟨501,27,501,30⟩),(.str [65] ⟨501,32,501,35⟩)] ⟨501,17,501,36⟩) ⟨501,4,501,36⟩,
    .ifs (.or [(.cmp (.call (.glob 45 ⟨502,7,502,17⟩) [(.call (.glob 42 ⟨502,18,502,29⟩) [(.loc 2 ⟨502,30,502,35⟩)] ⟨502,18,502,36⟩)] ⟨502,7,502,37⟩) .NotEq (.loc 3 ⟨502,41,502,44⟩) ⟨502,7,502,44⟩),(.cmp (.call (.glob 45 ⟨502,48,502,58⟩) [(.call (.glob 42 ⟨502,59,502,70⟩) [(.bin (.loc 2 ⟨502,71,502,76⟩) .Add (.lst [(.str [77,79,86,69] ⟨502,80,502,86⟩)] ⟨502,79,502,87⟩) ⟨502,71,502,87⟩)] ⟨502,59,502,88⟩)] ⟨502,48,502,89⟩) .NotEq (.loc 3 ⟨502,93,502,96⟩) ⟨502,48,502,96⟩)] ⟨502,7,502,96⟩) [.ret (.bool false ⟨503,15,503,20⟩) ⟨503,8,503,20⟩] [] ⟨502,4,503,20⟩,
    .asN 4 ⟨504,4,504,8⟩ (.sub (.tup [(.str [65,78,68] ⟨504,12,504,17⟩),(.str [79,82] ⟨504,19,504,23⟩)] 0 ⟨504,11,504,24⟩) (.call (.glob 40 ⟨504,25,504,34⟩) [(.loc 1 ⟨504,35,504,38⟩),(.int 2 ⟨504,40,504,41⟩)] ⟨504,25,504,42⟩) ⟨504,11,504,43⟩) ⟨504,4,504,43⟩,
    .asT [(5,⟨505,4,505,8⟩),(6,⟨505,10,505,15⟩)] 0 ⟨505,4,505,15⟩ (.call (.glob 44 ⟨505,18,505,27⟩) [(.loc 1 ⟨505,28,505,31⟩),(.str [67] ⟨505,33,505,36⟩)] ⟨505,18,505,37⟩) ⟨505,4,505,37⟩,
    .asN 7 ⟨506,4,506,10⟩ (.call (.glob 42 ⟨506,13,506,24⟩) [(.bin (.bin (.loc 2 ⟨506,25,506,30⟩) .Add (.lst [(.loc 4 ⟨506,34,506,38⟩)] ⟨506,33,506,39⟩) ⟨506,25,506,39⟩) .Add (.loc 5 ⟨506,42,506,46⟩) ⟨506,25,506,46⟩)] ⟨506,13,506,47⟩) ⟨506,4,506,47⟩,
    .ifs (.or [(.cmp (.call (.glob 45 ⟨507,7,507,17⟩) [(.loc 7 ⟨507,18,507,24⟩)] ⟨507,7,507,25⟩) .NotEq (.tup [(.meth (.loc 4 ⟨507,30,507,34⟩) 38 ⟨507,30,507,40⟩ [] ⟨507,30,507,42⟩),(.loc 3 ⟨507,44,507,47⟩),(.loc 6 ⟨507,49,507,54⟩)] 0 ⟨507,29,507,55⟩) ⟨507,7,507,55⟩),(.cmp (.attr (.loc 7 ⟨507,59,507,65⟩) 1 ⟨507,59,507,68⟩) .NotEq (.bin (.bin (.bcall 0 ⟨507,72,507,75⟩ [(.loc 2 ⟨507,76,507,81⟩)] ⟨507,72,507,82⟩) .Add (.int 1 ⟨507,85,507,86⟩) ⟨507,72,507,86⟩) .Add (.bcall 0 ⟨507,89,507,92⟩ [(.loc 5 ⟨507,93,507,97⟩)] ⟨507,89,507,98⟩) ⟨507,72,507,98⟩) ⟨507,59,507,98⟩)] ⟨507,7,507,98⟩) [.ret (.bool false ⟨508,15,508,20⟩) ⟨508,8,508,20⟩] [] ⟨507,4,508,20⟩,
    .ifs (.and [(.cmp (.sub (.loc 3 ⟨509,7,509,10⟩) (.int 0 ⟨509,11,509,12⟩) ⟨509,7,509,13⟩) .Eq (.str [114,101,108] ⟨509,17,509,22⟩) ⟨509,7,509,22⟩),(.cmp (.call (.glob 45 ⟨509,27,509,37⟩) [(.call (.glob 42 ⟨509,38,509,49⟩) [(.slc (.loc 2 ⟨509,50,509,55⟩) none (some (.neg (.int 1 ⟨509,58,509,59⟩) ⟨509,57,509,59⟩)) ⟨509,56,509,59⟩ ⟨509,50,509,60⟩)] ⟨509,38,509,61⟩)] ⟨509,27,509,62⟩) .NotEq (.tup [(.str [102,97,117,108,116] ⟨509,67,509,74⟩),(.tup [(.int 1 ⟨509,77,509,78⟩),(.bin (.bcall 0 ⟨509,80,509,83⟩ [(.loc 2 ⟨509,84,509,89⟩)] ⟨509,80,509,90⟩) .Sub (.int 1 ⟨509,93,509,94⟩) ⟨509,80,509,94⟩)] 0 ⟨509,76,509,95⟩)] 0 ⟨509,66,509,96⟩) ⟨509,27,509,96⟩)] ⟨509,7,509,96⟩) [.ret (.bool false ⟨510,15,510,20⟩) ⟨510,8,510,20⟩] [] ⟨509,4,510,20⟩,
    .ifs (.and [(.cmp (.sub (.loc 3 ⟨511,7,511,10⟩) (.int 0 ⟨511,11,511,12⟩) ⟨511,7,511,13⟩) .Eq (.str [114,101,108] ⟨511,17,511,22⟩) ⟨511,7,511,22⟩),(.cmp (.call (.glob 45 ⟨511,27,511,37⟩) [(.call (.glob 42 ⟨511,38,511,49⟩) [(.bin (.slc (.loc 2 ⟨511,50,511,55⟩) none (some (.neg (.int 1 ⟨511,58,511,59⟩) ⟨511,57,511,59⟩)) ⟨511,56,511,59⟩ ⟨511,50,511,60⟩) .Add (.lst [(.str [77,79,86,69] ⟨511,64,511,70⟩),(.str [66] ⟨511,72,511,75⟩)] ⟨511,63,511,76⟩) ⟨511,50,511,76⟩)] ⟨511,38,511,77⟩)] ⟨511,27,511,78⟩) .NotEq (.tup [(.str [102,97,117,108,116] ⟨511,83,511,90⟩),(.tup [(.int 1 ⟨511,93,511,94⟩),(.bcall 0 ⟨511,96,511,99⟩ [(.loc 2 ⟨511,100,511,105⟩)] ⟨511,96,511,106⟩)] 0 ⟨511,92,511,107⟩)] 0 ⟨511,82,511,108⟩) ⟨511,27,511,108⟩)] ⟨511,7,511,108⟩) [.ret (.bool false ⟨512,15,512,20⟩) ⟨512,8,512,20⟩] [] ⟨511,4,512,20⟩,
    .ifs (.or [(.cmp (.call (.glob 45 ⟨513,7,513,17⟩) [(.call (.glob 42 ⟨513,18,513,29⟩) [(.lstF [(.str [65] ⟨513,31,513,34⟩),(.str [77,79,86,69] ⟨513,36,513,42⟩)] ⟨513,30,513,43⟩)] ⟨513,18,513,44⟩)] ⟨513,7,513,45⟩) .NotEq (.tup [(.str [102,97,117,108,116] ⟨513,50,513,57⟩),(.tup [(.int 1 ⟨513,60,513,61⟩),(.int 2 ⟨513,63,513,64⟩)] 0 ⟨513,59,513,65⟩)] 0 ⟨513,49,513,66⟩) ⟨513,7,513,66⟩),(.cmp (.call (.glob 45 ⟨513,70,513,80⟩) [(.call (.glob 42 ⟨513,81,513,92⟩) [(.lstF [(.str [65] ⟨513,94,513,97⟩)] ⟨513,93,513,98⟩)] ⟨513,81,513,99⟩)] ⟨513,70,513,100⟩) .NotEq (.tup [(.str [102,97,117,108,116] ⟨513,105,513,112⟩),(.tup [(.int 1 ⟨513,115,513,116⟩),(.int 1 ⟨513,118,513,119⟩)] 0 ⟨513,114,513,120⟩)] 0 ⟨513,104,513,121⟩) ⟨513,70,513,121⟩)] ⟨513,7,513,121⟩) [.ret (.bool false ⟨514,15,514,20⟩) ⟨514,8,514,20⟩] [] ⟨513,4,514,20⟩,
    .ifs (.cmp (.call (.glob 45 ⟨515,7,515,17⟩) [(.call (.glob 42 ⟨515,18,515,29⟩) [(.bin (.loc 2 ⟨515,30,515,35⟩) .Add (.lst [(.loc 4 ⟨515,39,515,43⟩)] ⟨515,38,515,44⟩) ⟨515,30,515,44⟩)] ⟨515,18,515,45⟩)] ⟨515,7,515,46⟩) .NotEq (.tup [(.str [102,97,117,108,116] ⟨515,51,515,58⟩),(.tup [(.int 1 ⟨515,61,515,62⟩),(.bin (.bcall 0 ⟨515,64,515,67⟩ [(.loc 2 ⟨515,68,515,73⟩)] ⟨515,64,515,74⟩) .Add (.int 1 ⟨515,77,515,78⟩) ⟨515,64,515,78⟩)] 0 ⟨515,60,515,79⟩)] 0 ⟨515,50,515,80⟩) ⟨515,7,515,80⟩) [.ret (.bool false ⟨516,15,516,20⟩) ⟨516,8,516,20⟩] [] ⟨515,4,516,20⟩,
    .asN 8 ⟨517,4,517,9⟩ (.call (.glob 42 ⟨517,12,517,23⟩) [(.lstF [(.str [70,88] ⟨517,25,517,29⟩),(.loc 4 ⟨517,31,517,35⟩),(.str [65] ⟨517,37,517,40⟩),(.str [61] ⟨517,42,517,45⟩),(.str [66] ⟨517,47,517,50⟩)] ⟨517,24,517,51⟩)] ⟨517,12,517,52⟩) ⟨517,4,517,52⟩,
    .asA (.loc 8 ⟨518,4,518,9⟩) 2 ⟨518,4,518,15⟩ (.dct [(.str [70,88] ⟨518,19,518,23⟩)] [(.int 1 ⟨518,25,518,26⟩)] ⟨518,18,518,27⟩) ⟨518,4,518,27⟩,
    .ret (.cmp (.call (.glob 45 ⟨519,11,519,21⟩) [(.loc 8 ⟨519,22,519,27⟩)] ⟨519,11,519,28⟩) .Eq (.tup [(.meth (.loc 4 ⟨519,33,519,37⟩) 38 ⟨519,33,519,43⟩ [] ⟨519,33,519,45⟩),(.tup [(.str [110,97,109,101,100] ⟨519,48,519,55⟩),(.call (.glob 43 ⟨519,57,519,65⟩) [(.str [70,88] ⟨519,66,519,70⟩)] ⟨519,57,519,71⟩)] 0 ⟨519,47,519,72⟩),(.tup [(.str [114,101,108] ⟨519,75,519,80⟩),(.str [61] ⟨519,82,519,85⟩),(.call (.glob 43 ⟨519,87,519,95⟩) [(.str [65] ⟨519,96,519,99⟩)] ⟨519,87,519,100⟩),(.call (.glob 43 ⟨519,102,519,110⟩) [(.str [66] ⟨519,111,519,114⟩)] ⟨519,102,519,115⟩)] 0 ⟨519,74,519,116⟩)] 0 ⟨519,32,519,117⟩) ⟨519,11,519,117⟩) ⟨519,4,519,117⟩]
noncomputable def fd_law : FnD := { nm := ["script", "pen", "words", "due", "word", "more", "other", "reader", "named"], np := 1, body := bd_law }
noncomputable def lam_0 : FnD × X := ({ nm := ["inner", "depth"], np := 1, body := [] }, (.call (.glob 25 ⟨174,50,174,58⟩) [(.loc 0 ⟨174,59,174,64⟩), (.bin (.loc 1 ⟨174,66,174,71⟩) .Add (.int 1 ⟨174,74,174,75⟩) ⟨174,66,174,75⟩)] ⟨174,50,174,76⟩))
noncomputable def lam_1 : FnD × X := ({ nm := ["name", "qualifiers", "reader"], np := 2, body := [] }, (.cmp (.loc 0 ⟨307,64,307,68⟩) .In (.attr (.loc 2 ⟨307,72,307,78⟩) 2 ⟨307,72,307,84⟩) ⟨307,64,307,84⟩))
noncomputable def fnL:List (Nat × FnD):=[
  (16,fd_is_part_next),
  (19,fd_read_ref),
  (21,fd_read_figure),
  (22,fd_read_operand),
  (23,fd_read_expression),
  (24,fd_sign_among),
  (25,fd_read_sum),
  (26,fd_read_product),
  (27,fd_read_factor),
  (28,fd_is_lone_number),
  (29,fd_read_power),
  (30,fd_read_primary),
  (32,fd_word_here),
  (33,fd_is_relation_at),
  (34,fd_place_of_word),
  (35,fd_is_predicate_here),
  (36,fd_is_bare_relation_here),
  (37,fd_read_condition),
  (38,fd_is_reserved),
  (39,fd__law_turned),
  (40,fd__law_draw),
  (41,fd__law_pen),
  (42,fd__law_reader),
  (43,fd__law_ref),
  (44,fd__law_told),
  (45,fd__law_heard),
  (90,fd_law),
  (199,fd_Token___init__),
  (211,fd_Reader_peek),
  (212,fd_Reader_fault),
  (213,fd_Reader_take),
  (214,fd_Reader_is_kind),
  (215,fd_Reader_is_word),
  (216,fd_Reader_skip),
  (217,fd_Reader_one_of),
  (218,fd_Reader_is_name),
  (219,fd_Reader_name),
  (220,fd_Reader_is_sign),
  (221,fd_Reader_skip_sign),
  (222,fd_Reader_need_sign),
  (223,fd_Reader_is_number),
  (299,fd_Reader___init__),
  (326,fd_ConditionReader_either),
  (327,fd_ConditionReader_both),
  (328,fd_ConditionReader_turned),
  (329,fd_ConditionReader_single),
  (330,fd_ConditionReader_unbracketed),
  (331,fd_ConditionReader_in_brackets),
  (332,fd_ConditionReader_subject_of_last),
  (333,fd_ConditionReader_sign_of_last),
  (334,fd_ConditionReader_predicate),
  (335,fd_ConditionReader_relation),
  (336,fd_ConditionReader_sign_here),
  (399,fd_ConditionReader___init__)]
noncomputable def fnT (g:Nat):Option FnD:=look fnL g
noncomputable def initL:List (Nat × Nat):=[
  (1,199),
  (2,299),
  (3,399)]
noncomputable def initT (g:Nat):Option Nat:=look initL g
noncomputable def lamnT:Nat→Nat
  | 0=>1
  | 1=>2
  | _=>0
noncomputable def mthL:List ((Nat × Nat) × Nat):=[
  ((2,11),211),
  ((2,12),212),
  ((2,13),213),
  ((2,14),214),
  ((2,15),215),
  ((2,16),216),
  ((2,17),217),
  ((2,18),218),
  ((2,19),219),
  ((2,20),220),
  ((2,21),221),
  ((2,22),222),
  ((2,23),223),
  ((3,26),326),
  ((3,27),327),
  ((3,28),328),
  ((3,29),329),
  ((3,30),330),
  ((3,31),331),
  ((3,32),332),
  ((3,33),333),
  ((3,34),334),
  ((3,35),335),
  ((3,36),336)]
noncomputable def mthT (C f:Nat):Option Nat:=look2 mthL C f
noncomputable def glL:List (Nat × V):=[
  (0, .base 0),
  (1, .base 1),
  (2, .base 2),
  (3, .base 3),
  (4, .dct [[90,69,82,79],[90,69,82,79,83],[90,69,82,79,69,83],[83,80,65,67,69],[83,80,65,67,69,83],[72,73,71,72,45,86,65,76,85,69],[72,73,71,72,45,86,65,76,85,69,83],[76,79,87,45,86,65,76,85,69],[76,79,87,45,86,65,76,85,69,83],[81,85,79,84,69],[81,85,79,84,69,83]] [.str [90,69,82,79], .str [90,69,82,79], .str [90,69,82,79], .str [83,80,65,67,69], .str [83,80,65,67,69], .str [72,73,71,72], .str [72,73,71,72], .str [76,79,87], .str [76,79,87], .str [81,85,79,84,69], .str [81,85,79,84,69]]),
  (5, .dct [[61],[60,62],[60],[62,61],[62],[60,61]] [.str [60,62], .str [61], .str [62,61], .str [60], .str [60,61], .str [62]]),
  (6, .tup [(.str [78,85,77,69,82,73,67]),(.str [65,76,80,72,65,66,69,84,73,67]),(.str [65,76,80,72,65,66,69,84,73,67,45,76,79,87,69,82]),(.str [65,76,80,72,65,66,69,84,73,67,45,85,80,80,69,82])]),
  (7, .dct [[80,79,83,73,84,73,86,69],[78,69,71,65,84,73,86,69],[90,69,82,79],[90,69,82,79,83],[90,69,82,79,69,83]] [.str [80,79,83,73,84,73,86,69], .str [78,69,71,65,84,73,86,69], .str [90,69,82,79], .str [90,69,82,79], .str [90,69,82,79]]),
  (8, .dct [[71,82,69,65,84,69,82],[76,69,83,83],[69,81,85,65,76]] [.str [62], .str [60], .str [61]]),
  (9, .tup [(.str [61]),(.str [60]),(.str [62]),(.str [60,61]),(.str [62,61])]),
  (10, .str [32,65,67,67,69,80,84,32,65,67,67,69,83,83,32,65,68,68,32,65,68,86,65,78,67,73,78,71,32,65,70,84,69,82,32,65,76,76,32,65,76,80,72,65,66,69,84,73,67,32,65,76,80,72,65,66,69,84,73,67,45,76,79,87,69,82,32,65,76,80,72,65,66,69,84,73,67,45,85,80,80,69,82,32,65,76,80,72,65,78,85,77,69,82,73,67,32,65,76,80,72,65,78,85,77,69,82,73,67,45,69,68,73,84,69,68,32,65,76,83,79,32,65,76,84,69,82,78,65,84,69,32,65,78,68,32,65,78,89,32,65,82,69,32,65,82,69,65,32,65,82,69,65,83,32,65,83,67,69,78,68,73,78,71,32,65,83,83,73,71,78,32,65,84,32,65,85,84,72,79,82,32,66,69,70,79,82,69,32,66,73,78,65,82,89,32,66,76,65,78,75,32,66,76,79,67,75,32,66,89,32,67,65,76,76,32,67,72,65,82,65,67,84,69,82,32,67,72,65,82,65,67,84,69,82,83,32,67,76,79,83,69,32,67,79,77,80,32,67,79,77,80,45,51,32,67,79,77,80,85,84,65,84,73,79,78,65,76,32,67,79,77,80,85,84,65,84,73,79,78,65,76,45,51,32,67,79,77,80,85,84,69,32,67,79,78,70,73,71,85,82,65,84,73,79,78,32,67,79,78,84,65,73,78,83,32,67,79,78,84,69,78,84,32,67,79,78,84,73,78,85,69,32,67,79,78,86,69,82,84,73,78,71,32,67,79,80,89,32,67,79,82,82,32,67,79,82,82,69,83,80,79,78,68,73,78,71,32,67,79,85,78,84,32,68,65,84,65,32,68,65,84,69,45,67,79,77,80,73,76,69,68,32,68,65,84,69,45,87,82,73,84,84,69,78,32,68,69,76,69,84,69,32,68,69,76,73,77,73,84,69,68,32,68,69,76,73,77,73,84,69,82,32,68,69,80,69,78,68,73,78,71,32,68,69,83,67,69,78,68,73,78,71,32,68,73,83,80,76,65,89,32,68,73,86,73,68,69,32,68,73,86,73,83,73,79,78,32,68,79,87,78,32,68,85,80,76,73,67,65,84,69,83,32,68,89,78,65,77,73,67,32,69,76,83,69,32,69,78,68,32,69,78,68,45,65,68,68,32,69,78,68,45,67,65,76,76,32,69,78,68,45,67,79,77,80,85,84,69,32,69,78,68,45,68,69,76,69,84,69,32,69,78,68,45,68,73,86,73,68,69,32,69,78,68,45,69,86,65,76,85,65,84,69,32,69,78,68,45,73,70,32,69,78,68,45,77,85,76,84,73,80,76,89,32,69,78,68,45,80,69,82,70,79,82,77,32,69,78,68,45,82,69,65,68,32,69,78,68,45,82,69,84,85,82,78,32,69,78,68,45,82,69,87,82,73,84,69,32,69,78,68,45,83,69,65,82,67,72,32,69,78,68,45,83,84,65,82,84,32,69,78,68,45,83,84,82,73,78,71,32,69,78,68,45,83,85,66,84,82,65,67,84,32,69,78,68,45,85,78,83,84,82,73,78,71,32,69,78,68,45,87,82,73,84,69,32,69,78,86,73,82,79,78,77,69,78,84,32,69,81,85,65,76,32,69,82,82,79,82,32,69,86,65,76,85,65,84,69,32,69,88,67,69,80,84,73,79,78,32,69,88,73,84,32,69,88,84,69,78,68,32,69,88,84,69,82,78,65,76,32,70,65,76,83,69,32,70,68,32,70,73,76,69,32,70,73,76,69,45,67,79,78,84,82,79,76,32,70,73,76,76,69,82,32,70,73,82,83,84,32,70,79,82,32,70,82,79,77,32,71,73,86,73,78,71,32,71,76,79,66,65,76,32,71,79,32,71,82,69,65,84,69,82,32,72,73,71,72,45,86,65,76,85,69,32,72,73,71,72,45,86,65,76,85,69,83,32,73,45,79,32,73,45,79,45,67,79,78,84,82,79,76,32,73,68,69,78,84,73,70,73,67,65,84,73,79,78,32,73,70,32,73,78,32,73,78,68,69,88,32,73,78,68,69,88,69,68,32,73,78,73,84,73,65,76,32,73,78,73,84,73,65,76,73,90,69,32,73,78,80,85,84,32,73,78,80,85,84,45,79,85,84,80,85,84,32,73,78,83,80,69,67,84,32,73,78,83,84,65,76,76,65,84,73,79,78,32,73,78,84,79,32,73,78,86,65,76,73,68,32,73,83,32,74,85,83,84,32,74,85,83,84,73,70,73,69,68,32,75,69,89,32,76,65,66,69,76,32,76,69,65,68,73,78,71,32,76,69,70,84,32,76,69,83,83,32,76,73,78,69,32,76,73,78,69,83,32,76,73,78,75,65,71,69,32,76,79,67,75,32,76,79,87,45,86,65,76,85,69,32,76,79,87,45,86,65,76,85,69,83,32,77,69,82,71,69,32,77,79,68,69,32,77,79,86,69,32,77,85,76,84,73,80,76,89,32,78,65,84,73,86,69,32,78,69,71,65,84,73,86,69,32,78,69,88,84,32,78,79,32,78,79,84,32,78,85,77,69,82,73,67,32,78,85,77,69,82,73,67,45,69,68,73,84,69,68,32,79,66,74,69,67,84,45,67,79,77,80,85,84,69,82,32,79,67,67,85,82,83,32,79,70,32,79,70,70,32,79,77,73,84,84,69,68,32,79,78,32,79,80,69,78,32,79,80,84,73,79,78,65,76,32,79,82,32,79,82,68,69,82,32,79,82,71,65,78,73,90,65,84,73,79,78,32,79,84,72,69,82,32,79,85,84,80,85,84,32,79,86,69,82,70,76,79,87,32,80,65,67,75,69,68,45,68,69,67,73,77,65,76,32,80,69,82,70,79,82,77,32,80,73,67,32,80,73,67,84,85,82,69,32,80,79,73,78,84,69,82,32,80,79,83,73,84,73,86,69,32,80,82,79,67,69,68,85,82,69,32,80,82,79,67,69,69,68,32,80,82,79,71,82,65,77,32,80,82,79,71,82,65,77,45,73,68,32,81,85,79,84,69,32,81,85,79,84,69,83,32,82,65,78,68,79,77,32,82,69,65,68,32,82,69,67,79,82,68,32,82,69,67,79,82,68,83,32,82,69,68,69,70,73,78,69,83,32,82,69,70,69,82,69,78,67,69,32,82,69,76,65,84,73,86,69,32,82,69,76,69,65,83,69,32,82,69,77,65,73,78,68,69,82,32,82,69,78,65,77,69,83,32,82,69,80,76,65,67,69,32,82,69,80,76,65,67,73,78,71,32,82,69,84,85,82,78,32,82,69,87,82,73,84,69,32,82,73,71,72,84,32,82,79,85,78,68,69,68,32,82,85,78,32,83,65,77,69,32,83,68,32,83,69,65,82,67,72,32,83,69,67,84,73,79,78,32,83,69,67,85,82,73,84,89,32,83,69,76,69,67,84,32,83,69,78,84,69,78,67,69,32,83,69,80,65,82,65,84,69,32,83,69,81,85,69,78,84,73,65,76,32,83,69,84,32,83,73,71,78,32,83,73,90,69,32,83,79,82,84,32,83,79,82,84,45,77,69,82,71,69,32,83,79,85,82,67,69,45,67,79,77,80,85,84,69,82,32,83,80,65,67,69,32,83,80,65,67,69,83,32,83,80,69,67,73,65,76,45,78,65,77,69,83,32,83,84,65,78,68,65,82,68,32,83,84,65,82,84,32,83,84,65,84,85,83,32,83,84,79,80,32,83,84,82,73,78,71,32,83,85,66,84,82,65,67,84,32,83,89,78,67,32,83,89,78,67,72,82,79,78,73,90,69,68,32,84,65,76,76,89,73,78,71,32,84,69,83,84,32,84,72,65,78,32,84,72,69,78,32,84,72,82,79,85,71,72,32,84,72,82,85,32,84,73,77,69,83,32,84,79,32,84,82,65,73,76,73,78,71,32,84,82,85,69,32,85,78,83,84,82,73,78,71,32,85,78,84,73,76,32,85,80,32,85,80,79,78,32,85,83,65,71,69,32,85,83,73,78,71,32,86,65,76,85,69,32,86,65,76,85,69,83,32,86,65,82,89,73,78,71,32,87,72,69,78,32,87,73,84,72,32,87,79,82,75,73,78,71,45,83,84,79,82,65,71,69,32,87,82,73,84,69,32,90,69,82,79,32,90,69,82,79,69,83,32,90,69,82,79,83,32]),
  (11, .int 20),
  (12, .int 20),
  (13, .tup [.tup [(.str [61]),(.lst [.str [61]])], .tup [(.str [61]),(.lst [.str [69,81,85,65,76]])], .tup [(.str [61]),(.lst [.str [69,81,85,65,76], .str [84,79]])], .tup [(.str [62]),(.lst [.str [62]])], .tup [(.str [62]),(.lst [.str [71,82,69,65,84,69,82]])], .tup [(.str [62]),(.lst [.str [71,82,69,65,84,69,82], .str [84,72,65,78]])], .tup [(.str [60]),(.lst [.str [60]])], .tup [(.str [60]),(.lst [.str [76,69,83,83]])], .tup [(.str [60]),(.lst [.str [76,69,83,83], .str [84,72,65,78]])], .tup [(.str [62,61]),(.lst [.str [62,61]])], .tup [(.str [62,61]),(.lst [.str [71,82,69,65,84,69,82], .str [79,82], .str [69,81,85,65,76]])], .tup [(.str [62,61]),(.lst [.str [71,82,69,65,84,69,82], .str [84,72,65,78], .str [79,82], .str [69,81,85,65,76], .str [84,79]])], .tup [(.str [60,61]),(.lst [.str [60,61]])], .tup [(.str [60,61]),(.lst [.str [76,69,83,83], .str [84,72,65,78], .str [79,82], .str [69,81,85,65,76]])], .tup [(.str [60,61]),(.lst [.str [76,69,83,83], .str [79,82], .str [69,81,85,65,76], .str [84,79]])]]),
  (14, .tup [.tup [(.str [99,108,97,115,115]),(.str [78,85,77,69,82,73,67]),(.str [78,85,77,69,82,73,67])], .tup [(.str [99,108,97,115,115]),(.str [65,76,80,72,65,66,69,84,73,67]),(.str [65,76,80,72,65,66,69,84,73,67])], .tup [(.str [99,108,97,115,115]),(.str [65,76,80,72,65,66,69,84,73,67,45,76,79,87,69,82]),(.str [65,76,80,72,65,66,69,84,73,67,45,76,79,87,69,82])], .tup [(.str [99,108,97,115,115]),(.str [65,76,80,72,65,66,69,84,73,67,45,85,80,80,69,82]),(.str [65,76,80,72,65,66,69,84,73,67,45,85,80,80,69,82])], .tup [(.str [115,105,103,110]),(.str [80,79,83,73,84,73,86,69]),(.str [80,79,83,73,84,73,86,69])], .tup [(.str [115,105,103,110]),(.str [78,69,71,65,84,73,86,69]),(.str [78,69,71,65,84,73,86,69])], .tup [(.str [115,105,103,110]),(.str [90,69,82,79]),(.str [90,69,82,79])], .tup [(.str [115,105,103,110]),(.str [90,69,82,79]),(.str [90,69,82,79,83])], .tup [(.str [115,105,103,110]),(.str [90,69,82,79]),(.str [90,69,82,79,69,83])]]),
  (16, .base 16),
  (19, .base 19),
  (21, .base 21),
  (22, .base 22),
  (23, .base 23),
  (24, .base 24),
  (25, .base 25),
  (26, .base 26),
  (27, .base 27),
  (28, .base 28),
  (29, .base 29),
  (30, .base 30),
  (32, .base 32),
  (33, .base 33),
  (34, .base 34),
  (35, .base 35),
  (36, .base 36),
  (37, .base 37),
  (38, .base 38),
  (39, .base 39),
  (40, .base 40),
  (41, .base 41),
  (42, .base 42),
  (43, .base 43),
  (44, .base 44),
  (45, .base 45)]
noncomputable def glT (g:Nat):Option V:=look glL g
noncomputable def lamcT:Nat→List Nat
  | 0=>[1]
  | 1=>[0]
  | _=>[]
noncomputable def lamT:Nat→Option X
  | 0=>some lam_0.2
  | 1=>some lam_1.2
  | _=>none
noncomputable def TB:Tabs:=⟨fnT,initT,lamnT,mthT,glT,lamcT,lamT⟩
end Mine
end
section
namespace Mine.Pu
open PySem
noncomputable def cres:Option RS→O V
  | some (.nx _ s)=>some (.ok .none s)
  | some (.rt v s)=>some (.ok v s)
  | some (.ex i _ s)=>some (.ex i s)
  | none=>none
noncomputable abbrev sel {α:Type} (b:Bool) (x y:α):α:=Bool.rec y x b
noncomputable abbrev bn (b:Bool):Bool:=Bool.rec true false b
theorem bn_eq {b:Bool}:(!b)=bn b:=by cases b <;> rfl
noncomputable def bsel (t:Bool) (m:O V) (v:V) (s:List Cell):O V:=if t=true then m else some (.ok v s)
noncomputable def sq (o:RS) (f:List (Option V)→List Cell→Option RS):Option RS:=match o with
  | .nx fr s=>f fr s
  | o=>some o
noncomputable def rtR (r:R V) (fr:List (Option V)):RS:=match r with
  | .ok v s => .rt v s
  | .ex i s => .ex i fr s
noncomputable def setA (s:List Cell) (o:V) (f:Nat) (v:V):Option (List Cell):=match o with
  | .ref i => match s[i]? with
    | some (.inst C fs)=>if f≤10∧C ≠ 0∧fs.length≤40 then some (s.set i (.inst C (fput f v fs))) else none
    | _=>none
  | _=>none
abbrev Fr:=List (Option V)
abbrev Sg:=List Cell
theorem crG {m:Option RS} {o:RS} {r:O V} (h:m=some o) (h2:cres (some o)=r):cres m=r:=h ▸ h2
theorem cresR {r:R V} {fr:Fr}:cres (some (rtR r fr))=some r:=by cases r <;> rfl
theorem cresN {s:Sg} {fr:Fr}:cres (some (.nx fr s))=some (.ok .none s):=rfl
theorem cresE {i:Nat} {s:Sg} {fr:Fr}:cres (some (.ex i fr s))=some (.ex i s):=rfl
section
variable {T:Tabs}

theorem xL0 {p:Pos} {n:Nat} {v:V} {r:Fr} {s:Sg}:exX T (n + 1) (.loc 0 p) (some v :: r) s=some (.ok v s):=rfl
theorem xL1 {p:Pos} {n:Nat} {x0:Option V} {v:V} {r:Fr} {s:Sg}:exX T (n + 1) (.loc 1 p) (x0 :: some v :: r) s=some (.ok v s):=rfl
theorem xL2 {p:Pos} {n:Nat} {x0 x1:Option V} {v:V} {r:Fr} {s:Sg}:exX T (n + 1) (.loc 2 p) (x0 :: x1 :: some v :: r) s=some (.ok v s):=rfl
theorem xL3 {p:Pos} {n:Nat} {x0 x1 x2:Option V} {v:V} {r:Fr} {s:Sg}:exX T (n + 1) (.loc 3 p) (x0 :: x1 :: x2 :: some v :: r) s=some (.ok v s):=rfl
theorem xL4 {p:Pos} {n:Nat} {x0 x1 x2 x3:Option V} {v:V} {r:Fr} {s:Sg}:exX T (n + 1) (.loc 4 p) (x0 :: x1 :: x2 :: x3 :: some v :: r) s=some (.ok v s):=rfl
theorem xL5 {p:Pos} {n:Nat} {x0 x1 x2 x3 x4:Option V} {v:V} {r:Fr} {s:Sg}:exX T (n + 1) (.loc 5 p) (x0 :: x1 :: x2 :: x3 :: x4 :: some v :: r) s=some (.ok v s):=rfl
theorem xL6 {p:Pos} {n:Nat} {x0 x1 x2 x3 x4 x5:Option V} {v:V} {r:Fr} {s:Sg}:exX T (n + 1) (.loc 6 p) (x0 :: x1 :: x2 :: x3 :: x4 :: x5 :: some v :: r) s=some (.ok v s):=rfl
theorem xL7 {p:Pos} {n:Nat} {x0 x1 x2 x3 x4 x5 x6:Option V} {v:V} {r:Fr} {s:Sg}:exX T (n + 1) (.loc 7 p) (x0 :: x1 :: x2 :: x3 :: x4 :: x5 :: x6 :: some v :: r) s=some (.ok v s):=rfl
theorem xL8 {p:Pos} {n:Nat} {x0 x1 x2 x3 x4 x5 x6 x7:Option V} {v:V} {r:Fr} {s:Sg}:exX T (n + 1) (.loc 8 p) (x0 :: x1 :: x2 :: x3 :: x4 :: x5 :: x6 :: x7 :: some v :: r) s=some (.ok v s):=rfl
theorem xL9 {p:Pos} {n:Nat} {x0 x1 x2 x3 x4 x5 x6 x7 x8:Option V} {v:V} {r:Fr} {s:Sg}:exX T (n + 1) (.loc 9 p) (x0 :: x1 :: x2 :: x3 :: x4 :: x5 :: x6 :: x7 :: x8 :: some v :: r) s=some (.ok v s):=rfl
theorem xL10 {p:Pos} {n:Nat} {x0 x1 x2 x3 x4 x5 x6 x7 x8 x9:Option V} {v:V} {r:Fr} {s:Sg}:exX T (n + 1) (.loc 10 p) (x0 :: x1 :: x2 :: x3 :: x4 :: x5 :: x6 :: x7 :: x8 :: x9 :: some v :: r) s=some (.ok v s):=rfl
theorem xL11 {p:Pos} {n:Nat} {x0 x1 x2 x3 x4 x5 x6 x7 x8 x9 x10:Option V} {v:V} {r:Fr} {s:Sg}:exX T (n + 1) (.loc 11 p) (x0 :: x1 :: x2 :: x3 :: x4 :: x5 :: x6 :: x7 :: x8 :: x9 :: x10 :: some v :: r) s=some (.ok v s):=rfl
theorem xNone {p:Pos} {n:Nat} {fr:Fr} {s:Sg}:exX T (n + 1) (.none p) fr s=some (.ok (.none) s):=rfl
theorem xBool {b:Bool} {p:Pos} {n:Nat} {fr:Fr} {s:Sg}:exX T (n + 1) (.bool b p) fr s=some (.ok (.bool b) s):=rfl
theorem xInt {b:Int} {p:Pos} {n:Nat} {fr:Fr} {s:Sg}:exX T (n + 1) (.int b p) fr s=some (.ok (.int b) s):=rfl
theorem xStr {b:CS} {p:Pos} {n:Nat} {fr:Fr} {s:Sg}:exX T (n + 1) (.str b p) fr s=some (.ok (.str b) s):=rfl
theorem xGlob {g:Nat} {p:Pos} {n:Nat} {fr:Fr} {s:Sg} {v:V} (h:T.gl g=some v):exX T (n + 1) (.glob g p) fr s=some (.ok v s):=by
  show lif (T.gl g) s=_; rw [h]; rfl
theorem xAttr {x:X} {f:Nat} {p:Pos} {n:Nat} {fr:Fr} {s:Sg} {s1:Sg} {o v:V} (h1:exX T n x fr s=some (.ok o s1)) (h2:attrV s1 f o=some v):exX T (n + 1) (.attr x f p) fr s=some (.ok v s1):=by
  show bnd (exX T n x fr s) (fun v s=>lif (attrV s f v) s)=_; rw [h1]; show lif _ _=_; rw [h2]; rfl
theorem xCallG {g:Nat} {q p:Pos} {as:List X} {n:Nat} {fr:Fr} {s:Sg} {s1:Sg} {f:V} {vs:List V} {r:R V} (h0:T.gl g=some f) (h1:exXs T (n + 1) as fr s=some (.ok vs s1)) (h2:callV T (n + 1) f vs s1=some r):exX T (n + 2) (.call (.glob g q) as p) fr s=some r:=by
  show bnd (exX T (n + 1) (.glob g q) fr s) (fun f s=>bnd (exXs T (n + 1) as fr s) fun as s=>callV T (n + 1) f as s)=_; rw [xGlob h0]; show bnd (exXs T (n + 1) as fr s) _=_; rw [h1]; exact h2
theorem xCallL {i:Nat} {q p:Pos} {as:List X} {n:Nat} {fr:Fr} {s:Sg} {s1:Sg} {f:V} {vs:List V} {r:R V} (h0:exX T n (.loc i q) fr s=some (.ok f s)) (h1:exXs T n as fr s=some (.ok vs s1)) (h2:callV T n f vs s1=some r):exX T (n + 1) (.call (.loc i q) as p) fr s=some r:=by
  show bnd (exX T n (.loc i q) fr s) (fun f s=>bnd (exXs T n as fr s) fun as s=>callV T n f as s)=_; rw [h0]; show bnd (exXs T n as fr s) _=_; rw [h1]; exact h2
theorem xBcall {b:Nat} {q p:Pos} {as:List X} {n:Nat} {fr:Fr} {s:Sg} {s1:Sg} {vs:List V} {v:V} (h1:exXs T n as fr s=some (.ok vs s1)) (h2:bifV s1 b vs=some v):exX T (n + 1) (.bcall b q as p) fr s=some (.ok v s1):=by
  show bnd (exXs T n as fr s) (fun as s=>lif (bifV s b as) s)=_; rw [h1]; show lif _ _=_; rw [h2]; rfl
theorem xMeth {o:X} {f:Nat} {q p:Pos} {as:List X} {n:Nat} {fr:Fr} {s:Sg} {s1 s2:Sg} {ov g:V} {vs:List V} {r:R V} (h1:exX T n o fr s=some (.ok ov s1)) (h2:methF T s1 ov f=some (some (g,true))) (h3:exXs T n as fr s1=some (.ok vs s2)) (h4:callV T n g (ov :: vs) s2=some r):exX T (n + 1) (.meth o f q as p) fr s=some r:=by
  show bnd (exX T n o fr s) _=_; rw [h1]
  show (match methF T s1 ov f with
      | some (some (g,b))=>bnd (exXs T n as fr s1) fun as s=>callV T n g (if b then ov :: as else as) s
      | some none=>bnd (exXs T n as fr s1) fun as s=>methV ov f as s
      | none=>none)=_
  rw [h2]; show bnd (exXs T n as fr s1) _=_; rw [h3]; exact h4
theorem xM7 {o:X} {q p:Pos} {as:List X} {n:Nat} {fr:Fr} {s:Sg} {s1 s2:Sg} {ov g:V} {vs:List V} {r:R V} (h1:exX T n o fr s=some (.ok ov s1)) (h2:methF T s1 ov 7=some (some (g,false))) (h3:exXs T n as fr s1=some (.ok vs s2)) (h4:callV T n g vs s2=some r):exX T (n + 1) (.meth o 7 q as p) fr s=some r:=by
  show bnd (exX T n o fr s) _=_; rw [h1]
  show (match methF T s1 ov 7 with
      | some (some (g,b))=>bnd (exXs T n as fr s1) fun as s=>callV T n g (if b then ov :: as else as) s
      | some none=>bnd (exXs T n as fr s1) fun as s=>methV ov 7 as s
      | none=>none)=_
  rw [h2]; show bnd (exXs T n as fr s1) _=_; rw [h3]; exact h4
theorem xM37 {o:X} {q p:Pos} {as:List X} {n:Nat} {fr:Fr} {s:Sg} {s1 s2:Sg} {ov:V} {vs:List V} {r:R V} (h1:exX T n o fr s=some (.ok ov s1)) (h2:methF T s1 ov 37=some none) (h3:exXs T n as fr s1=some (.ok vs s2)) (h4:methV ov 37 vs s2=some r):exX T (n + 1) (.meth o 37 q as p) fr s=some r:=by
  show bnd (exX T n o fr s) _=_; rw [h1]
  show (match methF T s1 ov 37 with
      | some (some (g,b))=>bnd (exXs T n as fr s1) fun as s=>callV T n g (if b then ov :: as else as) s
      | some none=>bnd (exXs T n as fr s1) fun as s=>methV ov 37 as s
      | none=>none)=_
  rw [h2]; show bnd (exXs T n as fr s1) _=_; rw [h3]; exact h4
theorem xM38 {o:X} {q p:Pos} {as:List X} {n:Nat} {fr:Fr} {s:Sg} {s1 s2:Sg} {ov:V} {vs:List V} {r:R V} (h1:exX T n o fr s=some (.ok ov s1)) (h2:methF T s1 ov 38=some none) (h3:exXs T n as fr s1=some (.ok vs s2)) (h4:methV ov 38 vs s2=some r):exX T (n + 1) (.meth o 38 q as p) fr s=some r:=by
  show bnd (exX T n o fr s) _=_; rw [h1]
  show (match methF T s1 ov 38 with
      | some (some (g,b))=>bnd (exXs T n as fr s1) fun as s=>callV T n g (if b then ov :: as else as) s
      | some none=>bnd (exXs T n as fr s1) fun as s=>methV ov 38 as s
      | none=>none)=_
  rw [h2]; show bnd (exXs T n as fr s1) _=_; rw [h3]; exact h4
theorem xM39 {o:X} {q p:Pos} {as:List X} {n:Nat} {fr:Fr} {s:Sg} {s1 s2:Sg} {ov:V} {vs:List V} {r:R V} (h1:exX T n o fr s=some (.ok ov s1)) (h2:methF T s1 ov 39=some none) (h3:exXs T n as fr s1=some (.ok vs s2)) (h4:methV ov 39 vs s2=some r):exX T (n + 1) (.meth o 39 q as p) fr s=some r:=by
  show bnd (exX T n o fr s) _=_; rw [h1]
  show (match methF T s1 ov 39 with
      | some (some (g,b))=>bnd (exXs T n as fr s1) fun as s=>callV T n g (if b then ov :: as else as) s
      | some none=>bnd (exXs T n as fr s1) fun as s=>methV ov 39 as s
      | none=>none)=_
  rw [h2]; show bnd (exXs T n as fr s1) _=_; rw [h3]; exact h4
theorem xsE {x:X} {r:List X} {n:Nat} {fr:Fr} {s:Sg} {s1:Sg} {i:Nat} (h:exX T n x fr s=some (.ex i s1)):exXs T (n + 1) (x :: r) fr s=some (.ex i s1):=by
  show bnd (exX T n x fr s) _=_; rw [h]; rfl
theorem xCmp {l r:X} {op:CmpOp} {p:Pos} {n:Nat} {fr:Fr} {s:Sg} {s1 s2:Sg} {a b:V} {c:Bool} (h1:exX T n l fr s=some (.ok a s1)) (h2:exX T n r fr s1=some (.ok b s2)) (h3:cmpV op a b=some c):exX T (n + 1) (.cmp l op r p) fr s=some (.ok (.bool c) s2):=by
  show bnd (exX T n l fr s) _=_; rw [h1]; show bnd (exX T n r fr s1) _=_; rw [h2]; show lif ((cmpV op a b).map V.bool) s2=_; rw [h3]; rfl
theorem xCmp2t {l m r:X} {op op2:CmpOp} {p:Pos} {n:Nat} {fr:Fr} {s:Sg} {s1 s2 s3:Sg} {a b c:V} {t:Bool} (h1:exX T n l fr s=some (.ok a s1)) (h2:exX T n m fr s1=some (.ok b s2)) (h3:cmpV op a b=some true) (h4:exX T n r fr s2=some (.ok c s3)) (h5:cmpV op2 b c=some t):exX T (n + 1) (.cmp2 l op m op2 r p) fr s=some (.ok (.bool t) s3):=by
  show bnd (exX T n l fr s) _=_; rw [h1]; show bnd (exX T n m fr s1) _=_; rw [h2]; show (match cmpV op a b with | some true=>bnd (exX T n r fr s2) fun c s=>lif ((cmpV op2 b c).map V.bool) s | some false=>some (.ok (V.bool false) s2) | none=>none)=_; rw [h3]; show bnd (exX T n r fr s2) _=_; rw [h4]; show lif ((cmpV op2 b c).map V.bool) s3=_; rw [h5]; rfl
theorem xCmp2f {l m r:X} {op op2:CmpOp} {p:Pos} {n:Nat} {fr:Fr} {s:Sg} {s1 s2:Sg} {a b:V} (h1:exX T n l fr s=some (.ok a s1)) (h2:exX T n m fr s1=some (.ok b s2)) (h3:cmpV op a b=some false):exX T (n + 1) (.cmp2 l op m op2 r p) fr s=some (.ok (.bool false) s2):=by
  show bnd (exX T n l fr s) _=_; rw [h1]; show bnd (exX T n m fr s1) _=_; rw [h2]; show (match cmpV op a b with | some true=>bnd (exX T n r fr s2) fun c s=>lif ((cmpV op2 b c).map V.bool) s | some false=>some (.ok (V.bool false) s2) | none=>none)=_; rw [h3]
theorem xBin {l r:X} {op:Operator} {p:Pos} {n:Nat} {fr:Fr} {s:Sg} {s1 s2:Sg} {a b c:V} (h1:exX T n l fr s=some (.ok a s1)) (h2:exX T n r fr s1=some (.ok b s2)) (h3:binV s2 op a b=some c):exX T (n + 1) (.bin l op r p) fr s=some (.ok c s2):=by
  show bnd (exX T n l fr s) _=_; rw [h1]; show bnd (exX T n r fr s1) _=_; rw [h2]; show lif (binV s2 op a b) s2=_; rw [h3]; rfl
theorem xSub {l r:X} {p:Pos} {n:Nat} {fr:Fr} {s:Sg} {s1 s2:Sg} {a b c:V} (h1:exX T n l fr s=some (.ok a s1)) (h2:exX T n r fr s1=some (.ok b s2)) (h3:subV s2 a b=some c):exX T (n + 1) (.sub l r p) fr s=some (.ok c s2):=by
  show bnd (exX T n l fr s) _=_; rw [h1]; show bnd (exX T n r fr s1) _=_; rw [h2]; show lif (subV s2 a b) s2=_; rw [h3]; rfl
theorem xSlc {l r:X} {q p:Pos} {n:Nat} {fr:Fr} {s:Sg} {s1 s2:Sg} {a b c:V} (h1:exX T n l fr s=some (.ok a s1)) (h2:exX T n r fr s1=some (.ok b s2)) (h3:slcV s2 a none (some b)=some c):exX T (n + 1) (.slc l none (some r) q p) fr s=some (.ok c s2):=by
  show bnd (exX T n l fr s) _=_; rw [h1]; show bnd (exX T n r fr s1) _=_; rw [h2]; show lif (slcV s2 a none (some b)) s2=_; rw [h3]; rfl
theorem xNot {x:X} {p:Pos} {n:Nat} {fr:Fr} {s:Sg} {s1:Sg} {v:V} {b:Bool} (h1:exX T n x fr s=some (.ok v s1)) (h2:truthy s1 v=some b):exX T (n + 1) (.not x p) fr s=some (.ok (.bool (bn b)) s1):=by
  show bnd (exX T n x fr s) _=_; rw [h1]; show lif ((truthy s1 v).map fun b=>V.bool (!b)) s1=_; rw [h2]; cases b <;> rfl
theorem xNeg {x:X} {p:Pos} {n:Nat} {fr:Fr} {s:Sg} {s1:Sg} {i:Int} (h1:exX T n x fr s=some (.ok (.int i) s1)):exX T (n + 1) (.neg x p) fr s=some (.ok (.int (-i)) s1):=by
  show bnd (exX T n x fr s) _=_; rw [h1]; rfl
theorem xAnd {xs:List X} {p:Pos} {n:Nat} {fr:Fr} {s:Sg} {r:R V} (h:exBool T n true xs fr s=some r):exX T (n + 1) (.and xs p) fr s=some r:=h
theorem xOr {xs:List X} {p:Pos} {n:Nat} {fr:Fr} {s:Sg} {r:R V} (h:exBool T n false xs fr s=some r):exX T (n + 1) (.or xs p) fr s=some r:=h
theorem b1 {b:Bool} {x:X} {n:Nat} {fr:Fr} {s:Sg} {r:R V} (h:exX T n x fr s=some r):exBool T (n + 1) b [x] fr s=some r:=h
theorem bA {x y:X} {r:List X} {n:Nat} {fr:Fr} {s:Sg} {s1:Sg} {v:V} {t:Bool} {o:R V} (h1:exX T n x fr s=some (.ok v s1)) (h2:truthy s1 v=some t) (h3:bsel (t) (exBool T n true (y :: r) fr s1) v s1=some o):exBool T (n + 1) true (x :: y :: r) fr s=some o:=by
  show bnd (exX T n x fr s) _=_; rw [h1]
  show (match truthy s1 v with | some t=>if t=true then exBool T n true (y :: r) fr s1 else some (.ok v s1) | none=>none)=_
  rw [h2]; cases t <;> exact h3
theorem bO {x y:X} {r:List X} {n:Nat} {fr:Fr} {s:Sg} {s1:Sg} {v:V} {t:Bool} {o:R V} (h1:exX T n x fr s=some (.ok v s1)) (h2:truthy s1 v=some t) (h3:bsel (bn t) (exBool T n false (y :: r) fr s1) v s1=some o):exBool T (n + 1) false (x :: y :: r) fr s=some o:=by
  show bnd (exX T n x fr s) _=_; rw [h1]
  show (match truthy s1 v with | some t=>if t=false then exBool T n false (y :: r) fr s1 else some (.ok v s1) | none=>none)=_
  rw [h2]; cases t <;> exact h3
theorem bsT {m:O V} {v:V} {s:Sg} {o:R V} (h:m=some o):bsel true m v s=some o:=h
theorem bsF {m:O V} {v:V} {s:Sg}:bsel false m v s=some (.ok v s):=rfl

theorem xIte {t a e:X} {p:Pos} {n:Nat} {fr:Fr} {s:Sg} {s1:Sg} {v:V} {b:Bool} {o:R V} (h1:exX T n t fr s=some (.ok v s1)) (h2:truthy s1 v=some b) (h3:exX T n (sel b a e) fr s1=some o):exX T (n + 1) (.ite t a e p) fr s=some o:=by
  show bnd (exX T n t fr s) _=_; rw [h1]
  show (match truthy s1 v with | some true=>exX T n a fr s1 | some false=>exX T n e fr s1 | none=>none)=_
  rw [h2]; cases b <;> exact h3
theorem xTup {xs:List X} {k:Nat} {p:Pos} {n:Nat} {fr:Fr} {s:Sg} {s1:Sg} {vs:List V} (h1:exXs T n xs fr s=some (.ok vs s1)) (h2:sml vs.length=true):exX T (n + 1) (.tup xs k p) fr s=some (.ok (.tup vs) s1):=by
  show bnd (exXs T n xs fr s) _=_; rw [h1]; exact if_pos h2
theorem xTupE {xs:List X} {k:Nat} {p:Pos} {n:Nat} {fr:Fr} {s:Sg} {s1:Sg} {i:Nat} (h1:exXs T n xs fr s=some (.ex i s1)):exX T (n + 1) (.tup xs k p) fr s=some (.ex i s1):=by
  show bnd (exXs T n xs fr s) _=_; rw [h1]; rfl
theorem xLstF {xs:List X} {p:Pos} {n:Nat} {fr:Fr} {s:Sg} {s1:Sg} {vs:List V} (h1:exXs T n xs fr s=some (.ok vs s1)) (h2:sml vs.length=true):exX T (n + 1) (.lstF xs p) fr s=some (.ok (.lst vs) s1):=by
  show bnd (exXs T n xs fr s) _=_; rw [h1]; exact if_pos h2
theorem xLst {xs:List X} {p:Pos} {n:Nat} {fr:Fr} {s:Sg} {s1 s2:Sg} {vs:List V} {i:Nat} (h1:exXs T n xs fr s=some (.ok vs s1)) (h2:sml vs.length=true) (h3:s1.length=i) (h4:s1 ++ [.list vs]=s2):exX T (n + 1) (.lst xs p) fr s=some (.ok (.ref i) s2):=by
  subst h3 h4; show bnd (exXs T n xs fr s) _=_; rw [h1]; exact if_pos h2
theorem xLam {k:Nat} {p:Pos} {n:Nat} {fr:Fr} {s:Sg} {vs:List V} (h1:caps fr (T.lamc k)=some vs):exX T (n + 1) (.lam k p) fr s=some (.ok (.clo k vs) s):=by
  show lif ((caps fr (T.lamc k)).map (V.clo k)) s=_; rw [h1]; rfl
theorem xs0 {n:Nat} {fr:Fr} {s:Sg}:exXs T (n + 1) [] fr s=some (.ok [] s):=rfl
theorem xs1 {x:X} {n:Nat} {fr:Fr} {s:Sg} {s1:Sg} {v:V} (h:exX T (n + 1) x fr s=some (.ok v s1)):exXs T (n + 2) [x] fr s=some (.ok [v] s1):=by
  show bnd (exX T (n + 1) x fr s) _=_; rw [h]; rfl
theorem xsC {x y:X} {r:List X} {n:Nat} {fr:Fr} {s:Sg} {s1 s2:Sg} {v:V} {vs:List V} (h:exX T n x fr s=some (.ok v s1)) (h2:exXs T n (y :: r) fr s1=some (.ok vs s2)):exXs T (n + 1) (x :: y :: r) fr s=some (.ok (v :: vs) s2):=by
  show bnd (exX T n x fr s) _=_; rw [h]; show bnd (exXs T n (y :: r) fr s1) _=_; rw [h2]; rfl
theorem xsCE {x y:X} {r:List X} {n:Nat} {fr:Fr} {s:Sg} {s1 s2:Sg} {v:V} {i:Nat} (h:exX T n x fr s=some (.ok v s1)) (h2:exXs T n (y :: r) fr s1=some (.ex i s2)):exXs T (n + 1) (x :: y :: r) fr s=some (.ex i s2):=by
  show bnd (exX T n x fr s) _=_; rw [h]; show bnd (exXs T n (y :: r) fr s1) _=_; rw [h2]; rfl
theorem xT4b {x y z t:X} {k:Nat} {p:Pos} {n:Nat} {fr:Fr} {s s1 s2:Sg} {v:V} {i:Nat} (h1:exX T (n + 1) x fr s=some (.ok v s1)) (h2:exX T n y fr s1=some (.ex i s2)):exX T (n + 3) (.tup [x,y,z,t] k p) fr s=some (.ex i s2):=xTupE (xsCE h1 (xsE h2))
theorem xT3E {x y z:X} {k:Nat} {p:Pos} {n:Nat} {fr:Fr} {s s1 s2 s3:Sg} {v w:V} {i:Nat} (h1:exX T (n + 2) x fr s=some (.ok v s1)) (h2:exX T (n + 1) y fr s1=some (.ok w s2)) (h3:exX T n z fr s2=some (.ex i s3)):exX T (n + 4) (.tup [x,y,z] k p) fr s=some (.ex i s3):=xTupE (xsCE h1 (xsCE h2 (xsE h3)))
theorem xT4E {x y z t:X} {k:Nat} {p:Pos} {n:Nat} {fr:Fr} {s s1 s2 s3 s4:Sg} {v w u:V} {i:Nat} (h1:exX T (n + 3) x fr s=some (.ok v s1)) (h2:exX T (n + 2) y fr s1=some (.ok w s2)) (h3:exX T (n + 1) z fr s2=some (.ok u s3)) (h4:exX T n t fr s3=some (.ex i s4)):exX T (n + 5) (.tup [x,y,z,t] k p) fr s=some (.ex i s4):=xTupE (xsCE h1 (xsCE h2 (xsCE h3 (xsE h4))))
theorem ss0 {n:Nat} {fr:Fr} {s:Sg}:exSs T (n + 1) [] fr s=some (.nx fr s):=rfl
theorem ssR {x:X} {p:Pos} {l:List S} {n:Nat} {fr:Fr} {s:Sg} {r:R V} (h:exX T n x fr s=some r):exSs T (n + 2) (.ret x p :: l) fr s=some (rtR r fr):=by
  show (match (match exX T n x fr s with | some (.ok v s)=>some (RS.rt v s) | some (.ex i s)=>some (.ex i fr s) | none=>none) with | some (.nx fr s)=>exSs T (n + 1) l fr s | o=>o)=_; rw [h]; cases r <;> rfl
theorem ssE {x:X} {p:Pos} {l:List S} {n:Nat} {fr:Fr} {s:Sg} {s1:Sg} {v:V} {o:RS} (h:exX T n x fr s=some (.ok v s1)) (h2:exSs T (n + 1) l fr s1=some o):exSs T (n + 2) (.expr x p :: l) fr s=some o:=by
  show (match (match exX T n x fr s with | some (.ok _ s)=>some (RS.nx fr s) | some (.ex i s)=>some (.ex i fr s) | none=>none) with | some (.nx fr s)=>exSs T (n + 1) l fr s | o=>o)=_; rw [h]; exact h2
theorem ssA0 {q p:Pos} {x:X} {l:List S} {n:Nat} {y:Option V} {r:Fr} {s s1:Sg} {v:V} {o:RS} (h:exX T n x (y :: r) s=some (.ok v s1)) (h2:exSs T (n + 1) l (some v :: r) s1=some o):exSs T (n + 2) (.asN 0 q x p :: l) (y :: r) s=some o:=by
  show (match (match exX T n x (y :: r) s with | some (.ok v s)=>some (RS.nx (List.set (y :: r) 0 (some v)) s) | some (.ex i s)=>some (.ex i (y :: r) s) | none=>none) with | some (.nx fr s)=>exSs T (n + 1) l fr s | o=>o)=_; rw [h]; exact h2
theorem ssA1 {q p:Pos} {x:X} {l:List S} {n:Nat} {x0:Option V} {y:Option V} {r:Fr} {s s1:Sg} {v:V} {o:RS} (h:exX T n x (x0 :: y :: r) s=some (.ok v s1)) (h2:exSs T (n + 1) l (x0 :: some v :: r) s1=some o):exSs T (n + 2) (.asN 1 q x p :: l) (x0 :: y :: r) s=some o:=by
  show (match (match exX T n x (x0 :: y :: r) s with | some (.ok v s)=>some (RS.nx (List.set (x0 :: y :: r) 1 (some v)) s) | some (.ex i s)=>some (.ex i (x0 :: y :: r) s) | none=>none) with | some (.nx fr s)=>exSs T (n + 1) l fr s | o=>o)=_; rw [h]; exact h2
theorem ssA2 {q p:Pos} {x:X} {l:List S} {n:Nat} {x0 x1:Option V} {y:Option V} {r:Fr} {s s1:Sg} {v:V} {o:RS} (h:exX T n x (x0 :: x1 :: y :: r) s=some (.ok v s1)) (h2:exSs T (n + 1) l (x0 :: x1 :: some v :: r) s1=some o):exSs T (n + 2) (.asN 2 q x p :: l) (x0 :: x1 :: y :: r) s=some o:=by
  show (match (match exX T n x (x0 :: x1 :: y :: r) s with | some (.ok v s)=>some (RS.nx (List.set (x0 :: x1 :: y :: r) 2 (some v)) s) | some (.ex i s)=>some (.ex i (x0 :: x1 :: y :: r) s) | none=>none) with | some (.nx fr s)=>exSs T (n + 1) l fr s | o=>o)=_; rw [h]; exact h2
theorem ssA3 {q p:Pos} {x:X} {l:List S} {n:Nat} {x0 x1 x2:Option V} {y:Option V} {r:Fr} {s s1:Sg} {v:V} {o:RS} (h:exX T n x (x0 :: x1 :: x2 :: y :: r) s=some (.ok v s1)) (h2:exSs T (n + 1) l (x0 :: x1 :: x2 :: some v :: r) s1=some o):exSs T (n + 2) (.asN 3 q x p :: l) (x0 :: x1 :: x2 :: y :: r) s=some o:=by
  show (match (match exX T n x (x0 :: x1 :: x2 :: y :: r) s with | some (.ok v s)=>some (RS.nx (List.set (x0 :: x1 :: x2 :: y :: r) 3 (some v)) s) | some (.ex i s)=>some (.ex i (x0 :: x1 :: x2 :: y :: r) s) | none=>none) with | some (.nx fr s)=>exSs T (n + 1) l fr s | o=>o)=_; rw [h]; exact h2
theorem ssA4 {q p:Pos} {x:X} {l:List S} {n:Nat} {x0 x1 x2 x3:Option V} {y:Option V} {r:Fr} {s s1:Sg} {v:V} {o:RS} (h:exX T n x (x0 :: x1 :: x2 :: x3 :: y :: r) s=some (.ok v s1)) (h2:exSs T (n + 1) l (x0 :: x1 :: x2 :: x3 :: some v :: r) s1=some o):exSs T (n + 2) (.asN 4 q x p :: l) (x0 :: x1 :: x2 :: x3 :: y :: r) s=some o:=by
  show (match (match exX T n x (x0 :: x1 :: x2 :: x3 :: y :: r) s with | some (.ok v s)=>some (RS.nx (List.set (x0 :: x1 :: x2 :: x3 :: y :: r) 4 (some v)) s) | some (.ex i s)=>some (.ex i (x0 :: x1 :: x2 :: x3 :: y :: r) s) | none=>none) with | some (.nx fr s)=>exSs T (n + 1) l fr s | o=>o)=_; rw [h]; exact h2
theorem ssA5 {q p:Pos} {x:X} {l:List S} {n:Nat} {x0 x1 x2 x3 x4:Option V} {y:Option V} {r:Fr} {s s1:Sg} {v:V} {o:RS} (h:exX T n x (x0 :: x1 :: x2 :: x3 :: x4 :: y :: r) s=some (.ok v s1)) (h2:exSs T (n + 1) l (x0 :: x1 :: x2 :: x3 :: x4 :: some v :: r) s1=some o):exSs T (n + 2) (.asN 5 q x p :: l) (x0 :: x1 :: x2 :: x3 :: x4 :: y :: r) s=some o:=by
  show (match (match exX T n x (x0 :: x1 :: x2 :: x3 :: x4 :: y :: r) s with | some (.ok v s)=>some (RS.nx (List.set (x0 :: x1 :: x2 :: x3 :: x4 :: y :: r) 5 (some v)) s) | some (.ex i s)=>some (.ex i (x0 :: x1 :: x2 :: x3 :: x4 :: y :: r) s) | none=>none) with | some (.nx fr s)=>exSs T (n + 1) l fr s | o=>o)=_; rw [h]; exact h2
theorem ssA6 {q p:Pos} {x:X} {l:List S} {n:Nat} {x0 x1 x2 x3 x4 x5:Option V} {y:Option V} {r:Fr} {s s1:Sg} {v:V} {o:RS} (h:exX T n x (x0 :: x1 :: x2 :: x3 :: x4 :: x5 :: y :: r) s=some (.ok v s1)) (h2:exSs T (n + 1) l (x0 :: x1 :: x2 :: x3 :: x4 :: x5 :: some v :: r) s1=some o):exSs T (n + 2) (.asN 6 q x p :: l) (x0 :: x1 :: x2 :: x3 :: x4 :: x5 :: y :: r) s=some o:=by
  show (match (match exX T n x (x0 :: x1 :: x2 :: x3 :: x4 :: x5 :: y :: r) s with | some (.ok v s)=>some (RS.nx (List.set (x0 :: x1 :: x2 :: x3 :: x4 :: x5 :: y :: r) 6 (some v)) s) | some (.ex i s)=>some (.ex i (x0 :: x1 :: x2 :: x3 :: x4 :: x5 :: y :: r) s) | none=>none) with | some (.nx fr s)=>exSs T (n + 1) l fr s | o=>o)=_; rw [h]; exact h2
theorem ssA7 {q p:Pos} {x:X} {l:List S} {n:Nat} {x0 x1 x2 x3 x4 x5 x6:Option V} {y:Option V} {r:Fr} {s s1:Sg} {v:V} {o:RS} (h:exX T n x (x0 :: x1 :: x2 :: x3 :: x4 :: x5 :: x6 :: y :: r) s=some (.ok v s1)) (h2:exSs T (n + 1) l (x0 :: x1 :: x2 :: x3 :: x4 :: x5 :: x6 :: some v :: r) s1=some o):exSs T (n + 2) (.asN 7 q x p :: l) (x0 :: x1 :: x2 :: x3 :: x4 :: x5 :: x6 :: y :: r) s=some o:=by
  show (match (match exX T n x (x0 :: x1 :: x2 :: x3 :: x4 :: x5 :: x6 :: y :: r) s with | some (.ok v s)=>some (RS.nx (List.set (x0 :: x1 :: x2 :: x3 :: x4 :: x5 :: x6 :: y :: r) 7 (some v)) s) | some (.ex i s)=>some (.ex i (x0 :: x1 :: x2 :: x3 :: x4 :: x5 :: x6 :: y :: r) s) | none=>none) with | some (.nx fr s)=>exSs T (n + 1) l fr s | o=>o)=_; rw [h]; exact h2
theorem ssA8 {q p:Pos} {x:X} {l:List S} {n:Nat} {x0 x1 x2 x3 x4 x5 x6 x7:Option V} {y:Option V} {r:Fr} {s s1:Sg} {v:V} {o:RS} (h:exX T n x (x0 :: x1 :: x2 :: x3 :: x4 :: x5 :: x6 :: x7 :: y :: r) s=some (.ok v s1)) (h2:exSs T (n + 1) l (x0 :: x1 :: x2 :: x3 :: x4 :: x5 :: x6 :: x7 :: some v :: r) s1=some o):exSs T (n + 2) (.asN 8 q x p :: l) (x0 :: x1 :: x2 :: x3 :: x4 :: x5 :: x6 :: x7 :: y :: r) s=some o:=by
  show (match (match exX T n x (x0 :: x1 :: x2 :: x3 :: x4 :: x5 :: x6 :: x7 :: y :: r) s with | some (.ok v s)=>some (RS.nx (List.set (x0 :: x1 :: x2 :: x3 :: x4 :: x5 :: x6 :: x7 :: y :: r) 8 (some v)) s) | some (.ex i s)=>some (.ex i (x0 :: x1 :: x2 :: x3 :: x4 :: x5 :: x6 :: x7 :: y :: r) s) | none=>none) with | some (.nx fr s)=>exSs T (n + 1) l fr s | o=>o)=_; rw [h]; exact h2
theorem ssA9 {q p:Pos} {x:X} {l:List S} {n:Nat} {x0 x1 x2 x3 x4 x5 x6 x7 x8:Option V} {y:Option V} {r:Fr} {s s1:Sg} {v:V} {o:RS} (h:exX T n x (x0 :: x1 :: x2 :: x3 :: x4 :: x5 :: x6 :: x7 :: x8 :: y :: r) s=some (.ok v s1)) (h2:exSs T (n + 1) l (x0 :: x1 :: x2 :: x3 :: x4 :: x5 :: x6 :: x7 :: x8 :: some v :: r) s1=some o):exSs T (n + 2) (.asN 9 q x p :: l) (x0 :: x1 :: x2 :: x3 :: x4 :: x5 :: x6 :: x7 :: x8 :: y :: r) s=some o:=by
  show (match (match exX T n x (x0 :: x1 :: x2 :: x3 :: x4 :: x5 :: x6 :: x7 :: x8 :: y :: r) s with | some (.ok v s)=>some (RS.nx (List.set (x0 :: x1 :: x2 :: x3 :: x4 :: x5 :: x6 :: x7 :: x8 :: y :: r) 9 (some v)) s) | some (.ex i s)=>some (.ex i (x0 :: x1 :: x2 :: x3 :: x4 :: x5 :: x6 :: x7 :: x8 :: y :: r) s) | none=>none) with | some (.nx fr s)=>exSs T (n + 1) l fr s | o=>o)=_; rw [h]; exact h2
theorem ssA10 {q p:Pos} {x:X} {l:List S} {n:Nat} {x0 x1 x2 x3 x4 x5 x6 x7 x8 x9:Option V} {y:Option V} {r:Fr} {s s1:Sg} {v:V} {o:RS} (h:exX T n x (x0 :: x1 :: x2 :: x3 :: x4 :: x5 :: x6 :: x7 :: x8 :: x9 :: y :: r) s=some (.ok v s1)) (h2:exSs T (n + 1) l (x0 :: x1 :: x2 :: x3 :: x4 :: x5 :: x6 :: x7 :: x8 :: x9 :: some v :: r) s1=some o):exSs T (n + 2) (.asN 10 q x p :: l) (x0 :: x1 :: x2 :: x3 :: x4 :: x5 :: x6 :: x7 :: x8 :: x9 :: y :: r) s=some o:=by
  show (match (match exX T n x (x0 :: x1 :: x2 :: x3 :: x4 :: x5 :: x6 :: x7 :: x8 :: x9 :: y :: r) s with | some (.ok v s)=>some (RS.nx (List.set (x0 :: x1 :: x2 :: x3 :: x4 :: x5 :: x6 :: x7 :: x8 :: x9 :: y :: r) 10 (some v)) s) | some (.ex i s)=>some (.ex i (x0 :: x1 :: x2 :: x3 :: x4 :: x5 :: x6 :: x7 :: x8 :: x9 :: y :: r) s) | none=>none) with | some (.nx fr s)=>exSs T (n + 1) l fr s | o=>o)=_; rw [h]; exact h2
theorem ssA11 {q p:Pos} {x:X} {l:List S} {n:Nat} {x0 x1 x2 x3 x4 x5 x6 x7 x8 x9 x10:Option V} {y:Option V} {r:Fr} {s s1:Sg} {v:V} {o:RS} (h:exX T n x (x0 :: x1 :: x2 :: x3 :: x4 :: x5 :: x6 :: x7 :: x8 :: x9 :: x10 :: y :: r) s=some (.ok v s1)) (h2:exSs T (n + 1) l (x0 :: x1 :: x2 :: x3 :: x4 :: x5 :: x6 :: x7 :: x8 :: x9 :: x10 :: some v :: r) s1=some o):exSs T (n + 2) (.asN 11 q x p :: l) (x0 :: x1 :: x2 :: x3 :: x4 :: x5 :: x6 :: x7 :: x8 :: x9 :: x10 :: y :: r) s=some o:=by
  show (match (match exX T n x (x0 :: x1 :: x2 :: x3 :: x4 :: x5 :: x6 :: x7 :: x8 :: x9 :: x10 :: y :: r) s with | some (.ok v s)=>some (RS.nx (List.set (x0 :: x1 :: x2 :: x3 :: x4 :: x5 :: x6 :: x7 :: x8 :: x9 :: x10 :: y :: r) 11 (some v)) s) | some (.ex i s)=>some (.ex i (x0 :: x1 :: x2 :: x3 :: x4 :: x5 :: x6 :: x7 :: x8 :: x9 :: x10 :: y :: r) s) | none=>none) with | some (.nx fr s)=>exSs T (n + 1) l fr s | o=>o)=_; rw [h]; exact h2
theorem ssAE {j:Nat} {q p:Pos} {x:X} {l:List S} {n:Nat} {fr:Fr} {s:Sg} {s1:Sg} {i:Nat} (h:exX T n x fr s=some (.ex i s1)):exSs T (n + 2) (.asN j q x p :: l) fr s=some (.ex i fr s1):=by
  show (match (match exX T n x fr s with | some (.ok v s)=>some (RS.nx (fr.set j (some v)) s) | some (.ex i s)=>some (.ex i fr s) | none=>none) with | some (.nx fr s)=>exSs T (n + 1) l fr s | o=>o)=_; rw [h]
theorem ssT {ts:List (Nat × Pos)} {k:Nat} {q p:Pos} {x:X} {l:List S} {n:Nat} {fr:Fr} {s:Sg} {s1:Sg} {vs:List V} {fr1:Fr} {o:RS} (h:exX T n x fr s=some (.ok (.tup vs) s1)) (h1:putT fr ts vs=some fr1) (h2:exSs T (n + 1) l fr1 s1=some o):exSs T (n + 2) (.asT ts k q x p :: l) fr s=some o:=by
  show (match (match exX T n x fr s with | some (.ok (.tup vs) s)=>(putT fr ts vs).map fun fr=>RS.nx fr s | some (.ok _ _)=>none | some (.ex i s)=>some (.ex i fr s) | none=>none) with | some (.nx fr s)=>exSs T (n + 1) l fr s | o=>o)=_; rw [h]; dsimp only; rw [h1]; exact h2
theorem ssAA {o : X} {f : Nat} {q p : Pos} {x : X} {l : List S} {n : Nat} {fr : Fr} {s : Sg} {s1 s2 s3 : Sg} {v ov : V} {o' : RS} (h : exX T n x fr s = some (.ok v s1)) (h1 : exX T n o fr s1 = some (.ok ov s2)) (h3 : setA s2 ov f v = some s3) (h4 : exSs T (n + 1) l fr s3 = some o') : exSs T (n + 2) (.asA o f q x p :: l) fr s = some o' := by
  show (match (match bnd (exX T n x fr s) fun v s=>bnd (exX T n o fr s) fun o s=>match o with
          | .ref i => match s[i]? with
            | some (.inst C fs)=>if f≤10∧C ≠ 0∧fs.length≤40 then some (.ok V.none (s.set i (.inst C (fput f v fs)))) else none
            | _=>none
          | _=>none with
      | some (.ok _ s)=>some (RS.nx fr s)
      | some (.ex i s)=>some (.ex i fr s)
      | none=>none) with | some (.nx fr s)=>exSs T (n + 1) l fr s | o=>o)=_
  rw [h]
  show (match (match bnd (exX T n o fr s1) fun o s=>match o with
          | .ref i => match s[i]? with
            | some (.inst C fs)=>if f≤10∧C ≠ 0∧fs.length≤40 then some (.ok V.none (s.set i (.inst C (fput f v fs)))) else none
            | _=>none
          | _=>none with
      | some (.ok _ s)=>some (RS.nx fr s)
      | some (.ex i s)=>some (.ex i fr s)
      | none=>none) with | some (.nx fr s)=>exSs T (n + 1) l fr s | o=>o)=_
  rw [h1]
  unfold setA at h3
  cases ov with
  | ref i =>
    dsimp only [bnd] at h3 ⊢
    generalize s2[i]? = z at h3 ⊢
    match z,h3 with
    | some (.inst C fs), h3 =>
      dsimp only at h3 ⊢
      by_cases hc:f≤10∧C ≠ 0∧fs.length≤40
      · rw [if_pos hc] at h3 ⊢
        obtain rfl:=Option.some.inj h3
        exact h4
      · rw [if_neg hc] at h3
        cases h3
  | _=>cases h3
theorem ssI {t:X} {a e l:List S} {p:Pos} {n:Nat} {fr:Fr} {s:Sg} {s1:Sg} {v:V} {b:Bool} {o o':RS} (h1:exX T n t fr s=some (.ok v s1)) (h2:truthy s1 v=some b) (h3:exSs T n (sel b a e) fr s1=some o) (h4:sq o (exSs T (n + 1) l)=some o'):exSs T (n + 2) (.ifs t a e p :: l) fr s=some o':=by
  show (match (match exX T n t fr s with | some (.ok v s)=>(match truthy s v with | some true=>exSs T n a fr s | some false=>exSs T n e fr s | none=>none) | some (.ex i s)=>some (.ex i fr s) | none=>none) with | some (.nx fr s)=>exSs T (n + 1) l fr s | o=>o)=_
  rw [h1]; dsimp only; rw [h2]
  cases b
  all_goals
    dsimp only at h3 ⊢; rw [h3]; cases o <;> exact h4
theorem sqN {f:Fr→Sg→Option RS} {fr:Fr} {s:Sg} {o:RS} (h:f fr s=some o):sq (.nx fr s) f=some o:=h
theorem sqR {f:Fr→Sg→Option RS} {r:R V} {fr:Fr}:sq (rtR r fr) f=some (rtR r fr):=by cases r <;> rfl
theorem sqE {f:Fr→Sg→Option RS} {i:Nat} {fr:Fr} {s:Sg}:sq (.ex i fr s) f=some (.ex i fr s):=rfl
theorem ssW {t:X} {a l:List S} {p:Pos} {n:Nat} {fr:Fr} {s:Sg} {o o':RS} (h1:exW T n t a fr s=some o) (h2:sq o (exSs T (n + 1) l)=some o'):exSs T (n + 2) (.whl t a p :: l) fr s=some o':=by
  show (match (exW T n t a fr s) with | some (.nx fr s)=>exSs T (n + 1) l fr s | o=>o)=_
  rw [h1]; cases o <;> exact h2
theorem wF {t:X} {a:List S} {n:Nat} {fr:Fr} {s:Sg} {s1:Sg} {v:V} (h1:exX T n t fr s=some (.ok v s1)) (h2:truthy s1 v=some false):exW T (n + 1) t a fr s=some (.nx fr s1):=by
  show (match exX T n t fr s with | some (.ok v s)=>(match truthy s v with | some true=>(match exSs T n a fr s with | some (.nx fr s)=>exW T n t a fr s | o=>o) | some false=>some (RS.nx fr s) | none=>none) | some (.ex i s)=>some (.ex i fr s) | none=>none)=_
  rw [h1]; dsimp only; rw [h2]
theorem wT {t:X} {a:List S} {n:Nat} {fr:Fr} {s:Sg} {s1:Sg} {v:V} {o o':RS} (h1:exX T n t fr s=some (.ok v s1)) (h2:truthy s1 v=some true) (h3:exSs T n a fr s1=some o) (h4:sq o (exW T n t a)=some o'):exW T (n + 1) t a fr s=some o':=by
  show (match exX T n t fr s with | some (.ok v s)=>(match truthy s v with | some true=>(match exSs T n a fr s with | some (.nx fr s)=>exW T n t a fr s | o=>o) | some false=>some (RS.nx fr s) | none=>none) | some (.ex i s)=>some (.ex i fr s) | none=>none)=_
  rw [h1]; dsimp only; rw [h2]; dsimp only; rw [h3]; cases o <;> exact h4
theorem ssF {i:Nat} {q p:Pos} {x:X} {a l:List S} {n:Nat} {fr:Fr} {s:Sg} {s1:Sg} {vs:List V} {o o':RS} (h1:exX T n x fr s=some (.ok (.lst vs) s1)) (h2:exF T n (fun fr v=>some (fr.set i (some v))) a vs fr s1=some o) (h3:sq o (exSs T (n + 1) l)=some o'):exSs T (n + 2) (.forN i q x a p :: l) fr s=some o':=by
  show (match (match exX T n x fr s with | some (.ok v s)=>(match v with | .lst l=>exF T n (fun fr v=>some (fr.set i (some v))) a l fr s | _=>none) | some (.ex i s)=>some (.ex i fr s) | none=>none) with | some (.nx fr s)=>exSs T (n + 1) l fr s | o=>o)=_
  rw [h1]; dsimp only; rw [h2]; cases o <;> exact h3
theorem f0 {st:Fr→V→Option Fr} {a:List S} {n:Nat} {fr:Fr} {s:Sg}:exF T (n + 1) st a [] fr s=some (.nx fr s):=rfl
theorem fC {st:Fr→V→Option Fr} {a:List S} {n:Nat} {fr:Fr} {s:Sg} {v:V} {r:List V} {fr1:Fr} {o o':RS} (h0:st fr v=some fr1) (h1:exSs T n a fr1 s=some o) (h2:sq o (exF T n st a r)=some o'):exF T (n + 1) st a (v :: r) fr s=some o':=by
  show (match st fr v with | some fr=>(match exSs T n a fr s with | some (.nx fr s)=>exF T n st a r fr s | o=>o) | none=>none)=_
  rw [h0]; dsimp only; rw [h1]; cases o <;> exact h2
theorem fC1 {a:List S} {n:Nat} {x0:Option V} {y:Option V} {fr:Fr} {s:Sg} {v:V} {r:List V} {o o':RS} (h1:exSs T n a (x0 :: some v :: fr) s=some o) (h2:sq o (exF T n (fun fr v=>some (fr.set 1 (some v))) a r)=some o'):exF T (n + 1) (fun fr v=>some (fr.set 1 (some v))) a (v :: r) (x0 :: y :: fr) s=some o':=by
  exact fC rfl h1 h2
theorem fC2 {a:List S} {n:Nat} {x0 x1:Option V} {y:Option V} {fr:Fr} {s:Sg} {v:V} {r:List V} {o o':RS} (h1:exSs T n a (x0 :: x1 :: some v :: fr) s=some o) (h2:sq o (exF T n (fun fr v=>some (fr.set 2 (some v))) a r)=some o'):exF T (n + 1) (fun fr v=>some (fr.set 2 (some v))) a (v :: r) (x0 :: x1 :: y :: fr) s=some o':=by
  exact fC rfl h1 h2
theorem fC3 {a:List S} {n:Nat} {x0 x1 x2:Option V} {y:Option V} {fr:Fr} {s:Sg} {v:V} {r:List V} {o o':RS} (h1:exSs T n a (x0 :: x1 :: x2 :: some v :: fr) s=some o) (h2:sq o (exF T n (fun fr v=>some (fr.set 3 (some v))) a r)=some o'):exF T (n + 1) (fun fr v=>some (fr.set 3 (some v))) a (v :: r) (x0 :: x1 :: x2 :: y :: fr) s=some o':=by
  exact fC rfl h1 h2
theorem fC4 {a:List S} {n:Nat} {x0 x1 x2 x3:Option V} {y:Option V} {fr:Fr} {s:Sg} {v:V} {r:List V} {o o':RS} (h1:exSs T n a (x0 :: x1 :: x2 :: x3 :: some v :: fr) s=some o) (h2:sq o (exF T n (fun fr v=>some (fr.set 4 (some v))) a r)=some o'):exF T (n + 1) (fun fr v=>some (fr.set 4 (some v))) a (v :: r) (x0 :: x1 :: x2 :: x3 :: y :: fr) s=some o':=by
  exact fC rfl h1 h2
theorem ssX {x:X} {p:Pos} {l:List S} {n:Nat} {fr:Fr} {s:Sg} {s1 s2:Sg} {i:Nat} {fs:List (Nat × V)} (h:exX T n x fr s=some (.ok (.ref i) s1)) (h1:s1[i]? = some (.new 0 fs)) (h2:s1.set i (.exc 0 fs)=s2):exSs T (n + 2) (.raise x p :: l) fr s=some (.ex i fr s2):=by
  show (match (match exX T n x fr s with
      | some (.ok v s)=>raiS fr v s
      | some (.ex i s)=>some (.ex i fr s)
      | none=>none) with | some (.nx fr s)=>exSs T (n + 1) l fr s | o=>o)=_
  rw [h]; show (match (match s1[i]? with | some (.new C fs)=>if C=0 then some (RS.ex i fr (s1.set i (.exc C fs))) else none | _=>none) with | some (.nx fr s)=>exSs T (n + 1) l fr s | o=>o)=_
  rw [h1]; subst h2; rfl
theorem ssYn {a hh l:List S} {g i:Nat} {pg ph p:Pos} {n:Nat} {fr:Fr} {s:Sg} {s1:Sg} {fr1:Fr} {o:RS} (h:exSs T n a fr s=some (.nx fr1 s1)) (h2:exSs T (n + 1) l fr1 s1=some o):exSs T (n + 2) (.try1 a g pg i hh ph p :: l) fr s=some o:=by
  show (match (match exSs T n a fr s with
      | some (.ex e fr s)=>tryH g i hh e fr s
      | o=>o) with | some (.nx fr s)=>exSs T (n + 1) l fr s | o=>o)=_
  rw [h]; exact h2
theorem ssYx {a l:List S} {i j k:Nat} {pg ph p q1 q2 q3:Pos} {n:Nat} {fr:Fr} {s:Sg} {s1:Sg} {fr1 fr2:Fr} {e:Nat} {v:V} {fs:List (Nat × V)} {o:RS} (h:exSs T n a fr s=some (.ex e fr1 s1)) (hc:s1[e]? = some (.exc 0 fs)) (hk:(fr1.set i (some (.ref e)))[k]? = some (some v)) (hf:((fr1.set i (some (.ref e))).set j (some v)).set i none=fr2) (h2:exSs T (n + 1) l fr2 s1=some o):exSs T (n + 2) (.try1 a 0 pg i [.asN j q1 (.loc k q2) q3] ph p :: l) fr s=some o:=by
  show (match (match exSs T n a fr s with
      | some (.ex e fr s)=>tryH 0 i [S.asN j q1 (X.loc k q2) q3] e fr s
      | o=>o) with | some (.nx fr s)=>exSs T (n + 1) l fr s | o=>o)=_
  rw [h]; show (match (Option.bind (excK s1[e]?) _:Option RS) with | some (.nx fr s)=>exSs T (n + 1) l fr s | o=>o)=_
  rw [hc]; show (match (Option.bind ((fr1.set i (some (.ref e)))[k]?).join _:Option RS) with | some (.nx fr s)=>exSs T (n + 1) l fr s | o=>o)=_
  rw [hk]; subst hf; exact h2
theorem ssD {o k x : X} {q p : Pos} {l : List S} {n : Nat} {fr : Fr} {s : Sg} {s1 s2 s3 s4 : Sg} {v : V} {r : Nat} {j : Int} {c : List V} {o' : RS} (h : exX T n x fr s = some (.ok v s1)) (h1 : exX T n o fr s1 = some (.ok (.ref r) s2)) (h2 : exX T n k fr s2 = some (.ok (.int j) s3)) (h3 : s3[r]? = some (.list c)) (h4 : 0 ≤ j ∧ j ≤ 1000 ∧ j.toNat < c.length) (h5 : s3.set r (.list (c.set j.toNat v)) = s4) (h6 : exSs T (n + 1) l fr s4 = some o') : exSs T (n + 2) (.asI o k q x p :: l) fr s = some o' := by
  show (match (match bnd (exX T n x fr s) fun v s=>bnd (exX T n o fr s) fun o s=>bnd (exX T n k fr s) fun k s=>match o,k with
          | .ref i, .int j => match s[i]? with
            | some (.list l)=>if 0≤j∧j≤1000∧j.toNat < l.length then some (.ok V.none (s.set i (.list (l.set j.toNat v)))) else none
            | _=>none
          | _,_=>none with
      | some (.ok _ s)=>some (RS.nx fr s)
      | some (.ex i s)=>some (.ex i fr s)
      | none=>none) with | some (.nx fr s)=>exSs T (n + 1) l fr s | o=>o)=_
  rw [h]
  dsimp only [bnd]
  rw [h1]
  dsimp only
  rw [h2]
  dsimp only
  rw [h3]
  dsimp only
  rw [if_pos h4]
  subst h5
  exact h6
theorem ssFT {ts : List (Nat × Pos)} {k : Nat} {q bp bp2 p : Pos} {x : X} {a l : List S} {n : Nat} {fr : Fr} {s : Sg} {s1 : Sg} {vs : List V} {o o' : RS} (h1 : exXs T n [x] fr s = some (.ok [.lst vs] s1)) (h2 : exF T n (stT ts) a (enumV 0 vs) fr s1 = some o) (h3 : sq o (exSs T (n + 1) l) = some o') : exSs T (n + 2) (.forT ts k q (.bcall 6 bp [x] bp2) a p :: l) fr s = some o' := by
  show (match (match bnd (exXs T n [x] fr s) (fun vs s=>match vs with | [v]=>some (.ok v s) | _=>none) with
      | some (.ok v s) => (match v with
        | .lst l=>exF T n (stT ts) a (enumV 0 l) fr s
        | _=>none)
      | some (.ex i s)=>some (.ex i fr s)
      | none=>none) with | some (.nx fr s)=>exSs T (n + 1) l fr s | o=>o)=_
  rw [h1]; dsimp only [bnd]; rw [h2]; cases o <;> exact h3
theorem new_of {g k n : Nat} {as : List V} {s s' : Sg} (hi : T.init g = some k) (hf : T.fn g = none) (h : callV T n (.base k) (.ref s.length :: as) (s ++ [.inst g []]) = some (.ok .none s')) : callV T (n + 1) (.base g) as s = some (.ok (.ref s.length) s') := by
  show (match T.fn g with
      | some d =>
        if as.length≤d.np && d.np≤as.length + d.dflt.length then
          match exSs T n d.body ((as ++ d.dflt.drop (d.dflt.length - (d.np - as.length))).map some ++ List.replicate (d.nm.length - d.np) none) s with
          | some (.nx _ s)=>some (R.ok V.none s)
          | some (.rt v s)=>some (R.ok v s)
          | some (.ex i _ s)=>some (R.ex i s)
          | none=>none
        else none
      | none => match T.init g with
        | some k=>bnd (callV T n (V.base k) (V.ref s.length :: as) (s ++ [Cell.inst g []])) fun v s'=>match v with | .none=>some (R.ok (V.ref s.length) s') | _=>none
        | none => if g = 0 ∧ 3 ≤ n then match (generalizing := false) as with
            | [w,a]=>some (R.ok (V.ref s.length) (s ++ [Cell.new g [(10,w),(1,a)]]))
            | _=>none
          else none)=_
  rw [hf]
  dsimp only
  rw [hi]
  dsimp only
  rw [h]
  rfl
theorem get_new {s:Sg} {c:Cell}:(s ++ [c])[s.length]? = some c:=(List.getElem?_append_right (Nat.le_refl _)).trans (by rw [Nat.sub_self]; rfl)
theorem set_new {s:Sg} {c c':Cell}:(s ++ [c]).set s.length c'=s ++ [c']:=(List.set_append_right _ _ (Nat.le_refl _)).trans (by rw [Nat.sub_self]; rfl)
theorem cDc {x:CS} {ks:List CS} {vs:List V}:cmpV .In (.str x) (.dct ks vs)=some (ks.contains x):=rfl
theorem pT23 {x y z w:Option V} {r:Fr} {p q:Pos} {u v:V}:putT (x :: y :: z :: w :: r) [(2,p),(3,q)] [u,v]=some (x :: y :: some u :: some v :: r):=rfl
theorem cLeB {x y:CS} {b:Bool} (h:cle x y=b):cmpV .LtE (.str x) (.str y)=some b:=congrArg some h
theorem cSubB {x y:CS} {b:Bool} (h:isSub x y=b):cmpV .In (.str x) (.str y)=some b:=congrArg some h
theorem sStr0 {s:Sg} {c:Nat} {l:CS}:subV s (.str (c :: l)) (.int 0)=some (.str [c]):=rfl
theorem setN {σ:Sg} {C f:Nat} {fs:List (Nat × V)} {v:V} {fs':List (Nat × V)} (h:(Nat.ble f 10 && !Nat.beq C 0 && Nat.ble fs.length 40)=true) (hf:fput f v fs=fs'):setA (σ ++ [.inst C fs]) (.ref σ.length) f v=some (σ ++ [.inst C fs']):=by
  unfold setA
  dsimp only
  rw [get_new]
  rw [Bool.and_eq_true,Bool.and_eq_true,Bool.not_eq_true'] at h
  refine (if_pos ⟨Nat.le_of_ble_eq_true h.1.1,Nat.ne_of_beq_eq_false h.1.2,Nat.le_of_ble_eq_true h.2⟩).trans (congrArg some ?_)
  rw [hf]
  exact set_new
theorem tB {s:Sg} {b:Bool}:truthy s (.bool b)=some b:=rfl
theorem cNR {i:Nat}:cmpV .IsNot (.ref i) .none=some true:=rfl
theorem cNN:cmpV .IsNot .none .none=some false:=rfl
theorem cIR {i:Nat}:cmpV .Is (.ref i) .none=some false:=rfl
theorem cI0:cmpV .Is .none .none=some true:=rfl
theorem cEd {x y:CS} {b:Bool} (h1:isData (.str x)=true) (h2:isData (.str y)=true) (e:decide (x=y)=b):cmpV .Eq (.str x) (.str y)=some b:=(if_pos (Bool.and_eq_true_iff.mpr ⟨h1,h2⟩)).trans (congrArg some e)
theorem cET {x y:CS} (h1:isData (.str x)=true) (h2:isData (.str y)=true) (e:x=y):cmpV .Eq (.str x) (.str y)=some true:=cEd h1 h2 (decide_eq_true e)
theorem cEF {x y:CS} (h1:isData (.str x)=true) (h2:isData (.str y)=true) (e : ¬ x=y):cmpV .Eq (.str x) (.str y)=some false:=cEd h1 h2 (decide_eq_false e)
theorem cNd {x y:CS} {b:Bool} (h1:isData (.str x)=true) (h2:isData (.str y)=true) (e:decide (x=y)=b):cmpV .NotEq (.str x) (.str y)=some (bn b):=(if_pos (Bool.and_eq_true_iff.mpr ⟨h1,h2⟩)).trans (congrArg some ((congrArg (!·) e).trans bn_eq))
theorem cNT {x y:CS} (h1:isData (.str x)=true) (h2:isData (.str y)=true) (e:x=y):cmpV .NotEq (.str x) (.str y)=some false:=cNd h1 h2 (decide_eq_true e)
theorem cNF {x y:CS} (h1:isData (.str x)=true) (h2:isData (.str y)=true) (e : ¬ x=y):cmpV .NotEq (.str x) (.str y)=some true:=cNd h1 h2 (decide_eq_false e)
theorem cTi {x:CS} {l:List V} {ks:List CS} {b:Bool} (h:strsV l=some ks) (e:decide (x ∈ ks)=b):cmpV .In (.str x) (.tup l)=some b:=by
  rw [← e]; show (strsV l).map (·.contains x)=_; rw [h]; simp
theorem cTn {x:CS} {l:List V} {ks:List CS} {b:Bool} (h:strsV l=some ks) (e:decide (x ∈ ks)=b):cmpV .NotIn (.str x) (.tup l)=some (bn b):=by
  rw [← e, ← bn_eq]; show ((strsV l).map (·.contains x)).map (!·)=_; rw [h]; simp
theorem cTnT {x:CS} {l:List V} {ks:List CS} (h:strsV l=some ks) (e:x ∈ ks):cmpV .NotIn (.str x) (.tup l)=some false:=cTn h (decide_eq_true e)
theorem cTnF {x:CS} {l:List V} {ks:List CS} (h:strsV l=some ks) (e : ¬ x ∈ ks):cmpV .NotIn (.str x) (.tup l)=some true:=cTn h (decide_eq_false e)
theorem cDi {x:CS} {ks:List CS} {vs:List V} {b:Bool} (e:decide (x ∈ ks)=b):cmpV .In (.str x) (.dct ks vs)=some b:=by
  rw [← e]; show some (ks.contains x)=_; simp
theorem cDn {x:CS} {ks:List CS} {vs:List V} {b:Bool} (e:decide (x ∈ ks)=b):cmpV .NotIn (.str x) (.dct ks vs)=some (bn b):=by
  rw [← e, ← bn_eq]; show some (!ks.contains x)=_; simp
theorem cDnT {x:CS} {ks:List CS} {vs:List V} (e:x ∈ ks):cmpV .NotIn (.str x) (.dct ks vs)=some false:=cDn (decide_eq_true e)
theorem cDnF {x:CS} {ks:List CS} {vs:List V} (e : ¬ x ∈ ks):cmpV .NotIn (.str x) (.dct ks vs)=some true:=cDn (decide_eq_false e)
theorem bAdd {s:Sg} {x y:Int}:binV s .Add (.int x) (.int y)=some (.int (x + y)):=rfl
theorem bSub {s:Sg} {x y:Int}:binV s .Sub (.int x) (.int y)=some (.int (x - y)):=rfl
theorem bStr {s:Sg} {x y:CS} (h:sml (x.length + y.length)=true):binV s .Add (.str x) (.str y)=some (.str (x ++ y)):=if_pos h
theorem bLL {s:Sg} {x y:List V} (h:sml (x.length + y.length)=true):binV s .Add (.lst x) (.lst y)=some (.lst (x ++ y)):=if_pos h
theorem sD {s:Sg} {ks:List CS} {vs:List V} {x:CS} {v:V} (h:dget x ks vs=some v):subV s (.dct ks vs) (.str x)=some v:=h
theorem sm0:sml ([]:List V).length=true:=rfl
theorem sm1 {a:V}:sml [a].length=true:=rfl
theorem sm2 {a b:V}:sml [a,b].length=true:=rfl
theorem sm3 {a b c:V}:sml [a,b,c].length=true:=rfl
theorem sm4 {a b c d:V}:sml [a,b,c,d].length=true:=rfl
theorem sm5 {a b c d e:V}:sml [a,b,c,d,e].length=true:=rfl
theorem cLtT {x y:Int} (h:x < y):cmpV .Lt (.int x) (.int y)=some true:=congrArg some (decide_eq_true h)
theorem cLtF {x y:Int} (h : ¬ x < y):cmpV .Lt (.int x) (.int y)=some false:=congrArg some (decide_eq_false h)
theorem cGtF {x y:Int} (h : ¬ y < x):cmpV .Gt (.int x) (.int y)=some false:=congrArg some (decide_eq_false h)
theorem cGtT {x y:Int} (h:y < x):cmpV .Gt (.int x) (.int y)=some true:=congrArg some (decide_eq_true h)
theorem cGeF {x y:Int} (h : ¬ y≤x):cmpV .GtE (.int x) (.int y)=some false:=congrArg some (decide_eq_false h)
theorem cGeT {x y:Int} (h:y≤x):cmpV .GtE (.int x) (.int y)=some true:=congrArg some (decide_eq_true h)
theorem sml_of {n:Nat} (h:n≤1000):sml n=true:=decide_eq_true h
theorem dT {P:Prop} [Decidable P] (h:P):decide P=true:=decide_eq_true h
theorem dF {P:Prop} [Decidable P] (h : ¬ P):decide P=false:=decide_eq_false h
end
end Mine.Pu
end
section
namespace Mine.Pu
open PySem
theorem c16 {x0:V} {σ:List Cell} (n:Nat):callV TB (n + 1) (.base 16) [x0] σ=cres (exSs TB n bd_is_part_next [some x0,none,none] σ):=rfl
theorem c19 {x0 x1:V} {σ:List Cell} (n:Nat):callV TB (n + 1) (.base 19) [x0,x1] σ=cres (exSs TB n bd_read_ref [some x0,some x1,none,none,none,none] σ):=rfl
theorem c21 {x0:V} {σ:List Cell} (n:Nat):callV TB (n + 1) (.base 21) [x0] σ=cres (exSs TB n bd_read_figure [some x0] σ):=rfl
theorem c22 {x0 x1:V} {σ:List Cell} (n:Nat):callV TB (n + 1) (.base 22) [x0,x1] σ=cres (exSs TB n bd_read_operand [some x0,some x1,none] σ):=rfl
theorem c23 {x0:V} {σ:List Cell} (n:Nat):callV TB (n + 1) (.base 23) [x0] σ=cres (exSs TB n bd_read_expression [some x0] σ):=rfl
theorem c24 {x0 x1:V} {σ:List Cell} (n:Nat):callV TB (n + 1) (.base 24) [x0,x1] σ=cres (exSs TB n bd_sign_among [some x0,some x1,none] σ):=rfl
theorem c25 {x0 x1:V} {σ:List Cell} (n:Nat):callV TB (n + 1) (.base 25) [x0,x1] σ=cres (exSs TB n bd_read_sum [some x0,some x1,none,none] σ):=rfl
theorem c26 {x0 x1:V} {σ:List Cell} (n:Nat):callV TB (n + 1) (.base 26) [x0,x1] σ=cres (exSs TB n bd_read_product [some x0,some x1,none,none] σ):=rfl
theorem c27 {x0 x1:V} {σ:List Cell} (n:Nat):callV TB (n + 1) (.base 27) [x0,x1] σ=cres (exSs TB n bd_read_factor [some x0,some x1,none,none,none] σ):=rfl
theorem c29 {x0 x1:V} {σ:List Cell} (n:Nat):callV TB (n + 1) (.base 29) [x0,x1] σ=cres (exSs TB n bd_read_power [some x0,some x1,none] σ):=rfl
theorem c30 {x0 x1:V} {σ:List Cell} (n:Nat):callV TB (n + 1) (.base 30) [x0,x1] σ=cres (exSs TB n bd_read_primary [some x0,some x1,none] σ):=rfl
theorem c32 {x0 x1:V} {σ:List Cell} (n:Nat):callV TB (n + 1) (.base 32) [x0,x1] σ=cres (exSs TB n bd_word_here [some x0,some x1,none] σ):=rfl
theorem c33 {x0 x1:V} {σ:List Cell} (n:Nat):callV TB (n + 1) (.base 33) [x0,x1] σ=cres (exSs TB n bd_is_relation_at [some x0,some x1,none] σ):=rfl
theorem c34 {x0:V} {σ:List Cell} (n:Nat):callV TB (n + 1) (.base 34) [x0] σ=cres (exSs TB n bd_place_of_word [some x0,none] σ):=rfl
theorem c35 {x0:V} {σ:List Cell} (n:Nat):callV TB (n + 1) (.base 35) [x0] σ=cres (exSs TB n bd_is_predicate_here [some x0,none,none] σ):=rfl
theorem c36 {x0:V} {σ:List Cell} (n:Nat):callV TB (n + 1) (.base 36) [x0] σ=cres (exSs TB n bd_is_bare_relation_here [some x0] σ):=rfl
theorem c37 {x0 x1:V} {σ:List Cell} (n:Nat):callV TB (n + 1) (.base 37) [x0,x1] σ=cres (exSs TB n bd_read_condition [some x0,some x1] σ):=rfl
theorem c38 {x0:V} {σ:List Cell} (n:Nat):callV TB (n + 1) (.base 38) [x0] σ=cres (exSs TB n bd_is_reserved [some x0] σ):=rfl
theorem c40 {x0 x1:V} {σ:List Cell} (n:Nat):callV TB (n + 1) (.base 40) [x0,x1] σ=cres (exSs TB n bd__law_draw [some x0,some x1,none,none,none,none] σ):=rfl
theorem c41 {x0:V} {σ:List Cell} (n:Nat):callV TB (n + 1) (.base 41) [x0] σ=cres (exSs TB n bd__law_pen [some x0] σ):=rfl
theorem c42 {x0:V} {σ:List Cell} (n:Nat):callV TB (n + 1) (.base 42) [x0] σ=cres (exSs TB n bd__law_reader [some x0,none,none,none,none] σ):=rfl
theorem c43 {x0:V} {σ:List Cell} (n:Nat):callV TB (n + 1) (.base 43) [x0] σ=cres (exSs TB n bd__law_ref [some x0] σ):=rfl
theorem c44 {x0 x1:V} {σ:List Cell} (n:Nat):callV TB (n + 1) (.base 44) [x0,x1] σ=cres (exSs TB n bd__law_told [some x0,some x1,none,none,none,none,none,none,none,none] σ):=rfl
theorem c45 {x0:V} {σ:List Cell} (n:Nat):callV TB (n + 1) (.base 45) [x0] σ=cres (exSs TB n bd__law_heard [some x0,none,none,none] σ):=rfl
theorem c90 {x0:V} {σ:List Cell} (n:Nat):callV TB (n + 1) (.base 90) [x0] σ=cres (exSs TB n bd_law [some x0,none,none,none,none,none,none,none,none] σ):=rfl
theorem c199 {x0 x1 x2 x3 x4:V} {σ:List Cell} (n:Nat):callV TB (n + 1) (.base 199) [x0,x1,x2,x3,x4] σ=cres (exSs TB n bd_Token___init__ [some x0,some x1,some x2,some x3,some x4] σ):=rfl
theorem c211 {x0 x1:V} {σ:List Cell} (n:Nat):callV TB (n + 1) (.base 211) [x0,x1] σ=cres (exSs TB n bd_Reader_peek [some x0,some x1] σ):=rfl
theorem c212 {x0 x1:V} {σ:List Cell} (n:Nat):callV TB (n + 1) (.base 212) [x0,x1] σ=cres (exSs TB n bd_Reader_fault [some x0,some x1] σ):=rfl
theorem c213 {x0:V} {σ:List Cell} (n:Nat):callV TB (n + 1) (.base 213) [x0] σ=cres (exSs TB n bd_Reader_take [some x0,none] σ):=rfl
theorem c214 {x0 x1 x2:V} {σ:List Cell} (n:Nat):callV TB (n + 1) (.base 214) [x0,x1,x2] σ=cres (exSs TB n bd_Reader_is_kind [some x0,some x1,some x2,none] σ):=rfl
theorem c215 {x0 x1:V} {σ:List Cell} (n:Nat):callV TB (n + 1) (.base 215) [x0,x1] σ=cres (exSs TB n bd_Reader_is_word [some x0,some x1,none,none] σ):=rfl
theorem c216 {x0 x1:V} {σ:List Cell} (n:Nat):callV TB (n + 1) (.base 216) [x0,x1] σ=cres (exSs TB n bd_Reader_skip [some x0,some x1] σ):=rfl
theorem c217 {x0 x1:V} {σ:List Cell} (n:Nat):callV TB (n + 1) (.base 217) [x0,x1] σ=cres (exSs TB n bd_Reader_one_of [some x0,some x1,none] σ):=rfl
theorem c218 {x0 x1:V} {σ:List Cell} (n:Nat):callV TB (n + 1) (.base 218) [x0,x1] σ=cres (exSs TB n bd_Reader_is_name [some x0,some x1] σ):=rfl
theorem c219 {x0:V} {σ:List Cell} (n:Nat):callV TB (n + 1) (.base 219) [x0] σ=cres (exSs TB n bd_Reader_name [some x0] σ):=rfl
theorem c220 {x0 x1 x2:V} {σ:List Cell} (n:Nat):callV TB (n + 1) (.base 220) [x0,x1,x2] σ=cres (exSs TB n bd_Reader_is_sign [some x0,some x1,some x2] σ):=rfl
theorem c221 {x0 x1:V} {σ:List Cell} (n:Nat):callV TB (n + 1) (.base 221) [x0,x1] σ=cres (exSs TB n bd_Reader_skip_sign [some x0,some x1] σ):=rfl
theorem c223 {x0:V} {σ:List Cell} (n:Nat):callV TB (n + 1) (.base 223) [x0] σ=cres (exSs TB n bd_Reader_is_number [some x0] σ):=rfl
theorem c299 {x0 x1 x2:V} {σ:List Cell} (n:Nat):callV TB (n + 1) (.base 299) [x0,x1,x2] σ=cres (exSs TB n bd_Reader___init__ [some x0,some x1,some x2] σ):=rfl
theorem c326 {x0:V} {σ:List Cell} (n:Nat):callV TB (n + 1) (.base 326) [x0] σ=cres (exSs TB n bd_ConditionReader_either [some x0,none] σ):=rfl
theorem c327 {x0:V} {σ:List Cell} (n:Nat):callV TB (n + 1) (.base 327) [x0] σ=cres (exSs TB n bd_ConditionReader_both [some x0,none] σ):=rfl
theorem c328 {x0:V} {σ:List Cell} (n:Nat):callV TB (n + 1) (.base 328) [x0] σ=cres (exSs TB n bd_ConditionReader_turned [some x0] σ):=rfl
theorem c329 {x0:V} {σ:List Cell} (n:Nat):callV TB (n + 1) (.base 329) [x0] σ=cres (exSs TB n bd_ConditionReader_single [some x0,none,none,none,none] σ):=rfl
theorem c330 {x0:V} {σ:List Cell} (n:Nat):callV TB (n + 1) (.base 330) [x0] σ=cres (exSs TB n bd_ConditionReader_unbracketed [some x0,none] σ):=rfl
theorem c333 {x0:V} {σ:List Cell} (n:Nat):callV TB (n + 1) (.base 333) [x0] σ=cres (exSs TB n bd_ConditionReader_sign_of_last [some x0] σ):=rfl
theorem c334 {x0 x1:V} {σ:List Cell} (n:Nat):callV TB (n + 1) (.base 334) [x0,x1] σ=cres (exSs TB n bd_ConditionReader_predicate [some x0,some x1,none,none,none] σ):=rfl
theorem c335 {x0 x1:V} {σ:List Cell} (n:Nat):callV TB (n + 1) (.base 335) [x0,x1] σ=cres (exSs TB n bd_ConditionReader_relation [some x0,some x1,none,none] σ):=rfl
theorem c336 {x0:V} {σ:List Cell} (n:Nat):callV TB (n + 1) (.base 336) [x0] σ=cres (exSs TB n bd_ConditionReader_sign_here [some x0,none,none] σ):=rfl
theorem c399 {x0 x1 x2 x3:V} {σ:List Cell} (n:Nat):callV TB (n + 1) (.base 399) [x0,x1,x2,x3] σ=cres (exSs TB n bd_ConditionReader___init__ [some x0,some x1,some x2,some x3] σ):=rfl
theorem tf1:TB.fn 1=none:=rfl
theorem tf2:TB.fn 2=none:=rfl
theorem tf3:TB.fn 3=none:=rfl
theorem ti1:TB.init 1=some 199:=rfl
theorem ti2:TB.init 2=some 299:=rfl
theorem ti3:TB.init 3=some 399:=rfl
theorem tm2_11:TB.mth 2 11=some 211:=rfl
theorem tm2_12:TB.mth 2 12=some 212:=rfl
theorem tm2_13:TB.mth 2 13=some 213:=rfl
theorem tm2_14:TB.mth 2 14=some 214:=rfl
theorem tm2_15:TB.mth 2 15=some 215:=rfl
theorem tm2_16:TB.mth 2 16=some 216:=rfl
theorem tm2_17:TB.mth 2 17=some 217:=rfl
theorem tm2_18:TB.mth 2 18=some 218:=rfl
theorem tm2_19:TB.mth 2 19=some 219:=rfl
theorem tm2_20:TB.mth 2 20=some 220:=rfl
theorem tm2_21:TB.mth 2 21=some 221:=rfl
theorem tm2_23:TB.mth 2 23=some 223:=rfl
theorem tm3_26:TB.mth 3 26=some 326:=rfl
theorem tm3_27:TB.mth 3 27=some 327:=rfl
theorem tm3_28:TB.mth 3 28=some 328:=rfl
theorem tm3_29:TB.mth 3 29=some 329:=rfl
theorem tm3_30:TB.mth 3 30=some 330:=rfl
theorem tm3_32:TB.mth 3 32=some 332:=rfl
theorem tm3_33:TB.mth 3 33=some 333:=rfl
theorem tm3_34:TB.mth 3 34=some 334:=rfl
theorem tm3_35:TB.mth 3 35=some 335:=rfl
theorem tm3_36:TB.mth 3 36=some 336:=rfl
theorem tg0:TB.gl 0=some (.base 0):=rfl
theorem tg1:TB.gl 1=some (.base 1):=rfl
theorem tg2:TB.gl 2=some (.base 2):=rfl
theorem tg3:TB.gl 3=some (.base 3):=rfl
noncomputable def figDK:List CS:=[[90,69,82,79],[90,69,82,79,83],[90,69,82,79,69,83],[83,80,65,67,69],[83,80,65,67,69,83],[72,73,71,72,45,86,65,76,85,69],[72,73,71,72,45,86,65,76,85,69,83],[76,79,87,45,86,65,76,85,69],[76,79,87,45,86,65,76,85,69,83],[81,85,79,84,69],[81,85,79,84,69,83]]
noncomputable def figDV:List V:=[.str [90,69,82,79], .str [90,69,82,79], .str [90,69,82,79], .str [83,80,65,67,69], .str [83,80,65,67,69], .str [72,73,71,72], .str [72,73,71,72], .str [76,79,87], .str [76,79,87], .str [81,85,79,84,69], .str [81,85,79,84,69]]
theorem tg4:TB.gl 4=some (.dct figDK figDV):=rfl
noncomputable def oppDK:List CS:=[[61],[60,62],[60],[62,61],[62],[60,61]]
noncomputable def oppDV:List V:=[.str [60,62], .str [61], .str [62,61], .str [60], .str [60,61], .str [62]]
theorem tg5:TB.gl 5=some (.dct oppDK oppDV):=rfl
noncomputable def clsL:List V:=[(.str [78,85,77,69,82,73,67]),(.str [65,76,80,72,65,66,69,84,73,67]),(.str [65,76,80,72,65,66,69,84,73,67,45,76,79,87,69,82]),(.str [65,76,80,72,65,66,69,84,73,67,45,85,80,80,69,82])]
theorem tg6:TB.gl 6=some (.tup clsL):=rfl
noncomputable def wsDK:List CS:=[[80,79,83,73,84,73,86,69],[78,69,71,65,84,73,86,69],[90,69,82,79],[90,69,82,79,83],[90,69,82,79,69,83]]
noncomputable def wsDV:List V:=[.str [80,79,83,73,84,73,86,69], .str [78,69,71,65,84,73,86,69], .str [90,69,82,79], .str [90,69,82,79], .str [90,69,82,79]]
theorem tg7:TB.gl 7=some (.dct wsDK wsDV):=rfl
noncomputable def wrDK:List CS:=[[71,82,69,65,84,69,82],[76,69,83,83],[69,81,85,65,76]]
noncomputable def wrDV:List V:=[.str [62], .str [60], .str [61]]
theorem tg8:TB.gl 8=some (.dct wrDK wrDV):=rfl
noncomputable def relL:List V:=[(.str [61]),(.str [60]),(.str [62]),(.str [60,61]),(.str [62,61])]
theorem tg9:TB.gl 9=some (.tup relL):=rfl
noncomputable def resW:CS:=[32,65,67,67,69,80,84,32,65,67,67,69,83,83,32,65,68,68,32,65,68,86,65,78,67,73,78,71,32,65,70,84,69,82,32,65,76,76,32,65,76,80,72,65,66,69,84,73,67,32,65,76,80,72,65,66,69,84,73,67,45,76,79,87,69,82,32,65,76,80,72,65,66,69,84,73,67,45,85,80,80,69,82,32,65,76,80,72,65,78,85,77,69,82,73,67,32,65,76,80,72,65,78,85,77,69,82,73,67,45,69,68,73,84,69,68,32,65,76,83,79,32,65,76,84,69,82,78,65,84,69,32,65,78,68,32,65,78,89,32,65,82,69,32,65,82,69,65,32,65,82,69,65,83,32,65,83,67,69,78,68,73,78,71,32,65,83,83,73,71,78,32,65,84,32,65,85,84,72,79,82,32,66,69,70,79,82,69,32,66,73,78,65,82,89,32,66,76,65,78,75,32,66,76,79,67,75,32,66,89,32,67,65,76,76,32,67,72,65,82,65,67,84,69,82,32,67,72,65,82,65,67,84,69,82,83,32,67,76,79,83,69,32,67,79,77,80,32,67,79,77,80,45,51,32,67,79,77,80,85,84,65,84,73,79,78,65,76,32,67,79,77,80,85,84,65,84,73,79,78,65,76,45,51,32,67,79,77,80,85,84,69,32,67,79,78,70,73,71,85,82,65,84,73,79,78,32,67,79,78,84,65,73,78,83,32,67,79,78,84,69,78,84,32,67,79,78,84,73,78,85,69,32,67,79,78,86,69,82,84,73,78,71,32,67,79,80,89,32,67,79,82,82,32,67,79,82,82,69,83,80,79,78,68,73,78,71,32,67,79,85,78,84,32,68,65,84,65,32,68,65,84,69,45,67,79,77,80,73,76,69,68,32,68,65,84,69,45,87,82,73,84,84,69,78,32,68,69,76,69,84,69,32,68,69,76,73,77,73,84,69,68,32,68,69,76,73,77,73,84,69,82,32,68,69,80,69,78,68,73,78,71,32,68,69,83,67,69,78,68,73,78,71,32,68,73,83,80,76,65,89,32,68,73,86,73,68,69,32,68,73,86,73,83,73,79,78,32,68,79,87,78,32,68,85,80,76,73,67,65,84,69,83,32,68,89,78,65,77,73,67,32,69,76,83,69,32,69,78,68,32,69,78,68,45,65,68,68,32,69,78,68,45,67,65,76,76,32,69,78,68,45,67,79,77,80,85,84,69,32,69,78,68,45,68,69,76,69,84,69,32,69,78,68,45,68,73,86,73,68,69,32,69,78,68,45,69,86,65,76,85,65,84,69,32,69,78,68,45,73,70,32,69,78,68,45,77,85,76,84,73,80,76,89,32,69,78,68,45,80,69,82,70,79,82,77,32,69,78,68,45,82,69,65,68,32,69,78,68,45,82,69,84,85,82,78,32,69,78,68,45,82,69,87,82,73,84,69,32,69,78,68,45,83,69,65,82,67,72,32,69,78,68,45,83,84,65,82,84,32,69,78,68,45,83,84,82,73,78,71,32,69,78,68,45,83,85,66,84,82,65,67,84,32,69,78,68,45,85,78,83,84,82,73,78,71,32,69,78,68,45,87,82,73,84,69,32,69,78,86,73,82,79,78,77,69,78,84,32,69,81,85,65,76,32,69,82,82,79,82,32,69,86,65,76,85,65,84,69,32,69,88,67,69,80,84,73,79,78,32,69,88,73,84,32,69,88,84,69,78,68,32,69,88,84,69,82,78,65,76,32,70,65,76,83,69,32,70,68,32,70,73,76,69,32,70,73,76,69,45,67,79,78,84,82,79,76,32,70,73,76,76,69,82,32,70,73,82,83,84,32,70,79,82,32,70,82,79,77,32,71,73,86,73,78,71,32,71,76,79,66,65,76,32,71,79,32,71,82,69,65,84,69,82,32,72,73,71,72,45,86,65,76,85,69,32,72,73,71,72,45,86,65,76,85,69,83,32,73,45,79,32,73,45,79,45,67,79,78,84,82,79,76,32,73,68,69,78,84,73,70,73,67,65,84,73,79,78,32,73,70,32,73,78,32,73,78,68,69,88,32,73,78,68,69,88,69,68,32,73,78,73,84,73,65,76,32,73,78,73,84,73,65,76,73,90,69,32,73,78,80,85,84,32,73,78,80,85,84,45,79,85,84,80,85,84,32,73,78,83,80,69,67,84,32,73,78,83,84,65,76,76,65,84,73,79,78,32,73,78,84,79,32,73,78,86,65,76,73,68,32,73,83,32,74,85,83,84,32,74,85,83,84,73,70,73,69,68,32,75,69,89,32,76,65,66,69,76,32,76,69,65,68,73,78,71,32,76,69,70,84,32,76,69,83,83,32,76,73,78,69,32,76,73,78,69,83,32,76,73,78,75,65,71,69,32,76,79,67,75,32,76,79,87,45,86,65,76,85,69,32,76,79,87,45,86,65,76,85,69,83,32,77,69,82,71,69,32,77,79,68,69,32,77,79,86,69,32,77,85,76,84,73,80,76,89,32,78,65,84,73,86,69,32,78,69,71,65,84,73,86,69,32,78,69,88,84,32,78,79,32,78,79,84,32,78,85,77,69,82,73,67,32,78,85,77,69,82,73,67,45,69,68,73,84,69,68,32,79,66,74,69,67,84,45,67,79,77,80,85,84,69,82,32,79,67,67,85,82,83,32,79,70,32,79,70,70,32,79,77,73,84,84,69,68,32,79,78,32,79,80,69,78,32,79,80,84,73,79,78,65,76,32,79,82,32,79,82,68,69,82,32,79,82,71,65,78,73,90,65,84,73,79,78,32,79,84,72,69,82,32,79,85,84,80,85,84,32,79,86,69,82,70,76,79,87,32,80,65,67,75,69,68,45,68,69,67,73,77,65,76,32,80,69,82,70,79,82,77,32,80,73,67,32,80,73,67,84,85,82,69,32,80,79,73,78,84,69,82,32,80,79,83,73,84,73,86,69,32,80,82,79,67,69,68,85,82,69,32,80,82,79,67,69,69,68,32,80,82,79,71,82,65,77,32,80,82,79,71,82,65,77,45,73,68,32,81,85,79,84,69,32,81,85,79,84,69,83,32,82,65,78,68,79,77,32,82,69,65,68,32,82,69,67,79,82,68,32,82,69,67,79,82,68,83,32,82,69,68,69,70,73,78,69,83,32,82,69,70,69,82,69,78,67,69,32,82,69,76,65,84,73,86,69,32,82,69,76,69,65,83,69,32,82,69,77,65,73,78,68,69,82,32,82,69,78,65,77,69,83,32,82,69,80,76,65,67,69,32,82,69,80,76,65,67,73,78,71,32,82,69,84,85,82,78,32,82,69,87,82,73,84,69,32,82,73,71,72,84,32,82,79,85,78,68,69,68,32,82,85,78,32,83,65,77,69,32,83,68,32,83,69,65,82,67,72,32,83,69,67,84,73,79,78,32,83,69,67,85,82,73,84,89,32,83,69,76,69,67,84,32,83,69,78,84,69,78,67,69,32,83,69,80,65,82,65,84,69,32,83,69,81,85,69,78,84,73,65,76,32,83,69,84,32,83,73,71,78,32,83,73,90,69,32,83,79,82,84,32,83,79,82,84,45,77,69,82,71,69,32,83,79,85,82,67,69,45,67,79,77,80,85,84,69,82,32,83,80,65,67,69,32,83,80,65,67,69,83,32,83,80,69,67,73,65,76,45,78,65,77,69,83,32,83,84,65,78,68,65,82,68,32,83,84,65,82,84,32,83,84,65,84,85,83,32,83,84,79,80,32,83,84,82,73,78,71,32,83,85,66,84,82,65,67,84,32,83,89,78,67,32,83,89,78,67,72,82,79,78,73,90,69,68,32,84,65,76,76,89,73,78,71,32,84,69,83,84,32,84,72,65,78,32,84,72,69,78,32,84,72,82,79,85,71,72,32,84,72,82,85,32,84,73,77,69,83,32,84,79,32,84,82,65,73,76,73,78,71,32,84,82,85,69,32,85,78,83,84,82,73,78,71,32,85,78,84,73,76,32,85,80,32,85,80,79,78,32,85,83,65,71,69,32,85,83,73,78,71,32,86,65,76,85,69,32,86,65,76,85,69,83,32,86,65,82,89,73,78,71,32,87,72,69,78,32,87,73,84,72,32,87,79,82,75,73,78,71,45,83,84,79,82,65,71,69,32,87,82,73,84,69,32,90,69,82,79,32,90,69,82,79,69,83,32,90,69,82,79,83,32]
theorem tg10:TB.gl 10=some (.str resW):=rfl
theorem tg11:TB.gl 11=some (.int 20):=rfl
noncomputable def spelL:List V:=[.tup [(.str [61]),(.lst [.str [61]])], .tup [(.str [61]),(.lst [.str [69,81,85,65,76]])], .tup [(.str [61]),(.lst [.str [69,81,85,65,76], .str [84,79]])], .tup [(.str [62]),(.lst [.str [62]])], .tup [(.str [62]),(.lst [.str [71,82,69,65,84,69,82]])], .tup [(.str [62]),(.lst [.str [71,82,69,65,84,69,82], .str [84,72,65,78]])], .tup [(.str [60]),(.lst [.str [60]])], .tup [(.str [60]),(.lst [.str [76,69,83,83]])], .tup [(.str [60]),(.lst [.str [76,69,83,83], .str [84,72,65,78]])], .tup [(.str [62,61]),(.lst [.str [62,61]])], .tup [(.str [62,61]),(.lst [.str [71,82,69,65,84,69,82], .str [79,82], .str [69,81,85,65,76]])], .tup [(.str [62,61]),(.lst [.str [71,82,69,65,84,69,82], .str [84,72,65,78], .str [79,82], .str [69,81,85,65,76], .str [84,79]])], .tup [(.str [60,61]),(.lst [.str [60,61]])], .tup [(.str [60,61]),(.lst [.str [76,69,83,83], .str [84,72,65,78], .str [79,82], .str [69,81,85,65,76]])], .tup [(.str [60,61]),(.lst [.str [76,69,83,83], .str [79,82], .str [69,81,85,65,76], .str [84,79]])]]
theorem tg13:TB.gl 13=some (.tup spelL):=rfl
noncomputable def othL:List V:=[.tup [(.str [99,108,97,115,115]),(.str [78,85,77,69,82,73,67]),(.str [78,85,77,69,82,73,67])], .tup [(.str [99,108,97,115,115]),(.str [65,76,80,72,65,66,69,84,73,67]),(.str [65,76,80,72,65,66,69,84,73,67])], .tup [(.str [99,108,97,115,115]),(.str [65,76,80,72,65,66,69,84,73,67,45,76,79,87,69,82]),(.str [65,76,80,72,65,66,69,84,73,67,45,76,79,87,69,82])], .tup [(.str [99,108,97,115,115]),(.str [65,76,80,72,65,66,69,84,73,67,45,85,80,80,69,82]),(.str [65,76,80,72,65,66,69,84,73,67,45,85,80,80,69,82])], .tup [(.str [115,105,103,110]),(.str [80,79,83,73,84,73,86,69]),(.str [80,79,83,73,84,73,86,69])], .tup [(.str [115,105,103,110]),(.str [78,69,71,65,84,73,86,69]),(.str [78,69,71,65,84,73,86,69])], .tup [(.str [115,105,103,110]),(.str [90,69,82,79]),(.str [90,69,82,79])], .tup [(.str [115,105,103,110]),(.str [90,69,82,79]),(.str [90,69,82,79,83])], .tup [(.str [115,105,103,110]),(.str [90,69,82,79]),(.str [90,69,82,79,69,83])]]
theorem tg14:TB.gl 14=some (.tup othL):=rfl
theorem tg16:TB.gl 16=some (.base 16):=rfl
theorem tg19:TB.gl 19=some (.base 19):=rfl
theorem tg21:TB.gl 21=some (.base 21):=rfl
theorem tg22:TB.gl 22=some (.base 22):=rfl
theorem tg23:TB.gl 23=some (.base 23):=rfl
theorem tg24:TB.gl 24=some (.base 24):=rfl
theorem tg25:TB.gl 25=some (.base 25):=rfl
theorem tg26:TB.gl 26=some (.base 26):=rfl
theorem tg27:TB.gl 27=some (.base 27):=rfl
theorem tg29:TB.gl 29=some (.base 29):=rfl
theorem tg30:TB.gl 30=some (.base 30):=rfl
theorem tg32:TB.gl 32=some (.base 32):=rfl
theorem tg33:TB.gl 33=some (.base 33):=rfl
theorem tg34:TB.gl 34=some (.base 34):=rfl
theorem tg35:TB.gl 35=some (.base 35):=rfl
theorem tg36:TB.gl 36=some (.base 36):=rfl
theorem tg37:TB.gl 37=some (.base 37):=rfl
theorem tg38:TB.gl 38=some (.base 38):=rfl
theorem tg39:TB.gl 39=some (.base 39):=rfl
theorem tg40:TB.gl 40=some (.base 40):=rfl
theorem tg41:TB.gl 41=some (.base 41):=rfl
theorem tg42:TB.gl 42=some (.base 42):=rfl
theorem tg43:TB.gl 43=some (.base 43):=rfl
theorem tg44:TB.gl 44=some (.base 44):=rfl
theorem tg45:TB.gl 45=some (.base 45):=rfl
end Mine.Pu
end
section
namespace Mine.Pu
open PySem
local macro_rules | `(tactic| wide_open with 2 using [$ts,*]) => do let f := fun s => ((String.splitOn s " ").map fun x => Lean.mkIdent (.str `Mine.Pu x)).toArray; let as := ts.getElems ++ f "xL0 xL1 xL2 xL3 xL4 xL5 xL6 xL7 xL8 xL9 xL10 xL11 xs0 tB bsF sqR sqE ss0 f0 cNR cNN cIR cI0 xNone xBool xInt xStr cresR cresN cresE bAdd bSub sm0 sm1 sm2 sm3 sm4 sm5 ssA0 ssA1 ssA2 ssA3 ssA4 ssA5 ssA6 ssA7 ssA8 ssA9 ssA10 ssA11 ssI ssR ssE ssAA ssT ssW ssFT ssF ssX fC1 fC2 fC3 fC4 wF xM37 xM38 xM39 xM7 xMeth xGlob xCallG xCallL xBcall xAttr xCmp xIte xNot xLam xNeg xAnd xOr xBin xSub xSlc xTup xLstF xLst xs1 xsC b1 bA bO bsT sqN"; let us := f "cresR cresN cresE"; let g := Lean.mkIdent `Mine.Pu.crG; `(tactic| with_reducible ((try apply $g); repeat (first $[| apply $as]* $[| (with_unfolding_all exact $us)]*)))
section
open PySem
noncomputable abbrev WT:=CS × CS
noncomputable def tokC (i:Nat) (t:WT):Cell := .inst 1 [(3, .str t.1),(4, .str t.2),(1, .tup [.int 1, .int (i + 1)]),(5, .bool false)]
noncomputable def toksC:Nat→List WT→List Cell
  | _,[]=>[]
  | i,t :: ts=>tokC i t :: toksC (i + 1) ts
noncomputable def rdC (π:List Cell) (a:Int) (nm:V):Cell := .inst 2 [(0, .ref π.length),(1, .int a),(2,nm)]
noncomputable def enc (π:List Cell) (ts:List WT) (a:Int) (nm:V) (γ:List Cell):List Cell :=
  π ++ (.list ((List.range ts.length).map fun i=>V.ref (π.length + 1 + i)) :: (toksC 0 ts ++ (rdC π a nm :: γ)))
noncomputable def rI (π:List Cell) (ts:List WT):Nat:=π.length + (ts.length + 1)
noncomputable def cI (π:List Cell) (ts:List WT) (γ:List Cell):Nat:=π.length + (ts.length + 2 + γ.length)
section
variable {π γ γ1 γ2:List Cell} {ts:List WT} {a b:Int} {nm:V} {c c':Cell} {i:Nat}
theorem toksC_len : ∀ (ts:List WT) (i:Nat),(toksC i ts).length=ts.length
  | [],_=>rfl
  | t :: ts,i=>by simp [toksC,toksC_len ts]
theorem toksC_get : ∀ (ts:List WT) (i j:Nat),(toksC i ts)[j]? = ts[j]?.map (tokC (i + j))
  | [],_,_=>rfl
  | t :: ts,i,0=>rfl
  | t :: ts, i, j + 1 => by
    rw [toksC,List.getElem?_cons_succ,toksC_get ts,List.getElem?_cons_succ,show i + 1 + j=i + (j + 1) by omega]
theorem enc_len:(enc π ts a nm γ).length=cI π ts γ:=by
  simp [enc,cI,toksC_len]; omega
theorem enc_l:(enc π ts a nm γ)[π.length]? = some (.list ((List.range ts.length).map fun i=>V.ref (π.length + 1 + i))):=by
  simp [enc]
theorem enc_t:(enc π ts a nm γ)[π.length + 1 + i]? = if i < ts.length then ts[i]?.map (tokC i) else (enc π ts a nm γ)[π.length + 1 + i]? := by
  split
  · rename_i h
    rw [enc,List.getElem?_append_right (by omega),show π.length + 1 + i - π.length=i + 1 by omega,List.getElem?_cons_succ,List.getElem?_append_left (by rw [toksC_len]; exact h),toksC_get,Nat.zero_add]
  · rfl
theorem enc_tok {t:WT} (h:ts[i]? = some t):(enc π ts a nm γ)[π.length + 1 + i]? = some (tokC i t):=by
  rw [enc_t,if_pos (List.getElem?_eq_some_iff.mp h).1,h]; rfl
theorem enc_r:(enc π ts a nm γ)[rI π ts]? = some (.inst 2 [(0, .ref π.length),(1, .int a),(2,nm)]):=by
  rw [enc,rI,List.getElem?_append_right (by omega),show π.length + (ts.length + 1) - π.length=ts.length + 1 by omega,List.getElem?_cons_succ,List.getElem?_append_right (by rw [toksC_len]; omega),toksC_len,Nat.sub_self]
  rfl
theorem enc_set_r {nm':V}:(enc π ts a nm γ).set (rI π ts) (.inst 2 [(0, .ref π.length),(1, .int b),(2,nm')])=enc π ts b nm' γ:=by
  rw [enc,rI,List.set_append_right _ _ (by omega),show π.length + (ts.length + 1) - π.length=ts.length + 1 by omega,List.set_cons_succ,List.set_append_right _ _ (by rw [toksC_len]; omega),toksC_len,Nat.sub_self]
  rfl
theorem enc_app:enc π ts a nm γ ++ [c]=enc π ts a nm (γ ++ [c]):=by simp [enc]
theorem enc_c:(enc π ts a nm (γ1 ++ c :: γ2))[cI π ts γ1]? = some c:=by
  rw [enc,cI,List.getElem?_append_right (by omega),show π.length + (ts.length + 2 + γ1.length) - π.length=(ts.length + 1 + γ1.length) + 1 by omega,List.getElem?_cons_succ,List.getElem?_append_right (by rw [toksC_len]; omega),toksC_len,
    show ts.length + 1 + γ1.length - ts.length=γ1.length + 1 by omega,List.getElem?_cons_succ,List.getElem?_append_right (Nat.le_refl _),Nat.sub_self]
  rfl
theorem enc_set_c:(enc π ts a nm (γ1 ++ c :: γ2)).set (cI π ts γ1) c'=enc π ts a nm (γ1 ++ c' :: γ2):=by
  rw [enc,cI,List.set_append_right _ _ (by omega),show π.length + (ts.length + 2 + γ1.length) - π.length=(ts.length + 1 + γ1.length) + 1 by omega,List.set_cons_succ,List.set_append_right _ _ (by rw [toksC_len]; omega),toksC_len,
    show ts.length + 1 + γ1.length - ts.length=γ1.length + 1 by omega,List.set_cons_succ,List.set_append_right _ _ (Nat.le_refl _),Nat.sub_self]
  rfl
end
noncomputable def tsOk (ts:List WT):Bool:=decide (ts.length≤900) && ts.all fun t=>isData (.str t.1) && isData (.str t.2) && decide (t.2.length≤900)
noncomputable def atW (ts:List WT) (i:Int):Option WT:=if 0≤i then ts[i.toNat]? else none
section
variable {π γ γ1 γ2:List Cell} {ts:List WT} {a b:Int} {nm:V} {c c':Cell} {i:Nat}
noncomputable def isK (ts:List WT) (i:Int) (k:CS):Bool:=match atW ts i with | some t=>decide (t.1=k) | none=>false
noncomputable abbrev sWord:CS:=[119,111,114,100]
noncomputable abbrev sSign:CS:=[115,105,103,110]
noncomputable abbrev sNumber:CS:=[110,117,109,98,101,114]
noncomputable abbrev sLiteral:CS:=[108,105,116,101,114,97,108]
noncomputable def isWd (ts:List WT) (i:Int) (w:CS):Bool:=match atW ts i with | some t=>decide (t.1=sWord) && decide (t.2=w) | none=>false
noncomputable def isSg (ts:List WT) (i:Int) (w:CS):Bool:=match atW ts i with | some t=>decide (t.1=sSign) && decide (t.2=w) | none=>false
theorem atW_lt {i:Int} {t:WT} (h:atW ts i=some t):0≤i∧i < ts.length∧ts[i.toNat]? = some t:=by
  unfold atW at h
  split at h
  · have := (List.getElem?_eq_some_iff.mp h).1
    exact ⟨by assumption,by omega,h⟩
  · cases h
theorem atW_none {i:Int} (h:atW ts i=none) (hi:0≤i) : ¬ i < ts.length:=by
  unfold atW at h
  rw [if_pos hi,List.getElem?_eq_none_iff] at h
  omega
theorem enc_tw {i:Int} {t:WT} (h:atW ts i=some t):(enc π ts a nm γ)[π.length + 1 + i.toNat]? = some (tokC i.toNat t):=enc_tok (atW_lt h).2.2
theorem tsOk_len (hs:tsOk ts=true):ts.length≤900:=by
  unfold tsOk at hs
  rw [Bool.and_eq_true] at hs
  exact of_decide_eq_true hs.1
theorem tok_data (hs:tsOk ts=true) {i:Int} {t:WT} (h:atW ts i=some t):isData (.str t.1)=true∧isData (.str t.2)=true:=by
  unfold tsOk at hs
  rw [Bool.and_eq_true] at hs
  have:=List.all_eq_true.mp hs.2 t (List.mem_of_getElem? (atW_lt h).2.2)
  rw [Bool.and_eq_true,Bool.and_eq_true] at this
  exact this.1
theorem tok_len (hs:tsOk ts=true) {i:Int} {t:WT} (h:atW ts i=some t):t.2.length≤900:=by
  unfold tsOk at hs
  rw [Bool.and_eq_true] at hs
  have:=List.all_eq_true.mp hs.2 t (List.mem_of_getElem? (atW_lt h).2.2)
  rw [Bool.and_eq_true] at this
  exact of_decide_eq_true this.2
theorem aR0:attrV (enc π ts a nm γ) 0 (.ref (rI π ts))=some (.ref π.length):=by simp only [attrV,enc_r]; rfl
theorem aR1:attrV (enc π ts a nm γ) 1 (.ref (rI π ts))=some (.int a):=by simp only [attrV,enc_r]; rfl
theorem aR2:attrV (enc π ts a nm γ) 2 (.ref (rI π ts))=some nm:=by simp only [attrV,enc_r]; rfl
theorem aT3 {i:Int} {t:WT} (h:atW ts i=some t):attrV (enc π ts a nm γ) 3 (.ref (π.length + 1 + i.toNat))=some (.str t.1):=by simp only [attrV,enc_tw h]; rfl
theorem aT4 {i:Int} {t:WT} (h:atW ts i=some t):attrV (enc π ts a nm γ) 4 (.ref (π.length + 1 + i.toNat))=some (.str t.2):=by simp only [attrV,enc_tw h]; rfl
theorem aT1 {i:Int} {t:WT} (h:atW ts i=some t):attrV (enc π ts a nm γ) 1 (.ref (π.length + 1 + i.toNat))=some (.tup [.int 1, .int (i.toNat + 1)]):=by simp only [attrV,enc_tw h]; rfl
theorem fgetN {f:Nat} {v0 v1 v2:V} (h:2 < f):fget f [(0,v0),(1,v1),(2,v2)]=none:=by
  simp only [fget]
  rw [if_neg (by omega),if_neg (by omega),if_neg (by omega)]
theorem mth_lt {C f k:Nat} (h:TB.mth C f=some k):(Nat.ble 10 f && Nat.ble f 39)=true :=
  List.all_eq_true.mp (show (mthL.all fun p=>Nat.ble 10 p.1.2 && Nat.ble p.1.2 39)=true by decide +kernel) _ (look2_mem h)
theorem mR {f k:Nat} (h:TB.mth 2 f=some k):methF TB (enc π ts a nm γ) (.ref (rI π ts)) f=some (some (.base k,true)):=by
  have h1:=mth_lt h
  rw [Bool.and_eq_true] at h1
  have h2:=Nat.le_of_ble_eq_true h1.1
  have h3:=Nat.le_of_ble_eq_true h1.2
  simp only [methF,enc_r]
  rw [fgetN (by omega),if_pos (by omega),h]
  rfl
section
variable {v6 v7 v8 v9:V}
theorem aC6:attrV (enc π ts a nm (γ1 ++ .inst 3 [(6,v6),(7,v7),(8,v8),(9,v9)] :: γ2)) 6 (.ref (cI π ts γ1))=some v6:=by simp only [attrV,enc_c]; rfl
theorem aC9:attrV (enc π ts a nm (γ1 ++ .inst 3 [(6,v6),(7,v7),(8,v8),(9,v9)] :: γ2)) 9 (.ref (cI π ts γ1))=some v9:=by simp only [attrV,enc_c]; rfl
theorem mC7:methF TB (enc π ts a nm (γ1 ++ .inst 3 [(6,v6),(7,v7),(8,v8),(9,v9)] :: γ2)) (.ref (cI π ts γ1)) 7=some (some (v7,false)):=by simp only [methF,enc_c]; rfl
theorem mC {f k:Nat} (h:TB.mth 3 f=some k):methF TB (enc π ts a nm (γ1 ++ .inst 3 [(6,v6),(7,v7),(8,v8),(9,v9)] :: γ2)) (.ref (cI π ts γ1)) f=some (some (.base k,true)):=by
  have h1:=mth_lt h
  rw [Bool.and_eq_true] at h1
  have h2:=Nat.le_of_ble_eq_true h1.1
  have h3:=Nat.le_of_ble_eq_true h1.2
  simp only [methF,enc_c,fget]
  rw [if_neg (by omega),if_neg (by omega),if_neg (by omega),if_neg (by omega),if_pos (by omega),h]
  rfl
end
theorem cE {x y:CS} (h1:isData (.str x)=true) (h2:isData (.str y)=true):cmpV .Eq (.str x) (.str y)=some (decide (x=y)):=cEd h1 h2 rfl
theorem mS7 {l:CS} {s:List Cell}:methF TB s (.str l) 37=some none:=rfl
theorem mS8 {l:CS} {s:List Cell}:methF TB s (.str l) 38=some none:=rfl
theorem d211 {x:V} {σ:List Cell} (n:Nat):callV TB (n + 1) (.base 211) [x] σ=callV TB (n + 1) (.base 211) [x, .int 0] σ:=Eq.trans rfl rfl
theorem d214 {x y:V} {σ:List Cell} (n:Nat):callV TB (n + 1) (.base 214) [x,y] σ=callV TB (n + 1) (.base 214) [x,y, .int 0] σ:=Eq.trans rfl rfl
theorem d218 {x:V} {σ:List Cell} (n:Nat):callV TB (n + 1) (.base 218) [x] σ=callV TB (n + 1) (.base 218) [x, .int 0] σ:=Eq.trans rfl rfl
theorem d220 {x y:V} {σ:List Cell} (n:Nat):callV TB (n + 1) (.base 220) [x,y] σ=callV TB (n + 1) (.base 220) [x,y, .int 0] σ:=Eq.trans rfl rfl
theorem d32 {x:V} {σ:List Cell} (n:Nat):callV TB (n + 1) (.base 32) [x] σ=callV TB (n + 1) (.base 32) [x, .int 0] σ:=Eq.trans rfl rfl

theorem items_l:items (enc π ts a nm γ) (.ref π.length)=some ((List.range ts.length).map fun i=>V.ref (π.length + 1 + i)):=by
  show (match (enc π ts a nm γ)[π.length]? with | some (.list l)=>some l | _=>none)=_
  rw [enc_l]
theorem bLen (h:ts.length≤900):bifV (enc π ts a nm γ) 0 [.ref π.length]=some (.int ts.length):=by
  show ((items (enc π ts a nm γ) (.ref π.length)).bind fun l=>if sml l.length then some (V.int l.length) else none)=_
  rw [items_l]
  show (if sml (List.length _) then some (V.int (List.length _)) else none)=_
  rw [List.length_map,List.length_range]
  exact if_pos (sml_of (by omega))
theorem sTok (hl:ts.length≤900) {j:Int} {t:WT} (h:atW ts j=some t):subV (enc π ts a nm γ) (.ref π.length) (.int j)=some (.ref (π.length + 1 + j.toNat)):=by
  obtain ⟨h1,h2,h3⟩:=atW_lt h
  refine (if_pos ⟨h1,by omega⟩).trans ?_
  show (items (enc π ts a nm γ) (.ref π.length)).bind (fun l=>l[j.toNat]?)=_
  rw [items_l]
  show (List.map _ _)[j.toNat]? = _
  rw [List.getElem?_map,List.getElem?_range (by omega)]
  rfl
theorem peekT (hs:tsOk ts=true) {k:Int} {t:WT} (h:atW ts (a + k)=some t) (n:Nat):callV TB (n + 9) (.base 211) [.ref (rI π ts), .int k] (enc π ts a nm γ)=some (.ok (.ref (π.length + 1 + (a + k).toNat)) (enc π ts a nm γ)):=by
  have hl:=tsOk_len hs
  refine (c211 _).trans ?_
  delta bd_Reader_peek
  wide_open with 2 using [aR1,aR0,bLen hl,cLtT (atW_lt h).2.1,sTok hl h]
theorem peekN (hs:tsOk ts=true) {k:Int} (ha:0≤a + k) (h:atW ts (a + k)=none) (n:Nat):callV TB (n + 9) (.base 211) [.ref (rI π ts), .int k] (enc π ts a nm γ)=some (.ok .none (enc π ts a nm γ)):=by
  have hl:=tsOk_len hs
  refine (c211 _).trans ?_
  delta bd_Reader_peek
  wide_open with 2 using [aR1,aR0,bLen hl,cLtF (atW_none h ha)]
theorem peekT0 (hs:tsOk ts=true) {t:WT} (h:atW ts a=some t) (n:Nat):callV TB (n + 9) (.base 211) [.ref (rI π ts)] (enc π ts a nm γ)=some (.ok (.ref (π.length + 1 + a.toNat)) (enc π ts a nm γ)):=by
  have:=peekT (π:=π) (nm:=nm) (γ:=γ) hs (a:=a) (k:=0) (by rw [Int.add_zero]; exact h) n
  rw [Int.add_zero] at this
  exact (d211 _).trans this
theorem peekN0 (hs:tsOk ts=true) (ha:0≤a) (h:atW ts a=none) (n:Nat):callV TB (n + 9) (.base 211) [.ref (rI π ts)] (enc π ts a nm γ)=some (.ok .none (enc π ts a nm γ)) :=
  (d211 _).trans (peekN hs (by omega) (by rw [Int.add_zero]; exact h) n)
theorem is_kind_s (hs:tsOk ts=true) (ha:0≤a) {k:Int} (hk:0≤k) {kd:CS} (hd:isData (.str kd)=true) (n:Nat):callV TB (n + 20) (.base 214) [.ref (rI π ts), .str kd, .int k] (enc π ts a nm γ) =
    some (.ok (.bool (isK ts (a + k) kd)) (enc π ts a nm γ)):=by
  refine (c214 _).trans ?_
  unfold isK
  delta bd_Reader_is_kind
  cases h:atW ts (a + k) with
  | some t=>wide_open with 2 using [mR tm2_11,peekT hs h,aT3 h,cEd (tok_data hs h).1 hd rfl]
  | none=>wide_open with 2 using [mR tm2_11,peekN hs (by omega) h]
theorem kind0 (hs:tsOk ts=true) (ha:0≤a) {kd:CS} (hd:isData (.str kd)=true) {b:Bool} (h:isK ts a kd=b) (n:Nat):callV TB (n + 20) (.base 214) [.ref (rI π ts), .str kd] (enc π ts a nm γ)=some (.ok (.bool b) (enc π ts a nm γ)):=by
  have:=is_kind_s (π:=π) (nm:=nm) (γ:=γ) hs ha (Int.le_refl 0) hd n
  rw [Int.add_zero,h] at this
  exact (d214 _).trans this
noncomputable def one (w:CS):Prop:=(Txt.split ⟨w.toArray⟩ ⟨#[32]⟩).map (fun x=>V.str x.cps.toList)=[V.str w]∧w.length≤900∧isData (.str w)=true
theorem mSp {l:CS} {r:List V} {s:Sg} (h:l.length≤900) (e:(Txt.split ⟨l.toArray⟩ ⟨#[32]⟩).map (fun x=>V.str x.cps.toList)=r):methV (.str l) 37 [.str [32]] s=some (.ok (.lst r) s):=by
  subst e; exact if_pos (sml_of (by omega))
theorem mOne {w:CS} (hw:one w) {s:Sg}:methV (.str w) 37 [.str [32]] s=some (.ok (.lst [.str w]) s):=mSp hw.2.1 hw.1
theorem bLen1 {s:Sg} {v:V}:bifV s 0 [.lst [v]]=some (.int 1):=rfl
theorem isK_of {j:Int} {t:WT} (h:atW ts j=some t) {k:CS} (e:t.1=k):isK ts j k=true:=by unfold isK; rw [h]; exact decide_eq_true e
theorem isK_no {j:Int} {t:WT} (h:atW ts j=some t) {k:CS} (e : ¬ t.1=k):isK ts j k=false:=by unfold isK; rw [h]; exact decide_eq_false e
theorem isK_none {j:Int} (h:atW ts j=none) {k:CS}:isK ts j k=false:=by unfold isK; rw [h]
theorem kindK (hs:tsOk ts=true) (ha:0≤a) {k:Int} (hk:0≤k) {kd:CS} (hd:isData (.str kd)=true) {b:Bool} (h:isK ts (a + k) kd=b) (n:Nat):callV TB (n + 20) (.base 214) [.ref (rI π ts), .str kd, .int k] (enc π ts a nm γ)=some (.ok (.bool b) (enc π ts a nm γ)):=h ▸ is_kind_s hs ha hk hd n
theorem dW:isData (.str sWord)=true:=by decide
theorem dS:isData (.str sSign)=true:=by decide
theorem is_word_s (hs : tsOk ts = true) (ha : 0 ≤ a) {w : CS} (hw : one w) (n : Nat) : callV TB (n + 34) (.base 215) [.ref (rI π ts), .str w] (enc π ts a nm γ) =
    some (.ok (.bool (isWd ts a w)) (enc π ts a nm γ)):=by
  obtain ⟨w1,w2,w3⟩:=hw
  refine (c215 _).trans ?_
  unfold isWd
  delta bd_Reader_is_word
  have hk:=fun b h n=>kindK (π:=π) (nm:=nm) (γ:=γ) hs ha (Int.le_refl 0) dW (b:=b) h n
  rw [Int.add_zero] at hk
  cases h:atW ts a with
  | none=>wide_open with 2 using [mR tm2_14,mS7,mSp w2 w1,hk _ (isK_none h)]
  | some t =>
    have hp:=fun n=>peekT (π:=π) (nm:=nm) (γ:=γ) (a:=a) (k:=0) hs (by rw [Int.add_zero]; exact h) n
    rw [Int.add_zero] at hp
    by_cases e1:t.1=sWord
    · show _ = some (R.ok (V.bool (decide (t.1 = sWord) && decide (t.2 = w))) _)
      rw [dT e1]
      by_cases e2:t.2=w
      · rw [dT e2]
        show _=some (R.ok (V.bool true) _)
        wide_open with 2 using [mR tm2_14,mR tm2_11,mS7,mSp w2 w1,hk _ (isK_of h e1),hp,aT4 h,cNT (tok_data hs h).2 w3 e2]
      · rw [dF e2]
        show _=some (R.ok (V.bool false) _)
        wide_open with 2 using [mR tm2_14,mR tm2_11,mS7,mSp w2 w1,hk _ (isK_of h e1),hp,aT4 h,cNF (tok_data hs h).2 w3 e2]
    · show _ = some (R.ok (V.bool (decide (t.1 = sWord) && decide (t.2 = w))) _)
      rw [dF e1]
      show _=some (R.ok (V.bool false) _)
      wide_open with 2 using [mR tm2_14,mS7,mSp w2 w1,hk _ (isK_no h e1)]
theorem setR1:setA (enc π ts a nm γ) (.ref (rI π ts)) 1 (.int b)=some (enc π ts b nm γ):=by
  unfold setA
  dsimp only
  rw [enc_r]
  exact (if_pos ⟨by decide,by decide,Nat.le_of_ble_eq_true rfl⟩).trans (congrArg some enc_set_r)
theorem is_wordB (hs:tsOk ts=true) (ha:0≤a) {w:CS} (hw:one w) {q:Bool} (h:isWd ts a w=q) (n:Nat):callV TB (n + 34) (.base 215) [.ref (rI π ts), .str w] (enc π ts a nm γ)=some (.ok (.bool q) (enc π ts a nm γ)):=h ▸ is_word_s hs ha hw n
theorem skipT (hs:tsOk ts=true) (ha:0≤a) {w:CS} (hw:one w) (h:isWd ts a w=true) (n:Nat):callV TB (n + 44) (.base 216) [.ref (rI π ts), .str w] (enc π ts a nm γ)=some (.ok (.bool true) (enc π ts (a + 1) nm γ)):=by
  refine (c216 _).trans ?_
  delta bd_Reader_skip
  wide_open with 2 using [mR tm2_15,is_wordB hs ha hw h,aR1,mS7,mOne hw,bLen1,setR1]
theorem skipF (hs:tsOk ts=true) (ha:0≤a) {w:CS} (hw:one w) (h:isWd ts a w=false) (n:Nat):callV TB (n + 44) (.base 216) [.ref (rI π ts), .str w] (enc π ts a nm γ)=some (.ok (.bool false) (enc π ts a nm γ)):=by
  refine (c216 _).trans ?_
  delta bd_Reader_skip
  wide_open with 2 using [mR tm2_15,is_wordB hs ha hw h]
theorem skip_s (hs:tsOk ts=true) (ha:0≤a) {w:CS} (hw:one w) (n:Nat):callV TB (n + 44) (.base 216) [.ref (rI π ts), .str w] (enc π ts a nm γ) =
    some (.ok (.bool (isWd ts a w)) (enc π ts (if isWd ts a w then a + 1 else a) nm γ)):=by
  cases h:isWd ts a w with
  | true=>exact skipT hs ha hw h n
  | false=>exact skipF hs ha hw h n
theorem is_sign_s (hs:tsOk ts=true) (ha:0≤a) {k:Int} (hk:0≤k) {w:CS} (hd:isData (.str w)=true) (n:Nat):callV TB (n + 30) (.base 220) [.ref (rI π ts), .str w, .int k] (enc π ts a nm γ) =
    some (.ok (.bool (isSg ts (a + k) w)) (enc π ts a nm γ)):=by
  refine (c220 _).trans ?_
  unfold isSg
  delta bd_Reader_is_sign
  cases h:atW ts (a + k) with
  | some t =>
    by_cases e1:t.1=sSign
    · show _ = some (R.ok (V.bool (decide (t.1 = sSign) && decide (t.2 = w))) _)
      rw [dT e1,Bool.true_and]
      wide_open with 2 using [mR tm2_14,mR tm2_11,kindK hs ha hk dS (isK_of h e1),peekT hs h,aT4 h,cEd (tok_data hs h).2 hd rfl]
    · show _ = some (R.ok (V.bool (decide (t.1 = sSign) && decide (t.2 = w))) _)
      rw [dF e1]
      show _=some (R.ok (V.bool false) _)
      wide_open with 2 using [mR tm2_14,kindK hs ha hk dS (isK_no h e1)]
  | none=>wide_open with 2 using [mR tm2_14,kindK hs ha hk dS (isK_none h)]
theorem signB (hs:tsOk ts=true) (ha:0≤a) {w:CS} (hd:isData (.str w)=true) {q:Bool} (h:isSg ts a w=q) (n:Nat):callV TB (n + 30) (.base 220) [.ref (rI π ts), .str w] (enc π ts a nm γ)=some (.ok (.bool q) (enc π ts a nm γ)):=by
  have:=is_sign_s (π:=π) (nm:=nm) (γ:=γ) hs ha (Int.le_refl 0) hd n
  rw [Int.add_zero,h] at this
  exact (d220 _).trans this
theorem skipgF (hs:tsOk ts=true) (ha:0≤a) {w:CS} (hd:isData (.str w)=true) (h:isSg ts a w=false) (n:Nat):callV TB (n + 40) (.base 221) [.ref (rI π ts), .str w] (enc π ts a nm γ)=some (.ok (.bool false) (enc π ts a nm γ)):=by
  refine (c221 _).trans ?_
  delta bd_Reader_skip_sign
  wide_open with 2 using [mR tm2_20,signB hs ha hd h]
noncomputable def ftP (ts:List WT) (a:Int):Int:=min a (ts.length - 1) + 1
noncomputable def newC (what:CS) (p:Int):Cell := .new 0 [(10, .str what),(1, .tup [.int 1, .int p])]
noncomputable def excC (what:CS) (p:Int):Cell := .exc 0 [(10, .str what),(1, .tup [.int 1, .int p])]
theorem enc_new:(enc π ts a nm (γ ++ [c]))[cI π ts γ]? = some c:=enc_c
theorem enc_set_new:(enc π ts a nm (γ ++ [c])).set (cI π ts γ) c'=enc π ts a nm (γ ++ [c']):=enc_set_c
theorem eSN {c:Cell}:enc π ts a nm γ ++ [c]=enc π ts a nm (γ ++ [c]):=enc_app
theorem newS {w p:V} {n:Nat}:callV TB (n + 5) (.base 0) [w,p] (enc π ts a nm γ)=some (.ok (.ref (cI π ts γ)) (enc π ts a nm (γ ++ [.new 0 [(10,w),(1,p)]]))):=by
  rw [← enc_app, ← enc_len (π:=π) (ts:=ts) (a:=a) (nm:=nm) (γ:=γ)]
  exact Eq.trans rfl rfl
theorem bMin {s:Sg} {x y:Int}:bifV s 3 [.int x, .int y]=some (.int (min x y)):=rfl
theorem tLst (h0:ts ≠ []) (h:ts.length≤900):truthy (enc π ts a nm γ) (.ref π.length)=some true:=by
  show (match (enc π ts a nm γ)[π.length]? with | some (.list l)=>if sml l.length then some (!l.isEmpty) else none | _=>none)=_
  rw [enc_l]
  show (if sml ((List.range ts.length).map fun i=>V.ref (π.length + 1 + i)).length then some (!((List.range ts.length).map fun i=>V.ref (π.length + 1 + i)).isEmpty) else none)=_
  rw [List.length_map,List.length_range,if_pos (sml_of (by omega))]
  cases ts with
  | nil=>exact absurd rfl h0
  | cons t r=>rw [List.length_cons,List.range_succ_eq_map]; rfl
theorem at_fault (hne:ts ≠ []) (ha:0≤a) : ∃ t,atW ts (min a (ts.length - 1))=some t∧((min a (ts.length - 1:Int)).toNat:Int)=min a (ts.length - 1):=by
  have hpos:0 < ts.length:=List.length_pos_iff.mpr hne
  have i4:(min a (ts.length - 1:Int)).toNat < ts.length:=by omega
  exact ⟨_,(if_pos (by omega)).trans (List.getElem?_eq_getElem i4),by omega⟩
theorem fault_s (hs:tsOk ts=true) (hne:ts ≠ []) (ha:0≤a) {what:CS} (n:Nat):callV TB (n + 24) (.base 212) [.ref (rI π ts), .str what] (enc π ts a nm γ) =
    some (.ok (.ref (cI π ts γ)) (enc π ts a nm (γ ++ [newC what (ftP ts a)]))):=by
  have hl:=tsOk_len hs
  obtain ⟨t,hat,hc⟩:=at_fault hne ha
  have h1:=aT1 (π:=π) (a:=a) (nm:=nm) (γ:=γ) hat
  rw [hc] at h1
  refine (c212 _).trans ?_
  delta bd_Reader_fault
  show _=some (R.ok (V.ref (cI π ts γ)) (enc π ts a nm (γ ++ [.new 0 [(10, .str what),(1, .tup [.int 1, .int (min a (ts.length - 1) + 1)])]])))
  wide_open with 2 using [aR0,aR1,tLst hne hl,bLen hl,bMin,sTok hl hat,h1,tg0,newS]
theorem ssXF {x:X} {p:Pos} {l:List S} {n:Nat} {fr:Fr} {s:Sg} {what:CS} {k:Int} (h:exX TB n x fr s=some (.ok (.ref (cI π ts γ)) (enc π ts a nm (γ ++ [newC what k])))):exSs TB (n + 2) (.raise x p :: l) fr s=some (.ex (cI π ts γ) fr (enc π ts a nm (γ ++ [excC what k]))) :=
  ssX h (enc_new (c:=newC what k)) (enc_set_new (c:=newC what k) (c':=excC what k))
end
end
section
open PySem

section
variable {π γ γ1 γ2:List Cell} {ts:List WT} {a b:Int} {nm:V} {c c':Cell} {i:Nat}
noncomputable abbrev mName:CS:=[97,32,110,97,109,101,32,105,115,32,97,115,107,101,100,32,104,101,114,101]
theorem takeT (hs:tsOk ts=true) {t:WT} (h:atW ts a=some t) (n:Nat):callV TB (n + 30) (.base 213) [.ref (rI π ts)] (enc π ts a nm γ)=some (.ok (.ref (π.length + 1 + a.toNat)) (enc π ts (a + 1) nm γ)):=by
  refine (c213 _).trans ?_
  delta bd_Reader_take
  wide_open with 2 using [mR tm2_11,peekT0 hs h,aR1,setR1]
noncomputable def resv (w:CS):Bool:=isSub ([32] ++ w ++ [32]) resW
noncomputable def isNm (ts:List WT) (i:Int):Bool:=match atW ts i with | some t=>decide (t.1=sWord) && !resv t.2 | none=>false
theorem cSub {x y:CS}:cmpV .In (.str x) (.str y)=some (isSub x y):=rfl
theorem is_reserved_s {w:CS} (h:w.length≤900) {σ:List Cell} (n:Nat):callV TB (n + 12) (.base 38) [.str w] σ=some (.ok (.bool (resv w)) σ):=by
  refine (c38 _).trans ?_
  delta bd_is_reserved
  show _=some (R.ok (V.bool (isSub ([32] ++ w ++ [32]) resW)) _)
  have h1:([32]:CS).length + w.length≤1000:=by show 1 + w.length≤1000; omega
  have h2:([32] ++ w:CS).length + ([32]:CS).length≤1000:=by show w.length + 1 + 1≤1000; omega
  wide_open with 2 using [tg10,cSub,bStr (sml_of h1),bStr (sml_of h2)]
theorem nameI (hs:tsOk ts=true) (ha:0≤a) {q:Bool} (hq:isNm ts a=q) (n:Nat):callV TB (n + 30) (.base 218) [.ref (rI π ts)] (enc π ts a nm γ) =
    some (.ok (.bool q) (enc π ts a nm γ)):=by
  subst hq
  refine (d218 _).trans ((c218 _).trans ?_)
  unfold isNm
  delta bd_Reader_is_name
  have hk:=fun b h n=>kindK (π:=π) (nm:=nm) (γ:=γ) hs ha (Int.le_refl 0) dW (b:=b) h n
  rw [Int.add_zero] at hk
  cases h:atW ts a with
  | some t =>
    have hp:=fun n=>peekT (π:=π) (nm:=nm) (γ:=γ) (a:=a) (k:=0) hs (by rw [Int.add_zero]; exact h) n
    rw [Int.add_zero] at hp
    by_cases e1:t.1=sWord
    · show _ = some (R.ok (V.bool (decide (t.1 = sWord) && !resv t.2)) _)
      rw [dT e1,Bool.true_and,bn_eq]
      wide_open with 2 using [mR tm2_14,mR tm2_11,tg38,hk _ (isK_of h e1),hp,aT4 h,is_reserved_s (tok_len hs h)]
    · show _ = some (R.ok (V.bool (decide (t.1 = sWord) && !resv t.2)) _)
      rw [dF e1,Bool.false_and]
      wide_open with 2 using [mR tm2_14,hk _ (isK_no h e1)]
  | none=>wide_open with 2 using [mR tm2_14,hk _ (isK_none h)]
theorem name_ok (hs:tsOk ts=true) (ha:0≤a) {t:WT} (h:atW ts a=some t) (hn:isNm ts a=true) (n:Nat):callV TB (n + 40) (.base 219) [.ref (rI π ts)] (enc π ts a nm γ) =
    some (.ok (.str t.2) (enc π ts (a + 1) nm γ)):=by
  refine (c219 _).trans ?_
  delta bd_Reader_name
  wide_open with 2 using [mR tm2_18,mR tm2_13,nameI hs ha hn,takeT hs h,aT4 h]
theorem name_ex (hs:tsOk ts=true) (hne:ts ≠ []) (ha:0≤a) (hn:isNm ts a=false) (n:Nat):callV TB (n + 40) (.base 219) [.ref (rI π ts)] (enc π ts a nm γ) =
    some (.ex (cI π ts γ) (enc π ts a nm (γ ++ [excC mName (ftP ts a)]))):=by
  refine (c219 _).trans ?_
  delta bd_Reader_name
  wide_open with 2 using [mR tm2_18,mR tm2_12,nameI hs ha hn,fault_s hs hne ha,ssXF]
theorem numI (hs:tsOk ts=true) (ha:0≤a) (h1:isSg ts a [43]=false) (h2:isSg ts a [45]=false) {q:Bool} (hq:isK ts a sNumber=q) (n:Nat):callV TB (n + 44) (.base 223) [.ref (rI π ts)] (enc π ts a nm γ) =
    some (.ok (.bool q) (enc π ts a nm γ)):=by
  have d1:isData (.str [43])=true:=by decide
  have d2:isData (.str [45])=true:=by decide
  have d3:isData (.str sNumber)=true:=by decide
  refine (c223 _).trans ?_
  delta bd_Reader_is_number
  wide_open with 2 using [mR tm2_20,mR tm2_14,signB hs ha d1 h1,signB hs ha d2 h2,kind0 hs ha d3 hq]
theorem one_of_no (hs:tsOk ts=true) (ha:0≤a) (h1:isWd ts a [79,70]=false) (h2:isWd ts a [73,78]=false) (n:Nat):callV TB (n + 60) (.base 217) [.ref (rI π ts), .str [79,70,32,73,78]] (enc π ts a nm γ) =
    some (.ok (.str []) (enc π ts a nm γ)):=by
  have o1:one [79,70]:=⟨by kernel_rfl,by decide,by decide⟩
  have o2:one [73,78]:=⟨by kernel_rfl,by decide,by decide⟩
  have sp:(Txt.split ⟨([79,70,32,73,78]:CS).toArray⟩ ⟨#[32]⟩).map (fun x=>V.str x.cps.toList)=[.str [79,70], .str [73,78]]:=by kernel_rfl
  have sl:([79,70,32,73,78]:CS).length≤900:=by decide
  refine (c217 _).trans ?_
  delta bd_Reader_one_of
  wide_open with 2 using [mR tm2_16,mS7,mSp sl sp,skipF hs ha o1 h1,skipF hs ha o2 h2]
noncomputable def sLs (l:List CS):List V:=l.map .str
theorem sLs_of (l:List CS):strsV (sLs l)=some l:=by
  induction l with
  | nil=>rfl
  | cons x l ih=>simp [sLs,strsV] at ih ⊢; rw [ih]
noncomputable def sgA (ts:List WT) (i:Int) (l:List CS):CS:=match atW ts i with | some t=>if t.1=sSign∧t.2 ∈ l then t.2 else [] | none=>[]
theorem sgaT {j:Int} {t:WT} (h:atW ts j=some t) (l:List CS) (e:t.1=sSign) (e2:t.2 ∈ l):sgA ts j l=t.2:=by unfold sgA; rw [h]; exact if_pos ⟨e,e2⟩
theorem sgaF {j:Int} {t:WT} (h:atW ts j=some t) (l:List CS) (e : ¬ (t.1=sSign∧t.2 ∈ l)):sgA ts j l=[]:=by unfold sgA; rw [h]; exact if_neg e
theorem sign_among_s (hs : tsOk ts = true) (ha : 0 ≤ a) {l : List CS} (n : Nat) : callV TB (n + 24) (.base 24) [.ref (rI π ts), .tup (sLs l)] (enc π ts a nm γ) =
    some (.ok (.str (sgA ts a l)) (enc π ts a nm γ)):=by
  refine (c24 _).trans ?_
  delta bd_sign_among
  cases h:atW ts a with
  | some t =>
    by_cases e1:t.1=sSign
    · by_cases e2 : t.2 ∈ l
      · rw [sgaT h l e1 e2]
        wide_open with 2 using [mR tm2_11,peekT0 hs h,aT3 h,aT4 h,cNT (tok_data hs h).1 dS e1,cTnT (sLs_of l) e2]
      · rw [sgaF h l (fun q => e2 q.2)]
        wide_open with 2 using [mR tm2_11,peekT0 hs h,aT3 h,aT4 h,cNT (tok_data hs h).1 dS e1,cTnF (sLs_of l) e2]
    · rw [sgaF h l (fun q => e1 q.1)]
      wide_open with 2 using [mR tm2_11,peekT0 hs h,aT3 h,cNF (tok_data hs h).1 dS e1]
  | none =>
    rw [show sgA ts a l=[] by unfold sgA; rw [h]]
    wide_open with 2 using [mR tm2_11,peekN0 hs ha h]
end
end
section
open PySem

section
variable {π γ γ1 γ2:List Cell} {ts:List WT} {a b:Int} {nm:V} {c c':Cell} {i:Nat}
theorem pT2a {x y z:Option V} {r:Fr} {p q:Pos} {v w:V}:putT (x :: y :: z :: r) [(1,p),(2,q)] [v,w]=some (x :: some v :: some w :: r):=rfl
theorem bTup0:bifV (enc π ts a nm (γ ++ [.list []])) 5 [.ref (cI π ts γ)]=some (.tup []):=by
  show (Option.bind (match (enc π ts a nm (γ ++ [Cell.list []]))[cI π ts γ]? with | some (.list l)=>some l | _=>none:Option (List V)) fun l=>if sml l.length then some (V.tup l) else none)=_
  rw [enc_new]
  rfl
theorem oAll:one [65,76,76]:=⟨by kernel_rfl,by decide,by decide⟩
noncomputable def isFig (ts:List WT) (i:Int):Bool:=match atW ts i with | some t=>decide (t.1=sWord) && figDK.contains t.2 | none=>false
noncomputable abbrev refV (w:CS):V := .tup [.str [114,101,102], .str w, .tup [], .tup [], .none]
theorem read_figure_no (hs:tsOk ts=true) (ha:0≤a) (h:isFig ts a=false) (n:Nat):callV TB (n + 40) (.base 21) [.ref (rI π ts)] (enc π ts a nm γ) =
    some (.ok .none (enc π ts a nm γ)):=by
  refine (c21 _).trans ?_
  delta bd_read_figure
  cases h0:atW ts a with
  | some t =>
    by_cases e1:t.1=sWord
    · have e3 : ¬ t.2 ∈ figDK := by simpa [isFig, h0, e1] using h
      wide_open with 2 using [mR tm2_14,mR tm2_11,tg4,kind0 hs ha dW (isK_of h0 e1),peekT0 hs h0,aT4 h0,cDnF e3]
    · wide_open with 2 using [mR tm2_14,kind0 hs ha dW (isK_no h0 e1)]
  | none=>wide_open with 2 using [mR tm2_14,kind0 hs ha dW (isK_none h0)]
theorem e00:cmpV .Eq (.int 0) (.int 0)=some true:=by decide
theorem g00:cmpV .Gt (.int 0) (.int 0)=some false:=by decide
theorem is_part_next_no (hs:tsOk ts=true) (ha:0≤a) (h:isSg ts a [40]=false) (n:Nat):callV TB (n + 44) (.base 16) [.ref (rI π ts)] (enc π ts a nm γ) =
    some (.ok (.bool false) (enc π ts a nm γ)):=by
  have d1:isData (.str [40])=true:=by decide
  refine (c16 _).trans ?_
  delta bd_is_part_next
  wide_open with 2 using [e00,g00,mR tm2_20,signB hs ha d1 h,pT2a]
noncomputable def plainF (ts:List WT) (i:Int):Bool:=decide (sgA ts i [[43],[45]]=[]) && decide (sgA ts i [[42],[47]]=[]) && decide (sgA ts i [[42,42]]=[]) && !isWd ts i [79,70] && !isWd ts i [73,78] && !isSg ts i [40]
theorem read_ref_ok (hs:tsOk ts=true) (ha:0≤a) {t:WT} (h:atW ts a=some t) (hn:isNm ts a=true) (h1:isWd ts (a + 1) [79,70]=false) (h2:isWd ts (a + 1) [73,78]=false) (h3:isSg ts (a + 1) [40]=false) {f:V} (n:Nat) :
    callV TB (n + 75) (.base 19) [.ref (rI π ts),f] (enc π ts a nm γ)=some (.ok (refV t.2) (enc π ts (a + 1) nm (γ ++ [.list []]))):=by
  have ha1:0≤a + 1:=by omega
  have d1:isData (.str [40])=true:=by decide
  have d2:isData (.str [])=true:=by decide
  refine (c19 _).trans ?_
  delta bd_read_ref
  wide_open with 2 using [mR tm2_19,mR tm2_17,mR tm2_20,tg16,name_ok hs ha h hn,one_of_no hs ha1 h1 h2,signB hs ha1 d1 h3,is_part_next_no hs ha1 h3,cNT d2 d2 rfl,enc_len,eSN,bTup0]
theorem read_ref_ex (hs:tsOk ts=true) (hne:ts ≠ []) (ha:0≤a) (hn:isNm ts a=false) {f:V} (n:Nat) :
    callV TB (n + 75) (.base 19) [.ref (rI π ts),f] (enc π ts a nm γ)=some (.ex (cI π ts γ) (enc π ts a nm (γ ++ [excC mName (ftP ts a)]))):=by
  refine (c19 _).trans ?_
  delta bd_read_ref
  wide_open with 2 using [ssAE,mR tm2_19,name_ex hs hne ha hn]
noncomputable def noLit (ts:List WT) (i:Int):Bool := !isSg ts i [43] && !isSg ts i [45] && !isK ts i sNumber && !isK ts i sLiteral && !isWd ts i [65,76,76] && !isFig ts i
theorem noLit_all (h:noLit ts a=true):isSg ts a [43]=false∧isSg ts a [45]=false∧isK ts a sNumber=false∧isK ts a sLiteral=false∧isWd ts a [65,76,76]=false∧isFig ts a=false:=by
  simp only [noLit,Bool.and_eq_true,Bool.not_eq_true'] at h
  obtain ⟨⟨⟨⟨⟨h1,h2⟩,h3⟩,h4⟩,h5⟩,h6⟩:=h
  exact ⟨h1,h2,h3,h4,h5,h6⟩
theorem dL:isData (.str sLiteral)=true:=by decide
theorem operand_ok (hs:tsOk ts=true) (ha:0≤a) (hl:noLit ts a=true) {t:WT} (h:atW ts a=some t) (hn:isNm ts a=true) (h1:isWd ts (a + 1) [79,70]=false) (h2:isWd ts (a + 1) [73,78]=false) (h3:isSg ts (a + 1) [40]=false) {f:V} (n:Nat) :
    callV TB (n + 90) (.base 22) [.ref (rI π ts),f] (enc π ts a nm γ)=some (.ok (refV t.2) (enc π ts (a + 1) nm (γ ++ [.list []]))):=by
  obtain ⟨l1,l2,l3,l4,l5,l6⟩:=noLit_all hl
  refine (c22 _).trans ?_
  delta bd_read_operand
  wide_open with 2 using [mR tm2_23,mR tm2_14,mR tm2_16,tg21,tg19,numI hs ha l1 l2 l3,kind0 hs ha dL l4,skipF hs ha oAll l5,read_figure_no hs ha l6,read_ref_ok hs ha h hn h1 h2 h3]
theorem operand_ex (hs:tsOk ts=true) (hne:ts ≠ []) (ha:0≤a) (hl:noLit ts a=true) (hn:isNm ts a=false) {f:V} (n:Nat) :
    callV TB (n + 90) (.base 22) [.ref (rI π ts),f] (enc π ts a nm γ)=some (.ex (cI π ts γ) (enc π ts a nm (γ ++ [excC mName (ftP ts a)]))):=by
  obtain ⟨l1,l2,l3,l4,l5,l6⟩:=noLit_all hl
  refine (c22 _).trans ?_
  delta bd_read_operand
  wide_open with 2 using [mR tm2_23,mR tm2_14,mR tm2_16,tg21,tg19,numI hs ha l1 l2 l3,kind0 hs ha dL l4,skipF hs ha oAll l5,read_figure_no hs ha l6,read_ref_ex hs hne ha hn]
theorem amongE (hs:tsOk ts=true) (ha:0≤a) {l:List CS} {r:CS} (h:sgA ts a l=r) (n:Nat):callV TB (n + 24) (.base 24) [.ref (rI π ts), .tup (sLs l)] (enc π ts a nm γ)=some (.ok (.str r) (enc π ts a nm γ)):=h ▸ sign_among_s hs ha n
theorem among1 (hs:tsOk ts=true) (ha:0≤a) (h:sgA ts a [[43],[45]]=[]) (n:Nat):callV TB (n + 24) (.base 24) [.ref (rI π ts), .tup [.str [43], .str [45]]] (enc π ts a nm γ)=some (.ok (.str []) (enc π ts a nm γ)):=amongE hs ha h n
theorem among2 (hs:tsOk ts=true) (ha:0≤a) (h:sgA ts a [[42],[47]]=[]) (n:Nat):callV TB (n + 24) (.base 24) [.ref (rI π ts), .tup [.str [42], .str [47]]] (enc π ts a nm γ)=some (.ok (.str []) (enc π ts a nm γ)):=amongE hs ha h n
theorem among3 (hs:tsOk ts=true) (ha:0≤a) (h:sgA ts a [[42,42]]=[]) (n:Nat):callV TB (n + 24) (.base 24) [.ref (rI π ts), .tup [.str [42,42]]] (enc π ts a nm γ)=some (.ok (.str []) (enc π ts a nm γ)):=amongE hs ha h n
theorem cNil:cmpV .NotEq (.str []) (.str [])=some false:=by decide
theorem cNil':cmpV .Eq (.str []) (.str [])=some true:=by decide
theorem cap0 {x y:V} {r:Fr}:caps (some x :: some y :: r) (TB.lamc 0)=some [y]:=rfl
theorem primary_op (hs:tsOk ts=true) (ha:0≤a) (h0:sgA ts a [[43],[45]]=[]) (h1:isSg ts a [40]=false) {d:V} {r:R V} (hr : ∀ n,callV TB (n + 90) (.base 22) [.ref (rI π ts), .clo 0 [d]] (enc π ts a nm γ)=some r) (n:Nat) :
    callV TB (n + 105) (.base 30) [.ref (rI π ts),d] (enc π ts a nm γ)=some r:=by
  have d1:isData (.str [40])=true:=by decide
  refine (c30 _).trans ?_
  delta bd_read_primary
  wide_open with 2 using [mR tm2_21,tg24,tg22,cap0,among1 hs ha h0,cNil,skipgF hs ha d1 h1,hr]
theorem power_ok (hs:tsOk ts=true) {d v:V} {a':Int} {γ':List Cell} (ha':0≤a') (hr : ∀ n,callV TB (n + 105) (.base 30) [.ref (rI π ts),d] (enc π ts a nm γ)=some (.ok v (enc π ts a' nm γ'))) (h:sgA ts a' [[42,42]]=[]) (n:Nat) :
    callV TB (n + 115) (.base 29) [.ref (rI π ts),d] (enc π ts a nm γ)=some (.ok v (enc π ts a' nm γ')):=by
  refine (c29 _).trans ?_
  delta bd_read_power
  wide_open with 2 using [tg30,tg24,hr,among3 hs ha' h,cNil]
theorem power_ex {d:V} {j:Nat} {σ:List Cell} (hr : ∀ n,callV TB (n + 105) (.base 30) [.ref (rI π ts),d] (enc π ts a nm γ)=some (.ex j σ)) (n:Nat) :
    callV TB (n + 115) (.base 29) [.ref (rI π ts),d] (enc π ts a nm γ)=some (.ex j σ):=by
  refine (c29 _).trans ?_
  delta bd_read_power
  wide_open with 2 using [ssAE,tg30,hr]
theorem factor_s (hs:tsOk ts=true) (ha:0≤a) (h0:sgA ts a [[43],[45]]=[]) {d:V} {r:R V} (hr : ∀ n,callV TB (n + 115) (.base 29) [.ref (rI π ts),d] (enc π ts a nm γ)=some r) (n:Nat) :
    callV TB (n + 125) (.base 27) [.ref (rI π ts),d] (enc π ts a nm γ)=some r:=by
  refine (c27 _).trans ?_
  delta bd_read_factor
  wide_open with 2 using [tg29,tg24,among1 hs ha h0,cNil',hr]
theorem product_ok (hs:tsOk ts=true) {d v:V} {a':Int} {γ':List Cell} (ha':0≤a') (hr : ∀ n,callV TB (n + 125) (.base 27) [.ref (rI π ts),d] (enc π ts a nm γ)=some (.ok v (enc π ts a' nm γ'))) (h:sgA ts a' [[42],[47]]=[]) (n:Nat) :
    callV TB (n + 135) (.base 26) [.ref (rI π ts),d] (enc π ts a nm γ)=some (.ok v (enc π ts a' nm γ')):=by
  refine (c26 _).trans ?_
  delta bd_read_product
  wide_open with 2 using [tg27,tg24,hr,among2 hs ha' h,cNil]
theorem product_ex {d:V} {j:Nat} {σ:List Cell} (hr : ∀ n,callV TB (n + 125) (.base 27) [.ref (rI π ts),d] (enc π ts a nm γ)=some (.ex j σ)) (n:Nat) :
    callV TB (n + 135) (.base 26) [.ref (rI π ts),d] (enc π ts a nm γ)=some (.ex j σ):=by
  refine (c26 _).trans ?_
  delta bd_read_product
  wide_open with 2 using [ssAE,tg27,hr]
theorem sum_ok (hs:tsOk ts=true) {d:Int} (hd:d≤20) {v:V} {a':Int} {γ':List Cell} (ha':0≤a') (hr : ∀ n,callV TB (n + 135) (.base 26) [.ref (rI π ts), .int d] (enc π ts a nm γ)=some (.ok v (enc π ts a' nm γ'))) (h:sgA ts a' [[43],[45]]=[]) (n:Nat) :
    callV TB (n + 150) (.base 25) [.ref (rI π ts), .int d] (enc π ts a nm γ)=some (.ok v (enc π ts a' nm γ')):=by
  have hd' : ¬ 20 < d:=by omega
  refine (c25 _).trans ?_
  delta bd_read_sum
  wide_open with 2 using [tg11,tg26,tg24,cGtF hd',hr,among1 hs ha' h,cNil]
theorem sum_ex {d:Int} (hd:d≤20) {j:Nat} {σ:List Cell} (hr : ∀ n,callV TB (n + 135) (.base 26) [.ref (rI π ts), .int d] (enc π ts a nm γ)=some (.ex j σ)) (n:Nat) :
    callV TB (n + 150) (.base 25) [.ref (rI π ts), .int d] (enc π ts a nm γ)=some (.ex j σ):=by
  have hd' : ¬ 20 < d:=by omega
  refine (c25 _).trans ?_
  delta bd_read_sum
  wide_open with 2 using [ssAE,tg11,tg26,cGtF hd',hr]
theorem expr_s {r:R V} (hr : ∀ n,callV TB (n + 150) (.base 25) [.ref (rI π ts), .int 0] (enc π ts a nm γ)=some r) (n:Nat) :
    callV TB (n + 155) (.base 23) [.ref (rI π ts)] (enc π ts a nm γ)=some r:=by
  refine (c23 _).trans ?_
  delta bd_read_expression
  wide_open with 2 using [tg25,hr]
theorem chain_ok (hs:tsOk ts=true) (ha:0≤a) (h0:sgA ts a [[43],[45]]=[]) {d:Int} (hd:d≤20) {v:V} {a':Int} {γ':List Cell} (ha':0≤a') (hf:plainF ts a'=true) (hr : ∀ n,callV TB (n + 105) (.base 30) [.ref (rI π ts), .int d] (enc π ts a nm γ)=some (.ok v (enc π ts a' nm γ'))) (n:Nat) :
    callV TB (n + 150) (.base 25) [.ref (rI π ts), .int d] (enc π ts a nm γ)=some (.ok v (enc π ts a' nm γ')):=by
  simp only [plainF,Bool.and_eq_true,decide_eq_true_eq,Bool.not_eq_true'] at hf
  obtain ⟨⟨⟨⟨⟨f1,f2⟩,f3⟩,f4⟩,f5⟩,f6⟩:=hf
  exact sum_ok hs hd ha' (product_ok hs ha' (factor_s hs ha h0 (power_ok hs ha' hr f3)) f2) f1 n
theorem chain_ex (hs:tsOk ts=true) (ha:0≤a) (h0:sgA ts a [[43],[45]]=[]) {d:Int} (hd:d≤20) {j:Nat} {σ:List Cell} (hr : ∀ n,callV TB (n + 105) (.base 30) [.ref (rI π ts), .int d] (enc π ts a nm γ)=some (.ex j σ)) (n:Nat) :
    callV TB (n + 150) (.base 25) [.ref (rI π ts), .int d] (enc π ts a nm γ)=some (.ex j σ) :=
  sum_ex hd (product_ex (factor_s hs ha h0 (power_ex hr))) n

end
end
section
open PySem

section
variable {π γ γ1 γ2:List Cell} {ts:List WT} {a b:Int} {nm:V} {c c':Cell} {i:Nat}
noncomputable abbrev wIS:CS:=[73,83]
noncomputable abbrev wNOT:CS:=[78,79,84]
noncomputable abbrev wTO:CS:=[84,79]
noncomputable abbrev wTHAN:CS:=[84,72,65,78]
noncomputable abbrev wOR:CS:=[79,82]
noncomputable abbrev wAND:CS:=[65,78,68]
noncomputable abbrev wEQUAL:CS:=[69,81,85,65,76]
noncomputable abbrev mRel:CS:=[97,32,114,101,108,97,116,105,111,110,32,105,115,32,109,105,115,115,105,110,103]
theorem oIS:one wIS:=⟨by kernel_rfl,by decide,by decide⟩
theorem oNOT:one wNOT:=⟨by kernel_rfl,by decide,by decide⟩
theorem oTO:one wTO:=⟨by kernel_rfl,by decide,by decide⟩
theorem oTHAN:one wTHAN:=⟨by kernel_rfl,by decide,by decide⟩
theorem oOR:one wOR:=⟨by kernel_rfl,by decide,by decide⟩
theorem oAND:one wAND:=⟨by kernel_rfl,by decide,by decide⟩
noncomputable def wdH (ts:List WT) (i:Int):CS:=match atW ts i with | some t=>if t.1=sWord then t.2 else [] | none=>[]
theorem wdH_data (hs:tsOk ts=true) (i:Int):isData (.str (wdH ts i))=true:=by
  unfold wdH
  split
  · rename_i t h
    split
    · exact (tok_data hs h).2
    · rfl
  · rfl
theorem wdT {j:Int} {t:WT} (h:atW ts j=some t) (e:t.1=sWord):wdH ts j=t.2:=by unfold wdH; rw [h]; exact if_pos e
theorem wdF {j:Int} {t:WT} (h:atW ts j=some t) (e : ¬ t.1=sWord):wdH ts j=[]:=by unfold wdH; rw [h]; exact if_neg e
theorem wdN {j:Int} (h:atW ts j=none):wdH ts j=[]:=by unfold wdH; rw [h]
theorem word_here_s (hs:tsOk ts=true) (ha:0≤a) {k:Int} (hk:0≤k) (n:Nat):callV TB (n + 20) (.base 32) [.ref (rI π ts), .int k] (enc π ts a nm γ) =
    some (.ok (.str (wdH ts (a + k))) (enc π ts a nm γ)):=by
  have h0:0≤a + k:=by omega
  refine (c32 _).trans ?_
  delta bd_word_here
  cases h:atW ts (a + k) with
  | some t =>
    by_cases e1:t.1=sWord
    · rw [wdT h e1]
      wide_open with 2 using [mR tm2_11,peekT hs h,aT3 h,aT4 h,cET (tok_data hs h).1 dW e1]
    · rw [wdF h e1]
      wide_open with 2 using [mR tm2_11,peekT hs h,aT3 h,cEF (tok_data hs h).1 dW e1]
  | none =>
    rw [wdN h]
    wide_open with 2 using [mR tm2_11,peekN hs h0 h]
theorem wordI (hs:tsOk ts=true) (ha:0≤a) {k:Int} (hk:0≤k) {w:CS} (h:wdH ts (a + k)=w) (n:Nat):callV TB (n + 20) (.base 32) [.ref (rI π ts), .int k] (enc π ts a nm γ) =
    some (.ok (.str w) (enc π ts a nm γ)):=h ▸ word_here_s hs ha hk n
theorem word0 (hs:tsOk ts=true) (ha:0≤a) {w:CS} (h:wdH ts a=w) (n:Nat):callV TB (n + 20) (.base 32) [.ref (rI π ts)] (enc π ts a nm γ) =
    some (.ok (.str w) (enc π ts a nm γ)):=(d32 _).trans (wordI hs ha (Int.le_refl 0) (by rw [Int.add_zero]; exact h) n)
noncomputable def relS:List CS:=[[61],[60],[62],[60,61],[62,61]]
theorem relL_s:strsV relL=some relS:=rfl
noncomputable def clsS:List CS:=[[78,85,77,69,82,73,67],[65,76,80,72,65,66,69,84,73,67],[65,76,80,72,65,66,69,84,73,67,45,76,79,87,69,82],[65,76,80,72,65,66,69,84,73,67,45,85,80,80,69,82]]
theorem clsL_s:strsV clsL=some clsS:=rfl
noncomputable def isRel (ts:List WT) (i:Int):Bool:=match atW ts i with
  | some t=>(decide (t.1=sSign) && decide (t.2 ∈ relS)) || decide (wdH ts i ∈ wrDK)
  | none=>false
theorem nil_wr : ¬ ([]:CS) ∈ wrDK:=by decide
theorem relO {j:Int} {t:WT} (h:atW ts j=some t):isRel ts j=((decide (t.1=sSign) && decide (t.2 ∈ relS)) || decide (wdH ts j ∈ wrDK)):=by unfold isRel; rw [h]
theorem rel_at (hs : tsOk ts = true) (ha : 0 ≤ a) {k : Int} (hk : 0 ≤ k) {q : Bool} (hq : isRel ts (a + k) = q) (n : Nat) : callV TB (n + 35) (.base 33) [.ref (rI π ts), .int k] (enc π ts a nm γ) =
    some (.ok (.bool q) (enc π ts a nm γ)):=by
  have h0:0≤a + k:=by omega
  subst hq
  refine (c33 _).trans ?_
  delta bd_is_relation_at
  cases h:atW ts (a + k) with
  | some t =>
    rw [relO h]
    by_cases e1:t.1=sSign
    · by_cases e2 : t.2 ∈ relS
      · rw [dT e1, dT e2]
        show _=some (R.ok (V.bool true) _)
        wide_open with 2 using [mR tm2_11,tg9,peekT hs h,aT3 h,aT4 h,cET (tok_data hs h).1 dS e1,cTi relL_s (dT e2)]
      · rw [dT e1, dF e2]
        show _=some (R.ok (V.bool (decide (wdH ts (a + k) ∈ wrDK))) _)
        wide_open with 2 using [mR tm2_11,tg9,tg8,tg32,peekT hs h,aT3 h,aT4 h,cET (tok_data hs h).1 dS e1,cTi relL_s (dF e2),word_here_s hs ha hk,cDi rfl]
    · rw [dF e1]
      show _=some (R.ok (V.bool (decide (wdH ts (a + k) ∈ wrDK))) _)
      wide_open with 2 using [mR tm2_11,tg8,tg32,peekT hs h,aT3 h,cEF (tok_data hs h).1 dS e1,word_here_s hs ha hk,cDi rfl]
  | none =>
    rw [show isRel ts (a + k)=false by unfold isRel; rw [h]]
    wide_open with 2 using [mR tm2_11,tg8,tg32,peekN hs h0 h,wordI hs ha hk (wdN h),cDi (dF nil_wr)]
noncomputable def plc (ts:List WT) (a:Int):Int:=(if wdH ts a=wIS then 1 else 0) + (if wdH ts (a + (if wdH ts a=wIS then 1 else 0))=wNOT then 1 else 0)
theorem plc_nn (ts:List WT) (a:Int):0≤plc ts a:=by unfold plc; split <;> split <;> omega
theorem wz {j:Int}:wdH ts (j + 0)=wdH ts j:=by rw [Int.add_zero]
theorem dIS:isData (.str wIS)=true:=by decide
theorem dNOT:isData (.str wNOT)=true:=by decide
theorem place_of_word_s (hs:tsOk ts=true) (ha:0≤a) (n:Nat):callV TB (n + 35) (.base 34) [.ref (rI π ts)] (enc π ts a nm γ) =
    some (.ok (.int (plc ts a)) (enc π ts a nm γ)):=by
  have z:(0:Int)≤1:=by decide
  refine (c34 _).trans ?_
  delta bd_place_of_word
  unfold plc
  by_cases e1:wdH ts a=wIS
  · rw [if_pos e1]
    by_cases e2:wdH ts (a + 1)=wNOT
    · rw [if_pos e2]
      wide_open with 2 using [tg32,word0 hs ha e1,wordI hs ha z e2,cET dIS dIS rfl,cET dNOT dNOT rfl]
    · rw [if_neg e2, Int.add_zero]
      wide_open with 2 using [tg32,word0 hs ha e1,word_here_s hs ha z,cET dIS dIS rfl,cEF (wdH_data hs _) dNOT e2]
  · rw [if_neg e1, Int.add_zero]
    by_cases e2:wdH ts a=wNOT
    · rw [if_pos e2]
      wide_open with 2 using [tg32,word0 hs ha rfl,wordI hs ha (Int.le_refl 0) (wz.trans e2),cEF (wdH_data hs _) dIS e1,cET dNOT dNOT rfl]
    · rw [if_neg e2, Int.add_zero]
      wide_open with 2 using [tg32,word0 hs ha rfl,wordI hs ha (Int.le_refl 0) wz,cEF (wdH_data hs _) dIS e1,cEF (wdH_data hs _) dNOT e2]
theorem bareB (hs:tsOk ts=true) (ha:0≤a) {q:Bool} (h:isRel ts (a + plc ts a)=q) (n:Nat):callV TB (n + 45) (.base 36) [.ref (rI π ts)] (enc π ts a nm γ) =
    some (.ok (.bool q) (enc π ts a nm γ)):=by
  refine (c36 _).trans ?_
  delta bd_is_bare_relation_here
  wide_open with 2 using [tg33,tg34,place_of_word_s hs ha,rel_at hs ha (plc_nn ts a) h]
noncomputable def isPred (ts:List WT) (i:Int):Bool:=isRel ts i || decide (wdH ts i ∈ clsS) || decide (wdH ts i ∈ wsDK)
theorem predB (hs:tsOk ts=true) (ha:0≤a) {q:Bool} (h:isPred ts (a + plc ts a)=q) (n:Nat):callV TB (n + 50) (.base 35) [.ref (rI π ts)] (enc π ts a nm γ) =
    some (.ok (.bool q) (enc π ts a nm γ)):=by
  subst h
  refine (c35 _).trans ?_
  delta bd_is_predicate_here
  unfold isPred
  cases e1:isRel ts (a + plc ts a) with
  | true =>
    rw [Bool.true_or,Bool.true_or]
    wide_open with 2 using [tg33,tg34,tg32,place_of_word_s hs ha,rel_at hs ha (plc_nn ts a) e1,word_here_s hs ha (plc_nn ts a)]
  | false =>
    by_cases e2:wdH ts (a + plc ts a) ∈ clsS
    · rw [dT e2]
      show _=some (R.ok (V.bool true) _)
      wide_open with 2 using [tg33,tg34,tg32,tg6,place_of_word_s hs ha,rel_at hs ha (plc_nn ts a) e1,word_here_s hs ha (plc_nn ts a),cTi clsL_s (dT e2)]
    · rw [dF e2]
      show _=some (R.ok (V.bool (decide (wdH ts (a + plc ts a) ∈ wsDK))) _)
      wide_open with 2 using [tg33,tg34,tg32,tg6,tg7,place_of_word_s hs ha,rel_at hs ha (plc_nn ts a) e1,word_here_s hs ha (plc_nn ts a),cTi clsL_s (dF e2),cDi rfl]
noncomputable def crC (π:List Cell) (ts:List WT) (isn:V) (dep:Int) (last:V):Cell := .inst 3 [(6, .ref (rI π ts)),(7,isn),(8, .int dep),(9,last)]
variable {isn last last' v:V} {dep:Int}
theorem aK6:attrV (enc π ts a nm (γ1 ++ crC π ts isn dep last :: γ2)) 6 (.ref (cI π ts γ1))=some (.ref (rI π ts)):=aC6
theorem aK9:attrV (enc π ts a nm (γ1 ++ crC π ts isn dep last :: γ2)) 9 (.ref (cI π ts γ1))=some last:=aC9
theorem mK7:methF TB (enc π ts a nm (γ1 ++ crC π ts isn dep last :: γ2)) (.ref (cI π ts γ1)) 7=some (some (isn,false)):=mC7
theorem mK {f k:Nat} (h:TB.mth 3 f=some k):methF TB (enc π ts a nm (γ1 ++ crC π ts isn dep last :: γ2)) (.ref (cI π ts γ1)) f=some (some (.base k,true)):=mC h
theorem setK9:setA (enc π ts a nm (γ1 ++ crC π ts isn dep last :: γ2)) (.ref (cI π ts γ1)) 9 v=some (enc π ts a nm (γ1 ++ crC π ts isn dep v :: γ2)):=by
  unfold setA
  dsimp only
  rw [enc_c]
  exact (if_pos ⟨by decide,by decide,Nat.le_of_ble_eq_true rfl⟩).trans (congrArg some enc_set_c)
theorem sT1 {s:Sg} {x y:V}:subV s (.tup [x,y]) (.int 1)=some y:=rfl
theorem ap3 {g:List Cell}:(γ1 ++ c :: γ2) ++ g=γ1 ++ c :: (γ2 ++ g):=List.append_assoc _ _ _
theorem sig_no (hs:tsOk ts=true) (hne:ts ≠ []) (ha:0≤a) (n:Nat):callV TB (n + 40) (.base 333) [.ref (cI π ts γ1)] (enc π ts a nm (γ1 ++ crC π ts isn dep .none :: γ2)) =
    some (.ex (cI π ts (γ1 ++ crC π ts isn dep .none :: γ2)) (enc π ts a nm (γ1 ++ crC π ts isn dep .none :: (γ2 ++ [excC mRel (ftP ts a)])))):=by
  rw [← ap3]
  refine (c333 _).trans ?_
  delta bd_ConditionReader_sign_of_last
  wide_open with 2 using [aK9,aK6,mR tm2_12,fault_s hs hne ha,ssXF]
end
end
section
open PySem

section
variable {π γ γ1 γ2:List Cell} {ts:List WT} {a b:Int} {nm:V} {c c':Cell} {i:Nat} {isn last last' v:V} {dep:Int}
noncomputable def oppS (s:CS):CS:=match dget s oppDK oppDV with | some (.str x)=>x | _=>[]
noncomputable def wrS (s:CS):CS:=match dget s wrDK wrDV with | some (.str x)=>x | _=>[]
theorem opp_eq {s:CS} (h:s ∈ relS):dget s oppDK oppDV=some (.str (oppS s)):=by
  simp only [relS,List.mem_cons,List.not_mem_nil,or_false] at h
  rcases h with rfl | rfl | rfl | rfl | rfl <;> rfl
theorem wr_eq {s:CS} (h:s ∈ wrDK):dget s wrDK wrDV=some (.str (wrS s)):=by
  simp only [wrDK,List.mem_cons,List.not_mem_nil,or_false] at h
  rcases h with rfl | rfl | rfl <;> rfl
theorem wr_len {s:CS} (h:s ∈ wrDK):(wrS s).length=1:=by
  simp only [wrDK,List.mem_cons,List.not_mem_nil,or_false] at h
  rcases h with rfl | rfl | rfl <;> rfl
theorem wdH_some {i:Int} {w:CS} (h:wdH ts i=w) (hw:w ≠ []) : ∃ t,atW ts i=some t∧t.1=sWord∧t.2=w:=by
  unfold wdH at h
  split at h
  · rename_i t ht
    split at h
    · exact ⟨t,ht,by assumption,h⟩
    · exact absurd h.symm hw
  · exact absurd h.symm hw
theorem isWd_eq {i:Int} {w:CS} (hw:w ≠ []):isWd ts i w=decide (wdH ts i=w):=by
  unfold isWd wdH
  cases h:atW ts i with
  | none=>simp [Ne.symm hw]
  | some t=>by_cases e:t.1=sWord <;> simp [e,Ne.symm hw]
noncomputable def sgH (ts:List WT) (a:Int):CS × Int:=match atW ts a with
  | some t => if t.1 = sSign then (t.2, a + 1) else
    let a2:=if isWd ts (a + 1) (if t.2=wEQUAL then wTO else wTHAN) then a + 1 + 1 else a + 1
    if ¬ t.2=wEQUAL∧wdH ts a2=wOR∧wdH ts (a2 + 1)=wEQUAL then (wrS t.2 ++ [61],if isWd ts (a2 + 1 + 1) wTO then a2 + 1 + 1 + 1 else a2 + 1 + 1)
    else (wrS t.2,a2)
  | none=>([],a)
theorem isRel_some (h : isRel ts a = true) : ∃ t, atW ts a = some t ∧ ((t.1 = sSign ∧ t.2 ∈ relS) ∨ (¬ t.1 = sSign ∧ t.1 = sWord ∧ t.2 ∈ wrDK)) := by
  unfold isRel at h
  split at h
  · rename_i t ht
    refine ⟨t,ht, ?_⟩
    by_cases e:t.1=sSign
    · left
      refine ⟨e, ?_⟩
      have hw:wdH ts a=[]:=by
        unfold wdH
        rw [ht]
        have : ¬ t.1=sWord:=by rw [e]; decide
        simp [this]
      simpa [e,hw,nil_wr] using h
    · right
      refine ⟨e, ?_⟩
      simp only [e,decide_false,Bool.false_and,Bool.false_or,decide_eq_true_eq] at h
      unfold wdH at h
      rw [ht] at h
      simp only at h
      split at h
      · exact ⟨by assumption,h⟩
      · exact absurd h nil_wr
  · cases h
theorem dEQUAL:isData (.str wEQUAL)=true:=by decide
theorem dOR:isData (.str wOR)=true:=by decide
theorem skipI (hs:tsOk ts=true) (ha:0≤a) {w:CS} (hw:one w) {q:Bool} {e:Int} (h:isWd ts a w=q) (he:(if isWd ts a w then a + 1 else a)=e) (n:Nat):callV TB (n + 44) (.base 216) [.ref (rI π ts), .str w] (enc π ts a nm γ) =
    some (.ok (.bool q) (enc π ts e nm γ)):=by subst h he; exact skip_s hs ha hw n
theorem sgW {t:WT} {a2:Int} (ht:atW ts a=some t) (h0 : ¬ t.1=sSign) (h2:(if isWd ts (a + 1) (if t.2=wEQUAL then wTO else wTHAN) then a + 1 + 1 else a + 1)=a2) :
    sgH ts a=if ¬ t.2=wEQUAL∧wdH ts a2=wOR∧wdH ts (a2 + 1)=wEQUAL then (wrS t.2 ++ [61],if isWd ts (a2 + 1 + 1) wTO then a2 + 1 + 1 + 1 else a2 + 1 + 1) else (wrS t.2,a2):=by
  subst h2; unfold sgH; rw [ht]; exact if_neg h0
theorem sign_here_s (hs : tsOk ts = true) (ha : 0 ≤ a) (hr : isRel ts a = true) (n : Nat) : callV TB (n + 75) (.base 336) [.ref (cI π ts γ1)] (enc π ts a nm (γ1 ++ crC π ts isn dep last :: γ2)) =
    some (.ok (.str (sgH ts a).1) (enc π ts (sgH ts a).2 nm (γ1 ++ crC π ts isn dep last :: γ2))):=by
  obtain ⟨t,ht,hcase⟩:=isRel_some hr
  obtain ⟨d1,d2⟩:=tok_data hs ht
  have ha1:0≤a + 1:=by omega
  refine (c336 _).trans ?_
  delta bd_ConditionReader_sign_here
  rcases hcase with ⟨h1,h2⟩ | ⟨h0,h1,h2⟩
  · rw [show sgH ts a = (t.2, a + 1) by unfold sgH; rw [ht]; exact if_pos h1]
    wide_open with 2 using [aK6,mR tm2_13,takeT hs ht,aT3 ht,aT4 ht,cET d1 dS h1]
  · have hw := wr_eq h2
    by_cases e1:t.2=wEQUAL
    · rw [sgW ht h0 rfl, if_neg (fun q => q.1 e1), if_pos e1]
      wide_open with 2 using [aK6,mR tm2_13,mR tm2_16,tg8,takeT hs ht,aT3 ht,aT4 ht,cEF d1 dS h0,cET d2 dEQUAL e1,skip_s hs ha1 oTO,sD hw,cNT d2 dEQUAL e1]
    · obtain ⟨a2, h2e⟩ : ∃ a2 : Int, (if isWd ts (a + 1) wTHAN = true then a + 1 + 1 else a + 1) = a2 := ⟨_, rfl⟩
      rw [sgW (a2:=a2) ht h0 (by rw [if_neg e1,h2e])]
      have ha2:0≤a2:=by rw [← h2e]; split <;> omega
      have ha3:0≤a2 + 1 + 1:=by omega
      have z:(0:Int)≤1:=by decide
      have hl:(wrS t.2).length + ([61]:CS).length≤1000:=by rw [wr_len h2]; decide
      by_cases q1:wdH ts a2=wOR
      · by_cases q2 : wdH ts (a2 + 1) = wEQUAL
        · obtain ⟨t1, q3, _⟩ := wdH_some q1 (by decide)
          obtain ⟨t2,q4,_⟩:=wdH_some q2 (by decide)
          rw [if_pos ⟨e1,q1,q2⟩]
          wide_open with 2 using [aK6,mR tm2_13,mR tm2_16,tg8,tg32,takeT hs ht,aT3 ht,aT4 ht,cEF d1 dS h0,cEF d2 dEQUAL e1,skipI hs ha1 oTHAN rfl h2e,sD hw,cNF d2 dEQUAL e1,word0 hs ha2 q1,cET dOR dOR rfl,wordI hs ha2 z q2,cET dEQUAL dEQUAL rfl,takeT hs q3,takeT hs q4,skip_s hs ha3 oTO,bStr (sml_of hl)]
        · rw [if_neg (fun q => q2 q.2.2)]
          wide_open with 2 using [aK6,mR tm2_13,mR tm2_16,tg8,tg32,takeT hs ht,aT3 ht,aT4 ht,cEF d1 dS h0,cEF d2 dEQUAL e1,skipI hs ha1 oTHAN rfl h2e,sD hw,cNF d2 dEQUAL e1,word0 hs ha2 q1,cET dOR dOR rfl,wordI hs ha2 z rfl,cEF (wdH_data hs _) dEQUAL q2]
      · rw [if_neg (fun q => q1 q.2.1)]
        wide_open with 2 using [aK6,mR tm2_13,mR tm2_16,tg8,tg32,takeT hs ht,aT3 ht,aT4 ht,cEF d1 dS h0,cEF d2 dEQUAL e1,skipI hs ha1 oTHAN rfl h2e,sD hw,cNF d2 dEQUAL e1,word0 hs ha2 rfl,cEF (wdH_data hs _) dOR q1]
end
end
section
open PySem

section
variable {π γ γ1 γ2:List Cell} {ts:List WT} {a b:Int} {nm:V} {c c':Cell} {i:Nat} {isn last last' v:V} {dep:Int}
noncomputable def ExO (π:List Cell) (ts:List WT) (nm:V) (a:Int) (o:Except Cell V) (a':Int) (g:List Cell):Prop := ∀ γ n,callV TB (n + 215) (.base 23) [.ref (rI π ts)] (enc π ts a nm γ)=some (match o with
  | .ok v => .ok v (enc π ts a' nm (γ ++ g))
  | .error c => .ex (cI π ts (γ ++ g)) (enc π ts a' nm (γ ++ (g ++ [c]))))
noncomputable def CO (K:Nat) (π:List Cell) (ts:List WT) (nm isn:V) (dep:Int) (f:Nat) (args:List V) (a:Int) (last:V) (o:Except Cell V) (a':Int) (last':V) (g:List Cell):Prop :=
  ∀ γ1 γ2 n,callV TB (n + K) (.base f) (.ref (cI π ts γ1) :: args) (enc π ts a nm (γ1 ++ crC π ts isn dep last :: γ2))=some (match o with
  | .ok v => .ok v (enc π ts a' nm (γ1 ++ crC π ts isn dep last' :: (γ2 ++ g)))
  | .error c => .ex (cI π ts (γ1 ++ crC π ts isn dep last' :: (γ2 ++ g))) (enc π ts a' nm (γ1 ++ crC π ts isn dep last' :: (γ2 ++ (g ++ [c])))))
theorem ExO.cc {o:Except Cell V} {a':Int} {g:List Cell} (h:ExO π ts nm a o a' g) (n:Nat):callV TB (n + 215) (.base 23) [.ref (rI π ts)] (enc π ts a nm (γ1 ++ c :: γ2))=some (match (generalizing:=false) o with
  | .ok v => .ok v (enc π ts a' nm (γ1 ++ c :: (γ2 ++ g)))
  | .error x => .ex (cI π ts (γ1 ++ c :: (γ2 ++ g))) (enc π ts a' nm (γ1 ++ c :: (γ2 ++ (g ++ [x]))))):=by
  have:=h (γ1 ++ c :: γ2) n
  simp only [ap3] at this
  exact this
theorem ExO.ok {v:V} {a':Int} {g:List Cell} (h:ExO π ts nm a (.ok v) a' g) (n:Nat):callV TB (n + 215) (.base 23) [.ref (rI π ts)] (enc π ts a nm (γ1 ++ c :: γ2))=some (.ok v (enc π ts a' nm (γ1 ++ c :: (γ2 ++ g)))):=h.cc n
theorem ExO.er {x:Cell} {a':Int} {g:List Cell} (h:ExO π ts nm a (.error x) a' g) (n:Nat):callV TB (n + 215) (.base 23) [.ref (rI π ts)] (enc π ts a nm (γ1 ++ c :: γ2))=some (.ex (cI π ts (γ1 ++ c :: (γ2 ++ g))) (enc π ts a' nm (γ1 ++ c :: (γ2 ++ (g ++ [x]))))):=h.cc n
theorem CO.go {K f:Nat} {args:List V} {o:Except Cell V} {a':Int} {g:List Cell} (h:CO K π ts nm isn dep f args a last o a' last' g) (n:Nat):callV TB (n + K) (.base f) (.ref (cI π ts γ1) :: args) (enc π ts a nm (γ1 ++ crC π ts isn dep last :: γ2))=some (match (generalizing:=false) o with
  | .ok v => .ok v (enc π ts a' nm (γ1 ++ crC π ts isn dep last' :: (γ2 ++ g)))
  | .error c => .ex (cI π ts (γ1 ++ crC π ts isn dep last' :: (γ2 ++ g))) (enc π ts a' nm (γ1 ++ crC π ts isn dep last' :: (γ2 ++ (g ++ [c]))))):=h _ _ n
theorem CO.ok {K f:Nat} {args:List V} {a':Int} {g:List Cell} (h:CO K π ts nm isn dep f args a last (.ok v) a' last' g) (n:Nat):callV TB (n + K) (.base f) (.ref (cI π ts γ1) :: args) (enc π ts a nm (γ1 ++ crC π ts isn dep last :: γ2))=some (.ok v (enc π ts a' nm (γ1 ++ crC π ts isn dep last' :: (γ2 ++ g)))):=h _ _ n
theorem CO.er {K f:Nat} {args:List V} {x:Cell} {a':Int} {g:List Cell} (h:CO K π ts nm isn dep f args a last (.error x) a' last' g) (n:Nat):callV TB (n + K) (.base f) (.ref (cI π ts γ1) :: args) (enc π ts a nm (γ1 ++ crC π ts isn dep last :: γ2))=some (.ex (cI π ts (γ1 ++ crC π ts isn dep last' :: (γ2 ++ g))) (enc π ts a' nm (γ1 ++ crC π ts isn dep last' :: (γ2 ++ (g ++ [x]))))):=h _ _ n
noncomputable def ntW (ts:List WT) (a:Int):Bool:=decide (wdH ts (a + (if wdH ts a=wIS then 1 else 0))=wNOT)
noncomputable abbrev tRel:CS:=[114,101,108]
noncomputable abbrev tNot:CS:=[110,111,116]
noncomputable abbrev isE (ts:List WT) (a:Int):Int:=a + (if wdH ts a=wIS then 1 else 0)
theorem isE_nn (ha:0≤a):0≤isE ts a:=by unfold isE; split <;> omega
theorem wI0:wIS ≠ []:=by decide
theorem wN0:wNOT ≠ []:=by decide
theorem skIs (hs:tsOk ts=true) (ha:0≤a) (n:Nat):callV TB (n + 44) (.base 216) [.ref (rI π ts), .str wIS] (enc π ts a nm γ)=some (.ok (.bool (isWd ts a wIS)) (enc π ts (isE ts a) nm γ)):=by
  refine skipI hs ha oIS rfl ?_ n
  rw [isWd_eq wI0]
  by_cases e:wdH ts a=wIS
  · rw [dT e]; exact congrArg (fun z:Int=>a + z) (if_pos e).symm
  · rw [dF e]; exact (Int.add_zero a).symm.trans (congrArg (fun z:Int=>a + z) (if_neg e).symm)
theorem skNt (hs:tsOk ts=true) (ha:0≤a) {q:Bool} (h:ntW ts a=q) (n:Nat):callV TB (n + 44) (.base 216) [.ref (rI π ts), .str wNOT] (enc π ts (isE ts a) nm γ)=some (.ok (.bool q) (enc π ts (a + plc ts a) nm γ)):=by
  subst h
  refine skipI hs (isE_nn ha) oNOT (isWd_eq wN0) ?_ n
  rw [isWd_eq wN0]
  by_cases e:wdH ts (isE ts a)=wNOT
  · rw [dT e]; exact (Int.add_assoc _ _ _).trans (congrArg (fun z:Int=>a + ((if wdH ts a=wIS then 1 else 0) + z)) (if_pos e).symm)
  · rw [dF e]; exact (Int.add_zero _).symm.trans ((Int.add_assoc _ _ _).trans (congrArg (fun z:Int=>a + ((if wdH ts a=wIS then 1 else 0) + z)) (if_neg e).symm))
theorem wr_rel {s:CS} (h:s ∈ wrDK):wrS s ∈ relS∧(¬ s=wEQUAL→wrS s ++ [61] ∈ relS):=by
  simp only [wrDK,List.mem_cons,List.not_mem_nil,or_false] at h
  rcases h with rfl | rfl | rfl
  · exact ⟨by decide,fun _=>by decide⟩
  · exact ⟨by decide,fun _=>by decide⟩
  · exact ⟨by decide,fun h=>absurd rfl h⟩
theorem sgH_rel (hr:isRel ts a=true):(sgH ts a).1 ∈ relS:=by
  obtain ⟨t,ht,hcase⟩:=isRel_some hr
  unfold sgH
  rw [ht]
  simp only
  rcases hcase with ⟨h1,h2⟩ | ⟨h0,h1,h2⟩
  · rw [if_pos h1]; exact h2
  · rw [if_neg h0]
    obtain ⟨r1,r2⟩:=wr_rel h2
    generalize (if isWd ts (a + 1) (if t.2=wEQUAL then wTO else wTHAN)=true then a + 1 + 1 else a + 1)=a2
    split
    · rename_i q; exact r2 q.1
    · exact r1
noncomputable def sgT (ts:List WT) (a:Int):CS:=if ntW ts a then oppS (sgH ts (a + plc ts a)).1 else (sgH ts (a + plc ts a)).1
theorem sgT_T (h:ntW ts a=true):sgT ts a=oppS (sgH ts (a + plc ts a)).1:=if_pos h
theorem sgT_F (h:ntW ts a=false):sgT ts a=(sgH ts (a + plc ts a)).1:=if_neg (by rw [h]; decide)
theorem relation_s (hs:tsOk ts=true) (ha:0≤a) (hr:isRel ts (a + plc ts a)=true) {x:V} {o:Except Cell V} {a':Int} {g:List Cell} (hx:ExO π ts nm (sgH ts (a + plc ts a)).2 o a' g) :
    CO 235 π ts nm isn dep 335 [x] a last (o.map fun v => .tup [.str tRel, .str (sgT ts a),x,v]) a' (.tup [x, .str (sgT ts a)]) g:=by
  intro γ1 γ2 n
  have hp:0≤a + plc ts a:=by have:=plc_nn ts a; omega
  have ho:=opp_eq (sgH_rel hr)
  refine (c335 _).trans ?_
  delta bd_ConditionReader_relation
  cases hn:ntW ts a with
  | true =>
    rw [sgT_T hn]
    cases o with
    | ok v=>wide_open with 2 using [aK6,aK9,mR tm2_16,mK tm3_36,tg5,tg23,skIs hs ha,skNt hs ha hn,sign_here_s hs hp hr,sD ho,setK9,sT1,hx.ok]
    | error e=>wide_open with 2 using [aK6,aK9,mR tm2_16,mK tm3_36,tg5,tg23,skIs hs ha,skNt hs ha hn,sign_here_s hs hp hr,sD ho,setK9,sT1,hx.er,xT4E]
  | false =>
    rw [sgT_F hn]
    cases o with
    | ok v=>wide_open with 2 using [aK6,aK9,mR tm2_16,mK tm3_36,tg5,tg23,skIs hs ha,skNt hs ha hn,sign_here_s hs hp hr,setK9,sT1,hx.ok]
    | error e=>wide_open with 2 using [aK6,aK9,mR tm2_16,mK tm3_36,tg5,tg23,skIs hs ha,skNt hs ha hn,sign_here_s hs hp hr,setK9,sT1,hx.er,xT4E]
noncomputable def clsV (w:CS) (x:V):V:=if w ∈ clsS then .tup [.str [99,108,97,115,115], .str w,x] else match dget w wsDK wsDV with | some y => .tup [.str [115,105,103,110],y,x] | none => .none
theorem ws_eq {w:CS} (h:w ∈ wsDK) : ∃ y,dget w wsDK wsDV=some y:=by
  simp only [wsDK,List.mem_cons,List.not_mem_nil,or_false] at h
  rcases h with rfl | rfl | rfl | rfl | rfl <;> exact ⟨_,rfl⟩
theorem predicate_rel (hs:tsOk ts=true) (ha:0≤a) (h1 : ¬ wdH ts (a + plc ts a) ∈ clsS) (h2 : ¬ wdH ts (a + plc ts a) ∈ wsDK) {x:V} {o:Except Cell V} {a':Int} {g:List Cell} (hx:CO 235 π ts nm isn dep 335 [x] a last o a' last' g) :
    CO 250 π ts nm isn dep 334 [x] a last o a' last' g:=by
  intro γ1 γ2 n
  refine (c334 _).trans ?_
  delta bd_ConditionReader_predicate
  wide_open with 2 using [aK6,mK tm3_35,tg34,tg32,tg6,tg7,place_of_word_s hs ha,word_here_s hs ha (plc_nn ts a),cTnF clsL_s h1,cDnF h2,hx.go]
theorem predicate_cls (hs:tsOk ts=true) (ha:0≤a) (h:wdH ts (a + plc ts a) ∈ clsS ∨ wdH ts (a + plc ts a) ∈ wsDK) {x:V} :
    CO 250 π ts nm isn dep 334 [x] a last (.ok (if ntW ts a then .tup [.str tNot,clsV (wdH ts (a + plc ts a)) x] else clsV (wdH ts (a + plc ts a)) x)) (a + plc ts a + 1) .none []:=by
  intro γ1 γ2 n
  obtain ⟨t,ht,_,hw⟩ : ∃ t,atW ts (a + plc ts a)=some t∧t.1=sWord∧t.2=wdH ts (a + plc ts a):=wdH_some rfl (by rcases h with h | h <;> (intro e; rw [e] at h; revert h; decide))
  rw [List.append_nil]
  have hb : ∀ y:V,callV TB (n + 250) (.base 334) [.ref (cI π ts γ1),x] (enc π ts a nm (γ1 ++ crC π ts isn dep last :: γ2))=some (.ok (if ntW ts a then .tup [.str tNot,clsV (wdH ts (a + plc ts a)) x] else clsV (wdH ts (a + plc ts a)) x) (enc π ts (a + plc ts a + 1) nm (γ1 ++ crC π ts isn dep .none :: γ2))):=fun _=>by
    refine (c334 _).trans ?_
    delta bd_ConditionReader_predicate
    by_cases h1:wdH ts (a + plc ts a) ∈ clsS
    · rw [show clsV (wdH ts (a + plc ts a)) x = _ from if_pos h1]
      cases hn:ntW ts a with
      | true=>wide_open with 2 using [aK6,setK9,mR tm2_16,mR tm2_13,tg34,tg32,tg6,place_of_word_s hs ha,word_here_s hs ha (plc_nn ts a),cTnT clsL_s h1,cTi clsL_s (dT h1),skIs hs ha,skNt hs ha hn,takeT hs ht]
      | false=>wide_open with 2 using [aK6,setK9,mR tm2_16,mR tm2_13,tg34,tg32,tg6,place_of_word_s hs ha,word_here_s hs ha (plc_nn ts a),cTnT clsL_s h1,cTi clsL_s (dT h1),skIs hs ha,skNt hs ha hn,takeT hs ht]
    · have h2 : wdH ts (a + plc ts a) ∈ wsDK := h.resolve_left h1
      obtain ⟨y,hy⟩:=ws_eq h2
      rw [show clsV (wdH ts (a + plc ts a)) x = .tup [.str [115,105,103,110],y,x] from (if_neg h1).trans (by rw [hy])]
      cases hn:ntW ts a with
      | true=>wide_open with 2 using [aK6,setK9,mR tm2_16,mR tm2_13,tg34,tg32,tg6,tg7,place_of_word_s hs ha,word_here_s hs ha (plc_nn ts a),cTnF clsL_s h1,cDnT h2,cTi clsL_s (dF h1),sD hy,skIs hs ha,skNt hs ha hn,takeT hs ht]
      | false=>wide_open with 2 using [aK6,setK9,mR tm2_16,mR tm2_13,tg34,tg32,tg6,tg7,place_of_word_s hs ha,word_here_s hs ha (plc_nn ts a),cTnF clsL_s h1,cDnT h2,cTi clsL_s (dF h1),sD hy,skIs hs ha,skNt hs ha hn,takeT hs ht]
  exact hb .none
noncomputable def NmO (π:List Cell) (ts:List WT) (nm isn:V) (w:CS) (b:Bool):Prop := ∀ a γ n,callV TB (n + 20) isn [.str w, .tup []] (enc π ts a nm γ)=some (.ok (.bool b) (enc π ts a nm γ))
noncomputable abbrev tNamed:CS:=[110,97,109,101,100]
noncomputable abbrev tRef:CS:=[114,101,102]
theorem dRef:isData (.str tRef)=true:=by decide
theorem cRef:cmpV .Eq (.str tRef) (.str tRef)=some true:=cET dRef dRef rfl
theorem sU0 {s:Sg} {x:V} {l:List V}:subV s (.tup (x :: l)) (.int 0)=some x:=rfl
theorem sU1 {s:Sg} {x y:V} {l:List V}:subV s (.tup (x :: y :: l)) (.int 1)=some y:=rfl
theorem sU2 {s:Sg} {x y z:V} {l:List V}:subV s (.tup (x :: y :: z :: l)) (.int 2)=some z:=rfl
theorem unb_ex (hs:tsOk ts=true) (ha:0≤a) (hb:isRel ts (a + plc ts a)=false) {cx:Cell} {a':Int} {g:List Cell} (hx:ExO π ts nm a (.error cx) a' g) :
    CO 262 π ts nm isn dep 330 [] a last (.error cx) a' last g:=by
  intro γ1 γ2 n
  refine (c330 _).trans ?_
  delta bd_ConditionReader_unbracketed
  wide_open with 2 using [ssAE,aK6,tg36,tg23,bareB hs ha hb,hx.er]
theorem unb_named (hs:tsOk ts=true) (ha:0≤a) (hb:isRel ts (a + plc ts a)=false) {w:CS} {a':Int} {g:List Cell} (hx:ExO π ts nm a (.ok (refV w)) a' g) (hN:NmO π ts nm isn w true) :
    CO 262 π ts nm isn dep 330 [] a last (.ok (.tup [.str tNamed,refV w])) a' .none g:=by
  intro γ1 γ2 n
  have hN':=fun γ n=>hN a' γ n
  refine (c330 _).trans ?_
  delta bd_ConditionReader_unbracketed
  wide_open with 2 using [aK6,mK7,setK9,tg36,tg23,bareB hs ha hb,hx.ok,cRef,sU0,sU1,sU2,hN']
theorem unb_pred (hs:tsOk ts=true) (ha:0≤a) (hb:isRel ts (a + plc ts a)=false) {w:CS} {a':Int} {g:List Cell} (ha':0≤a') (hx:ExO π ts nm a (.ok (refV w)) a' g) (hN:NmO π ts nm isn w false) (hp:isPred ts (a' + plc ts a')=true)
    {o:Except Cell V} {a2:Int} {g2:List Cell} (hx2:CO 250 π ts nm isn dep 334 [refV w] a' last o a2 last' g2) :
    CO 262 π ts nm isn dep 330 [] a last o a2 last' (g ++ g2):=by
  intro γ1 γ2 n
  have hN':=fun γ n=>hN a' γ n
  have hx2':=hx2 γ1 (γ2 ++ g)
  simp only [List.append_assoc] at hx2' ⊢
  refine (c330 _).trans ?_
  delta bd_ConditionReader_unbracketed
  wide_open with 2 using [aK6,mK7,mK tm3_34,tg36,tg23,tg35,bareB hs ha hb,hx.ok,cRef,sU0,sU1,sU2,hN',predB hs ha' hp,hx2']
theorem unb_left_no (hs:tsOk ts=true) (hne:ts ≠ []) (ha:0≤a) (hb:isRel ts (a + plc ts a)=false) {w:CS} {a':Int} {g:List Cell} (ha':0≤a') (hx:ExO π ts nm a (.ok (refV w)) a' g) (hN:NmO π ts nm isn w false) (hp:isPred ts (a' + plc ts a')=false) :
    CO 262 π ts nm isn dep 330 [] a .none (.error (excC mRel (ftP ts a'))) a' .none g:=by
  intro γ1 γ2 n
  have hN':=fun γ n=>hN a' γ n
  have hsig:=fun n=>sig_no (π:=π) (nm:=nm) (γ1:=γ1) (γ2:=γ2 ++ g) (isn:=isn) (dep:=dep) hs hne ha' n
  rw [List.append_assoc] at hsig
  refine (c330 _).trans ?_
  delta bd_ConditionReader_unbracketed
  wide_open with 2 using [xT4b,aK6,mK7,mK tm3_33,mK tm3_32,tg36,tg23,tg35,bareB hs ha hb,hx.ok,cRef,sU0,sU1,sU2,hN',predB hs ha' hp,hsig]
theorem single_un (hs:tsOk ts=true) (ha:0≤a) (h:isSg ts a [40]=false) {o:Except Cell V} {a':Int} {g:List Cell} (hx:CO 262 π ts nm isn dep 330 [] a last o a' last' g):CO 272 π ts nm isn dep 329 [] a last o a' last' g:=by
  intro γ1 γ2 n
  have d1:isData (.str [40])=true:=by decide
  refine (c329 _).trans ?_
  delta bd_ConditionReader_single
  wide_open with 2 using [aK6,mR tm2_20,mK tm3_30,signB hs ha d1 h,hx.go]
theorem turned_no (hs:tsOk ts=true) (ha:0≤a) (h:(decide (wdH ts a=wNOT) && !isRel ts (a + plc ts a))=false) {K:Nat} {o:Except Cell V} {a':Int} {g:List Cell} (hx:CO 272 π ts nm isn dep 329 [] a last o a' last' g):CO 284 π ts nm isn dep 328 [] a last o a' last' g:=by
  intro γ1 γ2 n
  refine (c328 _).trans ?_
  delta bd_ConditionReader_turned
  by_cases e:wdH ts a=wNOT
  · have e2 : isRel ts (a + plc ts a) = true := by rw [dT e, Bool.true_and, Bool.not_eq_false'] at h; exact h
    wide_open with 2 using [aK6,mK tm3_29,tg32,tg36,word0 hs ha e,bareB hs ha e2,cET dNOT dNOT rfl,hx.go]
  · wide_open with 2 using [aK6,mK tm3_29,tg32,tg36,word0 hs ha rfl,cEF (wdH_data hs _) dNOT e,hx.go]
end
end
section
open PySem

inductive BL (f K:Nat) (w tag:CS) (π:List Cell) (ts:List WT) (nm isn:V) (dep:Int):V→Int→V→Except Cell V→Int→V→List Cell→Nat→Prop where
  | done {v a last}:isWd ts a w=false→BL f K w tag π ts nm isn dep v a last (.ok v) a last [] 0
  | step {v a last v2 a2 last2 g2 o a3 last3 g3 k}:isWd ts a w=true→CO K π ts nm isn dep f [] (a + 1) last (.ok v2) a2 last2 g2→0≤a2→BL f K w tag π ts nm isn dep (.tup [.str tag,v,v2]) a2 last2 o a3 last3 g3 k→BL f K w tag π ts nm isn dep v a last o a3 last3 (g2 ++ g3) (k + 1)
  | fail {v a last c a2 last2 g2}:isWd ts a w=true→CO K π ts nm isn dep f [] (a + 1) last (.error c) a2 last2 g2→BL f K w tag π ts nm isn dep v a last (.error c) a2 last2 g2 1
noncomputable def bothT:X:=(.meth (.attr (.loc 0 ⟨218,14,218,18⟩) 6 ⟨218,14,218,25⟩) 16 ⟨218,14,218,30⟩ [(.str [65,78,68] ⟨218,31,218,36⟩)] ⟨218,14,218,37⟩)
noncomputable def bothB:List S:=[.asN 1 ⟨219,12,219,17⟩ (.tup [(.str [97,110,100] ⟨219,21,219,26⟩),(.loc 1 ⟨219,28,219,33⟩),(.meth (.loc 0 ⟨219,35,219,39⟩) 28 ⟨219,35,219,46⟩ [] ⟨219,35,219,48⟩)] 0 ⟨219,20,219,49⟩) ⟨219,12,219,49⟩]
noncomputable def eitherT:X:=(.meth (.attr (.loc 0 ⟨212,14,212,18⟩) 6 ⟨212,14,212,25⟩) 16 ⟨212,14,212,30⟩ [(.str [79,82] ⟨212,31,212,35⟩)] ⟨212,14,212,36⟩)
noncomputable def eitherB:List S:=[.asN 1 ⟨213,12,213,17⟩ (.tup [(.str [111,114] ⟨213,21,213,25⟩),(.loc 1 ⟨213,27,213,32⟩),(.meth (.loc 0 ⟨213,34,213,38⟩) 27 ⟨213,34,213,43⟩ [] ⟨213,34,213,45⟩)] 0 ⟨213,20,213,46⟩) ⟨213,12,213,46⟩]
noncomputable abbrev tAnd:CS:=[97,110,100]
noncomputable abbrev tOr:CS:=[111,114]
section
variable {π γ γ1 γ2:List Cell} {ts:List WT} {a b:Int} {nm:V} {c c':Cell} {i:Nat} {isn last last' v:V} {dep:Int}
theorem both_loop (hs:tsOk ts=true) {o:Except Cell V} {a':Int} {g:List Cell} {k:Nat} (hb:BL 328 284 wAND tAnd π ts nm isn dep v a last o a' last' g k) (ha:0≤a) (γ1 γ2:List Cell) (n:Nat) :
    ∃ fr, exW TB (n + 295 + k) bothT bothB [some (.ref (cI π ts γ1)), some v] (enc π ts a nm (γ1 ++ crC π ts isn dep last :: γ2)) = some (match (generalizing := false) o with
      | .ok v' => .nx [some (.ref (cI π ts γ1)),some v'] (enc π ts a' nm (γ1 ++ crC π ts isn dep last' :: (γ2 ++ g)))
      | .error c => .ex (cI π ts (γ1 ++ crC π ts isn dep last' :: (γ2 ++ g))) fr (enc π ts a' nm (γ1 ++ crC π ts isn dep last' :: (γ2 ++ (g ++ [c]))))):=by
  induction hb generalizing γ2 n with
  | done h =>
    refine ⟨[], ?_⟩
    rw [List.append_nil]
    refine wF ?_ tB
    delta bothT
    wide_open with 2 using [aK6,mR tm2_16,skipF hs ha oAND h]
  | step h hco ha2 hbl ih =>
    rename_i v a last v2 a2 last2 g2 o a3 last3 g3 k
    obtain ⟨fr,hi⟩:=ih ha2 (γ2 ++ g2) n
    simp only [List.append_assoc] at hi ⊢
    rw [Nat.add_right_comm] at hi
    rw [show n + 295 + (k + 1)=n + k + 295 + 1 by omega]
    refine ⟨fr,wT (s1:=enc π ts (a + 1) nm (γ1 ++ crC π ts isn dep last :: γ2)) ?_ tB ?_ (sqN hi)⟩
    · delta bothT
      wide_open with 2 using [aK6,mR tm2_16,skipT hs ha oAND h]
    · delta bothB
      wide_open with 2 using [mK tm3_28,hco.ok]
  | fail h hco =>
    rename_i v a last c a2 last2 g2
    refine ⟨[some (.ref (cI π ts γ1)),some v],wT (s1:=enc π ts (a + 1) nm (γ1 ++ crC π ts isn dep last :: γ2)) ?_ tB ?_ sqE⟩
    · delta bothT
      wide_open with 2 using [aK6,mR tm2_16,skipT hs ha oAND h]
    · delta bothB
      wide_open with 2 using [ssAE,xT3E,mK tm3_28,hco.er]
theorem both_s (hs:tsOk ts=true) {v1:V} {a1:Int} {last1:V} {g1:List Cell} (hx:CO 284 π ts nm isn dep 328 [] a last (.ok v1) a1 last1 g1) (ha1:0≤a1) {o:Except Cell V} {a':Int} {g:List Cell} {k:Nat} (hk:k≤5) (hb:BL 328 284 wAND tAnd π ts nm isn dep v1 a1 last1 o a' last' g k) :
    CO 306 π ts nm isn dep 327 [] a last o a' last' (g1 ++ g):=by
  intro γ1 γ2 n
  obtain ⟨fr,e4⟩:=both_loop hs hb ha1 γ1 (γ2 ++ g1) (n + (7 - k))
  rw [show n + (7 - k) + 295 + k=n + 302 by omega] at e4
  simp only [List.append_assoc] at e4 ⊢
  delta bothT bothB at e4
  refine (c327 _).trans ?_
  delta bd_ConditionReader_both
  cases o with
  | ok v=>wide_open with 2 using [mK tm3_28,hx.ok,e4]
  | error c=>wide_open with 2 using [mK tm3_28,hx.ok,e4]
theorem both_err {cx:Cell} {a':Int} {g:List Cell} (hx:CO 284 π ts nm isn dep 328 [] a last (.error cx) a' last' g):CO 306 π ts nm isn dep 327 [] a last (.error cx) a' last' g:=by
  intro γ1 γ2 n
  refine (c327 _).trans ?_
  delta bd_ConditionReader_both
  wide_open with 2 using [ssAE,mK tm3_28,hx.er]

theorem either_loop (hs:tsOk ts=true) {o:Except Cell V} {a':Int} {g:List Cell} {k:Nat} (hb:BL 327 306 wOR tOr π ts nm isn dep v a last o a' last' g k) (ha:0≤a) (γ1 γ2:List Cell) (n:Nat) :
    ∃ fr, exW TB (n + 317 + k) eitherT eitherB [some (.ref (cI π ts γ1)), some v] (enc π ts a nm (γ1 ++ crC π ts isn dep last :: γ2)) = some (match (generalizing := false) o with
      | .ok v' => .nx [some (.ref (cI π ts γ1)),some v'] (enc π ts a' nm (γ1 ++ crC π ts isn dep last' :: (γ2 ++ g)))
      | .error c => .ex (cI π ts (γ1 ++ crC π ts isn dep last' :: (γ2 ++ g))) fr (enc π ts a' nm (γ1 ++ crC π ts isn dep last' :: (γ2 ++ (g ++ [c]))))):=by
  induction hb generalizing γ2 n with
  | done h =>
    refine ⟨[], ?_⟩
    rw [List.append_nil]
    refine wF ?_ tB
    delta eitherT
    wide_open with 2 using [aK6,mR tm2_16,skipF hs ha oOR h]
  | step h hco ha2 hbl ih =>
    rename_i v a last v2 a2 last2 g2 o a3 last3 g3 k
    obtain ⟨fr,hi⟩:=ih ha2 (γ2 ++ g2) n
    simp only [List.append_assoc] at hi ⊢
    rw [Nat.add_right_comm] at hi
    rw [show n + 317 + (k + 1)=n + k + 317 + 1 by omega]
    refine ⟨fr,wT (s1:=enc π ts (a + 1) nm (γ1 ++ crC π ts isn dep last :: γ2)) ?_ tB ?_ (sqN hi)⟩
    · delta eitherT
      wide_open with 2 using [aK6,mR tm2_16,skipT hs ha oOR h]
    · delta eitherB
      wide_open with 2 using [mK tm3_27,hco.ok]
  | fail h hco =>
    rename_i v a last c a2 last2 g2
    refine ⟨[some (.ref (cI π ts γ1)),some v],wT (s1:=enc π ts (a + 1) nm (γ1 ++ crC π ts isn dep last :: γ2)) ?_ tB ?_ sqE⟩
    · delta eitherT
      wide_open with 2 using [aK6,mR tm2_16,skipT hs ha oOR h]
    · delta eitherB
      wide_open with 2 using [ssAE,xT3E,mK tm3_27,hco.er]
theorem either_s (hs:tsOk ts=true) {v1:V} {a1:Int} {last1:V} {g1:List Cell} (hx:CO 306 π ts nm isn dep 327 [] a last (.ok v1) a1 last1 g1) (ha1:0≤a1) {o:Except Cell V} {a':Int} {g:List Cell} {k:Nat} (hk:k≤5) (hb:BL 327 306 wOR tOr π ts nm isn dep v1 a1 last1 o a' last' g k) :
    CO 330 π ts nm isn dep 326 [] a last o a' last' (g1 ++ g):=by
  intro γ1 γ2 n
  obtain ⟨fr,e4⟩:=either_loop hs hb ha1 γ1 (γ2 ++ g1) (n + (9 - k))
  rw [show n + (9 - k) + 317 + k=n + 326 by omega] at e4
  simp only [List.append_assoc] at e4 ⊢
  delta eitherT eitherB at e4
  refine (c326 _).trans ?_
  delta bd_ConditionReader_either
  cases o with
  | ok v=>wide_open with 2 using [mK tm3_27,hx.ok,e4]
  | error c=>wide_open with 2 using [mK tm3_27,hx.ok,e4]
theorem either_err {cx:Cell} {a':Int} {g:List Cell} (hx:CO 306 π ts nm isn dep 327 [] a last (.error cx) a' last' g):CO 330 π ts nm isn dep 326 [] a last (.error cx) a' last' g:=by
  intro γ1 γ2 n
  refine (c326 _).trans ?_
  delta bd_ConditionReader_either
  wide_open with 2 using [ssAE,mK tm3_27,hx.er]

theorem init_g {σ:Sg} {r isn d:V} (n:Nat):callV TB (n + 20) (.base 399) [.ref σ.length,r,isn,d] (σ ++ [.inst 3 []])=some (.ok .none (σ ++ [.inst 3 [(6,r),(7,isn),(8,d),(9, .none)]])):=by
  have s6:setA (σ ++ [.inst 3 []]) (.ref σ.length) 6 r=some (σ ++ [.inst 3 [(6,r)]]):=setN rfl rfl
  have s7:setA (σ ++ [.inst 3 [(6,r)]]) (.ref σ.length) 7 isn=some (σ ++ [.inst 3 [(6,r),(7,isn)]]):=setN rfl rfl
  have s8:setA (σ ++ [.inst 3 [(6,r),(7,isn)]]) (.ref σ.length) 8 d=some (σ ++ [.inst 3 [(6,r),(7,isn),(8,d)]]):=setN rfl rfl
  have s9:setA (σ ++ [.inst 3 [(6,r),(7,isn),(8,d)]]) (.ref σ.length) 9 .none=some (σ ++ [.inst 3 [(6,r),(7,isn),(8,d),(9, .none)]]):=setN rfl rfl
  refine (c399 _).trans ?_
  delta bd_ConditionReader___init__
  wide_open with 2 using [s6,s7,s8,s9]
theorem cr_new {isn:V} {d:Int} (n:Nat):callV TB (n + 40) (.base 3) [.ref (rI π ts),isn, .int d] (enc π ts a nm γ)=some (.ok (.ref (cI π ts γ)) (enc π ts a nm (γ ++ crC π ts isn d .none :: []))):=by
  rw [← enc_app, ← enc_len (π:=π) (ts:=ts) (a:=a) (nm:=nm) (γ:=γ)]
  exact new_of ti3 tf3 (init_g _)
theorem d37 {x:V} {σ:List Cell} (n:Nat):callV TB (n + 1) (.base 37) [x] σ=callV TB (n + 1) (.base 37) [x, .none] σ:=Eq.trans rfl rfl
theorem cap1 {x:V} {r:Fr}:caps (some x :: r) (TB.lamc 1)=some [x]:=rfl
theorem read_cond0 {o:Except Cell V} {a':Int} {g:List Cell} {last':V} (hx:CO 330 π ts nm (.clo 1 [.ref (rI π ts)]) 0 326 [] a .none o a' last' g) (n:Nat) :
    callV TB (n + 345) (.base 37) [.ref (rI π ts)] (enc π ts a nm γ)=some (match (generalizing:=false) o with
      | .ok v => .ok v (enc π ts a' nm (γ ++ (crC π ts (.clo 1 [.ref (rI π ts)]) 0 last' :: g)))
      | .error c => .ex (cI π ts (γ ++ (crC π ts (.clo 1 [.ref (rI π ts)]) 0 last' :: g))) (enc π ts a' nm (γ ++ (crC π ts (.clo 1 [.ref (rI π ts)]) 0 last' :: (g ++ [c]))))):=by
  have hx':=hx γ []
  simp only [List.nil_append] at hx'
  refine (d37 _).trans ((c37 _).trans ?_)
  delta bd_read_condition
  wide_open with 2 using [tg3,cap1,mK tm3_26,cr_new,hx']
theorem lamB {x y r:V} {n:Nat} {σ:Sg} {o:R V} (h:exX TB (n + 19) lam_1.2 [some x,some y,some r] σ=some o):callV TB (n + 20) (.clo 1 [r]) [x,y] σ=some o:=h
theorem named_dct {ks:List CS} {vs:List V} {w:CS}:NmO π ts (.dct ks vs) (.clo 1 [.ref (rI π ts)]) w (ks.contains w):=by
  intro a γ n
  refine lamB ?_
  delta lam_1
  dsimp only
  wide_open with 2 using [aR2,cDc]
end
end
section
open PySem

noncomputable def alphaW:CS→Bool
  | c :: _=>Nat.ble 65 c && Nat.ble c 90
  | []=>false
noncomputable def tokOf (w:CS):WT:=(if alphaW w then sWord else sSign,w)
noncomputable def spelW:List (CS × List CS):=[([61],[[61]]),([61],[wEQUAL]),([61],[wEQUAL,wTO]),([62],[[62]]),([62],[[71,82,69,65,84,69,82]]),([62],[[71,82,69,65,84,69,82],wTHAN]),([60],[[60]]),([60],[[76,69,83,83]]),([60],[[76,69,83,83],wTHAN]),
  ([62,61],[[62,61]]),([62,61],[[71,82,69,65,84,69,82],wOR,wEQUAL]),([62,61],[[71,82,69,65,84,69,82],wTHAN,wOR,wEQUAL,wTO]),([60,61],[[60,61]]),([60,61],[[76,69,83,83],wTHAN,wOR,wEQUAL]),([60,61],[[76,69,83,83],wOR,wEQUAL,wTO])]
noncomputable def Win (ts:List WT) (a:Int) (ws:List CS):Prop := ∀ i:Nat,i < ws.length→atW ts (a + i)=ws[i]?.map tokOf
theorem win_cons {ts:List WT} {a:Int} {w:CS} {ws:List CS} (h:Win ts a (w :: ws)):atW ts a=some (tokOf w)∧Win ts (a + 1) ws:=by
  refine ⟨by have:=h 0 (by simp); simpa using this,fun i hi => ?_⟩
  have:=h (i + 1) (by simpa using hi)
  rw [show a + 1 + (i:Int)=a + ((i + 1:Nat):Int) by omega]
  simpa using this
theorem win_wd {ts:List WT} {a:Int} {w:CS} {ws:List CS} (h:Win ts a (w :: ws)):wdH ts a=if alphaW w then w else []:=by
  obtain ⟨h,_⟩:=win_cons h
  unfold wdH
  rw [h]
  unfold tokOf
  by_cases q:alphaW w=true
  · simp [q]
  · have : ¬ sSign = sWord := by decide
    simp [q,this]
noncomputable def spM (w:CS) (p o e:Bool):CS × List CS:=(wrS w ++ (if o then [61] else []),w :: ((if p then [if w=wEQUAL then wTO else wTHAN] else []) ++ (if o then wOR :: wEQUAL :: (if e then [wTO] else []) else [])))
theorem spelW_cases {q:CS × List CS} (h:q ∈ spelW):(∃ s ∈ relS,q=(s,[s])) ∨ (∃ w ∈ wrDK, ∃ p o e:Bool,(o=true→w ≠ wEQUAL)∧q=spM w p o e) :=
  of_decide_eq_true (List.all_eq_true.mp (show (spelW.all fun q=>decide ((∃ s ∈ relS,q=(s,[s])) ∨ (∃ w ∈ wrDK, ∃ p o e:Bool,(o=true→w ≠ wEQUAL)∧q=spM w p o e)))=true by decide +kernel) q h)
theorem tok_rel {s:CS} (h:s ∈ relS):tokOf s=(sSign,s):=of_decide_eq_true (List.all_eq_true.mp (show (relS.all fun s=>decide (tokOf s=(sSign,s)))=true by decide) s h)
theorem tok_wr {s:CS} (h:s ∈ wrDK):tokOf s=(sWord,s)∧alphaW s=true:=of_decide_eq_true (List.all_eq_true.mp (show (wrDK.all fun s=>decide (tokOf s=(sWord,s)∧alphaW s=true))=true by decide) s h)
theorem nWS : ¬ sWord=sSign:=by decide
theorem spel_ok {ts : List WT} {b : Int} {q : CS × List CS} (hq : q ∈ spelW) (hw : Win ts b q.2) (h1 : ¬ wdH ts (b + q.2.length) = wTO) (h2 : ¬ wdH ts (b + q.2.length) = wTHAN) (h3 : ¬ wdH ts (b + q.2.length) = wOR) :
    isRel ts b=true∧sgH ts b=(q.1,b + q.2.length):=by
  rcases spelW_cases hq with ⟨s,hs,rfl⟩ | ⟨w,hr,p,o,e,ho,rfl⟩
  · have t0 := (win_cons hw).1
    rw [tok_rel hs] at t0
    refine ⟨?_, ?_⟩
    · rw [relO t0]
      show (decide (sSign=sSign) && decide (s ∈ relS) || _)=true
      rw [dT hs]
      rfl
    · unfold sgH
      rw [t0]
      rfl
  · obtain ⟨k1, k2⟩ := tok_wr hr
    obtain ⟨t0,hw⟩:=win_cons hw
    have w0:wdH ts b=w:=by unfold wdH; rw [t0,k1]; exact if_pos rfl
    rw [k1] at t0
    refine ⟨?_, ?_⟩
    · rw [relO t0,w0,dT hr,Bool.or_true]
    · have aT : alphaW (if w = wEQUAL then wTO else wTHAN) = true := by split <;> rfl
      have hn : ∀ {j:Int} {x:CS}, ¬ wdH ts j=wTO → ¬ wdH ts j=wTHAN → ¬ isWd ts j (if w=wEQUAL then wTO else wTHAN)=true:=fun {j x} a1 a2=>by
        rw [isWd_eq (by split <;> decide),decide_eq_true_eq]
        split <;> assumption
      have key : ∃ a2,(if isWd ts (b + 1) (if w=wEQUAL then wTO else wTHAN)=true then b + 1 + 1 else b + 1)=a2∧a2=b + 1 + ((if p then [if w=wEQUAL then wTO else wTHAN] else []).length:Int)∧Win ts a2 (if o then wOR :: wEQUAL :: (if e then [wTO] else []) else []):=by
        cases p with
        | true =>
          obtain ⟨_,hw'⟩:=win_cons hw
          have:=win_wd hw
          rw [if_pos aT] at this
          exact ⟨_,if_pos (by rw [isWd_eq (by split <;> decide)]; exact dT this),rfl,hw'⟩
        | false =>
          refine ⟨_,if_neg ?_,(Int.add_zero _).symm,hw⟩
          cases o with
          | true =>
            have:=win_wd hw
            exact hn (x:=[]) (by rw [this]; decide) (by rw [this]; decide)
          | false=>exact hn (x:=[]) h1 h2
      obtain ⟨a2,e1,e2,hw2⟩:=key
      rw [sgW t0 nWS e1]
      have hl : ∀ l:List CS,b + ((w :: ((if p then [if w=wEQUAL then wTO else wTHAN] else []) ++ l)).length:Int)=a2 + l.length:=fun l=>by
        rw [e2,List.length_cons,List.length_append]
        omega
      have hl':b + ((spM w p o e).2.length:Int)=a2 + ((if o then wOR :: wEQUAL :: (if e then [wTO] else []) else []:List CS).length:Int):=hl _
      rw [hl'] at h1 h3 ⊢
      cases o with
      | false =>
        rw [if_neg (fun z=>h3 (by rw [show a2 + ((if false=true then wOR :: wEQUAL :: (if e then [wTO] else []) else []:List CS).length:Int)=a2 from Int.add_zero _]; exact z.2.1))]
        show (wrS w,a2)=(wrS w ++ [],a2 + 0)
        rw [List.append_nil,Int.add_zero]
      | true =>
        obtain ⟨_,hw3⟩:=win_cons hw2
        rw [if_pos ⟨ho rfl,win_wd hw2,win_wd hw3⟩]
        obtain ⟨_,hw4⟩:=win_cons hw3
        refine Prod.ext rfl ?_
        cases e with
        | true=>exact (if_pos (by rw [isWd_eq (by decide)]; exact dT (win_wd hw4))).trans (by show a2 + 1 + 1 + 1=a2 + 3; omega)
        | false =>
          have e3:a2 + 1 + 1=a2 + 2:=by omega
          exact (if_neg (by rw [isWd_eq (by decide),e3]; exact fun z=>h1 (of_decide_eq_true z))).trans e3
end
section
open PySem

section
variable {π γ γ1 γ2:List Cell} {ts:List WT} {a b:Int} {nm:V} {c c':Cell} {i:Nat} {isn last last' v:V} {dep:Int}
noncomputable def folOK:Option WT→Bool
  | none=>true
  | some t => !(decide (t.1=sSign) && decide (t.2 ∈ [[43],[45],[42],[47],[42,42],[40]])) && !(decide (t.1=sWord) && decide (t.2 ∈ [[79,70],[73,78]]))
theorem plain_of (h : folOK (atW ts a) = true) : plainF ts a = true := by
  unfold folOK at h
  unfold plainF sgA isWd isSg
  cases q:atW ts a with
  | none=>simp
  | some t =>
    rw [q] at h
    simp only [List.mem_cons,List.not_mem_nil,or_false,Bool.and_eq_true,Bool.not_eq_true',Bool.and_eq_false_iff,decide_eq_false_iff_not,not_or] at h
    by_cases e1:t.1=sSign
    · have e2 : ¬ t.1 = sWord := by rw [e1]; decide
      have h1:=h.1.resolve_left (by simp [e1])
      simp [e1,e2,h1]
    · by_cases e2 : t.1 = sWord
      · have h2 := h.2.resolve_left (by simp [e2])
        simp [e1,e2,h2]
      · simp [e1,e2]
noncomputable def nmOK (w:CS):Bool:=alphaW w && !resv w && !(decide (w=[65,76,76])) && !(figDK.contains w) && decide (w ≠ wNOT) && decide (w ≠ wIS) && !decide (w ∈ wrDK)
theorem exo_name (hs:tsOk ts=true) (ha:0≤a) {w:CS} (hw:nmOK w=true) (h:atW ts a=some (tokOf w)) (hf:folOK (atW ts (a + 1))=true):ExO π ts nm a (.ok (refV w)) (a + 1) [.list []]:=by
  intro γ n
  have hp:=plain_of hf
  have hp':=hp
  simp only [nmOK,Bool.and_eq_true,Bool.not_eq_true',decide_eq_false_iff_not] at hw
  obtain ⟨⟨⟨⟨⟨⟨w1,w2⟩,w3⟩,w4⟩,w5⟩,w6⟩,w7⟩:=hw
  have ht:tokOf w=(sWord,w):=by simp [tokOf,w1]
  rw [ht] at h
  simp only [plainF,Bool.and_eq_true,decide_eq_true_eq,Bool.not_eq_true'] at hp
  obtain ⟨⟨⟨⟨⟨f1,f2⟩,f3⟩,f4⟩,f5⟩,f6⟩:=hp
  have nWS : ¬ sWord=sSign:=by decide
  have nWN : ¬ sWord=sNumber:=by decide
  have nWL : ¬ sWord=sLiteral:=by decide
  have h0:sgA ts a [[43],[45]]=[]:=by simp [sgA,h,nWS]
  have h1:isSg ts a [40]=false:=by simp [isSg,h,nWS]
  have hn:isNm ts a=true:=by simp [isNm,h,w2]
  have w4' : ¬ w ∈ figDK:=by simpa using w4
  have hl:noLit ts a=true:=by simp [noLit,isSg,isK,isWd,isFig,h,nWS,nWN,nWL,w3,w4']
  have c1:=chain_ok hs ha h0 (d:=0) (by decide) (nm:=nm) (γ:=γ) (by omega) hp' (primary_op hs ha h0 h1 (d := .int 0) (r := .ok (refV w) (enc π ts (a + 1) nm (γ ++ [.list []]))) (operand_ok hs ha hl h hn f4 f5 f6))
  exact expr_s c1 (n + 60)
noncomputable def badOp:Option WT→Bool
  | none=>true
  | some t => !(decide (t.1=sSign) && decide (t.2 ∈ [[43],[45],[40]])) && !decide (t.1=sNumber) && !decide (t.1=sLiteral) && !(decide (t.1=sWord) && (!resv t.2 || decide (t.2=[65,76,76]) || figDK.contains t.2))
theorem exo_no (hs : tsOk ts = true) (hne : ts ≠ []) (ha : 0 ≤ a) (hb : badOp (atW ts a) = true) : ExO π ts nm a (.error (excC mName (ftP ts a))) a [] := by
  intro γ n
  have all:sgA ts a [[43],[45]]=[]∧isSg ts a [40]=false∧isNm ts a=false∧noLit ts a=true:=by
    unfold badOp at hb
    cases q:atW ts a with
    | none=>simp [sgA,isSg,isNm,noLit,isK,isWd,isFig,q]
    | some t =>
      rw [q] at hb
      simp only [List.mem_cons,List.not_mem_nil,or_false,Bool.and_eq_true,Bool.not_eq_true',Bool.and_eq_false_iff,decide_eq_false_iff_not,not_or,Bool.or_eq_false_iff,Bool.not_eq_false'] at hb
      obtain ⟨⟨⟨b1,b2⟩,b3⟩,b4⟩:=hb
      by_cases e1:t.1=sSign
      · have e2 : ¬ t.1 = sWord := by rw [e1]; decide
        have h1:=b1.resolve_left (by simp [e1])
        have n1 : ¬ sSign=sWord:=by decide
        have n2 : ¬ sSign=sNumber:=by decide
        have n3 : ¬ sSign=sLiteral:=by decide
        refine ⟨?_, ?_, ?_, ?_⟩ <;> simp [sgA,isSg,isNm,noLit,isK,isWd,isFig,q,e1,h1,n1,n2,n3]
      · by_cases e2 : t.1 = sWord
        · have h2 := b4.resolve_left (by simp [e2])
          have n2 : ¬ sWord=sNumber:=by decide
          have n3 : ¬ sWord=sLiteral:=by decide
          have n4 : ¬ sWord=sSign:=by decide
          obtain ⟨⟨q1,q2⟩,q3⟩:=h2
          refine ⟨?_, ?_, ?_, ?_⟩ <;> simp [sgA,isSg,isNm,noLit,isK,isWd,isFig,q,e2,n2,n3,n4,q1,q2] <;> simpa using q3
        · refine ⟨?_, ?_, ?_, ?_⟩ <;> simp [sgA,isSg,isNm,noLit,isK,isWd,isFig,q,e1,e2,b2,b3]
  obtain ⟨h0,h1,hn,hl⟩:=all
  have c1:=chain_ex hs ha h0 (d:=0) (by decide) (nm:=nm) (γ:=γ) (primary_op hs ha h0 h1 (d := .int 0) (r := .ex (cI π ts γ) (enc π ts a nm (γ ++ [excC mName (ftP ts a)]))) (operand_ex hs hne ha hl hn))
  have:=expr_s c1 (n + 60)
  simpa using this
noncomputable def isnt (is nt:Bool):List CS:=(if is then [wIS] else []) ++ (if nt then [wNOT] else [])
theorem isnt_ok {is nt:Bool} {f:CS} {rest:List CS} (h:Win ts a (isnt is nt ++ (f :: rest))) (hf1:f ≠ wIS) (hf2:f ≠ wNOT):plc ts a=((isnt is nt).length:Int)∧ntW ts a=nt∧Win ts (a + plc ts a) (f :: rest):=by
  have aI:alphaW wIS=true:=rfl
  have aN:alphaW wNOT=true:=rfl
  have d1 : ¬ wIS=wNOT:=by decide
  have d2 : ¬ wNOT=wIS:=by decide
  have e1 : ¬ ([]:CS)=wIS:=by decide
  have e2 : ¬ ([]:CS)=wNOT:=by decide
  have hfw : ∀ {b:Int},Win ts b (f :: rest) → ¬ wdH ts b=wIS ∧ ¬ wdH ts b=wNOT:=fun h=>by
    have:=win_wd h
    rw [this]
    split
    · exact ⟨hf1,hf2⟩
    · exact ⟨e1,e2⟩
  cases is <;> cases nt
  · obtain ⟨q1, q2⟩ := hfw h
    have hp:plc ts a=0:=by simp [plc,q1,q2]
    exact ⟨by rw [hp]; rfl,by simp [ntW,q1,q2],by rw [hp,Int.add_zero]; exact h⟩
  · have w1 := win_wd h
    obtain ⟨_,h'⟩:=win_cons h
    have q0:wdH ts a=wNOT:=w1
    have hp:plc ts a=1:=by simp [plc,q0,d2]
    exact ⟨by rw [hp]; rfl,by simp [ntW,q0,d2],by rw [hp]; exact h'⟩
  · have w1 := win_wd h
    obtain ⟨_,h'⟩:=win_cons h
    obtain ⟨q1,q2⟩:=hfw h'
    have q0:wdH ts a=wIS:=w1
    have hp:plc ts a=1:=by simp [plc,q0,q2]
    exact ⟨by rw [hp]; rfl,by simp [ntW,q0,q2],by rw [hp]; exact h'⟩
  · have w1 := win_wd h
    obtain ⟨_,h'⟩:=win_cons h
    have w2:=win_wd h'
    obtain ⟨_,h''⟩:=win_cons h'
    have q0:wdH ts a=wIS:=w1
    have q1:wdH ts (a + 1)=wNOT:=w2
    have hp:plc ts a=2:=by simp [plc,q0,q1]
    exact ⟨by rw [hp]; rfl,by simp [ntW,q0,q1],by rw [hp,show a + 2=a + 1 + 1 by omega]; exact h''⟩
theorem win_app {l1 l2:List CS} (h:Win ts a (l1 ++ l2)):Win ts a l1∧Win ts (a + l1.length) l2:=by
  refine ⟨fun i hi => ?_,fun i hi => ?_⟩
  · rw [h i (by rw [List.length_append]; omega),List.getElem?_append_left hi]
  · have := h (l1.length + i) (by rw [List.length_append]; omega)
    rw [List.getElem?_append_right (by omega),show l1.length + i - l1.length=i by omega] at this
    rw [show a + (l1.length:Int) + (i:Int)=a + ((l1.length + i:Nat):Int) by omega]
    exact this
theorem spel_cons {q:CS × List CS} (hq:q ∈ spelW) : ∃ f r,q.2=f :: r∧f ≠ wIS∧f ≠ wNOT∧folOK (some (tokOf f))=true:=by
  have:spelW.all (fun q=>match q.2 with | f :: _=>decide (f ≠ wIS) && decide (f ≠ wNOT) && folOK (some (tokOf f)) | []=>false)=true:=by decide
  have:=List.all_eq_true.mp this q hq
  split at this
  · rename_i f r e
    simp only [Bool.and_eq_true,decide_eq_true_eq] at this
    exact ⟨f,r,e,this.1.1,this.1.2,this.2⟩
  · cases this
theorem told_rel (hs:tsOk ts=true) (ha:0≤a) {w:CS} (hw:nmOK w=true) {is nt:Bool} {q:CS × List CS} (hq:q ∈ spelW) (hwin:Win ts a (w :: (isnt is nt ++ q.2))) {e:Int} (he:e=a + 1 + (isnt is nt).length + q.2.length)
    (h1 : ¬ wdH ts e=wTO) (h2 : ¬ wdH ts e=wTHAN) (h3 : ¬ wdH ts e=wOR) {o:Except Cell V} {a':Int} {g:List Cell} (hx:ExO π ts nm e o a' g) (hN:NmO π ts nm isn w false) :
    CO 284 π ts nm isn dep 328 [] a last (o.map fun v => .tup [.str tRel, .str (if nt then oppS q.1 else q.1),refV w,v]) a' (.tup [refV w, .str (if nt then oppS q.1 else q.1)]) ([.list []] ++ g):=by
  obtain ⟨f,r,hqc,hf1,hf2,hff⟩:=spel_cons hq
  obtain ⟨t0,hwin1⟩:=win_cons hwin
  rw [hqc] at hwin1
  obtain ⟨p1,p2,p3⟩:=isnt_ok hwin1 hf1 hf2
  rw [← hqc] at p3
  have hb:a + 1 + plc ts (a + 1) + (q.2.length:Int)=e:=by rw [p1,he]
  obtain ⟨s1,s2⟩:=spel_ok hq p3 (by rw [hb]; exact h1) (by rw [hb]; exact h2) (by rw [hb]; exact h3)
  have hnx:folOK (atW ts (a + 1))=true:=by
    cases is <;> cases nt
    · rw [(win_cons hwin1).1]; exact hff
    · rw [(win_cons hwin1).1]; rfl
    · rw [(win_cons hwin1).1]; rfl
    · rw [(win_cons hwin1).1]; rfl
  have hw':=hw
  simp only [nmOK,Bool.and_eq_true,Bool.not_eq_true',decide_eq_false_iff_not,decide_eq_true_eq] at hw'
  obtain ⟨⟨⟨⟨⟨⟨w1,w2⟩,w3⟩,w4⟩,w5⟩,w6⟩,w7⟩:=hw'
  have htk:tokOf w=(sWord,w):=by simp [tokOf,w1]
  have t0':=t0
  rw [htk] at t0'
  have wd0:wdH ts a=w:=by simp [wdH,t0']
  have pl0:plc ts a=0:=by simp [plc,wd0,w5,w6]
  have nWS : ¬ sWord=sSign:=by decide
  have rel0:isRel ts (a + plc ts a)=false:=by rw [pl0,Int.add_zero]; simp [isRel,t0',nWS,wd0,w7]
  have sg0:isSg ts a [40]=false:=by simp [isSg,t0',nWS]
  have ha1:0≤a + 1:=by omega
  have hrel:=relation_s (π:=π) (nm:=nm) (isn:=isn) (dep:=dep) (last:=last) hs ha1 s1 (x:=refV w) (o:=o) (a':=a') (g:=g) (by rw [s2]; simp only [hb]; exact hx)
  have hsg:sgT ts (a + 1)=if nt then oppS q.1 else q.1:=by simp only [sgT,p2,s2]
  rw [hsg] at hrel
  have hpr:isPred ts (a + 1 + plc ts (a + 1))=true:=by simp [isPred,s1]
  have hcl : ¬ wdH ts (a + 1 + plc ts (a + 1)) ∈ clsS ∧ ¬ wdH ts (a + 1 + plc ts (a + 1)) ∈ wsDK:=by
    rw [hqc] at p3
    rw [win_wd p3]
    have:spelW.all (fun q=>match q.2 with | f :: _ => !decide ((if alphaW f then f else []) ∈ clsS) && !decide ((if alphaW f then f else []) ∈ wsDK) | []=>false)=true:=by decide
    have:=List.all_eq_true.mp this q hq
    rw [hqc] at this
    simpa using this
  exact turned_no hs ha (by simp [wd0,w5]) (K:=0) (single_un hs ha sg0 (unb_pred hs ha rel0 ha1 (exo_name hs ha hw t0 hnx) hN hpr (predicate_rel hs ha1 hcl.1 hcl.2 hrel)))
noncomputable def othW:List (CS × CS × CS):=[([99,108,97,115,115],[78,85,77,69,82,73,67],[78,85,77,69,82,73,67]),([99,108,97,115,115],[65,76,80,72,65,66,69,84,73,67],[65,76,80,72,65,66,69,84,73,67]),([99,108,97,115,115],[65,76,80,72,65,66,69,84,73,67,45,76,79,87,69,82],[65,76,80,72,65,66,69,84,73,67,45,76,79,87,69,82]),
  ([99,108,97,115,115],[65,76,80,72,65,66,69,84,73,67,45,85,80,80,69,82],[65,76,80,72,65,66,69,84,73,67,45,85,80,80,69,82]),([115,105,103,110],[80,79,83,73,84,73,86,69],[80,79,83,73,84,73,86,69]),([115,105,103,110],[78,69,71,65,84,73,86,69],[78,69,71,65,84,73,86,69]),([115,105,103,110],[90,69,82,79],[90,69,82,79]),([115,105,103,110],[90,69,82,79],[90,69,82,79,83]),([115,105,103,110],[90,69,82,79],[90,69,82,79,69,83])]
theorem oth_ok {q:CS × CS × CS} (hq:q ∈ othW):(q.2.2 ≠ wIS∧q.2.2 ≠ wNOT∧folOK (some (tokOf q.2.2))=true∧alphaW q.2.2=true)∧(q.2.2 ∈ clsS ∨ q.2.2 ∈ wsDK) ∧ ∀ x,clsV q.2.2 x = .tup [.str q.1, .str q.2.1,x]:=by
  have h1:othW.all (fun q=>decide (q.2.2 ≠ wIS) && decide (q.2.2 ≠ wNOT) && folOK (some (tokOf q.2.2)) && alphaW q.2.2 && (decide (q.2.2 ∈ clsS) || decide (q.2.2 ∈ wsDK)))=true:=by decide
  have h1:=List.all_eq_true.mp h1 q hq
  simp only [Bool.and_eq_true,decide_eq_true_eq,Bool.or_eq_true] at h1
  refine ⟨⟨h1.1.1.1.1,h1.1.1.1.2,h1.1.1.2,h1.1.2⟩,h1.2,fun x => ?_⟩
  simp only [othW,List.mem_cons,List.not_mem_nil,or_false] at hq
  rcases hq with rfl | rfl | rfl | rfl | rfl | rfl | rfl | rfl | rfl <;> rfl
theorem told_oth (hs:tsOk ts=true) (ha:0≤a) {w:CS} (hw:nmOK w=true) {is nt:Bool} {q:CS × CS × CS} (hq:q ∈ othW) (hwin:Win ts a (w :: (isnt is nt ++ [q.2.2]))) (hN:NmO π ts nm isn w false) :
    CO 284 π ts nm isn dep 328 [] a last (.ok (if nt then .tup [.str tNot, .tup [.str q.1, .str q.2.1,refV w]] else .tup [.str q.1, .str q.2.1,refV w])) (a + 1 + (isnt is nt).length + 1) .none ([.list []] ++ []):=by
  obtain ⟨⟨hf1,hf2,hff,hal⟩,hcl,hcv⟩:=oth_ok hq
  obtain ⟨t0,hwin1⟩:=win_cons hwin
  obtain ⟨p1,p2,p3⟩:=isnt_ok hwin1 hf1 hf2
  have hnx:folOK (atW ts (a + 1))=true:=by
    cases is <;> cases nt
    · rw [(win_cons hwin1).1]; exact hff
    · rw [(win_cons hwin1).1]; rfl
    · rw [(win_cons hwin1).1]; rfl
    · rw [(win_cons hwin1).1]; rfl
  have hw':=hw
  simp only [nmOK,Bool.and_eq_true,Bool.not_eq_true',decide_eq_false_iff_not,decide_eq_true_eq] at hw'
  obtain ⟨⟨⟨⟨⟨⟨w1,w2⟩,w3⟩,w4⟩,w5⟩,w6⟩,w7⟩:=hw'
  have htk:tokOf w=(sWord,w):=by simp [tokOf,w1]
  have t0':=t0
  rw [htk] at t0'
  have wd0:wdH ts a=w:=by simp [wdH,t0']
  have pl0:plc ts a=0:=by simp [plc,wd0,w5,w6]
  have nWS : ¬ sWord=sSign:=by decide
  have rel0:isRel ts (a + plc ts a)=false:=by rw [pl0,Int.add_zero]; simp [isRel,t0',nWS,wd0,w7]
  have sg0:isSg ts a [40]=false:=by simp [isSg,t0',nWS]
  have ha1:0≤a + 1:=by omega
  have hwd:wdH ts (a + 1 + plc ts (a + 1))=q.2.2:=by rw [win_wd p3,hal]; rfl
  have hpr:isPred ts (a + 1 + plc ts (a + 1))=true:=by
    unfold isPred
    rw [hwd]
    rcases hcl with h | h <;> simp [h]
  have hc:=predicate_cls (π:=π) (nm:=nm) (isn:=isn) (dep:=dep) (last:=last) hs ha1 (by rw [hwd]; exact hcl) (x:=refV w)
  rw [hwd,hcv,p2,p1] at hc
  exact turned_no hs ha (by simp [wd0,w5]) (K:=0) (single_un hs ha sg0 (unb_pred hs ha rel0 ha1 (exo_name hs ha hw t0 hnx) hN hpr hc))
end
end
section
open PySem

section
variable {π γ γ1 γ2:List Cell} {ts:List WT} {a b:Int} {nm:V} {c c':Cell} {i:Nat} {isn last last' v:V} {dep:Int}
noncomputable abbrev tFault:CS:=[102,97,117,108,116]
theorem heard_ok {o:V} {a':Int} {g:List Cell} (hx:CO 330 π ts nm (.clo 1 [.ref (rI π ts)]) 0 326 [] a .none (.ok o) a' last' g) (n:Nat) :
    callV TB (n + 360) (.base 45) [.ref (rI π ts)] (enc π ts a nm γ)=some (.ok o (enc π ts a' nm (γ ++ (crC π ts (.clo 1 [.ref (rI π ts)]) 0 last' :: g)))):=by
  refine (c45 _).trans ?_
  delta bd__law_heard
  wide_open with 2 using [ssYn,tg37,pT2a,read_cond0 hx]
theorem enc_newc:(enc π ts a nm (γ1 ++ c :: (γ2 ++ [c'])))[cI π ts (γ1 ++ c :: γ2)]? = some c':=by
  rw [← ap3]
  exact enc_new
theorem enc_exc {w:CS} {p:Int}:(enc π ts a nm (γ1 ++ c :: (γ2 ++ [excC w p])))[cI π ts (γ1 ++ c :: γ2)]? = some (.exc 0 [(10, .str w),(1, .tup [.int 1, .int p])]):=enc_newc
theorem aExc {w:CS} {p:Int}:attrV (enc π ts a nm (γ1 ++ c :: (γ2 ++ [excC w p]))) 1 (.ref (cI π ts (γ1 ++ c :: γ2)))=some (.tup [.int 1, .int p]):=by
  unfold attrV
  dsimp only
  rw [enc_exc]
  rfl
theorem heardF {a b c d v:Option V}:((([a,b,c,d]:Fr).set 3 v).set 2 v).set 3 none=[a,b,v,none]:=rfl
theorem heardK {a b c d:Option V} {v:V}:(([a,b,c,d]:Fr).set 3 (some v))[3]? = some (some v):=rfl
theorem heard_ex {what:CS} {p:Int} {a':Int} {g:List Cell} (hx:CO 330 π ts nm (.clo 1 [.ref (rI π ts)]) 0 326 [] a .none (.error (excC what p)) a' last' g) (n:Nat) :
    callV TB (n + 360) (.base 45) [.ref (rI π ts)] (enc π ts a nm γ)=some (.ok (.tup [.str tFault, .tup [.int 1, .int p]]) (enc π ts a' nm (γ ++ (crC π ts (.clo 1 [.ref (rI π ts)]) 0 last' :: (g ++ [excC what p]))))):=by
  refine (c45 _).trans ?_
  delta bd__law_heard
  wide_open with 2 using [ssYx,tg37,pT2a,ssAE,read_cond0 hx,enc_exc,heardK,heardF,aExc]
noncomputable def okW:CS→Bool
  | c :: r=>(alphaW (c :: r) || !(Nat.ble 48 c && Nat.ble c 57) && !Nat.beq c 39) && isData (.str (c :: r)) && decide (r.length≤800)
  | []=>false
noncomputable def encP (π:List Cell) (ts:List WT):List Cell:=π ++ (.list ((List.range ts.length).map fun i=>V.ref (π.length + 1 + i)) :: toksC 0 ts)
theorem encP_len:(encP π ts).length=π.length + 1 + ts.length:=by simp [encP,toksC_len]; omega
theorem tok_init {σ:List Cell} {k w p:V} (n:Nat):callV TB (n + 20) (.base 199) [.ref σ.length,k,w,p] (σ ++ [.inst 1 []])=some (.ok .none (σ ++ [.inst 1 [(3,k),(4,w),(1,p),(5, .bool false)]])):=by
  have s3:setA (σ ++ [.inst 1 []]) (.ref σ.length) 3 k=some (σ ++ [.inst 1 [(3,k)]]):=setN rfl rfl
  have s4:setA (σ ++ [.inst 1 [(3,k)]]) (.ref σ.length) 4 w=some (σ ++ [.inst 1 [(3,k),(4,w)]]):=setN rfl rfl
  have s1:setA (σ ++ [.inst 1 [(3,k),(4,w)]]) (.ref σ.length) 1 p=some (σ ++ [.inst 1 [(3,k),(4,w),(1,p)]]):=setN rfl rfl
  have s5:setA (σ ++ [.inst 1 [(3,k),(4,w),(1,p)]]) (.ref σ.length) 5 (.bool false)=some (σ ++ [.inst 1 [(3,k),(4,w),(1,p),(5, .bool false)]]):=setN rfl rfl
  refine (c199 _).trans ?_
  delta bd_Token___init__
  wide_open with 2 using [s3,s4,s1,s5]
theorem tok_new {σ:List Cell} {k w p:V} (n:Nat):callV TB (n + 22) (.base 1) [k,w,p] σ=some (.ok (.ref σ.length) (σ ++ [.inst 1 [(3,k),(4,w),(1,p),(5, .bool false)]])):=new_of ti1 tf1 (tok_init (n + 1))
theorem toksC_app : ∀ (l:List WT) (i:Nat) (t:WT),toksC i (l ++ [t])=toksC i l ++ [tokC (i + l.length) t]
  | [],i,t=>rfl
  | x :: l, i, t => by
    simp only [List.cons_append,toksC,toksC_app l,List.length_cons]
    rw [show i + 1 + l.length=i + (l.length + 1) by omega]
theorem encP_l:(encP π ts)[π.length]? = some (.list ((List.range ts.length).map fun i=>V.ref (π.length + 1 + i))):=by simp [encP]
theorem encP_l' {x:Cell}:(encP π ts ++ [x])[π.length]? = some (.list ((List.range ts.length).map fun i=>V.ref (π.length + 1 + i))):=by simp [encP]
theorem encP_snoc {t:WT}:(encP π ts ++ [tokC ts.length t]).set π.length (.list (((List.range ts.length).map fun i=>V.ref (π.length + 1 + i)) ++ [.ref (π.length + 1 + ts.length)]))=encP π (ts ++ [t]):=by
  simp [encP,List.range_succ,toksC_app]
theorem isSub_1 (c:Nat) : ∀ l:List Nat,isSub [c] l=l.any fun x=>decide (c=x)
  | []=>rfl
  | x :: t=>by simp only [isSub,isPre,isSub_1 c t,List.any_cons,Bool.and_true]
theorem dDig (c:Nat):isSub [c] [48,49,50,51,52,53,54,55,56,57]=(Nat.ble 48 c && Nat.ble c 57):=by
  by_cases h:c < 58
  · exact (show ∀ c,c < 58→isSub [c] [48,49,50,51,52,53,54,55,56,57]=(Nat.ble 48 c && Nat.ble c 57) by decide +kernel) c h
  · have e : Nat.ble c 57 = false := Bool.eq_false_iff.mpr fun q => h (Nat.lt_succ_of_le (Nat.le_of_ble_eq_true q))
    rw [isSub_1,e,Bool.and_false,List.any_eq_false]
    intro x hx q
    have z:x < 58:=of_decide_eq_true (List.all_eq_true.mp (show ([48,49,50,51,52,53,54,55,56,57]:List Nat).all (fun x=>decide (x < 58))=true by decide) x hx)
    exact h ((of_decide_eq_true q) ▸ z)
theorem cleA (c:Nat):cle [65] [c]=Nat.ble 65 c:=by
  unfold cle
  by_cases h:65≤c
  · rw [Nat.ble_eq.mpr h]; simp [List.cons_lt_cons_iff]; omega
  · rw [show Nat.ble 65 c=false from Bool.eq_false_iff.mpr fun q=>h (Nat.ble_eq.mp q)]; simp [List.cons_lt_cons_iff]; omega
theorem cleZ (c:Nat):cle [c] [90]=Nat.ble c 90:=by
  unfold cle
  by_cases h:c≤90
  · rw [Nat.ble_eq.mpr h]; simp [List.cons_lt_cons_iff]; omega
  · rw [show Nat.ble c 90=false from Bool.eq_false_iff.mpr fun q=>h (Nat.ble_eq.mp q)]; simp [List.cons_lt_cons_iff]; omega
noncomputable def rdTs:List (Nat × Pos):=[(2,⟨476,8,476,10⟩),(3,⟨476,12,476,16⟩)]
noncomputable abbrev rdST:List (Option V)→V→Option (List (Option V)):=stT rdTs
noncomputable def rdB:List S:=[.asN 4 ⟨477,8,477,12⟩ (.ite (.cmp2 (.str [65] ⟨477,25,477,28⟩) .LtE (.sub (.loc 3 ⟨477,32,477,36⟩) (.int 0 ⟨477,37,477,38⟩) ⟨477,32,477,39⟩) .LtE (.str [90] ⟨477,43,477,46⟩) ⟨477,25,477,46⟩) (.str [119,111,114,100] ⟨477,15,477,21⟩) (.ite (.cmp (.sub (.loc 3 ⟨477,64,477,68⟩) (.int 0 ⟨477,69,477,70⟩) ⟨477,64,477,71⟩) .In (.str [48,49,50,51,52,53,54,55,56,57] ⟨477,75,477,87⟩) ⟨477,64,477,87⟩) (.str [110,117,109,98,101,114] ⟨477,52,477,60⟩) (.ite (.cmp (.sub (.loc 3 ⟨477,106,477,110⟩) (.int 0 ⟨477,111,477,112⟩) ⟨477,106,477,113⟩) .Eq (.str [39] ⟨477,117,477,120⟩) ⟨477,106,477,120⟩) (.str [108,105,116,101,114,97,108] ⟨477,93,477,102⟩) (.str [115,105,103,110] ⟨477,126,477,132⟩) ⟨477,93,477,132⟩) ⟨477,52,477,132⟩) ⟨477,15,477,132⟩) ⟨477,8,477,132⟩,
    .expr (.meth (.loc 1 ⟨478,8,478,14⟩) 39 ⟨478,8,478,21⟩ [(.call (.glob 1 ⟨478,22,478,27⟩) [(.loc 4 ⟨478,28,478,32⟩),(.ite (.cmp (.loc 4 ⟨478,48,478,52⟩) .Eq (.str [108,105,116,101,114,97,108] ⟨478,56,478,65⟩) ⟨478,48,478,65⟩) (.slc (.loc 3 ⟨478,34,478,38⟩) (some (.int 1 ⟨478,39,478,40⟩)) (some (.neg (.int 1 ⟨478,42,478,43⟩) ⟨478,41,478,43⟩)) ⟨478,39,478,43⟩ ⟨478,34,478,44⟩) (.loc 3 ⟨478,71,478,75⟩) ⟨478,34,478,75⟩),(.tup [(.int 1 ⟨478,78,478,79⟩),(.bin (.loc 2 ⟨478,81,478,83⟩) .Add (.int 1 ⟨478,86,478,87⟩) ⟨478,81,478,87⟩)] 0 ⟨478,77,478,88⟩)] ⟨478,22,478,89⟩)] ⟨478,8,478,90⟩) ⟨478,8,478,90⟩]
theorem mL39':methF TB (encP π ts) (.ref π.length) 39=some none:=by
  unfold methF
  dsimp only
  rw [encP_l]
  rfl
theorem mApp (h:ts.length≤1000) {k w:CS}:methV (.ref π.length) 39 [.ref (encP π ts).length] (encP π ts ++ [.inst 1 [(3, .str k),(4, .str w),(1, .tup [.int 1, .int (ts.length + 1)]),(5, .bool false)]])=some (.ok .none (encP π (ts ++ [(k,w)]))):=by
  show (match (encP π ts ++ [_])[π.length]? with | some (.list l)=>if sml l.length then some (R.ok V.none ((encP π ts ++ [_]).set π.length (Cell.list (l ++ [V.ref (encP π ts).length])))) else none | _=>none)=_
  rw [encP_l',encP_len]
  dsimp only
  rw [List.length_map,List.length_range,if_pos (sml_of h)]
  exact congrArg (fun s=>some (R.ok V.none s)) (encP_snoc (t:=(k,w)))
theorem nF {T:Tabs} {st:Fr→V→Option Fr} {a:List S} {n m:Nat} {x y:Option V} {fr:Fr} {s:Sg}:exF T (n + 60 + 0) st a (enumV m []) (x :: y :: fr) s=some (.nx (x :: y :: fr) s):=rfl
theorem xDct0 {T:Tabs} {n:Nat} {p:Pos} {fr:Fr} {s:Sg}:exX T (n + 1) (.dct [] [] p) fr s=some (.ok (.dct [] []) s):=rfl
theorem rd_body {ch : Nat} {r : CS} (h1 : okW (ch :: r) = true) (hl' : ts.length ≤ 1000) {f0 f4 : Option V} (n : Nat) : exSs TB (n + 60) rdB [f0, some (.ref π.length), some (.int ts.length), some (.str (ch :: r)), f4] (encP π ts) =
    some (.nx [f0,some (.ref π.length),some (.int ts.length),some (.str (ch :: r)),some (.str (tokOf (ch :: r)).1)] (encP π (ts ++ [tokOf (ch :: r)]))):=by
  simp only [okW,Bool.and_eq_true] at h1
  obtain ⟨⟨q1,q2⟩,q3⟩:=h1
  have n1 : ¬ sWord=sLiteral:=by decide
  have n2 : ¬ sSign=sLiteral:=by decide
  delta rdB
  cases hz:alphaW (ch :: r) with
  | true =>
    have ha':=hz
    simp only [alphaW,Bool.and_eq_true] at ha'
    have k1:=(cleA ch).trans ha'.1
    have k2:=(cleZ ch).trans ha'.2
    rw [show tokOf (ch :: r)=(sWord,ch :: r) by unfold tokOf; rw [hz]; rfl]
    wide_open with 2 using [sStr0,xCmp2t,cLeB k1,cLeB k2,mL39',tg1,cEF dW dL n1,tok_new,mApp hl']
  | false =>
    have d1:isData (.str [39])=true:=by decide
    have d2:isData (.str [ch])=true:=Bool.and_eq_true_iff.mpr ⟨(Bool.and_eq_true_iff.mp (show (decide (ch < 1114112) && r.all fun c=>decide (c < 1114112))=true from q2)).1,rfl⟩
    rw [hz,Bool.false_or,Bool.and_eq_true] at q1
    have k1:isSub [ch] [48,49,50,51,52,53,54,55,56,57]=false:=by rw [dDig]; exact (Bool.not_eq_true' _).mp q1.1
    have k2 : ¬ [ch]=[39]:=by
      intro e
      have e:ch=39:=(List.cons.inj e).1
      subst e
      exact absurd q1.2 (by decide)
    rw [show tokOf (ch :: r)=(sSign,ch :: r) by unfold tokOf; rw [hz]; rfl]
    cases hy:Nat.ble 65 ch with
    | true =>
      have hz2:Nat.ble ch 90=false:=by
        rw [show alphaW (ch :: r)=(Nat.ble 65 ch && Nat.ble ch 90) from rfl,hy,Bool.true_and] at hz
        exact hz
      have k3:=(cleA ch).trans hy
      have k4:=(cleZ ch).trans hz2
      wide_open with 2 using [sStr0,xCmp2t,cLeB k3,cLeB k4,cSubB k1,cEF d2 d1 k2,mL39',tg1,cEF dS dL n2,tok_new,mApp hl']
    | false =>
      have k3:=(cleA ch).trans hy
      wide_open with 2 using [sStr0,xCmp2f,cLeB k3,cSubB k1,cEF d2 d1 k2,mL39',tg1,cEF dS dL n2,tok_new,mApp hl']
theorem rd_loop : ∀ (ws:List CS) (ts0:List WT) (f0 f2 f3 f4:Option V) (n:Nat),ws.all okW=true→ts0.length + ws.length≤900 → ∃ fr,exF TB (n + 60 + ws.length) rdST rdB (enumV ts0.length (ws.map .str)) [f0,some (.ref π.length),f2,f3,f4] (encP π ts0)=some (.nx (f0 :: some (.ref π.length) :: fr) (encP π (ts0 ++ ws.map tokOf))):=fun ws=>by
  induction ws with
  | nil=>exact fun ts0 f0 f2 f3 f4 n _ _=>⟨_,by rw [List.map_nil,List.map_nil,List.append_nil]; exact nF⟩
  | cons w ws ih =>
    intro ts0 f0 f2 f3 f4 n hk hl
    rw [List.all_cons,Bool.and_eq_true] at hk
    rw [List.length_cons] at hl
    obtain ⟨fr,ih⟩:=ih (ts0 ++ [tokOf w]) f0 (some (.int ts0.length)) (some (.str w)) (some (.str (tokOf w).1)) n hk.2 (by rw [List.length_append,List.length_singleton]; omega)
    rw [List.length_append,List.append_assoc] at ih
    refine ⟨fr, ?_⟩
    show exF TB (n + 60 + ws.length + 1) rdST rdB (.tup [.int ts0.length, .str w] :: enumV (ts0.length + 1) (ws.map .str)) _ _=_
    refine fC rfl ?_ (sqN ih)
    rw [Nat.add_right_comm]
    match w,hk.1 with
    | ch :: r,h1=>exact rd_body h1 (by omega) _
theorem rdr_init {σ:List Cell} {l:V} (n:Nat):callV TB (n + 20) (.base 299) [.ref σ.length,l] (σ ++ [.inst 2 []])=some (.ok .none (σ ++ [.inst 2 [(0,l),(1, .int 0),(2, .dct [] [])]])):=by
  have s0:setA (σ ++ [.inst 2 []]) (.ref σ.length) 0 l=some (σ ++ [.inst 2 [(0,l)]]):=setN rfl rfl
  have s1:setA (σ ++ [.inst 2 [(0,l)]]) (.ref σ.length) 1 (.int 0)=some (σ ++ [.inst 2 [(0,l),(1, .int 0)]]):=setN rfl rfl
  have s2:setA (σ ++ [.inst 2 [(0,l),(1, .int 0)]]) (.ref σ.length) 2 (.dct [] [])=some (σ ++ [.inst 2 [(0,l),(1, .int 0),(2, .dct [] [])]]):=setN rfl rfl
  refine (c299 _).trans ?_
  delta bd_Reader___init__
  wide_open with 2 using [s0,s1,s2,xDct0]
theorem rdr_new {σ:List Cell} {l:V} (n:Nat):callV TB (n + 30) (.base 2) [l] σ=some (.ok (.ref σ.length) (σ ++ [.inst 2 [(0,l),(1, .int 0),(2, .dct [] [])]])):=new_of ti2 tf2 (rdr_init (n + 9))
theorem encP_enc:encP π ts ++ [.inst 2 [(0, .ref π.length),(1, .int 0),(2, .dct [] [])]]=enc π ts 0 (.dct [] []) []:=by
  unfold encP enc
  rw [List.append_assoc]
  rfl
theorem rI_P:rI π ts=(encP π ts).length:=by rw [encP_len]; unfold rI; omega
theorem eP0:π ++ [.list []]=encP π []:=rfl
theorem reader_s {ws:List CS} (hk:ws.all okW=true) (hl:ws.length≤180) (n:Nat):callV TB (n + 250) (.base 42) [.lst (ws.map .str)] π=some (.ok (.ref (rI π (ws.map tokOf))) (enc π (ws.map tokOf) 0 (.dct [] []) [])):=by
  obtain ⟨fr,hlp⟩:=rd_loop (π:=π) ws [] (some (.lst (ws.map .str))) none none none (n + (186 - ws.length)) hk (by rw [List.length_nil]; omega)
  rw [show n + (186 - ws.length) + 60 + ws.length=n + 246 by omega,List.nil_append,List.length_nil] at hlp
  delta rdST rdB rdTs at hlp
  rw [rI_P, ← encP_enc]
  refine (c42 _).trans ?_
  delta bd__law_reader
  wide_open with 2 using [eP0,hlp,tg2,rdr_new,rfl]
end
end
section
open PySem

noncomputable def Pen (N:Nat) (c:Cell):Prop := ∃ (l:List Int) (spot rest seed:Int),c = .list [.lst (l.map .int), .int spot, .int rest, .int seed]∧l.length≤63∧0≤spot∧spot≤N∧0≤rest∧0≤seed∧seed < 1009
section
variable {N:Nat} {l:List Int} {spot rest seed m x:Int} {ρ:List Cell}
noncomputable abbrev penC (l:List Int) (spot rest seed:Int):Cell := .list [.lst (l.map .int), .int spot, .int rest, .int seed]
theorem pS0:subV (penC l spot rest seed :: ρ) (.ref 0) (.int 0)=some (.lst (l.map .int)):=rfl
theorem pS1:subV (penC l spot rest seed :: ρ) (.ref 0) (.int 1)=some (.int spot):=rfl
theorem pS2:subV (penC l spot rest seed :: ρ) (.ref 0) (.int 2)=some (.int rest):=rfl
theorem pS3:subV (penC l spot rest seed :: ρ) (.ref 0) (.int 3)=some (.int seed):=rfl
theorem pG:(penC l spot rest seed :: ρ)[0]? = some (.list [.lst (l.map .int), .int spot, .int rest, .int seed]):=rfl
theorem pH1 {a b c d:V}:0≤(1:Int)∧(1:Int)≤1000∧(1:Int).toNat < [a,b,c,d].length:=⟨by decide,by decide,Nat.le_of_ble_eq_true rfl⟩
theorem pH2 {a b c d:V}:0≤(2:Int)∧(2:Int)≤1000∧(2:Int).toNat < [a,b,c,d].length:=⟨by decide,by decide,Nat.le_of_ble_eq_true rfl⟩
theorem pU1 {a b c d v:V} {x:Cell}:(x :: ρ).set 0 (.list ([a,b,c,d].set (1:Int).toNat v)) = .list [a,v,c,d] :: ρ:=rfl
theorem pU2 {a b c d v:V} {x:Cell}:(x :: ρ).set 0 (.list ([a,b,c,d].set (2:Int).toNat v)) = .list [a,b,v,d] :: ρ:=rfl
theorem pLen {s:Sg} (h:l.length≤1000):bifV s 0 [.lst (l.map .int)]=some (.int l.length):=by
  show (if sml (l.map V.int).length then some (V.int (l.map V.int).length) else none)=_
  rw [List.length_map]
  exact if_pos (sml_of h)
theorem pSub {s:Sg} (h2:0≤spot) (hs:spot≤1000) (hx:l[spot.toNat]? = some x):subV s (.lst (l.map .int)) (.int spot)=some (.int x):=by
  show (if 0≤spot∧spot≤1000 then (l.map V.int)[spot.toNat]? else none)=_
  rw [if_pos ⟨h2,hs⟩,List.getElem?_map,hx]
  rfl
theorem bMod {s:Sg} {y:Int} (h:y ≠ 0):binV s .Mod (.int x) (.int y)=some (.int (x.fmod y)):=if_pos h
theorem bFd {s:Sg} {y:Int} (h:y ≠ 0) (h2:y.natAbs < 2 ^ 64):binV s .FloorDiv (.int x) (.int y)=some (.int (x.fdiv y)):=if_pos (c:=y ≠ 0∧y.natAbs < 2 ^ 64) ⟨h,h2⟩
theorem bMul {s:Sg} {y:Int} (h:x.natAbs < 2 ^ 64):binV s .Mult (.int x) (.int y)=some (.int (x * y)):=if_pos h
theorem bFd7 {s:Sg}:binV s .FloorDiv (.int x) (.int 7)=some (.int (x.fdiv 7)):=bFd (by decide) (by decide)
theorem bMul2 {s:Sg} {y:Int}:binV s .Mult (.int 2) (.int y)=some (.int (2 * y)):=bMul (by decide)
theorem bAbs {s:Sg}:bifV s 1 [.int x]=some (.int x.natAbs):=rfl
theorem cLtD {y:Int}:cmpV .Lt (.int x) (.int y)=some (decide (x < y)):=rfl
theorem sel01 {P:Prop} [Decidable P] {T:Tabs} {n:Nat} {p q:Pos} {fr:Fr} {s:Sg}:exX T (n + 1) (sel (decide P) (.int 1 p) (.int 0 q)) fr s=some (.ok (.int (if P then 1 else 0)) s):=by
  by_cases h:P
  · rw [dT h,if_pos h]; rfl
  · rw [dF h,if_neg h]; rfl
noncomputable def P18:Int:=10 ^ 18
theorem pow18 (s:List Cell):binV s .Pow (.int 10) (.int 18)=some (.int P18):=by
  unfold P18
  show (if (18:Int)=18∧(10:Int).natAbs < 2 ^ 64 then some (V.int ((10:Int) ^ 18)) else none)=_
  exact if_pos ⟨rfl,by decide⟩
noncomputable abbrev grt (x:Int):Int:=2 * ((x.natAbs:Int) - P18) + (if x < 0 then 1 else 0)
theorem draw1 (hm0:m ≠ 0) (q2:m.natAbs < 2 ^ 64) (q:0 < rest) (n:Nat):callV TB (n + 24) (.base 40) [.ref 0, .int m] (penC l spot rest seed :: ρ)=some (.ok (.int (rest.fmod m)) (penC l spot (rest.fdiv m) seed :: ρ)):=by
  refine (c40 _).trans ?_
  delta bd__law_draw
  wide_open with 2 using [pS2,cGtT q,bMod hm0,bFd hm0 q2,ssD,pG,pH2,pU2]
theorem draw2 (hm0:m ≠ 0) (q : ¬ 0 < rest) (hl1:l.length≤1000) (q3:(l.length:Int)≤spot) (b1:(seed + 5).natAbs < 2 ^ 64) (b2:((seed + 5) * (spot + 3)).natAbs < 2 ^ 64) (n:Nat) :
    callV TB (n + 24) (.base 40) [.ref 0, .int m] (penC l spot rest seed :: ρ)=some (.ok (.int ((((seed + 5) * (spot + 3) * (spot + 11)).fdiv 7).fmod m)) (penC l (spot + 1) rest seed :: ρ)):=by
  refine (c40 _).trans ?_
  delta bd__law_draw
  wide_open with 2 using [pS0,pS1,pS2,pS3,cGtF q,cGeT q3,bMod hm0,bFd7,bMul b1,bMul b2,ssD,pG,pH1,pU1,pLen hl1]
theorem draw3 (hm0:m ≠ 0) (q : ¬ 0 < rest) (hl1:l.length≤1000) (q3 : ¬ (l.length:Int)≤spot) (h2:0≤spot) (hs:spot≤1000) (hx:l[spot.toNat]? = some x) (q5:(x.natAbs:Int) < P18) (n:Nat) :
    callV TB (n + 24) (.base 40) [.ref 0, .int m] (penC l spot rest seed :: ρ)=some (.ok (.int (x.fmod m)) (penC l (spot + 1) rest seed :: ρ)):=by
  refine (c40 _).trans ?_
  delta bd__law_draw
  wide_open with 2 using [pS0,pS1,pS2,cGtF q,cGeF q3,cLtT q5,pow18,bAbs,bMod hm0,ssD,pG,pH1,pU1,pLen hl1,pSub h2 hs hx]
theorem draw4 (hm0:m ≠ 0) (hm:m.natAbs < 2 ^ 64) (q : ¬ 0 < rest) (hl1:l.length≤1000) (q3 : ¬ (l.length:Int)≤spot) (h2:0≤spot) (hs:spot≤1000) (hx:l[spot.toNat]? = some x) (q5 : ¬ (x.natAbs:Int) < P18) (n:Nat) :
    callV TB (n + 24) (.base 40) [.ref 0, .int m] (penC l spot rest seed :: ρ)=some (.ok (.int ((grt x).fmod m)) (penC l (spot + 1) ((grt x).fdiv m) seed :: ρ)):=by
  refine (c40 _).trans ?_
  delta bd__law_draw
  wide_open with 2 using [pS0,pS1,pS2,cGtF q,cGeF q3,cLtF q5,cLtD,sel01,pow18,bAbs,bMod hm0,bMul2,bFd hm0 hm,ssD,pG,pH1,pU1,pH2,pU2,pLen hl1,pSub h2 hs hx]
end
theorem draw_s {N : Nat} {c : Cell} (hp : Pen N c) (hN : N ≤ 500) {m : Int} (hm : 1 ≤ m) (hm2 : m ≤ 1000) (ρ : List Cell) : ∃ (d : Int) (c' : Cell), 0 ≤ d ∧ d < m ∧ Pen (N + 1) c' ∧ ∀ n, callV TB (n + 24) (.base 40) [.ref 0, .int m] (c :: ρ) = some (.ok (.int d) (c' :: ρ)) := by
  obtain ⟨l,spot,rest,seed,rfl,h1,h2,h3,h4,h5,h6⟩:=hp
  have hm0:m ≠ 0:=by omega
  have hms:0 < m:=by omega
  have q2:m.natAbs < 2 ^ 64:=by omega
  have hl1:l.length≤1000:=by omega
  by_cases q:0 < rest
  · refine ⟨_, _, Int.fmod_nonneg_of_pos _ hms, Int.fmod_lt_of_pos _ hms, ⟨l, spot, rest.fdiv m, seed, rfl, h1, h2, by omega, ?_, h5, h6⟩, draw1 hm0 q2 q⟩
    rw [Int.fdiv_eq_ediv_of_nonneg _ (by omega)]; exact Int.ediv_nonneg h4 (by omega)
  · by_cases q3 : (l.length : Int) ≤ spot
    · have b2 : ((seed + 5) * (spot + 3)).natAbs < 2 ^ 64 := by
        have e1:0≤(seed + 5) * (spot + 3):=Int.mul_nonneg (by omega) (by omega)
        have e2:(seed + 5) * (spot + 3)≤1013 * 503:=Int.mul_le_mul (by omega) (by omega) (by omega) (by omega)
        omega
      exact ⟨_,_,Int.fmod_nonneg_of_pos _ hms,Int.fmod_lt_of_pos _ hms,⟨l,spot + 1,rest,seed,rfl,h1,by omega,by omega,h4,h5,h6⟩,draw2 hm0 q hl1 q3 (by omega) b2⟩
    · have q4 : spot.toNat < l.length := by omega
      obtain ⟨x,hx⟩ : ∃ x,l[spot.toNat]? = some x:=⟨_,List.getElem?_eq_getElem q4⟩
      by_cases q5:(x.natAbs:Int) < P18
      · exact ⟨_,_,Int.fmod_nonneg_of_pos _ hms,Int.fmod_lt_of_pos _ hms,⟨l,spot + 1,rest,seed,rfl,h1,by omega,by omega,h4,h5,h6⟩,draw3 hm0 q hl1 q3 h2 (by omega) hx q5⟩
      · refine ⟨_, _, Int.fmod_nonneg_of_pos _ hms, Int.fmod_lt_of_pos _ hms, ⟨l, spot + 1, _, seed, rfl, h1, by omega, by omega, ?_, h5, h6⟩, draw4 hm0 q2 q hl1 q3 h2 (by omega) hx q5⟩
        rw [Int.fdiv_eq_ediv_of_nonneg _ (by omega)]
        exact Int.ediv_nonneg (by have : 0 ≤ (if x < 0 then (1 : Int) else 0) := by split <;> omega
                                  show 0≤2 * ((x.natAbs:Int) - P18) + (if x < 0 then (1:Int) else 0)
                                  omega) (by omega)
theorem pL0:List.length ([]:Sg)=0:=rfl
theorem pL1 {c:Cell}:([]:Sg) ++ [c]=[c]:=rfl
theorem pen_s {l:List Int} (hl:l.length≤63) : ∃ c,Pen 0 c ∧ ∀ n,callV TB (n + 20) (.base 41) [.lst (l.map .int)] []=some (.ok (.ref 0) [c]):=by
  have hsum : ∀ l:List Int,sumI (l.map .int)=some l.sum:=by
    intro l
    induction l with
    | nil=>rfl
    | cons x l ih=>simp [sumI,ih]
  have hl1:l.length≤1000:=by omega
  have ht:List.take 63 (l.map V.int)=l.map .int:=List.take_of_length_le (by simpa using hl)
  have e1:slcV [] (.lst (l.map V.int)) none (some (.int 63))=some (.lst (l.map .int)):=by
    show (if sml (l.map V.int).length∧(63:Int).natAbs≤1000 then some (V.lst (List.take 63 (l.map V.int))) else none)=_
    rw [ht]
    exact if_pos ⟨sml_of (by rw [List.length_map]; exact hl1),by decide⟩
  have e2:bifV [] 4 [.lst (l.map V.int)]=some (.lst (l.map .int)):=if_pos (sml_of (by rw [List.length_map]; exact hl1))
  have e3:bifV [] 2 [.lst (l.map V.int)]=some (.int l.sum):=(if_pos (sml_of (by rw [List.length_map]; exact hl1))).trans (by rw [hsum]; rfl)
  have e4:binV [] .Mod (.int (l.sum.natAbs:Int)) (.int 1009)=some (.int ((l.sum.natAbs:Int).fmod 1009)):=bMod (by decide)
  refine ⟨.list [.lst (l.map .int), .int 0, .int 0, .int ((l.sum.natAbs:Int).fmod 1009)],⟨l,0,0,_,rfl,hl,by omega,by omega,by omega,Int.fmod_nonneg_of_pos _ (by omega),Int.fmod_lt_of_pos _ (by omega)⟩,fun n => ?_⟩
  refine (c41 _).trans ?_
  delta bd__law_pen
  wide_open with 2 using [e1,e2,e3,e4,bAbs,pL0,pL1]
theorem ref_s {w:V} {σ:List Cell} (n:Nat):callV TB (n + 12) (.base 43) [w] σ=some (.ok (.tup [.str tRef,w, .tup [], .tup [], .none]) σ):=by
  refine (c43 _).trans ?_
  delta bd__law_ref
  wide_open with 2 using [rfl]
theorem turned_d {σ:List Cell} (n:Nat):callV TB (n + 6) (.base 39) [] σ=some (.ok (.dct [[61],[60],[62],[60,61],[62,61]] [.str [60,62], .str [62,61], .str [60,61], .str [62], .str [60]]) σ):=Eq.trans rfl rfl
end
section
open PySem

noncomputable abbrev Ch:=(CS × List CS) ⊕ (CS × CS × CS)
noncomputable def chOK:Ch→Prop
  | .inl q=>q ∈ spelW
  | .inr q=>q ∈ othW
noncomputable def toldWs (nm:CS) (is nt:Bool):Ch→List CS
  | .inl q=>nm :: (isnt is nt ++ q.2) ++ [[66]]
  | .inr q=>nm :: (isnt is nt ++ [q.2.2])
noncomputable def toldD (nm:CS) (nt:Bool):Ch→V
  | .inl q => .tup [.str tRel, .str (if nt then oppS q.1 else q.1),refV nm,refV [66]]
  | .inr q=>if nt then .tup [.str tNot, .tup [.str q.1, .str q.2.1,refV nm]] else .tup [.str q.1, .str q.2.1,refV nm]
theorem othL_map:othL=othW.map fun q=>V.tup [.str q.1, .str q.2.1, .str q.2.2]:=rfl
theorem oth_get {d:Int} (h1:0≤d) (h2:d < 9) : ∃ q ∈ othW,othL[d.toNat]? = some (.tup [.str q.1, .str q.2.1, .str q.2.2]):=by
  have hk:d.toNat < othW.length:=by show d.toNat < 9; omega
  exact ⟨othW[d.toNat],List.getElem_mem hk,by rw [othL_map,List.getElem?_map,List.getElem?_eq_getElem hk]; rfl⟩
theorem spelL_map:spelL=spelW.map fun q=>V.tup [.str q.1, .lst (q.2.map .str)]:=rfl
theorem spel_get {d:Int} (h1:0≤d) (h2:d < 15) : ∃ q ∈ spelW,spelL[d.toNat]? = some (.tup [.str q.1, .lst (q.2.map .str)]):=by
  have hk:d.toNat < spelW.length:=by show d.toNat < 15; omega
  exact ⟨spelW[d.toNat],List.getElem_mem hk,by rw [spelL_map,List.getElem?_map,List.getElem?_eq_getElem hk]; rfl⟩
theorem spel_facts {q:CS × List CS} (hq:q ∈ spelW):q.2.length≤5∧q.1 ∈ relS∧dget q.1 [[61],[60],[62],[60,61],[62,61]] [.str [60,62], .str [62,61], .str [60,61], .str [62], .str [60]]=some (.str (oppS q.1))∧q.2.all okW=true:=by
  have h1:spelW.all (fun q=>decide (q.2.length≤5) && decide (q.1 ∈ relS) && q.2.all okW)=true:=by decide
  have h1:=List.all_eq_true.mp h1 q hq
  simp only [Bool.and_eq_true,decide_eq_true_eq] at h1
  refine ⟨h1.1.1,h1.1.2, ?_,h1.2⟩
  have:=h1.1.2
  simp only [relS,List.mem_cons,List.not_mem_nil,or_false] at this
  rcases this with e | e | e | e | e <;> rw [e] <;> rfl
section
variable {T:Tabs} {n:Nat} {c c1 x y z:Cell} {ρ r:List Cell} {b:Bool} {w:CS} {fr:Fr} {s:Sg} {p1 p2 p3 p4 p5:Pos} {k:Nat} {v:V}
theorem gcN:(c :: (ρ ++ [x]))[ρ.length + 1]? = some x:=get_new
theorem gcM:(c :: ((ρ ++ [x]) ++ [y]))[ρ.length + 1]? = some x:=(List.getElem?_append_left (by rw [List.length_append]; exact Nat.lt_succ_self _)).trans get_new
theorem app4 {ρ:List Cell} {x y z w:Cell}:(((ρ ++ [x]) ++ [y]) ++ [z]) ++ [w]=ρ ++ [x,y,z,w]:=by simp
theorem lenC:(c :: ρ).length=ρ.length + 1:=rfl
theorem appC:(c :: ρ) ++ [x]=c :: (ρ ++ [x]):=rfl
theorem cEI {i j:Int}:cmpV .Eq (.int i) (.int j)=some (decide (i=j)):=rfl
theorem selLst:exX T (n + 4) (sel b (.lst [.str w p1] p2) (.lst [] p3)) fr (c :: ρ)=some (.ok (.ref (ρ.length + 1)) (c :: (ρ ++ [.list (if b then [.str w] else [])]))):=by cases b <;> rfl
theorem selNt {x0 x1 x2 x3 x4 x5 x6 x7:Option V}:exX T (n + 5) (sel b (.tup [.str w p1, .loc 8 p2] k p3) (.loc 8 p4)) (x0 :: x1 :: x2 :: x3 :: x4 :: x5 :: x6 :: x7 :: some v :: fr) s=some (.ok (if b then .tup [.str w,v] else v) s):=by cases b <;> rfl
theorem selOp {q:CS} (hq:dget q [[61],[60],[62],[60,61],[62,61]] [.str [60,62], .str [62,61], .str [60,61], .str [62], .str [60]]=some (.str (oppS q))) {x0 x1 x2 x3 x4 x5 x6 x7 x8:Option V} :
    exX TB (n + 10) (sel b (.sub (.call (.glob 39 p1) [] p2) (.loc 9 p3) p4) (.loc 9 p5)) (x0 :: x1 :: x2 :: x3 :: x4 :: x5 :: x6 :: x7 :: x8 :: some (.str q) :: fr) s=some (.ok (.str (if b then oppS q else q)) s):=by
  cases b with
  | true=>exact xSub (xCallG tg39 xs0 (turned_d _)) xL9 (sD hq)
  | false=>rfl
theorem itR {s:List Cell} {i:Nat} {l:List V} (h:s[i]? = some (.list l)):items s (.ref i)=some l:=by
  show (match s[i]? with | some (.list l)=>some l | _=>none)=_; rw [h]
theorem bRR {i j:Nat} {x y:List V} (h1:s[i]? = some (.list x)) (h2:s[j]? = some (.list y)) (h:sml (x.length + y.length)=true):binV s .Add (.ref i) (.ref j)=some (.lst (x ++ y)):=by
  show ((items s (.ref i)).bind fun x=>(items s (.ref j)).bind fun y=>if sml (x.length + y.length) then some (V.lst (x ++ y)) else none)=_
  rw [itR h1,itR h2]
  exact if_pos h
theorem bLR {j:Nat} {x y:List V} (h2:s[j]? = some (.list y)) (h:sml (x.length + y.length)=true):binV s .Add (.lst x) (.ref j)=some (.lst (x ++ y)):=by
  show ((items s (.ref j)).bind fun y=>if sml (x.length + y.length) then some (V.lst (x ++ y)) else none)=_
  rw [itR h2]
  exact if_pos h
theorem sm1b {u:V}:sml ([u].length + (if b then [v] else []).length)=true:=by cases b <;> rfl
theorem sm2b {u a:V} {d:Bool}:sml (([u] ++ if d then [a] else []).length + (if b then [v] else []).length)=true:=by cases b <;> cases d <;> rfl
theorem pT567 {x0 x1 x2 x3 x4 x5 x6 x7:Option V} {u a:V}:putT (x0 :: x1 :: x2 :: x3 :: x4 :: x5 :: x6 :: x7 :: fr) [(5,p1),(6,p2),(7,p3)] [u,a,v]=some (x0 :: x1 :: x2 :: x3 :: x4 :: some u :: some a :: some v :: fr):=rfl
theorem pT97 {x0 x1 x2 x3 x4 x5 x6 x7 x8 x9:Option V} {u:V}:putT (x0 :: x1 :: x2 :: x3 :: x4 :: x5 :: x6 :: x7 :: x8 :: x9 :: fr) [(9,p1),(7,p2)] [u,v]=some (x0 :: x1 :: x2 :: x3 :: x4 :: x5 :: x6 :: some v :: x8 :: some u :: fr):=rfl
theorem sTup {l:List V} {d:Int} (h1:0≤d) (h2:d≤1000) (h:l[d.toNat]? = some v):subV s (.tup l) (.int d)=some v:=(if_pos ⟨h1,h2⟩).trans h
end
noncomputable abbrev preW (nm:CS) (b1 b2:Bool):List V:=([.str nm] ++ if b1 then [.str wIS] else []) ++ if b2 then [.str wNOT] else []
theorem preW_eq (nm:CS) (b1 b2:Bool):preW nm b1 b2=(nm :: isnt b1 b2).map .str:=by cases b1 <;> cases b2 <;> rfl
theorem preW_len (nm:CS) (b1 b2:Bool):(preW nm b1 b2).length≤3:=by cases b1 <;> cases b2 <;> exact Nat.le_of_ble_eq_true rfl
noncomputable abbrev preS (ρ:List Cell) (nm:CS) (b1 b2:Bool):List Cell:=((ρ ++ [.list (if b1 then [.str wIS] else [])]) ++ [.list [.str nm]]) ++ [.list (if b2 then [.str wNOT] else [])]
theorem told_s {N:Nat} {c:Cell} (hp:Pen N c) (hN:N + 5≤500) (nm:CS) (ρ:List Cell) : ∃ (is nt:Bool) (ch:Ch) (c':Cell) (g:List Cell),chOK ch∧Pen (N + 4) c' ∧
    ∀ n,callV TB (n + 60) (.base 44) [.ref 0, .str nm] (c :: ρ)=some (.ok (.tup [.lst ((toldWs nm is nt ch).map .str),toldD nm nt ch]) (c' :: (ρ ++ g))):=by
  obtain ⟨d1,c1,a1,a2,hp1,k1⟩:=draw_s hp (by omega) (m:=2) (by omega) (by omega) ρ
  obtain ⟨d2,c2,b1,b2,hp2,k2⟩:=draw_s hp1 (by omega) (m:=2) (by omega) (by omega) (ρ ++ [.list (if decide (d1=1) then [.str wIS] else [])])
  obtain ⟨d3,c3,e1,e2,hp3,k3⟩:=draw_s hp2 (by omega) (m:=3) (by omega) (by omega) (preS ρ nm (decide (d1=1)) (decide (d2=1)))
  have hl:=preW_len nm (decide (d1=1)) (decide (d2=1))
  by_cases q3:d3=2
  · obtain ⟨d4, c4, f1, f2, hp4, k4⟩ := draw_s hp3 (by omega) (m := 9) (by omega) (by omega) (preS ρ nm (decide (d1 = 1)) (decide (d2 = 1)))
    obtain ⟨q,hq,hg⟩:=oth_get f1 f2
    have hd4:d4≤1000:=by omega
    have hl1:(preW nm (decide (d1=1)) (decide (d2=1))).length + [V.str q.2.2].length≤1000:=by rw [List.length_singleton]; omega
    have e3:cmpV .Eq (.int d3) (.int 2)=some true:=cEI.trans (congrArg some (dT q3))
    refine ⟨decide (d1=1),decide (d2=1), .inr q,c4,[.list (if decide (d1=1) then [.str wIS] else []), .list [.str nm], .list (if decide (d2=1) then [.str wNOT] else []), .list [.str q.2.2]],hq,hp4,fun n => ?_⟩
    rw [show (toldWs nm (decide (d1=1)) (decide (d2=1)) (.inr q)).map V.str=preW nm (decide (d1=1)) (decide (d2=1)) ++ [.str q.2.2] by rw [preW_eq]; exact List.map_append (l₁:=nm :: isnt (decide (d1=1)) (decide (d2=1)))]
    rw [show ρ ++ [Cell.list (if decide (d1=1) then [.str wIS] else []), .list [.str nm], .list (if decide (d2=1) then [.str wNOT] else []), .list [.str q.2.2]]=preS ρ nm (decide (d1=1)) (decide (d2=1)) ++ [.list [.str q.2.2]] from app4.symm]
    refine (c44 _).trans ?_
    delta bd__law_told
    unfold toldD
    wide_open with 2 using [tg40,k1,k2,k3,e3,cEI,selLst,lenC,appC,bRR gcN gcM sm1b,bLR gcN sm2b,tg14,k4,sTup f1 hd4 hg,pT567,tg43,ref_s,bLR gcN (sml_of hl1),selNt]
  · obtain ⟨d4, c4, f1, f2, hp4, k4⟩ := draw_s hp3 (by omega) (m := 15) (by omega) (by omega) (preS ρ nm (decide (d1 = 1)) (decide (d2 = 1)))
    obtain ⟨q,hq,hg⟩:=spel_get f1 f2
    obtain ⟨ql,qr,qd,_⟩:=spel_facts hq
    have hd4:d4≤1000:=by omega
    have e3:cmpV .Eq (.int d3) (.int 2)=some false:=cEI.trans (congrArg some (dF q3))
    have hq2:(q.2.map V.str).length≤5:=by rw [List.length_map]; exact ql
    have hl1:(preW nm (decide (d1=1)) (decide (d2=1))).length + (q.2.map V.str).length≤1000:=by omega
    have hl2:(preW nm (decide (d1=1)) (decide (d2=1)) ++ q.2.map V.str).length + [V.str [66]].length≤1000:=by rw [List.length_append,List.length_singleton]; omega
    refine ⟨decide (d1=1),decide (d2=1), .inl q,c4,[.list (if decide (d1=1) then [.str wIS] else []), .list [.str nm], .list (if decide (d2=1) then [.str wNOT] else []), .list [.str [66]]],hq,hp4,fun n => ?_⟩
    rw [show (toldWs nm (decide (d1=1)) (decide (d2=1)) (.inl q)).map V.str=(preW nm (decide (d1=1)) (decide (d2=1)) ++ q.2.map .str) ++ [.str [66]] by rw [preW_eq, ← List.map_append]; exact List.map_append (l₁:=nm :: (isnt (decide (d1=1)) (decide (d2=1)) ++ q.2))]
    rw [show ρ ++ [Cell.list (if decide (d1=1) then [.str wIS] else []), .list [.str nm], .list (if decide (d2=1) then [.str wNOT] else []), .list [.str [66]]]=preS ρ nm (decide (d1=1)) (decide (d2=1)) ++ [.list [.str [66]]] from app4.symm]
    refine (c44 _).trans ?_
    delta bd__law_told
    unfold toldD
    wide_open with 2 using [tg40,k1,k2,k3,e3,cEI,selLst,lenC,appC,bRR gcN gcM sm1b,bLR gcN sm2b,tg13,k4,sTup f1 hd4 hg,pT97,tg43,ref_s,bLL (sml_of hl1),bLR gcN (sml_of hl2),selOp qd]
end
section
open PySem

section
variable {π γ γ1 γ2:List Cell} {ts:List WT} {a b:Int} {nm:V} {c c':Cell} {i:Nat} {isn last last' v:V} {dep:Int}
end
noncomputable def Hears (ws:List CS) (v:V) (e:Int):Prop := ∀ c ρ, ∃ (r:Nat) (σ1 ρ':List Cell) (x y:V),(∀ n,callV TB (n + 250) (.base 42) [.lst (ws.map .str)] (c :: ρ)=some (.ok (.ref r) σ1))∧(∀ n,callV TB (n + 360) (.base 45) [.ref r] σ1=some (.ok v (c :: ρ'))) ∧
  (c :: ρ')[r]? = some (.inst 2 [(0,x),(1, .int e),(2,y)])
noncomputable abbrev nm0:V := .dct [] []
theorem hears_ok {ws:List CS} (hk:ws.all okW=true) (hl:ws.length≤180) {v:V} {e:Int} (h : ∀ π, ∃ last' g,CO 330 π (ws.map tokOf) nm0 (.clo 1 [.ref (rI π (ws.map tokOf))]) 0 326 [] 0 .none (.ok v) e last' g):Hears ws v e:=by
  intro c ρ
  obtain ⟨last',g,hx⟩:=h (c :: ρ)
  have e1 : ∀ γ,enc (c :: ρ) (ws.map tokOf) e nm0 γ=c :: (ρ ++ (.list ((List.range (ws.map tokOf).length).map fun i=>V.ref ((c :: ρ).length + 1 + i)) :: (toksC 0 (ws.map tokOf) ++ (rdC (c :: ρ) e nm0 :: γ)))):=fun _=>rfl
  have h2:=fun n=>heard_ok (γ:=[]) hx n
  rw [e1] at h2
  refine ⟨_,_,_, .ref (c :: ρ).length,nm0,reader_s hk hl,h2, ?_⟩
  rw [← e1]
  exact enc_r
theorem hears_ex {ws:List CS} (hk:ws.all okW=true) (hl:ws.length≤180) {what:CS} {p e:Int} (h : ∀ π, ∃ last' g,CO 330 π (ws.map tokOf) nm0 (.clo 1 [.ref (rI π (ws.map tokOf))]) 0 326 [] 0 .none (.error (excC what p)) e last' g):Hears ws (.tup [.str tFault, .tup [.int 1, .int p]]) e:=by
  intro c ρ
  obtain ⟨last',g,hx⟩:=h (c :: ρ)
  have e1 : ∀ γ,enc (c :: ρ) (ws.map tokOf) e nm0 γ=c :: (ρ ++ (.list ((List.range (ws.map tokOf).length).map fun i=>V.ref ((c :: ρ).length + 1 + i)) :: (toksC 0 (ws.map tokOf) ++ (rdC (c :: ρ) e nm0 :: γ)))):=fun _=>rfl
  have h2:=fun n=>heard_ex (γ:=[]) hx n
  rw [e1] at h2
  refine ⟨_,_,_, .ref (c :: ρ).length,nm0,reader_s hk hl,h2, ?_⟩
  rw [← e1]
  exact enc_r
theorem atW_map {ws:List CS} {i:Nat}:atW (ws.map tokOf) (i:Int)=ws[i]?.map tokOf:=by
  unfold atW
  rw [if_pos (by omega),Int.toNat_natCast,List.getElem?_map]
theorem win_map {P ws Q:List CS}:Win ((P ++ (ws ++ Q)).map tokOf) (P.length:Int) ws:=by
  intro i hi
  rw [show (P.length:Int) + (i:Int)=((P.length + i:Nat):Int) by omega,atW_map,List.getElem?_append_right (by omega),show P.length + i - P.length=i by omega,List.getElem?_append_left hi]
theorem at_behind {P ws Q:List CS}:atW ((P ++ (ws ++ Q)).map tokOf) ((P.length:Int) + (ws.length:Int))=Q.head?.map tokOf:=by
  rw [show (P.length:Int) + (ws.length:Int)=((P.length + ws.length:Nat):Int) by omega,atW_map, ← List.append_assoc,List.getElem?_append_right (by simp),List.head?_eq_getElem?]
  simp
noncomputable def wdO:Option CS→CS
  | some w=>if alphaW w then w else []
  | none=>[]
theorem wdH_behind {ts:List WT} {i:Int} {o:Option CS} (h:atW ts i=o.map tokOf):wdH ts i=wdO o:=by
  unfold wdH
  rw [h]
  cases o with
  | none=>rfl
  | some w =>
    unfold tokOf
    by_cases q:alphaW w=true
    · simp [q,wdO]
    · have : ¬ sSign = sWord := by decide
      simp [q,this,wdO]
noncomputable def folW (o:Option CS):Bool:=folOK (o.map tokOf)
theorem tsOk_map {ws:List CS} (hk:ws.all okW=true) (hl:ws.length≤180):tsOk (ws.map tokOf)=true:=by
  unfold tsOk
  rw [Bool.and_eq_true,List.all_map]
  refine ⟨by simp; omega, ?_⟩
  rw [List.all_eq_true] at hk ⊢
  intro w hw
  have:=hk w hw
  match w,this with
  | ch :: r, this =>
    simp only [okW,Bool.and_eq_true,decide_eq_true_eq] at this
    simp only [Function.comp,tokOf,Bool.and_eq_true,decide_eq_true_eq]
    refine ⟨⟨?_,this.1.2⟩,by simp; omega⟩
    split <;> rfl
section
variable {π:List Cell} {ts:List WT} {a:Int} {isn last:V} {dep:Int}
theorem nmo0 {w:CS}:NmO π ts nm0 (.clo 1 [.ref (rI π ts)]) w false:=named_dct (ks:=[]) (vs:=[])
theorem B_ok:nmOK [66]=true∧nmOK [65]=true∧nmOK [67]=true:=by decide +kernel
theorem told_co (hs:tsOk ts=true) (ha:0≤a) {nm:V} (hN : ∀ w,w ≠ [70,88]→NmO π ts nm isn w false) {w:CS} (hw:nmOK w=true) (hw2:w ≠ [70,88]) {is nt:Bool} {ch:Ch} (hc:chOK ch) (hwin:Win ts a (toldWs w is nt ch)) (hf:folOK (atW ts (a + (toldWs w is nt ch).length))=true) :
    ∃ last' g,CO 284 π ts nm isn dep 328 [] a last (.ok (toldD w nt ch)) (a + (toldWs w is nt ch).length) last' g:=by
  cases ch with
  | inl q =>
    have hwin':Win ts a ((w :: (isnt is nt ++ q.2)) ++ [[66]]):=hwin
    obtain ⟨h1,h2⟩:=win_app hwin'
    have hB:=(win_cons h2).1
    have hlen:((toldWs w is nt (.inl q)).length:Int)=((w :: (isnt is nt ++ q.2)).length:Int) + 1:=by simp [toldWs]; omega
    rw [hlen] at hf ⊢
    have hwd:wdH ts (a + ((w :: (isnt is nt ++ q.2)).length:Int))=[66]:=by
      rw [win_wd h2]; rfl
    have he:a + ((w :: (isnt is nt ++ q.2)).length:Int)=a + 1 + (isnt is nt).length + q.2.length:=by simp; omega
    have hx:=exo_name (π:=π) (nm:=nm) hs (a:=a + ((w :: (isnt is nt ++ q.2)).length:Int)) (by omega) B_ok.1 hB (by rw [show a + ((w :: (isnt is nt ++ q.2)).length:Int) + 1=a + (((w :: (isnt is nt ++ q.2)).length:Int) + 1) by omega]; exact hf)
    have:=told_rel (isn:=isn) (dep:=dep) (last:=last) hs ha hw hc h1 he (by rw [hwd]; decide) (by rw [hwd]; decide) (by rw [hwd]; decide) hx (hN w hw2)
    rw [show a + (((w :: (isnt is nt ++ q.2)).length:Int) + 1)=a + ((w :: (isnt is nt ++ q.2)).length:Int) + 1 by omega]
    exact ⟨_,_,this⟩
  | inr q =>
    have hwin':Win ts a (w :: (isnt is nt ++ [q.2.2])):=hwin
    have:=told_oth (π:=π) (nm:=nm) (isn:=isn) (dep:=dep) (last:=last) hs ha hw hc hwin' (hN w hw2)
    rw [show a + ((toldWs w is nt (.inr q)).length:Int)=a + 1 + (isnt is nt).length + 1 by simp [toldWs]; omega]
    exact ⟨_,_,this⟩
end
end
section
open PySem

noncomputable abbrev wMOVE:CS:=[77,79,86,69]
noncomputable def jw (j:Bool):CS:=if j then wOR else wAND
noncomputable def jt (j:Bool):CS:=if j then tOr else tAnd
theorem jw_facts (j:Bool):okW (jw j)=true∧alphaW (jw j)=true∧folOK (some (tokOf (jw j)))=true∧jw j ≠ []:=by cases j <;> decide
theorem isnt_all (is nt:Bool):(isnt is nt).all okW=true∧(isnt is nt).length≤2:=by cases is <;> cases nt <;> decide
theorem oth_okW {q:CS × CS × CS} (hq:q ∈ othW):okW q.2.2=true:=by
  have h1:othW.all (fun q=>okW q.2.2)=true:=by decide
  exact List.all_eq_true.mp h1 q hq
theorem told_all {w:CS} (hw:okW w=true) {is nt:Bool} {ch:Ch} (hc:chOK ch):(toldWs w is nt ch).all okW=true∧(toldWs w is nt ch).length≤9:=by
  obtain ⟨i1,i2⟩:=isnt_all is nt
  cases ch with
  | inl q =>
    obtain ⟨q1,_,_,q2⟩:=spel_facts hc
    have hB:okW [66]=true:=by decide
    refine ⟨?_,by simp [toldWs]; omega⟩
    simp only [toldWs,List.all_cons,List.all_append,List.cons_append,hw,i1,q2,hB,List.all_nil,Bool.and_self]
  | inr q =>
    refine ⟨?_,by simp [toldWs]; omega⟩
    simp only [toldWs,List.all_cons,List.all_append,hw,i1,oth_okW hc,List.all_nil,Bool.and_self]
section
variable {w w2:CS} {is nt is2 nt2:Bool} {ch ch2:Ch}
theorem hears_one (hw:nmOK w=true) (hw1:okW w=true) (hw2:w ≠ [70,88]) (hc:chOK ch) {Q:List CS} (hQ:Q.all okW=true) (hl:Q.length≤20) (hf:folW Q.head? = true) (h1:wdO Q.head? ≠ wAND) (h2:wdO Q.head? ≠ wOR) :
    Hears (toldWs w is nt ch ++ Q) (toldD w nt ch) (toldWs w is nt ch).length:=by
  obtain ⟨a1,a2⟩:=told_all (is:=is) (nt:=nt) hw1 hc
  have hk:(toldWs w is nt ch ++ Q).all okW=true:=by rw [List.all_append,a1,hQ]; rfl
  have hl':(toldWs w is nt ch ++ Q).length≤180:=by simp; omega
  refine hears_ok hk hl' fun π => ?_
  have hs:=tsOk_map hk hl'
  have hwin:Win ((toldWs w is nt ch ++ Q).map tokOf) 0 (toldWs w is nt ch):=win_map (P:=[]) (ws:=toldWs w is nt ch) (Q:=Q)
  have hat:atW ((toldWs w is nt ch ++ Q).map tokOf) (0 + (toldWs w is nt ch).length)=Q.head?.map tokOf:=at_behind (P:=[]) (ws:=toldWs w is nt ch) (Q:=Q)
  obtain ⟨last',g,hco⟩:=told_co (π:=π) (nm:=nm0) (isn := .clo 1 [.ref (rI π ((toldWs w is nt ch ++ Q).map tokOf))]) (dep:=0) (last := .none) hs (Int.le_refl 0) (fun w _=>nmo0) hw hw2 hc hwin (by rw [hat]; exact hf)
  have hwd:=wdH_behind hat
  rw [Int.zero_add] at hwd hco
  have b1:=both_s hs hco (by omega) (Nat.zero_le 5) (.done (by rw [isWd_eq (by decide),hwd]; simpa using h1))
  have b2:=either_s hs b1 (by omega) (Nat.zero_le 5) (.done (by rw [isWd_eq (by decide),hwd]; simpa using h2))
  exact ⟨_,_,b2⟩
theorem hears_two (hw:nmOK w=true) (hw1:okW w=true) (hw2:w ≠ [70,88]) (hv:nmOK w2=true) (hv1:okW w2=true) (hv2:w2 ≠ [70,88]) (hc:chOK ch) (hc2:chOK ch2) (j:Bool) :
    Hears (toldWs w is nt ch ++ ([jw j] ++ toldWs w2 is2 nt2 ch2)) (.tup [.str (jt j),toldD w nt ch,toldD w2 nt2 ch2]) ((toldWs w is nt ch).length + 1 + (toldWs w2 is2 nt2 ch2).length):=by
  obtain ⟨a1,a2⟩:=told_all (is:=is) (nt:=nt) hw1 hc
  obtain ⟨a3,a4⟩:=told_all (is:=is2) (nt:=nt2) hv1 hc2
  obtain ⟨j1,j2,j3,j4⟩:=jw_facts j
  generalize hW:toldWs w is nt ch=W at *
  generalize hV:toldWs w2 is2 nt2 ch2=W2 at *
  have hk:(W ++ ([jw j] ++ W2)).all okW=true:=by simp only [List.all_append,List.all_cons,List.all_nil,a1,a3,j1,Bool.and_self]
  have hl':(W ++ ([jw j] ++ W2)).length≤180:=by simp; omega
  refine hears_ok hk hl' fun π => ?_
  have hs:=tsOk_map hk hl'
  have hwin:Win ((W ++ ([jw j] ++ W2)).map tokOf) 0 W:=win_map (P:=[]) (ws:=W) (Q:=[jw j] ++ W2)
  have hat:atW ((W ++ ([jw j] ++ W2)).map tokOf) (0 + W.length)=(some (jw j)).map tokOf:=at_behind (P:=[]) (ws:=W) (Q:=[jw j] ++ W2)
  have e2:W ++ ([jw j] ++ W2)=(W ++ [jw j]) ++ (W2 ++ []):=by simp
  have hwin2:Win ((W ++ ([jw j] ++ W2)).map tokOf) ((W ++ [jw j]).length:Int) W2:=by rw [e2]; exact win_map
  have hat2:atW ((W ++ ([jw j] ++ W2)).map tokOf) (((W ++ [jw j]).length:Int) + W2.length)=none:=by rw [e2]; exact at_behind
  generalize hts:(W ++ ([jw j] ++ W2)).map tokOf=ts at *
  have hlen:((W ++ [jw j]).length:Int)=(W.length:Int) + 1:=by simp
  rw [hlen] at hwin2 hat2
  have hp2:(0:Int)≤(W.length:Int) + 1:=by omega
  have hp0:(0:Int)≤(W.length:Int):=by omega
  have hp3:(0:Int)≤(W.length:Int) + 1 + W2.length:=by omega
  obtain ⟨last1,g1,hco⟩:=told_co (π:=π) (nm:=nm0) (isn := .clo 1 [.ref (rI π ts)]) (dep:=0) (last := .none) (w:=w) (is:=is) (nt:=nt) (ch:=ch) hs (Int.le_refl 0) (fun w _=>nmo0) hw hw2 hc (by rw [hW]; exact hwin) (by rw [hW,hat]; exact j3)
  rw [hW,Int.zero_add] at hco
  obtain ⟨last2,g2,hco2⟩:=told_co (π:=π) (nm:=nm0) (isn := .clo 1 [.ref (rI π ts)]) (dep:=0) (last:=last1) (w:=w2) (is:=is2) (nt:=nt2) (ch:=ch2) hs hp2 (fun w _=>nmo0) hv hv2 hc2 (by rw [hV]; exact hwin2) (by rw [hV,hat2]; rfl)
  rw [hV] at hco2
  have hwd:=wdH_behind hat
  rw [Int.zero_add] at hwd
  have hwd1:wdH ts W.length=jw j:=by rw [hwd]; simp [wdO,j2]
  have hwd2:wdH ts ((W.length:Int) + 1 + W2.length)=[]:=by simp [wdH,hat2]
  have n1:isWd ts ((W.length:Int) + 1 + W2.length) wAND=false:=by rw [isWd_eq (by decide),hwd2]; rfl
  have n2:isWd ts ((W.length:Int) + 1 + W2.length) wOR=false:=by rw [isWd_eq (by decide),hwd2]; rfl
  cases j with
  | false =>
    have y1:isWd ts W.length wAND=true:=by rw [isWd_eq (by decide),hwd1]; rfl
    have b1:=both_s hs hco hp0 (k:=0 + 1) (by omega) (.step y1 hco2 hp3 (.done n1))
    have b2:=either_s hs b1 hp3 (Nat.zero_le 5) (.done n2)
    exact ⟨_,_,b2⟩
  | true =>
    have y1:isWd ts W.length wOR=true:=by rw [isWd_eq (by decide),hwd1]; rfl
    have y0:isWd ts W.length wAND=false:=by rw [isWd_eq (by decide),hwd1]; rfl
    have b1:=both_s hs hco hp0 (Nat.zero_le 5) (.done y0)
    have b1':=both_s hs hco2 hp3 (Nat.zero_le 5) (.done n1)
    have b2:=either_s hs b1 hp0 (k:=0 + 1) (by omega) (.step y1 b1' hp3 (.done n2))
    exact ⟨_,_,b2⟩
theorem hears_end (hw:nmOK w=true) (hw1:okW w=true) (hw2:w ≠ [70,88]) (hc:chOK ch) (j:Bool) :
    Hears (toldWs w is nt ch ++ [jw j]) (.tup [.str tFault, .tup [.int 1, .int ((toldWs w is nt ch).length + 1)]]) ((toldWs w is nt ch).length + 1):=by
  obtain ⟨a1,a2⟩:=told_all (is:=is) (nt:=nt) hw1 hc
  obtain ⟨j1,j2,j3,j4⟩:=jw_facts j
  generalize hW:toldWs w is nt ch=W at *
  have hk:(W ++ [jw j]).all okW=true:=by simp only [List.all_append,List.all_cons,List.all_nil,a1,j1,Bool.and_self]
  have hl':(W ++ [jw j]).length≤180:=by simp; omega
  have hft:ftP ((W ++ [jw j]).map tokOf) ((W.length:Int) + 1)=(W.length:Int) + 1:=by simp [ftP]; omega
  refine hears_ex (what:=mName) hk hl' fun π => ?_
  have hs:=tsOk_map hk hl'
  have hwin:Win ((W ++ [jw j]).map tokOf) 0 W:=win_map (P:=[]) (ws:=W) (Q:=[jw j])
  have hat:atW ((W ++ [jw j]).map tokOf) (0 + W.length)=(some (jw j)).map tokOf:=at_behind (P:=[]) (ws:=W) (Q:=[jw j])
  have hat2:atW ((W ++ [jw j]).map tokOf) ((W.length:Int) + 1)=none:=by
    have:=at_behind (P:=[]) (ws:=W ++ [jw j]) (Q:=[])
    simpa using this
  have hne:(W ++ [jw j]).map tokOf ≠ []:=by simp
  generalize hts:(W ++ [jw j]).map tokOf=ts at *
  have hp0:(0:Int)≤(W.length:Int):=by omega
  have hp2:(0:Int)≤(W.length:Int) + 1:=by omega
  obtain ⟨last1,g1,hco⟩:=told_co (π:=π) (nm:=nm0) (isn := .clo 1 [.ref (rI π ts)]) (dep:=0) (last := .none) (w:=w) (is:=is) (nt:=nt) (ch:=ch) hs (Int.le_refl 0) (fun w _=>nmo0) hw hw2 hc (by rw [hW]; exact hwin) (by rw [hW,hat]; exact j3)
  rw [hW,Int.zero_add] at hco
  have hwd:=wdH_behind hat
  rw [Int.zero_add] at hwd
  have hwd1:wdH ts W.length=jw j:=by rw [hwd]; simp [wdO,j2]
  have hwd2:wdH ts ((W.length:Int) + 1)=[]:=by simp [wdH,hat2]
  have pl:plc ts ((W.length:Int) + 1)=0:=by simp [plc,hwd2]
  have rel0:isRel ts ((W.length:Int) + 1 + plc ts ((W.length:Int) + 1))=false:=by rw [pl,Int.add_zero]; simp [isRel,hat2]
  have hx:=exo_no (π:=π) (nm:=nm0) hs hne hp2 (by rw [hat2]; rfl)
  have hu:=unb_ex (isn := .clo 1 [.ref (rI π ts)]) (dep:=0) (last:=last1) hs hp2 rel0 hx
  have ht:=turned_no hs hp2 (by simp [hwd2]) (K:=0) (single_un hs hp2 (by simp [isSg,hat2]) hu)
  rw [hft] at ht
  cases j with
  | false =>
    have y1:isWd ts W.length wAND=true:=by rw [isWd_eq (by decide),hwd1]; rfl
    have b1:=both_s hs hco hp0 (k:=1) (by omega) (.fail y1 ht)
    exact ⟨_,_,either_err b1⟩
  | true =>
    have y1:isWd ts W.length wOR=true:=by rw [isWd_eq (by decide),hwd1]; rfl
    have y0:isWd ts W.length wAND=false:=by rw [isWd_eq (by decide),hwd1]; rfl
    have b1:=both_s hs hco hp0 (Nat.zero_le 5) (.done y0)
    have b2:=either_s hs b1 hp0 (k:=1) (by omega) (.fail y1 (both_err ht))
    exact ⟨_,_,b2⟩
theorem hears_cut (hw:nmOK w=true) (hw1:okW w=true) (hw2:w ≠ [70,88]) {q:CS × List CS} (hc:q ∈ spelW) {Q:List CS} (hQ:Q=[] ∨ Q=[wMOVE,[66]]) :
    Hears (w :: (isnt is nt ++ q.2) ++ Q) (.tup [.str tFault, .tup [.int 1, .int (if Q=[] then ((w :: (isnt is nt ++ q.2)).length:Int) else (w :: (isnt is nt ++ q.2)).length + 1)]]) ((w :: (isnt is nt ++ q.2)).length):=by
  obtain ⟨i1,i2⟩:=isnt_all is nt
  obtain ⟨q1,_,_,q2⟩:=spel_facts hc
  have hWl:(w :: (isnt is nt ++ q.2)).length=1 + (isnt is nt).length + q.2.length:=by simp; omega
  have a1:(w :: (isnt is nt ++ q.2)).all okW=true:=by simp only [List.all_cons,List.all_append,hw1,i1,q2,Bool.and_self]
  have a2:(w :: (isnt is nt ++ q.2)).length≤8:=by rw [hWl]; omega
  generalize hW:w :: (isnt is nt ++ q.2)=W at *
  have hQ1:Q.all okW=true∧Q.length≤2:=by rcases hQ with rfl | rfl <;> decide
  have hk:(W ++ Q).all okW=true:=by rw [List.all_append,a1,hQ1.1]; rfl
  have hl':(W ++ Q).length≤180:=by simp; omega
  have hWp:0 < W.length:=by rw [hWl]; omega
  have hft:ftP ((W ++ Q).map tokOf) (W.length:Int)=(if Q=[] then (W.length:Int) else W.length + 1):=by
    rcases hQ with rfl | rfl
    · simp [ftP]; omega
    · simp [ftP]; omega
  refine hears_ex (what:=mName) hk hl' fun π => ?_
  have hs:=tsOk_map hk hl'
  have hwin:Win ((W ++ Q).map tokOf) 0 W:=win_map (P:=[]) (ws:=W) (Q:=Q)
  have hat:atW ((W ++ Q).map tokOf) (0 + W.length)=Q.head?.map tokOf:=at_behind (P:=[]) (ws:=W) (Q:=Q)
  have hne:(W ++ Q).map tokOf ≠ []:=by
    intro e
    rw [List.map_eq_nil_iff,List.append_eq_nil_iff] at e
    rw [e.1] at hWp
    exact absurd hWp (by decide)
  generalize hts:(W ++ Q).map tokOf=ts at *
  have hwd:=wdH_behind hat
  rw [Int.zero_add] at hwd hat
  have hwd2:wdH ts W.length=[] ∨ wdH ts W.length=wMOVE:=by
    rw [hwd]
    rcases hQ with rfl | rfl
    · exact .inl rfl
    · exact .inr rfl
  have hbad:badOp (atW ts W.length)=true:=by
    rw [hat]
    rcases hQ with rfl | rfl
    · rfl
    · decide +kernel
  have hx:=exo_no (π:=π) (nm:=nm0) hs hne (show (0:Int)≤W.length by omega) hbad
  have ht:=told_rel (isn := .clo 1 [.ref (rI π ts)]) (dep:=0) (last := .none) hs (Int.le_refl 0) hw hc (by rw [hW]; exact hwin) (e:=W.length) (by rw [hWl]; omega)
    (by rcases hwd2 with e | e <;> rw [e] <;> decide) (by rcases hwd2 with e | e <;> rw [e] <;> decide) (by rcases hwd2 with e | e <;> rw [e] <;> decide) hx nmo0
  rw [hft] at ht
  exact ⟨_,_,either_err (both_err ht)⟩
theorem hears_sub {Q : List CS} (hQ : Q = [] ∨ Q = [wMOVE]) : Hears ([65] :: Q) (.tup [.str tFault, .tup [.int 1, .int (if Q = [] then (1 : Int) else 2)]]) 1 := by
  have hk:([65] :: Q).all okW=true:=by rcases hQ with rfl | rfl <;> decide
  have hl':([65] :: Q).length≤180:=by rcases hQ with rfl | rfl <;> decide
  have hft:ftP (([65] :: Q).map tokOf) 1=(if Q=[] then (1:Int) else 2):=by rcases hQ with rfl | rfl <;> simp [ftP] <;> omega
  refine hears_ex (what:=mRel) hk hl' fun π => ?_
  have hs:=tsOk_map hk hl'
  have hat0:atW (([65] :: Q).map tokOf) 0=some (tokOf [65]):=rfl
  have hat:atW (([65] :: Q).map tokOf) 1=Q.head?.map tokOf:=by rcases hQ with rfl | rfl <;> rfl
  have hne:([65] :: Q).map tokOf ≠ []:=by simp
  generalize hts:([65] :: Q).map tokOf=ts at *
  have hwd:=wdH_behind hat
  have hwd2:wdH ts 1=[] ∨ wdH ts 1=wMOVE:=by
    rw [hwd]
    rcases hQ with rfl | rfl
    · exact .inl rfl
    · exact .inr rfl
  have hfol:folOK (atW ts (0 + 1))=true:=by
    rw [show (0:Int) + 1=1 from rfl,hat]
    rcases hQ with rfl | rfl <;> decide
  have w0:wdH ts 0=[65]:=by simp [wdH,hat0,tokOf,alphaW]
  have p0:plc ts 0=0:=by simp [plc,w0]
  have r0:isRel ts (0 + plc ts 0)=false:=by
    rw [p0]
    have : ¬ ([65]:CS) ∈ wrDK:=by decide
    have n2 : ¬ sWord=sSign:=by decide
    simp [isRel,hat0,tokOf,alphaW,w0,this,n2]
  have nWS : ¬ sWord=sSign:=by decide
  have s0:isSg ts 0 [40]=false:=by simp [isSg,hat0,tokOf,alphaW,nWS]
  have p1:plc ts 1=0:=by rcases hwd2 with e | e <;> simp [plc,e]
  have pr:isPred ts (0 + 1 + plc ts (0 + 1))=false:=by
    rw [show (0:Int) + 1=1 from rfl,p1,Int.add_zero]
    have : ¬ ([]:CS) ∈ clsS ∧ ¬ ([]:CS) ∈ wsDK ∧ ¬ wMOVE ∈ clsS ∧ ¬ wMOVE ∈ wsDK ∧ ¬ wMOVE ∈ wrDK:=by decide
    obtain ⟨m1,m2,m3,m4,m5⟩:=this
    have hr:isRel ts 1=false:=by
      unfold isRel
      rw [hat]
      rcases hQ with rfl | rfl
      · rfl
      · have e : wdH ts 1 = wMOVE := hwd
        simp [tokOf,alphaW,nWS,e,m5]
    rcases hwd2 with e | e <;> simp [isPred,hr,e,m1,m2,m3,m4]
  have hx:=exo_name (π:=π) (nm:=nm0) hs (Int.le_refl 0) B_ok.2.1 hat0 hfol
  have hu:=unb_left_no (isn := .clo 1 [.ref (rI π ts)]) (dep:=0) hs hne (Int.le_refl 0) r0 (by decide) hx nmo0 pr
  have ht:=turned_no hs (Int.le_refl 0) (by simp [w0]) (K:=0) (single_un hs (Int.le_refl 0) s0 hu)
  rw [show (0:Int) + 1=1 from rfl,hft] at ht
  exact ⟨_,_,either_err (both_err ht)⟩
end
end
section
open PySem

theorem flt_refl {v:V} (h:flatB v=true):veq v v=true:=by
  cases v with
  | none=>rfl
  | int i=>exact decide_eq_true rfl
  | str l=>exact decide_eq_true rfl
  | _=>exact Bool.noConfusion h
theorem veq_refl (n : Nat) : ∀ (v : V), isDataN n v = true → veq v v = true := by
  induction n with
  | zero=>exact fun v h=>flt_refl h
  | succ n ih =>
    intro v h
    cases v with
    | tup l =>
      have go : ∀ {l:List V},l.all (isDataN n)=true→veqL l l=true:=by
        intro l h
        induction l with
        | nil=>rfl
        | cons v l il =>
          obtain ⟨a,b⟩:=Bool.and_eq_true_iff.mp h
          exact Bool.and_eq_true_iff.mpr ⟨ih v a,il b⟩
      exact go h
    | _=>exact flt_refl h
noncomputable def HearsL (L:List V) (v:V) (e:Int):Prop := ∀ c ρ, ∃ (r:Nat) (σ1 ρ':List Cell),(∀ n,callV TB (n + 250) (.base 42) [.lst L] (c :: ρ)=some (.ok (.ref r) σ1))∧(∀ n,callV TB (n + 360) (.base 45) [.ref r] σ1=some (.ok v (c :: ρ')))∧attrV (c :: ρ') 1 (.ref r)=some (.int e)
theorem Hears.L {ws:List CS} {L:List V} {v v':V} {e e':Int} (H:Hears ws v e) (hL:ws.map V.str=L) (hv:v=v') (he:e=e'):HearsL L v' e':=by
  subst hL hv he
  intro c ρ
  obtain ⟨r,σ1,ρ',x,y,h1,h2,h3⟩:=H c ρ
  refine ⟨r,σ1,ρ',h1,h2, ?_⟩
  unfold attrV
  dsimp only
  rw [h3]
  rfl
theorem cNV {v:V} (h:isData v=true):cmpV .NotEq v v=some false:=by
  show (if isData v && isData v then some (!veq v v) else none)=_
  rw [h,veq_refl 40 v h]
  rfl
theorem cEV {v:V} (h:isData v=true):cmpV .Eq v v=some true:=by
  show (if isData v && isData v then some (veq v v) else none)=_
  rw [h,veq_refl 40 v h]
  rfl
theorem A_data (n:Nat):isDataN (n + 2) (refV [65])=true∧isDataN (n + 2) (refV [66])=true∧isDataN (n + 2) (refV [67])=true∧isDataN (n + 2) (refV [70,88])=true:=by
  exact ⟨rfl,rfl,rfl,rfl⟩
theorem dCo {n:Nat} {v:V} {l:List V} (a:isDataN n v=true) (b:l.all (isDataN n)=true):(v :: l).all (isDataN n)=true:=Bool.and_eq_true_iff.mpr ⟨a,b⟩
theorem dTu {n:Nat} {l:List V} (b:l.all (isDataN n)=true):isDataN (n + 1) (.tup l)=true:=b
theorem told_data {w:CS} (hw : ∀ n,isDataN (n + 2) (refV w)=true) {nt:Bool} {ch:Ch} (hc:chOK ch) (n:Nat):isDataN (n + 5) (toldD w nt ch)=true:=by
  have hw':=hw
  have hB:=fun n=>(A_data n).2.1
  cases ch with
  | inl q =>
    have h1:spelW.all (fun q=>isData (.str q.1) && isData (.str (oppS q.1)))=true:=by decide
    have h1:=List.all_eq_true.mp h1 q hc
    rw [Bool.and_eq_true] at h1
    obtain ⟨h1,h2⟩:=h1
    have e1 : ∀ n,isDataN n (.str q.1)=true:=fun n=>by cases n <;> exact h1
    have e2 : ∀ n,isDataN n (.str (oppS q.1))=true:=fun n=>by cases n <;> exact h2
    have e3 : ∀ n,isDataN n (.str tRel)=true:=fun n=>by cases n <;> rfl
    have b1:=hw (n + 2)
    have b2:=hB (n + 2)
    cases nt
    · exact dTu (dCo (e3 _) (dCo (e1 _) (dCo b1 (dCo b2 rfl))))
    · exact dTu (dCo (e3 _) (dCo (e2 _) (dCo b1 (dCo b2 rfl))))
  | inr q =>
    have h1:othW.all (fun q=>isData (.str q.1) && isData (.str q.2.1))=true:=by decide
    have h1:=List.all_eq_true.mp h1 q hc
    rw [Bool.and_eq_true] at h1
    obtain ⟨h1,h2⟩:=h1
    have e1 : ∀ n,isDataN n (.str q.1)=true:=fun n=>by cases n <;> exact h1
    have e2 : ∀ n,isDataN n (.str q.2.1)=true:=fun n=>by cases n <;> exact h2
    have e3 : ∀ n,isDataN n (.str tNot)=true:=fun n=>by cases n <;> rfl
    have b1:=hw (n + 2)
    have b2:=hw (n + 1)
    cases nt
    · exact dTu (dCo (e1 _) (dCo (e2 _) (dCo b1 rfl)))
    · exact dTu (dCo (e3 _) (dCo (dTu (dCo (e1 _) (dCo (e2 _) (dCo b2 rfl)))) rfl))
end
section
open PySem

theorem join_get {d:Int} (h1:0≤d) (h2:d < 2):([V.str wAND,V.str wOR]:List V)[d.toNat]? = some (.str (jw (decide (d=1)))):=by
  have:d=0 ∨ d=1:=by omega
  rcases this with rfl | rfl <;> rfl
theorem mLow {j:Bool} {s:Sg}:methV (.str (jw j)) 38 [] s=some (.ok (.str (jt j)) s):=by cases j <;> rfl
theorem hears_named (j:Bool) (c:Cell) (ρ:List Cell) : ∃ (r:Nat) (σ1 ρ':List Cell) (x:V),(∀ n,callV TB (n + 250) (.base 42) [.lst [.str [70,88], .str (jw j), .str [65], .str [61], .str [66]]] (c :: ρ)=some (.ok (.ref r) σ1))∧σ1[r]? = some (.inst 2 [(0,x),(1, .int 0),(2,nm0)]) ∧
    (∀ n,callV TB (n + 360) (.base 45) [.ref r] (σ1.set r (.inst 2 [(0,x),(1, .int 0),(2, .dct [[70,88]] [.int 1])]))=some (.ok (.tup [.str (jt j), .tup [.str tNamed,refV [70,88]], .tup [.str tRel, .str [61],refV [65],refV [66]]]) (c :: ρ'))):=by
  have hk:[[70,88],jw j,[65],[61],[66]].all okW=true:=by cases j <;> decide
  have hl:[[70,88],jw j,[65],[61],[66]].length≤180:=by simp
  have hs:=tsOk_map hk hl
  obtain ⟨j1,j2,j3,j4⟩:=jw_facts j
  have hF:nmOK [70,88]=true:=by decide +kernel
  have h0:atW (([[70,88],jw j,[65],[61],[66]]:List CS).map tokOf) 0=some (tokOf [70,88]):=rfl
  have h1:atW (([[70,88],jw j,[65],[61],[66]]:List CS).map tokOf) 1=(some (jw j)).map tokOf:=rfl
  have hwin:Win (([[70,88],jw j,[65],[61],[66]]:List CS).map tokOf) 2 (toldWs [65] false false (.inl ([61],[[61]]))):=win_map (P:=[[70,88],jw j]) (ws:=[[65],[61],[66]]) (Q:=[])
  have h5:atW (([[70,88],jw j,[65],[61],[66]]:List CS).map tokOf) (2 + (toldWs [65] false false (.inl ([61],[[61]]))).length)=none:=rfl
  generalize hts:([[70,88],jw j,[65],[61],[66]]:List CS).map tokOf=ts at *
  have hrd:=fun n=>reader_s (π:=c :: ρ) hk hl n
  rw [hts] at hrd
  have w0:wdH ts 0=[70,88]:=by simp [wdH,h0,tokOf,alphaW]
  have p0:plc ts 0=0:=by simp [plc,w0]
  have nWS : ¬ sWord=sSign:=by decide
  have nF : ¬ ([70,88]:CS) ∈ wrDK:=by decide
  have r0:isRel ts (0 + plc ts 0)=false:=by rw [p0]; simp [isRel,h0,tokOf,alphaW,w0,nF,nWS]
  have s0:isSg ts 0 [40]=false:=by simp [isSg,h0,tokOf,alphaW,nWS]
  have nd : ∀ w,NmO (c :: ρ) ts (.dct [[70,88]] [.int 1]) (.clo 1 [.ref (rI (c :: ρ) ts)]) w ([[70,88]].contains w):=fun w=>named_dct
  have hx:=exo_name (π:=c :: ρ) (nm := .dct [[70,88]] [.int 1]) hs (Int.le_refl 0) hF h0 (by rw [show (0:Int) + 1=1 from rfl,h1]; exact j3)
  have hu:=unb_named (isn := .clo 1 [.ref (rI (c :: ρ) ts)]) (dep:=0) (last := .none) hs (Int.le_refl 0) r0 hx (nd _)
  have ht:=turned_no hs (Int.le_refl 0) (by simp [w0]) (K:=0) (single_un hs (Int.le_refl 0) s0 hu)
  rw [show (0:Int) + 1=1 from rfl] at ht
  obtain ⟨last2,g2,hco2⟩:=told_co (π:=c :: ρ) (nm := .dct [[70,88]] [.int 1]) (isn := .clo 1 [.ref (rI (c :: ρ) ts)]) (dep:=0) (last := .none) hs (show (0:Int)≤2 by decide) (fun w hw=>by
    have:=nd w
    rwa [show ([[70,88]]:List CS).contains w=false by simp [hw]] at this) B_ok.2.1 (by decide) (show chOK (.inl ([61],[[61]])) from .head _) hwin (by rw [h5]; rfl)
  have hwd1:wdH ts 1=jw j:=by rw [wdH_behind h1]; simp [wdO,j2]
  have h5':atW ts 5=none:=h5
  have hwd2:wdH ts 5=[]:=by simp [wdH,h5']
  have n1:isWd ts 5 wAND=false:=by rw [isWd_eq (by decide),hwd2]; rfl
  have n2:isWd ts 5 wOR=false:=by rw [isWd_eq (by decide),hwd2]; rfl
  have hco2':CO 284 (c :: ρ) ts (.dct [[70,88]] [.int 1]) (.clo 1 [.ref (rI (c :: ρ) ts)]) 0 328 [] (1 + 1) .none (.ok (.tup [.str tRel, .str [61],refV [65],refV [66]])) 5 last2 g2:=hco2
  obtain ⟨lastF,gF,hfin⟩ : ∃ last' g,CO 330 (c :: ρ) ts (.dct [[70,88]] [.int 1]) (.clo 1 [.ref (rI (c :: ρ) ts)]) 0 326 [] 0 .none (.ok (.tup [.str (jt j), .tup [.str tNamed,refV [70,88]], .tup [.str tRel, .str [61],refV [65],refV [66]]])) 5 last' g:=by
    cases j with
    | false =>
      have y1:isWd ts 1 wAND=true:=by rw [isWd_eq (by decide),hwd1]; rfl
      have b1:=both_s hs ht (by decide) (k:=0 + 1) (by omega) (.step y1 hco2' (by decide) (.done n1))
      exact ⟨_,_,either_s hs b1 (by decide) (Nat.zero_le 5) (.done n2)⟩
    | true =>
      have y1:isWd ts 1 wOR=true:=by rw [isWd_eq (by decide),hwd1]; rfl
      have y0:isWd ts 1 wAND=false:=by rw [isWd_eq (by decide),hwd1]; rfl
      have b1:=both_s hs ht (by decide) (Nat.zero_le 5) (.done y0)
      have b1':=both_s hs hco2' (by decide) (Nat.zero_le 5) (.done n1)
      exact ⟨_,_,either_s hs b1 (by decide) (k:=0 + 1) (by omega) (.step y1 b1' (by decide) (.done n2))⟩
  have e1 : ∀ γ,enc (c :: ρ) ts 5 (.dct [[70,88]] [.int 1]) γ=c :: (ρ ++ (.list ((List.range ts.length).map fun i=>V.ref ((c :: ρ).length + 1 + i)) :: (toksC 0 ts ++ (rdC (c :: ρ) 5 (.dct [[70,88]] [.int 1]) :: γ)))):=fun _=>rfl
  have h2:=fun n=>heard_ok (γ:=[]) hfin n
  rw [e1] at h2
  have h3:=h2
  rw [show enc (c :: ρ) ts 0 (.dct [[70,88]] [.int 1]) []=(enc (c :: ρ) ts 0 nm0 []).set (rI (c :: ρ) ts) (.inst 2 [(0, .ref (c :: ρ).length),(1, .int 0),(2, .dct [[70,88]] [.int 1])]) from enc_set_r.symm] at h3
  exact ⟨_,_,_, .ref (c :: ρ).length,hrd,enc_r,h3⟩
end
section
open PySem

theorem fault_data (k:Int):isData (.tup [.str tFault, .tup [.int 1, .int k]])=true:=rfl
noncomputable abbrev faultV (k:Int):V := .tup [.str tFault, .tup [.int 1, .int k]]
theorem HS1:HearsL [.str [65], .str wMOVE] (faultV 2) 1:=(hears_sub (Q:=[wMOVE]) (.inr rfl)).L rfl (by rw [if_neg (by decide)]) rfl
theorem HS2:HearsL [.str [65]] (faultV 1) 1:=(hears_sub (Q:=[]) (.inl rfl)).L rfl (by rw [if_pos rfl]) rfl
theorem dFX {T:Tabs} {n:Nat} {fr:Fr} {s:Sg} {p q r:Pos}:exX T (n + 1) (.dct [.str [70,88] p] [.int 1 q] r) fr s=some (.ok (.dct [[70,88]] [.int 1]) s):=rfl
theorem setR {s:Sg} {r:Nat} {x v w:V} (h:s[r]? = some (.inst 2 [(0,x),(1, .int 0),(2,w)])):setA s (.ref r) 2 v=some (s.set r (.inst 2 [(0,x),(1, .int 0),(2,v)])):=by
  unfold setA
  dsimp only
  rw [h]
  exact if_pos ⟨by decide,by decide,Nat.le_of_ble_eq_true rfl⟩
theorem bLenL {s:Sg} {L:List V} (h:L.length≤900):bifV s 0 [.lst L]=some (.int L.length):=if_pos (sml_of (by omega))
theorem sml1 {L:List V} {v:V} (h:L.length≤900):sml (L.length + [v].length)=true:=sml_of (by rw [List.length_singleton]; omega)
theorem dNm (j:Bool):isData (.tup [.str (jt j), .tup [.str tNamed,refV [70,88]], .tup [.str tRel, .str [61],refV [65],refV [66]]])=true:=by cases j <;> decide
section
variable {x0 x1 x3 x5 x6 x7:Option V} {Lw:List V} {j:Bool} {e:Int}
theorem law_tail (hH:HearsL (Lw ++ [.str (jw j)]) (faultV (Lw.length + 1)) e) (hl:Lw.length≤900) (c:Cell) (ρ:List Cell) : ∃ σ fr, ∀ n,exSs TB (n + 410) [(.ifs (.or [(.cmp (.call (.glob 45 ⟨513,7,513,17⟩) [(.call (.glob 42 ⟨513,18,513,29⟩) [(.lstF [(.str [65] ⟨513,31,513,34⟩),(.str [77,79,86,69] ⟨513,36,513,42⟩)] ⟨513,30,513,43⟩)] ⟨513,18,513,44⟩)] ⟨513,7,513,45⟩) .NotEq (.tup [(.str [102,97,117,108,116] ⟨513,50,513,57⟩),(.tup [(.int 1 ⟨513,60,513,61⟩),(.int 2 ⟨513,63,513,64⟩)] 0 ⟨513,59,513,65⟩)] 0 ⟨513,49,513,66⟩) ⟨513,7,513,66⟩),(.cmp (.call (.glob 45 ⟨513,70,513,80⟩) [(.call (.glob 42 ⟨513,81,513,92⟩) [(.lstF [(.str [65] ⟨513,94,513,97⟩)] ⟨513,93,513,98⟩)] ⟨513,81,513,99⟩)] ⟨513,70,513,100⟩) .NotEq (.tup [(.str [102,97,117,108,116] ⟨513,105,513,112⟩),(.tup [(.int 1 ⟨513,115,513,116⟩),(.int 1 ⟨513,118,513,119⟩)] 0 ⟨513,114,513,120⟩)] 0 ⟨513,104,513,121⟩) ⟨513,70,513,121⟩)] ⟨513,7,513,121⟩) [.ret (.bool false ⟨514,15,514,20⟩) ⟨514,8,514,20⟩] [] ⟨513,4,514,20⟩),(.ifs (.cmp (.call (.glob 45 ⟨515,7,515,17⟩) [(.call (.glob 42 ⟨515,18,515,29⟩) [(.bin (.loc 2 ⟨515,30,515,35⟩) .Add (.lst [(.loc 4 ⟨515,39,515,43⟩)] ⟨515,38,515,44⟩) ⟨515,30,515,44⟩)] ⟨515,18,515,45⟩)] ⟨515,7,515,46⟩) .NotEq (.tup [(.str [102,97,117,108,116] ⟨515,51,515,58⟩),(.tup [(.int 1 ⟨515,61,515,62⟩),(.bin (.bcall 0 ⟨515,64,515,67⟩ [(.loc 2 ⟨515,68,515,73⟩)] ⟨515,64,515,74⟩) .Add (.int 1 ⟨515,77,515,78⟩) ⟨515,64,515,78⟩)] 0 ⟨515,60,515,79⟩)] 0 ⟨515,50,515,80⟩) ⟨515,7,515,80⟩) [.ret (.bool false ⟨516,15,516,20⟩) ⟨516,8,516,20⟩] [] ⟨515,4,516,20⟩),(.asN 8 ⟨517,4,517,9⟩ (.call (.glob 42 ⟨517,12,517,23⟩) [(.lstF [(.str [70,88] ⟨517,25,517,29⟩),(.loc 4 ⟨517,31,517,35⟩),(.str [65] ⟨517,37,517,40⟩),(.str [61] ⟨517,42,517,45⟩),(.str [66] ⟨517,47,517,50⟩)] ⟨517,24,517,51⟩)] ⟨517,12,517,52⟩) ⟨517,4,517,52⟩),(.asA (.loc 8 ⟨518,4,518,9⟩) 2 ⟨518,4,518,15⟩ (.dct [(.str [70,88] ⟨518,19,518,23⟩)] [(.int 1 ⟨518,25,518,26⟩)] ⟨518,18,518,27⟩) ⟨518,4,518,27⟩),(.ret (.cmp (.call (.glob 45 ⟨519,11,519,21⟩) [(.loc 8 ⟨519,22,519,27⟩)] ⟨519,11,519,28⟩) .Eq (.tup [(.meth (.loc 4 ⟨519,33,519,37⟩) 38 ⟨519,33,519,43⟩ [] ⟨519,33,519,45⟩),(.tup [(.str [110,97,109,101,100] ⟨519,48,519,55⟩),(.call (.glob 43 ⟨519,57,519,65⟩) [(.str [70,88] ⟨519,66,519,70⟩)] ⟨519,57,519,71⟩)] 0 ⟨519,47,519,72⟩),(.tup [(.str [114,101,108] ⟨519,75,519,80⟩),(.str [61] ⟨519,82,519,85⟩),(.call (.glob 43 ⟨519,87,519,95⟩) [(.str [65] ⟨519,96,519,99⟩)] ⟨519,87,519,100⟩),(.call (.glob 43 ⟨519,102,519,110⟩) [(.str [66] ⟨519,111,519,114⟩)] ⟨519,102,519,115⟩)] 0 ⟨519,74,519,116⟩)] 0 ⟨519,32,519,117⟩) ⟨519,11,519,117⟩) ⟨519,4,519,117⟩)] [x0,x1,some (.lst Lw),x3,some (.str (jw j)),x5,x6,x7,none] (c :: ρ)=some (rtR (.ok (.bool true) σ) fr):=by
  obtain ⟨r1,σ1,ρ1,a1,a2,_⟩:=HS1 c ρ
  obtain ⟨r2,σ2,ρ2,b1,b2,_⟩:=HS2 c ρ1
  obtain ⟨r3,σ3,ρ3,d1,d2,_⟩:=hH c (ρ2 ++ [.list [.str (jw j)]])
  obtain ⟨r4,σ4,ρ4,x,n1,n2,n3⟩:=hears_named j c ρ3
  have f1:=fault_data 1
  have f2:=fault_data 2
  have f3:=fault_data (Lw.length + 1)
  refine ⟨c :: ρ4,[x0,x1,some (.lst Lw),x3,some (.str (jw j)),x5,x6,x7,some (.ref r4)],fun n => ?_⟩
  wide_open with 2 using [tg42,tg43,tg45,a1,a2,b1,b2,d1,d2,n1,n3,cNV f1,cNV f2,cNV f3,cEV (dNm j),lenC,appC,bLR gcN (sml1 hl),bLenL hl,dFX,setR n2,mS8,mLow,ref_s]
noncomputable def LawRest (Lw:List V) (D:V):Prop := ∀ (x0 x1 x5 x6 x7:Option V) (j:Bool) (c:Cell) (ρ:List Cell), ∃ σ fr, ∀ n,exSs TB (n + 412) [(.ifs (.and [(.cmp (.sub (.loc 3 ⟨509,7,509,10⟩) (.int 0 ⟨509,11,509,12⟩) ⟨509,7,509,13⟩) .Eq (.str [114,101,108] ⟨509,17,509,22⟩) ⟨509,7,509,22⟩),(.cmp (.call (.glob 45 ⟨509,27,509,37⟩) [(.call (.glob 42 ⟨509,38,509,49⟩) [(.slc (.loc 2 ⟨509,50,509,55⟩) none (some (.neg (.int 1 ⟨509,58,509,59⟩) ⟨509,57,509,59⟩)) ⟨509,56,509,59⟩ ⟨509,50,509,60⟩)] ⟨509,38,509,61⟩)] ⟨509,27,509,62⟩) .NotEq (.tup [(.str [102,97,117,108,116] ⟨509,67,509,74⟩),(.tup [(.int 1 ⟨509,77,509,78⟩),(.bin (.bcall 0 ⟨509,80,509,83⟩ [(.loc 2 ⟨509,84,509,89⟩)] ⟨509,80,509,90⟩) .Sub (.int 1 ⟨509,93,509,94⟩) ⟨509,80,509,94⟩)] 0 ⟨509,76,509,95⟩)] 0 ⟨509,66,509,96⟩) ⟨509,27,509,96⟩)] ⟨509,7,509,96⟩) [.ret (.bool false ⟨510,15,510,20⟩) ⟨510,8,510,20⟩] [] ⟨509,4,510,20⟩),(.ifs (.and [(.cmp (.sub (.loc 3 ⟨511,7,511,10⟩) (.int 0 ⟨511,11,511,12⟩) ⟨511,7,511,13⟩) .Eq (.str [114,101,108] ⟨511,17,511,22⟩) ⟨511,7,511,22⟩),(.cmp (.call (.glob 45 ⟨511,27,511,37⟩) [(.call (.glob 42 ⟨511,38,511,49⟩) [(.bin (.slc (.loc 2 ⟨511,50,511,55⟩) none (some (.neg (.int 1 ⟨511,58,511,59⟩) ⟨511,57,511,59⟩)) ⟨511,56,511,59⟩ ⟨511,50,511,60⟩) .Add (.lst [(.str [77,79,86,69] ⟨511,64,511,70⟩),(.str [66] ⟨511,72,511,75⟩)] ⟨511,63,511,76⟩) ⟨511,50,511,76⟩)] ⟨511,38,511,77⟩)] ⟨511,27,511,78⟩) .NotEq (.tup [(.str [102,97,117,108,116] ⟨511,83,511,90⟩),(.tup [(.int 1 ⟨511,93,511,94⟩),(.bcall 0 ⟨511,96,511,99⟩ [(.loc 2 ⟨511,100,511,105⟩)] ⟨511,96,511,106⟩)] 0 ⟨511,92,511,107⟩)] 0 ⟨511,82,511,108⟩) ⟨511,27,511,108⟩)] ⟨511,7,511,108⟩) [.ret (.bool false ⟨512,15,512,20⟩) ⟨512,8,512,20⟩] [] ⟨511,4,512,20⟩),(.ifs (.or [(.cmp (.call (.glob 45 ⟨513,7,513,17⟩) [(.call (.glob 42 ⟨513,18,513,29⟩) [(.lstF [(.str [65] ⟨513,31,513,34⟩),(.str [77,79,86,69] ⟨513,36,513,42⟩)] ⟨513,30,513,43⟩)] ⟨513,18,513,44⟩)] ⟨513,7,513,45⟩) .NotEq (.tup [(.str [102,97,117,108,116] ⟨513,50,513,57⟩),(.tup [(.int 1 ⟨513,60,513,61⟩),(.int 2 ⟨513,63,513,64⟩)] 0 ⟨513,59,513,65⟩)] 0 ⟨513,49,513,66⟩) ⟨513,7,513,66⟩),(.cmp (.call (.glob 45 ⟨513,70,513,80⟩) [(.call (.glob 42 ⟨513,81,513,92⟩) [(.lstF [(.str [65] ⟨513,94,513,97⟩)] ⟨513,93,513,98⟩)] ⟨513,81,513,99⟩)] ⟨513,70,513,100⟩) .NotEq (.tup [(.str [102,97,117,108,116] ⟨513,105,513,112⟩),(.tup [(.int 1 ⟨513,115,513,116⟩),(.int 1 ⟨513,118,513,119⟩)] 0 ⟨513,114,513,120⟩)] 0 ⟨513,104,513,121⟩) ⟨513,70,513,121⟩)] ⟨513,7,513,121⟩) [.ret (.bool false ⟨514,15,514,20⟩) ⟨514,8,514,20⟩] [] ⟨513,4,514,20⟩),(.ifs (.cmp (.call (.glob 45 ⟨515,7,515,17⟩) [(.call (.glob 42 ⟨515,18,515,29⟩) [(.bin (.loc 2 ⟨515,30,515,35⟩) .Add (.lst [(.loc 4 ⟨515,39,515,43⟩)] ⟨515,38,515,44⟩) ⟨515,30,515,44⟩)] ⟨515,18,515,45⟩)] ⟨515,7,515,46⟩) .NotEq (.tup [(.str [102,97,117,108,116] ⟨515,51,515,58⟩),(.tup [(.int 1 ⟨515,61,515,62⟩),(.bin (.bcall 0 ⟨515,64,515,67⟩ [(.loc 2 ⟨515,68,515,73⟩)] ⟨515,64,515,74⟩) .Add (.int 1 ⟨515,77,515,78⟩) ⟨515,64,515,78⟩)] 0 ⟨515,60,515,79⟩)] 0 ⟨515,50,515,80⟩) ⟨515,7,515,80⟩) [.ret (.bool false ⟨516,15,516,20⟩) ⟨516,8,516,20⟩] [] ⟨515,4,516,20⟩),(.asN 8 ⟨517,4,517,9⟩ (.call (.glob 42 ⟨517,12,517,23⟩) [(.lstF [(.str [70,88] ⟨517,25,517,29⟩),(.loc 4 ⟨517,31,517,35⟩),(.str [65] ⟨517,37,517,40⟩),(.str [61] ⟨517,42,517,45⟩),(.str [66] ⟨517,47,517,50⟩)] ⟨517,24,517,51⟩)] ⟨517,12,517,52⟩) ⟨517,4,517,52⟩),(.asA (.loc 8 ⟨518,4,518,9⟩) 2 ⟨518,4,518,15⟩ (.dct [(.str [70,88] ⟨518,19,518,23⟩)] [(.int 1 ⟨518,25,518,26⟩)] ⟨518,18,518,27⟩) ⟨518,4,518,27⟩),(.ret (.cmp (.call (.glob 45 ⟨519,11,519,21⟩) [(.loc 8 ⟨519,22,519,27⟩)] ⟨519,11,519,28⟩) .Eq (.tup [(.meth (.loc 4 ⟨519,33,519,37⟩) 38 ⟨519,33,519,43⟩ [] ⟨519,33,519,45⟩),(.tup [(.str [110,97,109,101,100] ⟨519,48,519,55⟩),(.call (.glob 43 ⟨519,57,519,65⟩) [(.str [70,88] ⟨519,66,519,70⟩)] ⟨519,57,519,71⟩)] 0 ⟨519,47,519,72⟩),(.tup [(.str [114,101,108] ⟨519,75,519,80⟩),(.str [61] ⟨519,82,519,85⟩),(.call (.glob 43 ⟨519,87,519,95⟩) [(.str [65] ⟨519,96,519,99⟩)] ⟨519,87,519,100⟩),(.call (.glob 43 ⟨519,102,519,110⟩) [(.str [66] ⟨519,111,519,114⟩)] ⟨519,102,519,115⟩)] 0 ⟨519,74,519,116⟩)] 0 ⟨519,32,519,117⟩) ⟨519,11,519,117⟩) ⟨519,4,519,117⟩)] [x0,x1,some (.lst Lw),some D,some (.str (jw j)),x5,x6,x7,none] (c :: ρ)=some (rtR (.ok (.bool true) σ) fr)
theorem sCut {s:Sg} {L:List V} {v:V} (h:L.length≤900):slcV s (.lst (L ++ [v])) none (some (.int (-1)))=some (.lst L):=by
  show (if sml (L ++ [v]).length∧(-1:Int).natAbs≤1000 then some (V.lst ((L ++ [v]).take ((L ++ [v]).length - (-1:Int).natAbs))) else none)=_
  rw [if_pos ⟨by rw [List.length_append]; exact sml1 h,by decide⟩,List.length_append,show L.length + [v].length - (-1:Int).natAbs=L.length from Nat.add_sub_cancel _ 1,List.take_left]
theorem law_rel {L D':List V} {e1 e2:Int} (hH : ∀ j, ∃ e,HearsL ((L ++ [V.str [66]]) ++ [.str (jw j)]) (faultV ((L ++ [V.str [66]]).length + 1)) e) (h1:HearsL L (faultV (((L ++ [V.str [66]]).length:Int) - 1)) e1)
    (h2:HearsL (L ++ [V.str wMOVE,V.str [66]]) (faultV (L ++ [V.str [66]]).length) e2) (hl:L.length≤800):LawRest (L ++ [V.str [66]]) (.tup (.str tRel :: D')):=by
  intro x0 x1 x5 x6 x7 j c ρ
  obtain ⟨e,hH⟩:=hH j
  have hl1:L.length≤900:=by omega
  have hl2:(L ++ [V.str [66]]).length≤900:=by rw [List.length_append,List.length_singleton]; omega
  have hl3:L.length + [V.str wMOVE,V.str [66]].length≤1000:=by rw [List.length_cons,List.length_singleton]; omega
  obtain ⟨r1,σ1,ρ1,a1,a2,_⟩:=h1 c ρ
  obtain ⟨r2,σ2,ρ2,b1,b2,_⟩:=h2 c (ρ1 ++ [.list [.str wMOVE, .str [66]]])
  obtain ⟨σ,fr,ht⟩:=law_tail (x0:=x0) (x1:=x1) (x3:=some (.tup (.str tRel :: D'))) (x5:=x5) (x6:=x6) (x7:=x7) hH hl2 c ρ2
  have f1:=fault_data (((L ++ [V.str [66]]).length:Int) - 1)
  have f2:=fault_data (L ++ [V.str [66]]).length
  have c1:cmpV .Eq (.str tRel) (.str tRel)=some true:=cEV (by decide)
  refine ⟨σ,fr,fun n => ?_⟩
  wide_open with 2 using [ht,c1,sU0,tg42,tg45,a1,a2,b1,b2,cNV f1,cNV f2,lenC,appC,sCut hl1,bLR gcN (sml_of hl3),bLenL hl2]
theorem law_oth {L D':List V} {t:CS} (hH : ∀ j, ∃ e,HearsL (L ++ [.str (jw j)]) (faultV (L.length + 1)) e) (h1:isData (.str t)=true) (h2 : ¬ t=tRel) (hl:L.length≤900):LawRest L (.tup (.str t :: D')):=by
  intro x0 x1 x5 x6 x7 j c ρ
  obtain ⟨e,hH⟩:=hH j
  obtain ⟨σ,fr,ht⟩:=law_tail (x0:=x0) (x1:=x1) (x3:=some (.tup (.str t :: D'))) (x5:=x5) (x6:=x6) (x7:=x7) hH hl c ρ
  have d1:isData (.str tRel)=true:=by decide
  refine ⟨σ,fr,fun n => ?_⟩
  wide_open with 2 using [ht,cEF h1 d1 h2,sU0]
end
theorem pT56 {x0 x1 x2 x3 x4 y z:Option V} {r:Fr} {p q:Pos} {u v:V}:putT (x0 :: x1 :: x2 :: x3 :: x4 :: y :: z :: r) [(5,p),(6,q)] [u,v]=some (x0 :: x1 :: x2 :: x3 :: x4 :: some u :: some v :: r):=rfl
theorem cNVi {i:Int}:cmpV .NotEq (.int i) (.int i)=some false:=cNV rfl
theorem rest_of {is nt:Bool} {ch:Ch} (hc:chOK ch):LawRest ((toldWs [65] is nt ch).map .str) (toldD [65] nt ch):=by
  have wA:=B_ok.2.1
  have oA:okW [65]=true:=by decide
  have nA:([65]:CS) ≠ [70,88]:=by decide
  have hH : ∀ j, ∃ e,HearsL ((toldWs [65] is nt ch).map V.str ++ [.str (jw j)]) (faultV (((toldWs [65] is nt ch).map V.str).length + 1)) e:=fun j =>
    ⟨_,(hears_end (is:=is) (nt:=nt) wA oA nA hc j).L List.map_append (by rw [List.length_map]) rfl⟩
  have hl:(toldWs [65] is nt ch).length≤9:=(told_all (is:=is) (nt:=nt) oA hc).2
  cases ch with
  | inl q =>
    have HC1:=hears_cut (is:=is) (nt:=nt) wA oA nA hc (Q:=[]) (.inl rfl)
    have HC2:=hears_cut (is:=is) (nt:=nt) wA oA nA hc (Q:=[wMOVE,[66]]) (.inr rfl)
    rw [if_pos rfl,List.append_nil] at HC1
    rw [if_neg (List.cons_ne_nil _ _)] at HC2
    have e0:(toldWs [65] is nt (.inl q)).map V.str=([65] :: (isnt is nt ++ q.2)).map V.str ++ [.str [66]]:=List.map_append (l₁:=[65] :: (isnt is nt ++ q.2))
    have e1:(toldWs [65] is nt (.inl q)).length=([65] :: (isnt is nt ++ q.2)).length + 1:=List.length_append (as:=[65] :: (isnt is nt ++ q.2))
    rw [e0] at hH ⊢
    rw [e1] at hl
    generalize [65] :: (isnt is nt ++ q.2)=Wc at *
    have e2:((Wc.map V.str ++ [V.str [66]]).length:Int)=(Wc.length:Int) + 1:=by rw [List.length_append,List.length_map]; rfl
    exact law_rel hH (HC1.L rfl (by rw [e2,Int.add_sub_cancel]) rfl) (HC2.L List.map_append (by rw [e2]) rfl) (by rw [List.length_map]; omega)
  | inr q =>
    have h1:othW.all (fun q=>decide (q.1 ≠ tRel) && isData (.str q.1))=true:=by decide
    have h1:=List.all_eq_true.mp h1 q hc
    rw [Bool.and_eq_true,decide_eq_true_eq] at h1
    cases nt with
    | false=>exact law_oth hH h1.2 h1.1 (by rw [List.length_map]; omega)
    | true=>exact law_oth hH (by decide) (by decide) (by rw [List.length_map]; omega)
theorem law_n {l:List Int} (hl:l.length≤63) : ∃ σ, ∀ n,callV TB (n + 420) (.base 90) [.lst (l.map .int)] []=some (.ok (.bool true) σ):=by
  obtain ⟨c0,hp0,k0⟩:=pen_s hl
  obtain ⟨is,nt,ch,c1,ρ1,hch,hp1,k1⟩:=told_s hp0 (by omega) [65] []
  rw [List.nil_append] at k1
  have wA:=B_ok.2.1
  have wC:=B_ok.2.2
  have oA:okW [65]=true:=by decide
  have oC:okW [67]=true:=by decide
  have nA:([65]:CS) ≠ [70,88]:=by decide
  have nC:([67]:CS) ≠ [70,88]:=by decide
  have al:=(told_all (is:=is) (nt:=nt) oA hch).2
  have dD:isData (toldD [65] nt ch)=true:=told_data (fun n=>(A_data n).1) hch 35
  have dD':isDataN 39 (toldD [65] nt ch)=true:=told_data (fun n=>(A_data n).1) hch 34
  have H1:=(hears_one (is:=is) (nt:=nt) wA oA nA hch (Q:=[]) rfl (by decide) rfl (by decide) (by decide)).L (by rw [List.append_nil]) rfl rfl
  have H2:=(hears_one (is:=is) (nt:=nt) wA oA nA hch (Q:=[wMOVE]) (by decide) (by decide) (by decide +kernel) (by decide) (by decide)).L (L:=(toldWs [65] is nt ch).map V.str ++ [.str wMOVE]) List.map_append rfl rfl
  have hR:=rest_of (is:=is) (nt:=nt) hch
  have H12:=fun (is2 nt2:Bool) (ch2:Ch) (hc2:chOK ch2) (j:Bool)=>(hears_two (is:=is) (nt:=nt) (is2:=is2) (nt2:=nt2) wA oA nA wC oC nC hch hc2 j).L (L:=((toldWs [65] is nt ch).map V.str ++ [.str (jw j)]) ++ (toldWs [67] is2 nt2 ch2).map V.str) (e':=((toldWs [65] is nt ch).map V.str).length + 1 + ((toldWs [67] is2 nt2 ch2).map V.str).length)
    (by rw [List.map_append,List.map_append,List.append_assoc]; rfl) rfl (by rw [List.length_map,List.length_map])
  have hl1:((toldWs [65] is nt ch).map V.str).length≤900:=by rw [List.length_map]; omega
  generalize (toldWs [65] is nt ch).map V.str=L at *
  generalize toldD [65] nt ch=D at *
  obtain ⟨r1,σ1,ρ2,a1,a2,_⟩:=H1 c1 ρ1
  obtain ⟨r2,σ2,ρ3,b1,b2,_⟩:=H2 c1 (ρ2 ++ [.list [.str wMOVE]])
  obtain ⟨d,c2,dd1,dd2,hp2,kd⟩:=draw_s hp1 (by omega) (m:=2) (by omega) (by omega) ρ3
  have hjg:=join_get dd1 dd2
  have hd:d≤1000:=by omega
  obtain ⟨is2,nt2,ch2,c3,g3,hch2,hp3,k3⟩:=told_s hp2 (by omega) [67] ρ3
  have dD2:isDataN 39 (toldD [67] nt2 ch2)=true:=told_data (fun n=>(A_data n).2.2.1) hch2 34
  obtain ⟨r,σ5,ρ5,u1,u2,u3⟩:=H12 is2 nt2 ch2 hch2 (decide (d=1)) c3 ((ρ3 ++ g3) ++ [.list [.str (jw (decide (d=1)))]])
  have bl:=(told_all (is:=is2) (nt:=nt2) oC hch2).2
  have hl2:((toldWs [67] is2 nt2 ch2).map V.str).length≤900:=by rw [List.length_map]; omega
  have hl3:(L ++ [V.str (jw (decide (d=1)))]).length + ((toldWs [67] is2 nt2 ch2).map V.str).length≤1000:=by rw [List.length_append,List.length_singleton,List.length_map]; omega
  obtain ⟨σ,fr,hr⟩:=hR (some (.lst (l.map .int))) (some (.ref 0)) (some (.lst ((toldWs [67] is2 nt2 ch2).map .str))) (some (toldD [67] nt2 ch2)) (some (.ref r)) (decide (d=1)) c3 ρ5
  have dT:isData (.tup [.str (jt (decide (d=1))),D,toldD [67] nt2 ch2])=true:=by
    have e3:isDataN 39 (.str (jt (decide (d=1))))=true:=by cases decide (d=1) <;> rfl
    show ([V.str (jt (decide (d=1))),D,toldD [67] nt2 ch2].all (isDataN 39))=true
    rw [List.all_cons,List.all_cons,List.all_cons,e3,dD',dD2]
    rfl
  refine ⟨σ,fun n=>(c90 _).trans ?_⟩
  delta bd_law
  wide_open with 2 using [hr,tg40,tg41,tg42,tg44,tg45,k0,k1,kd,k3,pT23,pT56,a1,a2,b1,b2,u1,u2,u3,cNV dD,cNV dT,cNVi,lenC,appC,bLR gcN (sml1 hl1),bLL (sml_of hl3),sTup dd1 hd hjg,mS8,mLow,bLenL hl1,bLenL hl2]
theorem law02 {l:List Int} (hl:l.length≤63) : ∃ σ,callV TB 420 (.base 90) [.lst (l.map .int)] []=some (.ok (.bool true) σ):=by
  obtain ⟨σ,h⟩:=law_n hl
  exact ⟨σ,h 0⟩
end
end Mine.Pu
end
section

section
set_option tactic.hygienic false
namespace Mine
open PySem PySem.W PySem.Spec PySem.Calls PyProof.Rows PyProof.V

noncomputable def sS (l:CS):Str:=⟨l.toArray⟩
theorem sS_toList (s:Str):sS s.cps.toList=s:=by cases s; simp [sS]
theorem toList_sS (l:CS):(sS l).cps.toList=l:=by simp [sS]

structure LamI where
  qual:Str
  params:Arguments
  body:Expr
  scope:Scope
  pos:Pos
  owner:Scope
  tab:Addr × Addr

structure Cx where
  prog:Program
  w:World
  K:Frag
  B:Heap
  mg:Str→Option Value
  mb:Str→Option Value
  an:Nat→Str
  gn:Nat→Str
  T:Tabs
  fnA:Nat→Option Addr
  tabs:List (Addr × Addr)
  lamI:Nat→Option LamI

noncomputable abbrev tupObj (xs : Array Value) (n : Nat) : Obj := { cls := .type "tuple", data := .seq xs n }
noncomputable def flatD:V→Option PyData
  | .int i=>some (.int i)
  | .str l=>some (.str (sS l))
  | _=>none

inductive DRep:List CS→List V→List (PyData × PyData)→Prop where
  | nil:DRep [] [] []
  | cons {k ks v vs d ds}:flatD v=some d→DRep ks vs ds→DRep (k :: ks) (v :: vs) ((.str (sS k),d) :: ds)
mutual
inductive VRep (c:Cx) (h:Heap) (μ:Addr→Prop) (ρ:List (Addr × Addr)):V→Value→Prop where
  | none:VRep c h μ ρ .none .none
  | bool (b):VRep c h μ ρ (.bool b) (.bool b)
  | int (i t):VRep c h μ ρ (.int i) (.int i t)
  | str (l t):VRep c h μ ρ (.str l) (.str (sS l) t)
  | tup {l xs a n}:h.get? a=some (tupObj xs n) → ¬ μ a→VReps c h μ ρ l xs.toList→VRep c h μ ρ (.tup l) (.ref a)
  | lst {l xs a n}:h.get? a=some (listOf xs n) → ¬ μ a→VReps c h μ ρ l xs.toList→VRep c h μ ρ (.lst l) (.ref a)
  | dct {ks vs a o kvs ds}:h.get? a=some o→o.IsDictOf (PySem.strKind c.prog c.w) kvs→FlatPairs .str kvs ds→(a == sysModules)=false → ¬ μ a →
      DRep ks vs ds→VRep c h μ ρ (.dct ks vs) (.ref a)
  | rcd {C C' fs x dx es n}:C < 4→c.fnA C=some C'→h.get? x=some (instObj C' dx)→h.get? dx=some (dictOf es n) → ¬ μ x → ¬ μ dx→FRep c h μ ρ fs es→VRep c h μ ρ (.rcd C fs) (.ref x)
  | ref {i x d}:ρ[i]? = some (x,d)→VRep c h μ ρ (.ref i) (.ref x)
  | base {g a}:c.fnA g=some a→VRep c h μ ρ (.base g) (.ref a)
  | clo {k vs I f c' ctv pm cl oc ov tq} : c.lamI k = some I → h.get? f = some (kla_obj "<lambda>" I.qual I.params I.body I.scope cl pm c' ctv) → ¬ μ f →
      h.get? c'=some oc→oc.data = .fields ov→ov[1]? = some (.str I.qual tq) → ¬ μ c'→CRep c h μ ρ I.scope.names cl vs→VRep c h μ ρ (.clo k vs) (.ref f)
inductive VReps (c:Cx) (h:Heap) (μ:Addr→Prop) (ρ:List (Addr × Addr)):List V→List Value→Prop where
  | nil:VReps c h μ ρ [] []
  | cons {v x vs xs}:VRep c h μ ρ v x→VReps c h μ ρ vs xs→VReps c h μ ρ (v :: vs) (x :: xs)
inductive FRep (c:Cx) (h:Heap) (μ:Addr→Prop) (ρ:List (Addr × Addr)):List (Nat × V)→List DictEntry→Prop where
  | nil:FRep c h μ ρ [] []
  | cons {f v fs e es t}:f < 40→e.key = .str (c.an f) t→VRep c h μ ρ v e.val→FRep c h μ ρ fs es→FRep c h μ ρ ((f,v) :: fs) (e :: es)
inductive CRep (c:Cx) (h:Heap) (μ:Addr→Prop) (ρ:List (Addr × Addr)):List (Str × NameKind)→List (Str × Addr)→List V→Prop where
  | nil {cl}:CRep c h μ ρ [] cl []
  | skip {y k ns cl vs}:k ≠ .free→CRep c h μ ρ ns cl vs→CRep c h μ ρ ((y,k) :: ns) cl vs
  | cons {y ns cl ca o x v vs}:cl.lookup y=some ca→h.get? ca=some o→o.data = .cell (some x) → ¬ μ ca→VRep c h μ ρ v x→CRep c h μ ρ ns cl vs→CRep c h μ ρ ((y, .free) :: ns) cl (v :: vs)
end

noncomputable def isIter (o:Obj):Bool:=match o.cls,o.data with
  | .type n, .fields vs => (n == "list_iterator" || n == "enumerate") && (match (vs[1]? : Option Value) with | some (.str _ _) => false | _ => true)
  | _,_=>false
theorem isIter_cls {o:Obj} {C:Addr} (h:o.cls = .ref C):isIter o=false:=by unfold isIter; rw [h]
theorem isIter_dict {o:Obj} {es ep} (h:o.data = .dict es ep):isIter o=false:=by unfold isIter; rw [h]; split <;> first | rfl | (rename_i q; cases q)
theorem isIter_cell {o:Obj} {x} (h:o.data = .cell x):isIter o=false:=by unfold isIter; rw [h]; split <;> first | rfl | (rename_i q; cases q)
set_option tactic.hygienic true in theorem isIter_code {o:Obj} {vs:Array Value} {q:Str} {t:Tok} (h:o.data = .fields vs) (h1:vs[1]? = some (.str q t)):isIter o=false:=by
  unfold isIter
  rw [h]
  split
  · rename_i vs' _ e
    cases e
    rw [h1,Bool.and_false]
  · rfl
noncomputable def Grow (h:Heap) (μ:Addr→Prop) (h':Heap) (μ':Addr→Prop):Prop := ∀ a o,h.get? a=some o → ¬ μ a→h'.get? a=some o ∧ ¬ μ' a
theorem Grow.refl (h:Heap) (μ:Addr→Prop):Grow h μ h μ:=fun _ _ e n=>⟨e,n⟩
theorem Grow.trans {h₁ h₂ h₃:Heap} {μ₁ μ₂ μ₃:Addr→Prop} (x:Grow h₁ μ₁ h₂ μ₂) (y:Grow h₂ μ₂ h₃ μ₃):Grow h₁ μ₁ h₃ μ₃:=fun a o e n =>
  let ⟨e₁,n₁⟩:=x a o e n; y a o e₁ n₁

theorem pre_get {α:Type} {l l':List α} {i:Nat} {x:α} (r:l <+: l') (e:l[i]? = some x):l'[i]? = some x:=by
  obtain ⟨t,rfl⟩:=r
  rw [List.getElem?_append_left (List.getElem?_eq_some_iff.mp e).1]; exact e
section
variable {c:Cx} {h h':Heap} {μ μ':Addr→Prop} {ρ ρ':List (Addr × Addr)}
theorem isIter_dOf {o:Obj} {kvs:List (Str × Value)} (a:Obj.IsDictOf (PySem.strKind c.prog c.w) o kvs):isIter o=false:=by
  obtain ⟨_,_,_,q,_⟩:=a
  exact isIter_dict q
theorem VRep.map (g : ∀ a o,isIter o=false→h.get? a=some o → ¬ μ a→h'.get? a=some o ∧ ¬ μ' a) (r:ρ <+: ρ') {v x} (H:VRep c h μ ρ v x):VRep c h' μ' ρ' v x:=VRep.rec (motive_1:=fun v x _=>VRep c h' μ' ρ' v x) (motive_2:=fun v x _=>VReps c h' μ' ρ' v x) (motive_3:=fun v x _=>FRep c h' μ' ρ' v x) (motive_4:=fun n v x _=>CRep c h' μ' ρ' n v x)
  .none .bool .int .str (fun e n _ v => .tup (g _ _ rfl e n).1 (g _ _ rfl e n).2 v) (fun e n _ v => .lst (g _ _ rfl e n).1 (g _ _ rfl e n).2 v) (fun e a b d n x => .dct (g _ _ (isIter_dOf a) e n).1 a b d (g _ _ (isIter_dOf a) e n).2 x)
  (fun z a e1 e2 n1 n2 _ f => .rcd z a (g _ _ rfl e1 n1).1 (g _ _ rfl e2 n2).1 (g _ _ rfl e1 n1).2 (g _ _ rfl e2 n2).2 f) (fun {_ _ d} e => .ref (d:=d) (pre_get r e)) .base
  (fun l e1 n1 e2 a b n2 _ cr => .clo l (g _ _ rfl e1 n1).1 (g _ _ rfl e1 n1).2 (g _ _ (isIter_code a b) e2 n2).1 a b (g _ _ (isIter_code a b) e2 n2).2 cr) .nil (fun _ _ a b => .cons a b) .nil (fun k e _ _ a b => .cons k e a b) .nil (fun k _ b => .skip k b)
  (fun l e a n _ _ b d => .cons l (g _ _ (isIter_cell a) e n).1 a (g _ _ (isIter_cell a) e n).2 b d) H
theorem VReps.ind {P:List V→List Value→Prop} (nil:P [] []) (cons : ∀ {v x vs xs},VRep c h μ ρ v x→VReps c h μ ρ vs xs→P vs xs→P (v :: vs) (x :: xs)) {l xs} (H:VReps c h μ ρ l xs):P l xs :=
  VReps.rec (motive_1:=fun _ _ _=>True) (motive_2:=fun l xs _=>P l xs) (motive_3:=fun _ _ _=>True) (motive_4:=fun _ _ _ _=>True) trivial (fun _=>trivial) (fun _ _=>trivial) (fun _ _=>trivial) (fun _ _ _ _=>trivial) (fun _ _ _ _=>trivial)
    (fun _ _ _ _ _ _=>trivial) (fun _ _ _ _ _ _ _ _=>trivial) (fun _=>trivial) (fun _=>trivial) (fun _ _ _ _ _ _ _ _ _=>trivial) nil (fun a b _ ih=>cons a b ih) trivial (fun _ _ _ _ _ _=>trivial) trivial (fun _ _ _=>trivial) (fun _ _ _ _ _ _ _ _=>trivial) H
theorem FRep.ind {P:List (Nat × V)→List DictEntry→Prop} (nil:P [] []) (cons : ∀ {f v fs e es t},f < 40→e.key = .str (c.an f) t→VRep c h μ ρ v e.val→FRep c h μ ρ fs es→P fs es→P ((f,v) :: fs) (e :: es)) {l xs} (H:FRep c h μ ρ l xs):P l xs :=
  FRep.rec (motive_1:=fun _ _ _=>True) (motive_2:=fun _ _ _=>True) (motive_3:=fun l xs _=>P l xs) (motive_4:=fun _ _ _ _=>True) trivial (fun _=>trivial) (fun _ _=>trivial) (fun _ _=>trivial) (fun _ _ _ _=>trivial) (fun _ _ _ _=>trivial)
    (fun _ _ _ _ _ _=>trivial) (fun _ _ _ _ _ _ _ _=>trivial) (fun _=>trivial) (fun _=>trivial) (fun _ _ _ _ _ _ _ _ _=>trivial) trivial (fun _ _ _ _=>trivial) nil (fun a b d e _ ih=>cons a b d e ih) trivial (fun _ _ _=>trivial) (fun _ _ _ _ _ _ _ _=>trivial) H
theorem VRep.mono (g:Grow h μ h' μ') (r:ρ <+: ρ') {v x} (H:VRep c h μ ρ v x):VRep c h' μ' ρ' v x:=H.map (fun a o _=>g a o) r
theorem VReps.map (g : ∀ a o,isIter o=false→h.get? a=some o → ¬ μ a→h'.get? a=some o ∧ ¬ μ' a) (r:ρ <+: ρ') {v x} (H:VReps c h μ ρ v x):VReps c h' μ' ρ' v x:=VReps.rec (motive_1:=fun v x _=>VRep c h' μ' ρ' v x) (motive_2:=fun v x _=>VReps c h' μ' ρ' v x) (motive_3:=fun v x _=>FRep c h' μ' ρ' v x) (motive_4:=fun n v x _=>CRep c h' μ' ρ' n v x)
  .none .bool .int .str (fun e n _ v => .tup (g _ _ rfl e n).1 (g _ _ rfl e n).2 v) (fun e n _ v => .lst (g _ _ rfl e n).1 (g _ _ rfl e n).2 v) (fun e a b d n x => .dct (g _ _ (isIter_dOf a) e n).1 a b d (g _ _ (isIter_dOf a) e n).2 x)
  (fun z a e1 e2 n1 n2 _ f => .rcd z a (g _ _ rfl e1 n1).1 (g _ _ rfl e2 n2).1 (g _ _ rfl e1 n1).2 (g _ _ rfl e2 n2).2 f) (fun {_ _ d} e => .ref (d:=d) (pre_get r e)) .base
  (fun l e1 n1 e2 a b n2 _ cr => .clo l (g _ _ rfl e1 n1).1 (g _ _ rfl e1 n1).2 (g _ _ (isIter_code a b) e2 n2).1 a b (g _ _ (isIter_code a b) e2 n2).2 cr) .nil (fun _ _ a b => .cons a b) .nil (fun k e _ _ a b => .cons k e a b) .nil (fun k _ b => .skip k b)
  (fun l e a n _ _ b d => .cons l (g _ _ (isIter_cell a) e n).1 a (g _ _ (isIter_cell a) e n).2 b d) H
theorem VReps.mono (g:Grow h μ h' μ') (r:ρ <+: ρ') {v x} (H:VReps c h μ ρ v x):VReps c h' μ' ρ' v x:=H.map (fun a o _=>g a o) r
theorem FRep.map (g : ∀ a o,isIter o=false→h.get? a=some o → ¬ μ a→h'.get? a=some o ∧ ¬ μ' a) (r:ρ <+: ρ') {v x} (H:FRep c h μ ρ v x):FRep c h' μ' ρ' v x:=FRep.rec (motive_1:=fun v x _=>VRep c h' μ' ρ' v x) (motive_2:=fun v x _=>VReps c h' μ' ρ' v x) (motive_3:=fun v x _=>FRep c h' μ' ρ' v x) (motive_4:=fun n v x _=>CRep c h' μ' ρ' n v x)
  .none .bool .int .str (fun e n _ v => .tup (g _ _ rfl e n).1 (g _ _ rfl e n).2 v) (fun e n _ v => .lst (g _ _ rfl e n).1 (g _ _ rfl e n).2 v) (fun e a b d n x => .dct (g _ _ (isIter_dOf a) e n).1 a b d (g _ _ (isIter_dOf a) e n).2 x)
  (fun z a e1 e2 n1 n2 _ f => .rcd z a (g _ _ rfl e1 n1).1 (g _ _ rfl e2 n2).1 (g _ _ rfl e1 n1).2 (g _ _ rfl e2 n2).2 f) (fun {_ _ d} e => .ref (d:=d) (pre_get r e)) .base
  (fun l e1 n1 e2 a b n2 _ cr => .clo l (g _ _ rfl e1 n1).1 (g _ _ rfl e1 n1).2 (g _ _ (isIter_code a b) e2 n2).1 a b (g _ _ (isIter_code a b) e2 n2).2 cr) .nil (fun _ _ a b => .cons a b) .nil (fun k e _ _ a b => .cons k e a b) .nil (fun k _ b => .skip k b)
  (fun l e a n _ _ b d => .cons l (g _ _ (isIter_cell a) e n).1 a (g _ _ (isIter_cell a) e n).2 b d) H
theorem FRep.mono (g:Grow h μ h' μ') (r:ρ <+: ρ') {v x} (H:FRep c h μ ρ v x):FRep c h' μ' ρ' v x:=H.map (fun a o _=>g a o) r
theorem CRep.map (g : ∀ a o,isIter o=false→h.get? a=some o → ¬ μ a→h'.get? a=some o ∧ ¬ μ' a) (r:ρ <+: ρ') {n v x} (H:CRep c h μ ρ n v x):CRep c h' μ' ρ' n v x:=CRep.rec (motive_1:=fun v x _=>VRep c h' μ' ρ' v x) (motive_2:=fun v x _=>VReps c h' μ' ρ' v x) (motive_3:=fun v x _=>FRep c h' μ' ρ' v x) (motive_4:=fun n v x _=>CRep c h' μ' ρ' n v x)
  .none .bool .int .str (fun e n _ v => .tup (g _ _ rfl e n).1 (g _ _ rfl e n).2 v) (fun e n _ v => .lst (g _ _ rfl e n).1 (g _ _ rfl e n).2 v) (fun e a b d n x => .dct (g _ _ (isIter_dOf a) e n).1 a b d (g _ _ (isIter_dOf a) e n).2 x)
  (fun z a e1 e2 n1 n2 _ f => .rcd z a (g _ _ rfl e1 n1).1 (g _ _ rfl e2 n2).1 (g _ _ rfl e1 n1).2 (g _ _ rfl e2 n2).2 f) (fun {_ _ d} e => .ref (d:=d) (pre_get r e)) .base
  (fun l e1 n1 e2 a b n2 _ cr => .clo l (g _ _ rfl e1 n1).1 (g _ _ rfl e1 n1).2 (g _ _ (isIter_code a b) e2 n2).1 a b (g _ _ (isIter_code a b) e2 n2).2 cr) .nil (fun _ _ a b => .cons a b) .nil (fun k e _ _ a b => .cons k e a b) .nil (fun k _ b => .skip k b)
  (fun l e a n _ _ b d => .cons l (g _ _ (isIter_cell a) e n).1 a (g _ _ (isIter_cell a) e n).2 b d) H
theorem CRep.mono (g:Grow h μ h' μ') (r:ρ <+: ρ') {n v x} (H:CRep c h μ ρ n v x):CRep c h' μ' ρ' n v x:=H.map (fun a o _=>g a o) r
end

inductive CellAt (c:Cx) (h:Heap) (μ:Addr→Prop) (ρ:List (Addr × Addr)):Addr × Addr→Cell→Prop where
  | inst {C C' x d fs es n}:C < 4→c.fnA C=some C'→h.get? x=some (instObj C' d) → ¬ μ x→h.get? d=some (dictOf es n)→μ d→FRep c h μ ρ fs es→CellAt c h μ ρ (x,d) (.inst C fs)
  | list {x l xs n}:h.get? x=some (listOf xs n)→μ x→VReps c h μ ρ l xs.toList→CellAt c h μ ρ (x,x) (.list l)
  | exc {C C' x o vs d fs es n}:C < 4→c.fnA C=some C'→h.get? x=some o→o.cls = .ref C'→o.dict=some d→o.data = .fields vs→μ x→h.get? d=some (dictOf es n) → ¬ μ d→FRep c h μ ρ fs es→CellAt c h μ ρ (x,x) (.exc C fs)
  | new {C C' x o vs d fs es n}:C < 4→c.fnA C=some C'→h.get? x=some o→o.cls = .ref C'→o.dict=some d→o.data = .fields vs→μ x→h.get? d=some (dictOf es n) → ¬ μ d→FRep c h μ ρ fs es→vs[1]? = some .none→CellAt c h μ ρ (x,x) (.new C fs)
inductive CellsAt (c:Cx) (h:Heap) (μ:Addr→Prop) (ρ₀:List (Addr × Addr)):List (Addr × Addr)→List Cell→Prop where
  | nil:CellsAt c h μ ρ₀ [] []
  | cons {p q ρ σ}:CellAt c h μ ρ₀ p q→CellsAt c h μ ρ₀ ρ σ→CellsAt c h μ ρ₀ (p :: ρ) (q :: σ)

structure FrI where
  env:Env
  L:Addr
  m:Str→Option Value

noncomputable def TabRow (c:Cx) (h:Heap) (μ:Addr→Prop) (q:Addr × Addr):Prop :=
  ∃ ps, h.get? q.2 = some (tabObj ps) ∧ (ps = #[] ∨ ∃ k I c' oc ov tq, c.lamI k = some I ∧ I.tab = q ∧ ps = #[rawInt I.pos.line, rawInt I.pos.col, .ref c'] ∧
    h.get? c'=some oc∧oc.data = .fields ov∧ov[1]? = some (.str I.qual tq) ∧ ¬ μ c')

structure TopL (mg mb:Str→Option Value) (h:Heap):Prop where
  g:h.Ns mainGlobals mg
  b:h.Ns builtinsNs mb
  nolimit:h.NoLimit
  bmain : ∃ bm ob, mg "__builtins__" = some (.ref bm) ∧ bm ≠ builtinsNs ∧ h.get? bm = some ob ∧ ob.cls = .type "module" ∧ ob.dict = some builtinsNs ∧ ob.data = .plain
structure Base (c:Cx):Prop where
  XK:c.K.In c.B
  T:TopL c.mg c.mb c.B

structure FrOK (n:Nat) (μ:Addr→Prop) (h:Heap) (f:FrI):Prop where
  fr:f.env.frame=some f.L
  lo:f.env.locals=f.L
  kd:f.env.scope.kind = .function
  ns:h.Ns f.L f.m
  m:μ f.L
  le:n≤f.L
structure Inv (c:Cx) (fs:List FrI) (μ:Addr→Prop) (ρ:List (Addr × Addr)) (σ:List Cell) (h:Heap):Prop where
  base : ∀ a o,c.B.get? a=some o→h.get? a=some o ∧ ¬ μ a
  low:c.B.objs.size≤h.objs.size
  mlt : ∀ a,μ a→a < h.objs.size
  frames : ∀ f ∈ fs,FrOK c.B.objs.size μ h f
  cells:CellsAt c h μ ρ ρ σ
  nodup:(fs.map (·.L) ++ (ρ.map (·.2) ++ c.tabs.map (·.2))).Nodup
  tabs : ∀ q ∈ c.tabs,μ q.2∧TabRow c h μ q
end Mine
end
section
namespace Mine
open PySem PySem.W PySem.Spec PySem.Calls PyProof.Rows PyProof.V

noncomputable def nameOf:Expr→Option Str
  | .Name id _=>some id
  | _=>none
noncomputable def callee:Expr→Option Str
  | .Call f _ _ _=>nameOf f
  | _=>none
noncomputable def isNm:Expr→Bool
  | .Name _ _=>true
  | _=>false
noncomputable def isSl:Expr→Bool
  | .Slice _ _ _ _=>true
  | _=>false
noncomputable def isStar:Expr→Bool
  | .Starred _ _=>true
  | _=>false
theorem isNm_ {e:Expr} (h:isNm e=true) : ∃ y q,e = .Name y q:=by
  cases e with
  | Name y q=>exact ⟨y,q,rfl⟩
  | _=>exact Bool.noConfusion h
noncomputable def noSuper (e:Expr):Bool:=match callee e with
  | some id => id != ("super" : Str)
  | none=>true
noncomputable def notDebug (x : Str) : Bool := !(x == ("__debug__" : Str)) && !(x == ("__classdict__" : Str))
noncomputable def biV:Nat→Option (Str × Value)
  | 0 => some ("len", .builtin "len")
  | 1 => some ("abs", .builtin "abs")
  | 2 => some ("sum", .builtin "sum")
  | 3 => some ("min", .builtin "min")
  | 4 => some ("list", .type "list")
  | 5 => some ("tuple", .type "tuple")
  | 6 => some ("enumerate", .type "enumerate")
  | _=>none
noncomputable def okSwap:Expr→Bool
  | .Tuple vs _ _ => !(vs.all (constantsAlone 8)) || vs.all (foldedForSure 8)
  | _=>true
section
variable (c:Cx) (nm:List Str) (sc:Scope)
noncomputable def trLoc (i:Nat):Option Str:=match nm[i]? with
  | some y=>if notDebug y && (sc.names.lookup y == some .local || sc.names.lookup y == some .cell || sc.names.lookup y == some .free) then some y else none
  | none=>none
noncomputable def trSet (i:Nat):Option Str:=match nm[i]? with
  | some y=>if notDebug y && sc.names.lookup y == some .local && decide nm.Nodup then some y else none
  | none=>none
mutual
noncomputable def trX:Nat→X→Option Expr
  | 0,_=>none
  | m + 1, x => match x with
    | .none p=>some (.Constant .none 0 p)
    | .bool b p=>some (.Constant (.bool b) 0 p)
    | .int i p=>some (.Constant (.int i) 0 p)
    | .str s p=>some (.Constant (.str (sS s)) 0 p)
    | .loc i p=>(trLoc nm sc i).map fun y => .Name y p
    | .glob g p=>if notDebug (c.gn g) && sc.names.lookup (c.gn g) == some .globalImplicit then some (.Name (c.gn g) p) else none
    | .attr x f p=>(trX m x).bind fun e=>if noSuper e && decide (f≤10) then some (.Attribute e (c.an f) p) else none
    | .call f as p=>(trX m f).bind fun fe=>(trXs m as).bind fun es=>if isNm fe then some (.Call fe es [] p) else none
    | .bcall b bp as p=>(biV b).bind fun y=>(trXs m as).bind fun es=>if notDebug y.1 && sc.names.lookup y.1 == some .globalImplicit then some (.Call (.Name y.1 bp) es [] p) else none
    | .meth o f pa as p=>(trX m o).bind fun e=>(trXs m as).bind fun es=>if noSuper e && pa.endLine == p.line && decide (es.length < 30) then some (.Call (.Attribute e (c.an f) pa) es [] p) else none
    | .bin l op r p=>(trX m l).bind fun a=>(trX m r).bind fun b=>some (.BinOp a op b p)
    | .not x p=>(trX m x).bind fun e=>some (.UnaryOp .Not e p)
    | .neg x p=>(trX m x).bind fun e=>some (.UnaryOp .USub e p)
    | .and xs p=>(trXs m xs).bind fun es=>some (.BoolOp .And es p)
    | .or xs p=>(trXs m xs).bind fun es=>some (.BoolOp .Or es p)
    | .ite t a b p=>(trX m t).bind fun t=>(trX m a).bind fun a=>(trX m b).bind fun b=>some (.IfExp t a b p)
    | .cmp l op r p=>(trX m l).bind fun a=>(trX m r).bind fun b=>if behindInMarks op b then none else some (.Compare a [op] [b] p)
    | .cmp2 l op k op2 r p=>(trX m l).bind fun a=>(trX m k).bind fun k=>(trX m r).bind fun b=>if lastMarks [op,op2] [k,b] then none else some (.Compare a [op,op2] [k,b] p)
    | .tup xs k p=>(trXs m xs).bind fun es=>some (.Tuple es k p)
    | .lst xs p=>(trXs m xs).bind fun es=>some (.List es p)
    | .lstF xs p=>(trXs m xs).bind fun es=>some (.List es p)
    | .dct ks vs p=>(trXs m ks).bind fun ks=>(trXs m vs).bind fun vs=>some (.Dict (ks.map some) vs p)
    | .sub x i p=>(trX m x).bind fun a=>(trX m i).bind fun b=>if isSl b then none else some (.Subscript a b p)
    | .slc x lo hi sp p=>(trX m x).bind fun a=>(trO m lo).bind fun l=>(trO m hi).bind fun h=>if isNm a then some (.Subscript a (.Slice l h none sp) p) else none
    | .lam k p=>(c.lamI k).bind fun I=>if I.pos == p && I.owner == sc && ((I.scope.names.filter fun y=>y.2 == .free).map (·.1) == (c.T.lamc k).filterMap (nm[·]?)) && decide (((c.T.lamc k).filterMap (nm[·]?)).length=(c.T.lamc k).length) &&
        ((c.T.lamc k).filterMap (nm[·]?)).all (fun y=>sc.names.lookup y == some .cell || sc.names.lookup y == some .free) then some (.Lambda I.params I.body I.scope p) else none
noncomputable def trO:Nat→Option X→Option (Option Expr)
  | 0,_=>none
  | _ + 1,none=>some none
  | m + 1,some x=>(trX m x).map some
noncomputable def trXs:Nat→List X→Option (List Expr)
  | 0,_=>none
  | _ + 1,[]=>some []
  | m + 1,x :: r=>(trX m x).bind fun e=>(trXs m r).bind fun es=>if isStar e then none else some (e :: es)
end
noncomputable def trT:List (Nat × Pos)→Option (List Expr)
  | []=>some []
  | (i,p) :: r=>(trSet nm sc i).bind fun y=>(trT r).bind fun es=>some (.Name y p :: es)
mutual
noncomputable def trS:Nat→S→Option Stmt
  | 0,_=>none
  | m + 1, t => match t with
    | .expr x p=>(trX c nm sc m x).bind fun e=>some (.Expr e p)
    | .asN i pn x p=>(trSet nm sc i).bind fun y=>(trX c nm sc m x).bind fun e=>some (.Assign [.Name y pn] e p)
    | .asT ts k pt x p=>(trT nm sc ts).bind fun es=>(trX c nm sc m x).bind fun e=>if okSwap e && decide (ts.map (·.1)).Nodup then some (.Assign [.Tuple es k pt] e p) else none
    | .asA o f pa x p=>(trX c nm sc m o).bind fun o=>(trX c nm sc m x).bind fun e=>if noSuper o then some (.Assign [.Attribute o (c.an f) pa] e p) else none
    | .asI o i pi x p=>(trX c nm sc m o).bind fun o=>(trX c nm sc m i).bind fun i=>(trX c nm sc m x).bind fun e=>some (.Assign [.Subscript o i pi] e p)
    | .ifs t a b p=>(trX c nm sc m t).bind fun t=>(trSs m a).bind fun a=>(trSs m b).bind fun b=>some (.If t a b p)
    | .whl t a p=>(trX c nm sc m t).bind fun t=>(trSs m a).bind fun a=>some (.While t a [] p)
    | .forN i pn x a p=>(trSet nm sc i).bind fun y=>(trX c nm sc m x).bind fun e=>(trSs m a).bind fun a=>some (.For (.Name y pn) e a [] p)
    | .forT ts k pt x a p=>(trT nm sc ts).bind fun es=>(trX c nm sc m x).bind fun e=>(trSs m a).bind fun a=>if decide (ts.map (·.1)).Nodup then some (.For (.Tuple es k pt) e a [] p) else none
    | .ret x p=>(trX c nm sc m x).bind fun e=>some (.Return (some e) p)
    | .raise x p=>(trX c nm sc m x).bind fun e=>some (.Raise (some e) none p)
    | .try1 a g pg i h ph p=>(trSs m a).bind fun a=>(trSet nm sc i).bind fun y=>(trSs m h).bind fun h =>
        if notDebug (c.gn g) && sc.names.lookup (c.gn g) == some .globalImplicit then some (.Try a [.ExceptHandler (some (.Name (c.gn g) pg)) (some y) h ph] [] [] p) else none
noncomputable def trSs:Nat→List S→Option (List Stmt)
  | 0,_=>none
  | _ + 1,[]=>some []
  | m + 1,t :: r=>(trS m t).bind fun t=>(trSs m r).bind fun r=>some (t :: r)
end
end
end Mine
end
section
namespace Mine
open PySem PySem.W PySem.Spec PySem.Calls PyProof.Rows PyProof.V
section
variable {T:Tabs} {n:Nat} {fr:List (Option V)} {s:List Cell}
theorem eS_expr {x:X} {z1:Pos}:exS T (n + 1) (.expr x z1) fr s=(match exX T n x fr s with
      | some (.ok _ s)=>some (.nx fr s)
      | some (.ex i s)=>some (.ex i fr s)
      | none=>none):=rfl
theorem eS_asN {i:Nat} {z1:Pos} {x:X} {z3:Pos}:exS T (n + 1) (.asN i z1 x z3) fr s=(match exX T n x fr s with
      | some (.ok v s)=>some (.nx (fr.set i (some v)) s)
      | some (.ex i s)=>some (.ex i fr s)
      | none=>none):=rfl
theorem eS_asT {ts:List (Nat × Pos)} {z1:Nat} {z2:Pos} {x:X} {z4:Pos}:exS T (n + 1) (.asT ts z1 z2 x z4) fr s=(match exX T n x fr s with
      | some (.ok (.tup vs) s)=>(putT fr ts vs).map fun fr => .nx fr s
      | some (.ok _ _)=>none
      | some (.ex i s)=>some (.ex i fr s)
      | none=>none):=rfl
theorem eS_asA {o:X} {f:Nat} {z2:Pos} {x:X} {z4:Pos}:exS T (n + 1) (.asA o f z2 x z4) fr s=(match bnd (exX T n x fr s) fun v s=>bnd (exX T n o fr s) fun o s=>match o with
          | .ref i => match s[i]? with
            | some (.inst C fs)=>if f≤10∧C ≠ 0∧fs.length≤40 then some (.ok V.none (s.set i (.inst C (fput f v fs)))) else none
            | _=>none
          | _=>none with
      | some (.ok _ s)=>some (.nx fr s)
      | some (.ex i s)=>some (.ex i fr s)
      | none=>none):=rfl
theorem eS_asI {o:X} {k:X} {z2:Pos} {x:X} {z4:Pos}:exS T (n + 1) (.asI o k z2 x z4) fr s=(match bnd (exX T n x fr s) fun v s=>bnd (exX T n o fr s) fun o s=>bnd (exX T n k fr s) fun k s=>match o,k with
          | .ref i, .int j => match s[i]? with
            | some (.list l)=>if 0≤j∧j≤1000∧j.toNat < l.length then some (.ok V.none (s.set i (.list (l.set j.toNat v)))) else none
            | _=>none
          | _,_=>none with
      | some (.ok _ s)=>some (.nx fr s)
      | some (.ex i s)=>some (.ex i fr s)
      | none=>none):=rfl
theorem eS_ifs {t : X} {a : List S} {b : List S} {z3 : Pos} : exS T (n + 1) (.ifs t a b z3) fr s = (match exX T n t fr s with
      | some (.ok v s) => match truthy s v with
        | some true=>exSs T n a fr s
        | some false=>exSs T n b fr s
        | none=>none
      | some (.ex i s)=>some (.ex i fr s)
      | none=>none):=rfl
theorem eS_whl {t:X} {a:List S} {z2:Pos}:exS T (n + 1) (.whl t a z2) fr s=(exW T n t a fr s):=rfl
theorem eS_forN {i : Nat} {z1 : Pos} {x : X} {a : List S} {z4 : Pos} : exS T (n + 1) (.forN i z1 x a z4) fr s = (match exX T n x fr s with
      | some (.ok v s) => match v with
        | .lst l=>exF T n (fun fr v=>some (fr.set i (some v))) a l fr s
        | _=>none
      | some (.ex i s)=>some (.ex i fr s)
      | none=>none):=rfl
theorem eS_ret {x:X} {z1:Pos}:exS T (n + 1) (.ret x z1) fr s=(match exX T n x fr s with
      | some (.ok v s)=>some (.rt v s)
      | some (.ex i s)=>some (.ex i fr s)
      | none=>none):=rfl
theorem eS_raise {x:X} {z1:Pos}:exS T (n + 1) (.raise x z1) fr s=(match exX T n x fr s with
      | some (.ok v s)=>raiS fr v s
      | some (.ex i s)=>some (.ex i fr s)
      | none=>none):=rfl
theorem eS_try1 {a:List S} {g:Nat} {z2:Pos} {i:Nat} {h:List S} {z5:Pos} {z6:Pos}:exS T (n + 1) (.try1 a g z2 i h z5 z6) fr s=(match exSs T n a fr s with
      | some (.ex e fr s)=>tryH g i h e fr s
      | o=>o):=rfl
theorem eS_forT {ts : List (Nat × Pos)} {k : Nat} {pt bp bq p : Pos} {x : X} {a : List S} : exS T (n + 1) (.forT ts k pt (.bcall 6 bp [x] bq) a p) fr s = (match bnd (exXs T n [x] fr s) (fun vs s => match vs with | [v] => some (.ok v s) | _ => none) with
      | some (.ok v s) => match v with
        | .lst l=>exF T n (stT ts) a (enumV 0 l) fr s
        | _=>none
      | some (.ex i s)=>some (.ex i fr s)
      | none=>none):=rfl
theorem enumA_of {x y:X} (h:enumA x=some y) : ∃ bp px,x = .bcall 6 bp [y] px:=by
  cases x with
  | bcall b bp as px =>
    replace h:(bif Nat.beq b 6 then (match as with | [x]=>some x | _=>none) else none)=some y:=h
    cases q:Nat.beq b 6 with
    | false=>rw [q] at h; exact n0 h
    | true =>
      obtain rfl:=Nat.eq_of_beq_eq_true q
      match as,h with
      | [x],h=>exact ⟨_,_,by rw [oi h]⟩
  | _=>exact n0 h
theorem eS_forE {ts : List (Nat × Pos)} {k : Nat} {pt p : Pos} {x : X} {a : List S} {o : RS} (h : exS T (n + 1) (.forT ts k pt x a p) fr s = some o) : ∃ y, enumA x = some y := by
  cases q:enumA x with
  | some y=>exact ⟨y,rfl⟩
  | none =>
    replace h:(match enumA x with
      | some x => match bnd (exXs T n [x] fr s) (fun vs s => match vs with | [v] => some (.ok v s) | _ => none) with
        | some (.ok v s) => match v with
          | .lst l=>exF T n (stT ts) a (enumV 0 l) fr s
          | _=>none
        | some (.ex i s)=>some (.ex i fr s)
        | none=>none
      | none=>none)=some o:=h
    rw [q] at h
    exact n0 h
theorem eB_one {b:Bool} {x:X}:exBool T (n + 1) b [x] fr s=exX T n x fr s:=rfl
theorem eB_cons {b:Bool} {x y:X} {r:List X}:exBool T (n + 1) b (x :: y :: r) fr s=bnd (exX T n x fr s) fun v s=>(match truthy s v with
    | some t=>if t=b then exBool T n b (y :: r) fr s else some (.ok v s)
    | none=>none):=rfl
theorem eSs_cons {t:S} {r:List S}:exSs T (n + 1) (t :: r) fr s=(match exS T n t fr s with
    | some (.nx fr s)=>exSs T n r fr s
    | o=>o):=rfl
theorem eW {t : X} {a : List S} : exW T (n + 1) t a fr s = (match exX T n t fr s with
    | some (.ok v s) => match truthy s v with
      | some true => match exSs T n a fr s with
        | some (.nx fr s)=>exW T n t a fr s
        | o=>o
      | some false=>some (.nx fr s)
      | none=>none
    | some (.ex i s)=>some (.ex i fr s)
    | none=>none):=rfl
theorem eF_cons {st:List (Option V)→V→Option (List (Option V))} {a:List S} {v:V} {r:List V}:exF T (n + 1) st a (v :: r) fr s=(match st fr v with
    | some fr => match exSs T n a fr s with
      | some (.nx fr s)=>exF T n st a r fr s
      | o=>o
    | none=>none):=rfl
end
section
variable {c:Cx} {nm:List Str} {sc:Scope} {m:Nat}
theorem eT_glob {g:Nat} {p:Pos}:trX c nm sc (m + 1) (.glob g p)=(if notDebug (c.gn g) && sc.names.lookup (c.gn g) == some .globalImplicit then some (.Name (c.gn g) p) else none):=rfl
theorem eC_base {T : Tabs} {n g : Nat} {as : List V} {s : List Cell} : callV T (n + 1) (.base g) as s = (match T.fn g with
      | some d =>
        if as.length≤d.np && d.np≤as.length + d.dflt.length then
          let bs:=as ++ d.dflt.drop (d.dflt.length - (d.np - as.length))
          match exSs T n d.body (bs.map some ++ List.replicate (d.nm.length - d.np) none) s with
          | some (.nx _ s)=>some (.ok .none s)
          | some (.rt v s)=>some (.ok v s)
          | some (.ex i _ s)=>some (.ex i s)
          | none=>none
        else none
      | none => match T.init g with
        | some k=>bnd (callV T n (.base k) (.ref s.length :: as) (s ++ [.inst g []])) fun v s'=>match v with | .none=>some (.ok (.ref s.length) s') | _=>none
        | none => if g = 0 ∧ 3 ≤ n then match as with
            | [w,a]=>some (.ok (.ref s.length) (s ++ [.new g [(10,w),(1,a)]]))
            | _=>none
          else none):=rfl
theorem eC_clo {T:Tabs} {n k:Nat} {cs as:List V} {s:List Cell}:callV T (n + 1) (.clo k cs) as s=(match T.lam k with
      | some x=>if as.length=T.lamn k then exX T n x ((as ++ cs).map some) s else none
      | none=>none):=rfl
end
end Mine
end
section
set_option tactic.hygienic false
namespace Mine
open PySem PySem.W PySem.Spec PySem.Calls PyProof.Rows PyProof.V

section
variable {c:Cx} {h h':Heap} {μ μ':Addr→Prop} {ρ ρ':List (Addr × Addr)}
theorem CellAt.step (g:Grow h μ h' μ') (r:ρ <+: ρ') {p:Addr × Addr} {q:Cell} (k : ∀ o,h.get? p.2=some o→h'.get? p.2=some o) (hm:μ p.2→μ' p.2) (x:CellAt c h μ ρ p q):CellAt c h' μ' ρ' p q:=by
  cases x with
  | inst z a e1 n1 e2 m f=>exact .inst z a (g _ _ e1 n1).1 (g _ _ e1 n1).2 (k _ e2) (hm m) (FRep.mono g r f)
  | list e m v=>exact .list (k _ e) (hm m) (VReps.mono g r v)
  | exc z a e o1 o2 o3 m e2 n2 f=>exact .exc z a (k _ e) o1 o2 o3 (hm m) (g _ _ e2 n2).1 (g _ _ e2 n2).2 (FRep.mono g r f)
  | new z a e o1 o2 o3 m e2 n2 f tb=>exact .new z a (k _ e) o1 o2 o3 (hm m) (g _ _ e2 n2).1 (g _ _ e2 n2).2 (FRep.mono g r f) tb
theorem CellsAt.ind {ρ₀:List (Addr × Addr)} {P:List (Addr × Addr)→List Cell→Prop} (nil:P [] []) (cons : ∀ {p q ρ σ},CellAt c h μ ρ₀ p q→CellsAt c h μ ρ₀ ρ σ→P ρ σ→P (p :: ρ) (q :: σ)) {ρ:List (Addr × Addr)} {σ:List Cell} (H:CellsAt c h μ ρ₀ ρ σ):P ρ σ :=
  CellsAt.rec (motive:=fun ρ σ _=>P ρ σ) nil (fun a b ih=>cons a b ih) H
theorem CellsAt.step {ρ₀ ρ₁:List (Addr × Addr)} (g:Grow h μ h' μ') (r:ρ₀ <+: ρ₁) : ∀ {ρ:List (Addr × Addr)} {σ:List Cell},(∀ p ∈ ρ, ∀ o,h.get? p.2=some o→h'.get? p.2=some o)→(∀ p ∈ ρ,μ p.2→μ' p.2)→CellsAt c h μ ρ₀ ρ σ→CellsAt c h' μ' ρ₁ ρ σ:=fun {ρ σ} k hm H =>
  CellsAt.ind (P:=fun ρ σ=>(∀ p ∈ ρ, ∀ o,h.get? p.2=some o→h'.get? p.2=some o)→(∀ p ∈ ρ,μ p.2→μ' p.2)→CellsAt c h' μ' ρ₁ ρ σ) (fun _ _ => .nil)
    (fun a _ ih k hm => .cons (a.step g r (k _ List.mem_cons_self) (hm _ List.mem_cons_self)) (ih (fun p hp=>k p (List.mem_cons_of_mem _ hp)) fun p hp=>hm p (List.mem_cons_of_mem _ hp))) H k hm
theorem TabRow.step (g:Grow h μ h' μ') {q:Addr × Addr} (k : ∀ o,h.get? q.2=some o→h'.get? q.2=some o) (x:TabRow c h μ q):TabRow c h' μ' q:=by
  obtain ⟨ps,e,x⟩:=x
  refine ⟨ps,k _ e,x.imp id ?_⟩
  rintro ⟨k',I,c',oc,ov,tq,a1,a0,a2,a3,a4,a5,a6⟩
  exact ⟨k',I,c',oc,ov,tq,a1,a0,a2,(g _ _ a3 a6).1,a4,a5,(g _ _ a3 a6).2⟩
theorem grow_keep (k : ∀ a o,h.get? a=some o→h'.get? a=some o):Grow h μ h' μ:=fun a o e n=>⟨k a o e,n⟩
theorem Inv.keep {fs:List FrI} {σ:List Cell} (I:Inv c fs μ ρ σ h) (k : ∀ a o,h.get? a=some o→h'.get? a=some o) (sz:h.objs.size≤h'.objs.size):Inv c fs μ ρ σ h' where
  base a o e:=⟨k _ _ (I.base a o e).1,(I.base a o e).2⟩
  low:=Nat.le_trans I.low sz
  mlt a m:=Nat.lt_of_lt_of_le (I.mlt a m) sz
  frames f hf:=let ⟨a,b,d,n,m,l⟩:=I.frames f hf; ⟨a,b,d,n.keeps k,m,l⟩
  cells:=I.cells.step (grow_keep k) (List.prefix_refl _) (fun p _ o e=>k _ o e) (fun _ _ m=>m)
  nodup:=I.nodup
  tabs q hq:=⟨(I.tabs q hq).1,(I.tabs q hq).2.step (grow_keep k) fun o e=>k _ o e⟩
theorem CellsAt.get {ρ₀:List (Addr × Addr)} : ∀ {ρ:List (Addr × Addr)} {σ:List Cell} {i:Nat} {q:Cell},CellsAt c h μ ρ₀ ρ σ→σ[i]? = some q → ∃ p,ρ[i]? = some p∧CellAt c h μ ρ₀ p q
  | _,_,_,_, .nil,e=>by simp at e
  | _,_,0,_, .cons a _,e=>by cases e; exact ⟨_,rfl,a⟩
  | _,_,_ + 1,_, .cons _ b,e=>b.get (by simpa using e)
theorem CellsAt.len {ρ₀:List (Addr × Addr)} : ∀ {ρ:List (Addr × Addr)} {σ:List Cell},CellsAt c h μ ρ₀ ρ σ→ρ.length=σ.length:=fun H=>H.ind (P:=fun ρ σ=>ρ.length=σ.length) rfl fun _ _ ih=>congrArg (· + 1) ih
theorem CellsAt.snoc {ρ₀:List (Addr × Addr)} : ∀ {ρ:List (Addr × Addr)} {σ:List Cell} {p:Addr × Addr} {q:Cell},CellsAt c h μ ρ₀ ρ σ→CellAt c h μ ρ₀ p q→CellsAt c h μ ρ₀ (ρ ++ [p]) (σ ++ [q]):=fun {ρ σ p q} H x=>H.ind (P:=fun ρ σ=>CellsAt c h μ ρ₀ (ρ ++ [p]) (σ ++ [q])) (.cons x .nil) fun a _ ih => .cons a ih
end

structure St (c:Cx) (fs:List FrI) (s:Shared) (μ:Addr→Prop) (ρ:List (Addr × Addr)) (σ':List Cell) (s':Shared) (μ':Addr→Prop) (ρ':List (Addr × Addr)):Prop where
  inv:Inv c fs μ' ρ' σ' s'.heap
  grow:Grow s.heap μ s'.heap μ'
  pre:ρ <+: ρ'
  gens:s'.gens=s.gens
  os:s'.os=s.os

theorem St.refl {c:Cx} {fs:List FrI} {s:Shared} {μ:Addr→Prop} {ρ:List (Addr × Addr)} {σ:List Cell} (I:Inv c fs μ ρ σ s.heap):St c fs s μ ρ σ s μ ρ :=
  ⟨I,Grow.refl _ _,List.prefix_refl _,rfl,rfl⟩
theorem St.trans {c:Cx} {fs fs':List FrI} {s s₁ s₂:Shared} {μ μ₁ μ₂:Addr→Prop} {ρ ρ₁ ρ₂:List (Addr × Addr)} {σ₁ σ₂:List Cell} (x:St c fs s μ ρ σ₁ s₁ μ₁ ρ₁) (y:St c fs' s₁ μ₁ ρ₁ σ₂ s₂ μ₂ ρ₂):St c fs' s μ ρ σ₂ s₂ μ₂ ρ₂ :=
  ⟨y.inv,x.grow.trans y.grow,x.pre.trans y.pre,y.gens.trans x.gens,y.os.trans x.os⟩
theorem St.keep {c:Cx} {fs:List FrI} {s:Shared} {μ:Addr→Prop} {ρ:List (Addr × Addr)} {σ:List Cell} (I:Inv c fs μ ρ σ s.heap) {h':Heap} {tk:Nat} (k : ∀ a o,s.heap.get? a=some o→h'.get? a=some o) (sz:s.heap.objs.size≤h'.objs.size) :
    St c fs s μ ρ σ { s with heap:=h',toks:=tk } μ ρ:=⟨I.keep k sz,grow_keep k,List.prefix_refl _,rfl,rfl⟩
theorem St.toks {c:Cx} {fs:List FrI} {s:Shared} {μ:Addr→Prop} {ρ:List (Addr × Addr)} {σ:List Cell} (I:Inv c fs μ ρ σ s.heap) {tk:Nat}:St c fs s μ ρ σ { s with toks:=tk } μ ρ :=
  ⟨I,Grow.refl _ _,List.prefix_refl _,rfl,rfl⟩
theorem St.then {c:Cx} {fs:List FrI} {s s':Shared} {μ μ':Addr→Prop} {ρ ρ':List (Addr × Addr)} {σ':List Cell} (x:St c fs s μ ρ σ' s' μ' ρ') {tk:Nat}:St c fs s μ ρ σ' { s' with toks:=tk } μ' ρ':=x.trans (.toks x.inv)
theorem St.up {c:Cx} {fs:List FrI} {s s':Shared} {μ μ':Addr→Prop} {ρ ρ':List (Addr × Addr)} {σ':List Cell} (x:St c fs s μ ρ σ' s' μ' ρ') {v:V} {y:Value} (r:VRep c s.heap μ ρ v y):VRep c s'.heap μ' ρ' v y:=r.mono x.grow x.pre

inductive FlyT (h:Heap) (μ:Addr→Prop) (e:Addr) (vs:Array Value):Prop
  | mk (T : Addr) (oT : Obj) (ts : Array Value) (h1 : vs[1]? = some (.ref T)) (h2 : T ≠ e) (h3 : h.get? T = some oT) (h4 : oT.cls = .type "traceback") (h5 : oT.data = .fields ts) (h6 : 3 < ts.size) (h7 : μ T)
inductive Fly (σ:List Cell) (i:Nat) (h:Heap) (μ:Addr→Prop) (e:Addr):Prop
  | mk (h1 : ∀ C fs,σ[i]? ≠ some (.new C fs)) (oe:Obj) (vs:Array Value) (h2:h.get? e=some oe) (h3:oe.data = .fields vs) (h4:vs[1]? = some .none ∨ FlyT h μ e vs)

inductive PX (c:Cx) (fs:List FrI) (s:Shared) (μ:Addr→Prop) (ρ:List (Addr × Addr)) (r:R V) (x:Value) (s':Shared):Prop
  | mk (v:V) (σ':List Cell) (μ':Addr→Prop) (ρ':List (Addr × Addr)) (e:r = .ok v σ') (st:St c fs s μ ρ σ' s' μ' ρ') (rep:VRep c s'.heap μ' ρ' v x)
inductive EX {α:Type} (c:Cx) (fs:List FrI) (s:Shared) (μ:Addr→Prop) (ρ:List (Addr × Addr)) (r:R α) (e:Value) (s':Shared):Prop
  | mk (i:Nat) (σ':List Cell) (μ':Addr→Prop) (ρ':List (Addr × Addr)) (a:Addr) (h1:r = .ex i σ') (h2:e = .ref a) (st:St c fs s μ ρ σ' s' μ' ρ') (h4:ρ'[i]? = some (a,a)) (fly:Fly σ' i s'.heap μ' a)

theorem EX.up {α β:Type} {c:Cx} {fs:List FrI} {s s₁:Shared} {μ μ₁:Addr→Prop} {ρ ρ₁:List (Addr × Addr)} {σ₁:List Cell} (x:St c fs s μ ρ σ₁ s₁ μ₁ ρ₁) {r:R α} {r':R β} (hr : ∀ i σ,r = .ex i σ→r' = .ex i σ) {e:Value} {s':Shared} (y:EX c fs s₁ μ₁ ρ₁ r e s'):EX c fs s μ ρ r' e s':=by
  obtain ⟨i,σ',μ',ρ',a,h1,h2,h3,h4,h5⟩:=y
  exact ⟨i,σ',μ',ρ',a,hr _ _ h1,h2,x.trans h3,h4,h5⟩

structure FrI.ok (A:Around) (fs:List FrI):Prop where
  f:A.frames=some (fs.map (·.env))
  h:A.handled=none
  g : ∀ f ∈ fs,f.env.globals=mainGlobals∧f.env.builtins=builtinsNs
noncomputable def FrRep (c:Cx) (h:Heap) (μ:Addr→Prop) (ρ:List (Addr × Addr)) (f:FrI) (nm:List Str) (fr:List (Option V)):Prop :=
  ∀ (i : Nat) (y : Str) (v : V), nm[i]? = some y → fr[i]? = some (some v) →
    (f.env.kindOf y=some .local ∧ ∃ x,f.m y=some x∧VRep c h μ ρ v x) ∨
    ((f.env.kindOf y=some .cell ∨ f.env.kindOf y=some .free) ∧ ∃ ca o x,f.env.cells.lookup y=some ca∧h.get? ca=some o∧o.data = .cell (some x) ∧ ¬ μ ca∧VRep c h μ ρ v x)
theorem FrRep.mono {c:Cx} {h h':Heap} {μ μ':Addr→Prop} {ρ ρ':List (Addr × Addr)} {f:FrI} {nm:List Str} {fr:List (Option V)} (g:Grow h μ h' μ') (r:ρ <+: ρ') (x:FrRep c h μ ρ f nm fr):FrRep c h' μ' ρ' f nm fr:=fun i y v e1 e2=>by
  rcases x i y v e1 e2 with ⟨a,z,b,d⟩ | ⟨a,ca,o,z,b,d,e,n,k⟩
  · exact .inl ⟨a,z,b,d.mono g r⟩
  · exact .inr ⟨a,ca,o,z,b,(g _ _ d n).1,e,(g _ _ d n).2,k.mono g r⟩
theorem St.fr {c:Cx} {fs:List FrI} {s s':Shared} {μ μ':Addr→Prop} {ρ ρ':List (Addr × Addr)} {σ':List Cell} (x:St c fs s μ ρ σ' s' μ' ρ') {f:FrI} {nm:List Str} {fr:List (Option V)} (r:FrRep c s.heap μ ρ f nm fr):FrRep c s'.heap μ' ρ' f nm fr:=r.mono x.grow x.pre
section
variable {c:Cx} {h:Heap} {μ:Addr→Prop} {ρ:List (Addr × Addr)}
inductive RefI (ρ:List (Addr × Addr)) (i:Nat) (x:Value):Prop
  | mk (xa d:Addr) (hx:x = .ref xa) (hi:ρ[i]? = some (xa,d))
theorem VRep.ref_ {i:Nat} {x:Value} (r:VRep c h μ ρ (.ref i) x):RefI ρ i x:=by cases r with | ref hi=>exact ⟨_,_,rfl,hi⟩
theorem VRep.bool_ {b:Bool} {x:Value} (r:VRep c h μ ρ (.bool b) x):x = .bool b:=by cases r; rfl
theorem VRep.none_ {x:Value} (r:VRep c h μ ρ .none x):x = .none:=by cases r; rfl
theorem VRep.isN {v:V} {x:Value} (r:VRep c h μ ρ v x):(x = .none∧isNone v=true) ∨ ((∀ e:x = .none,False)∧isNone v=false∧plainIs x .none=true):=by
  cases r with
  | none=>exact .inl ⟨rfl,rfl⟩
  | _=>exact .inr ⟨(fun e=>nomatch e),rfl,rfl⟩
inductive IntI (i:Int) (x:Value):Prop
  | mk (t:Tok) (hx:x = .int i t)
theorem VRep.int_ {i:Int} {x:Value} (r:VRep c h μ ρ (.int i) x):IntI i x:=by cases r with | int _ t=>exact ⟨t,rfl⟩
inductive StrI (l:CS) (x:Value):Prop
  | mk (t:Tok) (hx:x = .str (sS l) t)
theorem VRep.str_ {l:CS} {x:Value} (r:VRep c h μ ρ (.str l) x):StrI l x:=by cases r with | str _ t=>exact ⟨t,rfl⟩
inductive TupI (c:Cx) (h:Heap) (μ:Addr→Prop) (ρ:List (Addr × Addr)) (l:List V) (x:Value):Prop
  | mk (xs:Array Value) (a:Addr) (n:Nat) (hx:x = .ref a) (e:h.get? a=some (tupObj xs n)) (nn : ¬ μ a) (vs:VReps c h μ ρ l xs.toList)
theorem VRep.tup_ {l:List V} {x:Value} (r:VRep c h μ ρ (.tup l) x):TupI c h μ ρ l x:=by cases r with | tup e nn vs=>exact ⟨_,_,_,rfl,e,nn,vs⟩
inductive LstI (c:Cx) (h:Heap) (μ:Addr→Prop) (ρ:List (Addr × Addr)) (l:List V) (x:Value):Prop
  | mk (xs:Array Value) (a:Addr) (n:Nat) (hx:x = .ref a) (e:h.get? a=some (listOf xs n)) (nn : ¬ μ a) (vs:VReps c h μ ρ l xs.toList)
theorem VRep.lst_ {l:List V} {x:Value} (r:VRep c h μ ρ (.lst l) x):LstI c h μ ρ l x:=by cases r with | lst e nn vs=>exact ⟨_,_,_,rfl,e,nn,vs⟩
inductive ConsI (c:Cx) (h:Heap) (μ:Addr→Prop) (ρ:List (Addr × Addr)) (v:V) (vs:List V) (l:List Value):Prop
  | mk (x:Value) (xs:List Value) (hl:l=x :: xs) (a:VRep c h μ ρ v x) (b:VReps c h μ ρ vs xs)
theorem VReps.cons_ {v:V} {vs:List V} {l:List Value} (r:VReps c h μ ρ (v :: vs) l):ConsI c h μ ρ v vs l:=by cases r with | cons a b=>exact ⟨_,_,rfl,a,b⟩
theorem VReps.nil_ {l:List Value} (r:VReps c h μ ρ [] l):l=[]:=by cases r; rfl
inductive InstI (c:Cx) (h:Heap) (μ:Addr→Prop) (ρ:List (Addr × Addr)) (x d:Addr) (C:Nat) (fs:List (Nat × V)):Prop
  | mk (C':Addr) (es:List DictEntry) (n:Nat) (z:C < 4) (ha:c.fnA C=some C') (e1:h.get? x=some (instObj C' d)) (n1 : ¬ μ x) (e2:h.get? d=some (dictOf es n)) (mm:μ d) (frep:FRep c h μ ρ fs es)
theorem CellAt.inst_ {x d:Addr} {C:Nat} {fs:List (Nat × V)} (r:CellAt c h μ ρ (x,d) (.inst C fs)):InstI c h μ ρ x d C fs:=by cases r with | inst z ha e1 n1 e2 mm frep=>exact ⟨_,_,_,z,ha,e1,n1,e2,mm,frep⟩
inductive ListI (c:Cx) (h:Heap) (μ:Addr→Prop) (ρ:List (Addr × Addr)) (x d:Addr) (l:List V):Prop
  | mk (xs:Array Value) (n:Nat) (hd:x=d) (e:h.get? x=some (listOf xs n)) (m:μ x) (v:VReps c h μ ρ l xs.toList)
theorem CellAt.list_ {x d:Addr} {l:List V} (r:CellAt c h μ ρ (x,d) (.list l)):ListI c h μ ρ x d l:=by cases r with | list e m v=>exact ⟨_,_,rfl,e,m,v⟩
end
end Mine
end
section
set_option tactic.hygienic false
namespace Mine
open PySem PySem.W PySem.Spec PySem.Calls PyProof.Rows PyProof.V

theorem bnd_some {α β:Type} {m:O α} {f:α→List Cell→O β} {r:R β} (h:bnd m f=some r) :
    (∃ a σ,m=some (.ok a σ)∧f a σ=some r) ∨ (∃ i σ,m=some (.ex i σ)∧r = .ex i σ):=by
  unfold bnd at h
  split at h
  · first | obtain rfl:=oi h | exact n0 h | exact n1 h | cases h
  · exact .inl ⟨_,_,rfl,h⟩
  · exact .inr ⟨_,_,rfl,(Option.some.inj h).symm⟩
theorem lif_some {α:Type} {m:Option α} {s:List Cell} {r:R α} (h:lif m s=some r) : ∃ a,m=some a∧r = .ok a s:=by
  unfold lif at h
  cases m with
  | none=>cases h
  | some a=>exact ⟨a,rfl,(Option.some.inj h).symm⟩

structure Prog (c:Cx):Prop extends Base c where
  inj : ∀ f g,f < 40→g < 40→c.an f=c.an g→f=g
  gl : ∀ g v,c.T.gl g=some v → ∃ x,c.mg (c.gn g)=some x∧VRep c c.B (fun _=>False) [] v x
  attr : ∀ g C',g < 4→g ≠ 0→c.fnA g=some C' → ∀ f,f≤10→plainGet c.K C' (c.an f)=true∧hasDictIn c.K C'=true ∧ ∃ attr,findIn c.K (.ref C') (c.an f)=some attr∧noGet c.K attr=true
  attr0 : ∀ C', c.fnA 0 = some C' → ∀ f, f ≤ 10 → findIn c.K (.ref C') "__getattribute__" = some (some (.builtin "BaseException.__getattribute__")) ∧ findIn c.K (.ref C') "__getattr__" = some none ∧ (clsIn c.K C').any (fun cd => cd.mro.contains (.type "BaseException")) = true ∧ hasDictIn c.K C' = true ∧ ∃ attr, findIn c.K (.ref C') (c.an f) = some attr ∧ noGet c.K attr = true
  lam : ∀ k I,c.lamI k=some I→(∀ env,defaultsOf I.params env=([],[]))∧I.tab ∈ c.tabs∧CodeHd c.B I.tab.1 I.tab.2∧(I.scope.names.map (·.1)).Nodup
  lamu : ∀ k I k' I',c.lamI k=some I→c.lamI k'=some I'→I.tab=I'.tab→k=k'
  bi : ∀ b y,biV b=some y→c.mg y.1=none∧c.mb y.1=some y.2

structure Go (c:Cx) (n:Nat) (A:Around) (f:FrI) (fs:List FrI) (s:Shared) (μ:Addr→Prop) (ρ:List (Addr × Addr)) (σ:List Cell) (nm:List Str) (sc:Scope) (fr:List (Option V)):Prop where
  bs:Prog c
  inv:Inv c (f :: fs) μ ρ σ s.heap
  ok:FrI.ok A (f :: fs)
  d:A.depth + n < recursionLimit
  u:A.units + 8 * n + 64 < cLine
  hsc:f.env.scope=sc
  hcd : ∀ k I, c.lamI k = some I → I.owner = sc → f.env.code = .ref I.tab.1 ∧ f.env.qual ++ "<lambda>" = I.qual
  fr:FrRep c s.heap μ ρ f nm fr
section
variable {c:Cx} {n n':Nat} {A:Around} {f:FrI} {fs:List FrI} {s s':Shared} {μ μ':Addr→Prop} {ρ ρ':List (Addr × Addr)} {σ σ':List Cell} {nm:List Str} {sc:Scope} {fr:List (Option V)}
theorem Go.less (G:Go c n A f fs s μ ρ σ nm sc fr) (h:n'≤n):Go c n' A f fs s μ ρ σ nm sc fr :=
  ⟨G.bs,G.inv,G.ok,by have:=G.d; omega,by have:=G.u; omega,G.hsc,G.hcd,G.fr⟩
theorem Go.next (G:Go c n A f fs s μ ρ σ nm sc fr) (x:St c (f :: fs) s μ ρ σ' s' μ' ρ'):Go c n A f fs s' μ' ρ' σ' nm sc fr :=
  ⟨G.bs,x.inv,G.ok,G.d,G.u,G.hsc,G.hcd,x.fr G.fr⟩
theorem Go.Fr (G:Go c n A f fs s μ ρ σ nm sc fr):Fr c.B f.L s.heap f.m :=
  let ⟨_,_,_,n,_,l⟩:=G.inv.frames f List.mem_cons_self; ⟨n,fun a o e=>(G.inv.base a o e).1,l⟩
theorem Go.K (G:Go c n A f fs s μ ρ σ nm sc fr):c.K.In s.heap:=fun a o e=>(G.inv.base a o (G.bs.XK a o e)).1
end

noncomputable def SX (c:Cx) (n:Nat):Prop := ∀ {m nm sc x e},trX c nm sc m x=some e → ∀ {fr σ r},exX c.T n x fr σ=some r → ∀ {A f fs s μ ρ},Go c n A f fs s μ ρ σ nm sc fr →
  wpAny (model c.prog c.w) A (eval e f.env) (PX c (f :: fs) s μ ρ r) (EX c (f :: fs) s μ ρ r) s
inductive PXs (c:Cx) (fs:List FrI) (s:Shared) (μ:Addr→Prop) (ρ:List (Addr × Addr)) (r:R (List V)) (x:List Value) (s':Shared):Prop
  | mk (v:List V) (σ':List Cell) (μ':Addr→Prop) (ρ':List (Addr × Addr)) (e:r = .ok v σ') (st:St c fs s μ ρ σ' s' μ' ρ') (rep:VReps c s'.heap μ' ρ' v x)
noncomputable def SXs (c:Cx) (n:Nat):Prop := ∀ {m nm sc x e},trXs c nm sc m x=some e → ∀ {fr σ r},exXs c.T n x fr σ=some r → ∀ {A f fs s μ ρ},Go c n A f fs s μ ρ σ nm sc fr →
  ∀ pos,wpAny (model c.prog c.w) A (spliced (backTo pos (starEach e f.env))) (PXs c (f :: fs) s μ ρ r) (EX c (f :: fs) s μ ρ r) s
noncomputable def SCall (c:Cx) (n:Nat):Prop := ∀ {v vs σ r},callV c.T n v vs σ=some r → ∀ {A f fs s μ ρ},Prog c→Inv c (f :: fs) μ ρ σ s.heap→FrI.ok A (f :: fs)→A.depth + n < recursionLimit→A.units + 8 * n + 64 < cLine →
  ∀ {x xs},VRep c s.heap μ ρ v x→VReps c s.heap μ ρ vs xs→wpAny (model c.prog c.w) A (call x xs) (PX c (f :: fs) s μ ρ r) (EX c (f :: fs) s μ ρ r) s

section
variable {c:Cx} {n m:Nat} {A:Around} {f:FrI} {fs:List FrI} {s:Shared} {μ:Addr→Prop} {ρ:List (Addr × Addr)} {σ:List Cell} {nm:List Str} {sc:Scope} {fr:List (Option V)} {x:X} {e:Expr}
theorem SX.run {β:Type} (H:SX c n) (G:Go c n A f fs s μ ρ σ nm sc fr) (ht:trX c nm sc m x=some e) {k:V→List Cell→O β} {r:R β} (hr:bnd (exX c.T n x fr σ) k=some r) {Q E:Value→Shared→Prop}
    (hk : ∀ v σ₁ y s₁ μ₁ ρ₁,k v σ₁=some r→Go c n A f fs s₁ μ₁ ρ₁ σ₁ nm sc fr→St c (f :: fs) s μ ρ σ₁ s₁ μ₁ ρ₁→VRep c s₁.heap μ₁ ρ₁ v y→Q y s₁)
    (hE : ∀ e s',EX c (f :: fs) s μ ρ r e s'→E e s'):wpAny (model c.prog c.w) A (eval e f.env) Q E s:=by
  rcases bnd_some hr with ⟨v,σ₁,h1,h2⟩ | ⟨i,σ₁,h1,h2⟩
  · refine wpAny_mono (H ht h1 G) (fun y s₁ h => ?_) (fun e s' h => ?_)
    · obtain ⟨v', σ', μ', ρ', e1, st, rep⟩ := h
      first | obtain rfl:=oi e1 | exact n0 e1 | exact n1 e1 | cases e1
      exact hk _ _ _ _ _ _ h2 (G.next st) st rep
    · obtain ⟨i, _, _, _, _, e1, _⟩ := h
      first | obtain rfl:=oi e1 | exact n0 e1 | exact n1 e1 | cases e1
  · refine wpAny_mono (H ht h1 G) (fun y s₁ h => ?_) (fun e s' h => ?_)
    · obtain ⟨_, _, _, _, e1, _⟩ := h
      first | obtain rfl:=oi e1 | exact n0 e1 | exact n1 e1 | cases e1
    · exact hE _ _ (h.up (.refl G.inv) fun i' σ' e'=>by cases e'; exact h2)
theorem SXs.run {β:Type} (H:SXs c n) (G:Go c n A f fs s μ ρ σ nm sc fr) {xs:List X} {es:List Expr} (ht:trXs c nm sc m xs=some es) {k:List V→List Cell→O β} {r:R β} (hr:bnd (exXs c.T n xs fr σ) k=some r) {pos:Pos} {Q:List Value→Shared→Prop} {E:Value→Shared→Prop}
    (hk : ∀ v σ₁ y s₁ μ₁ ρ₁,k v σ₁=some r→Go c n A f fs s₁ μ₁ ρ₁ σ₁ nm sc fr→St c (f :: fs) s μ ρ σ₁ s₁ μ₁ ρ₁→VReps c s₁.heap μ₁ ρ₁ v y→Q y s₁)
    (hE : ∀ e s',EX c (f :: fs) s μ ρ r e s'→E e s'):wpAny (model c.prog c.w) A (spliced (backTo pos (starEach es f.env))) Q E s:=by
  rcases bnd_some hr with ⟨v,σ₁,h1,h2⟩ | ⟨i,σ₁,h1,h2⟩
  · refine wpAny_mono (H ht h1 G pos) (fun y s₁ h => ?_) (fun e s' h => ?_)
    · obtain ⟨v', σ', μ', ρ', e1, st, rep⟩ := h
      first | obtain rfl:=oi e1 | exact n0 e1 | exact n1 e1 | cases e1
      exact hk _ _ _ _ _ _ h2 (G.next st) st rep
    · obtain ⟨i, _, _, _, _, e1, _⟩ := h
      first | obtain rfl:=oi e1 | exact n0 e1 | exact n1 e1 | cases e1
  · refine wpAny_mono (H ht h1 G pos) (fun y s₁ h => ?_) (fun e s' h => ?_)
    · obtain ⟨_, _, _, _, e1, _⟩ := h
      first | obtain rfl:=oi e1 | exact n0 e1 | exact n1 e1 | cases e1
    · exact hE _ _ (h.up (.refl G.inv) fun i' σ' e'=>by cases e'; exact h2)
end

section
variable {c:Cx} {n m:Nat} {A:Around} {f:FrI} {fs:List FrI} {s:Shared} {μ:Addr→Prop} {ρ:List (Addr × Addr)} {σ:List Cell} {nm:List Str} {sc:Scope} {fr:List (Option V)} {e:Expr} {r:R V}

theorem s_none {p:Pos} (G:Go c (n + 1) A f fs s μ ρ σ nm sc fr) (ht:trX c nm sc m (.none p)=some e) (hr:exX c.T (n + 1) (.none p) fr σ=some r):wpAny (model c.prog c.w) A (eval e f.env) (PX c (f :: fs) s μ ρ r) (EX c (f :: fs) s μ ρ r) s:=by
  cases m <;> first | exact Mine.n0 ht | obtain rfl:=oi ht
  first | obtain rfl:=oi hr | exact n0 hr | exact n1 hr | cases hr
  exact fun _ _ _=>⟨_,_,_,_,rfl, .refl G.inv, .none⟩
theorem s_bool {b:Bool} {p:Pos} (G:Go c (n + 1) A f fs s μ ρ σ nm sc fr) (ht:trX c nm sc m (.bool b p)=some e) (hr:exX c.T (n + 1) (.bool b p) fr σ=some r):wpAny (model c.prog c.w) A (eval e f.env) (PX c (f :: fs) s μ ρ r) (EX c (f :: fs) s μ ρ r) s:=by
  cases m <;> first | exact Mine.n0 ht | obtain rfl:=oi ht
  first | obtain rfl:=oi hr | exact n0 hr | exact n1 hr | cases hr
  exact fun _ _ _=>⟨_,_,_,_,rfl, .refl G.inv, .bool b⟩
theorem s_int {i:Int} {p:Pos} (G:Go c (n + 1) A f fs s μ ρ σ nm sc fr) (ht:trX c nm sc m (.int i p)=some e) (hr:exX c.T (n + 1) (.int i p) fr σ=some r):wpAny (model c.prog c.w) A (eval e f.env) (PX c (f :: fs) s μ ρ r) (EX c (f :: fs) s μ ρ r) s:=by
  cases m <;> first | exact Mine.n0 ht | obtain rfl:=oi ht
  first | obtain rfl:=oi hr | exact n0 hr | exact n1 hr | cases hr
  exact fun _ _ _=>⟨_,_,_,_,rfl, .toks G.inv, .int i _⟩
theorem s_str {l:CS} {p:Pos} (G:Go c (n + 1) A f fs s μ ρ σ nm sc fr) (ht:trX c nm sc m (.str l p)=some e) (hr:exX c.T (n + 1) (.str l p) fr σ=some r):wpAny (model c.prog c.w) A (eval e f.env) (PX c (f :: fs) s μ ρ r) (EX c (f :: fs) s μ ρ r) s:=by
  cases m <;> first | exact Mine.n0 ht | obtain rfl:=oi ht
  first | obtain rfl:=oi hr | exact n0 hr | exact n1 hr | cases hr
  exact fun _ _ _=>⟨_,_,_,_,rfl, .toks G.inv, .str l _⟩
theorem not_debug {y : Str} (h : notDebug y = true) : (y == ("__debug__" : Str)) = false ∧ (y == ("__classdict__" : Str)) = false := by
  simpa [notDebug] using h
set_option tactic.hygienic true in theorem s_loc {i:Nat} {p:Pos} (G:Go c (n + 1) A f fs s μ ρ σ nm sc fr) (ht:trX c nm sc m (.loc i p)=some e) (hr:exX c.T (n + 1) (.loc i p) fr σ=some r):wpAny (model c.prog c.w) A (eval e f.env) (PX c (f :: fs) s μ ρ r) (EX c (f :: fs) s μ ρ r) s:=by
  cases m with
  | zero=>exact Mine.n0 ht
  | succ m =>
    obtain ⟨y,hy,rfl⟩:=mI ht; clear ht
    unfold trLoc at hy
    split at hy
    · rename_i y' hn
      split at hy
      · rename_i hc
        first | obtain rfl:=oi hy | exact n0 hy | exact n1 hy | cases hy
        obtain ⟨v,hv,rfl⟩:=lif_some hr
        have hv:fr[i]? = some (some v):=by simpa [Option.join_eq_some_iff] using hv
        obtain ⟨hd,hcd⟩:=not_debug (by simp only [Bool.and_eq_true] at hc; exact hc.1)
        obtain ⟨_,hl,hk,hns,_⟩:=G.inv.frames f List.mem_cons_self
        refine wpAny_Name ?_ hd
        rcases G.fr i _ v hn hv with ⟨k,x,hx,rep⟩ | ⟨k,ca,o,x,hca,ho,hd',hnm,rep⟩
        · exact wpAny_loadName_local hk k (hl ▸ hns) hx ⟨_,_,_,_,rfl, .refl G.inv,rep⟩
        · rcases k with k | k
          · exact wpAny_loadName_cell hk k hca ⟨o,ho,hd'⟩ ⟨_,_,_,_,rfl, .refl G.inv,rep⟩
          · exact wpAny_loadName_free hk k hca ⟨o,ho,hd'⟩ ⟨_,_,_,_,rfl, .refl G.inv,rep⟩ hcd
      · first | obtain rfl:=oi hy | exact n0 hy | exact n1 hy | cases hy
    · first | obtain rfl:=oi hy | exact n0 hy | exact n1 hy | cases hy
end
end Mine
end
section
set_option tactic.hygienic false
namespace Mine
open PySem PySem.W PySem.Spec PySem.Calls PyProof.Rows PyProof.V

theorem bexc_bind (self : Value) : bindSpecial (.builtin "BaseException.__getattribute__") self = pure (.builtin "BaseException.__getattribute__", [self]) := by
  kernel_rfl
section
variable {prog:Program} {w:World} {A:Around} {E:Value→Shared→Prop} {s:Shared} {K:Frag} {x C:Addr} {ox:Obj} {od:Option Obj} {name:Str} {expr:Bool} {Q:Value→Shared→Prop}
theorem get_exc {v : Value} (X : K.In s.heap) (I : InstAt s.heap x ox C od) (hga : findIn K (.ref C) "__getattribute__" = some (some (.builtin "BaseException.__getattribute__"))) (hgt : findIn K (.ref C) "__getattr__" = some none)
    (hb : (clsIn K C).any (fun cd => cd.mro.contains (.type "BaseException")) = true) (hf : findObj K C od name = some (.value v)) (hh : handedIn v = true) (h : Q v { s with toks := s.toks + 1 }) : wpAny (model prog w) A (getAttr (.ref x) name expr) Q E s := by
  have hk : builtinKind "BaseException.__getattribute__" = some .slot := by decide +kernel
  have hsplit : splitId "BaseException.__getattribute__" = some ("BaseException", "__getattribute__") := by decide +kernel
  have hx2 : (Value.builtin "BaseException.__getattribute__" == Value.builtin "object.__getattribute__") = false := by decide +kernel
  have hpl : plainId "BaseException.__getattribute__" = true := by decide +kernel
  obtain ⟨cd,hc,hm⟩:=any_some hb
  have ne:cd.mro.isEmpty=false:=by cases q:cd.mro with | nil=>rw [q] at hm; cases hm | cons _ _=>rfl
  obtain ⟨hp,g,d,t,os⟩:=s
  have L0:=I.type (M:=model prog w)
  have L1:=looks_findIn (M:=model prog w) X hga
  have L2:=looks_findIn (M:=model prog w) X hgt
  have L3:=looks_find (M:=model prog w) X I hf
  have sub : Looks (model prog w) hp (isInstance (.ref x) (.type "BaseException")) true := I.type.andThen (looks_mroIn X (by unfold mroIn; rw [hc, Option.bind_some, if_neg (by rw [ne]; decide), hm]))
  unfold getAttr getAttrBy
  refine wpAny_bind (wpAny_mkText (wpAny_holding (wpAny_bind (L0.at (wpAny_bind (L1.at ?_))))))
  dsimp only
  rw [hx2,Bool.and_false,if_neg (by decide)]
  unfold getAttrByItsOwn
  refine wpAny_bind (m := hookBefore (.ref C)) (show wpAny _ _ (typeLookup (.ref C) "__getattr__") _ _ _ from L2.at ?_)
  have hex : ∀ e : Bool, callGetattribute (.ref x) (.str name t) (.builtin "BaseException.__getattribute__") e = boundAndCalled (.builtin "BaseException.__getattribute__") (.ref x) (.str name t) := fun e => by cases e <;> rfl
  rw [hex]
  refine wpAny_bind (wpAny_attempt ?_)
  refine wpAny_holding ?_
  unfold boundAndCalled
  rw [bexc_bind]
  refine wpAny_bind (wpAny_pure ?_)
  refine wpAny_call ?_
  show codeAny _ _ (.call (.builtin "BaseException.__getattribute__") ⟨[.ref x, .str name t], []⟩) _ _
  refine codeAny_call_builtin hpl F.entry_bexc_ga ?_
  have ha:=F.args_bexc_ga (.ref x) (.str name t)
  refine @check_slot (model prog w) _ _ _ "BaseException.__getattribute__" "BaseException" "__getattribute__" (.ref x) [.str name t] [] _ hk hsplit sub ha ?_
  have e1 : slotArgs "__getattribute__" 1 ⟨[.ref x, .str name t], []⟩ = pure (.ref x, [.str name t]) := rfl
  unfold Builtin.«object.__getattribute__»
  rw [e1]
  refine wpAny_bind (wpAny_pure ?_)
  refine wpAny_bind (wpAny_pure (a:=name) ?_)
  refine wpAny_bind (L0.at (wpAny_bind (L3.at ?_)))
  refine wpAny_pure ?_
  show wpAny _ _ (handedOut v) _ _ _
  rw [handedOut_of hh]; exact wpAny_pure h
end
end Mine
end
section
set_option tactic.hygienic false
namespace Mine
open PySem PySem.W PySem.Spec PySem.Calls PyProof.Rows PyProof.V

theorem VRep.handed {c:Cx} {h:Heap} {μ:Addr→Prop} {ρ:List (Addr × Addr)} {v:V} {x:Value} (r:VRep c h μ ρ v x):handedIn x=true:=by cases r <;> rfl
theorem FRep.get {c : Cx} (P : Prog c) {h : Heap} {μ : Addr → Prop} {ρ : List (Addr × Addr)} {f : Nat} (hf : f < 40) : ∀ {fs : List (Nat × V)} {es : List DictEntry} {v : V}, FRep c h μ ρ fs es → fget f fs = some v →
    ∃ x,getL (c.an f) es=some (some x)∧VRep c h μ ρ v x
  | _,_,_, .nil,e=>by simp [fget] at e
  | _, _, v, .cons (f := g) (e := en) (es := es') hg hk rv rest, e => by
    unfold fget at e
    by_cases q:f=g
    · rw [if_pos q] at e
      first | obtain rfl:=oi e | exact n0 e | exact n1 e | cases e
      subst q
      exact ⟨_,by simp [getL,List.find?_cons,hk,Value.isStr],rv⟩
    · rw [if_neg q] at e
      obtain ⟨x,hx,r⟩:=FRep.get P hf rest e
      refine ⟨x, ?_,r⟩
      have hne:en.key.isStr (c.an f)=false:=by
        rw [hk]
        show (c.an g == c.an f)=false
        exact beq_eq_false_iff_ne.mpr fun z=>q (P.inj _ _ hf hg z.symm)
      unfold getL at hx ⊢
      rw [List.find?_cons,hne]
      have hr:(en :: es').any (·.refKey)=es'.any (·.refKey):=by
        rw [List.any_cons]
        have:en.refKey=false:=by unfold DictEntry.refKey; rw [hk]
        rw [this,Bool.false_or]
      simpa only [hr] using hx
theorem FRep.getNone {c : Cx} (P : Prog c) {h : Heap} {μ : Addr → Prop} {ρ : List (Addr × Addr)} {f : Nat} (hf : f < 40) : ∀ {fs : List (Nat × V)} {es : List DictEntry}, FRep c h μ ρ fs es → fget f fs = none → getL (c.an f) es = some none := fun H => H.ind (P := fun fs es => fget f fs = none → getL (c.an f) es = some none) (fun _ => rfl) fun {g _ _ en es' _} hg hk rv rest ih e => by
    unfold fget at e
    by_cases q:f=g
    · rw [if_pos q] at e
      first | obtain rfl:=oi e | exact n0 e | exact n1 e | cases e
    · rw [if_neg q] at e
      have hx:=ih e
      have hne:en.key.isStr (c.an f)=false:=by
        rw [hk]
        show (c.an g == c.an f)=false
        exact beq_eq_false_iff_ne.mpr fun z=>q (P.inj _ _ hf hg z.symm)
      unfold getL at hx ⊢
      rw [List.find?_cons,hne]
      have hr:(en :: es').any (·.refKey)=es'.any (·.refKey):=by
        rw [List.any_cons]
        have:en.refKey=false:=by unfold DictEntry.refKey; rw [hk]
        rw [this,Bool.false_or]
      simpa only [hr] using hx

section
variable {c:Cx} {n m:Nat} {A:Around} {f:FrI} {fs:List FrI} {s:Shared} {μ:Addr→Prop} {ρ:List (Addr × Addr)} {σ:List Cell} {nm:List Str} {sc:Scope} {fr:List (Option V)} {e:Expr} {r:R V}
theorem Go.up0 (G:Go c n A f fs s μ ρ σ nm sc fr) {v:V} {x:Value} (h:VRep c c.B (fun _=>False) [] v x):VRep c s.heap μ ρ v x :=
  h.mono (fun a o e _=>G.inv.base a o e) (List.nil_prefix)
theorem Go.glob (G:Go c n A f fs s μ ρ σ nm sc fr) {y:Str} (hd:notDebug y=true) (hk:sc.names.lookup y=some .globalImplicit) {x:Value} (hx:c.mg y=some x) {p:Pos} {Q E:Value→Shared→Prop} (h:Q x s):wpAny (model c.prog c.w) A (eval (.Name y p) f.env) Q E s:=by
  obtain ⟨_,_,hkf,_⟩:=G.inv.frames f List.mem_cons_self
  obtain ⟨hg,hb⟩:=G.ok.g f List.mem_cons_self
  refine Calls.Name_function_global hkf (by show f.env.scope.names.lookup y=_; rw [G.hsc]; exact hk) (Calls.loadGlobal_global (by rw [hg]; exact G.bs.T.g.keeps G.Fr.keep) hx h) (not_debug hd).1
theorem Go.builtin (G:Go c n A f fs s μ ρ σ nm sc fr) {y:Str} (hd:notDebug y=true) (hk:sc.names.lookup y=some .globalImplicit) {x:Value} (hx:c.mg y=none) (hy:c.mb y=some x) {p:Pos} {Q E:Value→Shared→Prop} (h:Q x s):wpAny (model c.prog c.w) A (eval (.Name y p) f.env) Q E s:=by
  obtain ⟨_,_,hkf,_⟩:=G.inv.frames f List.mem_cons_self
  obtain ⟨hg,hb⟩:=G.ok.g f List.mem_cons_self
  refine Calls.Name_function_global hkf (by show f.env.scope.names.lookup y=_; rw [G.hsc]; exact hk) (Calls.loadGlobal_builtin (by rw [hg]; exact G.bs.T.g.keeps G.Fr.keep) hx (by rw [hb]; exact G.bs.T.b.keeps G.Fr.keep) hy h) (not_debug hd).1
theorem s_glob {g:Nat} {p:Pos} (G:Go c (n + 1) A f fs s μ ρ σ nm sc fr) (ht:trX c nm sc m (.glob g p)=some e) (hr:exX c.T (n + 1) (.glob g p) fr σ=some r):wpAny (model c.prog c.w) A (eval e f.env) (PX c (f :: fs) s μ ρ r) (EX c (f :: fs) s μ ρ r) s:=by
  cases m with
  | zero=>exact Mine.n0 ht
  | succ m =>
    simp only [eT_glob] at ht
    split at ht
    · rename_i hc
      first | obtain rfl:=oi ht | exact n0 ht | exact n1 ht | cases ht
      obtain ⟨v,hv,rfl⟩:=lif_some hr
      obtain ⟨x,hx,rep⟩:=G.bs.gl _ _ hv
      simp only [Bool.and_eq_true,beq_iff_eq] at hc
      exact G.glob hc.1 hc.2 hx ⟨_,_,_,_,rfl, .refl G.inv,G.up0 rep⟩
    · first | obtain rfl:=oi ht | exact n0 ht | exact n1 ht | cases ht
theorem wp_base {M : Model} {o : Expr} {attr : Str} {env : Env} {whole : Sem Value} (hs : noSuper o = true) : attributeBase o attr env whole = whole := by
  cases o with
  | Call f as ks p =>
    cases f with
    | Name id q =>
      cases as with
      | nil =>
        cases ks with
        | nil => exact if_pos (by rw [show (id != ("super" : Str)) = true from hs]; rfl)
        | _=>rfl
      | _=>rfl
    | _=>rfl
  | _=>rfl
theorem notCls_fields {o:Obj} {vs:Array Value} (h:o.data = .fields vs):notCls o=true:=by unfold notCls; rw [h]
theorem Go.field (G:Go c n A f fs s μ ρ σ nm sc fr) {v w:V} {x:Value} {g:Nat} (hg:g≤10) (rep:VRep c s.heap μ ρ v x) (hv:attrV σ g v=some w) {expr:Bool} {Q E:Value→Shared→Prop}
    (h : ∀ y,VRep c s.heap μ ρ w y→Q y { s with toks:=s.toks + 1 }):wpAny (model c.prog c.w) A (getAttr x (c.an g) expr) Q E s:=by
  have go : ∀ {C C' x ox dx fs es k},C < 4→C ≠ 0→c.fnA C=some C'→s.heap.get? x=some ox→ox.cls = .ref C'→notCls ox=true→ox.dict=some dx→s.heap.get? dx=some (dictOf es k)→FRep c s.heap μ ρ fs es→fget g fs=some w→wpAny (model c.prog c.w) A (getAttr (.ref x) (c.an g) expr) Q E s:=by
    intro C C' x ox dx fs es k hC hC0 hA ho hc hn hd hdx fr hf
    obtain ⟨y,hy,ry⟩:=fr.get G.bs (by omega) hf
    obtain ⟨p1,p2,at',p3,p4⟩:=G.bs.attr C C' hC hC0 hA g hg
    exact get_own G.Fr G.bs.XK (ox:=ox) (C:=C') (es:=es) (n:=k) ⟨ho,hc,hn,by rw [hd]; exact hdx⟩ p1 p2 p3 p4 hy ry.handed (h y ry)
  cases attO hv with
  | inst hcell h0 hv2 =>
    obtain ⟨_,_,rfl,hi⟩:=rep.ref_
    obtain ⟨p,hp,ca⟩:=G.inv.cells.get hcell
    rw [hi] at hp
    obtain rfl:=oi hp
    cases ca with
    | inst z a e1 n1 e2 m' fr=>exact go z h0 a e1 rfl rfl rfl e2 fr hv2
  | exc hcell hv2 =>
    obtain ⟨_,_,rfl,hi⟩:=rep.ref_
    obtain ⟨p,hp,ca⟩:=G.inv.cells.get hcell
    rw [hi] at hp
    obtain rfl:=oi hp
    cases ca with
    | exc z a e1 o1 o2 o3 m' e2 n2 fr =>
      obtain ⟨y,hy,ry⟩:=fr.get G.bs (by omega) hv2
      obtain ⟨p1,p2,p3,p4,at',p5,p6⟩:=G.bs.attr0 _ a g hg
      exact get_exc G.K ⟨e1,o1,notCls_fields o3,by rw [o2]; exact e2⟩ p1 p2 p3 (findObj_own p4 p5 p6 (by rw [lookIn_dict,hy])) ry.handed (h y ry)
theorem s_attr {x:X} {g:Nat} {p:Pos} (H:SX c n) (G:Go c (n + 1) A f fs s μ ρ σ nm sc fr) (ht:trX c nm sc m (.attr x g p)=some e) (hr:exX c.T (n + 1) (.attr x g p) fr σ=some r):wpAny (model c.prog c.w) A (eval e f.env) (PX c (f :: fs) s μ ρ r) (EX c (f :: fs) s μ ρ r) s:=by
  cases m with
  | zero=>exact Mine.n0 ht
  | succ m =>
    obtain ⟨e',ht',hz_⟩:=bI ht; clear ht; rename _=>ht
    split at ht
    · rename_i hc
      simp only [Bool.and_eq_true,decide_eq_true_eq] at hc
      first | obtain rfl:=oi ht | exact n0 ht | exact n1 ht | cases ht
      rw [arm_eval_Attribute,wp_base (M:=model c.prog c.w) hc.1]
      refine wpAny_bind (H.run (G.less (Nat.le_succ _)) ht' hr (fun v σ₁ y s₁ μ₁ ρ₁ hk G₁ st rep => ?_) fun _ _ h=>h)
      obtain ⟨w,hw,rfl⟩:=lif_some hk
      refine wpAny_bind (wpAny_standAt (wpAny_bind (wpAny_holding (G₁.field hc.2 rep hw fun z rz => ?_))))
      exact wpAny_bind (wpAny_letTemporaryGo (wpAny_pure ⟨_,_,_,_,rfl,st.then,rz⟩))
    · first | obtain rfl:=oi ht | exact n0 ht | exact n1 ht | cases ht
end
end Mine
end
section
set_option tactic.hygienic false
namespace Mine
open PySem PySem.W PySem.Spec PySem.Calls PyProof.Rows PyProof.V

theorem VReps.len {c:Cx} {h:Heap} {μ:Addr→Prop} {ρ:List (Addr × Addr)} : ∀ {l:List V} {xs:List Value},VReps c h μ ρ l xs→l.length=xs.length:=fun H=>H.ind (P:=fun l xs=>l.length=xs.length) rfl fun _ _ ih=>congrArg (· + 1) ih
theorem VReps.app {c:Cx} {h:Heap} {μ:Addr→Prop} {ρ:List (Addr × Addr)} : ∀ {l l':List V} {xs xs':List Value},VReps c h μ ρ l xs→VReps c h μ ρ l' xs'→VReps c h μ ρ (l ++ l') (xs ++ xs'):=fun {l l' xs xs'} H y=>H.ind (P:=fun l xs=>VReps c h μ ρ (l ++ l') (xs ++ xs')) y fun a _ ih => .cons a ih
theorem VReps.get {c:Cx} {h:Heap} {μ:Addr→Prop} {ρ:List (Addr × Addr)} : ∀ {l:List V} {xs:List Value} {i:Nat} {v:V},VReps c h μ ρ l xs→l[i]? = some v → ∃ x,xs[i]? = some x∧VRep c h μ ρ v x
  | _,_,_,_, .nil,e=>by simp at e
  | _,_,0,_, .cons a _,e=>by cases e; exact ⟨_,rfl,a⟩
  | _,_,_ + 1,_, .cons _ b,e=>b.get (by simpa using e)
theorem VReps.take {c:Cx} {h:Heap} {μ:Addr→Prop} {ρ:List (Addr × Addr)} : ∀ {l:List V} {xs:List Value} (k:Nat),VReps c h μ ρ l xs→VReps c h μ ρ (l.take k) (xs.take k)
  | _,_,0,_=>by simpa using VReps.nil
  | _,_,_ + 1, .nil=>by simpa using VReps.nil
  | _,_,k + 1, .cons a b => .cons a (b.take k)
theorem sS_app (a b:CS):sS a ++ sS b=sS (a ++ b):=by
  show (⟨a.toArray ++ b.toArray⟩:Str)=⟨(a ++ b).toArray⟩
  simp
theorem sS_len (a:CS):(sS a).length=a.length:=by show a.toArray.size=_; simp
theorem sml_le {k:Nat} (h:sml k=true):k≤1000:=of_decide_eq_true h
section
variable {c:Cx} {n m:Nat} {A:Around} {f:FrI} {fs:List FrI} {s:Shared} {μ:Addr→Prop} {ρ:List (Addr × Addr)} {σ:List Cell} {nm:List Str} {sc:Scope} {fr:List (Option V)} {e:Expr} {r:R V}
theorem Go.items (G:Go c n A f fs s μ ρ σ nm sc fr) {v:V} {x:Value} {l:List V} (rep:VRep c s.heap μ ρ v x) (h:items σ v=some l) : ∃ a xs k,x = .ref a∧IsL s.heap a xs k∧VReps c s.heap μ ρ l xs.toList:=by
  cases itI h with
  | lst =>
    obtain ⟨_,_,_,rfl,e,_,vs⟩:=rep.lst_
    exact ⟨_,_,_,rfl,e,vs⟩
  | ref hcell =>
    obtain ⟨_,_,rfl,hi⟩:=rep.ref_
    obtain ⟨p,hp,ca⟩:=G.inv.cells.get hcell
    rw [hi] at hp
    obtain rfl:=oi hp
    obtain ⟨_,_,rfl,e,_,vs⟩:=ca.list_
    exact ⟨_,_,_,rfl,e,vs⟩
theorem St.push {c:Cx} {fs:List FrI} {s:Shared} {μ:Addr→Prop} {ρ:List (Addr × Addr)} {σ:List Cell} (I:Inv c fs μ ρ σ s.heap) (o:Obj) {tk:Nat}:St c fs s μ ρ σ { s with heap:=s.heap.push o,toks:=tk } μ ρ :=
  .keep I (fun _ _ e=>Heap.get?_push_of_some o e) (by rw [Heap.size_push]; omega)
theorem Inv.free {c:Cx} {fs:List FrI} {s:Shared} {μ:Addr→Prop} {ρ:List (Addr × Addr)} {σ:List Cell} (I:Inv c fs μ ρ σ s.heap) : ¬ μ s.heap.objs.size:=fun h=>Nat.lt_irrefl _ (I.mlt _ h)
theorem rep_tup {s : Shared} {l : List V} {xs : List Value} (I : Inv c (f :: fs) μ ρ σ s.heap) (vs : VReps c s.heap μ ρ l xs) {tk : Nat} : VRep c (s.heap.push { cls := .type "tuple", data := .seq xs.toArray }) μ ρ (.tup l) (.ref s.heap.objs.size) :=
  .tup (Heap.get?_push_size _ rfl) I.free (by
    have := vs.mono (St.push I { cls := .type "tuple", data := .seq xs.toArray } (tk := tk)).grow (List.prefix_refl _)
    simpa using this)
theorem rep_lst {s : Shared} {l : List V} {xs : Array Value} (I : Inv c (f :: fs) μ ρ σ s.heap) (vs : VReps c s.heap μ ρ l xs.toList) {tk : Nat} : VRep c (s.heap.push { cls := .type "list", data := .seq xs }) μ ρ (.lst l) (.ref s.heap.objs.size) :=
  .lst (n := 0) (Heap.get?_push_size _ rfl) I.free (vs.mono (St.push I { cls := .type "list", data := .seq xs } (tk := tk)).grow (List.prefix_refl _))

theorem intBits_le {x:Int} (h:x.natAbs < 2 ^ 64):Builtin.Int.intBits x≤64:=by
  unfold Builtin.Int.intBits
  by_cases h0:x=0
  · simp [h0]
  · have h1 : x.natAbs.log2 < 64 := (Nat.log2_lt (by omega)).mpr h
    have h2:(x == 0)=false:=beq_eq_false_iff_ne.mpr h0
    rw [h2]
    show x.natAbs.log2 + 1≤64
    omega
theorem Go.bin (G:Go c n A f fs s μ ρ σ nm sc fr) {op:Operator} {a b w:V} {x y:Value} (ra:VRep c s.heap μ ρ a x) (rb:VRep c s.heap μ ρ b y) (h:binV σ op a b=some w) {Q E:Value→Shared→Prop}
    (k : ∀ z s',St c (f :: fs) s μ ρ σ s' μ ρ→VRep c s'.heap μ ρ w z→Q z s'):wpAny (model c.prog c.w) A (binaryOp op x y) Q E s:=by
  cases binO h with
  | add=>obtain ⟨_,rfl⟩:=ra.int_; obtain ⟨_,rfl⟩:=rb.int_; exact wpAny_add_int (k _ _ (.toks G.inv) (.int _ _))
  | sub=>obtain ⟨_,rfl⟩:=ra.int_; obtain ⟨_,rfl⟩:=rb.int_; exact PyProof.Rows.sub_int (k _ _ (.toks G.inv) (.int _ _))
  | mul hb=>obtain ⟨_,rfl⟩:=ra.int_; obtain ⟨_,rfl⟩:=rb.int_; exact PyProof.Rows.mul_int (k _ _ (.toks G.inv) (.int _ _)) (IntMulOk.of_left (intBits_le hb))
  | mod hb=>obtain ⟨_,rfl⟩:=ra.int_; obtain ⟨_,rfl⟩:=rb.int_; exact mod_int' hb (k _ _ (.toks G.inv) (.int _ _))
  | pow hb=>obtain ⟨_,rfl⟩:=ra.int_; obtain ⟨_,rfl⟩:=rb.int_; exact pow_int_small (by decide) (by decide) hb (k _ _ (.toks G.inv) (.int _ _))
  | div h0 hb =>
    obtain ⟨_,rfl⟩:=ra.int_; obtain ⟨_,rfl⟩:=rb.int_
    exact floordiv_int h0 (k _ _ (.toks G.inv) (.int _ _)) (.inl (PyProof.noPylong_of_log2 (Nat.lt_of_lt_of_le ((Nat.log2_lt (Int.natAbs_ne_zero.mpr h0)).mpr hb) (by decide))))
  | str hb =>
    obtain ⟨_,rfl⟩:=ra.str_; obtain ⟨_,rfl⟩:=rb.str_
    refine SBL.add (fun t' k' _ => ?_) (by rw [sS_len,sS_len,sizeLine_eq]; omega)
    rw [sS_app]
    exact k _ _ (.toks G.inv) (.str _ _)
  | lst hx hy hb =>
    obtain ⟨p,xs,k1,rfl,l1,v1⟩:=G.items ra hx
    obtain ⟨q,ys,k2,rfl,l2,v2⟩:=G.items rb hy
    exact P.add_list l1 l2 (k _ _ (St.push G.inv _ (tk:=s.toks)) (rep_lst (tk:=0) G.inv (by rw [Array.toList_append]; exact v1.app v2))) (by
      rw [sizeLine_eq, ← Array.length_toList, ← Array.length_toList, ← v1.len, ← v2.len]; exact Nat.le_trans hb (by decide))
theorem s_bin {l y:X} {op:Operator} {p:Pos} (H:SX c n) (G:Go c (n + 1) A f fs s μ ρ σ nm sc fr) (ht:trX c nm sc m (.bin l op y p)=some e) (hr:exX c.T (n + 1) (.bin l op y p) fr σ=some r):wpAny (model c.prog c.w) A (eval e f.env) (PX c (f :: fs) s μ ρ r) (EX c (f :: fs) s μ ρ r) s:=by
  cases m with
  | zero=>exact Mine.n0 ht
  | succ m =>
    obtain ⟨e1,h1,hz_⟩:=bI ht; clear ht; rename _=>ht
    obtain ⟨e2,h2,hz_⟩:=bI ht; clear ht; rename _=>ht
    first | obtain rfl:=oi ht | exact n0 ht | exact n1 ht | cases ht
    refine wpAny_BinOp (H.run (G.less (Nat.le_succ _)) h1 hr (fun v σ₁ y₁ s₁ μ₁ ρ₁ hk G₁ st rep => ?_) fun _ _ h=>h)
    refine H.run G₁ h2 hk (fun w σ₂ y₂ s₂ μ₂ ρ₂ hk G₂ st' rep' => ?_) fun _ _ h=>h.up st fun _ _ z=>z
    obtain ⟨z,hz,rfl⟩:=lif_some hk
    exact G₂.bin (st'.up rep) rep' hz fun z s' st'' rz=>⟨_,_,_,_,rfl,(st.trans st').trans st'',rz⟩
theorem int_ne (i:Int):(i != 0) = !decide (i=0):=rfl
theorem len_ne {α:Type} (l:List α):((l.length:Int) != 0) = !l.isEmpty:=by cases l <;> rfl
theorem items_ref {i:Nat} {l:List V} (h:σ[i]? = some (.list l)):items σ (.ref i)=some l:=by
  show (match σ[i]? with | some (.list l)=>some l | _=>none)=_; rw [h]
theorem arr_empty {α:Type} (xs:Array α):xs.isEmpty=xs.toList.isEmpty:=by cases xs with | mk l=>cases l <;> rfl
theorem len_empty {α β:Type} {l:List α} {r:List β} (h:l.length=r.length):l.isEmpty=r.isEmpty:=by
  cases l <;> cases r <;> first | rfl | exact Nat.noConfusion h
theorem Go.truth (G:Go c n A f fs s μ ρ σ nm sc fr) {v:V} {x:Value} {b:Bool} (rep:VRep c s.heap μ ρ v x) (h:truthy σ v=some b) {Q:Bool→Shared→Prop} {E:Value→Shared→Prop}
    (k : ∀ s',St c (f :: fs) s μ ρ σ s' μ ρ→s'.heap=s.heap→Q b s'):wpAny (model c.prog c.w) A (PySem.truthy x) Q E s:=by
  cases truI h with
  | none=>obtain rfl:=rep.none_; exact fun _ _ _=>k _ (.refl G.inv) rfl
  | bool b'=>obtain rfl:=rep.bool_; exact fun _ _ _=>k _ (.refl G.inv) rfl
  | int i =>
    obtain ⟨_,rfl⟩:=rep.int_
    refine PyProof.Rows.truthy_int ?_
    rw [int_ne]
    exact k s (.refl G.inv) rfl
  | str hb =>
    obtain ⟨_,rfl⟩:=rep.str_
    refine PySem.P.truthy_str (by rw [sS_len]; omega) ?_
    rw [sS_len,len_ne]
    exact k { s with toks:=s.toks + 1 + 1 } (.toks G.inv) rfl
  | ref hcell hb =>
    obtain ⟨a,xs,k1,rfl,hl,vs⟩:=G.items rep (items_ref hcell)
    have e1:=vs.len
    refine wpAny_truthy_list hl.isList (by have e2:xs.toList.length=xs.size:=rfl; omega) ?_
    rw [arr_empty, ← len_empty e1]
    exact k { s with toks:=s.toks + 1 + 1 } (.toks G.inv) rfl
end
end Mine
end
section
set_option tactic.hygienic false
namespace Mine
open PySem PySem.W PySem.Spec PySem.Calls PyProof.Rows PyProof.V

noncomputable def Tru (σ':List Cell) (v:V):Prop := ∃ b,truthy σ' v=some b
inductive PT (c:Cx) (fs:List FrI) (s:Shared) (μ:Addr→Prop) (ρ:List (Addr × Addr)) (r:R V) (b:Bool) (s':Shared):Prop
  | mk (v:V) (σ':List Cell) (μ':Addr→Prop) (ρ':List (Addr × Addr)) (e:r = .ok v σ') (st:St c fs s μ ρ σ' s' μ' ρ') (t:truthy σ' v=some b)
noncomputable def ST (c:Cx) (n:Nat):Prop := ∀ {m nm sc x e},trX c nm sc m x=some e → ∀ {fr σ r},exX c.T n x fr σ=some r→(∀ v σ',r = .ok v σ'→Tru σ' v) → ∀ {A f fs s μ ρ},Go c n A f fs s μ ρ σ nm sc fr →
  wpAny (model c.prog c.w) A (PySem.isTrue e f.env (eval e f.env)) (PT c (f :: fs) s μ ρ r) (EX c (f :: fs) s μ ρ r) s
noncomputable def bop:Bool→BoolOp
  | true => .And
  | false => .Or
noncomputable def SBool (c:Cx) (n:Nat):Prop := ∀ {m nm sc xs es},trXs c nm sc m xs=some es → ∀ {b fr σ r},exBool c.T n b xs fr σ=some r → ∀ {A f fs s μ ρ},Go c n A f fs s μ ρ σ nm sc fr →
  ∀ pos,wpAny (model c.prog c.w) A (eval (.BoolOp (bop b) es pos) f.env) (PX c (f :: fs) s μ ρ r) (EX c (f :: fs) s μ ρ r) s
noncomputable def SBoolT (c:Cx) (n:Nat):Prop := ∀ {m nm sc xs es},trXs c nm sc m xs=some es → ∀ {b fr σ r},exBool c.T n b xs fr σ=some r→(∀ v σ',r = .ok v σ'→Tru σ' v) → ∀ {A f fs s μ ρ},Go c n A f fs s μ ρ σ nm sc fr →
  ∀ pos whole,wpAny (model c.prog c.w) A (PySem.isTrue (.BoolOp (bop b) es pos) f.env whole) (PT c (f :: fs) s μ ρ r) (EX c (f :: fs) s μ ρ r) s

section
variable {c:Cx} {n m:Nat} {A:Around} {f:FrI} {fs:List FrI} {s:Shared} {μ:Addr→Prop} {ρ:List (Addr × Addr)} {σ:List Cell} {nm:List Str} {sc:Scope} {fr:List (Option V)} {e:Expr} {r:R V}
theorem trXs_cons {x:X} {l:List X} {es:List Expr} (h:trXs c nm sc m (x :: l)=some es) : ∃ m' e es',m=m' + 1∧trX c nm sc m' x=some e∧trXs c nm sc m' l=some es'∧es=e :: es' ∧ ∀ v p,e ≠ .Starred v p:=by
  cases m with
  | zero=>exact Mine.n0 h
  | succ m =>
    obtain ⟨e,h1,hz_⟩:=bI h; clear h; rename _=>h
    obtain ⟨es',h2,hz_⟩:=bI h; clear h; rename _=>h
    obtain ⟨hne,rfl⟩:=ifN h
    exact ⟨m,e,es',rfl,h1,h2,rfl,fun v p q=>hne (congrArg isStar q)⟩
theorem trXs_nil {es:List Expr} (h:trXs c nm sc m []=some es):es=[]:=by
  cases m with
  | zero=>exact Mine.n0 h
  | succ m=>exact (oi h).symm
theorem ST.run {β:Type} {x:X} (H:ST c n) (G:Go c n A f fs s μ ρ σ nm sc fr) (ht:trX c nm sc m x=some e) {k:V→List Cell→O β} {r:R β} (hr:bnd (exX c.T n x fr σ) k=some r) {Q:Bool→Shared→Prop} {E:Value→Shared→Prop}
    (htr : ∀ v σ₁,k v σ₁=some r→Tru σ₁ v)
    (hk : ∀ v b σ₁ s₁ μ₁ ρ₁,k v σ₁=some r→truthy σ₁ v=some b→Go c n A f fs s₁ μ₁ ρ₁ σ₁ nm sc fr→St c (f :: fs) s μ ρ σ₁ s₁ μ₁ ρ₁→Q b s₁)
    (hE : ∀ e s',EX c (f :: fs) s μ ρ r e s'→E e s'):wpAny (model c.prog c.w) A (PySem.isTrue e f.env (eval e f.env)) Q E s:=by
  rcases bnd_some hr with ⟨v,σ₁,h1,h2⟩ | ⟨i,σ₁,h1,h2⟩
  · refine wpAny_mono (H ht h1 (fun v' σ' q => by cases q; exact htr _ _ h2) G) (fun y s₁ h => ?_) (fun e s' h => ?_)
    · obtain ⟨v', σ', μ', ρ', e1, st, tt⟩ := h
      first | obtain rfl:=oi e1 | exact n0 e1 | exact n1 e1 | cases e1
      exact hk _ _ _ _ _ _ h2 tt (G.next st) st
    · obtain ⟨i, _, _, _, _, e1, _⟩ := h
      first | obtain rfl:=oi e1 | exact n0 e1 | exact n1 e1 | cases e1
  · refine wpAny_mono (H ht h1 (fun v' σ' q => by cases q) G) (fun y s₁ h => ?_) (fun e s' h => ?_)
    · obtain ⟨_, _, _, _, e1, _⟩ := h
      first | obtain rfl:=oi e1 | exact n0 e1 | exact n1 e1 | cases e1
    · exact hE _ _ (h.up (.refl G.inv) fun i' σ' e'=>by cases e'; exact h2)

theorem s_not {x:X} {p:Pos} (H:SX c n) (G:Go c (n + 1) A f fs s μ ρ σ nm sc fr) (ht:trX c nm sc m (.not x p)=some e) (hr:exX c.T (n + 1) (.not x p) fr σ=some r):wpAny (model c.prog c.w) A (eval e f.env) (PX c (f :: fs) s μ ρ r) (EX c (f :: fs) s μ ρ r) s:=by
  cases m with
  | zero=>exact Mine.n0 ht
  | succ m =>
    obtain ⟨e1,h1,hz_⟩:=bI ht; clear ht; rename _=>ht
    first | obtain rfl:=oi ht | exact n0 ht | exact n1 ht | cases ht
    show wpAny _ A (do let v ← eval e1 f.env; standAt p; holding [v] (unaryOp .Not v)) _ _ s
    refine wpAny_bind (H.run (G.less (Nat.le_succ _)) h1 hr (fun v σ₁ y₁ s₁ μ₁ ρ₁ hk G₁ st rep => ?_) fun _ _ h=>h)
    obtain ⟨z,hz,rfl⟩:=lif_some hk
    simp only [Option.map_eq_some_iff] at hz
    obtain ⟨b,hb,rfl⟩:=hz
    refine wpAny_bind (wpAny_standAt (wpAny_holding ?_))
    exact PyProof.Rows.not_of (G₁.truth rep hb fun s' st' _=>⟨_,_,_,_,rfl,st.trans st', .bool _⟩)
theorem t_not {x:X} {p:Pos} (H:ST c n) (G:Go c (n + 1) A f fs s μ ρ σ nm sc fr) (ht:trX c nm sc m (.not x p)=some e) (hr:exX c.T (n + 1) (.not x p) fr σ=some r):wpAny (model c.prog c.w) A (PySem.isTrue e f.env (eval e f.env)) (PT c (f :: fs) s μ ρ r) (EX c (f :: fs) s μ ρ r) s:=by
  cases m with
  | zero=>exact Mine.n0 ht
  | succ m =>
    obtain ⟨e1,h1,hz_⟩:=bI ht; clear ht; rename _=>ht
    first | obtain rfl:=oi ht | exact n0 ht | exact n1 ht | cases ht
    refine isTrue_not (H.run (G.less (Nat.le_succ _)) h1 hr (fun v σ₁ hk => ?_) (fun v b σ₁ s₁ μ₁ ρ₁ hk hb G₁ st => ?_) fun _ _ h=>h)
    · obtain ⟨z, hz, rfl⟩ := lif_some hk
      simp only [Option.map_eq_some_iff] at hz
      obtain ⟨b,hb,rfl⟩:=hz
      exact ⟨b,hb⟩
    · rw [hb] at hk
      obtain ⟨z,hz,rfl⟩:=lif_some hk
      first | obtain rfl:=oi hz | exact n0 hz | exact n1 hz | cases hz
      exact ⟨_,_,_,_,rfl,st,rfl⟩
theorem s_neg {x:X} {p:Pos} (H:SX c n) (G:Go c (n + 1) A f fs s μ ρ σ nm sc fr) (ht:trX c nm sc m (.neg x p)=some e) (hr:exX c.T (n + 1) (.neg x p) fr σ=some r):wpAny (model c.prog c.w) A (eval e f.env) (PX c (f :: fs) s μ ρ r) (EX c (f :: fs) s μ ρ r) s:=by
  cases m with
  | zero=>exact Mine.n0 ht
  | succ m =>
    obtain ⟨e1,h1,hz_⟩:=bI ht; clear ht; rename _=>ht
    first | obtain rfl:=oi ht | exact n0 ht | exact n1 ht | cases ht
    show wpAny _ A (do let v ← eval e1 f.env; standAt p; holding [v] (unaryOp .USub v)) _ _ s
    refine wpAny_bind (H.run (G.less (Nat.le_succ _)) h1 hr (fun v σ₁ y₁ s₁ μ₁ ρ₁ hk G₁ st rep => ?_) fun _ _ h=>h)
    split at hk
    · first | obtain rfl := oi hk | exact n0 hk | exact n1 hk | cases hk
      first | obtain rfl:=oi rep | exact n0 rep | exact n1 rep | cases rep
      exact wpAny_bind (wpAny_standAt (wpAny_holding (neg_int ⟨_,_,_,_,rfl,st.then, .int _ _⟩)))
    · first | obtain rfl:=oi hk | exact n0 hk | exact n1 hk | cases hk
theorem s_and {xs:List X} {p:Pos} (H:SBool c n) (G:Go c (n + 1) A f fs s μ ρ σ nm sc fr) (ht:trX c nm sc m (.and xs p)=some e) (hr:exX c.T (n + 1) (.and xs p) fr σ=some r):wpAny (model c.prog c.w) A (eval e f.env) (PX c (f :: fs) s μ ρ r) (EX c (f :: fs) s μ ρ r) s:=by
  cases m with
  | zero=>exact Mine.n0 ht
  | succ m =>
    obtain ⟨es,h1,hz_⟩:=bI ht; clear ht; rename _=>ht
    first | obtain rfl:=oi ht | exact n0 ht | exact n1 ht | cases ht
    exact H h1 hr (G.less (Nat.le_succ _)) p
theorem s_or {xs:List X} {p:Pos} (H:SBool c n) (G:Go c (n + 1) A f fs s μ ρ σ nm sc fr) (ht:trX c nm sc m (.or xs p)=some e) (hr:exX c.T (n + 1) (.or xs p) fr σ=some r):wpAny (model c.prog c.w) A (eval e f.env) (PX c (f :: fs) s μ ρ r) (EX c (f :: fs) s μ ρ r) s:=by
  cases m with
  | zero=>exact Mine.n0 ht
  | succ m =>
    obtain ⟨es,h1,hz_⟩:=bI ht; clear ht; rename _=>ht
    first | obtain rfl:=oi ht | exact n0 ht | exact n1 ht | cases ht
    exact H h1 hr (G.less (Nat.le_succ _)) p
theorem t_and {xs:List X} {p:Pos} (H:SBoolT c n) (G:Go c (n + 1) A f fs s μ ρ σ nm sc fr) (ht:trX c nm sc m (.and xs p)=some e) (hr:exX c.T (n + 1) (.and xs p) fr σ=some r) (htr : ∀ v σ',r = .ok v σ'→Tru σ' v):wpAny (model c.prog c.w) A (PySem.isTrue e f.env (eval e f.env)) (PT c (f :: fs) s μ ρ r) (EX c (f :: fs) s μ ρ r) s:=by
  cases m with
  | zero=>exact Mine.n0 ht
  | succ m =>
    obtain ⟨es,h1,hz_⟩:=bI ht; clear ht; rename _=>ht
    first | obtain rfl:=oi ht | exact n0 ht | exact n1 ht | cases ht
    exact H h1 hr htr (G.less (Nat.le_succ _)) p _
theorem t_or {xs:List X} {p:Pos} (H:SBoolT c n) (G:Go c (n + 1) A f fs s μ ρ σ nm sc fr) (ht:trX c nm sc m (.or xs p)=some e) (hr:exX c.T (n + 1) (.or xs p) fr σ=some r) (htr : ∀ v σ',r = .ok v σ'→Tru σ' v):wpAny (model c.prog c.w) A (PySem.isTrue e f.env (eval e f.env)) (PT c (f :: fs) s μ ρ r) (EX c (f :: fs) s μ ρ r) s:=by
  cases m with
  | zero=>exact Mine.n0 ht
  | succ m =>
    obtain ⟨es,h1,hz_⟩:=bI ht; clear ht; rename _=>ht
    first | obtain rfl:=oi ht | exact n0 ht | exact n1 ht | cases ht
    exact H h1 hr htr (G.less (Nat.le_succ _)) p _
set_option tactic.hygienic true in theorem sb_step (H:SX c n) (HB:SBool c n):SBool c (n + 1):=by
  intro m nm sc xs es ht b fr σ r hr A f fs s μ ρ G pos
  match xs with
  | []=>exact Mine.n0 hr
  | [x] =>
    obtain ⟨m',e,es',rfl,h1,h2,rfl,_⟩:=trXs_cons ht
    obtain rfl:=trXs_nil h2
    simp only [eB_one] at hr
    exact BoolOp_one (H h1 hr (G.less (Nat.le_succ _)))
  | x :: y :: l =>
    obtain ⟨m',e,es',rfl,h1,h2,rfl,_⟩:=trXs_cons ht
    obtain ⟨m'',e',es'',rfl,h1',h2',rfl,_⟩:=trXs_cons h2
    simp only [eB_cons] at hr
    have go : ∀ {Q:Value→Shared→Prop} {E:Value→Shared→Prop},(∀ v σ₁ y₁ s₁ μ₁ ρ₁ t,truthy σ₁ v=some t→(if t=b then exBool c.T n b (y :: l) fr σ₁ else some (.ok v σ₁))=some r→Go c n A f fs s₁ μ₁ ρ₁ σ₁ nm sc fr→St c (f :: fs) s μ ρ σ₁ s₁ μ₁ ρ₁→VRep c s₁.heap μ₁ ρ₁ v y₁→Q y₁ s₁)→(∀ e s',EX c (f :: fs) s μ ρ r e s'→E e s')→wpAny (model c.prog c.w) A (eval e f.env) Q E s:=by
      intro Q E hq hE
      refine H.run (G.less (Nat.le_succ _)) h1 hr (fun v σ₁ y₁ s₁ μ₁ ρ₁ hk G₁ st rep => ?_) hE
      split at hk
      · rename_i t ht'
        exact hq _ _ _ _ _ _ _ ht' hk G₁ st rep
      · first | obtain rfl:=oi hk | exact n0 hk | exact n1 hk | cases hk
    first | obtain rfl:=oi b | exact n0 b | exact n1 b | cases b
    · refine BoolOp_or (go (fun v σ₁ y₁ s₁ μ₁ ρ₁ t ht' hk G₁ st rep => G₁.truth rep ht' fun s' st' hh => ?_) fun _ _ h => h)
      first | obtain rfl:=oi t | exact n0 t | exact n1 t | cases t
      · exact wpAny_mono (HB h2 hk (G₁.next st') pos) (fun _ _ ⟨v,σ',μ',ρ',a,b,d⟩=>⟨v,σ',μ',ρ',a,(st.trans st').trans b,d⟩) fun _ _ h=>h.up (st.trans st') fun _ _ z=>z
      · simp only [if_true]
        simp at hk
        subst hk
        exact ⟨_,_,_,_,rfl,st.trans st',by rw [hh]; exact rep⟩
    · refine BoolOp_and (go (fun v σ₁ y₁ s₁ μ₁ ρ₁ t ht' hk G₁ st rep => G₁.truth rep ht' fun s' st' hh => ?_) fun _ _ h => h)
      first | obtain rfl:=oi t | exact n0 t | exact n1 t | cases t
      · simp at hk
        subst hk
        exact ⟨_,_,_,_,rfl,st.trans st',by rw [hh]; exact rep⟩
      · exact wpAny_mono (HB h2 hk (G₁.next st') pos) (fun _ _ ⟨v,σ',μ',ρ',a,b,d⟩=>⟨v,σ',μ',ρ',a,(st.trans st').trans b,d⟩) fun _ _ h=>h.up (st.trans st') fun _ _ z=>z
theorem isTrue_or_nil' {M:Model} {E:Value→Shared→Prop} {env:Env} {pos:Pos} {whole:Sem Value} {Q:Bool→Shared→Prop} (h:Q false s):wpAny M A (PySem.isTrue (Expr.BoolOp BoolOp.Or [] pos) env whole) Q E s:=fun _ _ _=>h
set_option tactic.hygienic true in theorem tb_step (H:ST c n) (HB:SBoolT c n):SBoolT c (n + 1):=by
  intro m nm sc xs es ht b fr σ r hr htr A f fs s μ ρ G pos whole
  match xs with
  | []=>exact Mine.n0 hr
  | [x] =>
    obtain ⟨m',e,es',rfl,h1,h2,rfl,_⟩:=trXs_cons ht
    obtain rfl:=trXs_nil h2
    simp only [eB_one] at hr
    have hr':bnd (exX c.T n x fr σ) (fun v s=>some (.ok v s))=some r:=by rw [hr]; cases r <;> rfl
    first | obtain rfl:=oi b | exact n0 b | exact n1 b | cases b
    · refine isTrue_or (H.run (G.less (Nat.le_succ _)) h1 hr' (fun v σ₁ hk => htr v σ₁ (Option.some.inj hk).symm) (fun v b σ₁ s₁ μ₁ ρ₁ hk hb G₁ st => ?_) fun _ _ h => h)
      first | obtain rfl:=oi hk | exact n0 hk | exact n1 hk | cases hk
      first | obtain rfl:=oi b | exact n0 b | exact n1 b | cases b
      · exact isTrue_or_nil' ⟨_,_,_,_,rfl,st,hb⟩
      · exact ⟨_,_,_,_,rfl,st,hb⟩
    · refine isTrue_and (H.run (G.less (Nat.le_succ _)) h1 hr' (fun v σ₁ hk => htr v σ₁ (Option.some.inj hk).symm) (fun v b σ₁ s₁ μ₁ ρ₁ hk hb G₁ st => ?_) fun _ _ h => h)
      first | obtain rfl:=oi hk | exact n0 hk | exact n1 hk | cases hk
      first | obtain rfl:=oi b | exact n0 b | exact n1 b | cases b
      · exact ⟨_,_,_,_,rfl,st,hb⟩
      · exact isTrue_and_nil ⟨_,_,_,_,rfl,st,hb⟩
  | x :: y :: l =>
    obtain ⟨m',e,es',rfl,h1,h2,rfl,_⟩:=trXs_cons ht
    simp only [eB_cons] at hr
    first | obtain rfl:=oi b | exact n0 b | exact n1 b | cases b
    · refine isTrue_or (H.run (G.less (Nat.le_succ _)) h1 hr (fun v σ₁ hk => ?_) (fun v b σ₁ s₁ μ₁ ρ₁ hk hb G₁ st => ?_) fun _ _ h => h)
      · split at hk
        · rename_i t ht'; exact ⟨t,ht'⟩
        · first | obtain rfl:=oi hk | exact n0 hk | exact n1 hk | cases hk
      · rw [hb] at hk
        first | obtain rfl:=oi b | exact n0 b | exact n1 b | cases b
        · exact wpAny_mono (HB h2 hk htr G₁ pos whole) (fun _ _ ⟨v,σ',μ',ρ',a,b,d⟩=>⟨v,σ',μ',ρ',a,st.trans b,d⟩) fun _ _ h=>h.up st fun _ _ z=>z
        · simp at hk
          subst hk
          exact ⟨_,_,_,_,rfl,st,hb⟩
    · refine isTrue_and (H.run (G.less (Nat.le_succ _)) h1 hr (fun v σ₁ hk => ?_) (fun v b σ₁ s₁ μ₁ ρ₁ hk hb G₁ st => ?_) fun _ _ h => h)
      · split at hk
        · rename_i t ht'; exact ⟨t,ht'⟩
        · first | obtain rfl:=oi hk | exact n0 hk | exact n1 hk | cases hk
      · rw [hb] at hk
        first | obtain rfl:=oi b | exact n0 b | exact n1 b | cases b
        · simp at hk
          subst hk
          exact ⟨_,_,_,_,rfl,st,hb⟩
        · exact wpAny_mono (HB h2 hk htr G₁ pos whole) (fun _ _ ⟨v,σ',μ',ρ',a,b,d⟩=>⟨v,σ',μ',ρ',a,st.trans b,d⟩) fun _ _ h=>h.up st fun _ _ z=>z
theorem s_ite {t a b:X} {p:Pos} (HT:ST c n) (H:SX c n) (G:Go c (n + 1) A f fs s μ ρ σ nm sc fr) (ht:trX c nm sc m (.ite t a b p)=some e) (hr:exX c.T (n + 1) (.ite t a b p) fr σ=some r):wpAny (model c.prog c.w) A (eval e f.env) (PX c (f :: fs) s μ ρ r) (EX c (f :: fs) s μ ρ r) s:=by
  cases m with
  | zero=>exact Mine.n0 ht
  | succ m =>
    obtain ⟨e1,h1,hz_⟩:=bI ht; clear ht; rename _=>ht
    obtain ⟨e2,h2,hz_⟩:=bI ht; clear ht; rename _=>ht
    obtain ⟨e3,h3,hz_⟩:=bI ht; clear ht; rename _=>ht
    first | obtain rfl:=oi ht | exact n0 ht | exact n1 ht | cases ht
    refine wpAny_IfExp (HT.run (G.less (Nat.le_succ _)) h1 hr (fun v σ₁ hk => ?_) (fun v b' σ₁ s₁ μ₁ ρ₁ hk hb G₁ st => ?_) fun _ _ h=>h)
    · cases q : truthy σ₁ v with
      | none=>rw [q] at hk; cases hk
      | some b=>exact ⟨b,q⟩
    · rw [hb] at hk
      first | obtain rfl:=oi b' | exact n0 b' | exact n1 b' | cases b'
      · exact wpAny_mono (H h3 hk G₁) (fun _ _ ⟨v,σ',μ',ρ',a,b,d⟩=>⟨v,σ',μ',ρ',a,st.trans b,d⟩) fun _ _ h=>h.up st fun _ _ z=>z
      · exact wpAny_mono (H h2 hk G₁) (fun _ _ ⟨v,σ',μ',ρ',a,b,d⟩=>⟨v,σ',μ',ρ',a,st.trans b,d⟩) fun _ _ h=>h.up st fun _ _ z=>z
theorem t_ite {t a b:X} {p:Pos} (HT:ST c n) (G:Go c (n + 1) A f fs s μ ρ σ nm sc fr) (ht:trX c nm sc m (.ite t a b p)=some e) (hr:exX c.T (n + 1) (.ite t a b p) fr σ=some r) (htr : ∀ v σ',r = .ok v σ'→Tru σ' v):wpAny (model c.prog c.w) A (PySem.isTrue e f.env (eval e f.env)) (PT c (f :: fs) s μ ρ r) (EX c (f :: fs) s μ ρ r) s:=by
  cases m with
  | zero=>exact Mine.n0 ht
  | succ m =>
    obtain ⟨e1,h1,hz_⟩:=bI ht; clear ht; rename _=>ht
    obtain ⟨e2,h2,hz_⟩:=bI ht; clear ht; rename _=>ht
    obtain ⟨e3,h3,hz_⟩:=bI ht; clear ht; rename _=>ht
    first | obtain rfl:=oi ht | exact n0 ht | exact n1 ht | cases ht
    refine isTrue_IfExp (HT.run (G.less (Nat.le_succ _)) h1 hr (fun v σ₁ hk => ?_) (fun v b' σ₁ s₁ μ₁ ρ₁ hk hb G₁ st => ?_) fun _ _ h=>h)
    · cases q : truthy σ₁ v with
      | none=>rw [q] at hk; cases hk
      | some b=>exact ⟨b,q⟩
    · rw [hb] at hk
      first | obtain rfl:=oi b' | exact n0 b' | exact n1 b' | cases b'
      · exact wpAny_mono (HT h3 hk htr G₁) (fun _ _ ⟨v,σ',μ',ρ',a,b,d⟩=>⟨v,σ',μ',ρ',a,st.trans b,d⟩) fun _ _ h=>h.up st fun _ _ z=>z
      · exact wpAny_mono (HT h2 hk htr G₁) (fun _ _ ⟨v,σ',μ',ρ',a,b,d⟩=>⟨v,σ',μ',ρ',a,st.trans b,d⟩) fun _ _ h=>h.up st fun _ _ z=>z
end
end Mine
end
section
set_option tactic.hygienic false
namespace Mine
open PySem PySem.W PySem.Spec PySem.Calls PyProof.Rows PyProof.V

theorem sS_inj {a b:CS}:(sS a=sS b)↔a=b:=by
  constructor
  · intro h
    have:=congrArg (fun s=>s.cps.toList) h
    simpa [sS] using this
  · rintro rfl; rfl
inductive Flt:V→PyData→Prop where
  | none:Flt .none .none
  | int {i}:Flt (.int i) (.int i)
  | str {l}:(l.all fun c=>decide (c < 1114112))=true→Flt (.str l) (.str (sS l))
inductive L2 (R:V→PyData→Prop):List V→List PyData→Prop where
  | nil:L2 R [] []
  | cons {v d l ds}:R v d→L2 R l ds→L2 R (v :: l) (d :: ds)
inductive TupD (R:V→PyData→Prop):V→PyData→Prop where
  | flt {v d}:Flt v d→TupD R v d
  | tup {l ds}:L2 R l ds→TupD R (.tup l) (.tuple ds)
noncomputable def Dat:Nat→V→PyData→Prop
  | 0=>Flt
  | n + 1=>TupD (Dat n)
theorem flt_of {v:V} (h:flatB v=true) : ∃ d,Flt v d:=by
  cases v with
  | none=>exact ⟨_, .none⟩
  | int i=>exact ⟨_, .int⟩
  | str l=>exact ⟨_, .str h⟩
  | _=>exact Bool.noConfusion h
theorem dat_of (n : Nat) : ∀ {v : V}, isDataN n v = true → ∃ d, Dat n v d := by
  induction n with
  | zero=>exact flt_of
  | succ n ih =>
    have f : ∀ {v:V},flatB v=true → ∃ d,Dat (n + 1) v d:=fun h=>(flt_of h).elim fun d h=>⟨d, .flt h⟩
    intro v h
    cases v with
    | tup l =>
      have go : ∀ {l:List V},l.all (isDataN n)=true → ∃ ds,L2 (Dat n) l ds:=by
        intro l h
        induction l with
        | nil=>exact ⟨_, .nil⟩
        | cons v l il =>
          obtain ⟨a,b⟩:=Bool.and_eq_true_iff.mp h
          obtain ⟨d,hd⟩:=ih a
          obtain ⟨ds,hds⟩:=il b
          exact ⟨_, .cons hd hds⟩
      obtain ⟨ds,hds⟩:=go h
      exact ⟨_, .tup hds⟩
    | _=>exact f h
section
variable {c:Cx} {h:Heap} {μ:Addr→Prop} {ρ:List (Addr × Addr)}
theorem Flt.reads {v:V} {d:PyData} {x:Value} (f:Flt v d) (r:VRep c h μ ρ v x) : ∃ as,Reads h x d as:=by
  cases f with
  | none=>obtain rfl:=r.none_; exact ⟨_,Reads.none⟩
  | int=>obtain ⟨_,rfl⟩:=r.int_; exact ⟨_,Reads.int _ _⟩
  | str=>obtain ⟨_,rfl⟩:=r.str_; exact ⟨_,Reads.str _ _⟩
theorem Dat.reads (n : Nat) : ∀ {v : V} {d : PyData} {x : Value}, Dat n v d → VRep c h μ ρ v x → ∃ as, Reads h x d as := by
  induction n with
  | zero=>exact Flt.reads
  | succ n ih =>
    intro v d x f r
    cases f with
    | flt f=>exact f.reads r
    | tup f =>
      obtain ⟨xs,a,k,rfl,e,_,vs⟩:=r.tup_
      have go : ∀ {l:List V} {ds:List PyData},L2 (Dat n) l ds → ∀ {xs:List Value},VReps c h μ ρ l xs → ∃ as,ReadsAll h xs ds as:=by
        intro l ds H
        induction H with
        | nil=>intro xs vs; obtain rfl:=vs.nil_; exact ⟨_,ReadsAll.nil⟩
        | cons a _ il =>
          intro xs vs
          obtain ⟨_,_,rfl,p,q⟩:=vs.cons_
          obtain ⟨as,ra⟩:=ih a p
          obtain ⟨bs,rb⟩:=il q
          exact ⟨_,ReadsAll.cons ra rb⟩
      obtain ⟨as,ra⟩:=go f vs
      exact ⟨as,reads_tuple_at e rfl rfl ra⟩
end
theorem Flt.shape {v:V} {d:PyData} (f:Flt v d):d.canLay0=true∧d.depth=0:=by
  cases f with
  | none=>exact ⟨rfl,rfl⟩
  | int=>exact ⟨rfl,rfl⟩
  | str h=>exact ⟨by simpa [PyData.canLay0,PyData.strOk,sS] using h,rfl⟩
theorem Dat.shape (n : Nat) : ∀ {v : V} {d : PyData}, Dat n v d → d.canLay0 = true ∧ d.depth ≤ n := by
  induction n with
  | zero=>exact fun f=>⟨(Flt.shape f).1,Nat.le_of_eq (Flt.shape f).2⟩
  | succ n ih =>
    intro v d f
    cases f with
    | flt f=>exact ⟨f.shape.1,f.shape.2 ▸ Nat.zero_le _⟩
    | tup f =>
      have go : ∀ {l:List V} {ds:List PyData},L2 (Dat n) l ds→PyData.canLayAll0 ds=true∧PyData.depthAll ds≤n:=by
        intro l ds H
        induction H with
        | nil=>exact ⟨rfl,Nat.zero_le _⟩
        | cons a _ il=>exact ⟨Bool.and_eq_true_iff.mpr ⟨(ih a).1,il.1⟩,Nat.max_le.mpr ⟨(ih a).2,il.2⟩⟩
      exact ⟨(go f).1,Nat.succ_le_succ (go f).2⟩
theorem Flt.eqv {v u:V} {d e:PyData} (f:Flt v d) (g:Flt u e):PyData.eqv d e=veq v u:=by
  cases f with
  | none=>cases g <;> rfl
  | int => cases g with
    | int=>exact Bool.beq_eq_decide_eq _ _
    | _=>rfl
  | str => cases g with
    | str =>
      refine (Bool.beq_eq_decide_eq _ _).trans ?_
      exact decide_eq_decide.mpr sS_inj
    | _=>rfl
theorem Dat.eqv (n : Nat) : ∀ {v u : V} {d e : PyData}, Dat n v d → Dat n u e → PyData.eqv d e = veq v u := by
  induction n with
  | zero=>exact Flt.eqv
  | succ n ih =>
    intro v u d e f g
    cases f with
    | flt f => cases g with
      | flt g=>exact f.eqv g
      | tup g=>cases f <;> rfl
    | tup f => cases g with
      | flt g=>cases g <;> rfl
      | tup g =>
        have go : ∀ {l:List V} {ds:List PyData},L2 (Dat n) l ds → ∀ {r:List V} {es:List PyData},L2 (Dat n) r es→PyData.eqvAll ds es=veqL l r:=by
          intro l ds H
          induction H with
          | nil=>intro r es H; cases H <;> rfl
          | cons a _ il => intro r es H; cases H with
            | nil=>rfl
            | cons b q =>
              show (PyData.eqv _ _ && PyData.eqvAll _ _)=(veq _ _ && veqL _ _)
              rw [ih a b,il q]
        exact go f g
theorem isPre_iff : ∀ (a b:CS),isPre a b=true↔b.take a.length=a
  | [],b=>by simp [isPre]
  | _ :: _,[]=>by simp [isPre]
  | x :: a, y :: b => by
    simp only [isPre,Bool.and_eq_true,decide_eq_true_eq,isPre_iff a b,List.length_cons,List.take_succ_cons,List.cons.injEq]
    exact ⟨fun h=>⟨h.1.symm,h.2⟩,fun h=>⟨h.1.symm,h.2⟩⟩
theorem isSub_iff (a : CS) : ∀ b : CS, isSub a b = true ↔ ∃ i, i + a.length ≤ b.length ∧ (b.drop i).take a.length = a
  | [] => by
    simp only [isSub,List.isEmpty_iff]
    constructor
    · rintro rfl; exact ⟨0,by simp⟩
    · rintro ⟨i, h, _⟩
      simp at h
      exact h.2
  | y :: b => by
    simp only [isSub,Bool.or_eq_true,isPre_iff,isSub_iff a b]
    constructor
    · rintro (h | ⟨i, h1, h2⟩)
      · refine ⟨0, ?_, by simpa using h⟩
        have:=congrArg List.length h
        rw [List.length_take] at this
        omega
      · exact ⟨i + 1,by rw [List.length_cons]; omega,by simpa using h2⟩
    · rintro ⟨i, h1, h2⟩
      cases i with
      | zero=>exact .inl (by simpa using h2)
      | succ i=>exact .inr ⟨i,by rw [List.length_cons] at h1; omega,by simpa using h2⟩
theorem in_sub (a b:CS):(!(Builtin.Str.occurrences (sS b) (sS a) 0 (sS b).length 1).isEmpty)=isSub a b:=by
  rw [Bool.eq_iff_iff]
  refine (StrLaws.found_iff (sS b) (sS a)).trans ?_
  rw [isSub_iff]
  simp only [sS_len,StrLaws.subAt_eq,toList_sS,beq_iff_eq]
end Mine
end
section
set_option tactic.hygienic false
namespace Mine
open PySem PySem.W PySem.Spec PySem.Calls PyProof.Rows PyProof.V

theorem strs_are {c : Cx} {h : Heap} {μ : Addr → Prop} {ρ : List (Addr × Addr)} : ∀ (l : List V) {xs : List Value} {ys : List CS}, strsV l = some ys → VReps c h μ ρ l xs → StrsAre xs (ys.map sS) := by
  intro l
  induction l with
  | nil=>intro xs ys e r; cases e; cases r; exact .nil
  | cons v vs ih =>
    intro xs ys e r
    cases r with
    | cons a b =>
      cases v with
      | str s =>
        simp only [strsV,Option.map_eq_some_iff] at e
        obtain ⟨zs,hz,rfl⟩:=e
        cases a with
        | str _ t=>exact StrsAre.cons _ _ (ih hz b)
      | _=>cases e
theorem any_sS (x:CS) : ∀ ys:List CS,((ys.map sS).any fun y=>y == sS x)=ys.contains x
  | []=>rfl
  | y :: ys => by
    have e:(sS y == sS x)=(x == y):=by
      rw [Bool.eq_iff_iff,beq_iff_eq,beq_iff_eq,sS_inj]
      exact eq_comm
    rw [List.map_cons,List.any_cons,any_sS x ys,List.contains_cons,e]
theorem look_isSome {x:CS} {ks:List CS} {vs:List V} {ds:List (PyData × PyData)} (D:DRep ks vs ds):(Spec.lookup (.str (sS x)) ds).isSome=ks.contains x:=by
  induction D with
  | nil=>rfl
  | @cons k _ _ _ _ _ _ _ ih =>
    rw [Spec.lookup,List.contains_cons]
    have e:Spec.same (PyData.str (sS k)) (.str (sS x))=(x == k):=by
      rw [PyProof.V.same_str,Bool.eq_iff_iff,decide_eq_true_iff,beq_iff_eq,sS_inj]
      exact eq_comm
    rw [e]
    cases x == k with
    | true=>rfl
    | false=>exact ih
inductive InI:V→V→Bool→Prop where
  | tup {x l ys}:strsV l=some ys→InI (.str x) (.tup l) (ys.contains x)
  | dct {x ks vs}:InI (.str x) (.dct ks vs) (ks.contains x)
  | str {x y}:InI (.str x) (.str y) (isSub x y)
theorem isIn_inv {a b:V} {t:Bool} (h:isIn a b=some t):InI a b t:=by
  cases a with
  | str x =>
    cases b with
    | tup l=>obtain ⟨ys,hy,rfl⟩:=mI h; exact .tup hy
    | dct ks vs=>obtain rfl:=oi h; exact .dct
    | str y=>obtain rfl:=oi h; exact .str
    | _=>exact n0 h
  | _=>exact n0 h
section
variable {c:Cx} {n m:Nat} {A:Around} {f:FrI} {fs:List FrI} {s:Shared} {μ:Addr→Prop} {ρ:List (Addr × Addr)} {σ:List Cell} {nm:List Str} {sc:Scope} {fr:List (Option V)} {e:Expr} {r:R V}
theorem Go.isIn (G:Go c n A f fs s μ ρ σ nm sc fr) {a b:V} {x y:Value} {t:Bool} (ra:VRep c s.heap μ ρ a x) (rb:VRep c s.heap μ ρ b y) (h:isIn a b=some t) {Q E:Value→Shared→Prop}
    (k : ∀ tk,Q (.bool t) { s with toks:=tk }):wpAny (model c.prog c.w) A (compareOp .In x y) Q E s:=by
  cases isIn_inv h with
  | tup hy =>
    obtain ⟨_,rfl⟩:=ra.str_
    obtain ⟨_,_,_,rfl,e,nn,vs⟩:=rb.tup_
    exact in_tuple_strs (items:=_) ⟨_,e,rfl,_,rfl⟩ (strs_are _ hy vs) (by rw [any_sS]; exact k s.toks)
  | dct =>
    obtain ⟨_,rfl⟩:=ra.str_
    cases rb with
    | dct e d fl lo nn h1 =>
      refine in_strTab (D:=_) ⟨lo,_,Heap.dictOf_iff.mpr ⟨_,e,d⟩,fl⟩ ?_
      rw [look_isSome h1]
      exact k _
  | str =>
    obtain ⟨_,rfl⟩:=ra.str_
    obtain ⟨_,rfl⟩:=rb.str_
    exact in_str (by rw [in_sub]; exact k s.toks)
theorem ii_ {a b:V} {g:Int→Int→Bool} {t:Bool} (h:(match a,b with | .int x, .int y=>some (g x y) | _,_=>none)=some t) : ∃ x y,a = .int x∧b = .int y∧g x y=t:=by
  cases a with
  | int x => cases b with
    | int y=>exact ⟨x,y,rfl,rfl,oi h⟩
    | _=>exact n0 h
  | _=>exact n0 h
theorem le_ {a b:V} {t:Bool} (h:cmpV .LtE a b=some t):(∃ x y,a = .int x∧b = .int y∧decide (x≤y)=t) ∨ ∃ x y,a = .str x∧b = .str y∧cle x y=t:=by
  cases a with
  | int x => cases b with
    | int y=>exact .inl ⟨x,y,rfl,rfl,oi h⟩
    | _=>exact n0 h
  | str x => cases b with
    | str y=>exact .inr ⟨x,y,rfl,rfl,oi h⟩
    | _=>exact n0 h
  | _=>exact n0 h
theorem is_ {α:Type} {b:V} {q t:α} (h:(match b with | .none=>some q | _=>none)=some t):b = .none∧q=t:=by
  cases b with
  | none=>exact ⟨rfl,oi h⟩
  | _=>exact n0 h
theorem shape_ok {a:V} {d:PyData} (h:Dat 40 a d):PySem.SeqAt.shaped d=true:=Bool.and_eq_true_iff.mpr ⟨(Dat.shape 40 h).1,decide_eq_true (Nat.le_trans (Dat.shape 40 h).2 (by decide))⟩
theorem Go.cmp (G:Go c n A f fs s μ ρ σ nm sc fr) {op:CmpOp} {a b:V} {x y:Value} {t:Bool} (ra:VRep c s.heap μ ρ a x) (rb:VRep c s.heap μ ρ b y) (h:cmpV op a b=some t) {Q E:Value→Shared→Prop}
    (k : ∀ tk,Q (.bool t) { s with toks:=tk }):wpAny (model c.prog c.w) A (compareOp op x y) Q E s:=by
  have hu:A.units + 64 < cLine:=by have:=G.u; omega
  cases op with
  | Eq =>
    obtain ⟨hd,ht⟩:=ifI (show (if isData a && isData b then some (veq a b) else none)=some t from h)
    obtain ⟨d1,d2⟩:=Bool.and_eq_true_iff.mp hd
    obtain ⟨_,d1⟩:=dat_of 40 d1
    obtain ⟨_,d2⟩:=dat_of 40 d2
    obtain ⟨as,r1⟩:=Dat.reads 40 d1 ra
    obtain ⟨bs,r2⟩:=Dat.reads 40 d2 rb
    refine eq_dataH r1 r2 (shape_ok d1) (shape_ok d2) hu ?_
    rw [Dat.eqv 40 d1 d2,ht]
    exact k s.toks
  | NotEq =>
    obtain ⟨hd,ht⟩:=ifI (show (if isData a && isData b then some (!veq a b) else none)=some t from h)
    obtain ⟨d1,d2⟩:=Bool.and_eq_true_iff.mp hd
    obtain ⟨_,d1⟩:=dat_of 40 d1
    obtain ⟨_,d2⟩:=dat_of 40 d2
    obtain ⟨as,r1⟩:=Dat.reads 40 d1 ra
    obtain ⟨bs,r2⟩:=Dat.reads 40 d2 rb
    refine ne_dataH r1 r2 (shape_ok d1) (shape_ok d2) hu ?_
    rw [Dat.eqv 40 d1 d2,ht]
    exact k s.toks
  | Lt =>
    obtain ⟨u,v,rfl,rfl,rfl⟩:=ii_ (g:=fun x y=>decide (x < y)) h
    obtain ⟨_,rfl⟩:=ra.int_
    obtain ⟨_,rfl⟩:=rb.int_
    exact PyProof.Rows.lt_int (k s.toks)
  | LtE =>
    rcases le_ h with ⟨u,v,rfl,rfl,rfl⟩ | ⟨u,v,rfl,rfl,rfl⟩
    · obtain ⟨_, rfl⟩ := ra.int_
      obtain ⟨_,rfl⟩:=rb.int_
      exact PyProof.Rows.le_int (k s.toks)
    · obtain ⟨_, rfl⟩ := ra.str_
      obtain ⟨_,rfl⟩:=rb.str_
      refine PySem.P.le_str ?_
      rw [toList_sS,toList_sS]
      exact k s.toks
  | Gt =>
    obtain ⟨u,v,rfl,rfl,rfl⟩:=ii_ (g:=fun x y=>decide (y < x)) h
    obtain ⟨_,rfl⟩:=ra.int_
    obtain ⟨_,rfl⟩:=rb.int_
    exact PyProof.Rows.gt_int (k s.toks)
  | GtE =>
    obtain ⟨u,v,rfl,rfl,rfl⟩:=ii_ (g:=fun x y=>decide (y≤x)) h
    obtain ⟨_,rfl⟩:=ra.int_
    obtain ⟨_,rfl⟩:=rb.int_
    have:=k s.toks
    exact PySem.P.ge_int this
  | Is =>
    obtain ⟨rfl,rfl⟩:=is_ h
    obtain rfl:=rb.none_
    rcases ra.isN with ⟨rfl,e⟩ | ⟨hn,e,hp⟩
    · rw [e] at k; exact wpAny_is_self rfl (k s.toks)
    · rw [e] at k; exact wpAny_is_other hp hn (k s.toks)
  | IsNot =>
    obtain ⟨rfl,rfl⟩:=is_ h
    obtain rfl:=rb.none_
    rcases ra.isN with ⟨rfl,e⟩ | ⟨hn,e,hp⟩
    · rw [e] at k; exact wpAny_isNot_self rfl (k s.toks)
    · rw [e] at k; exact wpAny_isNot_other hp hn (k s.toks)
  | In=>exact G.isIn ra rb h k
  | NotIn =>
    obtain ⟨t',h',rfl⟩:=mI (show (Mine.isIn a b).map (!·)=some t from h)
    clear h
    have h2:wpAny (model c.prog c.w) A (compareOp .In x y) (fun v s'=>v = .bool t' ∧ ∃ tk,s'={ s with toks:=tk }) E s:=G.isIn ra rb h' fun tk=>⟨rfl,tk,rfl⟩
    refine wpAny_bind (m:=contains y x) (fun Γ p hΓ => ?_)
    have h3:=h2 Γ p hΓ
    rw [show compareOp .In x y=(contains y x >>= fun b=>pure (Value.bool b)) from rfl,Sem.wp_bind'] at h3
    refine Sem.wp_mono _ Γ _ (fun b p' s' hb => ?_) (fun _ _ _ z=>z) _ _ h3
    obtain ⟨hb,tk,rfl⟩:Value.bool b = .bool t' ∧ ∃ tk,s'={ s with toks:=tk }:=hb
    first | obtain rfl:=oi hb | exact n0 hb | exact n1 hb | cases hb
    exact wpAny_pure (k tk)
theorem s_cmp {l y:X} {op:CmpOp} {p:Pos} (H:SX c n) (G:Go c (n + 1) A f fs s μ ρ σ nm sc fr) (ht:trX c nm sc m (.cmp l op y p)=some e) (hr:exX c.T (n + 1) (.cmp l op y p) fr σ=some r):wpAny (model c.prog c.w) A (eval e f.env) (PX c (f :: fs) s μ ρ r) (EX c (f :: fs) s μ ρ r) s:=by
  cases m with
  | zero=>exact Mine.n0 ht
  | succ m =>
    obtain ⟨e1,h1,hz_⟩:=bI ht; clear ht; rename _=>ht
    obtain ⟨e2,h2,hz_⟩:=bI ht; clear ht; rename _=>ht
    split at ht
    · first | obtain rfl:=oi ht | exact n0 ht | exact n1 ht | cases ht
    · rename_i hm
      first | obtain rfl:=oi ht | exact n0 ht | exact n1 ht | cases ht
      refine wpAny_Compare1 (H.run (G.less (Nat.le_succ _)) h1 hr (fun v σ₁ y₁ s₁ μ₁ ρ₁ hk G₁ st rep => ?_) fun _ _ h=>h) (by simpa using hm)
      refine H.run G₁ h2 hk (fun w σ₂ y₂ s₂ μ₂ ρ₂ hk G₂ st' rep' => ?_) fun _ _ h=>h.up st fun _ _ z=>z
      obtain ⟨z,hz,rfl⟩:=lif_some hk
      simp only [Option.map_eq_some_iff] at hz
      obtain ⟨b,hb,rfl⟩:=hz
      exact G₂.cmp (st'.up rep) rep' hb fun tk=>⟨_,_,_,_,rfl,(st.trans st').then, .bool _⟩
theorem t_cmp {l y:X} {op:CmpOp} {p:Pos} (H:SX c n) (G:Go c (n + 1) A f fs s μ ρ σ nm sc fr) (ht:trX c nm sc m (.cmp l op y p)=some e) (hr:exX c.T (n + 1) (.cmp l op y p) fr σ=some r):wpAny (model c.prog c.w) A (PySem.isTrue e f.env (eval e f.env)) (PT c (f :: fs) s μ ρ r) (EX c (f :: fs) s μ ρ r) s:=by
  cases m with
  | zero=>exact Mine.n0 ht
  | succ m =>
    obtain ⟨e1,h1,hz_⟩:=bI ht; clear ht; rename _=>ht
    obtain ⟨e2,h2,hz_⟩:=bI ht; clear ht; rename _=>ht
    split at ht
    · first | obtain rfl:=oi ht | exact n0 ht | exact n1 ht | cases ht
    · rename_i hm
      first | obtain rfl:=oi ht | exact n0 ht | exact n1 ht | cases ht
      refine wpAny_isTrue_Compare1 (H.run (G.less (Nat.le_succ _)) h1 hr (fun v σ₁ y₁ s₁ μ₁ ρ₁ hk G₁ st rep => ?_) fun _ _ h=>h) (by simpa using hm)
      refine H.run G₁ h2 hk (fun w σ₂ y₂ s₂ μ₂ ρ₂ hk G₂ st' rep' => ?_) fun _ _ h=>h.up st fun _ _ z=>z
      obtain ⟨z,hz,rfl⟩:=lif_some hk
      simp only [Option.map_eq_some_iff] at hz
      obtain ⟨b,hb,rfl⟩:=hz
      exact G₂.cmp (st'.up rep) rep' hb fun tk=>wpAny_truthy_bool ⟨_,_,_,_,rfl,(st.trans st').then,rfl⟩
theorem s_cmp2 {l k y : X} {op op2 : CmpOp} {p : Pos} (H : SX c n) (G : Go c (n + 1) A f fs s μ ρ σ nm sc fr) (ht : trX c nm sc m (.cmp2 l op k op2 y p) = some e) (hr : exX c.T (n + 1) (.cmp2 l op k op2 y p) fr σ = some r) : wpAny (model c.prog c.w) A (eval e f.env) (PX c (f :: fs) s μ ρ r) (EX c (f :: fs) s μ ρ r) s := by
  cases m with
  | zero=>exact Mine.n0 ht
  | succ m =>
    obtain ⟨e1,h1,hz_⟩:=bI ht; clear ht; rename _=>ht
    obtain ⟨e2,h2,hz_⟩:=bI ht; clear ht; rename _=>ht
    obtain ⟨e3,h3,hz_⟩:=bI ht; clear ht; rename _=>ht
    split at ht
    · first | obtain rfl:=oi ht | exact n0 ht | exact n1 ht | cases ht
    · rename_i hm
      first | obtain rfl:=oi ht | exact n0 ht | exact n1 ht | cases ht
      refine Compare_chain (H.run (G.less (Nat.le_succ _)) h1 hr (fun v σ₁ y₁ s₁ μ₁ ρ₁ hk G₁ st rep => ?_) fun _ _ h=>h) (by simpa using hm)
      refine chain_link (H.run G₁ h2 hk (fun w σ₂ y₂ s₂ μ₂ ρ₂ hk G₂ st' rep' => ?_) fun _ _ h=>h.up st fun _ _ z=>z)
      split at hk
      · rename_i hb
        refine G₂.cmp (st'.up rep) rep' hb fun tk=>wpAny_truthy_bool ?_
        rw [if_pos rfl]
        have st2:=(st.trans st').then (tk:=tk)
        have G₃:=G₂.next (.toks G₂.inv (tk:=tk))
        refine chain_last (H.run G₃ h3 hk (fun u σ₄ y₄ s₄ μ₄ ρ₄ hk G₄ st4 rep4 => ?_) fun _ _ h=>h.up st2 fun _ _ z=>z)
        obtain ⟨z,hz,rfl⟩:=lif_some hk
        simp only [Option.map_eq_some_iff] at hz
        obtain ⟨b,hb,rfl⟩:=hz
        exact G₄.cmp (st4.up rep') rep4 hb fun tk=>⟨_,_,_,_,rfl,(st2.trans st4).then, .bool _⟩
      · rename_i hb
        first | obtain rfl:=oi hk | exact n0 hk | exact n1 hk | cases hk
        refine G₂.cmp (st'.up rep) rep' hb fun tk=>wpAny_truthy_bool ?_
        exact ⟨_,_,_,_,rfl,(st.trans st').then, .bool _⟩
      · first | obtain rfl:=oi hk | exact n0 hk | exact n1 hk | cases hk
theorem t_plain {x:X} (H:wpAny (model c.prog c.w) A (eval e f.env) (PX c (f :: fs) s μ ρ r) (EX c (f :: fs) s μ ρ r) s) (G:Go c n A f fs s μ ρ σ nm sc fr) (htr : ∀ v σ',r = .ok v σ'→Tru σ' v)
    (hw:PySem.isTrue e f.env (eval e f.env)=(do let v ← eval e f.env; standAt e.pos; holding [v] (PySem.truthy v))):wpAny (model c.prog c.w) A (PySem.isTrue e f.env (eval e f.env)) (PT c (f :: fs) s μ ρ r) (EX c (f :: fs) s μ ρ r) s:=by
  rw [hw]
  refine wpAny_bind (wpAny_mono H (fun y s₁ h => ?_) fun _ _ h=>h)
  obtain ⟨v,σ',μ',ρ',rfl,st,rep⟩:=h
  obtain ⟨b,hb⟩:=htr _ _ rfl
  exact wpAny_bind (wpAny_standAt (wpAny_holding ((G.next st).truth rep hb fun s' st' _=>⟨_,_,_,_,rfl,st.trans st',hb⟩)))
theorem star_cons {env:Env} {es:List Expr} (h : ∀ v p,e ≠ .Starred v p):starEach (e :: es) env=(false,eval e env) :: starEach es env:=by
  cases e <;> first | rfl | exact absurd rfl (h _ _)
theorem sxs_step (H:SX c n) (HS:SXs c n):SXs c (n + 1):=by
  intro m nm sc xs es ht fr σ r hr A f fs s μ ρ G pos
  match xs with
  | [] =>
    obtain rfl:=trXs_nil ht
    first | obtain rfl:=oi hr | exact n0 hr | exact n1 hr | cases hr
    exact fun _ _ _=>⟨_,_,_,_,rfl, .refl G.inv, .nil⟩
  | x :: l =>
    obtain ⟨m',e,es',rfl,h1,h2,rfl,hne⟩:=trXs_cons ht
    rw [star_cons hne]
    refine spliced_cons (H.run (G.less (Nat.le_succ _)) h1 hr (fun v σ₁ y₁ s₁ μ₁ ρ₁ hk G₁ st rep => ?_) fun _ _ h=>h)
    refine HS.run G₁ h2 hk (fun vs σ₂ ys s₂ μ₂ ρ₂ hk G₂ st' rep' => ?_) fun _ _ h=>h.up st fun _ _ z=>z
    first | obtain rfl:=oi hk | exact n0 hk | exact n1 hk | cases hk
    exact ⟨_,_,_,_,rfl,st.trans st', .cons (st'.up rep) rep'⟩
end
end Mine
end
section
set_option tactic.hygienic false
namespace Mine
open PySem PySem.W PySem.Spec PySem.Calls PyProof.Rows PyProof.V

theorem CellsAt.mem {c:Cx} {h:Heap} {μ:Addr→Prop} {ρ₀:List (Addr × Addr)} : ∀ {ρ:List (Addr × Addr)} {σ:List Cell},CellsAt c h μ ρ₀ ρ σ → ∀ p ∈ ρ,μ p.2:=fun H=>H.ind (P:=fun ρ _ => ∀ p ∈ ρ,μ p.2) (fun _ z=>(List.not_mem_nil z).elim) fun a b ih p hp=>by
    rcases List.mem_cons.mp hp with rfl | hp
    · cases a with
      | inst _ _ _ _ _ m _=>exact m
      | list _ m _=>exact m
      | exc _ _ _ _ _ _ m _ _ _=>exact m
      | new _ _ _ _ _ _ m _ _ _ _=>exact m
    · exact ih p hp
theorem Inv.track {c:Cx} {fs:List FrI} {μ:Addr→Prop} {ρ:List (Addr × Addr)} {σ:List Cell} {h:Heap} (I:Inv c fs μ ρ σ h) : ∀ a ∈ fs.map (·.L) ++ (ρ.map (·.2) ++ c.tabs.map (·.2)),μ a:=fun a ha=>by
  rcases List.mem_append.mp ha with ha | ha
  · obtain ⟨f, hf, rfl⟩ := List.mem_map.mp ha
    exact (I.frames f hf).m
  · rcases List.mem_append.mp ha with ha | ha
    · obtain ⟨p, hp, rfl⟩ := List.mem_map.mp ha
      exact I.cells.mem p hp
    · obtain ⟨q, hq, rfl⟩ := List.mem_map.mp ha
      exact (I.tabs q hq).1
abbrev plus (μ:Addr→Prop) (d:Addr):Addr→Prop:=fun a=>μ a ∨ a=d
theorem grow_plus {h h':Heap} {μ:Addr→Prop} {d:Addr} (k : ∀ a o,h.get? a=some o→h'.get? a=some o) (hd:h.objs.size≤d):Grow h μ h' (plus μ d):=fun a o e n =>
  ⟨k a o e,fun q=>q.elim n fun q=>Nat.lt_irrefl _ (Nat.lt_of_lt_of_le (q ▸ Heap.lt_size e) hd)⟩
theorem Inv.cell {c:Cx} {fs:List FrI} {μ:Addr→Prop} {ρ:List (Addr × Addr)} {σ:List Cell} {h h':Heap} (I:Inv c fs μ ρ σ h) (k : ∀ a o,h.get? a=some o→h'.get? a=some o) (sz:h.objs.size≤h'.objs.size) {x d:Addr} {q:Cell}
    (hd:h.objs.size≤d) (hd':d < h'.objs.size) (ca:CellAt c h' (plus μ d) (ρ ++ [(x,d)]) (x,d) q):Inv c fs (plus μ d) (ρ ++ [(x,d)]) (σ ++ [q]) h' where
  base a o e:=⟨k _ _ (I.base a o e).1,fun z=>z.elim (I.base a o e).2 fun z=>Nat.lt_irrefl _ (Nat.lt_of_lt_of_le (z ▸ Heap.lt_size (I.base a o e).1) hd)⟩
  low:=Nat.le_trans I.low sz
  mlt a m:=m.elim (fun m=>Nat.lt_of_lt_of_le (I.mlt a m) sz) fun m=>m ▸ hd'
  frames f hf:=let ⟨a,b,e,n,m,l⟩:=I.frames f hf; ⟨a,b,e,n.keeps k, .inl m,l⟩
  cells:=(I.cells.step (grow_plus k hd) (List.prefix_append _ _) (fun p _ o e=>k _ o e) (fun _ _ m => .inl m)).snoc ca
  nodup:=by
    have hn:d ∉ fs.map (·.L) ++ (ρ.map (·.2) ++ c.tabs.map (·.2)):=fun hm=>Nat.lt_irrefl _ (Nat.lt_of_lt_of_le (I.mlt _ (I.track d hm)) hd)
    have:=I.nodup
    rw [List.map_append,List.append_assoc,List.map_cons,List.map_nil, ← List.append_assoc]
    rw [← List.append_assoc] at this hn
    show ((fs.map (·.L) ++ ρ.map (·.2)) ++ ([d] ++ c.tabs.map (·.2))).Nodup
    rw [List.singleton_append]
    exact (List.perm_middle.nodup_iff).mpr (List.nodup_cons.mpr ⟨hn,this⟩)
  tabs q hq:=⟨.inl (I.tabs q hq).1,(I.tabs q hq).2.step (grow_plus k hd) fun o e=>k _ o e⟩
theorem St.cell {c:Cx} {fs:List FrI} {s:Shared} {μ:Addr→Prop} {ρ:List (Addr × Addr)} {σ:List Cell} {h':Heap} (I:Inv c fs μ ρ σ s.heap) (k : ∀ a o,s.heap.get? a=some o→h'.get? a=some o) (sz:s.heap.objs.size≤h'.objs.size) {x d:Addr} {q:Cell}
    (hd:s.heap.objs.size≤d) (hd':d < h'.objs.size) (ca:CellAt c h' (plus μ d) (ρ ++ [(x,d)]) (x,d) q) {tk:Nat}:St c fs s μ ρ (σ ++ [q]) { s with heap:=h',toks:=tk } (plus μ d) (ρ ++ [(x,d)]) :=
  ⟨I.cell k sz hd hd' ca,grow_plus k hd,List.prefix_append _ _,rfl,rfl⟩
theorem Inv.len {c:Cx} {fs:List FrI} {μ:Addr→Prop} {ρ:List (Addr × Addr)} {σ:List Cell} {h:Heap} (I:Inv c fs μ ρ σ h):ρ.length=σ.length:=I.cells.len

section
variable {c:Cx} {n m:Nat} {A:Around} {f:FrI} {fs:List FrI} {s:Shared} {μ:Addr→Prop} {ρ:List (Addr × Addr)} {σ:List Cell} {nm:List Str} {sc:Scope} {fr:List (Option V)} {e:Expr} {r:R V}
theorem s_tup {xs:List X} {k:Nat} {p:Pos} (H:SXs c n) (G:Go c (n + 1) A f fs s μ ρ σ nm sc fr) (ht:trX c nm sc m (.tup xs k p)=some e) (hr:exX c.T (n + 1) (.tup xs k p) fr σ=some r):wpAny (model c.prog c.w) A (eval e f.env) (PX c (f :: fs) s μ ρ r) (EX c (f :: fs) s μ ρ r) s:=by
  cases m with
  | zero=>exact Mine.n0 ht
  | succ m =>
    obtain ⟨es,h1,hz_⟩:=bI ht; clear ht; rename _=>ht
    first | obtain rfl:=oi ht | exact n0 ht | exact n1 ht | cases ht
    refine wpAny_Tuple (H.run (G.less (Nat.le_succ _)) h1 hr (fun vs σ₁ ys s₁ μ₁ ρ₁ hk G₁ st rep => ?_) fun _ _ h=>h)
    split at hk
    · rename_i hb
      first | obtain rfl:=oi hk | exact n0 hk | exact n1 hk | cases hk
      have hb:=sml_le hb
      have hl:=rep.len
      exact ⟨by rw [sizeLine_eq]; omega,_,_,_,_,rfl,st.trans (St.push G₁.inv _ (tk:=s₁.toks)),rep_tup (tk:=0) G₁.inv rep⟩
    · first | obtain rfl:=oi hk | exact n0 hk | exact n1 hk | cases hk
theorem s_lst {xs : List X} {p : Pos} (H : SXs c n) (G : Go c (n + 1) A f fs s μ ρ σ nm sc fr) (ht : trX c nm sc m (.lst xs p) = some e) (hr : exX c.T (n + 1) (.lst xs p) fr σ = some r) : wpAny (model c.prog c.w) A (eval e f.env) (PX c (f :: fs) s μ ρ r) (EX c (f :: fs) s μ ρ r) s := by
  cases m with
  | zero=>exact Mine.n0 ht
  | succ m =>
    obtain ⟨es,h1,hz_⟩:=bI ht; clear ht; rename _=>ht
    first | obtain rfl:=oi ht | exact n0 ht | exact n1 ht | cases ht
    refine List_ (H.run (G.less (Nat.le_succ _)) h1 hr (fun vs σ₁ ys s₁ μ₁ ρ₁ hk G₁ st rep => ?_) fun _ _ h=>h)
    split at hk
    · rename_i hb
      first | obtain rfl:=oi hk | exact n0 hk | exact n1 hk | cases hk
      have hb:=sml_le hb
      have hl:=rep.len
      have hl2:ys.length≤1000:=by omega
      refine wpAny_newObj_type ?_ (by show ys.toArray.size≤sizeLine; rw [sizeLine_eq,List.size_toArray]; exact Nat.le_trans hl2 (by decide))
      have hk0 : ∀ a o, s₁.heap.get? a = some o → (s₁.heap.push { cls := .type "list", data := .seq ys.toArray }).get? a = some o := fun _ _ e => Heap.get?_push_of_some _ e
      have ca : CellAt c (s₁.heap.push { cls := .type "list", data := .seq ys.toArray }) (plus μ₁ s₁.heap.objs.size) (ρ₁ ++ [(s₁.heap.objs.size, s₁.heap.objs.size)]) (s₁.heap.objs.size, s₁.heap.objs.size) (.list vs) :=
        .list (n:=0) (xs:=ys.toArray) (Heap.get?_push_size _ rfl) (.inr rfl) (by simpa using rep.mono (grow_plus hk0 (Nat.le_refl _)) (List.prefix_append _ _))
      have hst:=St.cell G₁.inv hk0 (by rw [Heap.size_push]; omega) (Nat.le_refl _) (by rw [Heap.size_push]; exact Nat.lt_succ_self _) ca (tk:=s₁.toks)
      refine ⟨_,_,_,_,rfl,st.trans hst, .ref (d:=s₁.heap.objs.size) ?_⟩
      rw [← G₁.inv.len,List.getElem?_append_right (Nat.le_refl _),Nat.sub_self]
      rfl
    · first | obtain rfl:=oi hk | exact n0 hk | exact n1 hk | cases hk
theorem s_lstF {xs:List X} {p:Pos} (H:SXs c n) (G:Go c (n + 1) A f fs s μ ρ σ nm sc fr) (ht:trX c nm sc m (.lstF xs p)=some e) (hr:exX c.T (n + 1) (.lstF xs p) fr σ=some r):wpAny (model c.prog c.w) A (eval e f.env) (PX c (f :: fs) s μ ρ r) (EX c (f :: fs) s μ ρ r) s:=by
  cases m with
  | zero=>exact Mine.n0 ht
  | succ m =>
    obtain ⟨es,h1,hz_⟩:=bI ht; clear ht; rename _=>ht
    first | obtain rfl:=oi ht | exact n0 ht | exact n1 ht | cases ht
    refine List_ (H.run (G.less (Nat.le_succ _)) h1 hr (fun vs σ₁ ys s₁ μ₁ ρ₁ hk G₁ st rep => ?_) fun _ _ h=>h)
    split at hk
    · rename_i hb
      first | obtain rfl:=oi hk | exact n0 hk | exact n1 hk | cases hk
      have hb:=sml_le hb
      have hl:=rep.len
      have hl2:ys.length≤1000:=by omega
      refine wpAny_newObj_type ?_ (by show ys.toArray.size≤sizeLine; rw [sizeLine_eq,List.size_toArray]; exact Nat.le_trans hl2 (by decide))
      exact ⟨_,_,_,_,rfl,st.trans (St.push G₁.inv _ (tk:=s₁.toks)),rep_lst (tk:=0) G₁.inv (by simpa using rep)⟩
    · first | obtain rfl:=oi hk | exact n0 hk | exact n1 hk | cases hk
theorem litO_ {x:X} {w:V} (h:litO x=some w) (hx:trX c nm sc m x=some e) : ∃ d,tabLit e=some d∧flatD w=some d:=by
  cases m with
  | zero=>exact n0 hx
  | succ m =>
    cases x with
    | str l p=>obtain rfl:=oi h; obtain rfl:=oi hx; exact ⟨_,rfl,rfl⟩
    | int i p=>obtain rfl:=oi h; obtain rfl:=oi hx; exact ⟨_,rfl,rfl⟩
    | _=>exact n0 h
theorem strO_c {x:X} {l:CS} (h:strO x=some l) (hx:trX c nm sc m x=some e):tabLit e=some (.str (sS l)):=by
  obtain ⟨p,rfl⟩:=strO_ h
  cases m with
  | zero=>exact n0 hx
  | succ m=>obtain rfl:=oi hx; rfl
theorem lit_cons {k v:Expr} {a b:PyData} {ks vs:List Expr} {D:List (PyData × PyData)} (h1:tabLit k=some a) (h2:tabLit v=some b) (h3:litPairs (ks.map some) vs=some D):litPairs ((k :: ks).map some) (v :: vs)=some ((a,b) :: D):=by
  show ((tabLit k).bind fun a=>(tabLit v).bind fun b=>(litPairs (ks.map some) vs).bind fun r=>some ((a,b) :: r))=_
  rw [h1,h2,h3]; rfl
theorem lits_of {ks:List X} : ∀ {vs:List X} {kl:List CS} {vl:List V} {kes ves:List Expr} {m m':Nat},strL ks=some kl→litL vs=some vl→kl.length=vl.length→trXs c nm sc m ks=some kes→trXs c nm sc m' vs=some ves →
    ∃ D,DRep kl vl D∧litPairs (kes.map some) ves=some D∧kes.length=kl.length∧ves.length=vl.length:=by
  induction ks with
  | nil =>
    intro vs kl vl kes ves m m' hk hv hl h1 h2
    obtain rfl:=oi hk
    obtain rfl:=trXs_nil h1
    cases vs with
    | nil=>obtain rfl:=oi hv; obtain rfl:=trXs_nil h2; exact ⟨[], .nil,rfl,rfl,rfl⟩
    | cons v vs =>
      obtain ⟨w,_,hv⟩:=bI hv
      obtain ⟨ws,_,hv⟩:=bI hv
      obtain rfl:=oi hv
      exact Nat.noConfusion hl
  | cons k ks ih =>
    intro vs kl vl kes ves m m' hk hv hl h1 h2
    obtain ⟨l,hk1,hk⟩:=bI hk
    obtain ⟨ls,hk2,hk⟩:=bI hk
    obtain rfl:=oi hk
    obtain ⟨m1,e,es',rfl,g1,g2,rfl,_⟩:=trXs_cons h1
    cases vs with
    | nil=>obtain rfl:=oi hv; exact Nat.noConfusion hl
    | cons v vs =>
      obtain ⟨w,hv1,hv⟩:=bI hv
      obtain ⟨ws,hv2,hv⟩:=bI hv
      obtain rfl:=oi hv
      obtain ⟨m2,e2,es2,rfl,g3,g4,rfl,_⟩:=trXs_cons h2
      obtain ⟨D,d1,d2,d3,d4⟩:=ih hk2 hv2 (Nat.succ.inj hl) g2 g4
      obtain ⟨d,t1,t2⟩:=litO_ hv1 g3
      exact ⟨_, .cons t2 d1,lit_cons (strO_c hk1 g1) t1 d2,congrArg Nat.succ d3,congrArg Nat.succ d4⟩
theorem DRep.keys {ks:List CS} {vs:List V} {D:List (PyData × PyData)} (h:DRep ks vs D):PyProof.Rows.strKeyed D=true∧strKeysOf D=ks.map sS:=by
  induction h with
  | nil=>exact ⟨rfl,rfl⟩
  | cons _ _ ih=>exact ⟨ih.1,congrArg (sS _ :: ·) ih.2⟩
set_option tactic.hygienic true in theorem s_dct {ks vs:List X} {p:Pos} (G:Go c (n + 1) A f fs s μ ρ σ nm sc fr) (ht:trX c nm sc m (.dct ks vs p)=some e) (hr:exX c.T (n + 1) (.dct ks vs p) fr σ=some r):wpAny (model c.prog c.w) A (eval e f.env) (PX c (f :: fs) s μ ρ r) (EX c (f :: fs) s μ ρ r) s:=by
  cases m with
  | zero=>exact Mine.n0 ht
  | succ m =>
    obtain ⟨kes,h1,hz_⟩:=bI ht; clear ht; rename _=>ht
    obtain ⟨ves,h2,hz_⟩:=bI ht; clear ht; rename _=>ht
    first | obtain rfl:=oi ht | exact n0 ht | exact n1 ht | cases ht
    replace hr:(match strL ks,litL vs with | some ks,some vs=>if ks.length=vs.length∧ks.Nodup∧ks.length≤15 then some (R.ok (V.dct ks vs) σ) else none | _,_=>none)=some r:=hr
    split at hr
    · rename_i kl vl hk hv
      split at hr
      · rename_i hc
        first | obtain rfl:=oi hr | exact n0 hr | exact n1 hr | cases hr
        obtain ⟨D,d5,d1,d6,d7⟩:=lits_of hk hv hc.1 h1 h2
        obtain ⟨d2,d3⟩:=d5.keys
        have low : ∀ a,s.heap.objs.size≤a→(a == sysModules)=false:=fun a ha=>by
          have h1:=modules_low G.bs.T.nolimit
          have h2:=G.inv.low
          exact beq_eq_false_iff_ne.mpr fun q=>Nat.lt_irrefl _ (Nat.lt_of_lt_of_le h1 (Nat.le_trans h2 (q ▸ ha)))
        have fin : ∀ a o h₁ tk,s.heap.objs.size≤a→h₁.get? a=some o→TabObj (PySem.strKind c.prog c.w) PyData.str D o→(∀ b o',s.heap.get? b=some o'→h₁.get? b=some o')→PX c (f :: fs) s μ ρ (.ok (.dct kl vl) σ) (.ref a) { s with heap:=h₁,toks:=tk }:=by
          intro a o h₁ tk ha ho ⟨kvs,hkv,hfl⟩ hkeep
          exact ⟨_,_,_,_,rfl, .keep G.inv hkeep (Nat.le_of_lt (Nat.lt_of_le_of_lt ha (Heap.lt_size ho))), .dct ho hkv hfl (low a ha) (fun hm=>Nat.lt_irrefl _ (Nat.lt_of_lt_of_le (G.inv.mlt a hm) ha)) d5⟩
        by_cases h0:kes=[]
        · subst h0
          have hkl:kl=[]:=List.length_eq_zero_iff.mp (by simpa using d6.symm)
          have hve:ves=[]:=List.length_eq_zero_iff.mp (by rw [d7, ← hc.1,hkl]; rfl)
          subst hve
          simp [litPairs] at d1
          subst d1
          refine wpAny_Dict_empty ?_
          exact fin s.heap.objs.size _ _ s.toks (Nat.le_refl _) (Heap.get?_push_size _ rfl) ⟨[],by
            obtain ⟨o,ho,hd⟩:=Heap.dictOf_iff.mp (Heap.DictOf.new (knd:=PySem.strKind c.prog c.w) s.heap)
            rw [Heap.get?_push_size _ rfl] at ho
            exact (Option.some.inj ho) ▸ hd, .nil⟩ fun b o' e=>Heap.get?_push_of_some _ e
        · refine Dict_lits_str d1 d2 ?_ (by simp) (by rw [List.length_map, d6, d7, hc.1]) (by simpa using h0) (by rw [List.length_map, d6]; exact hc.2.2) fin
          rw [d3]
          exact List.Pairwise.map _ (fun a b h q=>h (sS_inj.mp q)) hc.2.1
      · first | obtain rfl:=oi hr | exact n0 hr | exact n1 hr | cases hr
    · first | obtain rfl:=oi hr | exact n0 hr | exact n1 hr | cases hr
end
end Mine
end
section
set_option tactic.hygienic false
namespace Mine
open PySem PySem.W PySem.Spec PySem.Calls PyProof.Rows PyProof.V

theorem sub_tail {prog:Program} {w:World} {A:Around} {E:Value→Shared→Prop} {s:Shared} {value slice:Expr} {o i:Value} {T id:String} {Q:Value→Shared→Prop} (hT:s.TypeIs o T)
    (hl : typeLookup (.type T) "__getitem__" = pure (some (.builtin id))) (h : wpAny (model prog w) A (getItem o i) Q E s)
    (hs:subscripted slice false o i=operate [o,i] (getItem o i)) :
    wpAny (model prog w) A (subscriptTail value slice o i) Q E s:=by
  unfold subscriptTail
  refine wpAny_bind ?_
  rw [getitemInPython_of_ne hT.not_modules]
  refine wpAny_bind (wpAny_specialOf hT hl ?_)
  have fin:wpAny (model prog w) A (subscripted slice false o i) (fun r s₃=>wpAny (model prog w) A (letTemporaryGo value o r >>= fun _=>pure r) Q E s₃) E s:=by
    rw [hs]
    exact wpAny_operating (wpAny_mono h (fun r s₃ h₃=>wpAny_bind (wpAny_letTemporaryGo (wpAny_pure h₃))) fun _ _ x=>x)
  first
    | exact wpAny_pure (wpAny_bind fin)
    | exact wpAny_bind (wpAny_pure (wpAny_bind fin))
    | exact wpAny_bind fin
theorem flat_rep {c:Cx} {h:Heap} {μ:Addr→Prop} {ρ:List (Addr × Addr)} {v:V} {d:PyData} {x:Value} (hf:flatD v=some d) (hx:Flat x d):VRep c h μ ρ v x:=by
  cases v with
  | int i=>cases hf; obtain ⟨t,rfl⟩:=Flat.int_inv hx; exact .int _ _
  | str l=>cases hf; obtain ⟨t,rfl⟩:=Flat.str_inv hx; exact .str _ _
  | _=>exact n0 hf
set_option tactic.hygienic true in theorem dget_look {x:CS} {ks:List CS} {vs:List V} {ds:List (PyData × PyData)} {v:V} (D:DRep ks vs ds):dget x ks vs=some v → ∃ d,Spec.lookup (.str (sS x)) ds=some d∧flatD v=some d:=by
  induction D with
  | nil=>exact fun h=>n0 h
  | cons e _ ih =>
    intro h
    by_cases q:x = ‹_›
    · obtain rfl := oi ((if_pos q).symm.trans h)
      exact ⟨_,if_pos (by rw [q]; exact beq_iff_eq.mpr rfl),e⟩
    · obtain ⟨d, z, w⟩ := ih ((if_neg q).symm.trans h)
      exact ⟨d,(if_neg (by rw [PyProof.V.same_str]; simp [sS_inj]; exact fun z=>q z.symm)).trans z,w⟩
section
variable {c:Cx} {n m:Nat} {A:Around} {f:FrI} {fs:List FrI} {s:Shared} {μ:Addr→Prop} {ρ:List (Addr × Addr)} {σ:List Cell} {nm:List Str} {sc:Scope} {fr:List (Option V)} {e:Expr} {r:R V}
theorem seqIndex_nat {k:Int} {z j:Nat} (h0:0≤k) (hj:k.toNat < z):seqIndex? k z=some k.toNat:=by
  unfold seqIndex?
  have h1 : ¬ k < 0:=by omega
  simp [h1]
  omega
theorem Go.sub (G:Go c n A f fs s μ ρ σ nm sc fr) {a b w:V} {x y:Value} (ra:VRep c s.heap μ ρ a x) (rb:VRep c s.heap μ ρ b y) (h:subV σ a b=some w) {value slice:Expr} (hns : ∀ a b d p,slice ≠ .Slice a b d p) {Q E:Value→Shared→Prop}
    (k : ∀ z tk,VRep c s.heap μ ρ w z→Q z { s with toks:=tk }):wpAny (model c.prog c.w) A (subscriptTail value slice x y) Q E s:=by
  have hs : ∀ o i:Value,subscripted slice false o i=operate [o,i] (getItem o i):=fun o i=>by
    cases slice <;> first | rfl | exact absurd rfl (hns _ _ _ _)
  cases subO h with
  | tup h0 h1 h =>
    obtain ⟨_,_,_,rfl,e,nn,vs⟩:=ra.tup_
    obtain ⟨_,rfl⟩:=rb.int_
    obtain ⟨z,hz,rz⟩:=vs.get h
    have it:IsTup s.heap _ _:=⟨_,e,rfl,_,rfl⟩
    have hlt:=(List.getElem?_eq_some_iff.mp hz).1
    exact sub_tail it.typeIs PyProof.Rows.slot_tuple_getitem.lookup (PyProof.Rows.getItem_tuple it (by omega) (by omega) (seqIndex_nat (j:=0) h0 hlt) ((Array.getElem?_toList ..).symm.trans hz) (k _ s.toks rz)) (hs _ _)
  | @str _ _ ch h0 h1 hch =>
    obtain ⟨_,rfl⟩:=ra.str_
    obtain ⟨_,rfl⟩:=rb.int_
    have hlt:=(List.getElem?_eq_some_iff.mp hch).1
    refine sub_tail (typeIs_str s _ _) PyProof.Rows.slot_str_getitem.lookup (PyProof.Rows.getItem_str (c:=ch) (by simp; omega) ?_ ?_) (hs _ _)
    · rw [sS_len, seqIndex_nat (j := 0) h0 hlt]
      simpa [sS] using hch
    · exact k (.str (sS [ch]) s.toks) (s.toks + 1) (.str _ _)
  | dct h =>
    obtain ⟨_,rfl⟩:=rb.str_
    cases ra with
    | dct e d fl lo nn h1 =>
      obtain ⟨dv,hd,hf⟩:=dget_look h1 h
      have hd':Heap.DictOf (PySem.strKind c.prog c.w) s.heap _ _:=Heap.dictOf_iff.mpr ⟨_,e,d⟩
      obtain ⟨v,hv,hflat⟩:=FlatPairs.of_lookup PyProof.V.same_str fl hd
      exact sub_tail hd'.typeIs PySem.slot_dict_getitem.lookup (wpAny_getItem_of (PySem.strKind_is _ _ _ _) hd'.mapOf hv (k _ _ (flat_rep hf hflat))) (hs _ _)
  | it hl h0 h1 h =>
    obtain ⟨_,rfl⟩:=rb.int_
    obtain ⟨p,xs,k1,rfl,il,vs⟩:=G.items ra hl
    obtain ⟨z,hz,rz⟩:=vs.get h
    exact sub_tail il.isList.typeIs PySem.slot_list_getitem.lookup (wpAny_getItem_list il.isList h0 (by omega) ((Array.getElem?_toList ..).symm.trans hz) (k _ s.toks rz)) (hs _ _)
theorem s_sub {x y:X} {p:Pos} (H:SX c n) (G:Go c (n + 1) A f fs s μ ρ σ nm sc fr) (ht:trX c nm sc m (.sub x y p)=some e) (hr:exX c.T (n + 1) (.sub x y p) fr σ=some r):wpAny (model c.prog c.w) A (eval e f.env) (PX c (f :: fs) s μ ρ r) (EX c (f :: fs) s μ ρ r) s:=by
  cases m with
  | zero=>exact Mine.n0 ht
  | succ m =>
    obtain ⟨e1,h1,hz_⟩:=bI ht; clear ht; rename _=>ht
    obtain ⟨e2,h2,hz_⟩:=bI ht; clear ht; rename _=>ht
    · obtain ⟨hne, rfl⟩ := ifN ht
      refine Subscript_ (H.run (G.less (Nat.le_succ _)) h1 hr (fun v σ₁ y₁ s₁ μ₁ ρ₁ hk G₁ st rep => ?_) fun _ _ h=>h)
      refine H.run G₁ h2 hk (fun w σ₂ y₂ s₂ μ₂ ρ₂ hk G₂ st' rep' => ?_) fun _ _ h=>h.up st fun _ _ z=>z
      obtain ⟨z,hz,rfl⟩:=lif_some hk
      exact G₂.sub (st'.up rep) rep' hz (fun a b d p q=>hne (congrArg isSl q)) fun z tk rz=>⟨_,_,_,_,rfl,(st.trans st').then,rz⟩
end
end Mine
end
section
set_option tactic.hygienic false
namespace Mine
open PySem PySem.W PySem.Spec PySem.Calls PyProof.Rows PyProof.V

section
variable {c:Cx} {n m:Nat} {A:Around} {f:FrI} {fs:List FrI} {s:Shared} {μ:Addr→Prop} {ρ:List (Addr × Addr)} {σ:List Cell} {nm:List Str} {sc:Scope} {fr:List (Option V)} {e:Expr} {r:R V}
set_option tactic.hygienic true in theorem s_slc {x:X} {lo hi:Option X} {sp p:Pos} (H:SX c n) (G:Go c (n + 1) A f fs s μ ρ σ nm sc fr) (ht:trX c nm sc m (.slc x lo hi sp p)=some e) (hr:exX c.T (n + 1) (.slc x lo hi sp p) fr σ=some r):wpAny (model c.prog c.w) A (eval e f.env) (PX c (f :: fs) s μ ρ r) (EX c (f :: fs) s μ ρ r) s:=by
  cases m with
  | zero=>exact Mine.n0 ht
  | succ m =>
    obtain ⟨e1,h1,hz_⟩:=bI ht; clear ht; rename _=>ht
    obtain ⟨e2,h2,hz_⟩:=bI ht; clear ht; rename _=>ht
    obtain ⟨e3,h3,hz_⟩:=bI ht; clear ht; rename _=>ht
    cases lo with
    | some=>exact n0 hr
    | none =>
      cases hi with
      | none=>exact n0 hr
      | some hi =>
        cases m with
        | zero=>exact Mine.n0 h1
        | succ m =>
          obtain rfl:=oi h2
          obtain ⟨e3',h4,rfl⟩:=mI h3; clear h3
          · obtain ⟨hnm, rfl⟩ := ifI ht
            obtain ⟨y,q,rfl⟩:=isNm_ hnm
            refine wpAny_Subscript_list_slice (H.run (G.less (Nat.le_succ _)) h1 hr (fun v σ₁ y₁ s₁ μ₁ ρ₁ hk G₁ st rep => ?_) fun _ _ h=>h) (fun _ _=>rfl)
            refine evalPart_none_step (evalPart_some_step ?_)
            refine H.run G₁ h4 hk (fun w σ₂ y₂ s₂ μ₂ ρ₂ hk G₂ st' rep' => ?_) fun _ _ h=>h.up st fun _ _ z=>z
            obtain ⟨z,hz,rfl⟩:=lif_some hk
            cases slcO hz with
            | @mk l kk hl hb0 hb1 =>
                obtain ⟨t₂,rfl⟩:=rep'.int_
                obtain ⟨a,xs,k1,rfl,il,vs⟩:=G₂.items (st'.up rep) hl
                have e1:l.length=xs.size:=vs.len
                have hsz:xs.size≤sizeLine:=by rw [sizeLine_eq]; omega
                refine ⟨a,xs,_,_,rfl,il.isList,hsz, .none, .int _ _, ?_⟩
                have hp:slicePick xs none (some kk) none=(xs.toList.take (if 0≤kk then kk.toNat else xs.size - kk.natAbs)).toArray:=by
                  by_cases h0:0≤kk
                  · rw [if_pos h0]
                    have:=slicePick_upto' xs kk.toNat
                    rwa [show ((kk.toNat:Nat):Int)=kk by omega] at this
                  · rw [if_neg h0]
                    have:=slicePick_butLast xs kk.natAbs (by omega)
                    rwa [show (-((kk.natAbs:Nat):Int))=kk by omega] at this
                rw [hp]
                have stp := St.push G₂.inv { cls := .type "slice", data := .fields #[.none, .int kk t₂, .none] } (tk := s₂.toks)
                have hsl := rep_lst (tk := 0) (s := { s₂ with heap := s₂.heap.push { cls := .type "slice", data := .fields #[.none, .int kk t₂, .none] } }) stp.inv (l := l.take (if 0 ≤ kk then kk.toNat else xs.size - kk.natAbs)) (xs := (xs.toList.take (if 0 ≤ kk then kk.toNat else xs.size - kk.natAbs)).toArray) ((vs.mono stp.grow (List.prefix_refl _)).take _)
                have e2:(if 0≤kk then List.take kk.toNat l else List.take (l.length - kk.natAbs) l)=l.take (if 0≤kk then kk.toNat else xs.size - kk.natAbs):=by rw [e1]; split <;> rfl
                rw [e2]
                have hszp : (s₂.heap.push { cls := .type "slice", data := .fields #[.none, .int kk t₂, .none] }).objs.size = s₂.heap.objs.size + 1 := Heap.size_push ..
                simp only [hszp] at hsl
                exact ⟨_,_,_,_,rfl,(st.trans st').trans (stp.trans (St.push stp.inv _ (tk:=s₂.toks))),hsl⟩
end
end Mine
end
section
set_option tactic.hygienic false
namespace Mine
open PySem PySem.W PySem.Spec PySem.Calls PyProof.Rows PyProof.V

noncomputable def freeOf (ns:List (Str × NameKind)):List Str:=(ns.filter fun y=>y.2 == .free).map (·.1)
theorem clos_go (env:Env) (g:Str→Addr) : ∀ (ns:List (Str × NameKind)) (acc:List (Str × Addr)),(∀ y ∈ freeOf ns,env.cells.lookup y=some (g y)) →
    (forIn ns acc (fun (x:Str × NameKind) (r:List (Str × Addr))=>(match x with
      | (name,kind)=>if (kind == NameKind.free)=true then do let __do_lift ← cellOf env name; pure PUnit.unit; pure (ForInStep.yield ((name,__do_lift) :: r)) else do pure PUnit.unit; pure (ForInStep.yield r)):(Str × NameKind)→List (Str × Addr)→Sem (ForInStep (List (Str × Addr)))):Sem (List (Str × Addr)))=pure (((freeOf ns).map fun n=>(n,g n)).reverse ++ acc)
  | [],acc,_=>by rw [List.forIn_nil]; rfl
  | (y, k) :: ns, acc, h => by
    rw [List.forIn_cons]
    by_cases hk:(k == NameKind.free)=true
    · have hy : env.cells.lookup y = some (g y) := h y (by simp [freeOf, hk])
      have hc:cellOf env y=pure (g y):=by unfold cellOf; rw [hy]
      simp only [hk,if_true,hc,pure_bind]
      rw [clos_go env g ns _ fun z hz=>h z (by simp only [freeOf,List.filter_cons,hk,if_true,List.map_cons]; exact List.mem_cons_of_mem _ hz)]
      simp [freeOf,hk]
    · simp only [hk, if_false, pure_bind, Bool.false_eq_true]
      rw [clos_go env g ns _ fun z hz=>h z (by simp only [freeOf,List.filter_cons,hk,if_false,Bool.false_eq_true]; exact hz)]
      simp [freeOf,hk]
theorem clos_eq {scope:Scope} {env:Env} {g:Str→Addr} (h : ∀ y ∈ freeOf scope.names,env.cells.lookup y=some (g y)):closureFor scope env=pure ((freeOf scope.names).map fun n=>(n,g n)).reverse:=by
  unfold closureFor
  have:=clos_go env g scope.names [] h
  simp only [List.append_nil] at this
  first
    | (rw [bind_pure]; exact this)
    | exact this
    | (simp only [bind_pure]; exact this)
theorem lookup_fun {g:Str→Addr} {y:Str} : ∀ {l:List Str},y ∈ l→(l.map fun n=>(n,g n)).lookup y=some (g y)
  | [],h=>nomatch h
  | z :: l, h => by
    rw [List.map_cons,List.lookup_cons]
    cases q:y == z with
    | true=>rw [eq_of_beq q]
    | false =>
      rcases List.mem_cons.mp h with rfl | h
      · simp at q
      · exact lookup_fun h
end Mine
end
section
set_option tactic.hygienic false
namespace Mine
open PySem PySem.W PySem.Spec PySem.Calls PyProof.Rows PyProof.V

theorem nodup_key {α:Type} {g:α→Nat} : ∀ {l:List α},(l.map g).Nodup → ∀ {a b:α},a ∈ l→b ∈ l→g a=g b→a=b
  | [],_,_,_,h,_,_=>nomatch h
  | x :: l, hn, a, b, ha, hb, e => by
    rw [List.map_cons,List.nodup_cons] at hn
    rcases List.mem_cons.mp ha with ea | ha <;> rcases List.mem_cons.mp hb with eb | hb
    · rw [ea,eb]
    · exact absurd (show g x ∈ l.map g by rw [← ea,e]; exact List.mem_map_of_mem hb) hn.1
    · exact absurd (show g x ∈ l.map g by rw [← eb, ← e]; exact List.mem_map_of_mem ha) hn.1
    · exact nodup_key hn.2 ha hb e
section
variable {c:Cx} {fs:List FrI} {μ:Addr→Prop} {ρ:List (Addr × Addr)} {σ:List Cell} {h:Heap}
structure Nd (fs:List FrI) (ρ tb:List (Addr × Addr)):Prop where
  n1:(fs.map (·.L)).Nodup
  n2:(ρ.map (·.2)).Nodup
  n3:(tb.map (·.2)).Nodup
  n4 : ∀ f ∈ fs, ∀ p ∈ ρ,f.L ≠ p.2
  n5 : ∀ f ∈ fs, ∀ q ∈ tb,f.L ≠ q.2
  n6 : ∀ p ∈ ρ, ∀ q ∈ tb,p.2 ≠ q.2
theorem Inv.nd (I:Inv c fs μ ρ σ h):Nd fs ρ c.tabs:=by
  have h1:=List.nodup_append.mp I.nodup
  have h2:=List.nodup_append.mp h1.2.1
  exact ⟨h1.1,h2.1,h2.2.1,fun f hf p hp=>h1.2.2 _ (List.mem_map_of_mem hf) _ (List.mem_append_left _ (List.mem_map_of_mem hp)),
    fun f hf q hq=>h1.2.2 _ (List.mem_map_of_mem hf) _ (List.mem_append_right _ (List.mem_map_of_mem hq)),fun p hp q hq=>h2.2.2 _ (List.mem_map_of_mem hp) _ (List.mem_map_of_mem hq)⟩
theorem grow_but {h':Heap} {d:Addr} (k : ∀ a o,a ≠ d→h.get? a=some o→h'.get? a=some o) (hm:μ d):Grow h μ h' μ:=fun a o e n=>⟨k a o (fun q=>n (q ▸ hm)) e,n⟩
theorem Inv.upd {fs':List FrI} {σ':List Cell} {h':Heap} {d:Addr} (I:Inv c fs μ ρ σ h) (k : ∀ a o,a ≠ d→h.get? a=some o→h'.get? a=some o) (hm:μ d) (sz:h.objs.size≤h'.objs.size)
    (hf : ∀ f ∈ fs',FrOK c.B.objs.size μ h' f) (hc:CellsAt c h' μ ρ ρ σ') (hn:(fs'.map (·.L) ++ (ρ.map (·.2) ++ c.tabs.map (·.2))).Nodup) (ht : ∀ q ∈ c.tabs,μ q.2∧TabRow c h' μ q):Inv c fs' μ ρ σ' h' :=
  ⟨fun a o e=>let ⟨e',n⟩:=I.base a o e; ⟨k a o (fun q=>n (q ▸ hm)) e',n⟩,Nat.le_trans I.low sz,fun a m=>Nat.lt_of_lt_of_le (I.mlt a m) sz,hf,hc,hn,ht⟩
theorem Ns.but {h':Heap} {d L:Addr} {m:Str→Option Value} (k : ∀ a o,a ≠ d→h.get? a=some o→h'.get? a=some o) (hn:h.Ns L m) (hd:L ≠ d):h'.Ns L m:=by
  obtain ⟨o,es,ep,ho,r⟩:=hn
  exact ⟨o,es,ep,k _ _ hd ho,r⟩
theorem Inv.atTab {h':Heap} (I:Inv c fs μ ρ σ h) {q:Addr × Addr} (hq:q ∈ c.tabs) (k : ∀ a o,a ≠ q.2→h.get? a=some o→h'.get? a=some o) (sz:h.objs.size≤h'.objs.size) (ht:TabRow c h' μ q):Inv c fs μ ρ σ h':=by
  have hm:=(I.tabs q hq).1
  obtain ⟨n1,n2,n3,n4,n5,n6⟩:=I.nd
  refine I.upd k hm sz (fun f hf => ?_) (I.cells.step (grow_but k hm) (List.prefix_refl _) (fun p hp o e=>k _ _ (n6 p hp q hq) e) fun _ _ m=>m) I.nodup fun q' hq'=>⟨(I.tabs q' hq').1, ?_⟩
  · obtain ⟨a, b, d, e, m, l⟩ := I.frames f hf
    exact ⟨a,b,d,Ns.but k e (n5 f hf q hq),m,l⟩
  · by_cases e : q'.2 = q.2
    · rw [nodup_key n3 hq' hq e]; exact ht
    · exact (I.tabs q' hq').2.step (grow_but k hm) fun o z=>k _ _ e z
end

section
variable {c:Cx} {n m:Nat} {A:Around} {f:FrI} {fs:List FrI} {s:Shared} {μ:Addr→Prop} {ρ:List (Addr × Addr)} {σ:List Cell} {nm:List Str} {sc:Scope} {fr:List (Option V)} {e:Expr} {r:R V}
theorem crep_of {h : Heap} {cl : List (Str × Addr)} {g : Str → Addr} : ∀ (ns : List (Str × NameKind)) (vs : List V), (∀ y ∈ freeOf ns, cl.lookup y = some (g y)) →
    (∀ (i:Nat) (y:Str) (v:V),(freeOf ns)[i]? = some y→vs[i]? = some v → ∃ o x,h.get? (g y)=some o∧o.data = .cell (some x) ∧ ¬ μ (g y)∧VRep c h μ ρ v x)→vs.length=(freeOf ns).length→CRep c h μ ρ ns cl vs
  | [], vs, _, _, hl => by
    cases vs with
    | nil=>exact .nil
    | cons=>simp [freeOf] at hl
  | (y, k) :: ns, vs, h1, h2, hl => by
    by_cases hk:k = .free
    · subst hk
      cases vs with
      | nil=>simp [freeOf] at hl
      | cons v vs =>
        have e:freeOf ((y, .free) :: ns)=y :: freeOf ns:=by simp [freeOf]
        rw [e] at h1 h2 hl
        obtain ⟨o,x,a,b,d,rep⟩:=h2 0 y v rfl rfl
        exact .cons (h1 y List.mem_cons_self) a b d rep (crep_of ns vs (fun z hz=>h1 z (List.mem_cons_of_mem _ hz)) (fun i z w a b=>h2 (i + 1) z w (by simpa using a) (by simpa using b)) (by simpa using hl))
    · have e : freeOf ((y, k) :: ns) = freeOf ns := by simp [freeOf, hk]
      rw [e] at h1 h2 hl
      exact .skip hk (crep_of ns vs h1 h2 hl)
set_option tactic.hygienic true in theorem caps_get : ∀ {l:List Nat} {vs:List V},caps fr l=some vs→vs.length=l.length ∧ ∀ (i:Nat) (j:Nat) (v:V),l[i]? = some j→vs[i]? = some v→fr[j]? = some (some v)
  | [],vs,h=>by cases h; exact ⟨rfl,fun i j v e=>by simp at e⟩
  | j :: l, vs, h => by
    unfold caps at h
    split at h
    · rename_i v hv
      simp only [Option.map_eq_some_iff] at h
      obtain ⟨ws,hw,rfl⟩:=h
      obtain ⟨a,b⟩:=caps_get hw
      refine ⟨by simp [a],fun i j' w e1 e2 => ?_⟩
      cases i with
      | zero=>cases e1; cases e2; exact hv
      | succ i=>exact b i j' w (by simpa using e1) (by simpa using e2)
    · first | obtain rfl:=oi h | exact n0 h | exact n1 h | cases h
theorem fm_get {l : List Nat} (hl : (l.filterMap (nm[·]?)).length = l.length) : ∀ (i : Nat) (y : Str), (l.filterMap (nm[·]?))[i]? = some y → ∃ j, l[i]? = some j ∧ nm[j]? = some y := by
  induction l with
  | nil=>intro i y h; simp at h
  | cons j l ih =>
    intro i y h
    cases hj:nm[j]? with
    | none =>
      rw [List.filterMap_cons,hj] at hl
      have:=List.length_filterMap_le (nm[·]?) l
      simp at hl
      omega
    | some z =>
      rw [List.filterMap_cons,hj] at hl h
      cases i with
      | zero=>cases h; exact ⟨j,rfl,hj⟩
      | succ i =>
        obtain ⟨j',a,b⟩:=ih (by simpa using hl) i y (by simpa using h)
        exact ⟨j',by simpa using a,b⟩
theorem s_lam {k : Nat} {p : Pos} (G : Go c (n + 1) A f fs s μ ρ σ nm sc fr) (ht : trX c nm sc m (.lam k p) = some e) (hr : exX c.T (n + 1) (.lam k p) fr σ = some r) : wpAny (model c.prog c.w) A (eval e f.env) (PX c (f :: fs) s μ ρ r) (EX c (f :: fs) s μ ρ r) s := by
  cases m with
  | zero=>exact Mine.n0 ht
  | succ m =>
    obtain ⟨I,hI,hz_⟩:=bI ht; clear ht; rename _=>ht
    split at ht
    · rename_i hc
      first | obtain rfl:=oi ht | exact n0 ht | exact n1 ht | cases ht
      simp only [Bool.and_eq_true,beq_iff_eq,decide_eq_true_eq,List.all_eq_true,Bool.or_eq_true] at hc
      obtain ⟨⟨⟨⟨rfl,ho⟩,hfree⟩,hlen⟩,hkinds⟩:=hc
      obtain ⟨v,hv,rfl⟩:=lif_some hr
      simp only [Option.map_eq_some_iff] at hv
      obtain ⟨vs,hvs,rfl⟩:=hv
      obtain ⟨cl1,cl2⟩:=caps_get hvs
      obtain ⟨hdef,hq,hcode,hndn⟩:=G.bs.lam k I hI
      obtain ⟨hco,hqual⟩:=G.hcd k I hI ho
      obtain ⟨hg,hbl⟩:=G.ok.g f List.mem_cons_self
      have hns:=G.bs.T.g.keeps G.Fr.keep
      have hfree':freeOf I.scope.names=(c.T.lamc k).filterMap (nm[·]?):=hfree
      have hcap : ∀ (i:Nat) (y:Str) (v:V),(freeOf I.scope.names)[i]? = some y→vs[i]? = some v → ∃ ca o x,f.env.cells.lookup y=some ca∧s.heap.get? ca=some o∧o.data = .cell (some x) ∧ ¬ μ ca∧VRep c s.heap μ ρ v x:=by
        intro i y v h1 h2
        rw [hfree'] at h1
        obtain ⟨j,a,b⟩:=fm_get hlen i y h1
        have hk:=hkinds y (List.mem_of_getElem? h1)
        rcases G.fr j y v b (cl2 i j v a h2) with ⟨kk,_⟩ | ⟨kk,r⟩
        · exfalso
          have kk':sc.names.lookup y=some .local:=by rw [← G.hsc]; exact kk
          rw [kk'] at hk
          simp at hk
        · exact r
      have hlenv:vs.length=(freeOf I.scope.names).length:=by rw [cl1,hfree',hlen]
      have hcells : ∀ y ∈ freeOf I.scope.names,f.env.cells.lookup y=some ((f.env.cells.lookup y).getD 0):=by
        intro y hy
        obtain ⟨i,hi,rfl⟩:=List.getElem_of_mem hy
        obtain ⟨ca,o,x,h1,_⟩:=hcap i _ (vs[i]'(by rw [hlenv]; exact hi)) (List.getElem?_eq_getElem hi) (List.getElem?_eq_getElem _)
        rw [h1]; rfl
      have hclos:=clos_eq (scope:=I.scope) (env:=f.env) (g:=fun y=>(f.env.cells.lookup y).getD 0) hcells
      have crep : ∀ {h':Heap},(∀ a o,s.heap.get? a=some o → ¬ μ a→h'.get? a=some o)→CRep c h' μ ρ I.scope.names (((freeOf I.scope.names).map fun n=>(n,(f.env.cells.lookup n).getD 0)).reverse) vs:=by
        intro h' hkeep
        refine crep_of (g:=fun y=>(f.env.cells.lookup y).getD 0) _ _ (fun y hy => ?_) (fun i y v h1 h2 => ?_) hlenv
        · rw [← List.map_reverse]
          exact lookup_fun (List.mem_reverse.mpr hy)
        · obtain ⟨ca, o, x, a1, a2, a3, a4, a5⟩ := hcap i y v h1 h2
          simp only [a1,Option.getD_some]
          exact ⟨o,x,hkeep _ _ a2 a4,a3,a4,a5.mono (fun a o e nn=>⟨hkeep a o e nn,nn⟩) (List.prefix_refl _)⟩
      obtain ⟨hmP,ps,hP,hrow⟩:=G.inv.tabs I.tab hq
      have C:CodeHd s.heap I.tab.1 I.tab.2:=hcode.keeps G.Fr.keep
      obtain ⟨bm,ob,b1,b2,b3,b4,b5,b6⟩:=G.bs.T.bmain
      have notB : ∀ {a o},c.B.get? a=some o→a ≠ I.tab.2:=fun {a o} e q=>(G.inv.base a o e).2 (q ▸ hmP)
      have hgP:mainGlobals ≠ I.tab.2:=by
        obtain ⟨o,_,_,e,_⟩:=G.bs.T.g
        exact notB e
      have hbG:bm ≠ mainGlobals:=fun q=>by
        obtain ⟨o,es,ep,e,hd,_⟩:=G.bs.T.g
        rw [q,e] at b3; cases b3; rw [hd] at b6; cases b6
      have hb:s.heap.BuiltinsAt c.mg I.tab.2:=⟨bm,ob,b1,b2,hbG,notB b3,(G.inv.base _ _ b3).1,b4,b5,b6⟩
      refine kla_eval (hdef _) ?_
      rw [hqual]
      rcases hrow with rfl | ⟨k',I',c',oc,ov,tq,g1,g0,g2,g3,g4,g5,g6⟩
      · refine kla_makeFunction (mg := c.mg) hclos hg hns hco C hP trivial rfl hgP hb fun c' ctv h' tk hx hge hlt hrec htb => ?_
        obtain ⟨c₂,oc,ov,tq,e2,hoc,hd,hvv⟩:=hrec
        first | obtain rfl:=oi e2 | exact n0 e2 | exact n1 e2 | cases e2
        have hszz:s.heap.objs.size≤h'.objs.size:=Nat.le_of_lt (Nat.lt_of_le_of_lt hge hlt)
        have hkeep : ∀ a o, a ≠ I.tab.2 → s.heap.get? a = some o → (h'.push (kla_obj "<lambda>" I.qual I.params I.body I.scope ((freeOf I.scope.names).map fun n => (n, (f.env.cells.lookup n).getD 0)).reverse ((c.mg "__name__").getD .none) c' ctv)).get? a = some o := fun a o ne e => Heap.get?_push_of_some _ (hx a o ne e)
        have hnc : ¬ μ c':=fun hm=>Nat.lt_irrefl _ (Nat.lt_of_lt_of_le (G.inv.mlt _ hm) hge)
        have hnf : ¬ μ h'.objs.size:=fun hm=>Nat.lt_irrefl _ (Nat.lt_of_lt_of_le (G.inv.mlt _ hm) hszz)
        refine ⟨_,_,μ,ρ,rfl,⟨G.inv.atTab hq hkeep (Nat.le_trans hszz (by rw [Heap.size_push]; exact Nat.le_succ _)) ⟨_,Heap.get?_push_of_some _ htb, .inr ⟨k,I,c',oc,ov,tq,hI,rfl,rfl,Heap.get?_push_of_some _ hoc,hd,hvv,hnc⟩⟩,grow_but hkeep hmP,List.prefix_refl _,rfl,rfl⟩, ?_⟩
        exact .clo hI (Heap.get?_push_size _ rfl) hnf (Heap.get?_push_of_some _ hoc) hd hvv hnc (crep fun a o e nn=>hkeep a o (fun q=>nn (q ▸ hmP)) e)
      · obtain rfl := G.bs.lamu _ _ _ _ g1 hI g0
        rw [hI] at g1
        first | obtain rfl:=oi g1 | exact n0 g1 | exact n1 g1 | cases g1
        subst g2
        refine kla_makeFunctionHit (mg:=c.mg) (cv := .ref c') hclos hg hns hco C hP (by simp [TriplesOk,rawInt]) (by simp [codeAmong,rawInt]) hb fun ctv h' tk hk hszz => ?_
        have hnf : ¬ μ h'.objs.size:=fun hm=>Nat.lt_irrefl _ (Nat.lt_of_lt_of_le (G.inv.mlt _ hm) hszz)
        have hkeep : ∀ a o, s.heap.get? a = some o → (h'.push (kla_obj "<lambda>" I.qual I.params I.body I.scope ((freeOf I.scope.names).map fun n => (n, (f.env.cells.lookup n).getD 0)).reverse ((c.mg "__name__").getD .none) c' ctv)).get? a = some o := fun a o e => Heap.get?_push_of_some _ (hk a o e)
        refine ⟨_,_,μ,ρ,rfl, .keep G.inv hkeep (Nat.le_trans hszz (by rw [Heap.size_push]; exact Nat.le_succ _)), ?_⟩
        exact .clo hI (Heap.get?_push_size _ rfl) hnf (hkeep _ _ g3) g4 g5 g6 (crep fun a o e _=>hkeep a o e)
    · first | obtain rfl:=oi ht | exact n0 ht | exact n1 ht | cases ht
end
end Mine
end
section
set_option tactic.hygienic false
namespace Mine
open PySem PySem.W PySem.Spec PySem.Calls PyProof.Rows PyProof.V

section
variable {c:Cx} {fs:List FrI} {μ:Addr→Prop} {ρ:List (Addr × Addr)} {σ:List Cell} {h h':Heap}
theorem Inv.frFun (I:Inv c fs μ ρ σ h):h.FunFrames c.B (fs.map (·.env)):=by
  have hf:=I.frames
  have hb:=I.base
  clear I
  induction fs with
  | nil=>trivial
  | cons f fs ih =>
    obtain ⟨a,b,d,⟨o,es,ep,ho,hd,_⟩,m,l⟩:=hf f List.mem_cons_self
    refine ⟨by rw [d]; decide,⟨f.L,o,a, ?_,ho,fun vs q=>by rw [hd] at q; cases q⟩,ih fun g hg=>hf g (List.mem_cons_of_mem _ hg)⟩
    cases q:c.B.get? f.L with
    | none=>rfl
    | some o'=>exact absurd m (hb _ _ q).2
theorem Inv.slots (I:Inv c fs μ ρ σ h) (hs:Heap.SlotsOnly ((fs.map (·.env)).filterMap (·.frame)) h h'):Inv c fs μ ρ σ h'∧Grow h μ h' μ∧(∀ a o,a ∉ fs.map (·.L)→h.get? a=some o→h'.get? a=some o):=by
  have hS : ∀ b,b ∈ (fs.map (·.env)).filterMap (·.frame)→b ∈ fs.map (·.L):=fun b hb=>by
    obtain ⟨env,he,hb⟩:=List.mem_filterMap.mp hb
    obtain ⟨f,hf,rfl⟩:=List.mem_map.mp he
    rw [(I.frames f hf).fr] at hb
    first | obtain rfl:=oi hb | exact n0 hb | exact n1 hb | cases hb
    exact List.mem_map_of_mem hf
  have k : ∀ a o,a ∉ fs.map (·.L)→h.get? a=some o→h'.get? a=some o:=fun a o hn e=>(hs.2.1 a fun hb=>hn (hS a hb)).trans e
  have hm : ∀ a,a ∈ fs.map (·.L)→μ a:=fun a ha=>by
    obtain ⟨f,hf,rfl⟩:=List.mem_map.mp ha
    exact (I.frames f hf).m
  have g:Grow h μ h' μ:=fun a o e n=>⟨k a o (fun ha=>n (hm a ha)) e,n⟩
  obtain ⟨n1,n2,n3,n4,n5,n6⟩:=I.nd
  refine ⟨⟨fun a o e=>let ⟨e',n⟩:=I.base a o e; ⟨(g a o e' n).1,n⟩,by rw [hs.1]; exact I.low,fun a m=>by rw [hs.1]; exact I.mlt a m,fun f hf => ?_,I.cells.step g (List.prefix_refl _) (fun p hp o e=>k _ _ (fun ha => ?_) e) (fun _ _ m=>m),I.nodup,fun q hq=>⟨(I.tabs q hq).1,(I.tabs q hq).2.step g fun o e=>k _ _ (fun ha => ?_) e⟩⟩,g,k⟩
  · obtain ⟨a, b, d, ⟨o, es, ep, ho, hd, r⟩, m, l⟩ := I.frames f hf
    obtain ⟨sl,ho'⟩:=hs.2.2 _ _ ho
    exact ⟨a,b,d,⟨_,es,ep,ho',hd,r⟩,m,l⟩
  · obtain ⟨f, hf, e'⟩ := List.mem_map.mp ha
    exact n4 f hf p hp e'
  · obtain ⟨f, hf, e'⟩ := List.mem_map.mp ha
    exact n5 f hf q hq e'
theorem Inv.loose (I:Inv c fs μ ρ σ h) {T:Addr} (k : ∀ a o,a ≠ T→h.get? a=some o→h'.get? a=some o) (hm:μ T) (hn:T ∉ fs.map (·.L) ++ (ρ.map (·.2) ++ c.tabs.map (·.2))) (sz:h.objs.size≤h'.objs.size):Inv c fs μ ρ σ h':=by
  simp only [List.mem_append,not_or] at hn
  refine I.upd k hm sz (fun f hf => ?_) (I.cells.step (grow_but k hm) (List.prefix_refl _) (fun p hp o e=>k _ _ (fun q=>hn.2.1 (q ▸ List.mem_map_of_mem hp)) e) fun _ _ m=>m) I.nodup fun q hq=>⟨(I.tabs q hq).1,(I.tabs q hq).2.step (grow_but k hm) fun o e=>k _ _ (fun z=>hn.2.2 (z ▸ List.mem_map_of_mem hq)) e⟩
  obtain ⟨a,b,d,e,m,l⟩:=I.frames f hf
  exact ⟨a,b,d,Ns.but k e (fun q=>hn.1 (q ▸ List.mem_map_of_mem hf)),m,l⟩
theorem CellsAt.cls {ρ₀ : List (Addr × Addr)} : ∀ {ρ : List (Addr × Addr)} {σ : List Cell}, CellsAt c h μ ρ₀ ρ σ → ∀ p ∈ ρ, ∀ o, h.get? p.2 = some o → o.cls ≠ .type "traceback" := fun H => H.ind (P := fun ρ _ => ∀ p ∈ ρ, ∀ o, h.get? p.2 = some o → o.cls ≠ .type "traceback") (fun _ z => (List.not_mem_nil z).elim) fun a b ih p hp => by
    rcases List.mem_cons.mp hp with rfl | hp
    · intro o e
      cases a with
      | inst _ _ _ _ e2 _ _=>rw [e2] at e; cases e; intro z; injection z with z; exact absurd z (by decide)
      | list e2 _ _=>rw [e2] at e; cases e; intro z; injection z with z; exact absurd z (by decide)
      | exc _ _ e2 o1 _ _ _ _ _ _=>rw [e2] at e; cases e; rw [o1]; intro z; cases z
      | new _ _ e2 o1 _ _ _ _ _ _ _=>rw [e2] at e; cases e; rw [o1]; intro z; cases z
    · exact ih p hp
theorem Inv.entry (I : Inv c fs μ ρ σ h) {T : Addr} {oT : Obj} {ts : Array Value} (e : h.get? T = some oT) (hc : oT.cls = .type "traceback") (hd : oT.data = .fields ts) : T ∉ fs.map (·.L) ++ (ρ.map (·.2) ++ c.tabs.map (·.2)) := by
  simp only [List.mem_append,not_or]
  refine ⟨fun q => ?_,fun q => ?_,fun q => ?_⟩
  · obtain ⟨f, hf, rfl⟩ := List.mem_map.mp q
    obtain ⟨_,_,_,⟨o,es,ep,ho,hd',_⟩,_⟩:=I.frames f hf
    rw [e] at ho; cases ho; rw [hd] at hd'; cases hd'
  · obtain ⟨p, hp, rfl⟩ := List.mem_map.mp q
    exact I.cells.cls p hp _ e hc
  · obtain ⟨p, hp, rfl⟩ := List.mem_map.mp q
    obtain ⟨_,ps,e',_⟩:=I.tabs p hp
    rw [e] at e'; cases e'; cases hc
theorem CellsAt.excSet {ρ₀ : List (Addr × Addr)} {a : Addr} (g : Grow h μ h' μ) (k : ∀ b o, b ≠ a → h.get? b = some o → h'.get? b = some o) (hx : ∀ o, h.get? a = some o → ∃ vs, h'.get? a = some { o with data := .fields vs }) (hne : ∀ o, h.get? a = some o → ∃ vs, o.data = .fields vs) :
    ∀ {ρ:List (Addr × Addr)} {σ:List Cell},CellsAt c h μ ρ₀ ρ σ→(∀ (j:Nat) (p:Addr × Addr) C fs,ρ[j]? = some p→p.2=a→σ[j]? ≠ some (.new C fs))→CellsAt c h' μ ρ₀ ρ σ
  | _,_, .nil,_ => .nil
  | _, _, .cons (p := p) x y, hnn => by
    refine .cons ?_ (CellsAt.excSet g k hx hne y (fun j p C fs e1 e2 e3=>hnn (j + 1) p C fs (by simpa using e1) e2 (by simpa using e3)))
    by_cases hp:p.2=a
    · cases x with
      | inst _ _ _ _ e2 _ _ =>
        subst hp
        obtain ⟨vs,z⟩:=hne _ e2
        first | obtain rfl:=oi z | exact n0 z | exact n1 z | cases z
      | list e2 _ _ =>
        subst hp
        obtain ⟨vs,z⟩:=hne _ e2
        first | obtain rfl:=oi z | exact n0 z | exact n1 z | cases z
      | exc z1 z2 e2 o1 o2 o3 m e3 n3 fr =>
        subst hp
        obtain ⟨vs,hv⟩:=hx _ e2
        exact .exc z1 z2 hv o1 o2 rfl m (g _ _ e3 n3).1 n3 (FRep.mono g (List.prefix_refl _) fr)
      | new z1 z2 e2 o1 o2 o3 m e3 n3 fr tb=>exact absurd rfl (hnn 0 _ _ _ rfl hp)
    · exact x.step g (List.prefix_refl _) (fun o e=>k _ _ hp e) fun m=>m
theorem Inv.exc (I:Inv c fs μ ρ σ h) {i:Nat} {a:Addr} (hi:ρ[i]? = some (a,a)) (hnn : ∀ C fs,σ[i]? ≠ some (.new C fs)) {o:Obj} {vs vs':Array Value} (ho:h.get? a=some o) (hd:o.data = .fields vs) (k : ∀ b o,b ≠ a→h.get? b=some o→h'.get? b=some o) (ha:h'.get? a=some { o with data := .fields vs' }) (sz:h.objs.size≤h'.objs.size):Inv c fs μ ρ σ h':=by
  have hp:(a,a) ∈ ρ:=List.mem_of_getElem? hi
  have hm:μ a:=I.cells.mem _ hp
  obtain ⟨n1,n2,n3,n4,n5,n6⟩:=I.nd
  refine I.upd k hm sz (fun f hf => ?_) (CellsAt.excSet (grow_but k hm) k (fun o' e=>⟨vs', ?_⟩) (fun o' e=>⟨vs, ?_⟩) I.cells (fun j p C fs e1 e2 e3=>hnn C fs (by
    have e4:(ρ.map (·.2))[j]? = some a:=by rw [List.getElem?_map,e1]; simp [e2]
    have e5:(ρ.map (·.2))[i]? = some a:=by rw [List.getElem?_map,hi]; rfl
    have:j=i:=(List.getElem?_inj (List.getElem?_eq_some_iff.mp e4).1 n2).mp (e4.trans e5.symm)
    rw [← this]; exact e3))) I.nodup fun q hq=>⟨(I.tabs q hq).1,(I.tabs q hq).2.step (grow_but k hm) fun o e=>k _ _ (fun z=>n6 _ hp q hq z.symm) e⟩
  · obtain ⟨b1, b2, b3, e, m, l⟩ := I.frames f hf
    exact ⟨b1,b2,b3,Ns.but k e (n4 f hf _ hp),m,l⟩
  · rw [ho] at e; cases e; exact ha
  · rw [ho] at e; cases e; exact hd
end
end Mine
end
section
set_option tactic.hygienic false
namespace Mine
open PySem PySem.W PySem.Spec PySem.Calls PyProof.Rows PyProof.V

inductive Noted (σ:List Cell) (i:Nat) (h:Heap) (μ:Addr→Prop) (a:Addr):Prop
  | mk (nn : ∀ C fs, σ[i]? ≠ some (.new C fs)) (oe : Obj) (vs : Array Value) (T : Addr) (oT : Obj) (ts : Array Value) (a1 : h.get? a = some oe) (a2 : oe.data = .fields vs) (a3 : vs[1]? = some (.ref T)) (a4 : T ≠ a) (a5 : h.get? T = some oT) (a6 : oT.cls = .type "traceback") (a7 : oT.data = .fields ts) (a8 : 3 < ts.size) (a9 : μ T)
theorem Noted.fly {σ:List Cell} {i:Nat} {h:Heap} {μ:Addr→Prop} {a:Addr} (x:Noted σ i h μ a):Fly σ i h μ a:=by
  obtain ⟨nn,oe,vs,T,oT,ts,a1,a2,a3,a4,a5,a6,a7,a8,a9⟩:=x
  exact ⟨nn,oe,vs,a1,a2, .inr ⟨T,oT,ts,a3,a4,a5,a6,a7,a8,a9⟩⟩
section
variable {c:Cx} {fs:List FrI} {μ:Addr→Prop} {ρ:List (Addr × Addr)} {σ:List Cell} {h h':Heap}
theorem Inv.plus (I:Inv c fs μ ρ σ h) (k : ∀ a o,h.get? a=some o→h'.get? a=some o) (sz:h.objs.size≤h'.objs.size) {d:Addr} (hd:h.objs.size≤d) (hd':d < h'.objs.size):Inv c fs (Mine.plus μ d) ρ σ h' where
  base a o e:=⟨k _ _ (I.base a o e).1,fun z=>z.elim (I.base a o e).2 fun z=>Nat.lt_irrefl _ (Nat.lt_of_lt_of_le (z ▸ Heap.lt_size (I.base a o e).1) hd)⟩
  low:=Nat.le_trans I.low sz
  mlt a m:=m.elim (fun m=>Nat.lt_of_lt_of_le (I.mlt a m) sz) fun m=>m ▸ hd'
  frames f hf:=let ⟨a,b,e,n,m,l⟩:=I.frames f hf; ⟨a,b,e,n.keeps k, .inl m,l⟩
  cells:=I.cells.step (grow_plus k hd) (List.prefix_refl _) (fun p _ o e=>k _ o e) (fun _ _ m => .inl m)
  nodup:=I.nodup
  tabs q hq:=⟨.inl (I.tabs q hq).1,(I.tabs q hq).2.step (grow_plus k hd) fun o e=>k _ o e⟩
end
section
variable {c:Cx} {A:Around} {f:FrI} {fs:List FrI} {s:Shared} {μ:Addr→Prop} {ρ:List (Addr × Addr)} {σ:List Cell} {M:Model}
theorem newEntry_ok (I:Inv c (f :: fs) μ ρ σ s.heap) (hfr:A.frames=some ((f :: fs).map (·.env))) {i:Nat} {a:Addr} (hi:ρ[i]? = some (a,a)) {oe:Obj} {vs:Array Value} (he:s.heap.get? a=some oe) (hd:oe.data = .fields vs) (h1:1 < vs.size) (hnn : ∀ C fs,σ[i]? ≠ some (.new C fs))
    {head:Value} {hadNext:Bool} {Q:Unit→Shared→Prop} {E:Value→Shared→Prop} (hQ : ∀ s' μ',St c (f :: fs) s μ ρ σ s' μ' ρ→Noted σ i s'.heap μ' a→Q () s') :
    wpAny M A (do let x ← frameOf f.env; let pl ← entryPlaceOf f.L hadNext; let b ← EntryCells.newEntry head x .none (rawInt f.L) .none pl; setField (.ref a) 1 b) Q E s:=by
  have hp:(a,a) ∈ ρ:=List.mem_of_getElem? hi
  have hm:μ a:=I.cells.mem _ hp
  obtain ⟨n1,n2,n3,n4,n5,n6⟩:=I.nd
  have hna:a ∉ (f :: fs).map (·.L):=fun q=>by
    obtain ⟨g,hg,e⟩:=List.mem_map.mp q
    exact n4 g hg _ hp e
  refine wpAny_bind (wpAny_frameOf_fun hfr I.frFun (I.frames f List.mem_cons_self).fr fun h₁ hs₁ => ?_)
  obtain ⟨I1,g1,k1⟩:=I.slots hs₁
  have he1:=k1 _ _ hna he
  refine wpAny_bind (wpAny_entryPlaceOf fun pl hpl => ?_)
  unfold EntryCells.newEntry newFields
  refine wpAny_bind (wpAny_newObj_type ?_ (hpl.sizeOk5 _ _ _ _ _))
  have hk2 : ∀ b o, h₁.get? b = some o → (h₁.push { cls := .type "traceback", dict := none, data := .fields ([head, .ref f.L, .none, rawInt f.L, .none] ++ (if pl.isEmpty then List.replicate 6 Value.none else pl)).toArray }).get? b = some o := fun b o e => Heap.get?_push_of_some _ e
  have he2:=hk2 _ _ he1
  have I2:=I1.plus hk2 (by rw [Heap.size_push]; exact Nat.le_succ _) (Nat.le_refl _) (by rw [Heap.size_push]; exact Nat.lt_succ_self _)
  have hne:h₁.objs.size ≠ a:=Nat.ne_of_gt (Heap.lt_size he1)
  refine wpAny_setField he2 hd h1 (hQ _ (Mine.plus μ h₁.objs.size) ?_ ?_)
  · have hself := Heap.get?_update_self (Obj.mapFields (·.setIfInBounds 1 (Value.ref h₁.objs.size))) he2 (Obj.isFreed_of_fields (Obj.data_mapFields hd _))
    have hoth : ∀ b o, b ≠ a → (h₁.push { cls := .type "traceback", dict := none, data := .fields ([head, .ref f.L, .none, rawInt f.L, .none] ++ (if pl.isEmpty then List.replicate 6 Value.none else pl)).toArray }).get? b = some o → ((h₁.push { cls := .type "traceback", dict := none, data := .fields ([head, .ref f.L, .none, rawInt f.L, .none] ++ (if pl.isEmpty then List.replicate 6 Value.none else pl)).toArray }).update a (Obj.mapFields (·.setIfInBounds 1 (Value.ref h₁.objs.size)))).get? b = some o :=
      fun b o hb e=>(Heap.get?_update_other _ _ (Ne.symm hb)).trans e
    have hmf:oe.mapFields (·.setIfInBounds 1 (Value.ref h₁.objs.size))={ oe with data := .fields (vs.setIfInBounds 1 (Value.ref h₁.objs.size)) }:=by
      obtain ⟨cc,dd,dt,sl⟩:=oe
      first | obtain rfl:=oi hd | exact n0 hd | exact n1 hd | cases hd
      rfl
    rw [hmf] at hself
    have I3:=I2.exc hi hnn he2 hd hoth hself (by rw [Heap.size_update]; exact Nat.le_refl _)
    refine ⟨I3,(g1.trans (grow_plus hk2 (Nat.le_refl _))).trans (grow_but hoth (.inl hm)),List.prefix_refl _,rfl,rfl⟩
  · have hself := Heap.get?_update_self (Obj.mapFields (·.setIfInBounds 1 (Value.ref h₁.objs.size))) he2 (Obj.isFreed_of_fields (Obj.data_mapFields hd _))
    refine ⟨hnn,_,_,h₁.objs.size,_,_,hself,Obj.data_mapFields hd _,by simp [h1],hne,(Heap.get?_update_other _ _ (Ne.symm hne)).trans (Heap.get?_push_size h₁ rfl),rfl,rfl, ?_, .inr rfl⟩
    simp only [List.size_toArray,List.length_append,List.length_cons,List.length_nil]
    omega
theorem note_ok (I:Inv c (f :: fs) μ ρ σ s.heap) (hfr:A.frames=some ((f :: fs).map (·.env))) {i:Nat} {a:Addr} (hi:ρ[i]? = some (a,a)) (hf:Fly σ i s.heap μ a)
    {Q:Unit→Shared→Prop} {E:Value→Shared→Prop} (hQ : ∀ s' μ',St c (f :: fs) s μ ρ σ s' μ' ρ→Noted σ i s'.heap μ' a→Q () s'):wpAny M A (noteFrame (.ref a) f.env) Q E s:=by
  obtain ⟨hnn,oe,vs,he,hd,hf⟩:=hf
  unfold noteFrame
  simp only [(I.frames f List.mem_cons_self).fr]
  rcases hf with h1 | ⟨T,oT,ts,h1,hTa,hT,hTc,hTd,hsz,hmT⟩
  · refine wpAny_bind (wpAny_field he hd h1 ?_)
    rw [if_neg (by decide)]
    exact newEntry_ok I hfr hi he hd (Array.getElem?_eq_some_iff.mp h1).1 hnn hQ
  · refine wpAny_bind (wpAny_field he hd h1 ?_)
    rw [if_pos (show (Value.ref T != Value.none)=true from by simp)]
    refine wpAny_bind (wpAny_field hT hTd (x:=ts[3]) (Array.getElem?_eq_getElem hsz) ?_)
    by_cases hq:(ts[3] == rawInt f.L)=true
    · rw [if_pos hq]
      exact wpAny_pure (hQ s μ (.refl I) ⟨hnn,oe,vs,T,oT,ts,he,hd,h1,hTa,hT,hTc,hTd,hsz,hmT⟩)
    · rw [if_neg hq]
      refine wpAny_bind (wpAny_setField hT hTd hsz ?_)
      have hoth : ∀ b o,b ≠ T→s.heap.get? b=some o→(s.heap.update T (Obj.mapFields (·.setIfInBounds 3 Value.none))).get? b=some o:=fun b o hb e=>(Heap.get?_update_other _ _ (Ne.symm hb)).trans e
      have I1:=I.loose hoth hmT (I.entry hT hTc hTd) (by rw [Heap.size_update]; exact Nat.le_refl _)
      have st1:St c (f :: fs) s μ ρ σ { s with heap:=s.heap.update T (Obj.mapFields (·.setIfInBounds 3 Value.none)) } μ ρ:=⟨I1,grow_but hoth hmT,List.prefix_refl _,rfl,rfl⟩
      exact newEntry_ok I1 hfr hi (hoth _ _ (Ne.symm hTa) he) hd (Array.getElem?_eq_some_iff.mp h1).1 hnn fun s' μ' st nt=>hQ s' μ' (st1.trans st) nt
theorem flight_ok (I:Inv c (f :: fs) μ ρ σ s.heap) {i:Nat} {a:Addr} (hi:ρ[i]? = some (a,a)) (hf:Noted σ i s.heap μ a) {fr:Option Addr}
    {Q:Unit→Shared→Prop} {E:Value→Shared→Prop} (hQ : ∀ s',St c (f :: fs) s μ ρ σ s' μ ρ→Noted σ i s'.heap μ a→Q () s'):wpAny M A (setFlight (.ref a) fr) Q E s:=by
  obtain ⟨hnn,oe,vs,T,oT,ts,he,hd,h1,hTa,hT,hTc,hTd,hsz,hmT⟩:=hf
  unfold setFlight
  refine wpAny_bind (wpAny_field he hd h1 ?_)
  rw [if_pos (show (Value.ref T != Value.none)=true from by simp)]
  refine wpAny_setField hT hTd hsz (hQ _ ?_ ?_)
  · have hoth : ∀ b o, b ≠ T → s.heap.get? b = some o → (s.heap.update T (Obj.mapFields (·.setIfInBounds 3 (fr.elim Value.none fun f => rawInt f)))).get? b = some o := fun b o hb e => (Heap.get?_update_other _ _ (Ne.symm hb)).trans e
    exact ⟨I.loose hoth hmT (I.entry hT hTc hTd) (by rw [Heap.size_update]; exact Nat.le_refl _),grow_but hoth hmT,List.prefix_refl _,rfl,rfl⟩
  · have hself := Heap.get?_update_self (Obj.mapFields (·.setIfInBounds 3 (fr.elim Value.none fun f => rawInt f))) hT (Obj.isFreed_of_fields (Obj.data_mapFields hTd _))
    exact ⟨hnn,oe,vs,T,_,_,(Heap.get?_update_other _ _ hTa).trans he,hd,h1,hTa,hself,(Obj.cls_mapFields _ _).trans hTc,Obj.data_mapFields hTd _,by simpa using hsz,hmT⟩
theorem leave_ok (I:Inv c (f :: fs) μ ρ σ s.heap) (hfr:A.frames=some ((f :: fs).map (·.env))) {i:Nat} {a:Addr} (hi:ρ[i]? = some (a,a)) (hf:Fly σ i s.heap μ a)
    {Q:Unit→Shared→Prop} {E:Value→Shared→Prop} (hQ : ∀ s' μ',St c (f :: fs) s μ ρ σ s' μ' ρ→Noted σ i s'.heap μ' a→Q () s'):wpAny M A (leaving f.env (.ref a)) Q E s:=by
  unfold leaving
  exact wpAny_bind (note_ok I hfr hi hf fun s' μ' st nt=>flight_ok st.inv hi nt fun s'' st' nt'=>hQ _ _ (st.trans st') nt')
theorem back_ok (I:Inv c (f :: fs) μ ρ σ s.heap) {i:Nat} {a:Addr} (hi:ρ[i]? = some (a,a)) (hf:Noted σ i s.heap μ a) {E:Value→Shared→Prop} (hQ : ∀ s',St c (f :: fs) s μ ρ σ s' μ ρ→Noted σ i s'.heap μ a→E (.ref a) s'):cameBackBy M A f.env E (.ref a) s:=by
  obtain ⟨hnn,oe,vs,T,oT,ts,he,hd,h1,r⟩:=id hf
  unfold cameBackBy
  refine wpAny_bind (wpAny_field he hd h1 ?_)
  rw [if_neg (by simp)]
  exact flight_ok I hi hf hQ
end
end Mine
end
section
set_option tactic.hygienic false
namespace Mine
open PySem PySem.W PySem.Spec PySem.Calls PyProof.Rows PyProof.V

noncomputable def FrI.upd (f:FrI) (m:Str→Option Value):FrI:=⟨f.env,f.L,m⟩
inductive PSn (c:Cx) (f:FrI) (μ':Addr→Prop) (ρ':List (Addr × Addr)) (nm:List Str) (o:RS) (fl:Flow) (s':Shared) (σ':List Cell):Prop
  | mk (fr':List (Option V)) (h1:o = .nx fr' σ') (h2:fl = .next) (h3:FrRep c s'.heap μ' ρ' f nm fr')
inductive PSr (c:Cx) (μ':Addr→Prop) (ρ':List (Addr × Addr)) (o:RS) (fl:Flow) (s':Shared) (σ':List Cell):Prop
  | mk (v:V) (x:Value) (h1:o = .rt v σ') (h2:fl = .ret x) (h3:VRep c s'.heap μ' ρ' v x)
inductive PS (c:Cx) (f:FrI) (fs:List FrI) (s:Shared) (μ:Addr→Prop) (ρ:List (Addr × Addr)) (nm:List Str) (o:RS) (fl:Flow) (s':Shared):Prop
  | mk (m':Str→Option Value) (σ':List Cell) (μ':Addr→Prop) (ρ':List (Addr × Addr)) (st:St c (f.upd m' :: fs) s μ ρ σ' s' μ' ρ') (h:PSn c (f.upd m') μ' ρ' nm o fl s' σ' ∨ PSr c μ' ρ' o fl s' σ')
inductive ES (c:Cx) (f:FrI) (fs:List FrI) (s:Shared) (μ:Addr→Prop) (ρ:List (Addr × Addr)) (nm:List Str) (o:RS) (e:Value) (s':Shared):Prop
  | mk (m':Str→Option Value) (σ':List Cell) (μ':Addr→Prop) (ρ':List (Addr × Addr)) (i:Nat) (fr':List (Option V)) (a:Addr) (st:St c (f.upd m' :: fs) s μ ρ σ' s' μ' ρ') (h1:o = .ex i fr' σ') (h2:e = .ref a) (h3:ρ'[i]? = some (a,a)) (h4:Fly σ' i s'.heap μ' a) (h5:FrRep c s'.heap μ' ρ' (f.upd m') nm fr')
noncomputable def SS (c:Cx) (n:Nat):Prop := ∀ {m nm sc t st},trS c nm sc m t=some st → ∀ {fr σ o},exS c.T n t fr σ=some o → ∀ {A f fs s μ ρ},Go c n A f fs s μ ρ σ nm sc fr →
  wpAny (model c.prog c.w) A (exec st f.env) (PS c f fs s μ ρ nm o) (ES c f fs s μ ρ nm o) s
noncomputable def SSs (c:Cx) (n:Nat):Prop := ∀ {m nm sc t st},trSs c nm sc m t=some st → ∀ {fr σ o},exSs c.T n t fr σ=some o → ∀ {A f fs s μ ρ},Go c n A f fs s μ ρ σ nm sc fr →
  wpAny (model c.prog c.w) A (execs st f.env) (PS c f fs s μ ρ nm o) (ES c f fs s μ ρ nm o) s

structure FnR where
  name:Str
  qual:Str
  params:Arguments
  body:List Stmt
  scope:Scope
  dV:Value
  kV:Value
  doc:Value
  pm:Value
  an:Option Addr
  cdv:Value
  ct:Value
  oc:Value
  od:Option Addr
  osl:Array (Option Value)
  ds:List Value
noncomputable abbrev FnR.fd (R:FnR):FuncData:=fnOf R.name R.qual R.params R.body R.scope R.dV R.kV R.doc R.pm R.an R.cdv R.ct
structure FnOK (c:Cx) (a:Addr) (d:FnD) (R:FnR):Prop where
  at_:c.K.lookup a=some ⟨R.oc,R.od, .func R.fd,R.osl⟩
  code:codeIn c.K R.cdv R.qual=true
  tr : ∃ m,trSs c d.nm R.scope m d.body=some R.body
  kind:R.scope.kind = .function
  co:R.scope.isCoroutine=false
  gen:R.scope.isGenerator=false
  np:d.np≤d.nm.length
  nd:(d.nm.take d.np).Nodup
  loc : ∀ y ∈ d.nm.take d.np,R.scope.names.lookup y=some .local ∨ R.scope.names.lookup y=some .cell
  ds:VReps c c.B (fun _=>False) [] d.dflt R.ds
  bind : ∀ (s:Shared) (xs:List Value),c.K.In s.heap→xs.length≤d.np→d.np≤xs.length + d.dflt.length→BindsTo s R.fd ⟨xs,[]⟩ ((d.nm.take d.np).zip (xs ++ R.ds.drop (d.dflt.length - (d.np - xs.length))))
  lam : ∀ k I, c.lamI k = some I → I.owner = R.scope → R.cdv = .ref I.tab.1 ∧ R.qual ++ (".<locals>." : Str) ++ ("<lambda>" : Str) = I.qual

section
theorem bindL_other {kindOf:Str→Option NameKind} {y:Str} : ∀ (l:List (Str × Value)) (m:Str→Option Value),y ∉ l.map (·.1)→bindL kindOf l m y=m y
  | [],m,_=>rfl
  | (z, v) :: l, m, h => by
    simp only [List.map_cons,List.mem_cons,not_or] at h
    rw [bindL,bindL_other l _ h.2]
    split
    · exact if_neg h.1
    · rfl
theorem bindL_mem {kindOf:Str→Option NameKind} {y:Str} {x:Value} (hk:kindOf y=some .local) : ∀ (l:List (Str × Value)) (m:Str→Option Value),(l.map (·.1)).Nodup→(y,x) ∈ l→bindL kindOf l m y=some x
  | [],_,_,h=>nomatch h
  | (z, v) :: l, m, hn, h => by
    rw [List.map_cons,List.nodup_cons] at hn
    rcases List.mem_cons.mp h with e | h
    · first | obtain rfl := oi e | exact n0 e | exact n1 e | cases e
      rw [bindL,bindL_other l _ hn.1,if_pos hk]
      simp
    · rw [bindL]; exact bindL_mem hk l _ hn.2 h
theorem bindC_other {kindOf:Str→Option NameKind} {y:Str} : ∀ (l:List (Str × Value)) (m:Str→Option Value),y ∉ l.map (·.1)→bindC kindOf l m y=m y
  | [],m,_=>rfl
  | (z, v) :: l, m, h => by
    simp only [List.map_cons,List.mem_cons,not_or] at h
    rw [bindC,bindC_other l _ h.2]
    split
    · rfl
    · exact if_neg h.1
theorem bindC_mem {kindOf:Str→Option NameKind} {y:Str} {x:Value} (hk:kindOf y ≠ some .local) : ∀ (l:List (Str × Value)) (m:Str→Option Value),(l.map (·.1)).Nodup→(y,x) ∈ l→bindC kindOf l m y=some x
  | [],_,_,h=>nomatch h
  | (z, v) :: l, m, hn, h => by
    rw [List.map_cons,List.nodup_cons] at hn
    rcases List.mem_cons.mp h with e | h
    · first | obtain rfl := oi e | exact n0 e | exact n1 e | cases e
      rw [bindC,bindC_other l _ hn.1,if_neg hk]
      simp
    · rw [bindC]; exact bindC_mem hk l _ hn.2 h
end
section
variable {c:Cx} {n:Nat} {A:Around} {f:FrI} {fs:List FrI} {s:Shared} {μ:Addr→Prop} {ρ:List (Addr × Addr)} {σ:List Cell}
theorem Inv.push {c:Cx} {fs:List FrI} {μ:Addr→Prop} {ρ:List (Addr × Addr)} {σ:List Cell} {h h':Heap} (I:Inv c fs μ ρ σ h) (k : ∀ a o,h.get? a=some o→h'.get? a=some o) (sz:h.objs.size≤h'.objs.size) {g:FrI} (hL:h.objs.size≤g.L)
    (e1:g.env.frame=some g.L) (e2:g.env.locals=g.L) (e3:g.env.scope.kind = .function) (hn:h'.Ns g.L g.m):Inv c (g :: fs) (Mine.plus μ g.L) ρ σ h':=by
  have I':=I.plus k sz hL hn.lt
  refine { I' with frames:=fun f hf => ?_,nodup := ?_ }
  · rcases List.mem_cons.mp hf with rfl | hf
    · exact ⟨e1,e2,e3,hn, .inr rfl,Nat.le_trans I.low hL⟩
    · exact I'.frames f hf
  · rw [List.map_cons, List.cons_append]
    exact List.nodup_cons.mpr ⟨fun hm=>Nat.lt_irrefl _ (Nat.lt_of_lt_of_le (I.mlt _ (I.track _ hm)) hL),I.nodup⟩
theorem Inv.pop {c:Cx} {g:FrI} {fs:List FrI} {μ:Addr→Prop} {ρ:List (Addr × Addr)} {σ:List Cell} {h:Heap} (I:Inv c (g :: fs) μ ρ σ h):Inv c fs μ ρ σ h :=
  { I with frames:=fun f hf=>I.frames f (List.mem_cons_of_mem _ hf),nodup:=by have:=I.nodup; rw [List.map_cons,List.cons_append] at this; exact (List.nodup_cons.mp this).2 }
theorem St.pop {g:FrI} {s':Shared} {μ':Addr→Prop} {ρ':List (Addr × Addr)} {σ':List Cell} (x:St c (g :: fs) s μ ρ σ' s' μ' ρ'):St c fs s μ ρ σ' s' μ' ρ':=⟨x.inv.pop,x.grow,x.pre,x.gens,x.os⟩
theorem zip_get {nms:List Str} {xs:List Value} {i:Nat} {y:Str} {x:Value} (h1:nms[i]? = some y) (h2:xs[i]? = some x):(y,x) ∈ nms.zip xs:=List.mem_of_getElem? (List.getElem?_zip_eq_some.mpr ⟨h1,h2⟩)
theorem zip_sub : ∀ (nms:List Str) (xs:List Value),List.Sublist ((nms.zip xs).map (·.1)) nms
  | [],_=>by simp
  | _ :: _,[]=>by simp
  | y :: nms,x :: xs=>by simpa using zip_sub nms xs
theorem zip_keys {nms:List Str} {xs:List Value} (hn:nms.Nodup):((nms.zip xs).map (·.1)).Nodup:=hn.sublist (zip_sub nms xs)
end
end Mine
end
section
set_option tactic.hygienic false
namespace Mine
open PySem PySem.W PySem.Spec PySem.Calls PyProof.Rows PyProof.V

theorem VReps.drop {c:Cx} {h:Heap} {μ:Addr→Prop} {ρ:List (Addr × Addr)} : ∀ {l:List V} {xs:List Value} (k:Nat),VReps c h μ ρ l xs→VReps c h μ ρ (l.drop k) (xs.drop k)
  | _,_,0,r=>by simpa using r
  | _,_,_ + 1, .nil=>by simpa using VReps.nil
  | _,_,k + 1, .cons a b=>by simpa using b.drop k
noncomputable def RX (c:Cx) (fs:List FrI) (s:Shared) (μ:Addr→Prop) (ρ:List (Addr × Addr)) (r:R V) (q:Result) (s':Shared):Prop:=match q with
  | .ok (.ret v)=>PX c fs s μ ρ r v s'
  | .ok _=>False
  | .error e=>EX c fs s μ ρ r e s'
section
variable {c:Cx} {n:Nat} {A:Around} {f:FrI} {fs:List FrI} {s:Shared} {μ:Addr→Prop} {ρ:List (Addr × Addr)} {σ:List Cell} {r:R V}
theorem call_fn {gs : List FrI} (HS : SSs c n) (P : Prog c) (I : Inv c gs μ ρ σ s.heap) (ok : FrI.ok A gs) (hd : A.depth + (n + 1) < recursionLimit) (hu : A.units + 8 * (n + 1) + 64 < cLine)
    {a:Addr} {d:FnD} {R:FnR} (K:FnOK c a d R) {vs:List V} {xs:List Value} (rv:VReps c s.heap μ ρ vs xs) (h1:vs.length≤d.np) (h2:d.np≤vs.length + d.dflt.length)
    (hr : (match exSs c.T n d.body ((vs ++ d.dflt.drop (d.dflt.length - (d.np - vs.length))).map some ++ List.replicate (d.nm.length - d.np) none) σ with
          | some (.nx _ s)=>some (.ok V.none s)
          | some (.rt v s)=>some (.ok v s)
          | some (.ex i _ s)=>some (.ex i s)
          | none=>none)=some r) :
    codeAny (model c.prog c.w) A (.call (.ref a) ⟨xs,[]⟩) (RX c gs s μ ρ r) s:=by
  have hKs:c.K.In s.heap:=fun b o e=>(I.base b o (P.XK b o e)).1
  have hBs : ∀ b o,c.B.get? b=some o→s.heap.get? b=some o:=fun b o e=>(I.base b o e).1
  obtain ⟨m,htr⟩:=K.tr
  have hxl:vs.length=xs.length:=rv.len
  have hdl:=K.ds.len
  have rds:VReps c s.heap μ ρ d.dflt R.ds:=K.ds.mono (fun a o e _=>I.base a o e) List.nil_prefix
  have rall:VReps c s.heap μ ρ (vs ++ d.dflt.drop (d.dflt.length - (d.np - vs.length))) (xs ++ R.ds.drop (d.dflt.length - (d.np - xs.length))):=by
    rw [← hxl]
    exact rv.app (rds.drop _)
  have hball:(vs ++ d.dflt.drop (d.dflt.length - (d.np - vs.length))).length=d.np:=by
    rw [List.length_append,List.length_drop]; omega
  have hnt:(d.nm.take d.np).length=d.np:=by rw [List.length_take]; exact Nat.min_eq_left K.np
  have hbind:=K.bind s xs hKs (by omega) (by omega)
  have hkind : ∀ x ∈ (d.nm.take d.np).zip (xs ++ R.ds.drop (d.dflt.length - (d.np - xs.length))),R.scope.names.lookup x.1=some .local ∨ (R.scope.names.lookup x.1=some .cell∧((cellsFrom (s.heap.objs.size + 1) R.scope.names []).lookup x.1).isSome=true):=by
    intro x hx
    have hm:x.1 ∈ d.nm.take d.np:=(zip_sub _ _).subset (List.mem_map_of_mem hx)
    rcases K.loc _ hm with q | q
    · exact .inl q
    · exact .inr ⟨q,cellsFrom_some _ _ _ (.inl q)⟩
  refine codeAny_call_function (by omega) (hKs _ _ K.at_) rfl K.co K.gen rfl (codeRec_of hKs K.code) (hbind _ _ _ _ (wpAny_newFunctionEnv_cells K.kind hkind fun env he s₁ x => ?_))
  subst he
  obtain ⟨⟨⟨h₁,tk,rfl⟩,xns,xkeep,xfresh⟩,xcell,_,xabove⟩:=x
  refine ⟨P.T.nolimit.keeps fun b o e=>xkeep b o (hBs b o e),codeAny_func ?_⟩
  let env := newEnv R.scope s.heap.objs.size mainGlobals (cellsFrom (s.heap.objs.size + 1) R.scope.names []) (R.qual ++ ".<locals>.") (some a) R.cdv none builtinsNs
  let g:FrI:=⟨env,s.heap.objs.size,bindL env.kindOf ((d.nm.take d.np).zip (xs ++ R.ds.drop (d.dflt.length - (d.np - xs.length)))) fun _=>none⟩
  have sz:s.heap.objs.size≤h₁.objs.size:=Nat.le_of_lt xns.lt
  have I1:Inv c (g :: gs) (plus μ g.L) ρ σ h₁:=I.push xkeep sz (g:=g) (Nat.le_refl _) rfl rfl K.kind xns
  have st1:St c (g :: gs) s μ ρ σ { s with heap:=h₁,toks:=tk } (plus μ g.L) ρ:=⟨I1,grow_plus xkeep (Nat.le_refl _),List.prefix_refl _,rfl,rfl⟩
  have hnds:(((d.nm.take d.np).zip (xs ++ R.ds.drop (d.dflt.length - (d.np - xs.length)))).map (·.1)).Nodup:=zip_keys K.nd
  have hfr:FrRep c h₁ (plus μ g.L) ρ g d.nm ((vs ++ d.dflt.drop (d.dflt.length - (d.np - vs.length))).map some ++ List.replicate (d.nm.length - d.np) none):=by
    intro i y v e1 e2
    have hi:i < d.np:=by
      rcases Nat.lt_or_ge i d.np with q | q
      · exact q
      · rw [List.getElem?_append_right (by rw [List.length_map, hball]; exact q)] at e2
        have:=List.mem_of_getElem? e2
        rw [List.mem_replicate] at this
        exact absurd this.2 (by simp)
    rw [List.getElem?_append_left (by rw [List.length_map,hball]; exact hi),List.getElem?_map] at e2
    have e2':(vs ++ d.dflt.drop (d.dflt.length - (d.np - vs.length)))[i]? = some v:=by
      cases q:(vs ++ d.dflt.drop (d.dflt.length - (d.np - vs.length)))[i]? with
      | none=>rw [q] at e2; simp at e2
      | some w=>rw [q] at e2; simpa using e2
    have e1':(d.nm.take d.np)[i]? = some y:=by rw [List.getElem?_take]; simp [hi,e1]
    obtain ⟨x,hx,rx⟩:=rall.get e2'
    have hmem:=zip_get e1' hx
    have rx':VRep c h₁ (plus μ g.L) ρ v x:=rx.mono st1.grow (List.prefix_refl _)
    rcases K.loc y (List.mem_of_getElem? e1') with q | q
    · exact .inl ⟨q,x,bindL_mem (kindOf:=env.kindOf) q _ _ hnds hmem,rx'⟩
    · have hs := cellsFrom_some R.scope.names (s.heap.objs.size + 1) [] (.inl q)
      obtain ⟨ca,hca⟩:=Option.isSome_iff_exists.mp hs
      obtain ⟨o,ho,hdo⟩:=xcell y ca hca
      have hcm:bindC env.kindOf ((d.nm.take d.np).zip (xs ++ R.ds.drop (d.dflt.length - (d.np - xs.length)))) (fun _=>none) y=some x:=bindC_mem (kindOf:=env.kindOf) (by show R.scope.names.lookup y ≠ _; rw [q]; intro z; cases z) _ _ hnds hmem
      have hab:=xabove y ca (mem_of_lookup hca)
      refine .inr ⟨.inl q,ca,o,x,hca,ho, ?_, ?_,rx'⟩
      · rw [← hcm]; exact hdo
      · rintro (z | z)
        · exact Nat.lt_irrefl _ (Nat.lt_trans (I.mlt _ z) hab)
        · exact Nat.lt_irrefl _ (z ▸ hab)
  have okg:FrI.ok (A.deeper env) (g :: gs):=by
    obtain ⟨o1,o2,o3⟩:=ok
    refine ⟨?_,o2,fun f' hf' => ?_⟩
    · show A.frames.map (env :: ·) = _
      rw [o1]; rfl
    · rcases List.mem_cons.mp hf' with rfl | hf'
      · exact ⟨rfl,rfl⟩
      · exact o3 f' hf'
  have Gg:Go c n (A.deeper env) g gs { s with heap:=h₁,toks:=tk } (plus μ g.L) ρ σ d.nm R.scope ((vs ++ d.dflt.drop (d.dflt.length - (d.np - vs.length))).map some ++ List.replicate (d.nm.length - d.np) none) :=
    ⟨P,I1,okg,by show A.depth + 1 + n < _; omega,by show A.units + 3 + 8 * n + 64 < _; omega,rfl,fun k I' hI hO=>K.lam k I' hI hO,hfr⟩
  cases hex:exSs c.T n d.body ((vs ++ d.dflt.drop (d.dflt.length - (d.np - vs.length))).map some ++ List.replicate (d.nm.length - d.np) none) σ with
  | none=>rw [hex] at hr; cases hr
  | some o =>
    rw [hex] at hr
    refine wpAny_mono (HS htr hex Gg) (fun fl s₂ h => ?_) (fun e s₂ h => ?_)
    · obtain ⟨m', σ', μ', ρ', st, hh⟩ := h
      have st':St c gs s μ ρ σ' s₂ μ' ρ':=(st1.trans st).pop
      rcases hh with ⟨fr',rfl,rfl,_⟩ | ⟨v,x,rfl,rfl,rx⟩
      · cases hr; exact ⟨_,_,_,_,rfl,st', .none⟩
      · cases hr; exact ⟨_,_,_,_,rfl,st',rx⟩
    · obtain ⟨m', σ', μ', ρ', i, fr', b, st, rfl, rfl, hi, hf, _⟩ := h
      first | obtain rfl:=oi hr | exact n0 hr | exact n1 hr | cases hr
      have okg':(A.deeper env).frames=some ((g.upd m' :: gs).map (·.env)):=okg.f
      refine leave_ok (f:=g.upd m') st.inv okg' hi hf fun s₃ μ₃ st3 nt => ?_
      exact ⟨_,_,_,_,_,rfl,rfl,((st1.trans st).trans st3).pop,hi,nt.fly⟩
end
end Mine
end
section
set_option tactic.hygienic false
namespace Mine
open PySem PySem.W PySem.Spec PySem.Calls PyProof.Rows PyProof.V

noncomputable def SCode (c:Cx) (n:Nat):Prop := ∀ {v vs σ r},callV c.T n v vs σ=some r → ∀ {A f fs s μ ρ},Prog c→Inv c (f :: fs) μ ρ σ s.heap→FrI.ok A (f :: fs)→A.depth + n < recursionLimit→A.units + 8 * n + 64 < cLine →
  ∀ {x xs},VRep c s.heap μ ρ v x→VReps c s.heap μ ρ vs xs→codeAny (model c.prog c.w) A (.call x ⟨xs,[]⟩) (RX c (f :: fs) s μ ρ r) s
theorem SCode.call {c:Cx} {n:Nat} (H:SCode c n):SCall c n:=by
  intro v vs σ r hr A f fs s μ ρ P I ok hd hu x xs rx rxs
  refine wpAny_call (codeAny_mono (H hr P I ok hd hu rx rxs) fun q s' h => ?_)
  cases q with
  | error e=>exact h
  | ok fl=>cases fl <;> exact h
noncomputable def ExcMk (c:Cx):Prop := ∀ {A:Around} {f:FrI} {fs:List FrI} {s:Shared} {μ:Addr→Prop} {ρ:List (Addr × Addr)} {σ:List Cell},Prog c→Inv c (f :: fs) μ ρ σ s.heap→FrI.ok A (f :: fs)→A.depth + 3 < recursionLimit→A.units + 80 < cLine →
  ∀ {C' : Addr} {w a : V} {xw xa : Value}, c.fnA 0 = some C' → VRep c s.heap μ ρ w xw → VRep c s.heap μ ρ a xa →
    codeAny (model c.prog c.w) A (.call (.ref C') ⟨[xw,xa],[]⟩) (RX c (f :: fs) s μ ρ (.ok (.ref σ.length) (σ ++ [.new 0 [(10,w),(1,a)]]))) s
structure LamOK (c:Cx) (k:Nat) (I:LamI) (x:X):Prop where
  tr : ∃ m nm,trX c nm I.scope m x=some I.body∧nm.drop (c.T.lamn k)=freeOf I.scope.names∧c.T.lamn k≤nm.length∧(nm.take (c.T.lamn k)).Nodup ∧
    (∀ y ∈ nm.take (c.T.lamn k),I.scope.names.lookup y=some .local)∧(∀ y ∈ freeOf I.scope.names,I.scope.names.lookup y=some .free) ∧
    (∀ (xs : List Value) (cl : List (Str × Addr)) (pm cdv ct : Value), xs.length = c.T.lamn k → bindArgs (kla_fn "<lambda>" I.qual I.params I.body I.scope cl pm cdv ct) ⟨xs, []⟩ = pure ((nm.take (c.T.lamn k)).zip xs))
  kind:I.scope.kind = .function
  co:I.scope.isCoroutine=false
  gen:I.scope.isGenerator=false
  cell : ∀ x ∈ I.scope.names,x.2 ≠ .cell
  none_ : ∀ k' I',c.lamI k'=some I'→I'.owner ≠ I.scope
structure Prog2 (c:Cx):Prop extends Prog c where
  fn : ∀ g d,c.T.fn g=some d → ∃ a R,c.fnA g=some a∧FnOK c a d R
  cls : ∀ g k, c.T.fn g = none → c.T.init g = some k → g < 4 ∧ (∀ C, c.fnA g = some C → ∃ fI, c.fnA k = some fI ∧ makesIn c.K C = true ∧ findIn c.K (.ref C) "__init__" = some (some (.ref fI)) ∧ isFn c.K (.ref fI) = true)
  lamk : ∀ k x,c.T.lam k=some x → ∃ I,c.lamI k=some I∧LamOK c k I x
  exc:ExcMk c
  exc0:c.T.fn 0=none∧c.T.init 0=none
section
variable {c:Cx} {n:Nat} {A:Around} {f:FrI} {fs:List FrI} {s:Shared} {μ:Addr→Prop} {ρ:List (Addr × Addr)} {σ:List Cell} {r:R V}
theorem CRep.get {h:Heap} {ns:List (Str × NameKind)} : ∀ {cl:List (Str × Addr)} {vs:List V},CRep c h μ ρ ns cl vs→vs.length=(freeOf ns).length ∧ ∀ (j:Nat) (y:Str) (v:V),(freeOf ns)[j]? = some y→vs[j]? = some v →
    ∃ ca o x,cl.lookup y=some ca∧h.get? ca=some o∧o.data = .cell (some x) ∧ ¬ μ ca∧VRep c h μ ρ v x:=by
  induction ns with
  | nil=>intro cl vs r; cases r; exact ⟨rfl,fun j y v e=>by cases e⟩
  | cons p ns ih =>
    intro cl vs r
    cases r with
    | @skip y k _ _ _ hk r =>
      have e:freeOf ((y,k) :: ns)=freeOf ns:=congrArg (List.map _) (List.filter_cons_of_neg (show ¬ ((k == .free)=true) from fun q=>hk (beq_iff_eq.mp q)))
      rw [e]
      exact ih r
    | cons l e1 e2 n1 rv r =>
      obtain ⟨a,b⟩:=ih r
      refine ⟨congrArg Nat.succ a,fun j z v h1 h2 => ?_⟩
      cases j with
      | zero=>cases h1; cases h2; exact ⟨_,_,_,l,e1,e2,n1,rv⟩
      | succ j=>exact b j z v h1 h2
theorem rev_lookup {binds : List (Str × Value)} {y : Str} {x : Value} (hn : (binds.map (·.1)).Nodup) (h : (y, x) ∈ binds) : binds.reverse.lookup y = some x := by
  have go : ∀ l:List (Str × Value),(l.map (·.1)).Nodup→(y,x) ∈ l→l.lookup y=some x:=by
    intro l
    induction l with
    | nil=>intro _ h; exact nomatch h
    | cons p l ih =>
      intro hn h
      rw [List.map_cons,List.nodup_cons] at hn
      rw [List.lookup_cons]
      rcases List.mem_cons.mp h with rfl | h
      · simp
      · have : (y == p.1) = false := beq_eq_false_iff_ne.mpr fun q => hn.1 (q ▸ List.mem_map_of_mem (f := (·.1)) h)
        rw [this]
        exact ih hn.2 h
  exact go _ (by rw [List.map_reverse]; exact ((List.reverse_perm _).nodup_iff).mpr hn) (List.mem_reverse.mpr h)
set_option tactic.hygienic true in theorem call_lam (H:SX c n) (P:Prog2 c) (I:Inv c (f :: fs) μ ρ σ s.heap) (ok:FrI.ok A (f :: fs)) (hd:A.depth + (n + 1) < recursionLimit) (hu:A.units + 8 * (n + 1) + 64 < cLine)
    {k:Nat} {cs vs:List V} {fv:Value} {xs:List Value} {x:X} (hx:c.T.lam k=some x) (rf:VRep c s.heap μ ρ (.clo k cs) fv) (rv:VReps c s.heap μ ρ vs xs) (hl:vs.length=c.T.lamn k)
    (hr:exX c.T n x ((vs ++ cs).map some) σ=some r):codeAny (model c.prog c.w) A (.call fv ⟨xs,[]⟩) (RX c (f :: fs) s μ ρ r) s:=by
  obtain ⟨I₀,hI,L⟩:=P.lamk k x hx
  obtain ⟨m,nm,htr,hdrop,hle,hnd,hloc,hfree,hbind⟩:=L.tr
  cases rf with
  | clo l e1 n1 e2 e3 e4 n2 cr =>
    rw [hI] at l
    first | obtain rfl:=oi l | exact n0 l | exact n1 l | cases l
    rename_i fa c' ctv pm cl oc ov tq
    have hxl:=rv.len
    have hBs : ∀ b o,c.B.get? b=some o→s.heap.get? b=some o:=fun b o e=>(I.base b o e).1
    have hb:=hbind xs cl pm (.ref c') ctv (by omega)
    have hnt:(nm.take (c.T.lamn k)).length=c.T.lamn k:=by rw [List.length_take]; exact Nat.min_eq_left hle
    have hnds:(((nm.take (c.T.lamn k)).zip xs).map (·.1)).Nodup:=zip_keys hnd
    refine kla_callFunE (by omega) e1 rfl L.co L.gen rfl ⟨c',oc,ov,tq,rfl,e2,e3,e4⟩ ?_
    rw [hb]
    refine wpAny_pure (wpAny_newFunctionEnv L.cell (fun y hy=>hloc _ ((zip_sub _ _).subset (List.mem_map_of_mem hy))) (fun h₁ hns hsb => ?_) L.kind)
    have xkeep : ∀ b o,s.heap.get? b=some o→h₁.get? b=some o:=fun b o e=>(hsb.2 b (Nat.ne_of_lt (Heap.lt_size e))).trans (Heap.get?_push_of_some _ e)
    refine ⟨P.T.nolimit.keeps fun b o e=>xkeep b o (hBs b o e),kla_codeExpr ?_⟩
    let env := newEnv I₀.scope s.heap.objs.size mainGlobals cl (I₀.qual ++ ".<locals>.") (some fa) (.ref c') none builtinsNs
    let g:FrI:=⟨env,s.heap.objs.size,fun y=>((nm.take (c.T.lamn k)).zip xs).reverse.lookup y⟩
    have sz:s.heap.objs.size≤h₁.objs.size:=Nat.le_of_lt hns.lt
    have I1:Inv c (g :: f :: fs) (plus μ g.L) ρ σ h₁:=I.push xkeep sz (g:=g) (Nat.le_refl _) rfl rfl L.kind hns
    have st1:St c (g :: f :: fs) s μ ρ σ { s with heap:=h₁,toks:=s.toks + ((nm.take (c.T.lamn k)).zip xs).length } (plus μ g.L) ρ:=⟨I1,grow_plus xkeep (Nat.le_refl _),List.prefix_refl _,rfl,rfl⟩
    obtain ⟨cl1,cl2⟩:=cr.get
    have hfr:FrRep c h₁ (plus μ g.L) ρ g nm ((vs ++ cs).map some):=by
      intro i y v q1 q2
      have q2':(vs ++ cs)[i]? = some v:=by
        rw [List.getElem?_map] at q2
        cases q:(vs ++ cs)[i]? with
        | none=>rw [q] at q2; cases q2
        | some w=>rw [q] at q2; simpa using q2
      rcases Nat.lt_or_ge i vs.length with hi | hi
      · rw [List.getElem?_append_left hi] at q2'
        have e1':(nm.take (c.T.lamn k))[i]? = some y:=by rw [List.getElem?_take]; simp [← hl,hi,q1]
        obtain ⟨z,hz,rz⟩:=rv.get q2'
        exact .inl ⟨hloc y (List.mem_of_getElem? e1'),z,rev_lookup hnds (zip_get e1' hz),rz.mono st1.grow (List.prefix_refl _)⟩
      · rw [List.getElem?_append_right hi] at q2'
        have e1':(freeOf I₀.scope.names)[i - vs.length]? = some y:=by
          rw [← hdrop,List.getElem?_drop, ← hl,show vs.length + (i - vs.length)=i by omega]
          exact q1
        obtain ⟨ca,o,z,z1,z2,z3,z4,z5⟩:=cl2 _ y v e1' q2'
        exact .inr ⟨.inr (hfree y (List.mem_of_getElem? e1')),ca,o,z,z1,(st1.grow _ _ z2 z4).1,z3,(st1.grow _ _ z2 z4).2,z5.mono st1.grow (List.prefix_refl _)⟩
    have okg:FrI.ok (A.deeper env) (g :: f :: fs):=by
      obtain ⟨o1,o2,o3⟩:=ok
      refine ⟨?_,o2,fun f' hf' => ?_⟩
      · show A.frames.map (env :: ·) = _
        rw [o1]; rfl
      · rcases List.mem_cons.mp hf' with rfl | hf'
        · exact ⟨rfl,rfl⟩
        · exact o3 f' hf'
    have Gg:Go c n (A.deeper env) g (f :: fs) { s with heap:=h₁,toks:=s.toks + ((nm.take (c.T.lamn k)).zip xs).length } (plus μ g.L) ρ σ nm I₀.scope ((vs ++ cs).map some) :=
      ⟨P.toProg,I1,okg,by show A.depth + 1 + n < _; omega,by show A.units + 3 + 8 * n + 64 < _; omega,rfl,fun k' I' hI' hO=>absurd hO (L.none_ k' I' hI'),hfr⟩
    refine wpAny_mono (H htr hr Gg) (fun y s₂ h => ?_) (fun e s₂ h => ?_)
    · obtain ⟨v, σ', μ', ρ', rfl, st, rx⟩ := h
      exact ⟨_,_,_,_,rfl,(st1.trans st).pop,rx⟩
    · obtain ⟨i, σ', μ', ρ', b, rfl, rfl, st, hi, hf⟩ := h
      refine leave_ok (f:=g) st.inv okg.1 hi hf fun s₃ μ₃ st3 nt => ?_
      exact ⟨_,_,_,_,_,rfl,rfl,((st1.trans st).trans st3).pop,hi,nt.fly⟩
end
end Mine
end
section
set_option tactic.hygienic false
namespace Mine
open PySem PySem.W PySem.Spec PySem.Calls PyProof.Rows PyProof.V

section
variable {c:Cx} {n:Nat} {A:Around} {f:FrI} {fs:List FrI} {s:Shared} {μ:Addr→Prop} {ρ:List (Addr × Addr)} {σ:List Cell} {r:R V}
theorem call_cls' (H : SCode c n) (P : Prog2 c) (I : Inv c (f :: fs) μ ρ σ s.heap) (ok : FrI.ok A (f :: fs)) (hd : A.depth + (n + 1) < recursionLimit) (hu : A.units + 8 * (n + 1) + 64 < cLine)
    {g k:Nat} {C:Addr} (h0:c.T.fn g=none) (h1:c.T.init g=some k) (hC:c.fnA g=some C) {vs:List V} {xs:List Value} (rv:VReps c s.heap μ ρ vs xs)
    (hr:bnd (callV c.T n (.base k) (.ref σ.length :: vs) (σ ++ [.inst g []])) (fun v s'=>match v with | .none=>some (.ok (.ref σ.length) s') | _=>none)=some r) :
    codeAny (model c.prog c.w) A (.call (.ref C) ⟨xs,[]⟩) (RX c (f :: fs) s μ ρ r) s:=by
  obtain ⟨hg4,hcl⟩:=P.cls g k h0 h1
  obtain ⟨fI,hfI,hm,hi,hf⟩:=hcl C hC
  have hKs:c.K.In s.heap:=fun b o e=>(I.base b o (P.XK b o e)).1
  have hkeep : ∀ a o,s.heap.get? a=some o→((s.heap.push emptyDict).push (instObj C s.heap.objs.size)).get? a=some o:=fun a o e=>Heap.get?_push_of_some _ (Heap.get?_push_of_some _ e)
  have hsz:((s.heap.push emptyDict).push (instObj C s.heap.objs.size)).objs.size=s.heap.objs.size + 2:=by rw [Heap.size_push,Heap.size_push]
  have hd1:((s.heap.push emptyDict).push (instObj C s.heap.objs.size)).get? s.heap.objs.size=some (dictOf [] 0):=Heap.get?_push_of_some _ (Heap.get?_push_size _ rfl)
  have hx1:((s.heap.push emptyDict).push (instObj C s.heap.objs.size)).get? (s.heap.objs.size + 1)=some (instObj C s.heap.objs.size):=by
    have:=Heap.get?_push_size (s.heap.push emptyDict) (o:=instObj C s.heap.objs.size) rfl
    rwa [Heap.size_push] at this
  have ca:CellAt c ((s.heap.push emptyDict).push (instObj C s.heap.objs.size)) (plus μ s.heap.objs.size) (ρ ++ [(s.heap.objs.size + 1,s.heap.objs.size)]) (s.heap.objs.size + 1,s.heap.objs.size) (.inst g []) :=
    .inst hg4 hC hx1 (fun z=>z.elim (fun z=>absurd (I.mlt _ z) (Nat.not_lt.mpr (Nat.le_succ _))) (fun z=>absurd z (Nat.succ_ne_self _))) hd1 (.inr rfl) .nil
  have st1:=St.cell I hkeep (by rw [hsz]; exact Nat.le_add_right _ _) (Nat.le_refl _) (by rw [hsz]; exact Nat.lt_add_of_pos_right (by decide)) ca (tk:=s.toks)
  have okA : FrI.ok (A.under (.builtin "type.__call__" ⟨.ref C :: xs, []⟩)) (f :: fs) := ⟨ok.f, ok.h, ok.g⟩
  have rx:VRep c ((s.heap.push emptyDict).push (instObj C s.heap.objs.size)) (plus μ s.heap.objs.size) (ρ ++ [(s.heap.objs.size + 1,s.heap.objs.size)]) (.ref σ.length) (.ref (s.heap.objs.size + 1)):=by
    refine .ref (d:=s.heap.objs.size) ?_
    rw [← I.len,List.getElem?_append_right (Nat.le_refl _),Nat.sub_self]
    rfl
  have rb:VRep c ((s.heap.push emptyDict).push (instObj C s.heap.objs.size)) (plus μ s.heap.objs.size) (ρ ++ [(s.heap.objs.size + 1,s.heap.objs.size)]) (.base k) (.ref fI) := .base hfI
  obtain ⟨hh,gg,dd,tt,os⟩:=s
  refine make_core (makes_of hKs hm) (looks_findIn hKs hi) (fun self=>bind_fn hKs self (beq_iff_eq.mp hf)) (.inl rfl) ?_
  have go : ∀ {r1}, callV c.T n (.base k) (.ref σ.length :: vs) (σ ++ [.inst g []]) = some r1 → codeAny (model c.prog c.w) (A.under (.builtin "type.__call__" ⟨.ref C :: xs, []⟩)) (.call (.ref fI) ⟨.ref (hh.objs.size + 1) :: xs, []⟩) (RX c (f :: fs) ⟨(hh.push emptyDict).push (instObj C hh.objs.size), gg, dd, tt, os⟩ (plus μ hh.objs.size) (ρ ++ [(hh.objs.size + 1, hh.objs.size)]) r1) ⟨(hh.push emptyDict).push (instObj C hh.objs.size), gg, dd, tt, os⟩ := fun {r1} h =>
    H h P.toProg st1.inv okA (by show A.depth + 1 + n < _; omega) (by show A.units + 1 + 8 * n + 64 < _; omega) rb (.cons rx (rv.mono st1.grow st1.pre))
  rcases bnd_some hr with ⟨v,σ₁,e1,e2⟩ | ⟨i,σ₁,e1,e2⟩
  · refine codeAny_mono (go e1) fun q s' h => ?_
    cases q with
    | error e=>obtain ⟨_,_,_,_,_,z,_⟩:=h; cases z
    | ok fl =>
      cases fl with
      | ret v' =>
        obtain ⟨v0,σ',μ',ρ',z,st,rep⟩:=h
        first | obtain rfl:=oi z | exact n0 z | exact n1 z | cases z
        cases v with
        | none =>
          first | obtain rfl:=oi rep | exact n0 rep | exact n1 rep | cases rep
          first | obtain rfl:=oi e2 | exact n0 e2 | exact n1 e2 | cases e2
          refine ⟨rfl,_,_,_,_,rfl,st1.trans st, ?_⟩
          exact rx.mono st.grow st.pre
        | _=>cases e2
      | _=>exact h.elim
  · refine codeAny_mono (go e1) fun q s' h => ?_
    cases q with
    | error e=>exact EX.up st1 (fun i σ z=>by cases z; exact e2) h
    | ok fl =>
      cases fl with
      | ret v'=>obtain ⟨_,_,_,_,z,_⟩:=h; cases z
      | _=>exact h.elim
set_option tactic.hygienic true in theorem scode_step (HX:SX c n) (HS:SSs c n) (H:SCode c n) (P2:Prog2 c):SCode c (n + 1):=by
  intro v vs σ r hr A f fs s μ ρ P I ok hd hu x xs rx rxs
  cases v with
  | base g =>
    simp only [eC_base] at hr
    cases rx with
    | base hA =>
      cases hfn:c.T.fn g with
      | some d =>
        rw [hfn] at hr
        simp only at hr
        split at hr
        · rename_i hc
          simp only [Bool.and_eq_true,decide_eq_true_eq] at hc
          obtain ⟨a',Rn,ha,K⟩:=P2.fn g d hfn
          rw [hA] at ha
          first | obtain rfl:=oi ha | exact n0 ha | exact n1 ha | cases ha
          exact call_fn HS P I ok hd hu K rxs hc.1 hc.2 hr
        · first | obtain rfl:=oi hr | exact n0 hr | exact n1 hr | cases hr
      | none =>
        rw [hfn] at hr
        simp only at hr
        cases hin:c.T.init g with
        | some k =>
          rw [hin] at hr
          exact call_cls' H P2 I ok hd hu hfn hin hA rxs hr
        | none =>
          rw [hin] at hr
          simp only at hr
          split at hr
          · rename_i hg
            obtain ⟨rfl,hn3⟩:=hg
            split at hr
            · rename_i w a
              first | obtain rfl:=oi hr | exact n0 hr | exact n1 hr | cases hr
              obtain ⟨_,_,rfl,rw1,rest⟩:=rxs.cons_; clear rxs
              obtain ⟨_,_,rfl,ra,rest⟩:=rest.cons_; clear rest
              first | obtain rfl:=oi rest | exact n0 rest | exact n1 rest | cases rest
              exact P2.exc P I ok (by omega) (by omega) hA rw1 ra
            · first | obtain rfl:=oi hr | exact n0 hr | exact n1 hr | cases hr
          · first | obtain rfl:=oi hr | exact n0 hr | exact n1 hr | cases hr
  | clo k cs =>
    simp only [eC_clo] at hr
    split at hr
    · rename_i x' hx
      split at hr
      · rename_i hl
        exact call_lam HX P2 I ok hd hu hx rx rxs hl hr
      · first | obtain rfl:=oi hr | exact n0 hr | exact n1 hr | cases hr
    · first | obtain rfl:=oi hr | exact n0 hr | exact n1 hr | cases hr
  | _=>exact n0 hr
end
end Mine
end
section
set_option tactic.hygienic false
namespace Mine
open PySem PySem.W PySem.Spec PySem.Calls PyProof.Rows PyProof.V

theorem CellAt.live {c:Cx} {h:Heap} {μ:Addr→Prop} {ρ:List (Addr × Addr)} {p:Addr × Addr} {q:Cell} (x:CellAt c h μ ρ p q) : ∃ o,h.get? p.2=some o:=by
  cases x with
  | inst z a e1 n1 e2 m f=>exact ⟨_,e2⟩
  | list e m v=>exact ⟨_,e⟩
  | exc z a e o1 o2 o3 m e2 n2 f=>exact ⟨_,e⟩
  | new z a e o1 o2 o3 m e2 n2 f tb=>exact ⟨_,e⟩
theorem CellsAt.live {c:Cx} {h:Heap} {μ:Addr→Prop} {ρ₀:List (Addr × Addr)} : ∀ {ρ:List (Addr × Addr)} {σ:List Cell},CellsAt c h μ ρ₀ ρ σ → ∀ p ∈ ρ, ∃ o,h.get? p.2=some o:=fun H=>H.ind (P:=fun ρ _ => ∀ p ∈ ρ, ∃ o,h.get? p.2=some o) (fun _ z=>(List.not_mem_nil z).elim) fun a _ ih p hp=>(List.mem_cons.mp hp).elim (fun e=>e ▸ a.live) (ih p)
theorem St.kept {c:Cx} {f:FrI} {fs:List FrI} {s:Shared} {μ:Addr→Prop} {ρ:List (Addr × Addr)} {σ:List Cell} (I:Inv c (f :: fs) μ ρ σ s.heap) {h':Heap} (k : ∀ a o,s.heap.get? a=some o→h'.get? a=some o) :
    ∃ μ':Addr→Prop,(∀ a,μ' a → ∃ o,s.heap.get? a=some o) ∧ ∀ tk,St c (f :: fs) s μ ρ σ { s with heap:=h',toks:=tk } μ' ρ:=by
  have g:Grow s.heap μ h' (fun a=>μ a ∧ ∃ o,s.heap.get? a=some o):=fun a o e n=>⟨k a o e,fun z=>n z.1⟩
  have liveL : ∀ f' ∈ f :: fs, ∃ o,s.heap.get? f'.L=some o:=fun f' hf=>by
    obtain ⟨_,_,_,⟨o,es,ep,ho,_⟩,_⟩:=I.frames f' hf
    exact ⟨o,ho⟩
  refine ⟨fun a=>μ a ∧ ∃ o,s.heap.get? a=some o,fun a z=>z.2,fun tk=>⟨⟨fun a o e=>⟨k _ _ (I.base a o e).1,fun z=>(I.base a o e).2 z.1⟩, ?_,fun a z => ?_,fun f' hf => ?_, ?_,I.nodup,fun q hq => ?_⟩,g,List.prefix_refl _,rfl,rfl⟩⟩
  · obtain ⟨o, ho⟩ := liveL f List.mem_cons_self
    exact Nat.le_of_lt (Nat.lt_of_le_of_lt (I.frames f List.mem_cons_self).le (Heap.lt_size (k _ _ ho)))
  · obtain ⟨_, o, ho⟩ := z
    exact Heap.lt_size (k _ _ ho)
  · obtain ⟨a, b, d, n, m, l⟩ := I.frames f' hf
    exact ⟨a,b,d,n.keeps k,⟨m,liveL f' hf⟩,l⟩
  · exact I.cells.step g (List.prefix_refl _) (fun p _ o e=>k _ o e) (fun p hp m=>⟨m,I.cells.live p hp⟩)
  · have t := I.tabs q hq
    refine ⟨⟨t.1, ?_⟩,t.2.step g fun o e=>k _ o e⟩
    obtain ⟨ps,e,_⟩:=t.2
    exact ⟨_,e⟩

structure Prog3 (c:Cx):Prop extends Prog2 c where
  keepF : ∀ g a,c.fnA g=some a→keepIn c.K (.ref a)=true
  meth : ∀ C C' f k,C < 4→c.T.mth C f=some k→c.fnA C=some C' → ∃ a,c.fnA k=some a∧plainGet c.K C' (c.an f)=true∧findIn c.K (.ref C') (c.an f)=some (some (.ref a))∧isFn c.K (.ref a)=true
  fld : ∀ C C' f, C < 4 → C ≠ 0 → c.fnA C = some C' → f ≤ 10 → plainGet c.K C' (c.an f) = true ∧ findIn c.K (.ref C') "__getattribute__" = some (some (.builtin "object.__getattribute__")) ∧ findIn c.K (.ref C') "__getattr__" = some none ∧
    ∃ r, findIn c.K (.ref C') (c.an f) = some r ∧ r.all (fun a => (typeIn c.K a).any fun t => t != .type "function" && t != .type "method_descriptor" && t != .type "wrapper_descriptor") = true
  sta : ∀ C C' f, C < 4 → C ≠ 0 → c.fnA C = some C' → f ≤ 10 → findIn c.K (.ref C') "__setattr__" = some (some (.builtin "object.__setattr__")) ∧ plainOver c.K C' = true ∧ takerIn c.K C' (c.an f) = some none ∧ hasDictIn c.K C' = true
  exct : ∀ C', c.fnA 0 = some C' → typeIn c.K (.ref C') = some (.type "type") ∧ exmOne c.K (.ref C') (.ref C') = some true ∧ c.mg (c.gn 0) = some (.ref C')
  an37 : c.an 37 = "split"
  an38 : c.an 38 = "lower"
  an39 : c.an 39 = "append"

section
variable {c:Cx} {n m:Nat} {A:Around} {f:FrI} {fs:List FrI} {s:Shared} {μ:Addr→Prop} {ρ:List (Addr × Addr)} {σ:List Cell} {nm:List Str} {sc:Scope} {fr:List (Option V)} {e:Expr} {r:R V}

theorem plain_args {env:Env} {pos:Pos} : ∀ {m:Nat} {as:List X} {es:List Expr},trXs c nm sc m as=some es→(backTo pos (starEach es env)).any (·.1)=false
  | _,[],_,h=>by obtain rfl:=trXs_nil h; rfl
  | _, x :: l, _, h => by
    obtain ⟨m',e,es',rfl,h1,h2,rfl,hs⟩:=trXs_cons h
    rw [star_cons hs]
    show (false || (backTo pos (starEach es' env)).any (·.1))=false
    rw [plain_args h2]; rfl
theorem xs_nil_of {as:List X} (h:trXs c nm sc m as=some []):as=[]:=by
  cases as with
  | nil=>rfl
  | cons x l=>obtain ⟨_,_,_,_,_,_,e,_⟩:=trXs_cons h; cases e

theorem Go.callWith {α:Type} (HS:SXs c n) (G:Go c n A f fs s μ ρ σ nm sc fr) {as:List X} {es:List Expr} (ht:trXs c nm sc m as=some es) {k:List V→List Cell→O α} {r:R α} (hr:bnd (exXs c.T n as fr σ) k=some r)
    {fv:Value} {P:Heap→Prop} (hk : ∀ h,P h → ∃ k,(k=Keeper.frame ∨ k=Keeper.machine ∨ k=Keeper.boundFrame)∧Looks (model c.prog c.w) h (keeperOf fv) k)
    {first:List Value} {pos:Pos} {Q E:Value→Shared→Prop} (hE : ∀ e s',EX c (f :: fs) s μ ρ r e s'→E e s')
    (h : ∀ vs σ₁ ys s₁ μ₁ ρ₁,k vs σ₁=some r→Go c n A f fs s₁ μ₁ ρ₁ σ₁ nm sc fr→St c (f :: fs) s μ ρ σ₁ s₁ μ₁ ρ₁→VReps c s₁.heap μ₁ ρ₁ vs ys→P s₁.heap∧wpAny (model c.prog c.w) A (call fv (first ++ ys)) Q E s₁) :
    wpAny (model c.prog c.w) A (callWith pos fv first (backTo pos (starEach es f.env)) []) Q E s:=by
  refine callWith_of (P:=P) (by rw [plain_args ht]; rfl) hk ?_
  cases es with
  | nil =>
    obtain rfl:=xs_nil_of ht
    refine evalArgs_nil3 ?_
    cases n with
    | zero=>exact Mine.n0 hr
    | succ n =>
      exact h _ _ _ _ _ _ hr G (.refl G.inv) .nil
  | cons e rest =>
    cases as with
    | nil=>have:=trXs_nil ht; cases this
    | cons x l =>
      obtain ⟨m',e',es',rfl,h1,h2,e1,hs⟩:=trXs_cons ht
      first | obtain rfl:=oi e1 | exact n0 e1 | exact n1 e1 | cases e1
      have hrun:=HS.run G ht hr (pos:=pos) (Q:=fun vs s'=>(fun a:Args=>fun s₁:Shared=>P s₁.heap∧wpAny (model c.prog c.w) A (call fv (first ++ a.pos) a.kw) Q E s₁) ⟨vs,[]⟩ s') (E:=E) (fun vs σ₁ ys s₁ μ₁ ρ₁ hk G₁ st rep=>h _ _ _ _ _ _ hk G₁ st rep) hE
      rw [star_cons hs] at hrun ⊢
      exact evalArgs_plain hrun
theorem keeps_fn {a:Addr} {h:Heap} {o:Obj} {fd:FuncData} {M:Model} (e:h.get? a=some o) (d:o.data = .func fd) : ∃ k,(k=Keeper.frame ∨ k=Keeper.machine ∨ k=Keeper.boundFrame)∧Looks M h (keeperOf (.ref a)) k:=by
  obtain ⟨oc,od,oda,osl⟩:=o
  first | obtain rfl:=oi d | exact n0 d | exact n1 d | cases d
  exact ⟨.frame, .inl rfl,(Looks.ld (part:=none) e).andThen .now⟩
noncomputable def KeepP (c:Cx) (v:V) (x:Value) (h:Heap):Prop:=match v,x with
  | .base _,_=>c.K.In h
  | .clo _ _, .ref a => ∃ o fd,h.get? a=some o∧o.data = .func fd
  | _,_=>False
theorem KeepP.keeps (P:Prog3 c) {v:V} {x:Value} {h₀:Heap} {μ:Addr→Prop} (rep:VRep c h₀ μ ρ v x) (h:Heap) (p:KeepP c v x h) : ∃ k,(k=Keeper.frame ∨ k=Keeper.machine ∨ k=Keeper.boundFrame)∧Looks (model c.prog c.w) h (keeperOf x) k:=by
  cases rep with
  | base e=>exact keeps_K (P.keepF _ _ e) h p
  | clo l e1 n1 e2 a b n2 cr=>obtain ⟨o,fd,e,d⟩:=p; exact keeps_fn e d
  | _=>exact p.elim
theorem KeepP.of (G:Go c n A f fs s μ ρ σ nm sc fr) {v:V} {x:Value} (rep:VRep c s.heap μ ρ v x) {vs:List V} {σ':List Cell} (hr:callV c.T n v vs σ'=some r):KeepP c v x s.heap:=by
  cases rep with
  | base e=>exact G.K
  | clo l e1 n1 e2 a b n2 cr=>exact ⟨_,_,e1,rfl⟩
  | _=>cases n <;> exact n0 hr
theorem EX.st {α:Type} {s₁:Shared} {μ₁:Addr→Prop} {ρ₁:List (Addr × Addr)} {σ₁:List Cell} (x:St c fs s μ ρ σ₁ s₁ μ₁ ρ₁) {r:R α} {e:Value} {s':Shared} (y:EX c fs s₁ μ₁ ρ₁ r e s'):EX c fs s μ ρ r e s':=y.up x fun _ _ z=>z
theorem PX.st {s₁:Shared} {μ₁:Addr→Prop} {ρ₁:List (Addr × Addr)} {σ₁:List Cell} (x:St c fs s μ ρ σ₁ s₁ μ₁ ρ₁) {r:R V} {e:Value} {s':Shared} (y:PX c fs s₁ μ₁ ρ₁ r e s'):PX c fs s μ ρ r e s':=by
  obtain ⟨v,σ',μ',ρ',a,b,d⟩:=y
  exact ⟨v,σ',μ',ρ',a,x.trans b,d⟩
theorem s_call {fx:X} {as:List X} {p:Pos} (P3:Prog3 c) (H:SX c n) (HS:SXs c n) (HC:SCall c n) (G:Go c (n + 1) A f fs s μ ρ σ nm sc fr) (ht:trX c nm sc m (.call fx as p)=some e) (hr:exX c.T (n + 1) (.call fx as p) fr σ=some r):wpAny (model c.prog c.w) A (eval e f.env) (PX c (f :: fs) s μ ρ r) (EX c (f :: fs) s μ ρ r) s:=by
  cases m with
  | zero=>exact Mine.n0 ht
  | succ m =>
    obtain ⟨fe,h1,hz_⟩:=bI ht; clear ht; rename _=>ht
    obtain ⟨es,h2,hz_⟩:=bI ht; clear ht; rename _=>ht
    · obtain ⟨hnm, rfl⟩ := ifI ht
      obtain ⟨y,q,rfl⟩:=isNm_ hnm
      have G':=G.less (Nat.le_succ n)
      refine wpAny_Call_NameR (H.run G' h1 hr (fun v σ₁ x s₁ μ₁ ρ₁ hk G₁ st rep => ?_) fun _ _ h=>h)
      refine G₁.callWith HS h2 hk (P:=KeepP c v x) (fun h p=>KeepP.keeps P3 rep h p) (fun _ _ h=>h.st st) fun vs σ₂ ys s₂ μ₂ ρ₂ hc G₂ st2 rv => ?_
      have rep2:=st2.up rep
      exact ⟨KeepP.of G₂ rep2 hc,wpAny_mono (HC hc G₂.bs G₂.inv G₂.ok G₂.d G₂.u rep2 rv) (fun _ _ h=>h.st (st.trans st2)) fun _ _ h=>h.st (st.trans st2)⟩
end
end Mine
end
section
set_option tactic.hygienic false
namespace Mine
open PySem PySem.W PySem.Spec PySem.Calls PyProof.Rows PyProof.V

theorem ints_are {c:Cx} {h:Heap} {μ:Addr→Prop} {ρ:List (Addr × Addr)} (l:List V) : ∀ {xs:List Value} {t:Int},sumI l=some t→VReps c h μ ρ l xs → ∃ ns,IntsAre xs ns∧ns.sum=t:=by
  induction l with
  | nil=>intro xs t e b; obtain rfl:=oi e; obtain rfl:=b.nil_; exact ⟨[], .nil,rfl⟩
  | cons v l ih =>
    intro xs t e b
    cases v with
    | int i =>
      obtain ⟨t',e1,rfl⟩:=mI e
      obtain ⟨_,_,rfl,a,b1⟩:=b.cons_
      obtain ⟨ns,hn,rfl⟩:=ih e1 b1
      obtain ⟨t,rfl⟩:=a.int_
      exact ⟨i :: ns, .cons i t hn,List.sum_cons⟩
    | _=>exact n0 e
theorem keeps_pure {M:Model} {h:Heap} {v:Value} (hv:(∃ id,v = .builtin id) ∨ ∃ T,v = .type T) : ∃ k,(k=Keeper.frame ∨ k=Keeper.machine ∨ k=Keeper.boundFrame)∧Looks M h (keeperOf v) k:=by
  rcases hv with ⟨id,rfl⟩ | ⟨T,rfl⟩ <;> exact ⟨.machine, .inr (.inl rfl), .now⟩
section
variable {c:Cx} {n m:Nat} {A:Around} {f:FrI} {fs:List FrI} {s:Shared} {μ:Addr→Prop} {ρ:List (Addr × Addr)} {σ:List Cell} {nm:List Str} {sc:Scope} {fr:List (Option V)} {e:Expr} {r:R V}
theorem bi_kind {y:Str × Value} : ∀ {b:Nat},biV b=some y→(∃ id,y.2 = .builtin id) ∨ ∃ T,y.2 = .type T
  | 0,h => .inl ⟨_,by rw [← oi h]⟩
  | 1,h => .inl ⟨_,by rw [← oi h]⟩
  | 2,h => .inl ⟨_,by rw [← oi h]⟩
  | 3,h => .inl ⟨_,by rw [← oi h]⟩
  | 4,h => .inr ⟨_,by rw [← oi h]⟩
  | 5,h => .inr ⟨_,by rw [← oi h]⟩
  | 6,h => .inr ⟨_,by rw [← oi h]⟩
  | _ + 7,h=>n0 h
theorem abs_i {i:Int}:(if i < 0 then -i else i)=(i.natAbs:Int):=by split <;> omega
theorem Go.bif (G:Go c n A f fs s μ ρ σ nm sc fr) {b:Nat} {y:Str × Value} (hb:biV b=some y) {vs:List V} {xs:List Value} (rv:VReps c s.heap μ ρ vs xs) {w:V} (hw:bifV σ b vs=some w) {Q E:Value→Shared→Prop}
    (k : ∀ z s' μ',St c (f :: fs) s μ ρ σ s' μ' ρ→VRep c s'.heap μ' ρ w z→Q z s'):wpAny (model c.prog c.w) A (call y.2 xs) Q E s:=by
  have hh:A.handled=none:=G.ok.h
  cases bifO hw with
  | len hl hs =>
    obtain rfl:=oi hb
    obtain ⟨_,_,rfl,a,rest⟩:=rv.cons_; clear rv
    obtain rfl:=rest.nil_
    obtain ⟨p,its,k1,rfl,il,vs⟩:=G.items a hl
    have e1:=vs.len
    refine call_len_list il.isList (by have e2:its.toList.length=its.size:=rfl; omega) ?_
    have:=k (.int its.size (s.toks + 1)) { s with toks:=s.toks + 1 + 1 } μ (.toks G.inv) (by rw [e1]; exact .int _ _)
    exact this
  | @abs i =>
    obtain rfl:=oi hb
    obtain ⟨_,_,rfl,a,rest⟩:=rv.cons_; clear rv
    obtain rfl:=rest.nil_
    obtain ⟨t,rfl⟩:=a.int_; clear a
    refine call_abs_int fun u tk => ?_
    rw [abs_i]
    exact k _ _ μ (.toks G.inv) (.int _ _)
  | sum hl ht =>
    obtain rfl:=oi hb
    obtain ⟨_,_,rfl,a,rest⟩:=rv.cons_; clear rv
    obtain rfl:=rest.nil_
    obtain ⟨p,its,k1,rfl,il,vs⟩:=G.items a hl
    obtain ⟨ns,hi,rfl⟩:=ints_are _ ht vs
    obtain ⟨xs',hx⟩:=hi.allInts.items
    have hn:numsOf its.toList=ns:=hi.numsOf
    rw [show its=intItems xs' from hx] at hn il
    rw [nums_intItems] at hn
    refine sum_intListG hh il.isList fun h' tk t' hk => ?_
    obtain ⟨μ',_,st⟩:=St.kept (h':=h') G.inv hk
    have:=k (.int ns.sum t') _ μ' (st tk) (.int _ _)
    rw [preSum_eq,List.take_of_length_le (by simp),hn]
    exact this
  | @min a b =>
    obtain rfl:=oi hb
    obtain ⟨_,_,rfl,ra,rest⟩:=rv.cons_; clear rv
    obtain ⟨_,_,rfl,rb,rest2⟩:=rest.cons_; clear rest
    obtain rfl:=rest2.nil_
    obtain ⟨ta,rfl⟩:=ra.int_; clear ra
    obtain ⟨tb,rfl⟩:=rb.int_; clear rb
    refine min_two_ints hh fun h' tk hk => ?_
    obtain ⟨μ',_,st⟩:=St.kept (h':=h') G.inv hk
    by_cases hlt:b < a
    · rw [if_pos hlt]
      rw [Int.min_eq_right (Int.le_of_lt hlt)] at k
      exact k (.int b tb) _ μ' (st tk) (.int _ _)
    · rw [if_neg hlt]
      rw [Int.min_eq_left (Int.not_lt.mp hlt)] at k
      exact k (.int a ta) _ μ' (st tk) (.int _ _)
  | lst hl hs =>
    obtain rfl:=oi hb
    obtain ⟨_,_,rfl,a,rest⟩:=rv.cons_; clear rv
    obtain rfl:=rest.nil_
    obtain ⟨p,its,k1,rfl,il,vs⟩:=G.items a hl
    have e1:=vs.len
    refine call_list_seq (hsz:=by have e2:its.toList.length=its.size:=rfl; rw [sizeLine_eq]; omega) p (.inl rfl) il rfl rfl fun h' c' hk hD => ?_
    obtain ⟨μ',hμ,st⟩:=St.kept (h':=h') G.inv hk
    refine k _ _ μ' (st s.toks) (.lst (n:=c') hD (fun z => ?_) (vs.mono (st s.toks).grow (List.prefix_refl _)))
    obtain ⟨o,ho⟩:=hμ _ z
    exact Nat.lt_irrefl _ (Heap.lt_size ho)
  | tup hl hs =>
    obtain rfl:=oi hb
    obtain ⟨_,_,rfl,a,rest⟩:=rv.cons_; clear rv
    obtain rfl:=rest.nil_
    obtain ⟨p,its,k1,rfl,il,vs⟩:=G.items a hl
    have e1:=vs.len
    refine call_tuple_list (hsz:=by have e2:its.toList.length=its.size:=rfl; rw [sizeLine_eq]; omega) il.isList fun h' hk => ?_
    obtain ⟨μ',hμ,st⟩:=St.kept (h':=h') G.inv hk
    have I2:=(st s.toks).inv
    exact k _ _ μ' ((st s.toks).trans (St.push (s:={ s with heap:=h' }) I2 _ (tk:=s.toks))) (rep_tup (tk:=s.toks) (s:={ s with heap:=h' }) (f:=f) (fs:=fs) (σ:=σ) I2 (vs.mono (st s.toks).grow (List.prefix_refl _)))
theorem s_bcall {b:Nat} {bp:Pos} {as:List X} {p:Pos} (HS:SXs c n) (G:Go c (n + 1) A f fs s μ ρ σ nm sc fr) (ht:trX c nm sc m (.bcall b bp as p)=some e) (hr:exX c.T (n + 1) (.bcall b bp as p) fr σ=some r):wpAny (model c.prog c.w) A (eval e f.env) (PX c (f :: fs) s μ ρ r) (EX c (f :: fs) s μ ρ r) s:=by
  cases m with
  | zero=>exact Mine.n0 ht
  | succ m =>
    obtain ⟨y,hb,hz_⟩:=bI ht; clear ht; rename _=>ht
    obtain ⟨es,h2,hz_⟩:=bI ht; clear ht; rename _=>ht
    split at ht
    · rename_i hc
      first | obtain rfl:=oi ht | exact n0 ht | exact n1 ht | cases ht
      simp only [Bool.and_eq_true,beq_iff_eq] at hc
      have G':=G.less (Nat.le_succ n)
      obtain ⟨b1,b2⟩:=G.bs.bi b y hb
      refine wpAny_Call_NameR (G.builtin hc.1 hc.2 b1 b2 ?_)
      refine G'.callWith HS h2 hr (P:=fun _=>True) (fun h _=>keeps_pure (bi_kind hb)) (fun _ _ h=>h) fun vs σ₂ ys s₂ μ₂ ρ₂ hk G₂ st rv=>⟨trivial, ?_⟩
      obtain ⟨w,hw,rfl⟩:=lif_some hk
      refine G₂.bif hb rv hw fun z s' μ' st' rz=>⟨_,_,_,_,rfl,st.trans st',rz⟩
    · first | obtain rfl:=oi ht | exact n0 ht | exact n1 ht | cases ht
end
end Mine
end
section
set_option tactic.hygienic false
namespace Mine
open PySem PySem.W PySem.Spec PySem.Calls PyProof.Rows PyProof.V PySem.Builtin PySem.Builtin.Str

section
variable {prog:Program} {w:World} {A:Around} {E:Value→Shared→Prop} {s:Shared} {x y:PySem.Str} {t u:Tok} {Q:Value→Shared→Prop}
theorem split_new (hy : (y.length == 0) = false) (h : ∀ (l : List (PySem.Str × Tok)) k, l.map (·.1) = Txt.split x y → Q (.ref s.heap.objs.size) { s with heap := s.heap.push { cls := .type "list", data := .seq (strValues l).toArray }, toks := k }) (hx : x.length ≤ 1000) :
    wpAny (model prog w) A (call (.builtin "str.split") [.str x t, .str y u]) Q E s := by
  have hz:x.length + 2≤sizeLine:=by rw [sizeLine_eq]; omega
  have hn:(partsBetween x (occurrences x y 0 x.length (x.length + 1)) y.length).length≤sizeLine:=by
    have:=StrLaws.occ_length_le x y 0 x.length (x.length + 1)
    rw [length_partsBetween]
    omega
  cases h1:(decide (x.length < y.length) || decide (strKind x < strKind y)) with
  | true=>exact call_meets F.slot_str_split (typeIs_str _ _ _) F.entry_str_split (F.args_str_split_2 _ _) (meets_str_split_cannot_occur x y t u h1) (h [(x,t)] s.toks (if_pos h1).symm)
  | false =>
    have h1':=ne_true_of_eq_false h1
    cases hf:(occurrences x y 0 x.length (x.length + 1)).isEmpty with
    | true=>exact call_meets F.slot_str_split (typeIs_str _ _ _) F.entry_str_split (F.args_str_split_2 _ _) (meets_str_split_not_found x y t u h1 hy hf) (h [(x,t)] s.toks ((if_neg h1').trans (if_pos hf)).symm)
    | false =>
      refine call_meets F.slot_str_split (typeIs_str _ _ _) F.entry_str_split (F.args_str_split_2 _ _) (meets_str_split_sep x y t u h1 hy hf (by omega) hn) ?_
      have:=h (numbered s.toks _) (s.toks + (partsBetween x (occurrences x y 0 x.length (x.length + 1)) y.length).length) ((numbered_texts _ _).trans ((if_neg h1').trans (if_neg (ne_true_of_eq_false hf))).symm)
      show wants Q E _ { s with toks := _, heap := s.heap.push { cls := .type "list", data := .seq (strsFrom s.toks (partsBetween x (occurrences x y 0 x.length (x.length + 1)) y.length)).toArray } }
      rw [strsFrom_eq]
      exact this
end
section
variable {c:Cx} {n m:Nat} {A:Around} {f:FrI} {fs:List FrI} {s:Shared} {μ:Addr→Prop} {ρ:List (Addr × Addr)} {σ:List Cell} {nm:List PySem.Str} {sc:Scope} {fr:List (Option V)} {e:Expr} {r:R V}
theorem reps_strs {h:Heap} : ∀ l:List (PySem.Str × Tok),VReps c h μ ρ ((l.map (·.1)).map fun x => .str x.cps.toList) (strValues l)
  | [] => .nil
  | (x,t) :: l => .cons (by have:=VRep.str (c:=c) (h:=h) (μ:=μ) (ρ:=ρ) x.cps.toList t; rwa [sS_toList] at this) (reps_strs l)
theorem CellsAt.set {h:Heap} {ρ₀:List (Addr × Addr)} : ∀ {ρ:List (Addr × Addr)} {σ:List Cell} {i:Nat} {p:Addr × Addr} {q:Cell},CellsAt c h μ ρ₀ ρ σ→ρ[i]? = some p→CellAt c h μ ρ₀ p q→CellsAt c h μ ρ₀ ρ (σ.set i q)
  | _,_,_,_,_, .nil,e,_=>by simp at e
  | _,_,0,_,_, .cons a b,e,x=>by cases e; exact .cons x b
  | _,_,i + 1,_,_, .cons a b,e,x => .cons a (b.set (by simpa using e) x)
theorem CellsAt.but {h h':Heap} {ρ₀:List (Addr × Addr)} {d:Addr} (k : ∀ a o,a ≠ d→h.get? a=some o→h'.get? a=some o) (hm:μ d) :
    ∀ {ρ:List (Addr × Addr)} {σ:List Cell} {i:Nat} {p:Addr × Addr} {q:Cell},CellsAt c h μ ρ₀ ρ σ→(ρ.map (·.2)).Nodup→ρ[i]? = some p→p.2=d→CellAt c h' μ ρ₀ p q→CellsAt c h' μ ρ₀ ρ (σ.set i q)
  | _,_,_,_,_, .nil,_,e,_,_=>by simp at e
  | p' :: ρ, _, 0, _, _, .cons a b, hn, e, hd, x => by
    first | obtain rfl:=oi e | exact n0 e | exact n1 e | cases e
    rw [List.map_cons,List.nodup_cons] at hn
    exact .cons x (b.step (grow_but k hm) (List.prefix_refl _) (fun p' hp o e=>k _ _ (fun q=>hn.1 (by rw [hd, ← q]; exact List.mem_map_of_mem hp)) e) fun _ _ m=>m)
  | p' :: ρ, _, i + 1, _, _, .cons a b, hn, e, hd, x => by
    rw [List.map_cons,List.nodup_cons] at hn
    refine .cons (a.step (grow_but k hm) (List.prefix_refl _) (fun o e'=>k _ _ (fun q=>hn.1 ?_) e') fun m=>m) (b.but k hm hn.2 (by simpa using e) hd x)
    rw [q, ← hd]
    exact List.mem_map_of_mem (List.mem_of_getElem? (by simpa using e))
theorem St.set (I:Inv c (f :: fs) μ ρ σ s.heap) {h':Heap} {i:Nat} {p:Addr × Addr} (hp:ρ[i]? = some p) (hs:Heap.SameBut p.2 s.heap h') (hm:μ p.2) {q:Cell} (ca:CellAt c h' μ ρ p q) {tk:Nat}:St c (f :: fs) s μ ρ (σ.set i q) { s with heap:=h',toks:=tk } μ ρ:=by
  have k : ∀ a o,a ≠ p.2→s.heap.get? a=some o→h'.get? a=some o:=fun a o n e=>(hs.2 a n).trans e
  obtain ⟨n1,n2,n3,n4,n5,n6⟩:=I.nd
  have hpm:=List.mem_of_getElem? hp
  refine ⟨I.upd k hm (Nat.le_of_eq hs.1.symm) (fun f' hf => ?_) (I.cells.but k hm n2 hp rfl ca) I.nodup fun q' hq'=>⟨(I.tabs q' hq').1,(I.tabs q' hq').2.step (grow_but k hm) fun o z=>k _ _ (fun e=>n6 p hpm q' hq' e.symm) z⟩,grow_but k hm,List.prefix_refl _,rfl,rfl⟩
  obtain ⟨a,b,d,e,m,l⟩:=I.frames f' hf
  exact ⟨a,b,d,Ns.but k e (n4 f' hf p hpm),m,l⟩
theorem low_eq (l:CS):(low l)=l.map lo1:=by
  unfold low
  congr 1
  funext x
  unfold lo1
  by_cases h:65≤x∧x≤90
  · simp [h]
  · rw [if_neg h,if_neg (by simpa using h)]
theorem wp_hide {M:Model} {A:Around} {α:Type} {m:Sem α} {Q:α→Shared→Prop} {E:Value→Shared→Prop} {s:Shared} (h : ∀ Q':α→Shared→Prop,(∀ a s,Q a s→Q' a s)→wpAny M A m Q' E s):wpAny M A m Q E s:=h Q fun _ _ z=>z
inductive MF (T:Tabs) (s:List Cell) (v:V) (g:Nat) (g':V) (b:Bool):Prop
  | fld (i C:Nat) (fs:List (Nat × V)) (hv:v = .ref i) (hc:s[i]? = some (.inst C fs)) (hg:fget g fs=some g') (h10:g≤10) (h0:C ≠ 0) (hb:b=false)
  | mth (i C:Nat) (fs:List (Nat × V)) (k:Nat) (hv:v = .ref i) (hc:s[i]? = some (.inst C fs)) (hg:fget g fs=none) (h40:g < 40) (hb:b=true) (hk:T.mth C g=some k) (hk':g' = .base k)
inductive MB (s:List Cell) (v:V) (g:Nat):Prop
  | split (l:CS) (hv:v = .str l) (hg:g=37)
  | lower (l:CS) (hv:v = .str l) (hg:g=38)
  | lst (i:Nat) (l:List V) (hv:v = .ref i) (hc:s[i]? = some (.list l)) (hg:g=39)
theorem methF_str {T:Tabs} {s:List Cell} {l:CS} {g:Nat} {q:Option (V × Bool)} (h:methF T s (.str l) g=some q):q=none∧(g=37 ∨ g=38):=by
  replace h:(if g=37 ∨ g=38 then some none else none)=some q:=h
  by_cases e:g=37 ∨ g=38
  · rw [if_pos e] at h; exact ⟨(oi h).symm,e⟩
  · rw [if_neg e] at h; exact Mine.n0 h
theorem methF_list {T:Tabs} {s:List Cell} {i:Nat} {l:List V} {g:Nat} {q:Option (V × Bool)} (hc:s[i]? = some (.list l)) (h:methF T s (.ref i) g=some q):q=none∧g=39:=by
  replace h:(match s[i]? with
    | some (.list _)=>if g=39 then some none else none
    | some (.inst C fs) => match fget g fs with
      | some v=>if g≤10∧C ≠ 0 then some (some (v,false)) else none
      | none=>if g < 40 then (T.mth C g).map fun g=>some (.base g,true) else none
    | _=>none)=some q:=h
  rw [hc] at h
  replace h:(if g=39 then some none else none)=some q:=h
  by_cases e:g=39
  · rw [if_pos e] at h; exact ⟨(oi h).symm,e⟩
  · rw [if_neg e] at h; exact Mine.n0 h
theorem methF_inst {T:Tabs} {s:List Cell} {i C:Nat} {fs:List (Nat × V)} {g:Nat} {q:Option (V × Bool)} (hc:s[i]? = some (.inst C fs)) (h:methF T s (.ref i) g=some q) : ∃ g' b,q=some (g',b)∧MF T s (.ref i) g g' b:=by
  replace h:(match s[i]? with
    | some (.list _)=>if g=39 then some none else none
    | some (.inst C fs) => match fget g fs with
      | some v=>if g≤10∧C ≠ 0 then some (some (v,false)) else none
      | none=>if g < 40 then (T.mth C g).map fun g=>some (.base g,true) else none
    | _=>none)=some q:=h
  rw [hc] at h
  replace h:(match fget g fs with
      | some v=>if g≤10∧C ≠ 0 then some (some (v,false)) else none
      | none=>if g < 40 then (T.mth C g).map fun g=>some (.base g,true) else none)=some q:=h
  cases hg:fget g fs with
  | some w =>
    rw [hg] at h
    replace h:(if g≤10∧C ≠ 0 then some (some (w,false)) else none)=some q:=h
    by_cases e:g≤10∧C ≠ 0
    · rw [if_pos e] at h; exact ⟨w,false,(oi h).symm, .fld i C fs rfl hc hg e.1 e.2 rfl⟩
    · rw [if_neg e] at h; exact Mine.n0 h
  | none =>
    rw [hg] at h
    replace h:(if g < 40 then (T.mth C g).map fun g=>some (V.base g,true) else none)=some q:=h
    by_cases e:g < 40
    · rw [if_pos e] at h
      obtain ⟨k,hk,hq⟩:=mI h
      exact ⟨.base k,true,hq.symm, .mth i C fs k rfl hc hg e rfl hk rfl⟩
    · rw [if_neg e] at h; exact Mine.n0 h
theorem methF_ref {T:Tabs} {s:List Cell} {i g:Nat} {q:Option (V × Bool)} (h:methF T s (.ref i) g=some q):(∃ l,s[i]? = some (.list l)) ∨ ∃ C fs,s[i]? = some (.inst C fs):=by
  replace h:(match s[i]? with
    | some (.list _)=>if g=39 then some none else none
    | some (.inst C fs) => match fget g fs with
      | some v=>if g≤10∧C ≠ 0 then some (some (v,false)) else none
      | none=>if g < 40 then (T.mth C g).map fun g=>some (.base g,true) else none
    | _=>none)=some q:=h
  generalize s[i]? = z at h ⊢
  match z,h with
  | some (.list l),_=>exact .inl ⟨l,rfl⟩
  | some (.inst C fs),_=>exact .inr ⟨C,fs,rfl⟩
theorem methF_some {T:Tabs} {s:List Cell} {v:V} {g:Nat} {g':V} {b:Bool} (h:methF T s v g=some (some (g',b))):MF T s v g g' b:=by
  cases v with
  | str l=>exact absurd (methF_str h).1 (by simp)
  | ref i =>
    rcases methF_ref h with ⟨l,hc⟩ | ⟨C,fs,hc⟩
    · exact absurd (methF_list hc h).1 (by simp)
    · obtain ⟨_, _, e, m⟩ := methF_inst hc h
      cases e
      exact m
  | _=>exact Mine.n0 h
theorem methF_none {T:Tabs} {s:List Cell} {v:V} {g:Nat} (h:methF T s v g=some none):MB s v g:=by
  cases v with
  | str l=>exact (methF_str h).2.elim (.split l rfl) (.lower l rfl)
  | ref i =>
    rcases methF_ref h with ⟨l,hc⟩ | ⟨C,fs,hc⟩
    · exact .lst i l rfl hc (methF_list hc h).2
    · obtain ⟨_, _, e, _⟩ := methF_inst hc h
      cases e
  | _=>exact Mine.n0 h
theorem methV_split {l:CS} {as:List V} {s:List Cell} {r:R V} (h:methV (.str l) 37 as s=some r) : ∃ ch,as=[.str [ch]]∧l.length≤1000∧r = .ok (.lst ((Txt.split ⟨l.toArray⟩ ⟨#[ch]⟩).map fun x => .str x.cps.toList)) s:=by
  match as,h with
  | [.str [c]], h =>
    replace h:(if sml l.length then some (R.ok (V.lst ((Txt.split ⟨l.toArray⟩ ⟨#[c]⟩).map fun x => .str x.cps.toList)) s) else none)=some r:=h
    by_cases e:sml l.length=true
    · rw [if_pos e] at h; exact ⟨c,rfl,sml_le e,(oi h).symm⟩
    · rw [if_neg e] at h; exact Mine.n0 h
theorem methV_lower {l:CS} {as:List V} {s:List Cell} {r:R V} (h:methV (.str l) 38 as s=some r):as=[]∧l.length≤1000∧(∀ c ∈ l,c < 128)∧r = .ok (.str (low l)) s:=by
  match as,h with
  | [], h =>
    replace h:(if sml l.length && l.all (fun c=>decide (c < 128)) then some (R.ok (V.str (low l)) s) else none)=some r:=h
    by_cases e:(sml l.length && l.all (fun c=>decide (c < 128)))=true
    · rw [if_pos e] at h
      rw [Bool.and_eq_true,List.all_eq_true] at e
      exact ⟨rfl,sml_le e.1,fun c hc=>of_decide_eq_true (e.2 c hc),(oi h).symm⟩
    · rw [if_neg e] at h; exact Mine.n0 h
theorem methV_app {i:Nat} {as:List V} {s:List Cell} {r:R V} (h:methV (.ref i) 39 as s=some r) : ∃ l v,as=[v]∧s[i]? = some (.list l)∧l.length≤1000∧r = .ok .none (s.set i (.list (l ++ [v]))):=by
  have hz : ∃ l,s[i]? = some (.list l):=by
    replace h:(match s[i]? with | some (.list l)=>_ | _=>none)=some r:=h
    generalize s[i]? = z at h ⊢
    match z,h with
    | some (.list l),_=>exact ⟨l,rfl⟩
  obtain ⟨l,hz⟩:=hz
  cases as with
  | nil=>replace h:(match s[i]? with | some (.list l)=>none | _=>none)=some r:=h; rw [hz] at h; exact Mine.n0 h
  | cons v t =>
    cases t with
    | cons=>replace h:(match s[i]? with | some (.list l)=>none | _=>none)=some r:=h; rw [hz] at h; exact Mine.n0 h
    | nil =>
      replace h:(match s[i]? with | some (.list l)=>if sml l.length then some (R.ok V.none (s.set i (.list (l ++ [v])))) else none | _=>none)=some r:=h
      rw [hz] at h
      replace h:(if sml l.length then some (R.ok V.none (s.set i (.list (l ++ [v])))) else none)=some r:=h
      by_cases e:sml l.length=true
      · rw [if_pos e] at h; exact ⟨l,v,rfl,hz,sml_le e,(oi h).symm⟩
      · rw [if_neg e] at h; exact Mine.n0 h
noncomputable def NextM (c:Cx) (A:Around) (f:FrI) (fs:List FrI) (s:Shared) (μ:Addr→Prop) (ρ:List (Addr × Addr)) (r:R V) (p:Pos) (es:List Expr) (Q:Value × List Value→Shared→Prop):Prop :=
  ∀ {fv:Value} {first:List Value} {s₁:Shared},wpAny (model c.prog c.w) A (callWith p fv first (backTo p (starEach es f.env)) []) (PX c (f :: fs) s μ ρ r) (EX c (f :: fs) s μ ρ r) s₁→Q (fv,first) s₁
section
variable {s₁:Shared} {μ₁:Addr→Prop} {ρ₁:List (Addr × Addr)} {σ₁:List Cell} {g:Nat} {x:Value} {as:List X} {es:List Expr} {p:Pos} {pl:Sem Bool} {Q:Value × List Value→Shared→Prop} {E:Value→Shared→Prop}
set_option tactic.hygienic true in theorem meth_user {v g':V} {b:Bool} (P3:Prog3 c) (HS:SXs c n) (HC:SCall c n) (G₁:Go c n A f fs s₁ μ₁ ρ₁ σ₁ nm sc fr) (st:St c (f :: fs) s μ ρ σ₁ s₁ μ₁ ρ₁) (rep:VRep c s₁.heap μ₁ ρ₁ v x) (hf:MF c.T σ₁ v g g' b) (h2:trXs c nm sc m as=some es)
    (hk:bnd (exXs c.T n as fr σ₁) (fun as s=>callV c.T n g' (if b then v :: as else as) s)=some r) (next:NextM c A f fs s μ ρ r p es Q):wpAny (model c.prog c.w) A (getMethod x (c.an g) pl) Q E s₁:=by
  cases hf with
  | fld i C fs' hv hcell hg h10 hC0 hb =>
    subst hv hb
    obtain ⟨_,_,rfl,hi⟩:=rep.ref_; clear rep
    obtain ⟨pp,hpp,ca⟩:=G₁.inv.cells.get hcell
    obtain rfl:=oi (hi.symm.trans hpp)
    obtain ⟨_,_,_,z,ha,e1,n1,e2,mm,frep⟩:=ca.inst_; clear ca
    rename_i C' es' nn
    have IA:InstAt s₁.heap _ _ C' (some (dictOf es' nn)):=⟨e1,rfl,rfl,e2⟩
    obtain ⟨q1,q2,q3,rr,q4,q5⟩:=P3.fld C _ g z hC0 ha h10
    refine method_usual G₁.K IA q2 q3 q4 q5 ?_
    refine G₁.field (v := .ref i) (w:=g') (σ:=σ₁) h10 (.ref hi) (by simp [attrV,hcell,hg,hC0]) fun y ry=>next (first:=[]) ?_
    have st':St c (f :: fs) s₁ μ₁ ρ₁ σ₁ { s₁ with toks:=s₁.toks + 1 } μ₁ ρ₁ := .toks G₁.inv
    refine (G₁.next st').callWith HS h2 hk (P:=KeepP c g' y) (fun h p=>KeepP.keeps P3 ry h p) (fun _ _ h=>h.st (st.trans st')) fun vs σ₂ ys s₂ μ₂ ρ₂ hc' G₃ st2 rv => ?_
    have rep2:=st2.up (s:={ s₁ with toks:=s₁.toks + 1 }) ry
    exact ⟨KeepP.of G₃ rep2 hc',wpAny_mono (HC hc' G₃.bs G₃.inv G₃.ok G₃.d G₃.u rep2 rv) (fun _ _ h=>h.st ((st.trans st').trans st2)) fun _ _ h=>h.st ((st.trans st').trans st2)⟩
  | mth i C fs' k hv hcell hg h40 hb hk1 hk' =>
    subst hv hb hk'
    obtain ⟨_,_,rfl,hi⟩:=rep.ref_; clear rep
    obtain ⟨pp,hpp,ca⟩:=G₁.inv.cells.get hcell
    obtain rfl:=oi (hi.symm.trans hpp)
    obtain ⟨_,_,_,z,ha,e1,n1,e2,mm,frep⟩:=ca.inst_; clear ca
    rename_i C' es' nn
    have IA:InstAt s₁.heap _ _ C' (some (dictOf es' nn)):=⟨e1,rfl,rfl,e2⟩
    obtain ⟨a,q1,q2,q3,q4⟩:=P3.meth C _ g k z hk1 ha
    refine method_inst G₁.Fr G₁.bs.XK IA q2 q3 q4 (frep.getNone P3.toProg h40 hg) (next (first:=[.ref _]) ?_)
    have rf:VRep c s₁.heap μ₁ ρ₁ (.base k) (.ref a) := .base q1
    refine G₁.callWith HS h2 hk (P:=KeepP c (.base k) (.ref a)) (fun h p=>KeepP.keeps P3 rf h p) (fun _ _ h=>h.st st) fun vs σ₂ ys s₂ μ₂ ρ₂ hc' G₃ st2 rv => ?_
    exact ⟨KeepP.of G₃ (st2.up rf) hc',wpAny_mono (HC hc' G₃.bs G₃.inv G₃.ok G₃.d G₃.u (st2.up rf) (.cons (st2.up (.ref hi)) rv)) (fun _ _ h=>h.st (st.trans st2)) fun _ _ h=>h.st (st.trans st2)⟩
theorem keeps_bi {id:String} : ∀ h,True → ∃ k,(k=Keeper.frame ∨ k=Keeper.machine ∨ k=Keeper.boundFrame)∧Looks (model c.prog c.w) h (keeperOf (.builtin id)) k:=fun _ _=>keeps_pure (.inl ⟨id,rfl⟩)
set_option tactic.hygienic true in theorem meth_bi {v:V} (P3:Prog3 c) (HS:SXs c n) (G₁:Go c n A f fs s₁ μ₁ ρ₁ σ₁ nm sc fr) (st:St c (f :: fs) s μ ρ σ₁ s₁ μ₁ ρ₁) (rep:VRep c s₁.heap μ₁ ρ₁ v x) (hf:MB σ₁ v g) (h2:trXs c nm sc m as=some es)
    (hk:bnd (exXs c.T n as fr σ₁) (fun as s=>methV v g as s)=some r) (next:NextM c A f fs s μ ρ r p es Q):wpAny (model c.prog c.w) A (getMethod x (c.an g) pl) Q E s₁:=by
  cases hf with
  | split l hv hg =>
    subst hv hg
    obtain ⟨tk0,rfl⟩:=rep.str_; clear rep
    rw [P3.an37]
    refine GM.split (next (first:=[.str (sS l) tk0]) ?_)
    refine G₁.callWith HS h2 hk keeps_bi (fun _ _ h=>h.st st) fun vs σ₂ ys s₂ μ₂ ρ₂ hc' G₃ st2 rv=>⟨trivial, ?_⟩
    obtain ⟨ch,rfl,hsz,hr⟩:=methV_split hc'
    obtain ⟨_,_,rfl,ra,rest⟩:=rv.cons_; clear rv
    cases rest
    obtain ⟨tk1,rfl⟩:=ra.str_; clear ra
    refine split_new (x:=sS l) (y:=sS [ch]) (by simp [sS,PySem.Str.length]) (fun ll tk hl => ?_) (by rw [sS_len]; exact hsz)
    have hv:=reps_strs (c:=c) (h:=s₂.heap) (μ:=μ₂) (ρ:=ρ₂) ll
    rw [hl] at hv
    exact ⟨_,_,_,_,hr,(st.trans st2).trans (St.push G₃.inv _ (tk:=tk)),rep_lst (tk:=0) G₃.inv (by simpa [sS] using hv)⟩
  | lower l hv hg =>
    subst hv hg
    obtain ⟨tk0,rfl⟩:=rep.str_; clear rep
    rw [P3.an38]
    refine GM.lower (next (first:=[.str (sS l) tk0]) ?_)
    refine G₁.callWith HS h2 hk keeps_bi (fun _ _ h=>h.st st) fun vs σ₂ ys s₂ μ₂ ρ₂ hc' G₃ st2 rv=>⟨trivial, ?_⟩
    obtain ⟨rfl,hsz,ha,hr⟩:=methV_lower hc'
    cases rv
    refine SCL.lower (by rw [sS_len]; exact Nat.le_trans hsz (by decide)) fun _ => ?_
    rw [lower_ascii (by intro ch hch; exact ha ch (by simpa [sS] using hch)),show (⟨(sS l).cps.map lo1⟩:PySem.Str)=sS (low l) by rw [low_eq]; simp [sS]]
    exact ⟨_,_,_,_,hr,(st.trans st2).trans (.toks G₃.inv), .str _ _⟩
  | lst i l hv hcell hg =>
    subst hv hg
    obtain ⟨_,_,rfl,hi⟩:=rep.ref_; clear rep
    obtain ⟨pp,hpp,ca⟩:=G₁.inv.cells.get hcell
    obtain rfl:=oi (hi.symm.trans hpp)
    rw [P3.an39]
    obtain ⟨xs0,n0,ho⟩ : ∃ xs n,s₁.heap.get? _=some (listOf xs n):=by cases ca with | list e m v=>exact ⟨_,_,e⟩
    refine Calls.getMethod_list_append ho rfl rfl (next (first:=[.ref _]) ?_)
    clear ho ca hpp
    refine G₁.callWith HS h2 hk keeps_bi (fun _ _ h=>h.st st) fun vs σ₂ ys s₂ μ₂ ρ₂ hc' G₃ st2 rv=>⟨trivial, ?_⟩
    obtain ⟨l2,w,rfl,hcell2,hsz,hr⟩:=methV_app hc'
    obtain ⟨_,_,rfl,ra,rest⟩:=rv.cons_; clear rv
    cases rest
    obtain ⟨pp2,hpp2,ca2⟩:=G₃.inv.cells.get hcell2
    have hi2:=pre_get st2.pre hi
    obtain rfl:=oi (hi2.symm.trans hpp2)
    obtain ⟨_,_,rfl,e2,m2,v2⟩:=ca2.list_; clear ca2
    rename_i xs2 n2
    have el:l2.length=xs2.size:=v2.len.trans Array.length_toList
    refine append_at e2 (fun h' hsb hob' => ?_) (by rw [sizeLine_eq]; omega)
    have hkk:Grow s₂.heap μ₂ h' μ₂:=grow_but (fun a o nn e=>(hsb.2 a nn).trans e) m2
    exact ⟨_,_,_,_,hr,(st.trans st2).trans (St.set G₃.inv hi2 hsb m2 (.list (xs:=Array.push _ _) hob' m2 (by rw [Array.toList_push]; exact (v2.mono hkk (List.prefix_refl _)).app (.cons (ra.mono hkk (List.prefix_refl _)) .nil))) (tk:=s₂.toks)), .none⟩
end
theorem s_meth {o : X} {g : Nat} {pa : Pos} {as : List X} {p : Pos} (P3 : Prog3 c) (H : SX c n) (HS : SXs c n) (HC : SCall c n) (G : Go c (n + 1) A f fs s μ ρ σ nm sc fr) (ht : trX c nm sc m (.meth o g pa as p) = some e) (hr : exX c.T (n + 1) (.meth o g pa as p) fr σ = some r) : wpAny (model c.prog c.w) A (eval e f.env) (PX c (f :: fs) s μ ρ r) (EX c (f :: fs) s μ ρ r) s := by
  cases m with
  | zero=>exact Mine.n0 ht
  | succ m =>
    obtain ⟨oe,h1,hz_⟩:=bI ht; clear ht; rename _=>ht
    obtain ⟨es,h2,hz_⟩:=bI ht; clear ht; rename _=>ht
    split at ht
    · rename_i hc
      obtain rfl:=oi ht
      simp only [Bool.and_eq_true,beq_iff_eq,decide_eq_true_eq] at hc
      obtain ⟨⟨hns,hpos⟩,hlen⟩:=hc
      have hform:methodCallForm (es.length + 0) (backTo p (starEach es f.env)) []=true:=by
        have:=plain_args (env:=f.env) (pos:=p) h2
        have h3:(backTo p (starEach es f.env)).all (!·.1)=true:=by
          rw [List.any_eq_false] at this
          exact List.all_eq_true.mpr fun x hx=>by simpa using this x hx
        simp [methodCallForm,h3,hlen]
      have hp2:methodCallPos true oe f.env pa p=pure p:=by simp [methodCallPos,hpos]
      show wpAny (model c.prog c.w) A (do
        let ov ← attributeBase oe (c.an g) f.env (eval oe f.env)
        standAt pa.atName
        methodCall oe (c.an g) pa p f.env ov (es.length + 0) (backTo p (starEach es f.env)) []) _ _ s
      rw [wp_base (M:=model c.prog c.w) hns]
      refine wpAny_bind (H.run (G.less (Nat.le_succ n)) h1 hr (fun v σ₁ x s₁ μ₁ ρ₁ hk G₁ st rep => ?_) fun _ _ h=>h)
      refine wpAny_bind (wpAny_standAt ?_)
      unfold methodCall
      rw [hform,hp2]
      refine wpAny_bind (wpAny_holding ?_)
      show wpAny _ A (getMethod x (c.an g) _) _ _ s₁
      refine wp_hide fun Q_ hQ_ => ?_
      have next:NextM c A f fs s μ ρ r p es Q_:=fun h=>hQ_ _ _ (wpAny_bind (wpAny_pure h))
      clear hQ_
      cases hf:methF c.T σ₁ v g with
      | none=>rw [hf] at hk; exact Mine.n0 hk
      | some q =>
        rw [hf] at hk
        cases q with
        | none=>exact meth_bi P3 HS G₁ st rep (methF_none hf) h2 hk next
        | some q=>exact meth_user P3 HS HC G₁ st rep (methF_some hf) h2 hk next
    · exact Mine.n0 ht
end
end Mine
end
section
set_option tactic.hygienic false
namespace Mine
open PySem PySem.W PySem.Spec PySem.Calls PyProof.Rows PyProof.V

section
variable {c:Cx} {n m:Nat} {A:Around} {f:FrI} {fs:List FrI} {s:Shared} {μ:Addr→Prop} {ρ:List (Addr × Addr)} {σ:List Cell} {nm:List Str} {sc:Scope} {fr:List (Option V)} {e:Expr} {r:R V}
theorem t_cmp2 {l k y : X} {op op2 : CmpOp} {p : Pos} (H : SX c n) (G : Go c (n + 1) A f fs s μ ρ σ nm sc fr) (ht : trX c nm sc m (.cmp2 l op k op2 y p) = some e) (hr : exX c.T (n + 1) (.cmp2 l op k op2 y p) fr σ = some r) : wpAny (model c.prog c.w) A (PySem.isTrue e f.env (eval e f.env)) (PT c (f :: fs) s μ ρ r) (EX c (f :: fs) s μ ρ r) s := by
  cases m with
  | zero=>exact Mine.n0 ht
  | succ m =>
    obtain ⟨e1,h1,hz_⟩:=bI ht; clear ht; rename _=>ht
    obtain ⟨e2,h2,hz_⟩:=bI ht; clear ht; rename _=>ht
    obtain ⟨e3,h3,hz_⟩:=bI ht; clear ht; rename _=>ht
    split at ht
    · first | obtain rfl:=oi ht | exact n0 ht | exact n1 ht | cases ht
    · rename_i hm
      first | obtain rfl:=oi ht | exact n0 ht | exact n1 ht | cases ht
      refine isTrue_chain (H.run (G.less (Nat.le_succ _)) h1 hr (fun v σ₁ y₁ s₁ μ₁ ρ₁ hk G₁ st rep => ?_) fun _ _ h=>h) (by simpa using hm)
      refine test_link (H.run G₁ h2 hk (fun w σ₂ y₂ s₂ μ₂ ρ₂ hk G₂ st' rep' => ?_) fun _ _ h=>h.up st fun _ _ z=>z)
      split at hk
      · rename_i hb
        refine G₂.cmp (st'.up rep) rep' hb fun tk=>wpAny_truthy_bool ?_
        rw [if_pos rfl]
        have st2:=(st.trans st').then (tk:=tk)
        have G₃:=G₂.next (.toks G₂.inv (tk:=tk))
        refine test_last (H.run G₃ h3 hk (fun u σ₄ y₄ s₄ μ₄ ρ₄ hk G₄ st4 rep4 => ?_) fun _ _ h=>h.up st2 fun _ _ z=>z)
        obtain ⟨z,hz,rfl⟩:=lif_some hk
        simp only [Option.map_eq_some_iff] at hz
        obtain ⟨b,hb,rfl⟩:=hz
        exact G₄.cmp (st4.up rep') rep4 hb fun tk=>wpAny_truthy_bool ⟨_,_,_,_,rfl,(st2.trans st4).then,rfl⟩
      · rename_i hb
        first | obtain rfl:=oi hk | exact n0 hk | exact n1 hk | cases hk
        refine G₂.cmp (st'.up rep) rep' hb fun tk=>wpAny_truthy_bool ?_
        exact ⟨_,_,_,_,rfl,(st.trans st').then,rfl⟩
      · first | obtain rfl:=oi hk | exact n0 hk | exact n1 hk | cases hk
end
theorem sx_step {c:Cx} {n:Nat} (P3:Prog3 c) (H:SX c n) (HS:SXs c n) (HT:ST c n) (HB:SBool c n) (HC:SCall c n):SX c (n + 1):=by
  intro m nm sc x e ht fr σ r hr A f fs s μ ρ G
  cases x with
  | none p=>exact s_none G ht hr
  | bool b p=>exact s_bool G ht hr
  | int i p=>exact s_int G ht hr
  | str l p=>exact s_str G ht hr
  | loc i p=>exact s_loc G ht hr
  | glob g p=>exact s_glob G ht hr
  | attr x g p=>exact s_attr H G ht hr
  | call fx as p=>exact s_call P3 H HS HC G ht hr
  | bcall b bp as p=>exact s_bcall HS G ht hr
  | meth o g pa as p=>exact s_meth P3 H HS HC G ht hr
  | bin l op y p=>exact s_bin H G ht hr
  | not x p=>exact s_not H G ht hr
  | neg x p=>exact s_neg H G ht hr
  | and xs p=>exact s_and HB G ht hr
  | or xs p=>exact s_or HB G ht hr
  | ite t a b p=>exact s_ite HT H G ht hr
  | cmp l op y p=>exact s_cmp H G ht hr
  | cmp2 l op k op2 y p=>exact s_cmp2 H G ht hr
  | tup xs k p=>exact s_tup HS G ht hr
  | lst xs p=>exact s_lst HS G ht hr
  | lstF xs p=>exact s_lstF HS G ht hr
  | dct ks vs p=>exact s_dct G ht hr
  | sub x y p=>exact s_sub H G ht hr
  | slc x lo hi sp p=>exact s_slc H G ht hr
  | lam k p=>exact s_lam G ht hr
noncomputable def Pl (e:Expr):Prop := ∀ env:Env,PySem.isTrue e env (eval e env)=(do let v ← eval e env; standAt e.pos; holding [v] (PySem.truthy v))
section
variable {e a:Expr}
theorem pl_b {α:Type} {o:Option α} {k:α→Option Expr} (h:o.bind k=some e) (g : ∀ a,k a=some e→Pl e):Pl e:=let ⟨a,_,h⟩:=bI h; g a h
theorem pl_s (h:some a=some e) (g:Pl a):Pl e:=oi h ▸ g
theorem pl_m {α:Type} {o:Option α} {k:α→Expr} (h:o.map k=some e) (g : ∀ a,Pl (k a)):Pl e:=match o,h with | some x,h=>pl_s h (g x)
theorem pl_i {p:Prop} [Decidable p] (h:(if p then some a else none)=some e) (g:Pl a):Pl e:=by
  by_cases q:p
  · exact pl_s ((if_pos q).symm.trans h) g
  · exact Mine.n0 ((if_neg q).symm.trans h)
theorem pl_n {p:Prop} [Decidable p] (h:(if p then none else some a)=some e) (g:Pl a):Pl e:=by
  obtain ⟨_,rfl⟩:=ifN h; exact g
end
theorem st_step {c:Cx} {n:Nat} (H:SX c n) (HT:ST c n) (HBT:SBoolT c n) (H':SX c (n + 1)):ST c (n + 1):=by
  intro m nm sc x e ht fr σ r hr htr A f fs s μ ρ G
  have rest:Pl e→wpAny (model c.prog c.w) A (PySem.isTrue e f.env (eval e f.env)) (PT c (f :: fs) s μ ρ r) (EX c (f :: fs) s μ ρ r) s:=fun h=>t_plain (x:=x) (H' ht hr G) G htr (h _)
  cases x with
  | not x p=>exact t_not HT G ht hr
  | and xs p=>exact t_and HBT G ht hr htr
  | or xs p=>exact t_or HBT G ht hr htr
  | ite t a b p=>exact t_ite HT G ht hr htr
  | cmp l op y p=>exact t_cmp H G ht hr
  | cmp2 l op k op2 y p=>exact t_cmp2 H G ht hr
  | _ =>
    clear hr htr G H' H HT HBT
    refine rest ?_
    clear rest
    cases m with
    | zero=>exact Mine.n0 ht
    | succ m =>
      first
      | exact pl_s ht fun _=>rfl
      | exact pl_m ht fun _ _=>rfl
      | exact pl_i ht fun _=>rfl
      | exact pl_b ht fun _ h=>pl_s h fun _=>rfl
      | exact pl_b ht fun _ h=>pl_i h fun _=>rfl
      | exact pl_b ht fun _ h=>pl_b h fun _ h=>pl_s h fun _=>rfl
      | exact pl_b ht fun _ h=>pl_b h fun _ h=>pl_i h fun _=>rfl
      | exact pl_b ht fun _ h=>pl_b h fun _ h=>pl_i h fun _=>rfl
      | exact pl_b ht fun _ h=>pl_b h fun _ h=>pl_n h fun _=>rfl
      | exact pl_b ht fun _ h=>pl_b h fun _ h=>pl_b h fun _ h=>pl_i h fun _=>rfl
end Mine
end
section
namespace Mine
open PySem PySem.W PySem.Spec PySem.Calls PyProof.Rows PyProof.V

section
variable {prog:Program} {w:World} {A:Around} {E:Value→Shared→Prop} {s:Shared}
theorem set_field {K : Frag} {x C dx : Addr} {ox : Obj} {es : List DictEntry} {n : Nat} {name : Str} {v : Value} {Q : Unit → Shared → Prop} (X : K.In s.heap) (I : InstAt s.heap x ox C (some (dictOf es n))) (hd : ox.dict = some dx)
    (hs : findIn K (.ref C) "__setattr__" = some (some (.builtin "object.__setattr__"))) (hp : plainOver K C = true) (ht : takerIn K C name = some none) (hh : hasDictIn K C = true) (hl : (getL name es).isSome = true) (hz : (putL name (PyData.keyHash w.params name) (.str name (s.toks + 1)) v es).length ≤ 1000)
    (h : ∀ h',Heap.SameBut dx s.heap h'→h'.get? dx=some (dictOf (putL name (PyData.keyHash w.params name) (.str name (s.toks + 1)) v es) (putN name es n))→Q () { s with heap:=h',toks:=s.toks + 2 }) :
    wpAny (model prog w) A (setAttr (.ref x) name v) Q E s:=by
  refine set_plain X I hs (osa_open (s:={ s with toks:=s.toks + 1 }) X I hp ht fun b => ?_)
  obtain ⟨cd,hc,hd'⟩:=any_some hh
  have D:s.heap.get? dx=some (dictOf es n):=by have z:=I.dict; rw [hd] at z; exact z
  have D':(s.heap.update dx (Obj.putName name (PyData.keyHash w.params name) (.str name (s.toks + 1)) v)).get? dx=some (dictOf (putL name (PyData.keyHash w.params name) (.str name (s.toks + 1)) v es) (putN name es n)):=by
    have:=Heap.get?_update_self (Obj.putName name (PyData.keyHash w.params name) (.str name (s.toks + 1)) v) D (by rw [putName_dict]; rfl)
    rwa [putName_dict] at this
  obtain ⟨hx,hcl,hn, -⟩:=I
  obtain ⟨oc,odi,oda,osl⟩:=ox
  dsimp only at hcl hd
  subst hcl hd
  refine wpAny_bind (wpAny_pure (wpAny_bind (wpAny_bind (wpAny_loadPart hx (wpAny_bind (Looks.here (s:={ s with toks:=s.toks + 1 }) (looks_clsIn X hc) ?_))))))
  rw [hd']
  refine wpAny_pure (a:=some dx) (wpAny_bind (wpAny_pure (wpAny_bind ?_)))
  unfold nsSet
  refine wpAny_bind (wpAny_bind (wpAny_askSetting (wpAny_pure (wpAny_bind (wpAny_mkText (wpAny_bind (wpAny_loadPart (s:={ s with toks:=s.toks + 2 }) D ?_)))))))
  have c:(!es.toArray.any (·.key.isStr name) && es.toArray.any (·.refKey))=false:=by
    unfold getL at hl
    rw [← Array.any_toList, ← Array.any_toList]
    split at hl
    · rename_i en he
      rw [List.any_eq_true.mpr ⟨en,List.mem_of_find?_eq_some he,List.find?_some he⟩]; rfl
    · split at hl
      · first | obtain rfl:=oi hl | exact n0 hl | exact n1 hl | cases hl
      · rename_i z
        rw [Bool.not_eq_true] at z
        show (_ && es.any _)=false
        rw [z,Bool.and_false]
  dsimp only
  rw [aRefKeyMayBeTheName_at,c]
  refine wpAny_updatePart D ?_
  refine wpAny_bind (wpAny_lookBehind D' (pastItsLine_dict (by rw [List.size_toArray,sizeLine_eq]; omega)) ?_)
  exact wpAny_pure (h _ (Heap.SameBut.update ..) D')
theorem set_item {l:Addr} {items:Array Value} {n:Nat} {k:Int} {t:Tok} {v:Value} {Q:Unit→Shared→Prop} (ho:s.heap.get? l=some (listOf items n)) (h0:0≤k) (hn:k < items.size) (hfit:k < 2 ^ 63)
    (h : ∀ h' n',Heap.SameBut l s.heap h'→h'.get? l=some (listOf (items.setIfInBounds k.toNat v) n')→Q () { s with heap:=h' }) :
    wpAny (model prog w) A (setItem (.ref l) (.int k t) v) Q E s:=by
  have hT : s.TypeIs (.ref l) "list" := ⟨_, ho, rfl⟩
  unfold setItem
  try with_reducible refine wpAny_holding ?_
  first | refine wpAny_bind (wpAny_pure ?_) | skip
  refine wpAny_bind (wpAny_sequenceKey hT (by decide) ?_)
  refine wpAny_bind (wpAny_callSpecial?_slot (name := Str.ofString "__setitem__") hT slot_list_setitem (wpAny_call_entry slot_list_setitem hT entry_list_setitem ?_ (args_list_setitem _ _ _)))
  show wpAny _ _ (Builtin.List.listSubscript? (.int k t) >>= _) _ _ s
  refine wpAny_bind (wpAny_listSubscript_int (fitsIndex_of h0 hfit) ?_)
  clear hfit
  obtain ⟨j,rfl⟩:=Int.eq_ofNat_of_zero_le h0
  have hj:j < items.size:=by omega
  have hx:items[j]? = some items[j]:=Array.getElem?_eq_getElem hj
  have hm:=Heap.get?_update_self (Obj.mapSeq (·.setIfInBounds j v)) ho (by rfl)
  show wpAny _ _ ((seqItemAt l j >>= fun r=>pure (r.map (j, ·))) >>= _) _ _ s
  refine wpAny_bind (wpAny_bind (wpAny_seqItemAt ho rfl (wpAny_pure ?_)))
  rw [hx]
  show wpAny _ _ (setSeqItemAt l j v >>= _) _ _ s
  refine wpAny_bind (wpAny_setSeqItemAt ho rfl ?_)
  first
    | exact wpAny_bind (wpAny_pure (wpAny_pure ⟨.none,rfl,wpAny_pure (h _ _ (Heap.SameBut.update ..) hm)⟩))
    | exact wpAny_pure ⟨.none,rfl,wpAny_pure (h _ _ (Heap.SameBut.update ..) hm)⟩
end
end Mine
end
section
set_option tactic.hygienic false
namespace Mine
open PySem PySem.W PySem.Spec PySem.Calls PyProof.Rows PyProof.V

section
variable {c:Cx} {n m:Nat} {A:Around} {f:FrI} {fs:List FrI} {s:Shared} {μ:Addr→Prop} {ρ:List (Addr × Addr)} {σ:List Cell} {nm:List Str} {sc:Scope} {fr:List (Option V)} {e:Expr} {r:R V}
noncomputable def okE:Expr→Bool
  | .Set .. | .ListComp .. | .SetComp .. | .DictComp .. | .GeneratorExp .. => false
  | _=>true
theorem ab_ {α:Type} {o:Option α} {f:α→Option Expr} (h : ∀ a,(f a).all okE=true):(o.bind f).all okE=true:=by
  cases o with
  | none=>rfl
  | some a=>exact h a
theorem am_ {α:Type} {o:Option α} {f:α→Expr} (h : ∀ a,okE (f a)=true):(o.map f).all okE=true:=by
  cases o with
  | none=>rfl
  | some a=>exact h a
theorem ai_ {p:Prop} [Decidable p] {e:Expr} (h:okE e=true):(if p then some e else none).all okE=true:=by
  by_cases q:p
  · rw [if_pos q]; exact h
  · rw [if_neg q]; rfl
theorem ai'_ {p:Prop} [Decidable p] {e:Expr} (h:okE e=true):(if p then none else some e).all okE=true:=by
  by_cases q:p
  · rw [if_pos q]; rfl
  · rw [if_neg q]; exact h
theorem tr_ok {x:X}:(trX c nm sc m x).all okE=true:=by
  cases m with
  | zero=>rfl
  | succ m =>
    first | obtain rfl:=oi x | exact n0 x | exact n1 x | cases x
    all_goals first
      | rfl
      | exact am_ fun _=>rfl
      | exact ai_ rfl
      | exact ab_ fun _=>rfl
      | exact ab_ fun _=>ai_ rfl
      | exact ab_ fun _=>ab_ fun _=>rfl
      | exact ab_ fun _=>ab_ fun _=>ai_ rfl
      | exact ab_ fun _=>ab_ fun _=>ai'_ rfl
      | exact ab_ fun _=>ab_ fun _=>ab_ fun _=>rfl
      | exact ab_ fun _=>ab_ fun _=>ab_ fun _=>ai'_ rfl
      | exact ab_ fun _=>ab_ fun _=>ab_ fun _=>ai_ rfl
theorem comp_ok {e:Expr} (h:okE e=true) (t:Option Expr) (line:Nat) (env:Env):swapsWith e t line env=pure false:=by
  cases e <;> first | rfl | cases h
theorem not_comp {x:X} (ht:trX c nm sc m x=some e) : ∀ (t:Option Expr) (line:Nat) (env:Env),swapsWith e t line env=pure false :=
  comp_ok (by have h:=tr_ok (c:=c) (nm:=nm) (sc:=sc) (m:=m) (x:=x); rw [ht] at h; exact h)
theorem FrI.ok.upd {m':Str→Option Value} (h:FrI.ok A (f :: fs)):FrI.ok A (f.upd m' :: fs) :=
  ⟨h.f,h.h,fun g hg=>(List.mem_cons.mp hg).elim (fun e=>e ▸ h.g f List.mem_cons_self) fun hg=>h.g g (List.mem_cons_of_mem _ hg)⟩
theorem Inv.frame (I:Inv c (f :: fs) μ ρ σ s.heap) {h':Heap} {m':Str→Option Value} (hn:h'.Ns f.L m') (hs:Heap.SameBut f.L s.heap h'):Inv c (f.upd m' :: fs) μ ρ σ h'∧Grow s.heap μ h' μ:=by
  obtain ⟨a,b,d,e,mm,l⟩:=I.frames f List.mem_cons_self
  have k : ∀ a o,a ≠ f.L→s.heap.get? a=some o→h'.get? a=some o:=fun a o n e=>(hs.2 a n).trans e
  obtain ⟨n1,n2,n3,n4,n5,n6⟩:=I.nd
  rw [List.map_cons,List.nodup_cons] at n1
  refine ⟨I.upd k mm (Nat.le_of_eq hs.1.symm) (fun g hg => ?_) (I.cells.step (grow_but k mm) (List.prefix_refl _) (fun p hp o e=>k _ _ (fun q=>n4 f List.mem_cons_self p hp q.symm) e) fun _ _ m=>m) I.nodup fun q hq=>⟨(I.tabs q hq).1,(I.tabs q hq).2.step (grow_but k mm) fun o z=>k _ _ (fun e=>n5 f List.mem_cons_self q hq e.symm) z⟩,grow_but k mm⟩
  rcases List.mem_cons.mp hg with rfl | hg
  · exact ⟨a,b,d,hn,mm,l⟩
  · obtain ⟨a', b', d', e', m', l'⟩ := I.frames g (List.mem_cons_of_mem _ hg)
    exact ⟨a',b',d',Ns.but k e' (fun q=>n1.1 (q ▸ List.mem_map_of_mem hg)),m',l'⟩
set_option tactic.hygienic true in theorem trSet_eq {i:Nat} {y:Str} (h:trSet nm sc i=some y):nm[i]? = some y∧notDebug y=true∧sc.names.lookup y=some .local∧nm.Nodup:=by
  unfold trSet at h
  split at h
  · rename_i y' hy
    split at h
    · rename_i hc
      first | obtain rfl:=oi h | exact n0 h | exact n1 h | cases h
      simp only [Bool.and_eq_true,beq_iff_eq,decide_eq_true_eq] at hc
      exact ⟨hy,hc.1.1,hc.1.2,hc.2⟩
    · first | obtain rfl:=oi h | exact n0 h | exact n1 h | cases h
  · first | obtain rfl:=oi h | exact n0 h | exact n1 h | cases h
theorem nodup_get {α:Type} {l:List α} (hn:l.Nodup) {i j:Nat} {y:α} (h1:l[i]? = some y) (h2:l[j]? = some y):i=j:=by
  obtain ⟨a,b⟩:=List.getElem?_eq_some_iff.mp h1
  obtain ⟨a',b'⟩:=List.getElem?_eq_some_iff.mp h2
  exact (List.getElem_inj hn).mp (b.trans b'.symm)
theorem FrRep.set {h:Heap} (F:FrRep c h μ ρ f nm fr) {i:Nat} {y:Str} {v:V} {x:Value} (hk:f.env.kindOf y=some .local) (hy:nm[i]? = some y) (hn:nm.Nodup) (rep:VRep c h μ ρ v x) :
    FrRep c h μ ρ (f.upd fun z=>if z=y then some x else f.m z) nm (fr.set i (some v)):=by
  intro j z u h1 h2
  by_cases q:j=i
  · subst q
    rw [hy] at h1
    first | obtain rfl:=oi h1 | exact n0 h1 | exact n1 h1 | cases h1
    have:u=v:=by
      rw [List.getElem?_set] at h2
      simp only [if_true] at h2
      split at h2
      · exact (Option.some.inj (Option.some.inj h2)).symm
      · first | obtain rfl:=oi h2 | exact n0 h2 | exact n1 h2 | cases h2
    subst this
    exact .inl ⟨hk,x,if_pos rfl,rep⟩
  · rw [List.getElem?_set_ne (Ne.symm q)] at h2
    rcases F j z u h1 h2 with ⟨a,x',b,d⟩ | r
    · exact .inl ⟨a,x',(if_neg fun e=>q (nodup_get hn (e ▸ h1) hy)).trans b,d⟩
    · exact .inr r
theorem Go.store (G:Go c n A f fs s μ ρ σ nm sc fr) {i:Nat} {y:Str} (hy:trSet nm sc i=some y) {v:V} {x:Value} (rep:VRep c s.heap μ ρ v x) {Q:Unit→Shared→Prop} {E:Value→Shared→Prop}
    (k : ∀ m' s',Go c n A (f.upd m') fs s' μ ρ σ nm sc (fr.set i (some v))→St c (f.upd m' :: fs) s μ ρ σ s' μ ρ→Q () s'):wpAny (model c.prog c.w) A (storeName f.env y x) Q E s:=by
  obtain ⟨h1,h2,h3,h4⟩:=trSet_eq hy
  obtain ⟨_,hl,hkf,hns,mm,_⟩:=G.inv.frames f List.mem_cons_self
  have hk:f.env.kindOf y=some .local:=by show f.env.scope.names.lookup y=_; rw [G.hsc]; exact h3
  refine wpAny_storeName_local hk (hl ▸ hns) (fun h' hn hs => ?_) (by rw [hkf]; rfl)
  rw [hl] at hn hs
  obtain ⟨I,g⟩:=G.inv.frame hn hs
  have st:St c (f.upd (fun z=>if z=y then some x else f.m z) :: fs) s μ ρ σ { s with heap:=h',toks:=s.toks + 1 } μ ρ:=⟨I,g,List.prefix_refl _,rfl,rfl⟩
  exact k _ _ ⟨G.bs,I,G.ok.upd,G.d,G.u,G.hsc,G.hcd,(G.fr.set hk h1 h4 rep).mono g (List.prefix_refl _)⟩ st
theorem ES.of (G:Go c n A f fs s μ ρ σ nm sc fr) {o:RS} (ho : ∀ i σ',r = .ex i σ'→o = .ex i fr σ') {e:Value} {s':Shared} (h:EX c (f :: fs) s μ ρ r e s'):ES c f fs s μ ρ nm o e s':=by
  obtain ⟨i,σ',μ',ρ',a,h1,h2,h3,h4,h5⟩:=h
  exact ⟨f.m,σ',μ',ρ',i,fr,a,h3,ho _ _ h1,h2,h4,h5,h3.fr G.fr⟩
theorem PS.st {o:RS} {m':Str→Option Value} {σ₁:List Cell} {s₁:Shared} {μ₁:Addr→Prop} {ρ₁:List (Addr × Addr)} (x:St c (f.upd m' :: fs) s μ ρ σ₁ s₁ μ₁ ρ₁) {fl:Flow} {s':Shared} (h:PS c (f.upd m') fs s₁ μ₁ ρ₁ nm o fl s'):PS c f fs s μ ρ nm o fl s':=by
  obtain ⟨m2,σ2,μ2,ρ2,st,h⟩:=h
  exact ⟨m2,σ2,μ2,ρ2,x.trans st,h⟩
theorem ES.st {o:RS} {m':Str→Option Value} {σ₁:List Cell} {s₁:Shared} {μ₁:Addr→Prop} {ρ₁:List (Addr × Addr)} (x:St c (f.upd m' :: fs) s μ ρ σ₁ s₁ μ₁ ρ₁) {e:Value} {s':Shared} (h:ES c (f.upd m') fs s₁ μ₁ ρ₁ nm o e s'):ES c f fs s μ ρ nm o e s':=by
  obtain ⟨m2,σ2,μ2,ρ2,i,fr',a,st,h1,h2,h3,h4,h5⟩:=h
  exact ⟨m2,σ2,μ2,ρ2,i,fr',a,x.trans st,h1,h2,h3,h4,h5⟩
theorem PS.nx {o:RS} {m':Str→Option Value} {σ₁:List Cell} {s₁:Shared} {μ₁:Addr→Prop} {ρ₁:List (Addr × Addr)} {fr':List (Option V)} (st:St c (f.upd m' :: fs) s μ ρ σ₁ s₁ μ₁ ρ₁) (ho:o = .nx fr' σ₁) (hf:FrRep c s₁.heap μ₁ ρ₁ (f.upd m') nm fr'):PS c f fs s μ ρ nm o .next s₁ :=
  ⟨m',σ₁,μ₁,ρ₁,st, .inl ⟨fr',ho,rfl,hf⟩⟩
theorem fun_int (G:Go c n A f fs s μ ρ σ nm sc fr):interactive f.env=false:=by
  unfold interactive
  rw [(G.inv.frames f List.mem_cons_self).kd]
  rfl
theorem x_expr {x:X} {p:Pos} {st:Stmt} {o:RS} (H:SX c n) (G:Go c (n + 1) A f fs s μ ρ σ nm sc fr) (ht:trS c nm sc m (.expr x p)=some st) (hr:exS c.T (n + 1) (.expr x p) fr σ=some o):wpAny (model c.prog c.w) A (exec st f.env) (PS c f fs s μ ρ nm o) (ES c f fs s μ ρ nm o) s:=by
  cases m with
  | zero=>exact Mine.n0 ht
  | succ m =>
    obtain ⟨e,h1,hz_⟩:=bI ht; clear ht; rename _=>ht
    first | obtain rfl:=oi ht | exact n0 ht | exact n1 ht | cases ht
    simp only [eS_expr] at hr
    obtain ⟨r,h0⟩ : ∃ r,exX c.T n x fr σ=some r:=by cases q:exX c.T n x fr σ with | none=>rw [q] at hr; cases hr | some r=>exact ⟨r,rfl⟩
    have ho : ∀ v σ',r = .ok v σ'→(fun _ s=>some (.nx fr s)) v σ'=some o:=fun v σ' e=>by subst e; rw [h0] at hr; exact hr
    have he : ∀ i σ',r = .ex i σ'→o = .ex i fr σ':=fun i σ' e=>by subst e; rw [h0] at hr; exact (Option.some.inj hr).symm
    refine wpAny_Expr_any (wpAny_mono (H h1 h0 (G.less (Nat.le_succ _))) (fun y s₁ h => ?_) fun _ _ h=>ES.of G he h) (fun_int G) (not_comp h1 _ _ _)
    obtain ⟨v,σ',μ',ρ',e',st,rep⟩:=h
    have:=ho _ _ e'
    exact PS.nx (m':=f.m) st (Option.some.inj this).symm (st.fr G.fr)
theorem x_asN {i:Nat} {pn:Pos} {x:X} {p:Pos} {st:Stmt} {o:RS} (H:SX c n) (G:Go c (n + 1) A f fs s μ ρ σ nm sc fr) (ht:trS c nm sc m (.asN i pn x p)=some st) (hr:exS c.T (n + 1) (.asN i pn x p) fr σ=some o):wpAny (model c.prog c.w) A (exec st f.env) (PS c f fs s μ ρ nm o) (ES c f fs s μ ρ nm o) s:=by
  cases m with
  | zero=>exact Mine.n0 ht
  | succ m =>
    obtain ⟨y,hy,hz_⟩:=bI ht; clear ht; rename _=>ht
    obtain ⟨e,h1,hz_⟩:=bI ht; clear ht; rename _=>ht
    first | obtain rfl:=oi ht | exact n0 ht | exact n1 ht | cases ht
    simp only [eS_asN] at hr
    obtain ⟨r,h0⟩ : ∃ r,exX c.T n x fr σ=some r:=by cases q:exX c.T n x fr σ with | none=>rw [q] at hr; cases hr | some r=>exact ⟨r,rfl⟩
    have ho : ∀ v σ',r = .ok v σ'→(fun v s=>some (.nx (fr.set i (some v)) s)) v σ'=some o:=fun v σ' e=>by subst e; rw [h0] at hr; exact hr
    have he : ∀ i σ',r = .ex i σ'→o = .ex i fr σ':=fun i σ' e=>by subst e; rw [h0] at hr; exact (Option.some.inj hr).symm
    refine wpAny_Assign_Name (wpAny_mono (H h1 h0 (G.less (Nat.le_succ _))) (fun z s₁ h => ?_) fun _ _ h=>ES.of G he h) (not_comp h1 _ _ _)
    obtain ⟨v,σ',μ',ρ',e',st,rep⟩:=h
    have:=ho _ _ e'
    refine (G.next st).store hy rep fun m' s' G' st' => ?_
    exact PS.nx (m':=m') (st.trans st') (Option.some.inj this).symm G'.fr
theorem x_ret {x:X} {p:Pos} {st:Stmt} {o:RS} (H:SX c n) (G:Go c (n + 1) A f fs s μ ρ σ nm sc fr) (ht:trS c nm sc m (.ret x p)=some st) (hr:exS c.T (n + 1) (.ret x p) fr σ=some o):wpAny (model c.prog c.w) A (exec st f.env) (PS c f fs s μ ρ nm o) (ES c f fs s μ ρ nm o) s:=by
  cases m with
  | zero=>exact Mine.n0 ht
  | succ m =>
    obtain ⟨e,h1,hz_⟩:=bI ht; clear ht; rename _=>ht
    first | obtain rfl:=oi ht | exact n0 ht | exact n1 ht | cases ht
    simp only [eS_ret] at hr
    obtain ⟨r,h0⟩ : ∃ r,exX c.T n x fr σ=some r:=by cases q:exX c.T n x fr σ with | none=>rw [q] at hr; cases hr | some r=>exact ⟨r,rfl⟩
    have ho : ∀ v σ',r = .ok v σ'→(fun v s=>some (.rt v s)) v σ'=some o:=fun v σ' e=>by subst e; rw [h0] at hr; exact hr
    have he : ∀ i σ',r = .ex i σ'→o = .ex i fr σ':=fun i σ' e=>by subst e; rw [h0] at hr; exact (Option.some.inj hr).symm
    refine wpAny_Return_some (wpAny_mono (H h1 h0 (G.less (Nat.le_succ _))) (fun z s₁ h => ?_) fun _ _ h=>ES.of G he h)
    obtain ⟨v,σ',μ',ρ',e',st,rep⟩:=h
    have:=ho _ _ e'
    exact ⟨f.m,σ',μ',ρ',st, .inr ⟨v,z,(Option.some.inj this).symm,rfl,rep⟩⟩
theorem x_ifs {t:X} {a b:List S} {p:Pos} {st:Stmt} {o:RS} (HT:ST c n) (HS:SSs c n) (G:Go c (n + 1) A f fs s μ ρ σ nm sc fr) (ht:trS c nm sc m (.ifs t a b p)=some st) (hr:exS c.T (n + 1) (.ifs t a b p) fr σ=some o):wpAny (model c.prog c.w) A (exec st f.env) (PS c f fs s μ ρ nm o) (ES c f fs s μ ρ nm o) s:=by
  cases m with
  | zero=>exact Mine.n0 ht
  | succ m =>
    obtain ⟨te,h1,hz_⟩:=bI ht; clear ht; rename _=>ht
    obtain ⟨ae,h2,hz_⟩:=bI ht; clear ht; rename _=>ht
    obtain ⟨be,h3,hz_⟩:=bI ht; clear ht; rename _=>ht
    first | obtain rfl:=oi ht | exact n0 ht | exact n1 ht | cases ht
    simp only [eS_ifs] at hr
    obtain ⟨r,h0⟩ : ∃ r,exX c.T n t fr σ=some r:=by cases q:exX c.T n t fr σ with | none=>rw [q] at hr; cases hr | some r=>exact ⟨r,rfl⟩
    have ho : ∀ v σ',r = .ok v σ'→(fun v s=>match truthy s v with | some true=>exSs c.T n a fr s | some false=>exSs c.T n b fr s | none=>none) v σ'=some o:=fun v σ' e=>by subst e; rw [h0] at hr; exact hr
    have he : ∀ i σ',r = .ex i σ'→o = .ex i fr σ':=fun i σ' e=>by subst e; rw [h0] at hr; exact (Option.some.inj hr).symm
    have htr : ∀ v σ',r = .ok v σ'→Tru σ' v:=fun v σ' e'=>by
      have:=ho v σ' e'
      simp only at this
      split at this
      · exact ⟨_,by assumption⟩
      · exact ⟨_,by assumption⟩
      · first | obtain rfl:=oi this | exact n0 this | exact n1 this | cases this
    have G':=G.less (Nat.le_succ n)
    refine wpAny_If (wpAny_mono (HT h1 h0 htr G') (fun bb s₁ h => ?_) fun _ _ h=>ES.of G he h)
    obtain ⟨v,σ',μ',ρ',e',st,hb⟩:=h
    have:=ho _ _ e'
    simp only at this
    rw [hb] at this
    cases bb with
    | true=>exact wpAny_mono (HS h2 this (G'.next st)) (fun _ _ h=>PS.st (m':=f.m) st h) fun _ _ h=>ES.st (m':=f.m) st h
    | false=>exact wpAny_mono (HS h3 this (G'.next st)) (fun _ _ h=>PS.st (m':=f.m) st h) fun _ _ h=>ES.st (m':=f.m) st h
theorem sss_step (H : SS c n) (HS : SSs c n) : SSs c (n + 1) := by
  intro m nm sc t st ht fr σ o hr A f fs s μ ρ G
  cases t with
  | nil =>
    cases m with
    | zero=>exact Mine.n0 ht
    | succ m =>
      first | obtain rfl:=oi ht | exact n0 ht | exact n1 ht | cases ht
      exact wpAny_execs_nil (PS.nx (m':=f.m) (.refl G.inv) (Option.some.inj hr).symm G.fr)
  | cons t r =>
    cases m with
    | zero=>exact Mine.n0 ht
    | succ m =>
      obtain ⟨t',h1,hz_⟩:=bI ht; clear ht; rename _=>ht
      obtain ⟨r',h2,hz_⟩:=bI ht; clear ht; rename _=>ht
      first | obtain rfl:=oi ht | exact n0 ht | exact n1 ht | cases ht
      simp only [eSs_cons] at hr
      have G':=G.less (Nat.le_succ n)
      refine wpAny_execs_cons ?_
      cases h0:exS c.T n t fr σ with
      | none=>rw [h0] at hr; cases hr
      | some o₁ =>
        rw [h0] at hr
        refine wpAny_mono (H h1 h0 G') (fun fl s₁ h => ?_) fun e s₁ h => ?_
        · obtain ⟨m', σ', μ', ρ', st, h⟩ := h
          rcases h with ⟨fr',rfl,rfl,hf⟩ | ⟨v,x,rfl,rfl,rep⟩
          · have G₁ : Go c n A (f.upd m') fs s₁ μ' ρ' σ' nm sc fr' := ⟨G'.bs, st.inv, G'.ok.upd, G'.d, G'.u, G'.hsc, G'.hcd, hf⟩
            exact wpAny_mono (HS h2 hr (f:=f.upd m') G₁) (fun _ _ h=>PS.st st h) fun _ _ h=>ES.st st h
          · first | obtain rfl := oi hr | exact n0 hr | exact n1 hr | cases hr
            exact ⟨m',σ',μ',ρ',st, .inr ⟨v,x,rfl,rfl,rep⟩⟩
        · obtain ⟨m', σ', μ', ρ', i, fr', a, st, rfl, h2, h3, h4, h5⟩ := h
          first | obtain rfl:=oi hr | exact n0 hr | exact n1 hr | cases hr
          exact ⟨m',σ',μ',ρ',i,fr',a,st,rfl,h2,h3,h4,h5⟩
end
end Mine
end
section
set_option tactic.hygienic false
namespace Mine
open PySem PySem.W PySem.Spec PySem.Calls PyProof.Rows PyProof.V

noncomputable def tNames (nm:List Str) (sc:Scope):List (Nat × Pos)→Option (List Str)
  | []=>some []
  | (i,_) :: r=>(trSet nm sc i).bind fun y=>(tNames nm sc r).map (y :: ·)
theorem filter_all {α β : Type} {f g : α → Option β} (hfg : ∀ a b, f a = some b → g a = some b) {l : List α} : ∀ {ys : List β}, l.map g = ys.map some → (l.filterMap f).length = l.length → l.filterMap f = ys := by
  induction l with
  | nil => intro ys h _; cases ys with
    | nil=>rfl
    | cons _ _=>cases h
  | cons a l ih =>
    intro ys h hl
    cases q:f a with
    | none =>
      rw [List.filterMap_cons_none q] at hl
      exact absurd (List.length_filterMap_le f l) (by rw [hl]; exact Nat.not_succ_le_self _)
    | some b =>
      rw [List.filterMap_cons_some q] at hl ⊢
      cases ys with
      | nil=>cases h
      | cons y ys =>
        obtain ⟨h1,h2⟩:=List.cons.inj h
        rw [ih h2 (Nat.succ.inj hl),oi ((hfg a b q).symm.trans h1)]
theorem names_in (g:Str→Pos→Bool) (e:Expr) (b:Str) (h:(match e with | .Name id pos=>if g id pos then some id else none | _=>none)=some b):nameOf e=some b:=by
  cases e with
  | Name id pos=>exact congrArg some (ifI h).2
  | _=>exact n0 h
theorem ites_ {α:Type} {p:Prop} [Decidable p] {a b c:α} (h : ¬ p→b=a ∨ b=c):(if p then a else b)=a ∨ (if p then a else b)=c:=by
  by_cases q:p
  · exact .inl (if_pos q)
  · rw [if_neg q]; exact h q
theorem swapped_cases {es:List Expr} {ys:List Str} {k:Nat} {pt:Pos} {e:Expr} {env:Env} (hn:es.map nameOf=ys.map some) (ho:okSwap e=true) :
    swappedStores [.Tuple es k pt] e env=pure none ∨ swappedStores [.Tuple es k pt] e env=pure (some ys):=by
  cases e with
  | Tuple vs k' p' =>
    refine ites_ (fun _ => ?_)
    refine ites_ (fun _ => ?_)
    refine ites_ (fun c3 => ?_)
    refine ites_ (fun c4 => ?_)
    refine .inr ?_
    refine (if_neg (fun c5 => ?_)).trans ?_
    · exact c4 (Bool.or_eq_true _ _ ▸ ho |>.resolve_left (by rw [c5]; decide))
    · simp only [Bool.or_eq_true, bne_iff_ne, ne_eq, not_or, Decidable.not_not] at c3
      exact congrArg (fun l=>(pure (some l):Sem (Option (List Str)))) (filter_all (names_in fun id pos=>env.kindOf id == some .local && pos.line == (es.head?.map (·.pos.line)).getD 0) hn c3.1)
  | _=>exact .inl rfl
section
variable {c:Cx} {n m:Nat} {A:Around} {f:FrI} {fs:List FrI} {s:Shared} {μ:Addr→Prop} {ρ:List (Addr × Addr)} {σ:List Cell} {nm:List Str} {sc:Scope} {fr:List (Option V)} {e:Expr} {r:R V}
theorem trT_names : ∀ {ts:List (Nat × Pos)} {es:List Expr},trT nm sc ts=some es → ∃ ys,tNames nm sc ts=some ys∧es.map nameOf=ys.map some∧(∀ env,(assignEach es env).map (·.2)=ys.zipWith (fun y (p:Nat × Pos)=>assign (.Name y p.2) env) ts)∧(∀ env,(assignEach es env).length=es.length)∧(∀ env,(assignEach es env).findIdx? (·.1)=none)∧es.length=ts.length∧ys.length=ts.length
  | [],_,h=>by cases h; exact ⟨[],rfl,rfl,fun _=>rfl,fun _=>rfl,fun _=>rfl,rfl,rfl⟩
  | (i, p) :: r, es, h => by
    obtain ⟨y,hy,hz_⟩:=bI h; clear h; rename _=>h
    obtain ⟨es',h1,hz_⟩:=bI h; clear h; rename _=>h
    cases h
    obtain ⟨ys,a,b,d,l,fi,g,g'⟩:=trT_names h1
    refine ⟨y :: ys,by simp [tNames,hy,a],congrArg (some y :: ·) b,fun env => ?_,fun env => ?_,fun env => ?_,by simp [g],by simp [g']⟩
    · show assign (.Name y p) env :: (assignEach es' env).map (·.2) = _
      rw [d env]; rfl
    · show (assignEach es' env).length + 1 = _
      rw [l env]; rfl
    · show ((false, assign (.Name y p) env) :: assignEach es' env).findIdx? (·.1) = none
      rw [List.findIdx?_cons]
      simp [fi env]
theorem putT_len : ∀ {ts:List (Nat × Pos)} {vs:List V} {fr fr':List (Option V)},putT fr ts vs=some fr'→ts.length=vs.length
  | [],[],_,_,_=>rfl
  | [],_ :: _,_,_,h=>by simp [putT] at h
  | (_,_) :: _,[],_,_,h=>by simp [putT] at h
  | (i,p) :: r,v :: t,fr,fr',h=>by simp only [putT] at h; simp [putT_len h]
theorem putT_app : ∀ {ts ts':List (Nat × Pos)} {vs vs':List V} {fr:List (Option V)},ts.length=vs.length→putT fr (ts ++ ts') (vs ++ vs')=(putT fr ts vs).bind fun fr=>putT fr ts' vs'
  | [],_,[],_,_,_=>rfl
  | [],_,_ :: _,_,_,h=>by simp at h
  | _ :: _,_,[],_,_,h=>by simp at h
  | (i, p) :: r, _, v :: t, _, fr, h => by
    simp only [List.cons_append,putT]
    exact putT_app (by simpa using h)
theorem putT_set {i:Nat} {v:V} : ∀ {ts:List (Nat × Pos)} {vs:List V} {fr:List (Option V)},i ∉ ts.map (·.1)→putT (fr.set i (some v)) ts vs=(putT fr ts vs).map (·.set i (some v))
  | [],[],_,_=>rfl
  | [],_ :: _,_,_=>rfl
  | (_,_) :: _,[],_,_=>rfl
  | (j, p) :: r, w :: t, fr, h => by
    simp only [List.map_cons,List.mem_cons,not_or] at h
    simp only [putT]
    rw [List.set_comm _ _ h.1,putT_set h.2]
theorem putT_rev : ∀ {ts:List (Nat × Pos)} {vs:List V} {fr:List (Option V)},(ts.map (·.1)).Nodup→ts.length=vs.length→putT fr ts.reverse vs.reverse=putT fr ts vs
  | [],[],_,_,_=>rfl
  | [],_ :: _,_,_,h=>by simp at h
  | _ :: _,[],_,_,h=>by simp at h
  | (i, p) :: r, v :: t, fr, hn, h => by
    rw [List.map_cons,List.nodup_cons] at hn
    have hl:r.length=t.length:=by simpa using h
    rw [List.reverse_cons,List.reverse_cons,putT_app (by simpa using hl),putT_rev hn.2 hl]
    show _=putT (fr.set i (some v)) r t
    rw [putT_set hn.1]
    cases putT fr r t <;> rfl
theorem Go.stores {sem:Str→(Nat × Pos)→Value→Sem Unit} (hsem : ∀ y p x f' {Q:Unit→Shared→Prop} {E:Value→Shared→Prop} {s':Shared},wpAny (model c.prog c.w) A (storeName (FrI.upd f f').env y x) Q E s'→wpAny (model c.prog c.w) A (sem y p x) Q E s') : ∀ {ts:List (Nat × Pos)} {ys:List Str} {vs:List V} {xs:List Value} {g:FrI} {s:Shared} {fr fr':List (Option V)} {Q:Unit→Shared→Prop} {E:Value→Shared→Prop},(∃ m',g=f.upd m')→Go c n A g fs s μ ρ σ nm sc fr→tNames nm sc ts=some ys→VReps c s.heap μ ρ vs xs→putT fr ts vs=some fr' →
    (∀ m' s',Go c n A (f.upd m') fs s' μ ρ σ nm sc fr'→St c (f.upd m' :: fs) s μ ρ σ s' μ ρ→Q () s')→wpAny (model c.prog c.w) A (assignInOrder (ys.zipWith (fun y p=>sem y p) ts) xs) Q E s
  | [], ys, vs, xs, g, s, fr, fr', Q, E, hg, G, hy, rv, hp, k => by
    obtain ⟨m',rfl⟩:=hg
    cases hy
    cases vs with
    | nil=>cases hp; exact assignInOrder_nil (k m' _ G (.refl G.inv))
    | cons=>simp [putT] at hp
  | (i, p) :: ts, ys, vs, xs, g, s, fr, fr', Q, E, hg, G, hy, rv, hp, k => by
    obtain ⟨m0,rfl⟩:=hg
    simp only [tNames,Option.bind_eq_some_iff,Option.map_eq_some_iff] at hy
    obtain ⟨y,h1,ys',h2,rfl⟩:=hy
    cases vs with
    | nil=>simp [putT] at hp
    | cons v vs =>
      obtain ⟨_,_,rfl,rx,rest⟩:=rv.cons_; clear rv
      simp only [putT] at hp
      refine assignInOrder_cons (hsem _ _ _ m0 (G.store h1 rx fun m' s' G' st => ?_))
      exact Go.stores hsem (g:=f.upd m') ⟨m',rfl⟩ G' h2 (rest.mono st.grow (List.prefix_refl _)) hp fun m2 s2 G2 st2=>k m2 s2 G2 (st.trans st2)
end
end Mine
end
section
namespace Mine
open PySem PySem.W PySem.Spec PySem.Calls PyProof.Rows PyProof.V

theorem VReps.rev {c:Cx} {h:Heap} {μ:Addr→Prop} {ρ:List (Addr × Addr)} : ∀ {l:List V} {xs:List Value},VReps c h μ ρ l xs→VReps c h μ ρ l.reverse xs.reverse:=fun H=>H.ind (P:=fun l xs=>VReps c h μ ρ l.reverse xs.reverse) .nil fun a _ ih=>by
    rw [List.reverse_cons,List.reverse_cons]
    exact ih.app (.cons a .nil)
theorem VReps.set {c:Cx} {h:Heap} {μ:Addr→Prop} {ρ:List (Addr × Addr)} {v:V} {x:Value} (rep:VRep c h μ ρ v x) : ∀ {l:List V} {xs:List Value} (i:Nat),VReps c h μ ρ l xs→VReps c h μ ρ (l.set i v) (xs.set i x)
  | _,_,_, .nil => .nil
  | _,_,0, .cons a b => .cons rep b
  | _,_,i + 1, .cons a b => .cons a (b.set rep i)
theorem FRep.len {c:Cx} {h:Heap} {μ:Addr→Prop} {ρ:List (Addr × Addr)} : ∀ {fs:List (Nat × V)} {es:List DictEntry},FRep c h μ ρ fs es→fs.length=es.length:=fun H=>H.ind (P:=fun fs es=>fs.length=es.length) rfl fun _ _ _ _ ih=>congrArg (· + 1) ih
theorem putL_len (name:Str) (hsh:Int) (key v:Value) : ∀ es:List DictEntry,(putL name hsh key v es).length≤es.length + 1
  | []=>Nat.le_refl _
  | e :: r => by
    unfold putL
    split
    · simp
    · simpa using putL_len name hsh key v r
theorem FRep.put {c : Cx} (P : Prog c) {h : Heap} {μ : Addr → Prop} {ρ : List (Addr × Addr)} {f : Nat} (hf : f < 40) {v : V} {x : Value} (rep : VRep c h μ ρ v x) {hsh : Int} {t : Tok} : ∀ {fs : List (Nat × V)} {es : List DictEntry}, FRep c h μ ρ fs es →
    FRep c h μ ρ (fput f v fs) (putL (c.an f) hsh (.str (c.an f) t) x es)
  | _,_, .nil => .cons (t:=t) hf rfl rep .nil
  | _, _, .cons (f := g) (v := w) (e := en) (es := es') hg hk rv rest => by
    unfold fput putL
    by_cases q:f=g
    · subst q
      have:en.key.isStr (c.an f)=true:=by rw [hk]; simp [Value.isStr]
      rw [if_pos rfl,if_pos this]
      exact .cons hf hk rep rest
    · have hne : en.key.isStr (c.an f) = false := by
        rw [hk]
        show (c.an g == c.an f)=false
        exact beq_eq_false_iff_ne.mpr fun z=>q (P.inj _ _ hf hg z.symm)
      rw [if_neg q,hne]
      exact .cons hg hk rv (FRep.put P hf rep rest)
section
variable {c:Cx} {n m:Nat} {A:Around} {f:FrI} {fs:List FrI} {s:Shared} {μ:Addr→Prop} {ρ:List (Addr × Addr)} {σ:List Cell} {nm:List Str} {sc:Scope} {fr:List (Option V)} {e:Expr} {r:R V}
theorem zipWith_names {env:Env} : ∀ {ts:List (Nat × Pos)} {ys:List Str},ys.length=ts.length→ys.map (fun n=>bindName env n)=ys.zipWith (fun y (_:Nat × Pos)=>bindName env y) ts
  | [],[],_=>rfl
  | [],_ :: _,h=>by simp at h
  | _ :: _,[],h=>by simp at h
  | t :: ts, y :: ys, h => by
    simp only [List.map_cons,List.zipWith_cons_cons]
    rw [zipWith_names (ts:=ts) (by simpa using h)]
theorem tNames_app : ∀ {ts ts':List (Nat × Pos)} {ys ys':List Str},tNames nm sc ts=some ys→tNames nm sc ts'=some ys'→tNames nm sc (ts ++ ts')=some (ys ++ ys')
  | [],_,_,_,h,h'=>by cases h; exact h'
  | (i, p) :: ts, ts', ys, ys', h, h' => by
    simp only [tNames,Option.bind_eq_some_iff,Option.map_eq_some_iff] at h
    obtain ⟨y,h1,zs,h2,rfl⟩:=h
    show (trSet nm sc i).bind (fun y=>(tNames nm sc (ts ++ ts')).map (y :: ·))=_
    rw [h1,tNames_app h2 h']
    rfl
theorem tNames_rev : ∀ {ts:List (Nat × Pos)} {ys:List Str},tNames nm sc ts=some ys→tNames nm sc ts.reverse=some ys.reverse
  | [],_,h=>by cases h; rfl
  | (i, p) :: ts, ys, h => by
    simp only [tNames,Option.bind_eq_some_iff,Option.map_eq_some_iff] at h
    obtain ⟨y,h1,zs,h2,rfl⟩:=h
    rw [List.reverse_cons,List.reverse_cons]
    exact tNames_app (tNames_rev h2) (by simp [tNames,h1])
theorem Go.unpack (G:Go c n A f fs s μ ρ σ nm sc fr) {ts:List (Nat × Pos)} {es:List Expr} (ht:trT nm sc ts=some es) (hnd:(ts.map (·.1)).Nodup) {vs:List V} {y:Value} (rep:VRep c s.heap μ ρ (.tup vs) y) {fr':List (Option V)} (hp:putT fr ts vs=some fr') {k:Nat} {pt:Pos} {Q:Unit→Shared→Prop} {E:Value→Shared→Prop}
    (hk : ∀ m' s' μ',Go c n A (f.upd m') fs s' μ' ρ σ nm sc fr'→St c (f.upd m' :: fs) s μ ρ σ s' μ' ρ→Q () s'):wpAny (model c.prog c.w) A (assign (.Tuple es k pt) f.env y) Q E s:=by
  obtain ⟨ys,a1,a2,a3,a4,a5,a6,a7⟩:=trT_names ht
  obtain ⟨_,_,_,rfl,e,nn,vr⟩:=rep.tup_; clear rep
  rename_i xs a nA
  have hh:A.handled=none:=G.ok.h
  have it:IsTup s.heap a xs:=⟨_,e,rfl,_,rfl⟩
  have hl1:=putT_len hp
  have hl2:vs.length=xs.size:=by simpa using vr.len
  refine assign_Tuple_tuple hh it (by rw [a4]; omega) (a5 _) fun h' he => ?_
  have hkeep : ∀ b o,s.heap.get? b=some o→h'.get? b=some o:=fun b o e=>he b o (Nat.ne_of_lt (Heap.lt_size e)) e
  obtain ⟨μ',_,st⟩:=St.kept (h':=h') G.inv hkeep
  rw [a3]
  refine Go.stores (n:=n) (A:=A) (f:=f) (sem:=fun y p x=>assign (.Name y p.2) f.env x) (fun y p x f' _ _ _ h=>PyProof.Rows.assign_Name h) (g:=f.upd f.m) ⟨f.m,rfl⟩ (G.next (st s.toks)) a1 (vr.mono (st s.toks).grow (List.prefix_refl _)) hp fun m' s' G' st' => ?_
  exact hk m' s' μ' G' ((st s.toks).trans st')
theorem x_asT {ts : List (Nat × Pos)} {k : Nat} {pt : Pos} {x : X} {p : Pos} {st : Stmt} {o : RS} (H : SX c n) (G : Go c (n + 1) A f fs s μ ρ σ nm sc fr) (ht : trS c nm sc m (.asT ts k pt x p) = some st) (hr : exS c.T (n + 1) (.asT ts k pt x p) fr σ = some o) : wpAny (model c.prog c.w) A (exec st f.env) (PS c f fs s μ ρ nm o) (ES c f fs s μ ρ nm o) s := by
  cases m with
  | zero=>exact Mine.n0 ht
  | succ m =>
    obtain ⟨es,hes,hz_⟩:=bI ht; clear ht; rename _=>ht
    obtain ⟨e,h1,hz_⟩:=bI ht; clear ht; rename _=>ht
    split at ht
    · rename_i hc
      first | obtain rfl:=oi ht | exact n0 ht | exact n1 ht | cases ht
      simp only [Bool.and_eq_true,decide_eq_true_eq] at hc
      obtain ⟨hok,hnd⟩:=hc
      simp only [eS_asT] at hr
      obtain ⟨r,h0⟩ : ∃ r,exX c.T n x fr σ=some r:=by cases q:exX c.T n x fr σ with | none=>rw [q] at hr; cases hr | some r=>exact ⟨r,rfl⟩
      have he : ∀ i σ',r = .ex i σ'→o = .ex i fr σ':=fun i σ' e=>by subst e; rw [h0] at hr; exact (Option.some.inj hr).symm
      have ho : ∀ v σ',r = .ok v σ' → ∃ vs fr',v = .tup vs∧putT fr ts vs=some fr'∧o = .nx fr' σ':=fun v σ' e=>by
        subst e
        rw [h0] at hr
        cases v with
        | tup vs =>
          simp only [Option.map_eq_some_iff] at hr
          obtain ⟨fr',q1,q2⟩:=hr
          exact ⟨vs,fr',rfl,q1,q2.symm⟩
        | _=>cases hr
      have G':=G.less (Nat.le_succ n)
      obtain ⟨ys,a1,a2,a3,a4,a5,a6,a7⟩:=trT_names hes
      have hsole:swapsWithSole [.Tuple es k pt] e p.line f.env=pure false:=by show swapsWith e (some (.Tuple es k pt)) p.line f.env=_; exact not_comp h1 _ _ _
      rcases swapped_cases (k:=k) (pt:=pt) (e:=e) (env:=f.env) a2 hok with hw | hw
      · refine Assign_Tuple (wpAny_mono (H h1 h0 G') (fun z s₁ h => ?_) fun _ _ h => ES.of G he h) hsole hw
        obtain ⟨v,σ',μ',ρ',e',st,rep⟩:=h
        obtain ⟨vs,fr',rfl,hp,rfl⟩:=ho _ _ e'
        refine (G'.next st).unpack hes hnd rep hp fun m' s' μ'' G'' st' => ?_
        exact PS.nx (m':=m') (st.trans st') rfl G''.fr
      · refine Assign_Tuple_swapped (wpAny_mono (H h1 h0 G') (fun z s₁ h => ?_) fun _ _ h => ES.of G he h) hsole hw
        obtain ⟨v,σ',μ',ρ',e',st,rep⟩:=h
        obtain ⟨vs,fr',rfl,hp,rfl⟩:=ho _ _ e'
        have G₁:=G'.next st
        obtain ⟨_,_,_,rfl,e,nn,vr⟩:=rep.tup_; clear rep
        rename_i xs a nA
        have hh:A.handled=none:=G.ok.h
        have it:IsTup s₁.heap a xs:=⟨_,e,rfl,_,rfl⟩
        have hl1:=putT_len hp
        have hl2:vs.length=xs.size:=by simpa using vr.len
        rw [show ys.length=xs.size by omega]
        refine unpackItems_tuple hh it fun h' he => ?_
        have hkeep : ∀ b o,s₁.heap.get? b=some o→h'.get? b=some o:=fun b o e=>he b o (Nat.ne_of_lt (Heap.lt_size e)) e
        obtain ⟨μ'',_,st2⟩:=St.kept (h':=h') G₁.inv hkeep
        rw [zipWith_names (ts:=ts.reverse) (by simp [a7])]
        refine Go.stores (n:=n) (A:=A) (f:=f) (sem:=fun y p x=>bindName f.env y x) (fun y p x f' _ _ _ h=>wpAny_bindName h) (g:=f.upd f.m) ⟨f.m,rfl⟩ (G₁.next (st2 s₁.toks)) (tNames_rev a1) (vr.mono (st2 s₁.toks).grow (List.prefix_refl _)).rev ((putT_rev hnd hl1).trans hp) fun m' s' G'' st' => ?_
        exact PS.nx (m':=m') (st.trans ((st2 s₁.toks).trans st')) rfl G''.fr
    · first | obtain rfl:=oi ht | exact n0 ht | exact n1 ht | cases ht
theorem x_asA {ox : X} {g : Nat} {pa : Pos} {x : X} {p : Pos} {st : Stmt} {o : RS} (P3 : Prog3 c) (H : SX c n) (G : Go c (n + 1) A f fs s μ ρ σ nm sc fr) (ht : trS c nm sc m (.asA ox g pa x p) = some st) (hr : exS c.T (n + 1) (.asA ox g pa x p) fr σ = some o) : wpAny (model c.prog c.w) A (exec st f.env) (PS c f fs s μ ρ nm o) (ES c f fs s μ ρ nm o) s := by
  cases m with
  | zero=>exact Mine.n0 ht
  | succ m =>
    obtain ⟨oe,h1,hz_⟩:=bI ht; clear ht; rename _=>ht
    obtain ⟨e,h2,hz_⟩:=bI ht; clear ht; rename _=>ht
    split at ht
    · rename_i hns
      first | obtain rfl:=oi ht | exact n0 ht | exact n1 ht | cases ht
      simp only [eS_asA] at hr
      generalize hz:(bnd (exX c.T n x fr σ) fun v s=>bnd (exX c.T n ox fr s) fun o s=>_)=z at hr
      obtain ⟨r,hr0⟩ : ∃ r,z=some r:=by cases z with | none=>cases hr | some r=>exact ⟨r,rfl⟩
      subst hr0
      have he : ∀ i σ',r = .ex i σ'→o = .ex i fr σ':=fun i σ' e=>by subst e; exact (Option.some.inj hr).symm
      have ho : ∀ v σ',r = .ok v σ'→o = .nx fr σ':=fun v σ' e=>by subst e; exact (Option.some.inj hr).symm
      have G':=G.less (Nat.le_succ n)
      refine plainObj_wpAny_Assign_Attribute (H.run G' h2 hz (fun v σ₁ y s₁ μ₁ ρ₁ hk G₁ st rep => ?_) fun _ _ h=>ES.of G he h) (not_comp h2 _ _ _)
      refine H.run G₁ h1 hk (fun w σ₂ y₂ s₂ μ₂ ρ₂ hk G₂ st2 rep2 => ?_) fun _ _ h=>ES.of G he (h.st st)
      cases w with
      | ref i =>
        simp only at hk
        split at hk
        · rename_i C fs' hcell
          split at hk
          · rename_i hg
            first | obtain rfl:=oi hk | exact n0 hk | exact n1 hk | cases hk
            obtain ⟨hg1,hg2,hg3⟩:=hg
            obtain ⟨_,_,rfl,hi⟩:=rep2.ref_; clear rep2
            rename_i xa d
            obtain ⟨pp,hpp,ca⟩:=G₂.inv.cells.get hcell
            rw [hi] at hpp
            first | obtain rfl:=oi hpp | exact n0 hpp | exact n1 hpp | cases hpp
            obtain ⟨_,_,_,z,ha,e1,n1,e2,mm,frep⟩:=ca.inst_; clear ca
            rename_i C' es' nn
            obtain ⟨q1,q2,q3,q4⟩:=P3.sta C C' g z hg2 ha hg1
            have hlen:=frep.len
            have hsome:(getL (c.an g) es').isSome=true:=by
              cases q:fget g fs' with
              | none=>rw [frep.getNone P3.toProg (by omega) q]; rfl
              | some u=>obtain ⟨xx,hx,_⟩:=frep.get P3.toProg (by omega) q; rw [hx]; rfl
            refine set_field G₂.K ⟨e1,rfl,rfl,e2⟩ rfl q1 q2 q3 q4 hsome (Nat.le_trans (putL_len _ _ _ _ _) (by omega)) fun h' hsb hob => ?_
            have hkk:Grow s₂.heap μ₂ h' μ₂:=grow_but (fun a o nn e=>(hsb.2 a nn).trans e) mm
            have ca3:CellAt c h' μ₂ ρ₂ (xa,d) (.inst C (fput g v fs')) := .inst z ha (hkk _ _ e1 n1).1 n1 hob mm (FRep.put P3.toProg (by omega) ((st2.up rep).mono hkk (List.prefix_refl _)) (frep.mono hkk (List.prefix_refl _)))
            have stf:=(st.trans st2).trans (St.set G₂.inv hi hsb mm ca3 (tk:=s₂.toks + 2))
            exact PS.nx (m':=f.m) stf (ho _ _ rfl) (stf.fr G.fr)
          · first | obtain rfl:=oi hk | exact n0 hk | exact n1 hk | cases hk
        · first | obtain rfl:=oi hk | exact n0 hk | exact n1 hk | cases hk
      | _=>cases hk
    · first | obtain rfl:=oi ht | exact n0 ht | exact n1 ht | cases ht
theorem x_asI {ox ix : X} {pi : Pos} {x : X} {p : Pos} {st : Stmt} {o : RS} (H : SX c n) (G : Go c (n + 1) A f fs s μ ρ σ nm sc fr) (ht : trS c nm sc m (.asI ox ix pi x p) = some st) (hr : exS c.T (n + 1) (.asI ox ix pi x p) fr σ = some o) : wpAny (model c.prog c.w) A (exec st f.env) (PS c f fs s μ ρ nm o) (ES c f fs s μ ρ nm o) s := by
  cases m with
  | zero=>exact Mine.n0 ht
  | succ m =>
    obtain ⟨oe,h1,hz_⟩:=bI ht; clear ht; rename _=>ht
    obtain ⟨ie,h3,hz_⟩:=bI ht; clear ht; rename _=>ht
    obtain ⟨e,h2,hz_⟩:=bI ht; clear ht; rename _=>ht
    first | obtain rfl:=oi ht | exact n0 ht | exact n1 ht | cases ht
    simp only [eS_asI] at hr
    generalize hz:(bnd (exX c.T n x fr σ) fun v s=>bnd (exX c.T n ox fr s) fun o s=>bnd (exX c.T n ix fr s) fun k s=>_)=z at hr
    obtain ⟨r,hr0⟩ : ∃ r,z=some r:=by cases z with | none=>cases hr | some r=>exact ⟨r,rfl⟩
    subst hr0
    have he : ∀ i σ',r = .ex i σ'→o = .ex i fr σ':=fun i σ' e=>by subst e; exact (Option.some.inj hr).symm
    have ho : ∀ v σ',r = .ok v σ'→o = .nx fr σ':=fun v σ' e=>by subst e; exact (Option.some.inj hr).symm
    have G':=G.less (Nat.le_succ n)
    refine wpAny_Assign_Subscript (H.run G' h2 hz (fun v σ₁ y s₁ μ₁ ρ₁ hk G₁ st rep => ?_) fun _ _ h=>ES.of G he h) (not_comp h2 _ _ _)
    refine H.run G₁ h1 hk (fun w σ₂ y₂ s₂ μ₂ ρ₂ hk G₂ st2 rep2 => ?_) fun _ _ h=>ES.of G he (h.st st)
    refine H.run G₂ h3 hk (fun u σ₃ y₃ s₃ μ₃ ρ₃ hk G₃ st3 rep3 => ?_) fun _ _ h=>ES.of G he (h.st (st.trans st2))
    cases w with
    | ref i =>
      cases u with
      | int j =>
        simp only at hk
        split at hk
        · rename_i l hcell
          split at hk
          · rename_i hj
            first | obtain rfl:=oi hk | exact n0 hk | exact n1 hk | cases hk
            obtain ⟨tj,rfl⟩:=rep3.int_; clear rep3
            have rep2':=st3.up rep2
            cases rep2' with
            | ref hi =>
              rename_i xa d
              obtain ⟨pp,hpp,ca⟩:=G₃.inv.cells.get hcell
              rw [hi] at hpp
              first | obtain rfl:=oi hpp | exact n0 hpp | exact n1 hpp | cases hpp
              obtain ⟨_,_,rfl,e2,mm,vr⟩:=ca.list_; clear ca
              rename_i xs nn
              have hl:l.length=xs.size:=by simpa using vr.len
              refine set_item e2 hj.1 (by omega) (by omega) fun h' n' hsb hob => ?_
              have hkk:Grow s₃.heap μ₃ h' μ₃:=grow_but (fun a o nn e=>(hsb.2 a nn).trans e) mm
              have ca3:CellAt c h' μ₃ ρ₃ (xa,xa) (.list (l.set j.toNat v)) := .list (n:=n') hob mm (by
                rw [Array.toList_setIfInBounds]
                exact VReps.set (((st2.trans st3).up rep).mono hkk (List.prefix_refl _)) _ (vr.mono hkk (List.prefix_refl _)))
              have stf:=((st.trans st2).trans st3).trans (St.set G₃.inv hi hsb mm ca3 (tk:=s₃.toks))
              exact PS.nx (m':=f.m) stf (ho _ _ rfl) (stf.fr G.fr)
          · first | obtain rfl:=oi hk | exact n0 hk | exact n1 hk | cases hk
        · first | obtain rfl:=oi hk | exact n0 hk | exact n1 hk | cases hk
      | _=>cases hk
    | _=>cases hk
end
end Mine
end
section
set_option tactic.hygienic false
namespace Mine
open PySem PySem.W PySem.Spec PySem.Calls PyProof.Rows PyProof.V

section
variable {c:Cx} {h h':Heap} {μ μ':Addr→Prop} {ρ:List (Addr × Addr)}
section
variable (k : ∀ a o,isIter o=false→h.get? a=some o→h'.get? a=some o) (hm : ∀ a,μ' a→μ a)
include k hm
theorem VRep.it : ∀ {v x},VRep c h μ ρ v x→VRep c h' μ' ρ v x:=fun H=>H.map (fun a o i e n=>⟨k a o i e,fun z=>n (hm a z)⟩) (List.prefix_refl _)
theorem VReps.it : ∀ {v x},VReps c h μ ρ v x→VReps c h' μ' ρ v x:=fun H=>H.map (fun a o i e n=>⟨k a o i e,fun z=>n (hm a z)⟩) (List.prefix_refl _)
theorem FRep.it : ∀ {v x},FRep c h μ ρ v x→FRep c h' μ' ρ v x:=fun H=>H.map (fun a o i e n=>⟨k a o i e,fun z=>n (hm a z)⟩) (List.prefix_refl _)
theorem CRep.it : ∀ {n v x},CRep c h μ ρ n v x→CRep c h' μ' ρ n v x:=fun H=>H.map (fun a o i e n=>⟨k a o i e,fun z=>n (hm a z)⟩) (List.prefix_refl _)
theorem FrRep.it {f:FrI} {nm:List Str} {fr:List (Option V)} (x:FrRep c h μ ρ f nm fr):FrRep c h' μ' ρ f nm fr:=fun i y v e1 e2=>by
  rcases x i y v e1 e2 with ⟨a,z,b,d⟩ | ⟨a,ca,o,z,b,d,e,n,r⟩
  · exact .inl ⟨a,z,b,d.it k hm⟩
  · exact .inr ⟨a,ca,o,z,b,k _ _ (isIter_cell e) d,e,fun q=>n (hm _ q),r.it k hm⟩
end
theorem CellAt.it (k : ∀ a o,isIter o=false→h.get? a=some o→h'.get? a=some o) (hm : ∀ a,μ' a→μ a) (hl : ∀ a,μ a→(∃ o,h.get? a=some o)→μ' a) {p:Addr × Addr} {q:Cell} (x:CellAt c h μ ρ p q):CellAt c h' μ' ρ p q:=by
  cases x with
  | inst z a e1 n1 e2 m f=>exact .inst z a (k _ _ rfl e1) (fun z=>n1 (hm _ z)) (k _ _ rfl e2) (hl _ m ⟨_,e2⟩) (f.it k hm)
  | list e m v=>exact .list (k _ _ rfl e) (hl _ m ⟨_,e⟩) (v.it k hm)
  | exc z a e o1 o2 o3 m e2 n2 f=>exact .exc z a (k _ _ (isIter_cls o1) e) o1 o2 o3 (hl _ m ⟨_,e⟩) (k _ _ rfl e2) (fun z=>n2 (hm _ z)) (f.it k hm)
  | new z a e o1 o2 o3 m e2 n2 f tb=>exact .new z a (k _ _ (isIter_cls o1) e) o1 o2 o3 (hl _ m ⟨_,e⟩) (k _ _ rfl e2) (fun z=>n2 (hm _ z)) (f.it k hm) tb
theorem CellsAt.it (k : ∀ a o,isIter o=false→h.get? a=some o→h'.get? a=some o) (hm : ∀ a,μ' a→μ a) (hl : ∀ a,μ a→(∃ o,h.get? a=some o)→μ' a) {ρ₀:List (Addr × Addr)} : ∀ {ρ:List (Addr × Addr)} {σ:List Cell},CellsAt c h μ ρ₀ ρ σ→CellsAt c h' μ' ρ₀ ρ σ:=fun H=>H.ind (P:=fun ρ σ=>CellsAt c h' μ' ρ₀ ρ σ) .nil fun a _ ih => .cons (a.it k hm hl) ih
theorem TabRow.it (k : ∀ a o,isIter o=false→h.get? a=some o→h'.get? a=some o) (hm : ∀ a,μ' a→μ a) {q:Addr × Addr} (x:TabRow c h μ q):TabRow c h' μ' q:=by
  obtain ⟨ps,e,x⟩:=x
  refine ⟨ps,k _ _ rfl e,x.imp id ?_⟩
  rintro ⟨k',I,c',oc,ov,tq,a1,a0,a2,a3,a4,a5,a6⟩
  exact ⟨k',I,c',oc,ov,tq,a1,a0,a2,k _ _ (isIter_code a4 a5) a3,a4,a5,fun z=>a6 (hm _ z)⟩
end
theorem Inv.it {c:Cx} {f:FrI} {fs:List FrI} {h h':Heap} {μ:Addr→Prop} {ρ:List (Addr × Addr)} {σ:List Cell} (I:Inv c (f :: fs) μ ρ σ h) (k : ∀ a o,isIter o=false→h.get? a=some o→h'.get? a=some o)
    (kB : ∀ a o,a < c.B.objs.size→h.get? a=some o→h'.get? a=some o) (kl : ∀ a o,μ a→h.get? a=some o → ∃ o',h'.get? a=some o') :
    Inv c (f :: fs) (fun a=>μ a ∧ ∃ o,h.get? a=some o) ρ σ h':=by
  have hm : ∀ a,(μ a ∧ ∃ o,h.get? a=some o)→μ a:=fun a z=>z.1
  have hl : ∀ a,μ a→(∃ o,h.get? a=some o)→(μ a ∧ ∃ o,h.get? a=some o):=fun a x y=>⟨x,y⟩
  refine ⟨fun a o e=>⟨kB _ _ (Heap.lt_size e) (I.base a o e).1,fun z=>(I.base a o e).2 z.1⟩, ?_,fun a z => ?_,fun f' hf => ?_,I.cells.it k hm hl,I.nodup,fun q hq => ?_⟩
  · obtain ⟨_, _, _, ⟨o, es, ep, ho, hd, _⟩, _, l⟩ := I.frames f List.mem_cons_self
    exact Nat.le_of_lt (Nat.lt_of_le_of_lt l (Heap.lt_size (k _ _ (isIter_dict hd) ho)))
  · obtain ⟨m, o, ho⟩ := z
    obtain ⟨o',ho'⟩:=kl a o m ho
    exact Heap.lt_size ho'
  · obtain ⟨a, b, d, ⟨o, es, ep, ho, hd, r⟩, m, l⟩ := I.frames f' hf
    exact ⟨a,b,d,⟨o,es,ep,k _ _ (isIter_dict hd) ho,hd,r⟩,⟨m,o,ho⟩,l⟩
  · have t := I.tabs q hq
    refine ⟨⟨t.1, ?_⟩,t.2.it k hm⟩
    obtain ⟨ps,e,_⟩:=t.2
    exact ⟨_,e⟩
end Mine
end
section
set_option tactic.hygienic false
namespace Mine
open PySem PySem.W PySem.Spec PySem.Calls PyProof.Rows PyProof.V

section
variable {c:Cx} {n m:Nat} {A:Around} {f:FrI} {fs:List FrI} {s:Shared} {μ:Addr→Prop} {ρ:List (Addr × Addr)} {σ:List Cell} {nm:List Str} {sc:Scope} {fr:List (Option V)} {e:Expr} {r:R V}
noncomputable def RL (c:Cx) (A:Around) (f:FrI) (fs:List FrI) (s:Shared) (μ:Addr→Prop) (ρ:List (Addr × Addr)) (nm:List Str) (o:RS) (r:Result) (s':Shared):Prop :=
  match r with | .ok fl=>PS c f fs s μ ρ nm o fl s' | .error e=>cameBackBy (model c.prog c.w) A f.env (ES c f fs s μ ρ nm o) e s'
theorem ES.noted (ok:FrI.ok A (f :: fs)) {m':Str→Option Value} {σ₁:List Cell} {s₁:Shared} {μ₁:Addr→Prop} {ρ₁:List (Addr × Addr)} (st:St c (f.upd m' :: fs) s μ ρ σ₁ s₁ μ₁ ρ₁) {o:RS} {e:Value} {s₂:Shared} (h:ES c (f.upd m') fs s₁ μ₁ ρ₁ nm o e s₂) :
    notedBy (model c.prog c.w) A f.env (fun e s'=>RL c A f fs s μ ρ nm o (.error e) s') e s₂:=by
  obtain ⟨m2,σ2,μ2,ρ2,i,fr',a,st2,ho,rfl,hi,hf,hfr⟩:=h
  have okn:A.frames=some ((f.upd m2 :: fs).map (·.env)):=ok.f
  show wpAny _ A (noteFrame (.ref a) (f.upd m2).env) _ _ s₂
  refine note_ok st2.inv okn hi hf fun s₃ μ₃ st3 nt => ?_
  show cameBackBy _ A (f.upd m2).env _ (.ref a) s₃
  refine back_ok st3.inv hi nt fun s₄ st4 nt4 => ?_
  have stt:=((st.trans st2).trans st3).trans st4
  exact ⟨m2,σ2,μ₃,ρ2,i,fr',a,stt,ho,rfl,hi,nt4.fly,hfr.mono (st3.trans st4).grow (st3.trans st4).pre⟩
inductive LW (c:Cx) (f:FrI) (fs:List FrI) (s:Shared) (μ:Addr→Prop) (ρ:List (Addr × Addr)) (nm:List Str) (n:Nat) (t:X) (a:List S) (o:RS) (j:Nat) (s':Shared):Prop
  | mk (fr':List (Option V)) (σ':List Cell) (μ':Addr→Prop) (ρ':List (Addr × Addr)) (m':Str→Option Value) (hj:j≤n) (hx:exW c.T j t a fr' σ'=some o) (st:St c (f.upd m' :: fs) s μ ρ σ' s' μ' ρ') (hf:FrRep c s'.heap μ' ρ' (f.upd m') nm fr')
theorem x_whl {t : X} {a : List S} {p : Pos} {st : Stmt} {o : RS} (Hall : ∀ k, k ≤ n → ST c k ∧ SSs c k) (G : Go c (n + 1) A f fs s μ ρ σ nm sc fr) (ht : trS c nm sc m (.whl t a p) = some st) (hr : exS c.T (n + 1) (.whl t a p) fr σ = some o) : wpAny (model c.prog c.w) A (exec st f.env) (PS c f fs s μ ρ nm o) (ES c f fs s μ ρ nm o) s := by
  refine hideG fun G_ hG_ => ?_
  cases m with
  | zero=>exact Mine.n0 ht
  | succ m =>
    obtain ⟨te,h1,hz_⟩:=bI ht; clear ht; rename _=>ht
    obtain ⟨ae,h2,hz_⟩:=bI ht; clear ht; rename _=>ht
    first | obtain rfl:=oi ht | exact n0 ht | exact n1 ht | cases ht
    simp only [eS_whl] at hr
    refine hG_ ?_; clear hG_
    refine wpAny_While ?_
    have main : codeAny (model c.prog c.w) A (.whileLoop te ae [] f.env) (RL c A f fs s μ ρ nm o) s := by
      refine codeAny_whileLoop (LW c f fs s μ ρ nm n t a o) ?_ n ⟨fr,σ,μ,ρ,f.m,Nat.le_refl _,hr, .refl G.inv,G.fr⟩
      intro j s' hI_
      refine hideG fun G_ hG_ => ?_
      obtain ⟨fr',σ',μ',ρ',m',hj,hx,st,hf⟩:=hI_
      refine hG_ ?_; clear hG_
      cases j with
      | zero=>exact Mine.n0 hx
      | succ j =>
        simp only [eW] at hx
        obtain ⟨HT,HS⟩:=Hall j (by omega)
        have G':Go c j A (f.upd m') fs s' μ' ρ' σ' nm sc fr':=⟨G.bs,st.inv,G.ok.upd,by have:=G.d; omega,by have:=G.u; omega,G.hsc,G.hcd,hf⟩
        obtain ⟨r,h0⟩ : ∃ r,exX c.T j t fr' σ'=some r:=by cases q:exX c.T j t fr' σ' with | none=>rw [q] at hx; cases hx | some r=>exact ⟨r,rfl⟩
        have he : ∀ i σ',r = .ex i σ'→o = .ex i fr' σ':=fun i σ' e=>by subst e; rw [h0] at hx; exact (Option.some.inj hx).symm
        rw [h0] at hx
        have htr : ∀ v σ',r = .ok v σ'→Tru σ' v:=fun v σ' e'=>by
          subst e'
          simp only at hx
          split at hx
          · exact ⟨_,by assumption⟩
          · exact ⟨_,by assumption⟩
          · first | obtain rfl:=oi hx | exact n0 hx | exact n1 hx | cases hx
        show wpAny _ A (isTrue te (f.upd m').env (eval te (f.upd m').env)) _ _ s'
        refine wpAny_mono (HT h1 h0 htr G') (fun bb s₁ h => ?_) fun e s₁ h=>ES.noted G.ok st (ES.of G' he h)
        refine hideG fun G_ hG_ => ?_
        obtain ⟨v,σ₁,μ₁,ρ₁,e',st1,hb⟩:=h
        refine hG_ ?_; clear hG_
        subst e'
        simp only at hx
        rw [hb] at hx
        have G₁:=G'.next st1
        cases bb with
        | true =>
          simp only at hx
          rw [if_pos rfl]
          cases h3:exSs c.T j a fr' σ₁ with
          | none=>rw [h3] at hx; cases hx
          | some o₁ =>
            rw [h3] at hx
            show wpAny _ A (execs ae (f.upd m').env) _ _ s₁
            refine wpAny_mono (HS h2 h3 G₁) (fun fl s₂ h => ?_) fun e s₂ h => ?_
            · obtain ⟨m2, σ2, μ2, ρ2, st2, h⟩ := h
              rcases h with ⟨fr2,rfl,rfl,hf2⟩ | ⟨v2,x2,rfl,rfl,rep⟩
              · exact ⟨j,Nat.lt_succ_self _,fr2,σ2,μ2,ρ2,m2,by omega,hx,(st.trans st1).trans st2,hf2⟩
              · first | obtain rfl := oi hx | exact n0 hx | exact n1 hx | cases hx
                exact ⟨m2,σ2,μ2,ρ2,(st.trans st1).trans st2, .inr ⟨v2,x2,rfl,rfl,rep⟩⟩
            · have : o₁ = o := by
                refine hideG fun G_ hG_ => ?_
                obtain ⟨_,_,_,_,_,_,_,_,rfl,_⟩:=h
                refine hG_ ?_; clear hG_
                exact Option.some.inj hx
              subst this
              exact ES.noted G.ok (st.trans st1) h
        | false =>
          simp only at hx
          first | obtain rfl:=oi hx | exact n0 hx | exact n1 hx | cases hx
          rw [if_neg (by decide)]
          exact wpAny_execs_nil (PS.nx (m':=m') (st.trans st1) rfl (st1.fr hf))
    exact codeAny_mono main fun r s' h=>by cases r <;> exact h
end
end Mine
end
section
set_option tactic.hygienic false
namespace Mine
open PySem PySem.W PySem.Spec PySem.Calls PyProof.Rows PyProof.V

theorem isIter_list {h:Heap} {a l:Addr} {i:Nat} {o:Obj} (x:h.IsListIter a l i) (e:h.get? a=some o):isIter o=true:=by
  obtain ⟨o',e',hc,hd⟩:=x
  rw [e] at e'
  first | obtain rfl:=oi e' | exact n0 e' | exact n1 e' | cases e'
  unfold isIter
  rw [hc,hd]
  rfl
theorem isIter_enum {h:Heap} {a it:Addr} {i:Int} {v:Value} {o:Obj} (x:IsEnum h a it i v) (e:h.get? a=some o):isIter o=true:=by
  rw [show h.get? a=some _ from x] at e
  first | obtain rfl:=oi e | exact n0 e | exact n1 e | cases e
  rfl
section
variable {c:Cx} {n m:Nat} {A:Around} {f:FrI} {fs:List FrI} {s:Shared} {μ:Addr→Prop} {ρ:List (Addr × Addr)} {σ:List Cell} {nm:List Str} {sc:Scope} {fr:List (Option V)} {e:Expr} {r:R V}
theorem St.iters {m':Str→Option Value} {σ':List Cell} {s':Shared} {μ':Addr→Prop} {ρ':List (Addr × Addr)} (I₀:c.B.objs.size≤s.heap.objs.size) (st:St c (f.upd m' :: fs) s μ ρ σ' s' μ' ρ') {h':Heap}
    (kk : ∀ a o,(a < s.heap.objs.size ∨ isIter o=false)→s'.heap.get? a=some o→h'.get? a=some o) (kl : ∀ a o,μ' a→s'.heap.get? a=some o → ∃ o',h'.get? a=some o') :
    ∃ μ'':Addr→Prop,(∀ a,μ'' a→μ' a ∧ ∃ o,s'.heap.get? a=some o) ∧ ∀ tk,St c (f.upd m' :: fs) s μ ρ σ' { s' with heap:=h',toks:=tk } μ'' ρ':=by
  refine ⟨fun a=>μ' a ∧ ∃ o,s'.heap.get? a=some o,fun a z=>z,fun tk=>⟨st.inv.it (fun a o i e=>kk a o (.inr i) e) (fun a o i e=>kk a o (.inl (Nat.lt_of_lt_of_le i I₀)) e) kl,fun a o e n => ?_,st.pre,st.gens,st.os⟩⟩
  obtain ⟨e',n'⟩:=st.grow a o e n
  exact ⟨kk a o (.inl (Heap.lt_size e)) e',fun z=>n' z.1⟩
theorem set_ok {e:Expr} (h:okE e=true) (env:Env) (v:Value):foldedSetIterable e env v=pure v:=by
  cases e <;> first | rfl | cases h
theorem not_set {x:X} (ht:trX c nm sc m x=some e) : ∀ (env:Env) (v:Value),foldedSetIterable e env v=pure v :=
  set_ok (by have h:=tr_ok (c:=c) (nm:=nm) (sc:=sc) (m:=m) (x:=x); rw [ht] at h; exact h)
theorem body_end {stf : List (Option V) → V → Option (List (Option V))} {a : List S} {ae : List Stmt} {j : Nat} {rest : List V} {fr' : List (Option V)} {σ' : List Cell} {o : RS} (HS : SSs c j) (h2 : trSs c nm sc m a = some ae) (ok : FrI.ok A (f :: fs))
    {m':Str→Option Value} {s':Shared} {μ':Addr→Prop} {ρ':List (Addr × Addr)} (st:St c (f.upd m' :: fs) s μ ρ σ' s' μ' ρ') (G':Go c j A (f.upd m') fs s' μ' ρ' σ' nm sc fr')
    (hx:(match exSs c.T j a fr' σ' with | some (.nx fr s)=>exF c.T j stf a rest fr s | o=>o)=some o) {K:Shared→Prop}
    (hK : ∀ fr2 σ2 s2 μ2 ρ2 m2,exF c.T j stf a rest fr2 σ2=some o→St c (f.upd m2 :: fs) s' μ' ρ' σ2 s2 μ2 ρ2→FrRep c s2.heap μ2 ρ2 (f.upd m2) nm fr2→K s2) :
    wpAny (model c.prog c.w) A (execs ae f.env) (fun fl s₃ => match fl with
          | .next | .cont=>K s₃
          | .brk=>RL c A f fs s μ ρ nm o (.ok .next) s₃
          | .ret v=>RL c A f fs s μ ρ nm o (.ok (.ret v)) s₃) (notedBy (model c.prog c.w) A f.env fun e s'=>RL c A f fs s μ ρ nm o (.error e) s') s':=by
  cases h3:exSs c.T j a fr' σ' with
  | none=>rw [h3] at hx; cases hx
  | some o₁ =>
    rw [h3] at hx
    show wpAny _ A (execs ae (f.upd m').env) _ _ s'
    refine wpAny_mono (HS h2 h3 G') (fun fl s₂ h => ?_) fun e s₂ h => ?_
    · obtain ⟨m2, σ2, μ2, ρ2, st2, h⟩ := h
      rcases h with ⟨fr2,rfl,rfl,hf2⟩ | ⟨v2,x2,rfl,rfl,rep⟩
      · exact hK fr2 σ2 s₂ μ2 ρ2 m2 hx st2 hf2
      · first | obtain rfl := oi hx | exact n0 hx | exact n1 hx | cases hx
        exact ⟨m2,σ2,μ2,ρ2,st.trans st2, .inr ⟨v2,x2,rfl,rfl,rep⟩⟩
    · have : o₁ = o := by
        refine hideG fun G_ hG_ => ?_
        obtain ⟨_,_,_,_,_,_,_,_,rfl,_⟩:=h
        refine hG_ ?_; clear hG_
        exact Option.some.inj hx
      subst this
      exact ES.noted ok st h
inductive LN (c:Cx) (f:FrI) (fs:List FrI) (s:Shared) (μ:Addr→Prop) (ρ:List (Addr × Addr)) (nm:List Str) (n i:Nat) (a:List S) (o:RS) (la:Addr) (xs:Array Value) (j:Nat) (s':Shared):Prop
  | mk (fr' : List (Option V)) (σ' : List Cell) (μ' : Addr → Prop) (ρ' : List (Addr × Addr)) (m' : Str → Option Value) (rest : List V) (k : Nat) (hj : j ≤ n) (hx : exF c.T j (fun fr v => some (fr.set i (some v))) a rest fr' σ' = some o) (st : St c (f.upd m' :: fs) s μ ρ σ' s' μ' ρ') (hf : FrRep c s'.heap μ' ρ' (f.upd m') nm fr')
    (hit:s'.heap.IsListIter s.heap.objs.size la k) (hni : ¬ μ' s.heap.objs.size) (hvs:VReps c s'.heap μ' ρ' rest (xs.toList.drop k))
set_option tactic.hygienic true in theorem x_forN {i:Nat} {pn:Pos} {x:X} {a:List S} {p:Pos} {st:Stmt} {o:RS} (H:SX c n) (Hall : ∀ k,k≤n→ST c k∧SSs c k) (G:Go c (n + 1) A f fs s μ ρ σ nm sc fr) (ht:trS c nm sc m (.forN i pn x a p)=some st) (hr:exS c.T (n + 1) (.forN i pn x a p) fr σ=some o):wpAny (model c.prog c.w) A (exec st f.env) (PS c f fs s μ ρ nm o) (ES c f fs s μ ρ nm o) s:=by
  refine hideG fun G_ hG_ => ?_
  cases m with
  | zero=>exact Mine.n0 ht
  | succ m =>
    obtain ⟨y,hy,hz_⟩:=bI ht; clear ht; rename _=>ht
    obtain ⟨e,h1,hz_⟩:=bI ht; clear ht; rename _=>ht
    obtain ⟨ae,h2,hz_⟩:=bI ht; clear ht; rename _=>ht
    first | obtain rfl:=oi ht | exact n0 ht | exact n1 ht | cases ht
    simp only [eS_forN] at hr
    obtain ⟨r,h0⟩ : ∃ r,exX c.T n x fr σ=some r:=by cases q:exX c.T n x fr σ with | none=>rw [q] at hr; cases hr | some r=>exact ⟨r,rfl⟩
    have he : ∀ i σ',r = .ex i σ'→o = .ex i fr σ':=fun i σ' e=>by subst e; rw [h0] at hr; exact (Option.some.inj hr).symm
    have G0:=G.less (Nat.le_succ n)
    refine hG_ ?_; clear hG_
    refine wpAny_For (wpAny_mono (H h1 h0 G0) (fun z s₁ h => ?_) fun _ _ h=>ES.of G he h) (not_set h1 _)
    refine hideG fun G_ hG_ => ?_
    obtain ⟨v,σ₁,μ₁,ρ₁,e',st1,rep⟩:=h
    refine hG_ ?_; clear hG_
    subst e'
    rw [h0] at hr
    simp only at hr
    cases v with
    | lst l =>
      simp only at hr
      obtain ⟨_,_,_,rfl,e0,n0,v0⟩:=rep.lst_; clear rep
      rename_i xs la ln
      have G1:=G0.next st1
      have hh:A.handled=none:=G.ok.h
      have hl0:s₁.heap.IsList la xs:=⟨_,e0,rfl,_,rfl⟩
      refine wpAny_pyIter_list hl0 ?_
      let it:=s₁.heap.objs.size
      have stp := St.push G1.inv { cls := .type "list_iterator", data := .fields #[.ref la, .int 0 0] } (tk := s₁.toks)
      have hit0 : (s₁.heap.push { cls := .type "list_iterator", data := .fields #[.ref la, .int 0 0] }).IsListIter s₁.heap.objs.size la 0 := ⟨_, Heap.get?_push_size _ rfl, rfl, rfl⟩
      have hnit : ¬ μ₁ s₁.heap.objs.size:=G1.inv.free
      have hlow:=G1.inv.low
      have main : codeAny (model c.prog c.w) A (.forLoop (.Name y pn) (.ref s₁.heap.objs.size) ae [] f.env) (RL c A f fs s₁ μ₁ ρ₁ nm o) { s₁ with heap := s₁.heap.push { cls := .type "list_iterator", data := .fields #[.ref la, .int 0 0] } } := by
        refine codeAny_forLoop (LN c f fs s₁ μ₁ ρ₁ nm n i a o la xs) ?_ n ⟨fr,σ₁,μ₁,ρ₁,f.m,l,0,Nat.le_refl _,hr,stp,stp.fr G1.fr,hit0,hnit,by simpa using v0.mono stp.grow stp.pre⟩
        intro j s' hI_
        refine wp_hide fun Q hQ => ?_
        refine hideG fun G_ hG_ => ?_
        obtain ⟨fr',σ',μ',ρ',m',rest,k,hj,hx,st,hf,hit,hni,hvs⟩:=hI_
        refine hG_ ?_; clear hG_
        cases j with
        | zero=>exact Mine.n0 hx
        | succ j =>
          have hla:=st.grow la _ e0 n0
          have hl':s'.heap.IsList la xs:=⟨_,hla.1,rfl,_,rfl⟩
          have hkk : ∀ {h':Heap},(∀ b o,b ≠ s₁.heap.objs.size→s'.heap.get? b=some o→h'.get? b=some o) → ∀ b o,(b < s₁.heap.objs.size ∨ isIter o=false)→s'.heap.get? b=some o→h'.get? b=some o:=by
            intro h' hb b o hor e
            refine hb b o (fun q => ?_) e
            subst q
            rcases hor with z | z
            · exact Nat.lt_irrefl _ z
            · rw [isIter_list hit e] at z; cases z
          have hkl : ∀ {h':Heap},(∀ b o,b ≠ s₁.heap.objs.size→s'.heap.get? b=some o→h'.get? b=some o) → ∀ b o,μ' b→s'.heap.get? b=some o → ∃ o',h'.get? b=some o':=fun hb b o mb e=>⟨o,hb b o (fun q=>hni (q ▸ mb)) e⟩
          cases rest with
          | nil =>
            first | obtain rfl:=oi hx | exact n0 hx | exact n1 hx | cases hx
            have hn:xs[k]? = none:=by
              have:=hvs.len
              simp only [List.length_nil,List.length_drop,Array.length_toList] at this
              simp; omega
            refine wpAny_pyNext_list_end hh hit hl' hn fun h' he'=>hQ _ _ (wpAny_execs_nil ?_)
            refine hideG fun G_ hG_ => ?_
            obtain ⟨μ'',hμ,st2⟩:=St.iters hlow st (h':=h') (hkk fun b o nb e=>he' b o nb e) (hkl fun b o nb e=>he' b o nb e)
            refine hG_ ?_; clear hG_
            have hfr2:=hf.it (h':=h') (fun b o i e=>hkk (fun b o nb e=>he' b o nb e) b o (.inr i) e) (fun b z=>(hμ b z).1)
            exact PS.nx (m':=m') (st2 s'.toks) rfl hfr2
          | cons v rest =>
            simp only [eF_cons] at hx
            have hvs':=hvs
            generalize hd:xs.toList.drop k=ds at hvs
            obtain ⟨_,_,rfl,rv,rr⟩:=hvs.cons_; clear hvs
            rename_i yv ys
            have hk:xs[k]? = some yv:=by
              have:(xs.toList.drop k)[0]? = some yv:=by rw [hd]; rfl
              rw [List.getElem?_drop] at this
              simpa using this
            have hys:xs.toList.drop (k + 1)=ys:=by
              rw [← List.drop_drop,hd]; rfl
            refine wpAny_pyNext_list_item hit hl' hk fun h' hit' hsb=>hQ _ _ ?_
            have hbut : ∀ b o,b ≠ s₁.heap.objs.size→s'.heap.get? b=some o→h'.get? b=some o:=fun b o nb e=>(hsb.2 b nb).trans e
            refine hideG fun G_ hG_ => ?_
            obtain ⟨μ'',hμ,st2⟩:=St.iters hlow st (h':=h') (hkk hbut) (hkl hbut)
            refine hG_ ?_; clear hG_
            have hit3 : ∀ b o,isIter o=false→s'.heap.get? b=some o→h'.get? b=some o:=fun b o i e=>hkk hbut b o (.inr i) e
            have hm3 : ∀ b,μ'' b→μ' b:=fun b z=>(hμ b z).1
            have G':Go c j A (f.upd m') fs { s' with heap:=h' } μ'' ρ' σ' nm sc fr':=⟨G.bs,(st2 s'.toks).inv,G.ok.upd,by have:=G.d; omega,by have:=G.u; omega,G.hsc,G.hcd,hf.it hit3 hm3⟩
            refine wpAny_assign_Name (env:=(f.upd m').env) (G'.store hy (rv.it hit3 hm3) fun m2 s2 G2 st3 => ?_)
            obtain ⟨HT,HS⟩:=Hall j (by omega)
            have st4:=(st2 s'.toks).trans st3
            refine body_end (f:=f) HS h2 G.ok st4 G2 hx fun fr5 σ5 s5 μ5 ρ5 m5 hx5 st5 hf5 => ?_
            have hnit2 : ¬ μ'' s₁.heap.objs.size:=fun z=>hni (hm3 _ z)
            refine hideG fun G_ hG_ => ?_
            obtain ⟨oi,hoi,hci,hdi⟩:=hit'
            refine hG_ ?_; clear hG_
            obtain ⟨hoi2,hn2⟩:=(st3.trans st5).grow _ _ hoi hnit2
            exact ⟨j,Nat.lt_succ_self _,fr5,σ5,μ5,ρ5,m5,rest,k + 1,by omega,hx5,st4.trans st5,hf5,⟨oi,hoi2,hci,hdi⟩,hn2,by rw [hys]; exact (rr.it hit3 hm3).mono (st3.trans st5).grow (st3.trans st5).pre⟩
      refine codeAny_mono main fun r s' h => ?_
      cases r with
      | ok fl=>exact PS.st (m':=f.m) st1 h
      | error e =>
        refine wpAny_mono h (fun _ s'' h=>ES.st (m':=f.m) st1 h) fun _ s'' h=>ES.st (m':=f.m) st1 h
    | _=>cases hr
end
end Mine
end
section
set_option tactic.hygienic false
namespace Mine
open PySem PySem.W PySem.Spec PySem.Calls PyProof.Rows PyProof.V

section
variable {c:Cx} {n m:Nat} {A:Around} {f:FrI} {fs:List FrI} {s:Shared} {μ:Addr→Prop} {ρ:List (Addr × Addr)} {σ:List Cell} {nm:List Str} {sc:Scope} {fr:List (Option V)} {e:Expr} {r:R V}
theorem tr_enum {bp : Pos} {x : X} {p : Pos} {ie : Expr} (ht : trX c nm sc m (.bcall 6 bp [x] p) = some ie) : ∃ m' es, trXs c nm sc m' [x] = some es ∧ notDebug ("enumerate" : Str) = true ∧ sc.names.lookup ("enumerate" : Str) = some .globalImplicit ∧ ie = .Call (.Name "enumerate" bp) es [] p := by
  cases m with
  | zero=>exact Mine.n0 ht
  | succ m =>
    obtain ⟨es,h2,hz_⟩:=bI ht; clear ht; rename _=>ht
    split at ht
    · rename_i hc
      first | obtain rfl:=oi ht | exact n0 ht | exact n1 ht | cases ht
      simp only [Bool.and_eq_true,beq_iff_eq] at hc
      exact ⟨m,es,h2,hc.1,hc.2,rfl⟩
    · first | obtain rfl:=oi ht | exact n0 ht | exact n1 ht | cases ht
inductive LT (c:Cx) (f:FrI) (fs:List FrI) (s:Shared) (μ:Addr→Prop) (ρ:List (Addr × Addr)) (nm:List Str) (n:Nat) (ts:List (Nat × Pos)) (a:List S) (o:RS) (la:Addr) (xs:Array Value) (j:Nat) (s':Shared):Prop
  | mk (fr' : List (Option V)) (σ' : List Cell) (μ' : Addr → Prop) (ρ' : List (Addr × Addr)) (m' : Str → Option Value) (rest : List V) (k : Nat) (old : Value) (hj : j ≤ n) (hx : exF c.T j (stT ts) a (enumV k rest) fr' σ' = some o) (st : St c (f.upd m' :: fs) s μ ρ σ' s' μ' ρ') (hf : FrRep c s'.heap μ' ρ' (f.upd m') nm fr')
    (hit:s'.heap.IsListIter s.heap.objs.size la k) (hni : ¬ μ' s.heap.objs.size) (hen:IsEnum s'.heap (s.heap.objs.size + 1) s.heap.objs.size ((k:Nat):Int) old) (hne : ¬ μ' (s.heap.objs.size + 1)) (hvs:VReps c s'.heap μ' ρ' rest (xs.toList.drop k))
set_option tactic.hygienic true in theorem x_forT {ts:List (Nat × Pos)} {kt:Nat} {pt:Pos} {x:X} {a:List S} {p:Pos} {st:Stmt} {o:RS} (HSx:SXs c n) (Hall : ∀ k,k≤n→ST c k∧SSs c k) (G:Go c (n + 1) A f fs s μ ρ σ nm sc fr) (ht:trS c nm sc m (.forT ts kt pt x a p)=some st) (hr:exS c.T (n + 1) (.forT ts kt pt x a p) fr σ=some o):wpAny (model c.prog c.w) A (exec st f.env) (PS c f fs s μ ρ nm o) (ES c f fs s μ ρ nm o) s:=by
  refine hideG fun G_ hG_ => ?_
  cases m with
  | zero=>exact Mine.n0 ht
  | succ m =>
    obtain ⟨es,hes,hz_⟩:=bI ht; clear ht; rename _=>ht
    obtain ⟨ie,h1,hz_⟩:=bI ht; clear ht; rename _=>ht
    obtain ⟨ae,h2,hz_⟩:=bI ht; clear ht; rename _=>ht
    split at ht
    · rename_i hnd
      first | obtain rfl:=oi ht | exact n0 ht | exact n1 ht | cases ht
      have hnd:(ts.map (·.1)).Nodup:=of_decide_eq_true hnd
      obtain ⟨q,hq_⟩:=eS_forE hr
      obtain ⟨bp,px,rfl⟩:=enumA_of hq_
      clear hq_
      obtain ⟨m1,qes,h3,hd,hk,rfl⟩:=tr_enum h1
      simp only [eS_forT] at hr
      generalize hz:(bnd (exXs c.T n [q] fr σ) fun vs s=>match vs with | [v]=>some (R.ok v s) | _=>none)=z at hr
      obtain ⟨r,hr0⟩ : ∃ r,z=some r:=by cases z with | none=>cases hr | some r=>exact ⟨r,rfl⟩
      subst hr0
      have he : ∀ i σ',r = .ex i σ'→o = .ex i fr σ':=fun i σ' e=>by subst e; exact (Option.some.inj hr).symm
      have G0:=G.less (Nat.le_succ n)
      obtain ⟨b1,b2⟩:=G.bs.bi 6 _ rfl
      refine hG_ ?_; clear hG_
      refine wpAny_For (wpAny_Call_NameR (G.builtin hd hk b1 b2 ?_)) (not_set h1 _)
      refine G0.callWith HSx h3 hz (P:=fun _=>True) (fun h _=>keeps_pure (.inr ⟨_,rfl⟩)) (fun _ _ h=>ES.of G he h) fun vs σ₁ xs0 s₁ μ₁ ρ₁ hk1 G1 st1 rvs=>⟨trivial, ?_⟩
      split at hk1
      · rename_i v
        first | obtain rfl:=oi hk1 | exact n0 hk1 | exact n1 hk1 | cases hk1
        obtain ⟨_,_,rfl,rep,rest0⟩:=rvs.cons_; clear rvs
        first | obtain rfl:=oi rest0 | exact n0 rest0 | exact n1 rest0 | cases rest0
        simp only at hr
        cases v with
        | lst l =>
          simp only at hr
          obtain ⟨_,_,_,rfl,e0,n0,v0⟩:=rep.lst_; clear rep
          rename_i xs la ln
          have hh:A.handled=none:=G.ok.h
          have hl0:s₁.heap.IsList la xs:=⟨_,e0,rfl,_,rfl⟩
          have hlow:=G1.inv.low
          show wpAny _ A (call (.type "enumerate") [.ref la]) _ _ s₁
          refine call_enumerate_list hl0 fun h' hen0 hit0 hsz0 hk0 => ?_
          refine wpAny_pyIter_enum hen0 ?_
          refine hideG fun G_ hG_ => ?_
          obtain ⟨μp,hμp,stp⟩:=St.kept (h':=h') G1.inv hk0
          refine hG_ ?_; clear hG_
          have hlive : ∀ b,μp b→b < s₁.heap.objs.size:=fun b z=>by obtain ⟨o,ho⟩:=hμp b z; exact Heap.lt_size ho
          have main:codeAny (model c.prog c.w) A (.forLoop (.Tuple es kt pt) (.ref (s₁.heap.objs.size + 1)) ae [] f.env) (RL c A f fs s₁ μ₁ ρ₁ nm o) { s₁ with heap:=h' }:=by
            refine codeAny_forLoop_any (LT c f fs s₁ μ₁ ρ₁ nm n ts a o la xs) ?_ n
              ⟨fr,σ₁,μp,ρ₁,f.m,l,0, .none,Nat.le_refl _,hr,stp s₁.toks,(stp s₁.toks).fr G1.fr,hit0,fun z=>Nat.lt_irrefl _ (hlive _ z),hen0,fun z=>Nat.not_succ_lt_self (hlive _ z),by simpa using v0.mono (stp s₁.toks).grow (List.prefix_refl _)⟩
            intro j s' hI_
            refine wp_hide fun Q hQ => ?_
            refine hideG fun G_ hG_ => ?_
            obtain ⟨fr',σ',μ',ρ',m',rest,k,old,hj,hx,st,hf,hit,hni,hen,hne,hvs⟩:=hI_
            refine hG_ ?_; clear hG_
            cases j with
            | zero=>exact Mine.n0 hx
            | succ j =>
              have hla:=st.grow la _ e0 n0
              have hl':s'.heap.IsList la xs:=⟨_,hla.1,rfl,_,rfl⟩
              have hkk : ∀ {h':Heap},(∀ b o,b ≠ s₁.heap.objs.size + 1→b ≠ s₁.heap.objs.size→s'.heap.get? b=some o→h'.get? b=some o) → ∀ b o,(b < s₁.heap.objs.size ∨ isIter o=false)→s'.heap.get? b=some o→h'.get? b=some o:=by
                intro h' hb b o hor e
                refine hb b o (fun q => ?_) (fun q => ?_) e
                · subst q
                  rcases hor with z | z
                  · exact Nat.not_succ_lt_self z
                  · rw [isIter_enum hen e] at z; cases z
                · subst q
                  rcases hor with z | z
                  · exact Nat.lt_irrefl _ z
                  · rw [isIter_list hit e] at z; cases z
              have hkl : ∀ {h':Heap},(∀ b o,b ≠ s₁.heap.objs.size + 1→b ≠ s₁.heap.objs.size→s'.heap.get? b=some o→h'.get? b=some o) → ∀ b o,μ' b→s'.heap.get? b=some o → ∃ o',h'.get? b=some o':=fun hb b o mb e=>⟨o,hb b o (fun q=>hne (q ▸ mb)) (fun q=>hni (q ▸ mb)) e⟩
              cases rest with
              | nil =>
                first | obtain rfl:=oi hx | exact n0 hx | exact n1 hx | cases hx
                have hn:xs[k]? = none:=by
                  have:=hvs.len
                  simp only [List.length_nil,List.length_drop,Array.length_toList] at this
                  simp; omega
                refine wpAny_pyNext_enum_end hh hen hit hl' hn fun h' he'=>hQ _ _ (wpAny_execs_nil ?_)
                have hb' : ∀ b o,b ≠ s₁.heap.objs.size + 1→b ≠ s₁.heap.objs.size→s'.heap.get? b=some o→h'.get? b=some o:=fun b o _ nb e=>he' b o nb e
                refine hideG fun G_ hG_ => ?_
                obtain ⟨μ'',hμ,st2⟩:=St.iters hlow st (h':=h') (hkk hb') (hkl hb')
                refine hG_ ?_; clear hG_
                have hfr2:=hf.it (h':=h') (fun b o i e=>hkk hb' b o (.inr i) e) (fun b z=>(hμ b z).1)
                exact PS.nx (m':=m') (st2 s'.toks) rfl hfr2
              | cons v rest =>
                simp only [enumV,eF_cons] at hx
                generalize hd:xs.toList.drop k=ds at hvs
                obtain ⟨_,_,rfl,rv,rr⟩:=hvs.cons_; clear hvs
                rename_i yv ys
                have hk:xs[k]? = some yv:=by
                  have:(xs.toList.drop k)[0]? = some yv:=by rw [hd]; rfl
                  rw [List.getElem?_drop] at this
                  simpa using this
                have hys:xs.toList.drop (k + 1)=ys:=by
                  rw [← List.drop_drop,hd]; rfl
                refine wpAny_pyNext_enum_item hen hit hl' hk (Nat.succ_ne_self _) fun h₁ heo hit₁ ht₁ hz₁ hk₁=>hQ _ _ ?_
                refine wpAny_letOwnedTupleGo_enum heo fun h₂ he₂ hs₂ => ?_
                have hs₂:Heap.SameBut (s₁.heap.objs.size + 1) h₁ h₂:=hs₂
                have hlt:s₁.heap.objs.size + 1 < s'.heap.objs.size:=Heap.lt_size hen
                have hbut : ∀ b o,b ≠ s₁.heap.objs.size + 1→b ≠ s₁.heap.objs.size→s'.heap.get? b=some o→h₂.get? b=some o:=fun b o n1 n2 e=>(hs₂.2 b n1).trans (hk₁ b o n1 n2 e)
                refine hideG fun G_ hG_ => ?_
                obtain ⟨μ'',hμ,st2⟩:=St.iters hlow st (h':=h₂) (hkk hbut) (hkl hbut)
                refine hG_ ?_; clear hG_
                have hit3 : ∀ b o,isIter o=false→s'.heap.get? b=some o→h₂.get? b=some o:=fun b o i e=>hkk hbut b o (.inr i) e
                have hm3 : ∀ b,μ'' b→μ' b:=fun b z=>(hμ b z).1
                have ht₂:h₂.get? s'.heap.objs.size=some (tupObj #[.int k s'.toks,yv] 0):=(hs₂.2 _ (Nat.ne_of_gt hlt)).trans ht₁
                have rtup:VRep c h₂ μ'' ρ' (.tup [.int k,v]) (.ref s'.heap.objs.size) := .tup ht₂ (fun z=>by obtain ⟨_,o,ho⟩:=hμ _ z; exact Nat.lt_irrefl _ (Heap.lt_size ho)) (.cons (.int _ _) (.cons (rv.it hit3 hm3) .nil))
                cases hp:stT ts fr' (.tup [.int k,v]) with
                | none=>rw [hp] at hx; cases hx
                | some fr2 =>
                  rw [hp] at hx
                  simp only at hx
                  have G':Go c j A (f.upd m') fs { s' with heap:=h₂,toks:=s'.toks + 1 } μ'' ρ' σ' nm sc fr':=⟨G.bs,(st2 (s'.toks + 1)).inv,G.ok.upd,by have:=G.d; omega,by have:=G.u; omega,G.hsc,G.hcd,hf.it hit3 hm3⟩
                  show wpAny _ A (assign (.Tuple es kt pt) (f.upd m').env (.ref s'.heap.objs.size)) _ _ _
                  refine G'.unpack hes hnd rtup hp fun m2 s2 μ2 G2 st3 => ?_
                  obtain ⟨HT,HS⟩:=Hall j (by omega)
                  have st4:=(st2 (s'.toks + 1)).trans st3
                  refine body_end (f:=f) HS h2 G.ok st4 G2 hx fun fr5 σ5 s5 μ5 ρ5 m5 hx5 st5 hf5 => ?_
                  have hnit2 : ¬ μ'' s₁.heap.objs.size:=fun z=>hni (hm3 _ z)
                  have hnen2 : ¬ μ'' (s₁.heap.objs.size + 1):=fun z=>hne (hm3 _ z)
                  have hit2:=hit₁.extBut hs₂.extBut (Ne.symm (Nat.succ_ne_self _))
                  refine hideG fun G_ hG_ => ?_
                  obtain ⟨oi,hoi,hci,hdi⟩:=hit2
                  refine hG_ ?_; clear hG_
                  obtain ⟨hoi2,hn2⟩:=(st3.trans st5).grow _ _ hoi hnit2
                  obtain ⟨hoe2,hn2e⟩:=(st3.trans st5).grow _ _ he₂ hnen2
                  exact ⟨j,Nat.lt_succ_self _,fr5,σ5,μ5,ρ5,m5,rest,k + 1,yv,by omega,hx5,st4.trans st5,hf5,⟨oi,hoi2,hci,hdi⟩,hn2,by push_cast; exact hoe2,hn2e,by rw [hys]; exact (rr.it hit3 hm3).mono (st3.trans st5).grow (st3.trans st5).pre⟩
          refine codeAny_mono main fun r s' h => ?_
          cases r with
          | ok fl=>exact PS.st (m':=f.m) st1 h
          | error e =>
            refine wpAny_mono h (fun _ s'' h=>ES.st (m':=f.m) st1 h) fun _ s'' h=>ES.st (m':=f.m) st1 h
        | _=>cases hr
      · first | obtain rfl:=oi hk1 | exact n0 hk1 | exact n1 hk1 | cases hk1
    · first | obtain rfl:=oi ht | exact n0 ht | exact n1 ht | cases ht
end
end Mine
end
section
set_option tactic.hygienic false
namespace Mine
open PySem PySem.W PySem.Spec PySem.Calls PyProof.Rows PyProof.V

section
variable {c:Cx} {n m:Nat} {A:Around} {f:FrI} {fs:List FrI} {s:Shared} {μ:Addr→Prop} {ρ:List (Addr × Addr)} {σ:List Cell} {nm:List Str} {sc:Scope} {fr:List (Option V)} {e:Expr} {r:R V}
theorem exc_is (P : Prog c) {h : Heap} (X : c.K.In h) {C' : Addr} (hC : c.fnA 0 = some C') {x : Addr} {o : Obj} (e : h.get? x = some o) (hc : o.cls = .ref C') : Looks (model c.prog c.w) h (isInstance (.ref x) (.type "BaseException")) true := by
  obtain ⟨_,_,hb,_⟩:=P.attr0 C' hC 0 (by omega)
  obtain ⟨cd,hcd,hm⟩:=any_some hb
  have ne:cd.mro.isEmpty=false:=by cases q:cd.mro with | nil=>rw [q] at hm; cases hm | cons _ _=>rfl
  have LT:Looks (model c.prog c.w) h (typeOf (.ref x)) (.ref C'):=hc ▸ (Looks.ld e).andThen .now
  exact LT.andThen (looks_mroIn X (by unfold mroIn; rw [hcd,Option.bind_some,if_neg (by rw [ne]; decide),hm]))
set_option tactic.hygienic true in theorem x_raise {x:X} {p:Pos} {st:Stmt} {o:RS} (P3:Prog3 c) (H:SX c n) (G:Go c (n + 1) A f fs s μ ρ σ nm sc fr) (ht:trS c nm sc m (.raise x p)=some st) (hr:exS c.T (n + 1) (.raise x p) fr σ=some o):wpAny (model c.prog c.w) A (exec st f.env) (PS c f fs s μ ρ nm o) (ES c f fs s μ ρ nm o) s:=by
  cases m with
  | zero=>exact Mine.n0 ht
  | succ m =>
    obtain ⟨e,h1,hz_⟩:=bI ht; clear ht; rename _=>ht
    first | obtain rfl:=oi ht | exact n0 ht | exact n1 ht | cases ht
    simp only [eS_raise] at hr
    obtain ⟨r,h0⟩ : ∃ r,exX c.T n x fr σ=some r:=by cases q:exX c.T n x fr σ with | none=>rw [q] at hr; cases hr | some r=>exact ⟨r,rfl⟩
    have he : ∀ i σ',r = .ex i σ'→o = .ex i fr σ':=fun i σ' e=>by subst e; rw [h0] at hr; exact (Option.some.inj hr).symm
    have G0:=G.less (Nat.le_succ n)
    show wpAny _ A (do standAt p; raiseStmt f.env (some (do let v ← eval e f.env; standAt p; pure v)) none) _ _ s
    refine wpAny_bind (wpAny_standAt ?_)
    unfold raiseStmt
    dsimp only
    refine wpAny_bind (wpAny_bind (wpAny_mono (H h1 h0 G0) (fun z s₁ h=>wpAny_bind (wpAny_standAt (wpAny_pure ?_))) fun _ _ h=>ES.of G he h))
    obtain ⟨v,σ₁,μ₁,ρ₁,e',st1,rep⟩:=h
    subst e'
    rw [h0] at hr
    obtain ⟨i,fs',rfl,hcell,rfl⟩:=raiO hr
    have G1:=G0.next st1
    obtain ⟨xa,d,rfl,hi⟩:=rep.ref_; clear rep
    obtain ⟨pp,hpp,ca⟩:=G1.inv.cells.get hcell
    rw [hi] at hpp
    first | obtain rfl:=oi hpp | exact n0 hpp | exact n1 hpp | cases hpp
    cases ca with
    | @new _ C' _ oo vs dd _ es' nn z ha eo o1 o2 o3 mm e2 n2 frep tb =>
      obtain ⟨q1,_,_⟩:=P3.exct C' ha
      have hnt : ∀ {Q':Bool→Shared→Prop} {E':Value→Shared→Prop},Q' false s₁→wpAny (model c.prog c.w) A (isType (.ref xa)) Q' E' s₁:=by
        intro Q' E' hq
        simp only [isType,loadHead]
        refine wpAny_bind (wpAny_loadPart eo ?_)
        rw [o3]; exact wpAny_pure hq
      have LT:Looks (model c.prog c.w) s₁.heap (typeOf (.ref xa)) (.ref C'):=o1 ▸ (Looks.ld eo).andThen .now
      refine wpAny_bind (wpAny_pure ?_)
      dsimp only
      refine wpAny_bind (wpAny_holding ?_)
      unfold excFromValue isExcClass
      refine wpAny_bind (wpAny_bind (hnt ?_))
      simp only [Bool.false_eq_true,if_false]
      refine wpAny_pure ?_
      simp only [Bool.false_eq_true,if_false]
      refine wpAny_bind ((exc_is P3.toProg G1.K ha eo o1).here ?_)
      simp only [if_true]
      refine wpAny_pure ?_
      refine wpAny_bind (hnt ?_)
      simp only [Bool.false_eq_true,if_false]
      unfold raisedInstance
      refine wpAny_bind (wpAny_bind (LT.here (wpAny_bind ((looks_typeIn G1.K q1).here ?_))))
      rw [if_pos (by decide)]
      refine wpAny_pure ?_
      unfold setFlight raiseNew
      refine wpAny_bind (wpAny_bind (wpAny_field eo o3 tb ?_))
      rw [if_neg (by decide)]
      refine wpAny_pure (wpAny_bind (wpAny_handled ?_))
      rw [G.ok.h]
      have fin:ES c f fs s μ ρ nm (.ex i fr (σ₁.set i (.exc 0 fs'))) (.ref xa) s₁:=by
        have I2:Inv c (f :: fs) μ₁ ρ₁ (σ₁.set i (.exc 0 fs')) s₁.heap:={ G1.inv with cells:=G1.inv.cells.set hi (.exc z ha eo o1 o2 o3 mm e2 n2 frep) }
        have st2:St c (f :: fs) s μ ρ (σ₁.set i (.exc 0 fs')) s₁ μ₁ ρ₁:=⟨I2,st1.grow,st1.pre,st1.gens,st1.os⟩
        refine ⟨f.m,_,μ₁,ρ₁,i,fr,xa,st2,rfl,rfl,hi,⟨fun C fs hq => ?_,oo,vs,eo,o3, .inl tb⟩,st1.fr G.fr⟩
        rw [List.getElem?_set] at hq
        simp only [if_true] at hq
        split at hq <;> cases hq
      first
        | exact wpAny_throw fin
        | exact wpAny_bind (wpAny_pure (wpAny_throw fin))
end
end Mine
end
section
set_option tactic.hygienic false
namespace Mine
open PySem PySem.W PySem.Spec PySem.Calls PyProof.Rows PyProof.V

theorem name_goes {M:Model} {A:Around} {E:Value→Shared→Prop} {s:Shared} {env:Env} {n:Str} {pos:Pos} {m:Str→Option Value} {Q:Unit→Shared→Prop} (hl:env.kindOf n=some .local) (hn:s.heap.Ns env.locals m)
    (hp:(env.scope.kind == .class || (env.scope.kind == .module && env.locals != env.globals))=false)
    (h : ∀ h' m',h'.Ns env.locals m'→(∀ x,x ≠ n→m' x=m x)→Heap.SameBut env.locals s.heap h'→Q () { s with heap:=h',toks:=s.toks + 1 }) :
    wpAny M A (do bindName env n .none; unbindBehindTheSuite env n pos) Q E s:=by
  refine wpAny_bind (wpAny_bindName (wpAny_storeName_local hl hn (fun h₁ hn₁ hs₁ => ?_) hp))
  unfold unbindBehindTheSuite unbindName
  refine wpAny_onRaise (wpAny_bind (wpAny_point (wpAny_bind ?_)))
  unfold deleteName
  simp only [hl,hp]
  rw [if_neg (by decide)]
  refine wpAny_bind (wpAny_nsDel_keeps hn₁ fun h₂ v hn₂ hs₂ => ?_)
  simp only [if_true,Option.isSome_some,Bool.not_true,Bool.false_eq_true,if_false]
  exact wpAny_pure (wpAny_point (h h₂ _ hn₂ (fun x hx=>by simp [hx]) (hs₁.trans hs₂)))
section
variable {c:Cx} {n m:Nat} {A:Around} {f:FrI} {fs:List FrI} {s:Shared} {μ:Addr→Prop} {ρ:List (Addr × Addr)} {σ:List Cell} {nm:List Str} {sc:Scope} {fr:List (Option V)} {e:Expr} {r:R V}
theorem glob_at (P:Prog c) (I:Inv c (f :: fs) μ ρ σ s.heap) (hgl:f.env.globals=mainGlobals) {y:Str} (hd:notDebug y=true) (hk:f.env.scope.names.lookup y=some .globalImplicit) {x:Value} (hx:c.mg y=some x) {p:Pos} {M:Model} {Q E:Value→Shared→Prop} (h:Q x s):wpAny M A (eval (.Name y p) f.env) Q E s:=by
  obtain ⟨_,_,hkf,_⟩:=I.frames f List.mem_cons_self
  refine Calls.Name_function_global hkf hk (Calls.loadGlobal_global (by rw [hgl]; exact P.T.g.keeps fun a o e=>(I.base a o e).1) hx h) (not_debug hd).1
set_option tactic.hygienic true in theorem loc_at (I:Inv c (f :: fs) μ ρ σ s.heap) (hsc:f.env.scope=sc) (F:FrRep c s.heap μ ρ f nm fr) {i:Nat} {y:Str} {v:V} (hy:trLoc nm sc i=some y) (hv:fr[i]? = some (some v)) {p:Pos} {M:Model} {Q E:Value→Shared→Prop} (h : ∀ x,VRep c s.heap μ ρ v x→Q x s):wpAny M A (eval (.Name y p) f.env) Q E s:=by
  unfold trLoc at hy
  split at hy
  · rename_i y' hn
    split at hy
    · rename_i hc
      first | obtain rfl:=oi hy | exact n0 hy | exact n1 hy | cases hy
      obtain ⟨hd,hcd⟩:=not_debug (by simp only [Bool.and_eq_true] at hc; exact hc.1)
      obtain ⟨_,hl,hk,hns,_⟩:=I.frames f List.mem_cons_self
      refine wpAny_Name ?_ hd
      rcases F i _ v hn hv with ⟨k,x,hx,rep⟩ | ⟨k,ca,o,x,hca,ho,hd',hnm,rep⟩
      · exact wpAny_loadName_local hk k (hl ▸ hns) hx (h x rep)
      · rcases k with k | k
        · exact wpAny_loadName_cell hk k hca ⟨o,ho,hd'⟩ (h x rep)
        · exact wpAny_loadName_free hk k hca ⟨o,ho,hd'⟩ (h x rep) hcd
    · first | obtain rfl:=oi hy | exact n0 hy | exact n1 hy | cases hy
  · first | obtain rfl:=oi hy | exact n0 hy | exact n1 hy | cases hy
theorem store_at (I:Inv c (f :: fs) μ ρ σ s.heap) (hsc:f.env.scope=sc) (F:FrRep c s.heap μ ρ f nm fr) {i:Nat} {y:Str} (hy:trSet nm sc i=some y) {v:V} {x:Value} (rep:VRep c s.heap μ ρ v x) {M:Model} {Q:Unit→Shared→Prop} {E:Value→Shared→Prop}
    (k : ∀ m' s',St c (f.upd m' :: fs) s μ ρ σ s' μ ρ→FrRep c s'.heap μ ρ (f.upd m') nm (fr.set i (some v))→Q () s'):wpAny M A (storeName f.env y x) Q E s:=by
  obtain ⟨h1,h2,h3,h4⟩:=trSet_eq hy
  obtain ⟨_,hl,hkf,hns,mm,_⟩:=I.frames f List.mem_cons_self
  have hk:f.env.kindOf y=some .local:=by show f.env.scope.names.lookup y=_; rw [hsc]; exact h3
  refine wpAny_storeName_local hk (hl ▸ hns) (fun h' hn hs => ?_) (by rw [hkf]; rfl)
  rw [hl] at hn hs
  obtain ⟨I',g⟩:=I.frame hn hs
  exact k _ _ ⟨I',g,List.prefix_refl _,rfl,rfl⟩ ((F.set hk h1 h4 rep).mono g (List.prefix_refl _))
theorem unbind_at (I:Inv c (f :: fs) μ ρ σ s.heap) (hsc:f.env.scope=sc) (F:FrRep c s.heap μ ρ f nm fr) {i:Nat} {y:Str} (hy:trSet nm sc i=some y) {pos:Pos} {M:Model} {Q:Unit→Shared→Prop} {E:Value→Shared→Prop}
    (k : ∀ m' s',St c (f.upd m' :: fs) s μ ρ σ s' μ ρ→FrRep c s'.heap μ ρ (f.upd m') nm (fr.set i none)→Q () s'):wpAny M A (do bindName f.env y .none; unbindBehindTheSuite f.env y pos) Q E s:=by
  obtain ⟨h1,h2,h3,h4⟩:=trSet_eq hy
  obtain ⟨_,hl,hkf,hns,mm,_⟩:=I.frames f List.mem_cons_self
  have hk:f.env.kindOf y=some .local:=by show f.env.scope.names.lookup y=_; rw [hsc]; exact h3
  refine name_goes hk (hl ▸ hns) (by rw [hkf]; rfl) fun h' m' hn hm hs => ?_
  rw [hl] at hn hs
  obtain ⟨I',g⟩:=I.frame hn hs
  refine k m' _ ⟨I',g,List.prefix_refl _,rfl,rfl⟩ fun j z u e1 e2 => ?_
  by_cases q:j=i
  · subst q
    rw [List.getElem?_set] at e2
    simp only [if_true] at e2
    split at e2 <;> cases e2
  · rw [List.getElem?_set_ne (Ne.symm q)] at e2
    rcases (F.mono g (List.prefix_refl _)) j z u e1 e2 with ⟨a,x',b,d⟩ | r
    · exact .inl ⟨a,x',(hm z fun e=>q (nodup_get h4 (e ▸ e1) h1)).trans b,d⟩
    · exact .inr r
theorem hnd_tr {j k : Nat} {pj pk pp : Pos} {hes : List Stmt} (h2 : trSs c nm sc m [.asN j pj (.loc k pk) pp] = some hes) : ∃ yj yk, trSet nm sc j = some yj ∧ trLoc nm sc k = some yk ∧ hes = [.Assign [.Name yj pj] (.Name yk pk) pp] := by
  cases m with
  | zero=>exact Mine.n0 h2
  | succ m =>
    obtain ⟨t1,ht1,h3⟩:=bI h2
    obtain ⟨r1,hr1,h4⟩:=bI h3
    cases m with
    | zero=>exact Mine.n0 ht1
    | succ m =>
      obtain rfl:=oi hr1
      obtain ⟨yj,hyj,h5⟩:=bI ht1
      obtain ⟨ek,hek,h6⟩:=bI h5
      cases m with
      | zero=>exact Mine.n0 hek
      | succ m =>
        obtain ⟨yk,hyk,rfl⟩:=mI hek
        obtain rfl:=oi h6
        obtain rfl:=oi h4
        exact ⟨yj,yk,hyj,hyk,rfl⟩
theorem x_try {a : List S} {g : Nat} {pg : Pos} {i : Nat} {h : List S} {ph p : Pos} {st : Stmt} {o : RS} (P3 : Prog3 c) (HS : SSs c n) (G : Go c (n + 1) A f fs s μ ρ σ nm sc fr) (ht : trS c nm sc m (.try1 a g pg i h ph p) = some st) (hr : exS c.T (n + 1) (.try1 a g pg i h ph p) fr σ = some o) : wpAny (model c.prog c.w) A (exec st f.env) (PS c f fs s μ ρ nm o) (ES c f fs s μ ρ nm o) s := by
  cases m with
  | zero=>exact Mine.n0 ht
  | succ m =>
    obtain ⟨ae,h1,hz_⟩:=bI ht; clear ht; rename _=>ht
    obtain ⟨y,hy,hz_⟩:=bI ht; clear ht; rename _=>ht
    obtain ⟨hes,h2,hz_⟩:=bI ht; clear ht; rename _=>ht
    · obtain ⟨hcnd, rfl⟩ := ifI ht
      simp only [Bool.and_eq_true,beq_iff_eq] at hcnd
      simp only [eS_try1] at hr
      have G0:=G.less (Nat.le_succ n)
      refine wpAny_Try_except ?_
      cases h0:exSs c.T n a fr σ with
      | none=>rw [h0] at hr; cases hr
      | some o₁ =>
        rw [h0] at hr
        refine wpAny_mono (HS h1 h0 G0) (fun fl s₁ hps => ?_) fun e s₁ hes' => ?_
        · obtain ⟨m', σ', μ', ρ', st, hcase⟩ := hps
          rcases hcase with ⟨fr',rfl,rfl,hf⟩ | ⟨v,x,rfl,rfl,rep⟩
          · first | obtain rfl := oi hr | exact n0 hr | exact n1 hr | cases hr
            exact wpAny_execs_nil ⟨m',σ',μ',ρ',st, .inl ⟨fr',rfl,rfl,hf⟩⟩
          · first | obtain rfl := oi hr | exact n0 hr | exact n1 hr | cases hr
            exact ⟨m',σ',μ',ρ',st, .inr ⟨v,x,rfl,rfl,rep⟩⟩
        · obtain ⟨m', σ', μ', ρ', ei, fr', b, st, rfl, rfl, hi, hfly, hf⟩ := hes'
          obtain ⟨j,k,pj,pk,pp,v,fs',hcell,rfl,rfl,hv,rfl⟩:=tryO hr
          obtain ⟨pc,hpc,ca⟩:=st.inv.cells.get hcell
          have hC : ∃ C',c.fnA 0=some C':=by cases ca with | exc z ha _ _ _ _ _ _ _ _=>exact ⟨_,ha⟩
          obtain ⟨C',hfC⟩:=hC
          obtain ⟨q1,q2,q3⟩:=P3.exct C' hfC
          obtain ⟨yj,yk,hyj,hyk,rfl⟩:=hnd_tr h2
          have okn:A.frames=some ((f.upd m' :: fs).map (·.env)):=G.ok.f
          show wpAny _ A (noteFrame (.ref b) (f.upd m').env) _ _ s₁
          refine note_ok st.inv okn hi hfly fun s₂ μ₂ st2 nt2 => ?_
          refine flight_ok st2.inv hi nt2 fun s₃ st3 nt3 => ?_
          have stt:=(st.trans st2).trans st3
          have hf3:=hf.mono (st2.trans st3).grow (st2.trans st3).pre
          have hgl:=(G.ok.g f List.mem_cons_self).1
          show wpAny _ A (handleBy (.ref b) (f.upd m').env _) _ _ s₃
          refine wpAny_handleBy_cons (codeAny_handlers_test (glob_at P3.toProg st3.inv (f:=f.upd m') hgl hcnd.1 (by show f.env.scope.names.lookup _=_; rw [G.hsc]; exact hcnd.2) q3 ?_)) (by intro q; cases q)
          obtain ⟨pc3,hpc3,ca3⟩:=st3.inv.cells.get hcell
          rw [hi] at hpc3
          first | obtain rfl:=oi hpc3 | exact n0 hpc3 | exact n1 hpc3 | cases hpc3
          have LT:Looks (model c.prog c.w) s₃.heap (typeOf (.ref b)) (.ref C'):=by
            cases ca3 with
            | exc z ha eo o1 o2 o3 mm e2 n2 frep =>
              rw [hfC] at ha
              first | obtain rfl:=oi ha | exact n0 ha | exact n1 ha | cases ha
              exact o1 ▸ (Looks.ld eo).andThen .now
          have K3:c.K.In s₃.heap:=fun a o e=>(st3.inv.base a o (P3.XK a o e)).1
          refine (exm_one K3 LT q2).here ?_
          show codeAny _ _ _ _ s₃
          refine codeAny_handlers_suite_as ?_
          refine flight_ok st3.inv hi nt3 fun s₄ st4 nt4 => ?_
          refine store_at (f:=f.upd m') st4.inv G.hsc (hf3.mono st4.grow st4.pre) hy (v := .ref ei) (.ref (d:=b) hi) fun m5 s₅ st5 hf5 => ?_
          refine wpAny_execs_cons ?_
          refine wpAny_Assign_Name (loc_at (f:=f.upd m5) st5.inv G.hsc hf5 hyk hv fun x rx => ?_) rfl
          refine store_at (f:=f.upd m5) st5.inv G.hsc hf5 hyj rx fun m6 s₆ st6 hf6 => ?_
          refine wpAny_execs_nil ?_
          refine unbind_at (f:=f.upd m6) st6.inv G.hsc hf6 hy fun m7 s₇ st7 hf7 => ?_
          exact PS.nx (m':=m7) ((((stt.trans st4).trans st5).trans st6).trans st7) rfl hf7
end
end Mine
end
section
set_option tactic.hygienic false
namespace Mine
open PySem PySem.W PySem.Spec PySem.Calls PyProof.Rows PyProof.V

theorem ss_step {c:Cx} {n:Nat} (P3:Prog3 c) (H:SX c n) (HSx:SXs c n) (HT:ST c n) (HS:SSs c n) (Hall : ∀ k,k≤n→ST c k∧SSs c k):SS c (n + 1):=by
  intro m nm sc t st ht fr σ o hr A f fs s μ ρ G
  cases t with
  | expr x p=>exact x_expr H G ht hr
  | asN i pn x p=>exact x_asN H G ht hr
  | asT ts k pt x p=>exact x_asT H G ht hr
  | asA o f pa x p=>exact x_asA P3 H G ht hr
  | asI o i pi x p=>exact x_asI H G ht hr
  | ifs t a b p=>exact x_ifs HT HS G ht hr
  | whl t a p=>exact x_whl Hall G ht hr
  | forN i pn x a p=>exact x_forN H Hall G ht hr
  | forT ts k pt x a p=>exact x_forT HSx Hall G ht hr
  | ret x p=>exact x_ret H G ht hr
  | raise x p=>exact x_raise P3 H G ht hr
  | try1 a g pg i h ph p=>exact x_try P3 HS G ht hr
structure All (c:Cx) (n:Nat):Prop where
  x:SX c n
  xs:SXs c n
  b:SBool c n
  t:ST c n
  bt:SBoolT c n
  s:SS c n
  ss:SSs c n
  code:SCode c n
theorem all_zero (c:Cx):All c 0 where
  x:=fun _ _ _ _ hr=>Mine.n0 hr
  xs:=fun _ _ _ _ hr=>Mine.n0 hr
  b:=fun _ _ _ _ _ hr=>Mine.n0 hr
  t:=fun _ _ _ _ hr=>Mine.n0 hr
  bt:=fun _ _ _ _ _ hr=>Mine.n0 hr
  s:=fun _ _ _ _ hr=>Mine.n0 hr
  ss:=fun _ _ _ _ hr=>Mine.n0 hr
  code:=fun hr=>Mine.n0 hr
theorem all_to {c : Cx} (P3 : Prog3 c) : ∀ n, ∀ k, k ≤ n → All c k
  | 0, k, hk => by
    obtain rfl:k=0:=by omega
    exact all_zero c
  | n + 1, k, hk => by
    by_cases h:k≤n
    · exact all_to P3 n k h
    · obtain rfl : k = n + 1 := by omega
      have A:=all_to P3 n
      have B:=A n (Nat.le_refl _)
      have sx:SX c (n + 1):=sx_step P3 B.x B.xs B.t B.b (SCode.call B.code)
      exact ⟨sx,sxs_step B.x B.xs,sb_step B.x B.b,st_step B.x B.t B.bt sx,tb_step B.t B.bt,
        ss_step P3 B.x B.xs B.t B.ss (fun k hk=>⟨(A k hk).t,(A k hk).ss⟩),sss_step B.s B.ss,scode_step B.x B.ss B.code P3.toProg2⟩
end Mine
end
section
set_option tactic.hygienic false
namespace Mine
open PySem PySem.W PySem.Spec PySem.Calls PyProof.Rows PyProof.V

noncomputable abbrev tupNew (xs : List Value) : Obj := { cls := .type "tuple", data := .seq xs.toArray }
noncomputable abbrev excNew (C t:Addr):Obj:={ cls := .ref C,data := .fields #[.ref t, .none, .none, .none, .bool false, .none] }
structure ExcC (M:Model) (h:Heap) (C:Addr):Prop where
  obj : ∃ oc od cd sl,h.get? C=some ⟨oc,od, .cls cd,sl⟩∧cd.abstract=false∧cd.hasDel=false∧cd.mro.isEmpty=false
  made : Looks M h (Bind.madeBy (.ref C)) (some "Exception.__new__")
  base:Looks M h (Bind.staticBase (.ref C)) (.ref C)
  self:Looks M h (isSubtype (.ref C) (.ref C)) true
  top : Looks M h (isSubtype (.ref C) (.type "Exception")) true
  attr : Looks M h (isSubtype (.ref C) (.type "AttributeError")) false
  name : Looks M h (isSubtype (.ref C) (.type "NameError")) false
  call : Looks M h (specialOf (.ref C) "__call__") (some (.builtin "type.__call__"))
  typ : Looks M h (isInstance (.ref C) (.type "type")) true
section
variable {prog:Program} {w:World} {A:Around} {C:Addr} {R:Result→Shared→Prop} {h:Heap} {g:Array GenState} {d:Drawn} {t:Nat} {os:OsState}
theorem exc_new {rest:List Value} (Y:ExcC (model prog w) h C) (hrest:rest.length≤sizeLine)
    (hq:R (.ok (.ret (.ref (h.objs.size + 1)))) ⟨(h.push (tupNew rest)).push (excNew C h.objs.size),g,d,t,os⟩) :
    codeAny (model prog w) A (.builtin "Exception.__new__" ⟨.ref C :: rest, []⟩) R ⟨h, g, d, t, os⟩ := by
  have F:=PySem.F.excBase_Exception
  obtain ⟨⟨oc,od,cd,sl,hC,e1,e2,e4⟩,made,base,self,top,attr,name,call,typ⟩:=Y
  have hends:=F.ends
  have here : Looks (model prog w) h (Bind.madeHere "BaseException.__new__" (.ref C)) () := base.andThen (made.andThen (Looks.of_pure (by rw [Option.map_some, F.canon]; simp only [bne_self_eq_false, Bool.false_eq_true, if_false])))
  refine codeAny_builtinAt F.entry ?_
  unfold Builtin.«BaseException.__new__»
  refine PySem.wpAt_bind ?_
  show PySem.wpAt _ _ _ (stack >>= _) _ _ _
  refine PySem.wpAt_bind (PySem.wpAt_stack fun p below=>PySem.wpAt_of_wpAny ?_)
  wp_walk
  refine PySem.wpAt_of_wpAny ?_
  rw [F.owner]
  repeat (first | simp only [Bool.not_true,Bool.false_eq_true,if_false] | lk)
  rw [if_neg (by rw [List.size_toArray]; exact Nat.not_lt.mpr hrest)]
  refine wpAny_newObjAsIs_type (wpAny_bind ?_)
  show wpAny _ _ (newObjAsIs _ _ _) _ _ _
  unfold newObjAsIs classHasDel
  refine wpAny_bind (wpAny_alloc (wpAny_bind (wpAny_bind (wpAny_load (Heap.get?_push_of_some _ (Heap.get?_push_of_some _ hC)) (wpAny_pure ?_)))))
  rw [e2]
  refine wpAny_pure (wpAny_pure ?_)
  show R _ _
  rw [Heap.size_push]
  exact hq
theorem exc_check {rest:List Value} {E:Value→Shared→Prop} {Q:Unit→Shared→Prop} (Y:ExcC (model prog w) h C) (hq:Q () ⟨h,g,d,t,os⟩) :
    wpAny (model prog w) A (checkBuiltinCall "Exception.__new__" ⟨.ref C :: rest, []⟩) Q E ⟨h, g, d, t, os⟩ := by
  have F:=PySem.F.excBase_Exception
  obtain ⟨⟨oc,od,cd,sl,hC,e1,e2,e4⟩,made,base,self,top,attr,name,call,typ⟩:=Y
  have hstar:=F.noStar
  simp only [checkBuiltinCall,F.newKind,F.newSplit,F.newRow]
  repeat (first | simp only [bne_self_eq_false,Bool.false_eq_true,if_false,Bool.not_true] | lk)
  exact hq
theorem exc_make {rest : List Value} {init : Value} (Y : ExcC (model prog w) h C) (hrest : rest.length ≤ sizeLine) (hi : Looks (model prog w) h (typeLookup (.ref C) "__init__") (some init))
    (hb : ∀ self,Looks (model prog w) h (bindSpecial init self) (init,[self]))
    (hq : codeAny (model prog w) (A.under (.builtin "type.__call__" ⟨.ref C :: rest, []⟩)) (.call init ⟨.ref (h.objs.size + 1) :: rest, []⟩) (InitBack (h.objs.size + 1) R) ⟨(h.push (tupNew rest)).push (excNew C h.objs.size), g, d, t, os⟩) :
    codeAny (model prog w) A (.call (.ref C) ⟨rest,[]⟩) R ⟨h,g,d,t,os⟩:=by
  have Y':=Y
  have F:=PySem.F.excBase_Exception
  obtain ⟨⟨oc,od,cd,sl,hC,e1,e2,e4⟩,made,base,self,top,attr,name,call,typ⟩:=Y
  refine codeAny_of_tree ?_
  show wpAny _ _ (callAny (.ref C) _) _ _ _
  refine nd_load hC ?_
  show wpAny _ _ (callAny.viaDunder (.ref C) _) _ _ _
  unfold callAny.viaDunder
  refine wpAny_bind (call.at ?_)
  dsimp only
  rw [tc_bind]
  refine wpAny_bind (wpAny_pure (wpAny_bind (wpAny_pure ?_)))
  refine wpAny_pure (a := Fin.again (.call (.builtin "type.__call__") ⟨.ref C :: rest, []⟩)) (And.intro rfl ?_)
  refine codeAny_call_builtin_at (Code.quiet_builtin _ (by decide +kernel)) entry_typeCall (check_slot tc_kind tc_split typ (tc_args _ _ _) ?_)
  unfold Builtin.«type.__call__»
  have hm:Looks (model prog w) h (mroOf (.ref C)) cd.mro:=((Looks.ld (part:=none) hC).andThen .now).andThen .now
  repeat (first | simp only [e4,Bool.false_eq_true,if_false] | with_reducible refine wpAny_call ?_ | lk)
  refine codeAny_call_builtin_code (Code.quiet_builtin _ F.quiet) (exc_check Y' ?_)
  refine exc_new Y' hrest ?_
  have k : ∀ b o,h.get? b=some o→((h.push (tupNew rest)).push (excNew C h.objs.size)).get? b=some o:=fun b o e=>Heap.get?_push_of_some _ (Heap.get?_push_of_some _ e)
  have hx:((h.push (tupNew rest)).push (excNew C h.objs.size)).get? (h.objs.size + 1)=some (excNew C h.objs.size):=by heap_get
  have t1:Looks (model prog w) ((h.push (tupNew rest)).push (excNew C h.objs.size)) (typeOf (.ref (h.objs.size + 1))) (.ref C):=(Looks.ld hx).andThen .now
  have s1:=self.keeps k
  have i1:=hi.keeps k
  have b1:=(hb (.ref (h.objs.size + 1))).keeps k
  unfold isInstance callSpecial? specialOf
  repeat (first | with_reducible refine wpAny_call ?_ | lk)
  refine codeAny_mono hq fun r s' z => ?_
  rcases r with e | (v | _ | _ | _) <;> first | exact z | exact z.elim | skip
  obtain ⟨rfl,z⟩:=z
  exact wpAny_pure (wpAny_pure z)
end
end Mine
end
section
set_option tactic.hygienic false
namespace Mine
open PySem PySem.W PySem.Spec PySem.Calls PyProof.Rows PyProof.V PySem.Builtin PySem.Builtin.ObjectAttr

section
variable {prog:Program} {w:World} {A:Around} {E:Value→Shared→Prop} {s:Shared}
set_option tactic.hygienic true in theorem dict_store {dx:Addr} {es:List DictEntry} {n:Nat} {name:PySem.Str} {tk:Tok} {v:Value} {Q:Fin→Shared→Prop} (D:s.heap.get? dx=some (dictOf es n)) (hl:(getL name es).isSome=true) (hz:(putL name (PyData.keyHash w.params name) (.str name s.toks) v es).length≤1000)
    (h : ∀ h',Heap.SameBut dx s.heap h'→h'.get? dx=some (dictOf (putL name (PyData.keyHash w.params name) (.str name s.toks) v es) (putN name es n))→Q (.done (.ret .none)) { s with heap:=h',toks:=s.toks + 1 }) :
    wpAny (model prog w) A (storeInDict dx (.str name tk) name v) Q E s:=by
  have D':(s.heap.update dx (Obj.putName name (PyData.keyHash w.params name) (.str name s.toks) v)).get? dx=some (dictOf (putL name (PyData.keyHash w.params name) (.str name s.toks) v es) (putN name es n)):=by
    have:=Heap.get?_update_self (Obj.putName name (PyData.keyHash w.params name) (.str name s.toks) v) D (by rw [putName_dict]; rfl)
    rwa [putName_dict] at this
  refine wpAny_bind (wpAny_pure (wpAny_bind ?_))
  unfold nsSet
  refine wpAny_bind (wpAny_bind (wpAny_askSetting (wpAny_pure (wpAny_bind (wpAny_mkText (wpAny_bind (wpAny_loadPart D ?_)))))))
  have c:(!es.toArray.any (·.key.isStr name) && es.toArray.any (·.refKey))=false:=by
    unfold getL at hl
    rw [← Array.any_toList, ← Array.any_toList]
    split at hl
    · rename_i en he
      rw [List.any_eq_true.mpr ⟨en,List.mem_of_find?_eq_some he,List.find?_some he⟩]; rfl
    · split at hl
      · first | obtain rfl:=oi hl | exact n0 hl | exact n1 hl | cases hl
      · rename_i z
        rw [Bool.not_eq_true] at z
        show (_ && es.any _)=false
        rw [z,Bool.and_false]
  dsimp only
  rw [aRefKeyMayBeTheName_at,c]
  refine wpAny_updatePart D ?_
  refine wpAny_bind (wpAny_lookBehind D' (pastItsLine_dict (by rw [List.size_toArray,sizeLine_eq]; omega)) ?_)
  exact wpAny_pure (h _ (Heap.SameBut.update ..) D')
structure ExcSt (K:Frag) (C:Addr) (name:PySem.Str):Prop where
  cls : ∃ cd, clsIn K C = some cd ∧ cd.mro.isEmpty = false ∧ cd.mro.contains (.type "object") = true ∧ cd.hasDict = true ∧ ∀ self : Value, refuseLoop self "__setattr__" cd.mro = pure ()
  sa : findIn K (.ref C) "__setattr__" = some (some (.builtin "object.__setattr__"))
  tk:takerIn K C name=some none
theorem exc_osa {K:Frag} {x C:Addr} {ox:Obj} {od:Option Obj} {name:PySem.Str} {v:Value} {Q:Unit→Shared→Prop} (X:K.In s.heap) (I:InstAt s.heap x ox C od) (S:ExcSt K C name)
    (h : ∀ A' tk b,wpAny (model prog w) A' (storeInOwnDict (.ref x) (.ref C) (.str name tk) name v b) (fun fin s'=>fin = .done (.ret .none)∧Q () s') (fun _ _=>False) { s with toks:=s.toks + 1 }) :
    wpAny (model prog w) A (setAttr (.ref x) name v) Q E s:=by
  obtain ⟨⟨cd,hc,ne,ho,hd,hp⟩,hs,ht⟩:=S
  refine set_plain X I hs ?_
  have SF:=PySem.F.store_object
  have sub : Looks (model prog w) s.heap (isInstance (.ref x) (.type "object")) true := I.type.andThen (looks_mroIn X (by unfold mroIn; rw [hc, Option.bind_some, if_neg (by rw [ne]; decide), ho]))
  refine codeAny_call_builtin SF.slot.plain SF.entry (@check_slot (model prog w) _ _ { s with toks := s.toks + 1 } "object.__setattr__" "object" "__setattr__" (.ref x) [.str name s.toks, v] [] _ SF.kind SF.split sub (SF.args (.ref x) (.str name s.toks) v) ?_)
  obtain ⟨attr,ha,hr⟩:=Option.bind_eq_some_iff.mp ht
  have hm:Looks (model prog w) s.heap (mroOf (.ref C)) cd.mro:=(looks_clsIn X hc).andThen .now
  have L3:Looks (model prog w) s.heap (storeTaker? attr) none:=by
    cases attr with
    | none=>exact .now
    | some a =>
      obtain ⟨b,hb,hb'⟩:=Option.map_eq_some_iff.mp hr
      refine (looks_takesIn X hb).andThen ?_
      first | obtain rfl:=oi b | exact n0 b | exact n1 b | cases b
      · exact .now
      · first | obtain rfl:=oi hb' | exact n0 hb' | exact n1 hb' | cases hb'
  rw [osa_eq,refuse_eq]
  refine wpAny_bind (wpAny_bind (I.type.here (s:={ s with toks:=s.toks + 1 }) (wpAny_bind (hm.here (s:={ s with toks:=s.toks + 1 }) ?_))))
  rw [hp]
  refine wpAny_pure (wpAny_bind (I.type.here (s:={ s with toks:=s.toks + 1 }) (wpAny_bind ((looks_findIn X ha).here (s:={ s with toks:=s.toks + 1 }) (wpAny_bind (L3.here (s:={ s with toks:=s.toks + 1 }) ?_))))))
  refine wpAny_mono (h _ _ _) (fun fin s' z => ?_) fun _ _ z=>z.elim
  obtain ⟨rfl,z⟩:=z
  exact z
theorem exc_set0 {K:Frag} {x C:Addr} {vs:Array Value} {sl:Array (Option Value)} {name:PySem.Str} {v:Value} {Q:Unit→Shared→Prop} (X:K.In s.heap) (hx:s.heap.get? x=some ⟨.ref C,none, .fields vs,sl⟩) (S:ExcSt K C name)
    (h : ∀ (h':Heap) (tk:Nat) (t:Tok) (n:Nat),(∀ a o,a ≠ x→s.heap.get? a=some o→h'.get? a=some o)→h'.get? x=some ⟨.ref C,some s.heap.objs.size, .fields vs,sl⟩→h'.get? s.heap.objs.size=some (dictOf [⟨PyData.keyHash w.params name, .str name t,v⟩] n)→s.heap.objs.size < h'.objs.size→Q () { s with heap:=h',toks:=tk }) :
    wpAny (model prog w) A (setAttr (.ref x) name v) Q E s:=by
  refine exc_osa X (od:=none) ⟨hx,rfl,rfl,trivial⟩ S fun A' tk b => ?_
  obtain ⟨⟨cd,hc,ne,ho,hd,hp⟩,hs,ht⟩:=S
  refine wpAny_bind (wpAny_pure (wpAny_bind (wpAny_bind (wpAny_loadPart hx (wpAny_bind (Looks.here (s:={ s with toks:=s.toks + 1 }) (looks_clsIn X hc) ?_))))))
  rw [hd]
  have hlt:=Heap.lt_size hx
  have hx1:(s.heap.push emptyDict).get? x=some ⟨.ref C,none, .fields vs,sl⟩:=Heap.get?_push_of_some _ hx
  have hx2:=Heap.get?_update_self (fun o:Obj=>{ cls:=o.cls,dict:=some s.heap.objs.size,data:=o.data,slots:=o.slots }) hx1 rfl
  have hd2:((s.heap.push emptyDict).update x fun o:Obj=>{ cls:=o.cls,dict:=some s.heap.objs.size,data:=o.data,slots:=o.slots }).get? s.heap.objs.size=some (dictOf [] 0):=by
    rw [Heap.get?_update_other _ _ (Nat.ne_of_lt hlt)]
    exact Heap.get?_push_size _ rfl
  refine wpAny_bind (wpAny_alloc (wpAny_bind (wpAny_update hx1 (wpAny_pure (a:=some s.heap.objs.size) ?_))))
  refine dict_store hd2 rfl (by show 1≤1000; decide) fun h' hsb hD=>⟨rfl,h h' _ s.toks.succ _ (fun a o na e => ?_) ?_ hD ?_⟩
  · rw [hsb.2 a (Nat.ne_of_lt (Heap.lt_size e)), Heap.get?_update_other _ _ (Ne.symm na)]
    exact Heap.get?_push_of_some _ e
  · rw [hsb.2 x (Nat.ne_of_lt hlt),hx2]
  · exact Heap.lt_size hD
theorem exc_set1 {K:Frag} {x C dx:Addr} {vs:Array Value} {sl:Array (Option Value)} {es:List DictEntry} {n:Nat} {name:PySem.Str} {v:Value} {Q:Unit→Shared→Prop} (X:K.In s.heap) (hx:s.heap.get? x=some ⟨.ref C,some dx, .fields vs,sl⟩) (hdx:s.heap.get? dx=some (dictOf es n)) (S:ExcSt K C name)
    (hl:(getL name es).isSome=true) (hz:(putL name (PyData.keyHash w.params name) (.str name (s.toks + 1)) v es).length≤1000)
    (h : ∀ (h':Heap) (tk:Nat) (n':Nat),Heap.SameBut dx s.heap h'→h'.get? dx=some (dictOf (putL name (PyData.keyHash w.params name) (.str name (s.toks + 1)) v es) n')→Q () { s with heap:=h',toks:=tk }) :
    wpAny (model prog w) A (setAttr (.ref x) name v) Q E s:=by
  refine exc_osa X (od:=some (dictOf es n)) ⟨hx,rfl,rfl,hdx⟩ S fun A' tk b => ?_
  obtain ⟨⟨cd,hc,ne,ho,hd,hp⟩,hs,ht⟩:=S
  refine wpAny_bind (wpAny_pure (wpAny_bind (wpAny_bind (wpAny_loadPart hx (wpAny_bind (Looks.here (s:={ s with toks:=s.toks + 1 }) (looks_clsIn X hc) ?_))))))
  rw [hd]
  refine wpAny_pure (a:=some dx) ?_
  exact dict_store (s:={ s with toks:=s.toks + 1 }) hdx hl hz fun h' hsb hD=>⟨rfl,h h' _ _ hsb hD⟩
end
end Mine
end
section
set_option tactic.hygienic false
namespace Mine
open PySem PySem.W PySem.Spec PySem.Calls PyProof.Rows PyProof.V

section
variable {prog:Program} {w:World} {A:Around} {E:Value→Shared→Prop} {s:Shared}
theorem exc_base_init {x C t0:Addr} {v:Value} {Q:Value→Shared→Prop} (hx:s.heap.get? x=some (excNew C t0)) (Y:ExcC (model prog w) s.heap C)
    (h : ∀ h',(∀ a o,a ≠ x→s.heap.get? a=some o→h'.get? a=some o)→h'.get? x=some (excNew C s.heap.objs.size)→h'.objs.size=s.heap.objs.size + 1→Q .none { s with heap:=h' }) :
    wpAny (model prog w) A (call (.builtin "Exception.__init__") [.ref x, v]) Q E s := by
  have F:=PySem.F.excBase_Exception
  obtain ⟨hh,g,d,tk,os⟩:=s
  obtain ⟨⟨oc,od,cd,sl',hC,e1,e2,e4⟩,made,base,self,top,attr,name,call,typ⟩:=Y
  have hI : Looks (model prog w) hh (isInstance (.ref x) (.type "Exception")) true := ((Looks.ld (part := none) hx).andThen .now).andThen top
  have hx1 : (hh.push { cls := .type "tuple", data := .seq #[v] }).get? x = some (excNew C t0) := Heap.get?_push_of_some _ hx
  have hx2:=Heap.get?_update_self (Obj.mapFields fun x=>x.setIfInBounds 0 (Value.ref hh.objs.size)) hx1 rfl
  refine wpAny_call (codeAny_call_builtin F.init.plain F.initEntry ?_)
  simp only [checkBuiltinCall,F.initKind,F.initSplit,F.initRow]
  repeat (first | simp only [bne_self_eq_false,Bool.false_eq_true,if_false,Bool.not_true] | lk)
  refine wpAny_update hx1 ?_
  refine wpAny_mono (Q := fun _ s' => s' = ⟨(hh.push { cls := .type "tuple", data := .seq #[v] }).update x (Obj.mapFields fun x => x.setIfInBounds 0 (Value.ref hh.objs.size)), g, d, tk, os⟩) ?_ (fun _ s' z => ?_) fun _ _ z => z
  · wp_walk
    rfl
  · subst z
    refine wpAny_pure (h _ (fun a o na e => ?_) hx2 ?_)
    · rw [Heap.get?_update_other _ _ (Ne.symm na)]
      exact Heap.get?_push_of_some _ e
    · rw [Heap.size_update,Heap.size_push]
end
end Mine
end
section
set_option tactic.hygienic false
namespace Mine
open PySem PySem.W PySem.Spec PySem.Calls PyProof.Rows PyProof.V

theorem find_exc_init (K : Frag) : findCls K (.type "Exception") (.type "type") "__init__" = some (.val (.builtin "Exception.__init__")) := by kernel_rfl
structure InitFn (c:Cx) (fI:Addr) (R:FnR):Prop where
  at_:c.K.lookup fI=some ⟨R.oc,R.od, .func R.fd,R.osl⟩
  code:codeIn c.K R.cdv R.qual=true
  kind:R.scope.kind = .function
  co:R.scope.isCoroutine=false
  gen:R.scope.isGenerator=false
  cell : ∀ x ∈ R.scope.names,x.2 ≠ .cell
  l1 : R.scope.names.lookup ("self" : PySem.Str) = some .local
  l2 : R.scope.names.lookup ("what" : PySem.Str) = some .local
  l3 : R.scope.names.lookup ("at" : PySem.Str) = some .local
  l4 : R.scope.names.lookup ("Exception" : PySem.Str) = some .globalImplicit
  body : ∃ p0 p1 p2 p3 p4 p5 p6 p7 p8 p9 p10 p11 p12 p13, R.body = [.Expr (.Call (.Attribute (.Name "Exception" p0) "__init__" p1) [.Name "self" p2, .Name "what" p3] [] p4) p5, .Assign [.Attribute (.Name "self" p6) "what" p7] (.Name "what" p8) p9,
    .Assign [.Attribute (.Name "self" p10) "at" p11] (.Name "at" p12) p13] ∧ (p1.endLine == p4.line) = true
  bind : ∀ (s : Shared) (a b d : Value), c.K.In s.heap → BindsTo s R.fd ⟨[a, b, d], []⟩ [("self", a), ("what", b), ("at", d)]
section
variable {c:Cx} {A:Around} {E:Value→Shared→Prop} {s:Shared}
theorem exc_init {C fI : Addr} {R : FnR} (P : Base c) (I : InitFn c fI R) (S1 : ExcSt c.K C "what") (S2 : ExcSt c.K C "at") (hB : ∀ a o, c.B.get? a = some o → s.heap.get? a = some o) (hlow : c.B.objs.size ≤ s.heap.objs.size)
    (Y : ∀ h, c.K.In h → ExcC (model c.prog c.w) h C) (hd : A.depth < recursionLimit) (hmg : c.mg "Exception" = none) (hmb : c.mb "Exception" = some (.type "Exception")) {x t0 : Addr} (hx : s.heap.get? x = some (excNew C t0)) (hxB : c.B.objs.size ≤ x) {xw xa : Value} {Rr : Result → Shared → Prop}
    (h : ∀ d s',(∀ a o,a ≠ x→s.heap.get? a=some o→s'.heap.get? a=some o)→s.heap.objs.size≤d→x ≠ d→(∃ t sl,s'.heap.get? x=some ⟨.ref C,some d, .fields #[.ref t, .none, .none, .none, .bool false, .none],sl⟩) →
      (∃ t1 t2 h1 h2 n, s'.heap.get? d = some (dictOf [⟨h1, .str "what" t1, xw⟩, ⟨h2, .str "at" t2, xa⟩] n)) → s'.gens = s.gens → s'.os = s.os → Rr (.ok (.ret .none)) s') :
    codeAny (model c.prog c.w) A (.call (.ref fI) ⟨[.ref x,xw,xa],[]⟩) Rr s:=by
  have hKs:c.K.In s.heap:=fun b o e=>hB b o (P.XK b o e)
  obtain ⟨p0,p1,p2,p3,p4,p5,p6,p7,p8,p9,p10,p11,p12,p13,hbody,hpos⟩:=I.body
  refine codeAny_call_function hd (hKs _ _ I.at_) rfl I.co I.gen rfl (codeRec_of hKs I.code) (I.bind s _ _ _ hKs _ _ _ _ (wpAny_newFunctionEnv (binds := [("self", .ref x), ("what", xw), ("at", xa)]) I.cell ?_ (fun h₁ hns hsb => ?_) I.kind))
  · intro y hy
    simp only [List.mem_cons,List.not_mem_nil,or_false] at hy
    rcases hy with rfl | rfl | rfl
    · exact I.l1
    · exact I.l2
    · exact I.l3
  have xkeep : ∀ b o,s.heap.get? b=some o→h₁.get? b=some o:=fun b o e=>(hsb.2 b (Nat.ne_of_lt (Heap.lt_size e))).trans (Heap.get?_push_of_some _ e)
  refine ⟨P.T.nolimit.keeps fun b o e=>xkeep b o (hB b o e),codeAny_func ?_⟩
  rw [hbody]
  generalize henv : newEnv R.fd.scope s.heap.objs.size R.fd.globals R.fd.closure (R.fd.qualname ++ ".<locals>.") (some fI) R.fd.code none R.fd.builtins = env
  have hloc:env.locals=s.heap.objs.size:=by rw [← henv]; rfl
  have hgl:env.globals=mainGlobals:=by rw [← henv]; rfl
  have hbl:env.builtins=builtinsNs:=by rw [← henv]; rfl
  have hsc:env.scope=R.scope:=by rw [← henv]; rfl
  have hk:env.scope.kind = .function:=by rw [hsc]; exact I.kind
  have hint:interactive env=false:=by unfold interactive; rw [hk]; rfl
  have xL:x < s.heap.objs.size:=Heap.lt_size hx
  have hk1 : env.kindOf "self" = some .local := by show env.scope.names.lookup _ = _; rw [hsc]; exact I.l1
  have hk2 : env.kindOf "what" = some .local := by show env.scope.names.lookup _ = _; rw [hsc]; exact I.l2
  have hk3 : env.kindOf "at" = some .local := by show env.scope.names.lookup _ = _; rw [hsc]; exact I.l3
  have hk4 : env.kindOf "Exception" = some .globalImplicit := by show env.scope.names.lookup _ = _; rw [hsc]; exact I.l4
  have nm : ∀ {y : PySem.Str} {v : Value} {p : Pos} {A' : Around} {s' : Shared} {Q : Value → Shared → Prop} {E : Value → Shared → Prop}, env.kindOf y = some .local → [(("self" : PySem.Str), Value.ref x), ("what", xw), ("at", xa)].reverse.lookup y = some v →
      (∀ a o, a ≠ x → h₁.get? a = some o → s'.heap.get? a = some o) → (y == ("__debug__" : PySem.Str)) = false → Q v s' → wpAny (model c.prog c.w) A' (eval (.Name y p) env) Q E s' := by
    intro y v p A' s' Q E ky hy hkp hdb hq
    refine wpAny_Name ?_ hdb
    refine wpAny_loadName_local hk ky (m := fun x_1 => [(("self" : PySem.Str), Value.ref x), ("what", xw), ("at", xa)].reverse.lookup x_1) ?_ hy hq
    rw [hloc]
    exact Ns.but hkp hns (Nat.ne_of_gt xL)
  have hx1:h₁.get? x=some (excNew C t0):=xkeep _ _ hx
  have B1 : ∀ {h':Heap},(∀ a o,a ≠ x→h₁.get? a=some o→h'.get? a=some o) → ∀ a o,c.B.get? a=some o→h'.get? a=some o:=fun k a o e=>k a o (Nat.ne_of_lt (Nat.lt_of_lt_of_le (Heap.lt_size e) hxB)) (xkeep _ _ (hB _ _ e))
  have K1 : ∀ {h':Heap},(∀ a o,a ≠ x→h₁.get? a=some o→h'.get? a=some o)→c.K.In h':=fun k a o e=>B1 k _ _ (P.XK _ _ e)
  refine wpAny_execs_cons (wpAny_Expr_any ?_ hint rfl)
  show wpAny _ _ (do
    let ov ← attributeBase (.Name "Exception" p0) "__init__" env (eval (.Name "Exception" p0) env)
    standAt p1.atName
    methodCall (.Name "Exception" p0) "__init__" p1 p4 env ov (2 + 0) (backTo p4 (starEach [.Name "self" p2, .Name "what" p3] env)) []) _ _ _
  rw [wp_base (M:=model c.prog c.w) rfl]
  refine wpAny_bind (Name_function_global hk hk4 (loadGlobal_builtin (by rw [hgl]; exact P.T.g.keeps (B1 fun _ _ _ e=>e)) hmg (by rw [hbl]; exact P.T.b.keeps (B1 fun _ _ _ e=>e)) hmb ?_))
  refine wpAny_bind (wpAny_standAt ?_)
  have hform : methodCallForm (2 + 0) (backTo p4 (starEach [.Name "self" p2, .Name "what" p3] env)) [] = true := rfl
  have hp2 : methodCallPos true (.Name "Exception" p0) env p1 p4 = pure p4 := by simp only [methodCallPos, hpos]; rfl
  unfold methodCall
  rw [hform,hp2]
  refine wpAny_bind (wpAny_holding ?_)
  have F1 : Fr c.B s.heap.objs.size h₁ (fun x_1 => [(("self" : PySem.Str), Value.ref x), ("what", xw), ("at", xa)].reverse.lookup x_1) := ⟨hns, B1 fun _ _ _ e => e, hlow⟩
  refine method_type (T := "Exception") F1 P.XK (by kernel_rfl) (by decide +kernel) (find_exc_init c.K) rfl ?_
  refine wpAny_bind (wpAny_pure ?_)
  refine callWith_of (P:=fun _=>True) rfl (fun _ _=>keeps_pure (.inl ⟨_,rfl⟩)) (evalArgs_plain (spliced_cons (nm hk1 rfl (fun _ _ _ e=>e) rfl (spliced_cons (nm hk2 rfl (fun _ _ _ e=>e) rfl (spliced_nil ⟨trivial, ?_⟩))))))
  refine exc_base_init hx1 (Y _ (K1 fun _ _ _ e=>e)) fun h₂ k2 hx2 hs2 => ?_
  have k2' : ∀ a o,a ≠ x→h₁.get? a=some o→h₂.get? a=some o:=k2
  refine wpAny_execs_cons (plainObj_wpAny_Assign_Attribute (nm hk2 rfl k2' rfl (nm hk1 rfl k2' rfl ?_)) rfl)
  refine exc_set0 (K:=c.K) (K1 k2') hx2 S1 fun h₃ tk t n k3 hx3 hd3 hs3 => ?_
  have k3' : ∀ a o,a ≠ x→h₁.get? a=some o→h₃.get? a=some o:=fun a o na e=>k3 a o na (k2 a o na e)
  refine wpAny_execs_cons (plainObj_wpAny_Assign_Attribute (nm hk3 rfl k3' rfl (nm hk1 rfl k3' rfl ?_)) rfl)
  refine exc_set1 (K:=c.K) (K1 k3') hx3 hd3 S2 rfl (by show 2≤1000; decide) fun h₄ tk4 n4 hsb4 hd4 => ?_
  refine wpAny_execs_nil ?_
  have dx:x ≠ h₂.objs.size:=Nat.ne_of_lt (Heap.lt_size hx2)
  have k4 : ∀ a o,a ≠ x→s.heap.get? a=some o→h₄.get? a=some o:=fun a o na e=>by
    have e3:=k2' a o na (xkeep _ _ e)
    rw [hsb4.2 a (Nat.ne_of_lt (Heap.lt_size e3))]
    exact k3 a o na e3
  refine h h₂.objs.size _ k4 ?_ dx ⟨_,_,by rw [hsb4.2 x dx]; exact hx3⟩ ⟨_,_,_,_,_,hd4⟩ rfl rfl
  show s.heap.objs.size≤h₂.objs.size
  exact Nat.le_trans (Nat.le_of_lt hns.lt) (by rw [hs2]; exact Nat.le_succ _)
end
structure ExcOK (c:Cx):Prop where
  ok : ∀ C, c.fnA 0 = some C → (∀ h, c.K.In h → ExcC (model c.prog c.w) h C) ∧ ExcSt c.K C "what" ∧ ExcSt c.K C "at" ∧ ∃ fI R, findIn c.K (.ref C) "__init__" = some (some (.ref fI)) ∧ isFn c.K (.ref fI) = true ∧ InitFn c fI R
  mg : c.mg "Exception" = none
  mb : c.mb "Exception" = some (.type "Exception")
  a10 : c.an 10 = "what"
  a1 : c.an 1 = "at"
theorem ExcOK.mk' {c:Cx} (X:ExcOK c):ExcMk c:=by
  intro A f fs s μ ρ σ P I ok hd hu C' w a xw xa hC rw_ ra
  obtain ⟨Y,S1,S2,fI,R,hi,hf,IF⟩:=X.ok C' hC
  have hKs:c.K.In s.heap:=fun b o e=>(I.base b o (P.XK b o e)).1
  have hB : ∀ b o,c.B.get? b=some o→s.heap.get? b=some o:=fun b o e=>(I.base b o e).1
  obtain ⟨hh,g,d,tk,os⟩:=s
  refine exc_make (Y _ hKs) (by rw [sizeLine_eq]; show 2≤16777216; decide) (looks_findIn hKs hi) (fun self=>bind_fn hKs self (beq_iff_eq.mp hf)) ?_
  have k1 : ∀ b o,hh.get? b=some o→((hh.push (tupNew [xw,xa])).push (excNew C' hh.objs.size)).get? b=some o:=fun b o e=>Heap.get?_push_of_some _ (Heap.get?_push_of_some _ e)
  have hx:((hh.push (tupNew [xw,xa])).push (excNew C' hh.objs.size)).get? (hh.objs.size + 1)=some (excNew C' hh.objs.size):=by heap_get
  have sz:((hh.push (tupNew [xw,xa])).push (excNew C' hh.objs.size)).objs.size=hh.objs.size + 2:=by rw [Heap.size_push,Heap.size_push]
  refine exc_init P.toBase IF S1 S2 (fun a o e=>k1 _ _ (hB _ _ e)) (Nat.le_trans I.low (by show hh.objs.size≤_; rw [sz]; omega)) Y (by show A.depth + 1 < _; omega) X.mg X.mb hx (Nat.le_trans I.low (Nat.le_succ _)) fun dd s' k2 hd2 hxd hxo hdo e1 e2=>⟨rfl, ?_⟩
  have hkeep : ∀ b o,hh.get? b=some o→s'.heap.get? b=some o:=fun b o e=>k2 b o (Nat.ne_of_lt (Nat.lt_succ_of_lt (Heap.lt_size e))) (k1 _ _ e)
  obtain ⟨t,sl,hxo⟩:=hxo
  obtain ⟨t1,t2,h1,h2,n,hdo⟩:=hdo
  have hdd:hh.objs.size≤dd:=Nat.le_trans (by show hh.objs.size≤_; rw [sz]; omega) hd2
  have hds:dd < s'.heap.objs.size:=Heap.lt_size hdo
  have hxs:hh.objs.size + 1 < s'.heap.objs.size:=Heap.lt_size hxo
  have g1:Grow hh μ s'.heap (plus μ (hh.objs.size + 1)):=grow_plus hkeep (Nat.le_succ _)
  have ca:CellAt c s'.heap (plus μ (hh.objs.size + 1)) (ρ ++ [(hh.objs.size + 1,hh.objs.size + 1)]) (hh.objs.size + 1,hh.objs.size + 1) (.new 0 [(10,w),(1,a)]):=by
    refine .new (by decide) hC hxo rfl rfl rfl (.inr rfl) hdo (fun z=>z.elim (fun z=>Nat.lt_irrefl _ (Nat.lt_of_lt_of_le (I.mlt _ z) hdd)) fun z=>hxd z.symm) ?_ rfl
    refine .cons (t:=t1) (by decide) (by rw [X.a10]) (rw_.mono g1 (List.prefix_append _ _)) (.cons (t:=t2) (by decide) (by rw [X.a1]) (ra.mono g1 (List.prefix_append _ _)) .nil)
  have st:=St.cell (s:=⟨hh,g,d,tk,os⟩) I hkeep (Nat.le_of_lt (Nat.lt_of_succ_lt hxs)) (Nat.le_succ _) hxs ca (tk:=s'.toks)
  obtain ⟨h',g',d',tk',os'⟩:=s'
  obtain rfl:g'=g:=e1
  obtain rfl:os'=os:=e2
  refine ⟨_,_,_,_,rfl,⟨st.inv,st.grow,st.pre,rfl,rfl⟩, .ref (d:=hh.objs.size + 1) ?_⟩
  rw [← I.len,List.getElem?_append_right (Nat.le_refl _),Nat.sub_self]
  rfl
end Mine
end
section
namespace Mine
open PySem
noncomputable def anL:List (Nat × Str):=[
  (0, ("tokens" : Str)),
  (1, ("at" : Str)),
  (2, ("named" : Str)),
  (3, ("kind" : Str)),
  (4, ("worth" : Str)),
  (5, ("is_in_a" : Str)),
  (6, ("reader" : Str)),
  (7, ("is_named" : Str)),
  (8, ("depth" : Str)),
  (9, ("last" : Str)),
  (10, ("what" : Str)),
  (11, ("peek" : Str)),
  (12, ("fault" : Str)),
  (13, ("take" : Str)),
  (14, ("is_kind" : Str)),
  (15, ("is_word" : Str)),
  (16, ("skip" : Str)),
  (17, ("one_of" : Str)),
  (18, ("is_name" : Str)),
  (19, ("name" : Str)),
  (20, ("is_sign" : Str)),
  (21, ("skip_sign" : Str)),
  (22, ("need_sign" : Str)),
  (23, ("is_number" : Str)),
  (24, ("signed" : Str)),
  (25, ("octets" : Str)),
  (26, ("either" : Str)),
  (27, ("both" : Str)),
  (28, ("turned" : Str)),
  (29, ("single" : Str)),
  (30, ("unbracketed" : Str)),
  (31, ("in_brackets" : Str)),
  (32, ("subject_of_last" : Str)),
  (33, ("sign_of_last" : Str)),
  (34, ("predicate" : Str)),
  (35, ("relation" : Str)),
  (36, ("sign_here" : Str)),
  (37, ("split" : Str)),
  (38, ("lower" : Str)),
  (39, ("append" : Str))]
noncomputable def anT (g : Nat) : Str := (look anL g).getD ""
noncomputable def gnL:List (Nat × Str):=[
  (0, ("GrammarFault" : Str)),
  (1, ("Token" : Str)),
  (2, ("Reader" : Str)),
  (3, ("ConditionReader" : Str)),
  (4, ("FIGURE_NAMES" : Str)),
  (5, ("OPPOSITES" : Str)),
  (6, ("CLASSES" : Str)),
  (7, ("WORDS_OF_SIGNS" : Str)),
  (8, ("WORDS_OF_RELATIONS" : Str)),
  (9, ("RELATIONS" : Str)),
  (10, ("RESERVED" : Str)),
  (11, ("MOST_DEEP_expressions" : Str)),
  (12, ("MOST_DEEP_conditions" : Str)),
  (13, ("_law_spelled" : Str)),
  (14, ("_law_others" : Str)),
  (15, ("_law_signs" : Str)),
  (16, ("is_part_next" : Str)),
  (17, ("read_subscripts" : Str)),
  (18, ("read_part" : Str)),
  (19, ("read_ref" : Str)),
  (20, ("read_all" : Str)),
  (21, ("read_figure" : Str)),
  (22, ("read_operand" : Str)),
  (23, ("read_expression" : Str)),
  (24, ("sign_among" : Str)),
  (25, ("read_sum" : Str)),
  (26, ("read_product" : Str)),
  (27, ("read_factor" : Str)),
  (28, ("is_lone_number" : Str)),
  (29, ("read_power" : Str)),
  (30, ("read_primary" : Str)),
  (31, ("negated" : Str)),
  (32, ("word_here" : Str)),
  (33, ("is_relation_at" : Str)),
  (34, ("place_of_word" : Str)),
  (35, ("is_predicate_here" : Str)),
  (36, ("is_bare_relation_here" : Str)),
  (37, ("read_condition" : Str)),
  (38, ("is_reserved" : Str)),
  (39, ("_law_turned" : Str)),
  (40, ("_law_draw" : Str)),
  (41, ("_law_pen" : Str)),
  (42, ("_law_reader" : Str)),
  (43, ("_law_ref" : Str)),
  (44, ("_law_told" : Str)),
  (45, ("_law_heard" : Str)),
  (46, ("_law_part" : Str)),
  (47, ("_law_row" : Str))]
noncomputable def gnT (g : Nat) : Str := (look gnL g).getD ""
noncomputable def fnAL:List (Nat × Nat):=[
  (0,72),
  (1,595),
  (2,565),
  (3,372),
  (16,139),
  (19,160),
  (21,174),
  (22,181),
  (23,188),
  (24,195),
  (25,202),
  (26,209),
  (27,216),
  (28,223),
  (29,230),
  (30,237),
  (32,250),
  (33,257),
  (34,264),
  (35,271),
  (36,278),
  (37,384),
  (38,391),
  (39,647),
  (40,654),
  (41,661),
  (42,668),
  (43,675),
  (44,682),
  (45,689),
  (90,696),
  (199,585),
  (211,419),
  (212,433),
  (213,440),
  (214,448),
  (215,455),
  (216,462),
  (217,476),
  (218,491),
  (219,498),
  (220,513),
  (221,520),
  (222,527),
  (223,534),
  (299,411),
  (326,299),
  (327,306),
  (328,313),
  (329,320),
  (330,327),
  (331,334),
  (332,341),
  (333,348),
  (334,355),
  (335,362),
  (336,369),
  (399,292)]
noncomputable def fnAT (g:Nat):Option Nat:=look fnAL g
noncomputable def tabAT:List (Nat × Nat):=[(236,232),(383,379)]
abbrev aPrim:Nat:=237
abbrev aCond:Nat:=384
abbrev aInit:Nat:=37
end Mine
end
section
set_option tactic.hygienic false
namespace Mine
open PySem PySem.W PySem.Spec PySem.Calls PyProof.Rows PyProof.V

noncomputable def isTab (a:Nat):Bool:=tabAT.any fun q=>Nat.beq q.2 a
noncomputable def kfree (K:Frag):Frag:=K.filter fun p => !isTab p.1
noncomputable def junkR:FnR:=⟨Str.empty,Str.empty,⟨[],[],none,[],[],none,[]⟩,[],⟨.function,[],false,false,[]⟩, .none, .none, .none, .none,none, .none, .none, .none,none, #[],[]⟩
noncomputable def itemsAt (K:Frag):Value→List Value
  | .ref t => match K.lookup t with
    | some ⟨_,_, .seq xs _,_⟩=>xs.toList
    | _=>[]
  | _=>[]
noncomputable def rOf (K:Frag) (a:Nat):FnR:=match K.lookup a with
  | some ⟨oc,od, .func fd,osl⟩=>⟨fd.name,fd.qualname,fd.params,(match fd.body with | .stmts b=>b | _=>[]),fd.scope,fd.defaults,fd.kwdefaults,fd.doc,fd.pyModule,fd.annotations,fd.code,fd.closureTuple,oc,od,osl,itemsAt K fd.defaults⟩
  | _=>junkR
noncomputable def junkL:LamI:=⟨Str.empty,⟨[],[],none,[],[],none,[]⟩, .Constant .none 0 ⟨0,0,0,0⟩,⟨.function,[],false,false,[]⟩,⟨0,0,0,0⟩,⟨.function,[],false,false,[]⟩,(0,0)⟩
noncomputable def lamPrim (R:FnR):LamI:=match R.body with
  | [_, .If _ [.Return (some (.Call _ [_, .Lambda ps e sc p] _ _)) _] _ _, _, _, _] => ⟨R.qual ++ (".<locals>." : PySem.Str) ++ ("<lambda>" : PySem.Str), ps, e, sc, p, R.scope, tabAT[0]!⟩
  | _=>junkL
noncomputable def lamCond (R:FnR):LamI:=match R.body with
  | [.If _ [.Return (some (.Call (.Attribute (.Call _ [_, .Lambda ps e sc p, _] _ _) _ _) _ _ _)) _] _ _, _] => ⟨R.qual ++ (".<locals>." : PySem.Str) ++ ("<lambda>" : PySem.Str), ps, e, sc, p, R.scope, tabAT[1]!⟩
  | _=>junkL
noncomputable def lamIT (K:Frag):Nat→Option LamI
  | 0=>some (lamPrim (rOf K aPrim))
  | 1=>some (lamCond (rOf K aCond))
  | _=>none
noncomputable def mkCx (prog:Program) (w:World) (K:Frag) (B:Heap) (mg mb:PySem.Str→Option Value):Cx:=⟨prog,w,K,B,mg,mb,anT,gnT,TB,fnAT,tabAT,lamIT K⟩

noncomputable def vInt (i:Int):Value→Bool
  | .int j _=>i == j
  | _=>false
noncomputable def vStr (l:CS):Value→Bool
  | .str s _=>s.cps.toList == l
  | _=>false
noncomputable def vRef:Value→Option Addr
  | .ref a=>some a
  | _=>none
noncomputable def tyIs (n:String):Value→Bool
  | .type t=>t == n
  | _=>false
noncomputable def seqO (n:String) (o:Obj):Option (List Value):=match o.dict with
  | some _=>none
  | none => match o.data with
    | .seq xs _=>if tyIs n o.cls && o.slots.isEmpty then some xs.toList else none
    | _=>none
noncomputable def isN:Value→Bool
  | .none=>true
  | _=>false
noncomputable def vBool (i:Bool):Value→Bool
  | .bool j=>i == j
  | _=>false
noncomputable def repB (K:Frag):Nat→V→Value→Bool
  | 0,_,_=>false
  | n + 1, v, x => match v with
    | .none=>isN x
    | .bool a=>vBool a x
    | .int i=>vInt i x
    | .str l=>vStr l x
    | .base g=>(vRef x).any fun a=>fnAT g == some a
    | .tup l => (vRef x).any fun a => (K.lookup a).any fun o => (seqO "tuple" o).any fun xs => repsB n l xs
    | .lst l => (vRef x).any fun a => (K.lookup a).any fun o => (seqO "list" o).any fun xs => repsB n l xs
    | _=>false
where repsB:Nat→List V→List Value→Bool
  | 0,_,_=>false
  | n + 1, l, r => match l with
    | []=>r.isEmpty
    | v :: vs=>(match r with | []=>false | x :: xs=>repB K n v x && repsB n vs xs)
noncomputable def fnB (K:Frag) (d:FnD) (R:FnR):Bool :=
  codeIn K R.cdv R.qual && (match R.scope.kind with | .function=>true | _=>false) && !R.scope.isCoroutine && !R.scope.isGenerator && decide (d.np≤d.nm.length) && decide (d.nm.take d.np).Nodup &&
  ((d.nm.take d.np).all fun y=>R.scope.names.lookup y == some .local || R.scope.names.lookup y == some .cell) && decide (d.np≤5) && decide (d.dflt.length≤2) && decide (d.dflt.length≤d.np) && repB.repsB K 20 d.dflt R.ds &&
  ([0,1].all fun k=>match lamIT K k with
    | none=>true
    | some I => !decide (I.owner = R.scope) || (R.cdv == .ref I.tab.1 && (R.qual ++ (".<locals>." : PySem.Str) ++ ("<lambda>" : PySem.Str)) == I.qual))
noncomputable def BindF (K:Frag) (d:FnD) (R:FnR) (k:Nat):Prop := ∀ (S:Setting) (a b x y z:Value),
  peek K S (bindArgs R.fd ⟨[a,b,x,y,z].take (d.np - k),[]⟩)=some ((d.nm.take d.np).zip ([a,b,x,y,z].take (d.np - k) ++ R.ds.drop (d.dflt.length - k)))
structure FnF (c:Cx) (a:Addr) (d:FnD):Prop where
  at_:c.K.lookup a=some ⟨(rOf c.K a).oc,(rOf c.K a).od, .func (rOf c.K a).fd,(rOf c.K a).osl⟩
  tr:trSs c d.nm (rOf c.K a).scope 60 d.body=some (rOf c.K a).body
  b:fnB c.K d (rOf c.K a)=true
  b0:BindF c.K d (rOf c.K a) 0
  b1:BindF c.K d (rOf c.K a) (min 1 d.dflt.length)
  b2:BindF c.K d (rOf c.K a) (min 2 d.dflt.length)
end Mine
end
section
set_option tactic.hygienic false
namespace Mine
open PySem PySem.W PySem.Spec PySem.Calls PyProof.Rows PyProof.V

section
variable {prog:Program} {w:World} {K:Frag} {B:Heap} {mg mb:PySem.Str→Option Value}
theorem seqO_ {n : String} {o : Obj} {l : List Value} (h : seqO n o = some l) : ∃ xs k, o = { cls := .type n, data := .seq xs k } ∧ l = xs.toList := by
  cases o with
  | mk c d dt sl =>
    cases d with
    | some=>exact n0 h
    | none =>
      cases dt with
      | seq xs k =>
        obtain ⟨h4,rfl⟩:=ifI h
        obtain ⟨h1,h2⟩:=Bool.and_eq_true_iff.mp h4
        obtain rfl:=Array.isEmpty_iff.mp h2
        cases c with
        | type t=>obtain rfl:=beq_iff_eq.mp h1; exact ⟨xs,k,rfl,rfl⟩
        | _=>exact Bool.noConfusion h1
      | _=>exact n0 h
theorem vRef_ {x:Value} {a:Addr} (h:vRef x=some a):x = .ref a:=by
  cases x with
  | ref b=>rw [oi h]
  | _=>exact n0 h
theorem seq_at {n:String} {x:Value} {p:List Value→Bool} (XK:K.In B) (h:((vRef x).any fun a=>(K.lookup a).any fun o=>(seqO n o).any p)=true) : ∃ a xs k,x = .ref a∧B.get? a=some { cls := .type n,data := .seq xs k }∧p xs.toList=true:=by
  obtain ⟨a,e,h⟩:=any_some h
  obtain ⟨o,e2,h⟩:=any_some h
  obtain ⟨l,e3,h⟩:=any_some h
  obtain ⟨xs,k,rfl,rfl⟩:=seqO_ e3
  exact ⟨a,xs,k,vRef_ e,XK _ _ e2,h⟩
theorem rep_ok (XK : K.In B) (n : Nat) : (∀ {v : V} {x : Value}, repB K n v x = true → VRep (mkCx prog w K B mg mb) B (fun _ => False) [] v x) ∧ (∀ {l : List V} {xs : List Value}, repB.repsB K n l xs = true → VReps (mkCx prog w K B mg mb) B (fun _ => False) [] l xs) := by
  induction n with
  | zero=>exact ⟨fun h=>Bool.noConfusion h,fun h=>Bool.noConfusion h⟩
  | succ n ih =>
    refine ⟨fun {v x} h => ?_,fun {l xs} h => ?_⟩
    · cases v with
      | none => cases x with
        | none=>exact .none
        | _=>exact Bool.noConfusion h
      | bool a => cases x with
        | bool b=>obtain rfl:=beq_iff_eq.mp h; exact .bool _
        | _=>exact Bool.noConfusion h
      | int a => cases x with
        | int b=>obtain rfl:=beq_iff_eq.mp h; exact .int _ _
        | _=>exact Bool.noConfusion h
      | str l => cases x with
        | str s t =>
          obtain rfl:=beq_iff_eq.mp h
          have:=VRep.str (c:=mkCx prog w K B mg mb) (h:=B) (μ:=fun _=>False) (ρ:=[]) s.cps.toList t
          rwa [sS_toList] at this
        | _=>exact Bool.noConfusion h
      | base g=>obtain ⟨a,e,h⟩:=any_some h; obtain rfl:=vRef_ e; exact .base (beq_iff_eq.mp h)
      | tup l=>obtain ⟨a,xs,k,rfl,e,h⟩:=seq_at XK h; exact .tup e (fun z=>z) (ih.2 h)
      | lst l=>obtain ⟨a,xs,k,rfl,e,h⟩:=seq_at XK h; exact .lst e (fun z=>z) (ih.2 h)
      | _=>exact Bool.noConfusion h
    · cases l with
      | nil=>obtain rfl:=List.isEmpty_iff.mp h; exact .nil
      | cons v vs => cases xs with
        | nil=>exact Bool.noConfusion h
        | cons x xs=>obtain ⟨a,b⟩:=Bool.and_eq_true_iff.mp h; exact .cons (ih.1 a) (ih.2 b)
theorem k_cases (m:Nat) (h2:m≤2) (k:Nat) (h:k≤m):k=0 ∨ k=min 1 m ∨ k=min 2 m:=by
  have : ∀ m < 3, ∀ k < 3,k≤m→(k=0 ∨ k=min 1 m ∨ k=min 2 m):=by decide
  exact this m (Nat.lt_succ_of_le h2) k (Nat.lt_succ_of_le (Nat.le_trans h h2)) h
theorem take_pad {xs:List Value} {np:Nat} (h:xs.length≤np) (h5:np≤5):[xs.getD 0 .none,xs.getD 1 .none,xs.getD 2 .none,xs.getD 3 .none,xs.getD 4 .none].take (np - (np - xs.length))=xs:=by
  rw [show np - (np - xs.length)=xs.length by omega]
  match xs,h with
  | [],_=>rfl
  | [_],_=>rfl
  | [_,_],_=>rfl
  | [_,_,_],_=>rfl
  | [_,_,_,_],_=>rfl
  | [_,_,_,_,_],_=>rfl
  | _ :: _ :: _ :: _ :: _ :: _ :: _,h=>simp only [List.length_cons] at h; omega
theorem FnF.ok (XK:K.In B) {a:Addr} {d:FnD} (F:FnF (mkCx prog w K B mg mb) a d):FnOK (mkCx prog w K B mg mb) a d (rOf K a):=by
  have hb:=F.b
  unfold fnB at hb
  simp only [Bool.and_eq_true] at hb
  obtain ⟨⟨⟨⟨⟨⟨⟨⟨⟨⟨⟨hcode,hkind⟩,hco⟩,hgen⟩,hnp⟩,hnd⟩,hloc⟩,h5⟩,hd2⟩,hdn⟩,hds⟩,hlam⟩:=hb
  refine ⟨F.at_,hcode,⟨60,F.tr⟩, ?_,(Bool.not_eq_true' _).mp hco,(Bool.not_eq_true' _).mp hgen,of_decide_eq_true hnp,of_decide_eq_true hnd,fun y hy => ?_,(rep_ok XK _).2 hds,fun s xs X h1 h2 => ?_,fun k I hI hO => ?_⟩
  · revert hkind
    show (match (rOf K a).scope.kind with | .function=>true | _=>false)=true→(rOf K a).scope.kind = .function
    cases (rOf K a).scope.kind <;> simp
  · have := List.all_eq_true.mp hloc y hy
    rcases (Bool.or_eq_true _ _).mp this with q | q
    · exact .inl (beq_iff_eq.mp q)
    · exact .inr (beq_iff_eq.mp q)
  · have h5 := of_decide_eq_true h5
    have hd2:=of_decide_eq_true hd2
    have hk:d.np - xs.length=0 ∨ d.np - xs.length=min 1 d.dflt.length ∨ d.np - xs.length=min 2 d.dflt.length:=k_cases _ hd2 _ (by omega)
    have hb:BindF K d (rOf K a) (d.np - xs.length):=by
      rcases hk with e | e | e
      · rw [e]; exact F.b0
      · rw [e]; exact F.b1
      · rw [e]; exact F.b2
    refine kp_binds X fun S => ?_
    have:=hb S (xs.getD 0 .none) (xs.getD 1 .none) (xs.getD 2 .none) (xs.getD 3 .none) (xs.getD 4 .none)
    rw [take_pad h1 h5] at this
    exact this
  · have hk : k = 0 ∨ k = 1 := by
      match k,hI with
      | 0,_=>exact .inl rfl
      | 1,_=>exact .inr rfl
      | k + 2,hI=>cases hI
    have:=List.all_eq_true.mp hlam k (by rcases hk with rfl | rfl <;> simp)
    rw [show (mkCx prog w K B mg mb).K=K from rfl] at this
    have hI':lamIT K k=some I:=hI
    rw [hI'] at this
    simp only at this
    rw [decide_eq_true hO] at this
    simp only [Bool.not_true,Bool.false_or,Bool.and_eq_true,beq_iff_eq] at this
    exact this
end
end Mine
end
section
set_option tactic.hygienic false
namespace Mine
open PySem PySem.W PySem.Spec PySem.Calls PyProof.Rows PyProof.V

noncomputable def dctPs (K:Frag) (a:Nat):List ((CS × Tok) × (CS × Tok)):=match K.lookup a with
  | some ⟨_, _, .dict es _, _⟩ => es.toList.filterMap fun e => match e.key, e.val with
    | .str s t, .str u t'=>some ((s.cps.toList,t),(u.cps.toList,t'))
    | _,_=>none
  | _=>[]
noncomputable def dctN (K:Frag) (a:Nat):Nat:=match K.lookup a with
  | some ⟨_,_, .dict _ n,_⟩=>n
  | _=>0
noncomputable def dctE (P:Params) (p:(CS × Tok) × (CS × Tok)):DictEntry:=⟨PyData.keyHash P (sS p.1.1), .str (sS p.1.1) p.1.2, .str (sS p.2.1) p.2.2⟩
noncomputable def dctObj (P : Params) (ps : List ((CS × Tok) × (CS × Tok))) (n : Nat) : Obj := { cls := .type "dict", data := .dict (ps.map (dctE P)).toArray n }
noncomputable def globAt (K:Frag) (g:Nat):Nat:=match nsIn K mainGlobals (gnT g) with
  | some (some (.ref a))=>a
  | _=>0
structure DctF (K:Frag) (P:Params) (g:Nat):Prop where
  n:nsIn K mainGlobals (gnT g)=some (some (.ref (globAt K g)))
  o:K.lookup (globAt K g)=some (dctObj P (dctPs K (globAt K g)) (dctN K (globAt K g)))
  v:glT g=some (.dct ((dctPs K (globAt K g)).map (·.1.1)) ((dctPs K (globAt K g)).map fun p => .str p.2.1))
  b:(decide ((dctPs K (globAt K g)).map (·.1.1)).Nodup && !(globAt K g == sysModules))=true
theorem dct_rep {c : Cx} {B : Heap} {a : Nat} {ps : List ((CS × Tok) × (CS × Tok))} {n : Nat} (ho : B.get? a = some (dctObj c.w.params ps n)) (hn : (ps.map (·.1.1)).Nodup) (hm : (a == sysModules) = false) :
    VRep c B (fun _=>False) [] (.dct (ps.map (·.1.1)) (ps.map fun p => .str p.2.1)) (.ref a):=by
  refine .dct (kvs:=ps.map fun p=>(sS p.1.1,Value.str (sS p.2.1) p.2.2)) (ds:=ps.map fun p=>(PyData.str (sS p.1.1),PyData.str (sS p.2.1))) ho ?_ ?_ hm (fun z=>z) ?_
  · refine ⟨(ps.map (dctE c.w.params)).toArray, n, ⟨rfl, rfl, rfl⟩, rfl, fun e he => ?_, ?_, ?_⟩
    · have he := Array.mem_toList_iff.mpr he
      obtain ⟨p,hp,rfl⟩:=List.mem_map.mp he
      exact ⟨sS p.1.1,strKind_is _ _ _ _,rfl⟩
    · show Pairs _ (ps.map (dctE c.w.params)) _
      clear hn ho hm
      induction ps with
      | nil=>exact .nil
      | cons p ps ih=>exact .cons (strKind_is _ _ _ _) rfl ih
    · rw [List.map_map]
      clear ho hm
      induction ps with
      | nil=>exact List.nodup_nil
      | cons p ps ih =>
        rw [List.map_cons,List.nodup_cons] at hn ⊢
        refine ⟨fun hm=>hn.1 ?_,ih hn.2⟩
        obtain ⟨q,hq,e⟩:=List.mem_map.mp hm
        exact List.mem_map.mpr ⟨q,hq,sS_inj.mp e⟩
  · clear hn ho hm
    induction ps with
    | nil=>exact .nil
    | cons p ps ih=>exact .cons (Flat.str _ _) ih
  · clear hn ho hm
    induction ps with
    | nil=>exact .nil
    | cons p ps ih=>exact .cons rfl ih

noncomputable def glB (K:Frag):Bool:=(List.range 48).all fun g=>match glT g with
  | none=>true
  | some (.dct _ _)=>[4,5,7,8].contains g
  | some v => match nsIn K mainGlobals (gnT g) with
    | some (some x)=>repB K 60 v x
    | _=>false
noncomputable def clsB (K:Frag):Bool:=[1,2,3].all fun g=>match fnAT g,(initT g).bind fnAT with
  | some C, some fI => makesIn K C && findIn K (.ref C) "__init__" == some (some (.ref fI)) && isFn K (.ref fI) && hasDictIn K C && plainOver K C &&
      findIn K (.ref C) "__getattribute__" == some (some (.builtin "object.__getattribute__")) && findIn K (.ref C) "__getattr__" == some none && findIn K (.ref C) "__setattr__" == some (some (.builtin "object.__setattr__")) &&
      (List.range 11).all fun f=>takerIn K C (anT f) == some none && match findIn K (.ref C) (anT f) with
        | some a => noGet K a && a.all (fun a => (typeIn K a).any fun t => t != .type "function" && t != .type "method_descriptor" && t != .type "wrapper_descriptor")
        | none=>false
  | _,_=>false
noncomputable def mthB (K:Frag):Bool:=(List.range 4).all fun C=>(List.range 40).all fun f=>match mthT C f with
  | none=>true
  | some k => match fnAT C, fnAT k with
    | some C',some a=>plainGet K C' (anT f) && findIn K (.ref C') (anT f) == some (some (.ref a)) && isFn K (.ref a)
    | _,_=>false
noncomputable def keepB (K:Frag):Bool:=(List.range 400).all fun g=>match fnAT g with
  | none=>true
  | some a=>keepIn K (.ref a)
noncomputable def excB (K:Frag):Bool:=match fnAT 0 with
  | some C => findIn K (.ref C) "__getattribute__" == some (some (.builtin "BaseException.__getattribute__")) && findIn K (.ref C) "__getattr__" == some none && (clsIn K C).any (fun cd => cd.mro.contains (.type "BaseException")) && hasDictIn K C &&
      ((List.range 11).all fun f=>match findIn K (.ref C) (anT f) with | some a=>noGet K a | none=>false) &&
      typeIn K (.ref C) == some (.type "type") && exmOne K (.ref C) (.ref C) == some true && nsIn K mainGlobals (gnT 0) == some (some (.ref C)) &&
      (match K.lookup C with
        | some ⟨_, _, .cls cd, sl⟩ => !cd.abstract && !cd.hasDel && cd.hasDict && (sl.toList[4]?).join == some (.builtin "Exception.__new__") && (match (cd.mro[1]? : Option Value) with
            | some (.ref b) => decide (cd.mro = [.ref C, .ref b, .type "Exception", .type "BaseException", .type "object"])
            | _=>false)
        | _=>false) &&
      specialIn K (.ref C) "__call__" == some (some (.builtin "type.__call__")) && instIn K (.ref C) (.type "type") == some true &&
      mroIn K C (.ref C) == some true && mroIn K C (.type "Exception") == some true && mroIn K C (.type "AttributeError") == some false && mroIn K C (.type "NameError") == some false &&
      findIn K (.ref C) "__init__" == some (some (.ref aInit)) && isFn K (.ref aInit) && findIn K (.ref C) "__setattr__" == some (some (.builtin "object.__setattr__")) && takerIn K C "what" == some none && takerIn K C "at" == some none
  | none=>false
noncomputable def freeB (K : Frag) : Bool := (["len", "abs", "sum", "min", "list", "tuple", "enumerate", "Exception"] : List PySem.Str).all fun y => nsIn K mainGlobals y == some none
noncomputable def initB (K:Frag) (R:FnR):Bool:=codeIn K R.cdv R.qual && (match R.scope.kind with | .function=>true | _=>false) && !R.scope.isCoroutine && !R.scope.isGenerator && (R.scope.names.all fun x => !(x.2 == .cell)) &&
  R.scope.names.lookup ("self" : PySem.Str) == some .local && R.scope.names.lookup ("what" : PySem.Str) == some .local && R.scope.names.lookup ("at" : PySem.Str) == some .local && R.scope.names.lookup ("Exception" : PySem.Str) == some .globalImplicit
noncomputable def initS (p0 p1 p2 p3 p4 p5 p6 p7 p8 p9 p10 p11 p12 p13 : Pos) : List Stmt := [.Expr (.Call (.Attribute (.Name "Exception" p0) "__init__" p1) [.Name "self" p2, .Name "what" p3] [] p4) p5, .Assign [.Attribute (.Name "self" p6) "what" p7] (.Name "what" p8) p9,
  .Assign [.Attribute (.Name "self" p10) "at" p11] (.Name "at" p12) p13]
noncomputable def lamB (K:Frag) (I:LamI) (n:Nat) (nm:List PySem.Str):Bool :=
  codeHdIn K I.tab.1 I.tab.2 && decide (I.scope.names.map (·.1)).Nodup && decide (nm.drop n=(I.scope.names.filter fun y=>y.2 == .free).map (·.1)) && decide (n≤nm.length) && decide (nm.take n).Nodup &&
  ((nm.take n).all fun y=>I.scope.names.lookup y == some .local) && (((I.scope.names.filter fun y=>y.2 == .free).map (·.1)).all fun y=>I.scope.names.lookup y == some .free) &&
  (match I.scope.kind with | .function=>true | _=>false) && !I.scope.isCoroutine && !I.scope.isGenerator && (I.scope.names.all fun x => !(x.2 == .cell)) && ([0,1].all fun k=>match lamIT K k with
    | none=>true
    | some J => !decide (J.owner=I.scope)) && decide (n≤2)
structure LamF (c:Cx) (k:Nat) (I:LamI) (fx:FnD × X):Prop where
  dflt : ∀ env,defaultsOf I.params env=([],[])
  tab:I.tab=tabAT.getD k (0,0)
  tr:trX c fx.1.nm I.scope 60 fx.2=some I.body
  b:lamB c.K I (lamnT k) fx.1.nm=true
  bind : ∀ (a x : Value) (cl : List (PySem.Str × Addr)) (pm cdv ct : Value), bindArgs (kla_fn "<lambda>" I.qual I.params I.body I.scope cl pm cdv ct) ⟨[a, x].take (lamnT k), []⟩ = pure ((fx.1.nm.take (lamnT k)).zip ([a, x].take (lamnT k)))
structure Facts (c:Cx):Prop where
  fns : ∀ g d,fnT g=some d → ∃ a,fnAT g=some a∧FnF c a d
  gl:glB c.K=true
  d4:DctF c.K c.w.params 4
  d5:DctF c.K c.w.params 5
  d7:DctF c.K c.w.params 7
  d8:DctF c.K c.w.params 8
  cls:clsB c.K=true
  mth:mthB c.K=true
  keep:keepB c.K=true
  exc:excB c.K=true
  free:freeB c.K=true
  i_at:c.K.lookup aInit=some ⟨(rOf c.K aInit).oc,(rOf c.K aInit).od, .func (rOf c.K aInit).fd,(rOf c.K aInit).osl⟩
  i_b:initB c.K (rOf c.K aInit)=true
  i_body : ∃ p0 p1 p2 p3 p4 p5 p6 p7 p8 p9 p10 p11 p12 p13,(rOf c.K aInit).body=initS p0 p1 p2 p3 p4 p5 p6 p7 p8 p9 p10 p11 p12 p13∧(p1.endLine == p4.line)=true
  i_bind : ∀ (S : Setting) (a b d : Value), peek c.K S (bindArgs (rOf c.K aInit).fd ⟨[a, b, d], []⟩) = some [(("self" : PySem.Str), a), (("what" : PySem.Str), b), (("at" : PySem.Str), d)]
  l0:LamF c 0 (lamPrim (rOf c.K aPrim)) lam_0
  l1:LamF c 1 (lamCond (rOf c.K aCond)) lam_1
end Mine
end
section
set_option tactic.hygienic false
namespace Mine
open PySem PySem.W PySem.Spec PySem.Calls PyProof.Rows PyProof.V

section
variable {prog:Program} {w:World} {K:Frag} {B:Heap} {mg mb:PySem.Str→Option Value}
theorem glT_lt {g:Nat} {v:V} (h:glT g=some v):g < 48:=by
  exact Nat.le_of_ble_eq_true (List.all_eq_true.mp (show (glL.all fun p=>Nat.ble (p.1 + 1) 48)=true by decide +kernel) _ (look_mem h))
theorem fnAT_lt {g a:Nat} (h:fnAT g=some a):g < 400:=by
  exact Nat.le_of_ble_eq_true (List.all_eq_true.mp (show (fnAL.all fun p=>Nat.ble (p.1 + 1) 400)=true by decide +kernel) _ (look_mem h))
theorem mthT_lt {C f k:Nat} (h:mthT C f=some k):f < 40:=by
  exact Nat.le_of_ble_eq_true (List.all_eq_true.mp (show (mthL.all fun p=>Nat.ble (p.1.2 + 1) 40)=true by decide +kernel) _ (look2_mem h))
theorem an_inj : ∀ f g,f < 40→g < 40→anT f=anT g→f=g:=by
  have : ∀ f,f < 40 → ∀ g,g < 40→anT f=anT g→f=g:=by decide +kernel
  exact fun f g hf hg=>this f hf g hg
set_option tactic.hygienic true in theorem glob_ok (F:Facts (mkCx prog w K B mg mb)) (XK:K.In B) (G:B.Ns mainGlobals mg) (g:Nat) (v:V) (h:glT g=some v) : ∃ x,mg (gnT g)=some x∧VRep (mkCx prog w K B mg mb) B (fun _=>False) [] v x:=by
  have hb:=List.all_eq_true.mp F.gl g (List.mem_range.mpr (glT_lt h))
  rw [h] at hb
  have dct : ∀ {g':Nat},DctF K w.params g'→g=g' → ∃ x,mg (gnT g)=some x∧VRep (mkCx prog w K B mg mb) B (fun _=>False) [] v x:=by
    intro g' D e
    subst e
    have hv:=D.v
    rw [h] at hv
    first | obtain rfl:=oi hv | exact n0 hv | exact n1 hv | cases hv
    have hb:=D.b
    rw [Bool.and_eq_true] at hb
    exact ⟨_,mg_of XK G D.n,dct_rep (c:=mkCx prog w K B mg mb) (XK _ _ D.o) (of_decide_eq_true hb.1) ((Bool.not_eq_true' _).mp hb.2)⟩
  have oth:(match nsIn K mainGlobals (gnT g) with | some (some x)=>repB K 60 v x | _=>false)=true → ∃ x,mg (gnT g)=some x∧VRep (mkCx prog w K B mg mb) B (fun _=>False) [] v x:=by
    intro hb
    split at hb
    · rename_i x hx
      exact ⟨x,mg_of XK G hx,(rep_ok XK _).1 hb⟩
    · first | obtain rfl:=oi hb | exact n0 hb | exact n1 hb | cases hb
  cases v with
  | dct ks vs =>
    simp only [List.contains_cons,Bool.or_eq_true,beq_iff_eq,List.contains_nil,Bool.or_false] at hb
    rcases hb with e | e | e | e
    · exact dct F.d4 e
    · exact dct F.d5 e
    · exact dct F.d7 e
    · exact dct F.d8 e
  | _=>exact oth hb
theorem exc_refuse {C D : Nat} (self : Value) : refuseLoop self "__setattr__" [.ref C, .ref D, .type "Exception", .type "BaseException", .type "object"] = pure () := by
  rw [refuseLoop_ref,refuseLoop_ref]
  exact PySem.F.store_Exception.passes self
set_option tactic.hygienic true in theorem exc_facts {M : Model} (hb : excB K = true) {C : Nat} (hC : fnAT 0 = some C) : (∀ h, K.In h → ExcC M h C) ∧ (∀ name, takerIn K C name = some none → ExcSt K C name) ∧ findIn K (.ref C) "__init__" = some (some (.ref aInit)) ∧ isFn K (.ref aInit) = true ∧
    takerIn K C "what" = some none ∧ takerIn K C "at" = some none ∧ typeIn K (.ref C) = some (.type "type") ∧ exmOne K (.ref C) (.ref C) = some true ∧ nsIn K mainGlobals (gnT 0) = some (some (.ref C)) ∧
    findIn K (.ref C) "__getattribute__" = some (some (.builtin "BaseException.__getattribute__")) ∧ findIn K (.ref C) "__getattr__" = some none ∧ (clsIn K C).any (fun cd => cd.mro.contains (.type "BaseException")) = true ∧ hasDictIn K C = true ∧
    (∀ f,f≤10 → ∃ attr,findIn K (.ref C) (anT f)=some attr∧noGet K attr=true):=by
  unfold excB at hb
  rw [hC] at hb
  simp only [Bool.and_eq_true,beq_iff_eq] at hb
  refine hideG fun G_ hG_ => ?_
  obtain ⟨⟨⟨⟨⟨⟨⟨⟨⟨⟨⟨⟨⟨⟨⟨⟨⟨⟨⟨g1,g2⟩,g3⟩,g4⟩,g5⟩,g6⟩,g7⟩,g8⟩,hcd⟩,k1⟩,k2⟩,k3⟩,k4⟩,k5⟩,k6⟩,k7⟩,k8⟩,k9⟩,k10⟩,k11⟩:=hb
  refine hG_ ?_; clear hG_
  split at hcd
  · rename_i oc od cd sl ho
    simp only [Bool.and_eq_true,Bool.not_eq_true',beq_iff_eq] at hcd
    refine hideG fun G_ hG_ => ?_
    obtain ⟨⟨⟨⟨e1,e2⟩,e3⟩,e4⟩,e5⟩:=hcd
    refine hG_ ?_; clear hG_
    split at e5
    · rename_i b hb1
      have hm:=of_decide_eq_true e5
      have hc:clsIn K C=some cd:=by unfold clsIn; rw [ho]
      have hne:cd.mro.isEmpty=false:=by rw [hm]; rfl
      refine ⟨fun h X => ?_,fun name ht=>⟨⟨cd,hc,hne,by rw [hm]; simp,e3,fun self=>by rw [hm]; exact exc_refuse self⟩,k9,ht⟩,k7,k8,k10,k11,g6,g7,g8,g1,g2,g3,g4,fun f hf => ?_⟩
      · have hml : Looks M h (mroOf (.ref C)) cd.mro := (looks_clsIn X hc).andThen .now
        have made : Looks M h (Bind.madeBy (.ref C)) (some "Exception.__new__") := by
          intro A Q E s k q
          unfold Bind.madeBy
          refine wpAny_bind (hml A _ E s k ?_)
          rw [hm,List.forIn_cons]
          refine wpAny_bind (wpAny_bind (wpAny_bind (wpAny_bind (wpAny_loadPart (k _ _ (X _ _ ho)) (wpAny_pure ?_)))))
          dsimp only
          rw [← Array.getElem?_toList,e4]
          exact wpAny_pure (wpAny_pure (wpAny_pure q))
        refine ⟨⟨oc,od,cd,sl,X _ _ ho,e1,e2,hne⟩,made, ?_,looks_mroIn X k3,looks_mroIn X k4,looks_mroIn X k5,looks_mroIn X k6,looks_specialIn X k1,looks_instIn X k2⟩
        intro A Q E s k q
        unfold Bind.staticBase
        refine wpAny_bind (hml A _ E s k ?_)
        rw [hm,List.forIn_cons]
        exact wpAny_bind (wpAny_bind (wpAny_bind (made A _ E s k (wpAny_pure (wpAny_pure (wpAny_pure q))))))
      · have := List.all_eq_true.mp g5 f (List.mem_range.mpr (by omega))
        split at this
        · exact ⟨_,by assumption,this⟩
        · first | obtain rfl:=oi this | exact n0 this | exact n1 this | cases this
    · first | obtain rfl:=oi e5 | exact n0 e5 | exact n1 e5 | cases e5
  · first | obtain rfl:=oi hcd | exact n0 hcd | exact n1 hcd | cases hcd
end
end Mine
end
section
set_option tactic.hygienic false
namespace Mine
open PySem PySem.W PySem.Spec PySem.Calls PyProof.Rows PyProof.V

section
variable {prog:Program} {w:World} {K:Frag} {B:Heap} {mg mb:PySem.Str→Option Value}
set_option tactic.hygienic true in theorem cls_facts (hb : clsB K = true) {g C : Nat} (h4 : g < 4) (h0 : g ≠ 0) (hC : fnAT g = some C) : ∃ k fI, initT g = some k ∧ fnAT k = some fI ∧ makesIn K C = true ∧ findIn K (.ref C) "__init__" = some (some (.ref fI)) ∧ isFn K (.ref fI) = true ∧ hasDictIn K C = true ∧ plainOver K C = true ∧
    findIn K (.ref C) "__getattribute__" = some (some (.builtin "object.__getattribute__")) ∧ findIn K (.ref C) "__getattr__" = some none ∧ findIn K (.ref C) "__setattr__" = some (some (.builtin "object.__setattr__")) ∧
    ∀ f, f ≤ 10 → takerIn K C (anT f) = some none ∧ ∃ a, findIn K (.ref C) (anT f) = some a ∧ noGet K a = true ∧ a.all (fun a => (typeIn K a).any fun t => t != .type "function" && t != .type "method_descriptor" && t != .type "wrapper_descriptor") = true := by
  have hm:=List.all_eq_true.mp hb g (by
    have:g=1 ∨ g=2 ∨ g=3:=by omega
    rcases this with rfl | rfl | rfl <;> simp)
  rw [hC] at hm
  split at hm
  · rename_i C' fI e1 e2
    first | obtain rfl:=oi e1 | exact n0 e1 | exact n1 e1 | cases e1
    simp only [Bool.and_eq_true,beq_iff_eq] at hm
    obtain ⟨⟨⟨⟨⟨⟨⟨⟨a1,a2⟩,a3⟩,a4⟩,a5⟩,a6⟩,a7⟩,a8⟩,a9⟩:=hm
    obtain ⟨k,hk,hf⟩:=Option.bind_eq_some_iff.mp e2
    refine ⟨k,fI,hk,hf,a1,a2,a3,a4,a5,a6,a7,a8,fun f hf => ?_⟩
    have:=List.all_eq_true.mp a9 f (List.mem_range.mpr (by omega))
    simp only [Bool.and_eq_true,beq_iff_eq] at this
    obtain ⟨b1,b2⟩:=this
    split at b2
    · rename_i a ha
      rw [Bool.and_eq_true] at b2
      exact ⟨b1,a,ha,b2.1,b2.2⟩
    · first | obtain rfl:=oi b2 | exact n0 b2 | exact n1 b2 | cases b2
  · first | obtain rfl:=oi hm | exact n0 hm | exact n1 hm | cases hm
theorem free_facts (hb : freeB K = true) (XK : K.In B) (G : B.Ns mainGlobals mg) {y : PySem.Str} (hy : y ∈ (["len", "abs", "sum", "min", "list", "tuple", "enumerate", "Exception"] : List PySem.Str)) : mg y = none :=
  ns_none_of XK G (beq_iff_eq.mp (List.all_eq_true.mp hb y hy))
theorem bi_facts (hmb : ∀ x : PySem.Str, x ≠ "__name__" → mb x = bootBuiltins x) : ∀ b y, biV b = some y → mb y.1 = some y.2 := by
  intro b y h
  unfold biV at h
  split at h <;> first
    | (cases h; rw [hmb _ (by decide +kernel)]; decide +kernel)
    | cases h
theorem lamIT_cases {k:Nat} {I:LamI} (h:lamIT K k=some I):(k=0∧I=lamPrim (rOf K aPrim)) ∨ (k=1∧I=lamCond (rOf K aCond)):=by
  match k,h with
  | 0,h=>cases h; exact .inl ⟨rfl,rfl⟩
  | 1,h=>cases h; exact .inr ⟨rfl,rfl⟩
  | k + 2,h=>cases h
theorem lam_facts {c:Cx} {k:Nat} {I:LamI} {fx:FnD × X} (hc:c.lamI=lamIT c.K) (hT:c.T=TB) (L:LamF c k I fx) (hx:lamT k=some fx.2):LamOK c k I fx.2∧(∀ env,defaultsOf I.params env=([],[]))∧(∀ h,c.K.In h→CodeHd h I.tab.1 I.tab.2)∧(I.scope.names.map (·.1)).Nodup:=by
  have hb:=L.b
  unfold lamB at hb
  simp only [Bool.and_eq_true] at hb
  obtain ⟨⟨⟨⟨⟨⟨⟨⟨⟨⟨⟨⟨b1,b2⟩,b3⟩,b4⟩,b5⟩,b6⟩,b7⟩,b8⟩,b9⟩,b10⟩,b11⟩,b12⟩,b13⟩:=hb
  have hlam:c.T.lamn k=lamnT k:=by rw [hT]; rfl
  refine ⟨⟨⟨60,fx.1.nm,L.tr, ?_, ?_, ?_, ?_, ?_, ?_⟩, ?_,(Bool.not_eq_true' _).mp b9,(Bool.not_eq_true' _).mp b10, ?_, ?_⟩,L.dflt,fun h X=>codeHd_of_K X b1,of_decide_eq_true b2⟩
  · rw [hlam]; exact of_decide_eq_true b3
  · rw [hlam]; exact of_decide_eq_true b4
  · rw [hlam]; exact of_decide_eq_true b5
  · rw [hlam]; exact fun y hy=>beq_iff_eq.mp (List.all_eq_true.mp b6 y hy)
  · exact fun y hy=>beq_iff_eq.mp (List.all_eq_true.mp b7 y hy)
  · rw [hlam]
    intro xs cl pm cdv ct hl
    have h2:=of_decide_eq_true b13
    have hb:=L.bind (xs.getD 0 .none) (xs.getD 1 .none) cl pm cdv ct
    have ht:[xs.getD 0 .none,xs.getD 1 .none].take (lamnT k)=xs:=by
      rw [← hl]
      match xs,(show xs.length≤2 by omega) with
      | [],_=>rfl
      | [_],_=>rfl
      | [_,_],_=>rfl
      | _ :: _ :: _ :: _,h=>simp only [List.length_cons] at h; omega
    rw [ht] at hb
    exact hb
  · revert b8
    cases I.scope.kind <;> simp
  · intro x hx
    have:=List.all_eq_true.mp b11 x hx
    intro e
    rw [e] at this
    simp at this
  · intro k' I' hI' e
    rw [hc] at hI'
    have hk':k' ∈ [0,1]:=by rcases lamIT_cases hI' with ⟨rfl,_⟩ | ⟨rfl,_⟩ <;> simp
    have:=List.all_eq_true.mp b12 k' hk'
    rw [hI'] at this
    simp [e] at this
theorem init_facts {c:Cx} (F:Facts c):InitFn c aInit (rOf c.K aInit):=by
  have hb:=F.i_b
  unfold initB at hb
  simp only [Bool.and_eq_true,beq_iff_eq] at hb
  obtain ⟨⟨⟨⟨⟨⟨⟨⟨b1,b2⟩,b3⟩,b4⟩,b5⟩,b6⟩,b7⟩,b8⟩,b9⟩:=hb
  refine ⟨F.i_at,b1, ?_,(Bool.not_eq_true' _).mp b3,(Bool.not_eq_true' _).mp b4, ?_,b6,b7,b8,b9, ?_,fun s a b d X=>kp_binds X fun S=>F.i_bind S a b d⟩
  · revert b2
    cases (rOf c.K aInit).scope.kind <;> simp
  · intro x hx
    have:=List.all_eq_true.mp b5 x hx
    intro e
    rw [e] at this
    simp at this
  · exact F.i_body
set_option tactic.hygienic true in theorem prog3_of (XK : K.In B) (Tp : TopL mg mb B) (hmb : ∀ x : PySem.Str, x ≠ "__name__" → mb x = bootBuiltins x) (F : Facts (mkCx prog w K B mg mb)) : Prog3 (mkCx prog w K B mg mb) := by
  have C0:fnAT 0=some ((fnAT 0).getD 0):=by decide +kernel
  have E:=fun {C:Nat} (hC:fnAT 0=some C)=>exc_facts (M:=model prog w) F.exc hC
  have hfree : ∀ {y : PySem.Str}, y ∈ (["len", "abs", "sum", "min", "list", "tuple", "enumerate", "Exception"] : List PySem.Str) → mg y = none := free_facts F.free XK Tp.g
  have L0:=lam_facts (c:=mkCx prog w K B mg mb) rfl rfl F.l0 rfl
  have L1:=lam_facts (c:=mkCx prog w K B mg mb) rfl rfl F.l1 rfl
  have T0:(lamPrim (rOf K aPrim)).tab=tabAT.getD 0 (0,0):=F.l0.tab
  have T1:(lamCond (rOf K aCond)).tab=tabAT.getD 1 (0,0):=F.l1.tab
  have P:Prog (mkCx prog w K B mg mb):=by
    refine ⟨⟨XK,Tp⟩,an_inj,fun g v h=>glob_ok F XK Tp.g g v h, ?_, ?_, ?_, ?_, ?_⟩
    · intro g C' h4 h0 hC f hf
      obtain ⟨k,fI,c1,c2,c3,c4,c5,c6,c7,c8,c9,c10,c11⟩:=cls_facts F.cls h4 h0 hC
      obtain ⟨d1,a,d2,d3,d4⟩:=c11 f hf
      refine ⟨?_,c6,a,d2,d3⟩
      unfold plainGet
      rw [Bool.and_eq_true]
      exact ⟨beq_iff_eq.mpr c8,beq_iff_eq.mpr c9⟩
    · intro C' hC f hf
      obtain ⟨e1,e2,e3,e4,e5,e6,e7,e8,e9,e10,e11,e12,e13,e14⟩:=E hC
      exact ⟨e10,e11,e12,e13,e14 f hf⟩
    · intro k I hI
      rcases lamIT_cases hI with ⟨rfl,rfl⟩ | ⟨rfl,rfl⟩
      · exact ⟨L0.2.1,by rw [T0]; exact .head _,L0.2.2.1 _ XK,L0.2.2.2⟩
      · exact ⟨L1.2.1,by rw [T1]; exact .tail _ (.head _),L1.2.2.1 _ XK,L1.2.2.2⟩
    · intro k I k' I' hI hI' e
      rcases lamIT_cases hI with ⟨rfl,rfl⟩ | ⟨rfl,rfl⟩ <;> rcases lamIT_cases hI' with ⟨rfl,rfl⟩ | ⟨rfl,rfl⟩
      · rfl
      · rw [T0,T1] at e; revert e; decide
      · rw [T1,T0] at e; revert e; decide
      · rfl
    · intro b y h
      refine ⟨hfree ?_,bi_facts hmb b y h⟩
      unfold biV at h
      split at h <;> cases h <;> simp
  refine ⟨⟨P, ?_, ?_, ?_, ?_, ?_⟩, ?_, ?_, ?_, ?_, ?_,rfl,rfl,rfl⟩
  · intro g d h
    obtain ⟨a,ha,Ff⟩:=F.fns g d h
    exact ⟨a,_,ha,Ff.ok XK⟩
  · intro g k h0 h1
    have hg:g=1 ∨ g=2 ∨ g=3:=by
      have h1:initT g=some k:=h1
      have:=look_mem h1
      simp only [initL,List.mem_cons,Prod.mk.injEq,List.mem_nil_iff,or_false] at this
      omega
    refine ⟨by omega,fun C hC => ?_⟩
    obtain ⟨k',fI,c1,c2,c3,c4,c5,_⟩:=cls_facts F.cls (by omega) (by omega) hC
    have:k'=k:=Option.some.inj (c1.symm.trans h1)
    subst this
    exact ⟨fI,c2,c3,c4,c5⟩
  · intro k x hx
    have hx':lamT k=some x:=hx
    match k,hx' with
    | 0,e=>cases e; exact ⟨_,rfl,L0.1⟩
    | 1,e=>cases e; exact ⟨_,rfl,L1.1⟩
    | k + 2,e=>cases e
  · refine ExcOK.mk' ⟨fun C hC => ?_, hfree (by simp), ?_, rfl, rfl⟩
    · obtain ⟨e1, e2, e3, e4, e5, e6, _⟩ := E hC
      exact ⟨e1,e2 _ e5,e2 _ e6,aInit,_,e3,e4,init_facts F⟩
    · show mb _ = _
      rw [hmb _ (by decide +kernel)]; decide +kernel
  · exact ⟨rfl,rfl⟩
  · intro g a h
    have:=List.all_eq_true.mp F.keep g (List.mem_range.mpr (fnAT_lt h))
    rw [show fnAT g=some a from h] at this
    exact this
  · intro C C' f k h4 hm hC
    have h1:=List.all_eq_true.mp (List.all_eq_true.mp F.mth C (List.mem_range.mpr h4)) f (List.mem_range.mpr (mthT_lt hm))
    rw [show mthT C f=some k from hm,show fnAT C=some C' from hC] at h1
    simp only at h1
    split at h1
    · rename_i C'' a e1 e2
      first | obtain rfl:=oi e1 | exact n0 e1 | exact n1 e1 | cases e1
      simp only [Bool.and_eq_true,beq_iff_eq] at h1
      exact ⟨a,e2,h1.1.1,h1.1.2,h1.2⟩
    · first | obtain rfl:=oi h1 | exact n0 h1 | exact n1 h1 | cases h1
  · intro C C' f h4 h0 hC hf
    obtain ⟨k,fI,c1,c2,c3,c4,c5,c6,c7,c8,c9,c10,c11⟩:=cls_facts F.cls h4 h0 hC
    obtain ⟨d1,a,d2,d3,d4⟩:=c11 f hf
    refine ⟨?_,c8,c9,a,d2,d4⟩
    unfold plainGet
    rw [Bool.and_eq_true]
    exact ⟨beq_iff_eq.mpr c8,beq_iff_eq.mpr c9⟩
  · intro C C' f h4 h0 hC hf
    obtain ⟨k,fI,c1,c2,c3,c4,c5,c6,c7,c8,c9,c10,c11⟩:=cls_facts F.cls h4 h0 hC
    exact ⟨c10,c7,(c11 f hf).1,c6⟩
  · intro C' hC
    obtain ⟨e1,e2,e3,e4,e5,e6,e7,e8,e9,_⟩:=E hC
    exact ⟨e7,e8,mg_of XK Tp.g e9⟩
end
end Mine
end
section
set_option tactic.hygienic false
namespace Mine
open PySem PySem.W PySem.Spec PySem.Calls PyProof.Rows PyProof.V

noncomputable def freed:Obj:={ cls := .none,data := .freed }
noncomputable def cutTabs (h:Heap):Heap:=⟨tabAT.foldl (fun o q=>o.setIfInBounds q.2 freed) h.objs,h.life⟩
theorem cut_fold (l : List (Nat × Nat)) : ∀ (o : Array Obj) (li : Life) (a : Nat), (⟨l.foldl (fun o q => o.setIfInBounds q.2 freed) o, li⟩ : Heap).get? a = if (l.any fun q => Nat.beq q.2 a) = true then none else (⟨o, li⟩ : Heap).get? a := by
  induction l with
  | nil=>intro o li a; rfl
  | cons q l ih =>
    intro o li a
    rw [List.foldl_cons,ih,List.any_cons]
    by_cases h:q.2=a
    · subst h
      rw [show Nat.beq q.2 q.2=true from Nat.beq_refl _,Bool.true_or,if_pos rfl]
      split
      · rfl
      · unfold Heap.get?
        rw [Array.getElem?_setIfInBounds]
        by_cases hs:q.2 < o.size
        · simp [hs,freed]
        · simp [hs]
    · have hb : Nat.beq q.2 a = false := by
        cases e:Nat.beq q.2 a with
        | true=>exact absurd (Nat.eq_of_beq_eq_true e) h
        | false=>rfl
      rw [hb,Bool.false_or]
      split
      · rfl
      · unfold Heap.get?
        rw [Array.getElem?_setIfInBounds,if_neg h]
theorem cut_get (h:Heap) (a:Nat):(cutTabs h).get? a=if isTab a=true then none else h.get? a:=cut_fold tabAT h.objs h.life a
theorem cut_size (h:Heap):(cutTabs h).objs.size=h.objs.size:=by
  show (tabAT.foldl _ h.objs).size=_
  generalize h.objs=o
  generalize tabAT=l
  induction l generalizing o with
  | nil=>rfl
  | cons q l ih=>rw [List.foldl_cons,ih,Array.size_setIfInBounds]
theorem cut_some {h:Heap} {a:Nat} {o:Obj} (e:(cutTabs h).get? a=some o):h.get? a=some o∧isTab a=false:=by
  rw [cut_get] at e
  split at e
  · first | obtain rfl:=oi e | exact n0 e | exact n1 e | cases e
  · rename_i q; exact ⟨e,(Bool.not_eq_true _).mp q⟩
theorem cut_of {h:Heap} {a:Nat} {o:Obj} (e:h.get? a=some o) (q:isTab a=false):(cutTabs h).get? a=some o:=by
  rw [cut_get,if_neg (by rw [q]; decide)]; exact e
theorem lookup_filter {K : Frag} {f : Nat × Obj → Bool} {a : Nat} {o : Obj} (e : (K.filter f).lookup a = some o) (hf : ∀ p q : Nat × Obj, p.1 = q.1 → f p = f q) : K.lookup a = some o ∧ f (a, o) = true := by
  induction K with
  | nil=>cases e
  | cons p K ih =>
    rw [List.filter_cons] at e
    by_cases hp:f p=true
    · rw [if_pos hp] at e
      obtain ⟨b,ob⟩:=p
      rw [List.lookup_cons] at e ⊢
      by_cases hab:(a == b)=true
      · rw [hab] at e ⊢
        first | obtain rfl:=oi e | exact n0 e | exact n1 e | cases e
        exact ⟨rfl,by rw [← hp]; exact hf _ _ (beq_iff_eq.mp hab)⟩
      · rw [(Bool.not_eq_true _).mp hab] at e ⊢
        exact ih e
    · rw [if_neg hp] at e
      obtain ⟨h1,h2⟩:=ih e
      refine ⟨?_,h2⟩
      obtain ⟨b,ob⟩:=p
      rw [List.lookup_cons]
      have:(a == b)=false:=by
        cases q:(a == b) with
        | false=>rfl
        | true=>exact absurd ((hf (b,ob) (a,o) (beq_iff_eq.mp q).symm).trans h2) hp
      rw [this]
      exact h1
theorem kfree_in {K:Frag} {h:Heap} (X:K.In h):(kfree K).In (cutTabs h):=fun a o e=>by
  obtain ⟨h1,h2⟩:=lookup_filter e fun p q e=>by rw [e]
  exact cut_of (X _ _ h1) ((Bool.not_eq_true' _).mp h2)
structure HeadF (h:Heap) (mg mb:PySem.Str→Option Value):Prop where
  g:h.Ns mainGlobals mg
  b:h.Ns builtinsNs mb
  nolimit:h.NoLimit
  bmain : ∃ bm ob, mg "__builtins__" = some (.ref bm) ∧ bm ≠ builtinsNs ∧ h.get? bm = some ob ∧ ob.cls = .type "module" ∧ ob.dict = some builtinsNs ∧ ob.data = .plain
  bn : ∀ x : PySem.Str, x ≠ "__name__" → mb x = bootBuiltins x
noncomputable def tabsB (K : Frag) : Bool := isTab mainGlobals == false && isTab builtinsNs == false && isTab cStatics == false && (match nsIn K mainGlobals "__builtins__" with
    | some (some (.ref b))=>isTab b == false
    | _=>false) && decide (tabAT.map (·.2)).Nodup && tabAT.all fun q=>codeHdIn K q.1 q.2 && (match K.lookup q.2 with
    | some ⟨.none,none, .fields ps,sl⟩=>ps.isEmpty && sl.isEmpty
    | _=>false)
theorem Ns.cut {h:Heap} {a:Nat} {m:PySem.Str→Option Value} (n:h.Ns a m) (ht:isTab a=false):(cutTabs h).Ns a m:=by
  obtain ⟨o,es,ep,e,r⟩:=n
  exact ⟨o,es,ep,cut_of e ht,r⟩
set_option tactic.hygienic true in theorem tops_of {K:Frag} {h:Heap} {mg mb:PySem.Str→Option Value} (X:K.In h) (H:HeadF h mg mb) (ht:tabsB K=true):TopL mg mb (cutTabs h)∧(tabAT.map (·.2)).Nodup ∧ ∀ q ∈ tabAT,CodeHd h q.1 q.2∧h.get? q.2=some (tabObj #[]):=by
  unfold tabsB at ht
  simp only [Bool.and_eq_true,beq_iff_eq] at ht
  obtain ⟨⟨⟨⟨⟨t1,t2⟩,t3⟩,t4⟩,t5⟩,t6⟩:=ht
  refine ⟨⟨Ns.cut H.g t1,Ns.cut H.b t2, ?_, ?_⟩,of_decide_eq_true t5,fun q hq => ?_⟩
  · obtain ⟨mc, a, b⟩ := H.nolimit
    exact ⟨mc,Ns.cut a t3,b⟩
  · obtain ⟨bm, ob, b1, b2, b3, r⟩ := H.bmain
    refine ⟨bm,ob,b1,b2,cut_of b3 ?_,r⟩
    split at t4
    · rename_i b hb
      have:=mg_of X H.g hb
      rw [b1] at this
      first | obtain rfl:=oi this | exact n0 this | exact n1 this | cases this
      exact beq_iff_eq.mp t4
    · first | obtain rfl:=oi t4 | exact n0 t4 | exact n1 t4 | cases t4
  · have h6 := List.all_eq_true.mp t6 q hq
    rw [Bool.and_eq_true] at h6
    refine ⟨codeHd_of_K X h6.1, ?_⟩
    have h7:=h6.2
    split at h7
    · rename_i ps sl ho
      rw [Bool.and_eq_true] at h7
      obtain rfl:=Array.isEmpty_iff.mp h7.1
      obtain rfl:=Array.isEmpty_iff.mp h7.2
      exact X _ _ ho
    · first | obtain rfl:=oi h7 | exact n0 h7 | exact n1 h7 | cases h7
theorem ints_rep {c:Cx} {h:Heap} {μ:Addr→Prop} {ρ:List (Addr × Addr)} {xs:List Value} {ns:List Int} (I:IntsAre xs ns):VReps c h μ ρ (ns.map .int) xs:=by
  induction I with
  | nil=>exact .nil
  | cons n t _ ih=>exact .cons (.int n t) ih
theorem law_goes {prog : Program} {w : World} {K : Frag} {s₁ : Shared} {mg mb : PySem.Str → Option Value} (X : K.In s₁.heap) (H : HeadF s₁.heap mg mb) (ht : tabsB K = true) (F : ∀ B, Facts (mkCx prog w (kfree K) B mg mb))
    {a : Nat} {its : Array Value} {ns : List Int} (hl : s₁.heap.get? a = some { cls := .type "list", data := .seq its }) (hI : IntsAre its.toList ns) {n : Nat} (hn : n ≤ 680) {σ : List Cell} (hr : callV TB (n + 1) (.base 90) [.lst (ns.map .int)] [] = some (.ok (.bool true) σ))
    (ht2:isTab a=false) {lawA:Nat} (hlaw:fnAT 90=some lawA) :
    wpAny (model prog w) callerA (call (.ref lawA) [.ref a]) (fun v s'=>v = .bool true∧OldK s₁.heap s'.heap∧s'.os=s₁.os∧s'.gens=s₁.gens) (fun _ _=>False) s₁:=by
  obtain ⟨Tp,hnd,htab⟩:=tops_of X H ht
  have XB:=kfree_in X
  have P3:Prog3 (mkCx prog w (kfree K) (cutTabs s₁.heap) mg mb):=prog3_of XB Tp H.bn (F _)
  have AllN:=all_to P3 n n (Nat.le_refl _)
  have lt : ∀ q ∈ tabAT,q.2 < s₁.heap.objs.size:=fun q hq=>Heap.lt_size (htab q hq).2
  have isT : ∀ {x:Nat},isTab x=true → ∃ q ∈ tabAT,q.2=x:=fun {x} h=>by
    obtain ⟨q,hq,e⟩:=List.any_eq_true.mp h
    exact ⟨q,hq,Nat.eq_of_beq_eq_true e⟩
  have I0:Inv (mkCx prog w (kfree K) (cutTabs s₁.heap) mg mb) [] (fun x=>isTab x=true) [] [] s₁.heap:=by
    refine ⟨fun x o e=>⟨(cut_some e).1,by rw [(cut_some e).2]; decide⟩,Nat.le_of_eq (cut_size _),fun x m => ?_,fun f hf=>(List.not_mem_nil hf).elim,CellsAt.nil,hnd,fun q hq=>⟨?_, #[],(htab q hq).2,Or.inl rfl⟩⟩
    · obtain ⟨q, hq, rfl⟩ := isT m
      exact lt q hq
    · exact List.any_eq_true.mpr ⟨q,hq,Nat.beq_refl _⟩
  have ok:FrI.ok callerA []:=⟨rfl,rfl,fun f hf=>(List.not_mem_nil hf).elim⟩
  have rv:VReps (mkCx prog w (kfree K) (cutTabs s₁.heap) mg mb) s₁.heap (fun x=>isTab x=true) [] [.lst (ns.map .int)] [.ref a] := .cons (.lst (n:=0) hl (by rw [ht2]; decide) (ints_rep hI)) .nil
  obtain ⟨a',Rn,ha,Kf⟩:=P3.fn 90 fd_law rfl
  have e:a'=lawA:=Option.some.inj (ha.symm.trans hlaw)
  subst e
  refine wpAny_call (codeAny_mono (call_fn (gs:=[]) AllN.ss P3.toProg I0 ok (by show 1 + 300 + (n + 1) < 1000; omega) (by show 4 + 8 * (n + 1) + 64 < 9900; omega) Kf rv ?_ ?_ (r := .ok (.bool true) σ) ?_) fun q s' h => ?_)
  · show 1≤1; decide
  · show 1≤1 + 0; decide
  · exact hr
  · cases q with
    | error e=>obtain ⟨_,_,_,_,_,z,_⟩:=h; cases z
    | ok fl =>
      cases fl with
      | ret v =>
        obtain ⟨v0,σ',μ',ρ',z,st,rep⟩:=h
        first | obtain rfl:=oi z | exact n0 z | exact n1 z | cases z
        first | obtain rfl:=oi rep | exact n0 rep | exact n1 rep | cases rep
        refine ⟨rfl, ?_,st.os,st.gens⟩
        have there : ∀ b o,s₁.heap.get? b=some o→(isTab b=false∧s'.heap.get? b=some o) ∨ (isTab b=true∧o=tabObj #[] ∧ ∃ ps,s'.heap.get? b=some (tabObj ps)):=fun b o e=>by
          by_cases q:isTab b=true
          · obtain ⟨p, hp, rfl⟩ := isT q
            obtain ⟨ps,e2,_⟩:=(st.inv.tabs p hp).2
            exact .inr ⟨q,Option.some.inj (e.symm.trans (htab p hp).2),ps,e2⟩
          · have q := (Bool.not_eq_true _).mp q
            exact .inl ⟨q,(st.inv.base b o (cut_of e q)).1⟩
        refine ⟨fun b o e => ?_,fun b o e => ?_⟩
        · rcases there b o e with ⟨_, h⟩ | ⟨q, rfl, ps, h⟩
          · exact .inl h
          · obtain ⟨p, hp, rfl⟩ := isT q
            obtain ⟨oc,vs,_,_,_,_,_,_,_,c1,c2,c3,c4,_⟩:=(htab p hp).1
            exact .inr (.inl ⟨⟨p.1,oc,vs,c1,c2,c3,c4⟩,rfl, #[],ps,rfl,by rw [h]; simp⟩)
        · rcases there b o e with ⟨_, h⟩ | ⟨q, rfl, ps, h⟩
          · exact ⟨_,h⟩
          · exact ⟨_,h⟩
      | _=>exact h.elim
end Mine
end
end
section
open PySem PySem.W PyProof.Rows
namespace Mine
abbrev L:=PySem.Challenge.rw_pc0147_02
abbrev P:=PySem.Challenge.pw_pc0147_02

theorem bare_nil : (["vars", "dir", "locals"] : List Str).filter (readsOut P P.main.body) = [] := by
  have h : ((["vars", "dir", "locals"] : List Str).filter (readsOut P P.main.body)).isEmpty = true := by kernel_rfl
  exact List.isEmpty_iff.mp h
theorem strict_eq:(!(importedModules P.main.body).all cThrough.contains)=false:=by
  have h:((importedModules P.main.body).all cThrough.contains)=true:=by kernel_rfl
  rw [h]; rfl
noncomputable abbrev lk0:Look:={ strict:=false,foot:=none,bare:=[] }
theorem noRoad_append (lk:Look) (a b:List Stmt):noRoadLSs lk (a ++ b)=(noRoadLSs lk a && noRoadLSs lk b):=by
  induction a with
  | nil=>exact (Bool.true_and _).symm
  | cons s r ih=>exact (congrArg (_ && ·) ih).trans (Bool.and_assoc _ _ _).symm
theorem str_ok {x:Str} (h1:x.cps[0]? = some 32) (h2:x.cps.any (fun c=>c == 123 || c == 125)=false) (h3:x.cps.any (· == 46)=false):lk0.str x=true:=by
  have hne : ∀ n:Str,n.cps[0]? ≠ some 32→x ≠ n:=by rintro n hn rfl; exact hn h1
  have hf:frameAttrs.contains x=false:=by
    rw [← Bool.not_eq_true,List.contains_iff_mem]
    intro hm
    have : ∀ n ∈ frameAttrs,n.cps[0]? ≠ some 32:=by decide +kernel
    exact this x hm h1
  have ho : x.opensWith "__" = false := by
    rw [← Bool.not_eq_true]
    intro h
    have e : x.cps.extract 0 (Str.ofString "__").cps.size = (Str.ofString "__").cps := by simpa [Str.opensWith] using h
    have hs : (Str.ofString "__").cps = #[95, 95] := by decide +kernel
    rw [hs] at e
    have e0:(x.cps.extract 0 2)[0]? = some 95:=by
      have e':x.cps.extract 0 2 = #[95,95]:=e
      rw [e']; rfl
    rw [Array.getElem?_extract] at e0
    split at e0
    · rw [Nat.zero_add,h1] at e0; simp at e0
    · cases e0
  unfold Look.str roadStr
  rw [h2,h3]
  simp [Look.word,attrL,ho,lk0]
  exact .inr fun hm=>by rw [← List.contains_iff_mem,hf] at hm; cases hm
theorem body_split:P.main.body=P.main.body.take 51 ++ ((P.main.body.drop 51).take 1 ++ P.main.body.drop 52):=by
  conv=>lhs; rw [← List.take_append_drop 51 P.main.body]
  congr 1
noncomputable def resB:List Stmt:=(P.main.body.drop 51).take 1
noncomputable abbrev rl : List Char := [' ', 'A', 'C', 'C', 'E', 'P', 'T', ' ', 'A', 'C', 'C', 'E', 'S', 'S', ' ', 'A', 'D', 'D', ' ', 'A', 'D', 'V', 'A', 'N', 'C', 'I', 'N', 'G', ' ', 'A', 'F', 'T', 'E', 'R', ' ', 'A', 'L', 'L', ' ', 'A', 'L', 'P', 'H', 'A', 'B', 'E', 'T', 'I', 'C', ' ', 'A', 'L', 'P', 'H', 'A', 'B', 'E', 'T', 'I', 'C', '-', 'L', 'O', 'W', 'E', 'R', ' ', 'A', 'L', 'P', 'H', 'A', 'B', 'E', 'T', 'I', 'C', '-', 'U', 'P', 'P', 'E', 'R', ' ', 'A', 'L', 'P', 'H', 'A', 'N', 'U', 'M', 'E', 'R', 'I', 'C', ' ', 'A', 'L', 'P', 'H', 'A', 'N', 'U', 'M', 'E', 'R', 'I', 'C', '-', 'E', 'D', 'I', 'T', 'E', 'D', ' ', 'A', 'L', 'S', 'O', ' ', 'A', 'L', 'T', 'E', 'R', 'N', 'A', 'T', 'E', ' ', 'A', 'N', 'D', ' ', 'A', 'N', 'Y', ' ', 'A', 'R', 'E', ' ', 'A', 'R', 'E', 'A', ' ', 'A', 'R', 'E', 'A', 'S', ' ', 'A', 'S', 'C', 'E', 'N', 'D', 'I', 'N', 'G', ' ', 'A', 'S', 'S', 'I', 'G', 'N', ' ', 'A', 'T', ' ', 'A', 'U', 'T', 'H', 'O', 'R', ' ', 'B', 'E', 'F', 'O', 'R', 'E', ' ', 'B', 'I', 'N', 'A', 'R', 'Y', ' ', 'B', 'L', 'A', 'N', 'K', ' ', 'B', 'L', 'O', 'C', 'K', ' ', 'B', 'Y', ' ', 'C', 'A', 'L', 'L', ' ', 'C', 'H', 'A', 'R', 'A', 'C', 'T', 'E', 'R', ' ', 'C', 'H', 'A', 'R', 'A', 'C', 'T', 'E', 'R', 'S', ' ', 'C', 'L', 'O', 'S', 'E', ' ', 'C', 'O', 'M', 'P', ' ', 'C', 'O', 'M', 'P', '-', '3', ' ', 'C', 'O', 'M', 'P', 'U', 'T', 'A', 'T', 'I', 'O', 'N', 'A', 'L', ' ', 'C', 'O', 'M', 'P', 'U', 'T', 'A', 'T', 'I', 'O', 'N', 'A', 'L', '-', '3', ' ', 'C', 'O', 'M', 'P', 'U', 'T', 'E', ' ', 'C', 'O', 'N', 'F', 'I', 'G', 'U', 'R', 'A', 'T', 'I', 'O', 'N', ' ', 'C', 'O', 'N', 'T', 'A', 'I', 'N', 'S', ' ', 'C', 'O', 'N', 'T', 'E', 'N', 'T', ' ', 'C', 'O', 'N', 'T', 'I', 'N', 'U', 'E', ' ', 'C', 'O', 'N', 'V', 'E', 'R', 'T', 'I', 'N', 'G', ' ', 'C', 'O', 'P', 'Y', ' ', 'C', 'O', 'R', 'R', ' ', 'C', 'O', 'R', 'R', 'E', 'S', 'P', 'O', 'N', 'D', 'I', 'N', 'G', ' ', 'C', 'O', 'U', 'N', 'T', ' ', 'D', 'A', 'T', 'A', ' ', 'D', 'A', 'T', 'E', '-', 'C', 'O', 'M', 'P', 'I', 'L', 'E', 'D', ' ', 'D', 'A', 'T', 'E', '-', 'W', 'R', 'I', 'T', 'T', 'E', 'N', ' ', 'D', 'E', 'L', 'E', 'T', 'E', ' ', 'D', 'E', 'L', 'I', 'M', 'I', 'T', 'E', 'D', ' ', 'D', 'E', 'L', 'I', 'M', 'I', 'T', 'E', 'R', ' ', 'D', 'E', 'P', 'E', 'N', 'D', 'I', 'N', 'G', ' ', 'D', 'E', 'S', 'C', 'E', 'N', 'D', 'I', 'N', 'G', ' ', 'D', 'I', 'S', 'P', 'L', 'A', 'Y', ' ', 'D', 'I', 'V', 'I', 'D', 'E', ' ', 'D', 'I', 'V', 'I', 'S', 'I', 'O', 'N', ' ', 'D', 'O', 'W', 'N', ' ', 'D', 'U', 'P', 'L', 'I', 'C', 'A', 'T', 'E', 'S', ' ', 'D', 'Y', 'N', 'A', 'M', 'I', 'C', ' ', 'E', 'L', 'S', 'E', ' ', 'E', 'N', 'D', ' ', 'E', 'N', 'D', '-', 'A', 'D', 'D', ' ', 'E', 'N', 'D', '-', 'C', 'A', 'L', 'L', ' ', 'E', 'N', 'D', '-', 'C', 'O', 'M', 'P', 'U', 'T', 'E', ' ', 'E', 'N', 'D', '-', 'D', 'E', 'L', 'E', 'T', 'E', ' ', 'E', 'N', 'D', '-', 'D', 'I', 'V', 'I', 'D', 'E', ' ', 'E', 'N', 'D', '-', 'E', 'V', 'A', 'L', 'U', 'A', 'T', 'E', ' ', 'E', 'N', 'D', '-', 'I', 'F', ' ', 'E', 'N', 'D', '-', 'M', 'U', 'L', 'T', 'I', 'P', 'L', 'Y', ' ', 'E', 'N', 'D', '-', 'P', 'E', 'R', 'F', 'O', 'R', 'M', ' ', 'E', 'N', 'D', '-', 'R', 'E', 'A', 'D', ' ', 'E', 'N', 'D', '-', 'R', 'E', 'T', 'U', 'R', 'N', ' ', 'E', 'N', 'D', '-', 'R', 'E', 'W', 'R', 'I', 'T', 'E', ' ', 'E', 'N', 'D', '-', 'S', 'E', 'A', 'R', 'C', 'H', ' ', 'E', 'N', 'D', '-', 'S', 'T', 'A', 'R', 'T', ' ', 'E', 'N', 'D', '-', 'S', 'T', 'R', 'I', 'N', 'G', ' ', 'E', 'N', 'D', '-', 'S', 'U', 'B', 'T', 'R', 'A', 'C', 'T', ' ', 'E', 'N', 'D', '-', 'U', 'N', 'S', 'T', 'R', 'I', 'N', 'G', ' ', 'E', 'N', 'D', '-', 'W', 'R', 'I', 'T', 'E', ' ', 'E', 'N', 'V', 'I', 'R', 'O', 'N', 'M', 'E', 'N', 'T', ' ', 'E', 'Q', 'U', 'A', 'L', ' ', 'E', 'R', 'R', 'O', 'R', ' ', 'E', 'V', 'A', 'L', 'U', 'A', 'T', 'E', ' ', 'E', 'X', 'C', 'E', 'P', 'T', 'I', 'O', 'N', ' ', 'E', 'X', 'I', 'T', ' ', 'E', 'X', 'T', 'E', 'N', 'D', ' ', 'E', 'X', 'T', 'E', 'R', 'N', 'A', 'L', ' ', 'F', 'A', 'L', 'S', 'E', ' ', 'F', 'D', ' ', 'F', 'I', 'L', 'E', ' ', 'F', 'I', 'L', 'E', '-', 'C', 'O', 'N', 'T', 'R', 'O', 'L', ' ', 'F', 'I', 'L', 'L', 'E', 'R', ' ', 'F', 'I', 'R', 'S', 'T', ' ', 'F', 'O', 'R', ' ', 'F', 'R', 'O', 'M', ' ', 'G', 'I', 'V', 'I', 'N', 'G', ' ', 'G', 'L', 'O', 'B', 'A', 'L', ' ', 'G', 'O', ' ', 'G', 'R', 'E', 'A', 'T', 'E', 'R', ' ', 'H', 'I', 'G', 'H', '-', 'V', 'A', 'L', 'U', 'E', ' ', 'H', 'I', 'G', 'H', '-', 'V', 'A', 'L', 'U', 'E', 'S', ' ', 'I', '-', 'O', ' ', 'I', '-', 'O', '-', 'C', 'O', 'N', 'T', 'R', 'O', 'L', ' ', 'I', 'D', 'E', 'N', 'T', 'I', 'F', 'I', 'C', 'A', 'T', 'I', 'O', 'N', ' ', 'I', 'F', ' ', 'I', 'N', ' ', 'I', 'N', 'D', 'E', 'X', ' ', 'I', 'N', 'D', 'E', 'X', 'E', 'D', ' ', 'I', 'N', 'I', 'T', 'I', 'A', 'L', ' ', 'I', 'N', 'I', 'T', 'I', 'A', 'L', 'I', 'Z', 'E', ' ', 'I', 'N', 'P', 'U', 'T', ' ', 'I', 'N', 'P', 'U', 'T', '-', 'O', 'U', 'T', 'P', 'U', 'T', ' ', 'I', 'N', 'S', 'P', 'E', 'C', 'T', ' ', 'I', 'N', 'S', 'T', 'A', 'L', 'L', 'A', 'T', 'I', 'O', 'N', ' ', 'I', 'N', 'T', 'O', ' ', 'I', 'N', 'V', 'A', 'L', 'I', 'D', ' ', 'I', 'S', ' ', 'J', 'U', 'S', 'T', ' ', 'J', 'U', 'S', 'T', 'I', 'F', 'I', 'E', 'D', ' ', 'K', 'E', 'Y', ' ', 'L', 'A', 'B', 'E', 'L', ' ', 'L', 'E', 'A', 'D', 'I', 'N', 'G', ' ', 'L', 'E', 'F', 'T', ' ', 'L', 'E', 'S', 'S', ' ', 'L', 'I', 'N', 'E', ' ', 'L', 'I', 'N', 'E', 'S', ' ', 'L', 'I', 'N', 'K', 'A', 'G', 'E', ' ', 'L', 'O', 'C', 'K', ' ', 'L', 'O', 'W', '-', 'V', 'A', 'L', 'U', 'E', ' ', 'L', 'O', 'W', '-', 'V', 'A', 'L', 'U', 'E', 'S', ' ', 'M', 'E', 'R', 'G', 'E', ' ', 'M', 'O', 'D', 'E', ' ', 'M', 'O', 'V', 'E', ' ', 'M', 'U', 'L', 'T', 'I', 'P', 'L', 'Y', ' ', 'N', 'A', 'T', 'I', 'V', 'E', ' ', 'N', 'E', 'G', 'A', 'T', 'I', 'V', 'E', ' ', 'N', 'E', 'X', 'T', ' ', 'N', 'O', ' ', 'N', 'O', 'T', ' ', 'N', 'U', 'M', 'E', 'R', 'I', 'C', ' ', 'N', 'U', 'M', 'E', 'R', 'I', 'C', '-', 'E', 'D', 'I', 'T', 'E', 'D', ' ', 'O', 'B', 'J', 'E', 'C', 'T', '-', 'C', 'O', 'M', 'P', 'U', 'T', 'E', 'R', ' ', 'O', 'C', 'C', 'U', 'R', 'S', ' ', 'O', 'F', ' ', 'O', 'F', 'F', ' ', 'O', 'M', 'I', 'T', 'T', 'E', 'D', ' ', 'O', 'N', ' ', 'O', 'P', 'E', 'N', ' ', 'O', 'P', 'T', 'I', 'O', 'N', 'A', 'L', ' ', 'O', 'R', ' ', 'O', 'R', 'D', 'E', 'R', ' ', 'O', 'R', 'G', 'A', 'N', 'I', 'Z', 'A', 'T', 'I', 'O', 'N', ' ', 'O', 'T', 'H', 'E', 'R', ' ', 'O', 'U', 'T', 'P', 'U', 'T', ' ', 'O', 'V', 'E', 'R', 'F', 'L', 'O', 'W', ' ', 'P', 'A', 'C', 'K', 'E', 'D', '-', 'D', 'E', 'C', 'I', 'M', 'A', 'L', ' ', 'P', 'E', 'R', 'F', 'O', 'R', 'M', ' ', 'P', 'I', 'C', ' ', 'P', 'I', 'C', 'T', 'U', 'R', 'E', ' ', 'P', 'O', 'I', 'N', 'T', 'E', 'R', ' ', 'P', 'O', 'S', 'I', 'T', 'I', 'V', 'E', ' ', 'P', 'R', 'O', 'C', 'E', 'D', 'U', 'R', 'E', ' ', 'P', 'R', 'O', 'C', 'E', 'E', 'D', ' ', 'P', 'R', 'O', 'G', 'R', 'A', 'M', ' ', 'P', 'R', 'O', 'G', 'R', 'A', 'M', '-', 'I', 'D', ' ', 'Q', 'U', 'O', 'T', 'E', ' ', 'Q', 'U', 'O', 'T', 'E', 'S', ' ', 'R', 'A', 'N', 'D', 'O', 'M', ' ', 'R', 'E', 'A', 'D', ' ', 'R', 'E', 'C', 'O', 'R', 'D', ' ', 'R', 'E', 'C', 'O', 'R', 'D', 'S', ' ', 'R', 'E', 'D', 'E', 'F', 'I', 'N', 'E', 'S', ' ', 'R', 'E', 'F', 'E', 'R', 'E', 'N', 'C', 'E', ' ', 'R', 'E', 'L', 'A', 'T', 'I', 'V', 'E', ' ', 'R', 'E', 'L', 'E', 'A', 'S', 'E', ' ', 'R', 'E', 'M', 'A', 'I', 'N', 'D', 'E', 'R', ' ', 'R', 'E', 'N', 'A', 'M', 'E', 'S', ' ', 'R', 'E', 'P', 'L', 'A', 'C', 'E', ' ', 'R', 'E', 'P', 'L', 'A', 'C', 'I', 'N', 'G', ' ', 'R', 'E', 'T', 'U', 'R', 'N', ' ', 'R', 'E', 'W', 'R', 'I', 'T', 'E', ' ', 'R', 'I', 'G', 'H', 'T', ' ', 'R', 'O', 'U', 'N', 'D', 'E', 'D', ' ', 'R', 'U', 'N', ' ', 'S', 'A', 'M', 'E', ' ', 'S', 'D', ' ', 'S', 'E', 'A', 'R', 'C', 'H', ' ', 'S', 'E', 'C', 'T', 'I', 'O', 'N', ' ', 'S', 'E', 'C', 'U', 'R', 'I', 'T', 'Y', ' ', 'S', 'E', 'L', 'E', 'C', 'T', ' ', 'S', 'E', 'N', 'T', 'E', 'N', 'C', 'E', ' ', 'S', 'E', 'P', 'A', 'R', 'A', 'T', 'E', ' ', 'S', 'E', 'Q', 'U', 'E', 'N', 'T', 'I', 'A', 'L', ' ', 'S', 'E', 'T', ' ', 'S', 'I', 'G', 'N', ' ', 'S', 'I', 'Z', 'E', ' ', 'S', 'O', 'R', 'T', ' ', 'S', 'O', 'R', 'T', '-', 'M', 'E', 'R', 'G', 'E', ' ', 'S', 'O', 'U', 'R', 'C', 'E', '-', 'C', 'O', 'M', 'P', 'U', 'T', 'E', 'R', ' ', 'S', 'P', 'A', 'C', 'E', ' ', 'S', 'P', 'A', 'C', 'E', 'S', ' ', 'S', 'P', 'E', 'C', 'I', 'A', 'L', '-', 'N', 'A', 'M', 'E', 'S', ' ', 'S', 'T', 'A', 'N', 'D', 'A', 'R', 'D', ' ', 'S', 'T', 'A', 'R', 'T', ' ', 'S', 'T', 'A', 'T', 'U', 'S', ' ', 'S', 'T', 'O', 'P', ' ', 'S', 'T', 'R', 'I', 'N', 'G', ' ', 'S', 'U', 'B', 'T', 'R', 'A', 'C', 'T', ' ', 'S', 'Y', 'N', 'C', ' ', 'S', 'Y', 'N', 'C', 'H', 'R', 'O', 'N', 'I', 'Z', 'E', 'D', ' ', 'T', 'A', 'L', 'L', 'Y', 'I', 'N', 'G', ' ', 'T', 'E', 'S', 'T', ' ', 'T', 'H', 'A', 'N', ' ', 'T', 'H', 'E', 'N', ' ', 'T', 'H', 'R', 'O', 'U', 'G', 'H', ' ', 'T', 'H', 'R', 'U', ' ', 'T', 'I', 'M', 'E', 'S', ' ', 'T', 'O', ' ', 'T', 'R', 'A', 'I', 'L', 'I', 'N', 'G', ' ', 'T', 'R', 'U', 'E', ' ', 'U', 'N', 'S', 'T', 'R', 'I', 'N', 'G', ' ', 'U', 'N', 'T', 'I', 'L', ' ', 'U', 'P', ' ', 'U', 'P', 'O', 'N', ' ', 'U', 'S', 'A', 'G', 'E', ' ', 'U', 'S', 'I', 'N', 'G', ' ', 'V', 'A', 'L', 'U', 'E', ' ', 'V', 'A', 'L', 'U', 'E', 'S', ' ', 'V', 'A', 'R', 'Y', 'I', 'N', 'G', ' ', 'W', 'H', 'E', 'N', ' ', 'W', 'I', 'T', 'H', ' ', 'W', 'O', 'R', 'K', 'I', 'N', 'G', '-', 'S', 'T', 'O', 'R', 'A', 'G', 'E', ' ', 'W', 'R', 'I', 'T', 'E', ' ', 'Z', 'E', 'R', 'O', ' ', 'Z', 'E', 'R', 'O', 'E', 'S', ' ', 'Z', 'E', 'R', 'O', 'S', ' ']
noncomputable abbrev rs : String := " ACCEPT ACCESS ADD ADVANCING AFTER ALL ALPHABETIC ALPHABETIC-LOWER ALPHABETIC-UPPER ALPHANUMERIC ALPHANUMERIC-EDITED ALSO ALTERNATE AND ANY ARE AREA AREAS ASCENDING ASSIGN AT AUTHOR BEFORE BINARY BLANK BLOCK BY CALL CHARACTER CHARACTERS CLOSE COMP COMP-3 COMPUTATIONAL COMPUTATIONAL-3 COMPUTE CONFIGURATION CONTAINS CONTENT CONTINUE CONVERTING COPY CORR CORRESPONDING COUNT DATA DATE-COMPILED DATE-WRITTEN DELETE DELIMITED DELIMITER DEPENDING DESCENDING DISPLAY DIVIDE DIVISION DOWN DUPLICATES DYNAMIC ELSE END END-ADD END-CALL END-COMPUTE END-DELETE END-DIVIDE END-EVALUATE END-IF END-MULTIPLY END-PERFORM END-READ END-RETURN END-REWRITE END-SEARCH END-START END-STRING END-SUBTRACT END-UNSTRING END-WRITE ENVIRONMENT EQUAL ERROR EVALUATE EXCEPTION EXIT EXTEND EXTERNAL FALSE FD FILE FILE-CONTROL FILLER FIRST FOR FROM GIVING GLOBAL GO GREATER HIGH-VALUE HIGH-VALUES I-O I-O-CONTROL IDENTIFICATION IF IN INDEX INDEXED INITIAL INITIALIZE INPUT INPUT-OUTPUT INSPECT INSTALLATION INTO INVALID IS JUST JUSTIFIED KEY LABEL LEADING LEFT LESS LINE LINES LINKAGE LOCK LOW-VALUE LOW-VALUES MERGE MODE MOVE MULTIPLY NATIVE NEGATIVE NEXT NO NOT NUMERIC NUMERIC-EDITED OBJECT-COMPUTER OCCURS OF OFF OMITTED ON OPEN OPTIONAL OR ORDER ORGANIZATION OTHER OUTPUT OVERFLOW PACKED-DECIMAL PERFORM PIC PICTURE POINTER POSITIVE PROCEDURE PROCEED PROGRAM PROGRAM-ID QUOTE QUOTES RANDOM READ RECORD RECORDS REDEFINES REFERENCE RELATIVE RELEASE REMAINDER RENAMES REPLACE REPLACING RETURN REWRITE RIGHT ROUNDED RUN SAME SD SEARCH SECTION SECURITY SELECT SENTENCE SEPARATE SEQUENTIAL SET SIGN SIZE SORT SORT-MERGE SOURCE-COMPUTER SPACE SPACES SPECIAL-NAMES STANDARD START STATUS STOP STRING SUBTRACT SYNC SYNCHRONIZED TALLYING TEST THAN THEN THROUGH THRU TIMES TO TRAILING TRUE UNSTRING UNTIL UP UPON USAGE USING VALUE VALUES VARYING WHEN WITH WORKING-STORAGE WRITE ZERO ZEROES ZEROS "
theorem rs_eq:rs=String.ofList rl:=by kernel_rfl
theorem res_at : resB = [.Assign [.Name "RESERVED" ⟨311, 0, 311, 8⟩] (.Constant (.str (Str.ofString rs)) 0 ⟨311, 11, 311, 1873⟩) ⟨311, 0, 311, 1873⟩] := by kernel_rfl
noncomputable def okL (l:List Nat):Bool:=l.head? == some 32 && l.all fun c => !(Nat.beq c 123 || Nat.beq c 125 || Nat.beq c 46)
theorem okL_r:okL (rl.map Char.toNat)=true:=by kernel_rfl
theorem okL_s {l:List Nat} (h:okL l=true):lk0.str ⟨l.toArray⟩=true:=by
  simp only [okL,Bool.and_eq_true,beq_iff_eq] at h
  obtain ⟨h1,h2⟩:=h
  refine str_ok ?_ ?_ ?_
  · rw [← Array.getElem?_toList, ← List.head?_eq_getElem?]; exact h1
  · rw [← Bool.not_eq_true, Array.any_eq_true']
    rintro ⟨c,hc,h⟩
    have:=List.all_eq_true.mp h2 c (Array.mem_toList_iff.mpr hc)
    simp only [Bool.or_eq_true,beq_iff_eq] at h
    rcases h with rfl | rfl <;> simp at this
  · rw [← Bool.not_eq_true, Array.any_eq_true']
    rintro ⟨c,hc,h⟩
    have:=List.all_eq_true.mp h2 c (Array.mem_toList_iff.mpr hc)
    simp only [beq_iff_eq] at h
    subst h; simp at this
theorem nr_assign {n:Str} {p p2 p3:Pos} {k:Nat} {x:Str} (h:(lk0.stores [.Name n p] && lk0.name n)=true) (hs:lk0.str x=true):noRoadLSs lk0 [.Assign [.Name n p] (.Constant (.str x) k p2) p3]=true:=by
  have e:noRoadLSs lk0 [.Assign [.Name n p] (.Constant (.str x) k p2) p3]=((lk0.stores [.Name n p] && (lk0.name n && true) && lk0.str x) && true):=rfl
  rw [Bool.and_eq_true] at h
  rw [e,h.1,h.2,hs]; rfl
theorem res_road:noRoadLSs lk0 resB=true:=by
  rw [res_at]
  refine nr_assign (by kernel_rfl) ?_
  rw [rs_eq,Fast.ofString_ofList]
  exact okL_s okL_r
theorem road : noRoadLSs { strict := !(importedModules P.main.body).all cThrough.contains, foot := none, bare := (["vars", "dir", "locals"] : List Str).filter (readsOut P P.main.body) } P.main.body = true := by
  rw [bare_nil,strict_eq]
  have e1:noRoadLSs lk0 (P.main.body.take 51)=true:=by (rw [Fast.te8326940854005059898]; kernel_rfl)
  have e2:noRoadLSs lk0 (P.main.body.drop 52)=true:=by (rw [Fast.te8326940854005059898]; kernel_rfl)
  have e3:noRoadLSs lk0 resB=true:=res_road
  have:noRoadLSs lk0 P.main.body=true:=by
    rw [body_split,noRoad_append,noRoad_append,e1,e2]
    simp only [Bool.true_and,Bool.and_true]
    exact e3
  exact this
theorem looks:looksOpen P=true:=by
  unfold looksOpen
  simp only [Bool.and_eq_true]
  refine ⟨⟨⟨⟨⟨?_, ?_⟩, ?_⟩, ?_⟩,road⟩, ?_⟩ <;> (kernel_rfl)
theorem part:L.row.partSaid=true:=by
  unfold OpenRow.partSaid
  simp only [Bool.and_eq_true]
  refine ⟨⟨⟨⟨⟨⟨⟨⟨⟨⟨⟨⟨⟨looks, ?_⟩, ?_⟩, ?_⟩, ?_⟩, ?_⟩, ?_⟩, ?_⟩, ?_⟩, ?_⟩, ?_⟩, ?_⟩, ?_⟩, ?_⟩ <;> (kernel_rfl)
theorem rowSaid:L.row.wellSaid=true:=by
  unfold OpenRow.wellSaid
  simp only [Bool.and_eq_true]
  refine ⟨⟨part, ?_⟩, ?_⟩ <;> (kernel_rfl)
theorem said:L.wellSaid=true:=by
  unfold OpenLaw.wellSaid
  iterate 18 (refine look_both ?_ ?_)
  exact rowSaid
  all_goals (kernel_rfl)
end Mine
end
section
namespace Mine.H
open PySem PySem.W
noncomputable abbrev rsv : Str := " ACCEPT ACCESS ADD ADVANCING AFTER ALL ALPHABETIC ALPHABETIC-LOWER ALPHABETIC-UPPER ALPHANUMERIC ALPHANUMERIC-EDITED ALSO ALTERNATE AND ANY ARE AREA AREAS ASCENDING ASSIGN AT AUTHOR BEFORE BINARY BLANK BLOCK BY CALL CHARACTER CHARACTERS CLOSE COMP COMP-3 COMPUTATIONAL COMPUTATIONAL-3 COMPUTE CONFIGURATION CONTAINS CONTENT CONTINUE CONVERTING COPY CORR CORRESPONDING COUNT DATA DATE-COMPILED DATE-WRITTEN DELETE DELIMITED DELIMITER DEPENDING DESCENDING DISPLAY DIVIDE DIVISION DOWN DUPLICATES DYNAMIC ELSE END END-ADD END-CALL END-COMPUTE END-DELETE END-DIVIDE END-EVALUATE END-IF END-MULTIPLY END-PERFORM END-READ END-RETURN END-REWRITE END-SEARCH END-START END-STRING END-SUBTRACT END-UNSTRING END-WRITE ENVIRONMENT EQUAL ERROR EVALUATE EXCEPTION EXIT EXTEND EXTERNAL FALSE FD FILE FILE-CONTROL FILLER FIRST FOR FROM GIVING GLOBAL GO GREATER HIGH-VALUE HIGH-VALUES I-O I-O-CONTROL IDENTIFICATION IF IN INDEX INDEXED INITIAL INITIALIZE INPUT INPUT-OUTPUT INSPECT INSTALLATION INTO INVALID IS JUST JUSTIFIED KEY LABEL LEADING LEFT LESS LINE LINES LINKAGE LOCK LOW-VALUE LOW-VALUES MERGE MODE MOVE MULTIPLY NATIVE NEGATIVE NEXT NO NOT NUMERIC NUMERIC-EDITED OBJECT-COMPUTER OCCURS OF OFF OMITTED ON OPEN OPTIONAL OR ORDER ORGANIZATION OTHER OUTPUT OVERFLOW PACKED-DECIMAL PERFORM PIC PICTURE POINTER POSITIVE PROCEDURE PROCEED PROGRAM PROGRAM-ID QUOTE QUOTES RANDOM READ RECORD RECORDS REDEFINES REFERENCE RELATIVE RELEASE REMAINDER RENAMES REPLACE REPLACING RETURN REWRITE RIGHT ROUNDED RUN SAME SD SEARCH SECTION SECURITY SELECT SENTENCE SEPARATE SEQUENTIAL SET SIGN SIZE SORT SORT-MERGE SOURCE-COMPUTER SPACE SPACES SPECIAL-NAMES STANDARD START STATUS STOP STRING SUBTRACT SYNC SYNCHRONIZED TALLYING TEST THAN THEN THROUGH THRU TIMES TO TRAILING TRUE UNSTRING UNTIL UP UPON USAGE USING VALUE VALUES VARYING WHEN WITH WORKING-STORAGE WRITE ZERO ZEROES ZEROS "
abbrev P0:Program:=PySem.Challenge.pw_pc0147_02
noncomputable def stmtAt:List Stmt→List Nat→Option Stmt
  | b,[i]=>b[i]?
  | b,i :: r=>match b[i]? with | some (.ClassDef _ _ _ c _ _ _ _ _ _ _)=>stmtAt c r | _=>none
  | _,[]=>none
noncomputable def fn (l:List Nat) (q:Str):FuncData:=match stmtAt P0.main.body l with
  | some (.FunctionDef n a b _ _ _ sc _ _ _)=>{ name:=n,qualname:=q,params:=a,body := .stmts b,scope:=sc,globals:=0,closure:=[],defaults := .none,kwdefaults := .none }
  | _=>{ name:=q,qualname:=q,params:=⟨[],[],none,[],[],none,[]⟩,body := .stmts [],scope:=⟨.function,[],false,false,[]⟩,globals:=0,closure:=[],defaults := .none,kwdefaults := .none }
noncomputable def de (P:Params) (k:Str) (t:Nat) (v:Value):DictEntry:={ hash:=PyData.keyHash P k,key := .str k t,val:=v }
noncomputable def tp (l : Array Value) : Obj := { cls := .type "tuple", data := .seq l }
noncomputable def fl (l:Array Value):Obj:={ cls := .none,data := .fields l }
noncomputable def cd (l : Array Value) : Obj := { cls := .type "code", data := .fields l }
noncomputable def f0 (l:List Nat) (q:Str):Obj:={ cls := .none,data := .func (fn l q) }
noncomputable def f1 (l : List Nat) (q : Str) (m : Value) (c : Nat) : Obj := { cls := .type "function", data := .func { fn l q with globals := 3, pyModule := m, code := .ref c } }
noncomputable def split (l:List Obj):List Obj × List Obj:=l.foldr (fun x p=>(x :: p.2,p.1)) ([],[])
noncomputable def treeOf:Nat→List Obj→BT
  | 0,_ => .nil
  | _ + 1,[] => .nil
  | n + 1,x :: r => .node x (treeOf n (split r).1) (treeOf n (split r).2)
noncomputable def F0 (P:Params):List Obj:=[boot_o_0 P,
  boot_o_1 P,
  { cls := .none, data := Data.dict #[de P "type.__subclasses__.Exception.0" 232 (.int 47 0), de P "type.__subclasses__.Exception.n" 233 (.int 1 0)] 2 },
  { cls := .type "dict", data := Data.dict #[de P "__name__" 165 (.str "law_pc0147_02" 1036), de P "__doc__" 166 .none, de P "__package__" 167 .none, de P "__loader__" 168 (.builtin "__main__.__loader__#opaque"), de P "__spec__" 169 .none, de P "__annotations__" 170 (.ref 6), de P "__builtins__" 171 (.ref 4), de P "__file__" 173 (.str "/claim/cut.py" 172), de P "__cached__" 174 .none, de P "_wall" 193 (.ref 21), de P "LedgerError" 235 (.ref 47), de P "TokenFault" 251 (.ref 60), de P "GrammarFault" 267 (.ref 72), de P "FIGURES" 271 (.str "0123456789" 270), de P "cut_quotient" 279 (.ref 81), de P "decimal" 288 (.ref 89), de P "negated" 295 (.ref 96), de P "units_at" 306 (.ref 103), de P "is_whole" 313 (.ref 110), de P "whole_of" 320 (.ref 117), de P "worth_of" 329 (.ref 124), de P "read_decimal" 342 (.ref 131), de P "MOST_SUBSCRIPTS" 346 (.int 7 345), de P "FIGURE_NAMES" 380 (.ref 132), de P "is_part_next" 389 (.ref 139), de P "read_subscripts" 398 (.ref 146), de P "read_part" 408 (.ref 153), de P "read_ref" 420 (.ref 160), de P "read_all" 428 (.ref 167), de P "read_figure" 435 (.ref 174), de P "read_operand" 444 (.ref 181), de P "MOST_DEEP_expressions" 448 (.int 20 447), de P "read_expression" 455 (.ref 188), de P "sign_among" 464 (.ref 195), de P "read_sum" 474 (.ref 202), de P "read_product" 484 (.ref 209), de P "read_factor" 495 (.ref 216), de P "is_lone_number" 504 (.ref 223), de P "read_power" 513 (.ref 230), de P "read_primary" 523 (.ref 237), de P "MOST_DEEP_conditions" 527 (.int 20 526), de P "OPPOSITES" 546 (.ref 238), de P "CLASSES" 551 (.ref 239), de P "WORDS_OF_SIGNS" 567 (.ref 240), de P "WORDS_OF_RELATIONS" 577 (.ref 241), de P "RELATIONS" 583 (.ref 242), de P "word_here" 593 (.ref 250), de P "is_relation_at" 602 (.ref 257), de P "place_of_word" 610 (.ref 264), de P "is_predicate_here" 619 (.ref 271), de P "is_bare_relation_here" 626 (.ref 278), de P "ConditionReader" 754 (.ref 372), de P "read_condition" 763 (.ref 384), de P "MOST_OCTET" 767 (.int 255 766), de P "RESERVED" 769 (.str rsv 768), de P "is_reserved" 776 (.ref 391), de P "octets_of_text" 782 (.ref 396), de P "Reader" 989 (.ref 565), de P "Token" 1035 (.ref 595), de P "_law_spelled" 1083 (.ref 630), de P "_law_others" 1111 (.ref 640), de P "_law_turned" 1117 (.ref 647), de P "_law_draw" 1129 (.ref 654), de P "_law_pen" 1136 (.ref 661), de P "_law_reader" 1147 (.ref 668), de P "_law_ref" 1154 (.ref 675), de P "_law_told" 1170 (.ref 682), de P "_law_heard" 1180 (.ref 689), de P "law" 1195 (.ref 696)] 69 },
  boot_o_4 P,
  boot_o_5 P,
  boot_o_6 P,
  boot_o_7 P,
  boot_o_8 P,
  boot_o_9 P,
  boot_o_10 P,
  tp #[],
  fl #[.int 1 0, .int 0 0, .ref 20, .int 5 0, .int 0 0, .ref 27, .int 14 0, .int 0 0, .ref 56, .int 16 0, .int 0 0, .ref 68, .int 20 0, .int 0 0, .ref 80, .int 24 0, .int 0 0, .ref 88, .int 31 0, .int 0 0, .ref 95, .int 33 0, .int 0 0, .ref 102, .int 41 0, .int 0 0, .ref 109, .int 43 0, .int 0 0, .ref 116, .int 45 0, .int 0 0, .ref 123, .int 50 0, .int 0 0, .ref 130, .int 68 0, .int 0 0, .ref 138, .int 81 0, .int 0 0, .ref 145, .int 89 0, .int 0 0, .ref 152, .int 96 0, .int 0 0, .ref 159, .int 106 0, .int 0 0, .ref 166, .int 113 0, .int 0 0, .ref 173, .int 117 0, .int 0 0, .ref 180, .int 128 0, .int 0 0, .ref 187, .int 130 0, .int 0 0, .ref 194, .int 135 0, .int 0 0, .ref 201, .int 143 0, .int 0 0, .ref 208, .int 149 0, .int 0 0, .ref 215, .int 159 0, .int 0 0, .ref 222, .int 164 0, .int 0 0, .ref 229, .int 170 0, .int 0 0, .ref 236, .int 185 0, .int 0 0, .ref 249, .int 188 0, .int 0 0, .ref 256, .int 193 0, .int 0 0, .ref 263, .int 196 0, .int 0 0, .ref 270, .int 200 0, .int 0 0, .ref 277, .int 202 0, .int 0 0, .ref 284, .int 305 0, .int 0 0, .ref 383, .int 312 0, .int 0 0, .ref 390, .int 314 0, .int 0 0, .ref 395, .int 319 0, .int 0 0, .ref 402, .int 442 0, .int 0 0, .ref 575, .int 455 0, .int 0 0, .ref 646, .int 457 0, .int 0 0, .ref 653, .int 472 0, .int 0 0, .ref 660, .int 474 0, .int 0 0, .ref 667, .int 480 0, .int 0 0, .ref 674, .int 482 0, .int 0 0, .ref 681, .int 492 0, .int 0 0, .ref 688, .int 499 0, .int 0 0, .ref 695],
  cd #[.str "<module>" 182, .str "<module>" 183, .str "/claim/cut.py" 184, .int 1 0, .int 0 0, .int 0 0, .int 0 0, .int 0 0, .ref 11, .bool false, .int 181 0, .ref 12, .none, .none, .none, .none, .int 185 0, .int 1 0, .str "/claim/cut.py" 186],
  { cls := .type "frame", slots := #[some (.ref 13), some (.ref 3), some (.ref 3), none, some (.str "__main__" 164), none, some (.ref 0)] },
  tp #[],
  fl #[],
  tp #[.str "k" 190],
  tp #[],
  f0 [0] "_wall",
  cd #[.str "_wall" 187, .str "_wall" 188, .str "/claim/cut.py" 189, .int 1 0, .int 1 0, .int 0 0, .int 0 0, .int 3 0, .ref 15, .bool true, .int 181 0, .ref 16, .none, .ref 17, .ref 18, .ref 19, .int 191 0, .int 1 0, .str "/claim/cut.py" 192],
  f1 [0] "_wall" (.str "__main__" 164) 20,
  tp #[.type "Exception"],
  { cls := .type "builtin_function_or_method", data := Data.fields #[.builtin "type.__prepare__", .type "type"] },
  { cls := .type "dict", data := Data.dict #[de P "__module__" 203 (.str "ledgerspeak.errors" 194), de P "__qualname__" 205 (.str "LedgerError" 204), de P "__firstlineno__" 207 (.int 5 206), de P "__init__" 218 (.ref 37), de P "told" 225 (.ref 44), de P "__static_attributes__" 228 (.ref 45)] 6 },
  tp #[],
  fl #[.int 7 0, .int 4 0, .ref 36, .int 12 0, .int 4 0, .ref 43],
  cd #[.str "LedgerError" 198, .str "LedgerError" 199, .str "/claim/cut.py" 200, .int 5 0, .int 0 0, .int 0 0, .int 0 0, .int 0 0, .ref 25, .bool false, .int 181 0, .ref 26, .none, .none, .none, .none, .int 201 0, .int 5 0, .str "/claim/cut.py" 202],
  { cls := .type "frame", slots := #[some (.ref 27), some (.ref 3), some (.ref 24), none, some (.str "ledgerspeak.errors" 194), none, some (.ref 0)] },
  tp #[.int 0 208, .int 0 209],
  tp #[.ref 29],
  tp #[],
  fl #[],
  tp #[.str "self" 213, .str "what" 214, .str "at" 215],
  tp #[],
  f0 [2, 0] "LedgerError.__init__",
  cd #[.str "__init__" 210, .str "LedgerError.__init__" 211, .str "/claim/cut.py" 212, .int 7 0, .int 3 0, .int 0 0, .int 0 0, .int 3 0, .ref 31, .bool true, .int 181 0, .ref 32, .none, .ref 33, .ref 34, .ref 35, .int 216 0, .int 7 0, .str "/claim/cut.py" 217],
  { cls := .type "function", data := .func { fn [2, 0] "LedgerError.__init__" with globals := 3, defaults := .ref 30, kwdefaults := .none, pyModule := .str "ledgerspeak.errors" 194, code := .ref 36 } },
  tp #[],
  fl #[],
  tp #[.str "self" 222],
  tp #[],
  f0 [2, 1] "LedgerError.told",
  cd #[.str "told" 219, .str "LedgerError.told" 220, .str "/claim/cut.py" 221, .int 12 0, .int 1 0, .int 0 0, .int 0 0, .int 3 0, .ref 38, .bool true, .int 181 0, .ref 39, .none, .ref 40, .ref 41, .ref 42, .int 223 0, .int 12 0, .str "/claim/cut.py" 224],
  f1 [2, 1] "LedgerError.told" (.str "ledgerspeak.errors" 194) 43,
  tp #[.str "at" 226, .str "what" 227],
  { cls := .type "dict", data := Data.dict #[de P "__module__" 203 (.str "ledgerspeak.errors" 194), de P "__firstlineno__" 207 (.int 5 206), de P "__init__" 218 (.ref 37), de P "told" 225 (.ref 44), de P "__static_attributes__" 228 (.ref 45), de P "__weakref__" 230 (.ref 48), de P "__doc__" 231 .none] 3 },
  { cls := .type "type", data := Data.cls { name := "LedgerError", bases := [.type "Exception"], mro := [.ref 47, .type "Exception", .type "BaseException", .type "object"], ns := 46, qualname := "LedgerError", subclasses := [.ref 60, .ref 72] }, slots := #[some (.ref 22), none, some (.str "LedgerError" 196), some (.str "LedgerError" 204), some (.builtin "Exception.__new__"), some (.bool true)] },
  { cls := .type "getset_descriptor", data := Data.fields #[.str "__weakref__" 229, .ref 47, .builtin "ExceptionGroup.__weakref__", .none] },
  { cls := .type "super", data := Data.fields #[.ref 47, .ref 47, .ref 47] },
  { cls := .type "builtin_function_or_method", data := Data.fields #[.builtin "object.__init_subclass__", .ref 47] },
  tp #[.ref 47],
  { cls := .type "builtin_function_or_method", data := Data.fields #[.builtin "type.__prepare__", .type "type"] },
  { cls := .type "dict", data := Data.dict #[de P "__module__" 243 (.str "ledgerspeak.errors" 194), de P "__qualname__" 245 (.str "TokenFault" 244), de P "__firstlineno__" 247 (.int 14 246), de P "__static_attributes__" 248 (.ref 58)] 4 },
  tp #[],
  fl #[],
  cd #[.str "TokenFault" 238, .str "TokenFault" 239, .str "/claim/cut.py" 240, .int 14 0, .int 0 0, .int 0 0, .int 0 0, .int 0 0, .ref 54, .bool false, .int 181 0, .ref 55, .none, .none, .none, .none, .int 241 0, .int 14 0, .str "/claim/cut.py" 242],
  { cls := .type "frame", slots := #[some (.ref 56), some (.ref 3), some (.ref 53), none, some (.str "ledgerspeak.errors" 194), none, some (.ref 0)] },
  tp #[],
  { cls := .type "dict", data := Data.dict #[de P "__module__" 243 (.str "ledgerspeak.errors" 194), de P "__firstlineno__" 247 (.int 14 246), de P "__static_attributes__" 248 (.ref 58), de P "__doc__" 249 .none] 2 }]
noncomputable def F1 (P : Params) : List Obj := [{ cls := .type "type", data := Data.cls { name := "TokenFault", bases := [.ref 47], mro := [.ref 60, .ref 47, .type "Exception", .type "BaseException", .type "object"], ns := 59, qualname := "TokenFault" }, slots := #[some (.ref 51), none, some (.str "TokenFault" 236), some (.str "TokenFault" 244), some (.builtin "Exception.__new__"), some (.bool true)] },
  { cls := .type "super", data := Data.fields #[.ref 60, .ref 60, .ref 60] },
  { cls := .type "builtin_function_or_method", data := Data.fields #[.builtin "object.__init_subclass__", .ref 60] },
  tp #[.ref 47],
  { cls := .type "builtin_function_or_method", data := Data.fields #[.builtin "type.__prepare__", .type "type"] },
  { cls := .type "dict", data := Data.dict #[de P "__module__" 259 (.str "ledgerspeak.errors" 194), de P "__qualname__" 261 (.str "GrammarFault" 260), de P "__firstlineno__" 263 (.int 16 262), de P "__static_attributes__" 264 (.ref 70)] 4 },
  tp #[],
  fl #[],
  cd #[.str "GrammarFault" 254, .str "GrammarFault" 255, .str "/claim/cut.py" 256, .int 16 0, .int 0 0, .int 0 0, .int 0 0, .int 0 0, .ref 66, .bool false, .int 181 0, .ref 67, .none, .none, .none, .none, .int 257 0, .int 16 0, .str "/claim/cut.py" 258],
  { cls := .type "frame", slots := #[some (.ref 68), some (.ref 3), some (.ref 65), none, some (.str "ledgerspeak.errors" 194), none, some (.ref 0)] },
  tp #[],
  { cls := .type "dict", data := Data.dict #[de P "__module__" 259 (.str "ledgerspeak.errors" 194), de P "__firstlineno__" 263 (.int 16 262), de P "__static_attributes__" 264 (.ref 70), de P "__doc__" 265 .none] 2 },
  { cls := .type "type", data := Data.cls { name := "GrammarFault", bases := [.ref 47], mro := [.ref 72, .ref 47, .type "Exception", .type "BaseException", .type "object"], ns := 71, qualname := "GrammarFault" }, slots := #[some (.ref 63), none, some (.str "GrammarFault" 252), some (.str "GrammarFault" 260), some (.builtin "Exception.__new__"), some (.bool true)] },
  { cls := .type "super", data := Data.fields #[.ref 72, .ref 72, .ref 72] },
  { cls := .type "builtin_function_or_method", data := Data.fields #[.builtin "object.__init_subclass__", .ref 72] },
  tp #[],
  fl #[],
  tp #[.str "top" 275, .str "bottom" 276],
  tp #[],
  f0 [7] "cut_quotient",
  cd #[.str "cut_quotient" 272, .str "cut_quotient" 273, .str "/claim/cut.py" 274, .int 20 0, .int 2 0, .int 0 0, .int 0 0, .int 3 0, .ref 75, .bool true, .int 181 0, .ref 76, .none, .ref 77, .ref 78, .ref 79, .int 277 0, .int 20 0, .str "/claim/cut.py" 278],
  f1 [7] "cut_quotient" (.str "ledgerspeak.decimals" 268) 80,
  tp #[.int 0 280],
  tp #[],
  fl #[],
  tp #[.str "units" 284, .str "scale" 285],
  tp #[],
  f0 [8] "decimal",
  cd #[.str "decimal" 281, .str "decimal" 282, .str "/claim/cut.py" 283, .int 24 0, .int 2 0, .int 0 0, .int 0 0, .int 3 0, .ref 83, .bool true, .int 181 0, .ref 84, .none, .ref 85, .ref 86, .ref 87, .int 286 0, .int 24 0, .str "/claim/cut.py" 287],
  { cls := .type "function", data := .func { fn [8] "decimal" with globals := 3, defaults := .ref 82, kwdefaults := .none, pyModule := .str "ledgerspeak.decimals" 268, code := .ref 88 } },
  tp #[],
  fl #[],
  tp #[.str "a" 292],
  tp #[],
  f0 [9] "negated",
  cd #[.str "negated" 289, .str "negated" 290, .str "/claim/cut.py" 291, .int 31 0, .int 1 0, .int 0 0, .int 0 0, .int 3 0, .ref 90, .bool true, .int 181 0, .ref 91, .none, .ref 92, .ref 93, .ref 94, .int 293 0, .int 31 0, .str "/claim/cut.py" 294],
  f1 [9] "negated" (.str "ledgerspeak.decimals" 268) 95,
  tp #[],
  fl #[],
  tp #[.str "a" 299, .str "scale" 300, .str "is_rounded" 301, .str "size" 302, .str "half" 303],
  tp #[],
  f0 [10] "units_at",
  cd #[.str "units_at" 296, .str "units_at" 297, .str "/claim/cut.py" 298, .int 33 0, .int 3 0, .int 0 0, .int 0 0, .int 3 0, .ref 97, .bool true, .int 181 0, .ref 98, .none, .ref 99, .ref 100, .ref 101, .int 304 0, .int 33 0, .str "/claim/cut.py" 305],
  f1 [10] "units_at" (.str "ledgerspeak.decimals" 268) 102,
  tp #[],
  fl #[],
  tp #[.str "a" 310],
  tp #[],
  f0 [11] "is_whole",
  cd #[.str "is_whole" 307, .str "is_whole" 308, .str "/claim/cut.py" 309, .int 41 0, .int 1 0, .int 0 0, .int 0 0, .int 3 0, .ref 104, .bool true, .int 181 0, .ref 105, .none, .ref 106, .ref 107, .ref 108, .int 311 0, .int 41 0, .str "/claim/cut.py" 312],
  f1 [11] "is_whole" (.str "ledgerspeak.decimals" 268) 109,
  tp #[],
  fl #[],
  tp #[.str "a" 317],
  tp #[],
  f0 [12] "whole_of",
  cd #[.str "whole_of" 314, .str "whole_of" 315, .str "/claim/cut.py" 316, .int 43 0, .int 1 0, .int 0 0, .int 0 0, .int 3 0, .ref 111, .bool true, .int 181 0, .ref 112, .none, .ref 113, .ref 114, .ref 115, .int 318 0, .int 43 0, .str "/claim/cut.py" 319],
  f1 [12] "whole_of" (.str "ledgerspeak.decimals" 268) 116,
  tp #[],
  fl #[]]
noncomputable def F2 (P : Params) : List Obj := [tp #[.str "figures" 324, .str "number" 325, .str "figure" 326],
  tp #[],
  f0 [13] "worth_of",
  cd #[.str "worth_of" 321, .str "worth_of" 322, .str "/claim/cut.py" 323, .int 45 0, .int 1 0, .int 0 0, .int 0 0, .int 3 0, .ref 118, .bool true, .int 181 0, .ref 119, .none, .ref 120, .ref 121, .ref 122, .int 327 0, .int 45 0, .str "/claim/cut.py" 328],
  f1 [13] "worth_of" (.str "ledgerspeak.decimals" 268) 123,
  tp #[],
  fl #[],
  tp #[.str "text" 333, .str "begin" 334, .str "ahead" 335, .str "behind" 336, .str "point" 337, .str "at" 338, .str "units" 339],
  tp #[],
  f0 [14] "read_decimal",
  cd #[.str "read_decimal" 330, .str "read_decimal" 331, .str "/claim/cut.py" 332, .int 50 0, .int 1 0, .int 0 0, .int 0 0, .int 3 0, .ref 125, .bool true, .int 181 0, .ref 126, .none, .ref 127, .ref 128, .ref 129, .int 340 0, .int 50 0, .str "/claim/cut.py" 341],
  f1 [14] "read_decimal" (.str "ledgerspeak.decimals" 268) 130,
  { cls := .type "dict", data := Data.dict #[de P "ZERO" 347 (.str "ZERO" 348), de P "ZEROS" 349 (.str "ZERO" 350), de P "ZEROES" 351 (.str "ZERO" 352), de P "SPACE" 353 (.str "SPACE" 354), de P "SPACES" 355 (.str "SPACE" 356), de P "HIGH-VALUE" 357 (.str "HIGH" 358), de P "HIGH-VALUES" 359 (.str "HIGH" 360), de P "LOW-VALUE" 361 (.str "LOW" 362), de P "LOW-VALUES" 363 (.str "LOW" 364), de P "QUOTE" 365 (.str "QUOTE" 366), de P "QUOTES" 367 (.str "QUOTE" 368)] 11 },
  tp #[],
  fl #[],
  tp #[.str "reader" 384, .str "depth" 385, .str "ahead" 386],
  tp #[],
  f0 [18] "is_part_next",
  cd #[.str "is_part_next" 381, .str "is_part_next" 382, .str "/claim/cut.py" 383, .int 68 0, .int 1 0, .int 0 0, .int 0 0, .int 3 0, .ref 133, .bool true, .int 181 0, .ref 134, .none, .ref 135, .ref 136, .ref 137, .int 387 0, .int 68 0, .str "/claim/cut.py" 388],
  f1 [18] "is_part_next" (.str "ledgerspeak.references" 343) 138,
  tp #[],
  fl #[],
  tp #[.str "reader" 393, .str "read_expr" 394, .str "found" 395],
  tp #[],
  f0 [19] "read_subscripts",
  cd #[.str "read_subscripts" 390, .str "read_subscripts" 391, .str "/claim/cut.py" 392, .int 81 0, .int 2 0, .int 0 0, .int 0 0, .int 3 0, .ref 140, .bool true, .int 181 0, .ref 141, .none, .ref 142, .ref 143, .ref 144, .int 396 0, .int 81 0, .str "/claim/cut.py" 397],
  f1 [19] "read_subscripts" (.str "ledgerspeak.references" 343) 145,
  tp #[],
  fl #[],
  tp #[.str "reader" 402, .str "read_expr" 403, .str "begin" 404, .str "length" 405],
  tp #[],
  f0 [20] "read_part",
  cd #[.str "read_part" 399, .str "read_part" 400, .str "/claim/cut.py" 401, .int 89 0, .int 2 0, .int 0 0, .int 0 0, .int 3 0, .ref 147, .bool true, .int 181 0, .ref 148, .none, .ref 149, .ref 150, .ref 151, .int 406 0, .int 89 0, .str "/claim/cut.py" 407],
  f1 [20] "read_part" (.str "ledgerspeak.references" 343) 152,
  tp #[],
  fl #[],
  tp #[.str "reader" 412, .str "read_expr" 413, .str "name" 414, .str "qualifiers" 415, .str "subscripts" 416, .str "part" 417],
  tp #[],
  f0 [21] "read_ref",
  cd #[.str "read_ref" 409, .str "read_ref" 410, .str "/claim/cut.py" 411, .int 96 0, .int 2 0, .int 0 0, .int 0 0, .int 3 0, .ref 154, .bool true, .int 181 0, .ref 155, .none, .ref 156, .ref 157, .ref 158, .int 418 0, .int 96 0, .str "/claim/cut.py" 419],
  f1 [21] "read_ref" (.str "ledgerspeak.references" 343) 159,
  tp #[],
  fl #[],
  tp #[.str "reader" 424, .str "figure" 425],
  tp #[],
  f0 [22] "read_all",
  cd #[.str "read_all" 421, .str "read_all" 422, .str "/claim/cut.py" 423, .int 106 0, .int 1 0, .int 0 0, .int 0 0, .int 3 0, .ref 161, .bool true, .int 181 0, .ref 162, .none, .ref 163, .ref 164, .ref 165, .int 426 0, .int 106 0, .str "/claim/cut.py" 427],
  f1 [22] "read_all" (.str "ledgerspeak.references" 343) 166,
  tp #[],
  fl #[],
  tp #[.str "reader" 432],
  tp #[],
  f0 [23] "read_figure",
  cd #[.str "read_figure" 429, .str "read_figure" 430, .str "/claim/cut.py" 431, .int 113 0, .int 1 0, .int 0 0, .int 0 0, .int 3 0, .ref 168, .bool true, .int 181 0, .ref 169, .none, .ref 170, .ref 171, .ref 172, .int 433 0, .int 113 0, .str "/claim/cut.py" 434],
  f1 [23] "read_figure" (.str "ledgerspeak.references" 343) 173,
  tp #[],
  fl #[],
  tp #[.str "reader" 439, .str "read_expr" 440, .str "figure" 441],
  tp #[],
  f0 [24] "read_operand"]
noncomputable def F3 (P : Params) : List Obj := [cd #[.str "read_operand" 436, .str "read_operand" 437, .str "/claim/cut.py" 438, .int 117 0, .int 2 0, .int 0 0, .int 0 0, .int 3 0, .ref 175, .bool true, .int 181 0, .ref 176, .none, .ref 177, .ref 178, .ref 179, .int 442 0, .int 117 0, .str "/claim/cut.py" 443],
  f1 [24] "read_operand" (.str "ledgerspeak.references" 343) 180,
  tp #[],
  fl #[],
  tp #[.str "reader" 452],
  tp #[],
  f0 [27] "read_expression",
  cd #[.str "read_expression" 449, .str "read_expression" 450, .str "/claim/cut.py" 451, .int 128 0, .int 1 0, .int 0 0, .int 0 0, .int 3 0, .ref 182, .bool true, .int 181 0, .ref 183, .none, .ref 184, .ref 185, .ref 186, .int 453 0, .int 128 0, .str "/claim/cut.py" 454],
  f1 [27] "read_expression" (.str "ledgerspeak.expressions" 445) 187,
  tp #[],
  fl #[],
  tp #[.str "reader" 459, .str "signs" 460, .str "token" 461],
  tp #[],
  f0 [28] "sign_among",
  cd #[.str "sign_among" 456, .str "sign_among" 457, .str "/claim/cut.py" 458, .int 130 0, .int 2 0, .int 0 0, .int 0 0, .int 3 0, .ref 189, .bool true, .int 181 0, .ref 190, .none, .ref 191, .ref 192, .ref 193, .int 462 0, .int 130 0, .str "/claim/cut.py" 463],
  f1 [28] "sign_among" (.str "ledgerspeak.expressions" 445) 194,
  tp #[],
  fl #[],
  tp #[.str "reader" 468, .str "depth" 469, .str "found" 470, .str "sign" 471],
  tp #[],
  f0 [29] "read_sum",
  cd #[.str "read_sum" 465, .str "read_sum" 466, .str "/claim/cut.py" 467, .int 135 0, .int 2 0, .int 0 0, .int 0 0, .int 3 0, .ref 196, .bool true, .int 181 0, .ref 197, .none, .ref 198, .ref 199, .ref 200, .int 472 0, .int 135 0, .str "/claim/cut.py" 473],
  f1 [29] "read_sum" (.str "ledgerspeak.expressions" 445) 201,
  tp #[],
  fl #[],
  tp #[.str "reader" 478, .str "depth" 479, .str "found" 480, .str "sign" 481],
  tp #[],
  f0 [30] "read_product",
  cd #[.str "read_product" 475, .str "read_product" 476, .str "/claim/cut.py" 477, .int 143 0, .int 2 0, .int 0 0, .int 0 0, .int 3 0, .ref 203, .bool true, .int 181 0, .ref 204, .none, .ref 205, .ref 206, .ref 207, .int 482 0, .int 143 0, .str "/claim/cut.py" 483],
  f1 [30] "read_product" (.str "ledgerspeak.expressions" 445) 208,
  tp #[],
  fl #[],
  tp #[.str "reader" 488, .str "depth" 489, .str "sign" 490, .str "is_own" 491, .str "found" 492],
  tp #[],
  f0 [31] "read_factor",
  cd #[.str "read_factor" 485, .str "read_factor" 486, .str "/claim/cut.py" 487, .int 149 0, .int 2 0, .int 0 0, .int 0 0, .int 3 0, .ref 210, .bool true, .int 181 0, .ref 211, .none, .ref 212, .ref 213, .ref 214, .int 493 0, .int 149 0, .str "/claim/cut.py" 494],
  f1 [31] "read_factor" (.str "ledgerspeak.expressions" 445) 215,
  tp #[],
  fl #[],
  tp #[.str "reader" 499, .str "token" 500, .str "behind" 501],
  tp #[],
  f0 [32] "is_lone_number",
  cd #[.str "is_lone_number" 496, .str "is_lone_number" 497, .str "/claim/cut.py" 498, .int 159 0, .int 1 0, .int 0 0, .int 0 0, .int 3 0, .ref 217, .bool true, .int 181 0, .ref 218, .none, .ref 219, .ref 220, .ref 221, .int 502 0, .int 159 0, .str "/claim/cut.py" 503],
  f1 [32] "is_lone_number" (.str "ledgerspeak.expressions" 445) 222,
  tp #[],
  fl #[],
  tp #[.str "reader" 508, .str "depth" 509, .str "found" 510],
  tp #[],
  f0 [33] "read_power",
  cd #[.str "read_power" 505, .str "read_power" 506, .str "/claim/cut.py" 507, .int 164 0, .int 2 0, .int 0 0, .int 0 0, .int 3 0, .ref 224, .bool true, .int 181 0, .ref 225, .none, .ref 226, .ref 227, .ref 228, .int 511 0, .int 164 0, .str "/claim/cut.py" 512],
  f1 [33] "read_power" (.str "ledgerspeak.expressions" 445) 229,
  tp #[],
  fl #[],
  tp #[.str "reader" 517, .str "depth" 518, .str "found" 519],
  tp #[.str "depth" 520],
  f0 [34] "read_primary",
  cd #[.str "read_primary" 514, .str "read_primary" 515, .str "/claim/cut.py" 516, .int 170 0, .int 2 0, .int 0 0, .int 0 0, .int 3 0, .ref 231, .bool true, .int 181 0, .ref 232, .none, .ref 233, .ref 234, .ref 235, .int 521 0, .int 170 0, .str "/claim/cut.py" 522],
  f1 [34] "read_primary" (.str "ledgerspeak.expressions" 445) 236,
  { cls := .type "dict", data := Data.dict #[de P "=" 528 (.str "<>" 529), de P "<>" 530 (.str "=" 531), de P "<" 532 (.str ">=" 533), de P ">=" 534 (.str "<" 535), de P ">" 536 (.str "<=" 537), de P "<=" 538 (.str ">" 539)] 6 },
  tp #[.str "NUMERIC" 547, .str "ALPHABETIC" 548, .str "ALPHABETIC-LOWER" 549, .str "ALPHABETIC-UPPER" 550]]
noncomputable def F4 (P : Params) : List Obj := [{ cls := .type "dict", data := Data.dict #[de P "POSITIVE" 552 (.str "POSITIVE" 553), de P "NEGATIVE" 554 (.str "NEGATIVE" 555), de P "ZERO" 556 (.str "ZERO" 557), de P "ZEROS" 558 (.str "ZERO" 559), de P "ZEROES" 560 (.str "ZERO" 561)] 5 },
  { cls := .type "dict", data := Data.dict #[de P "GREATER" 568 (.str ">" 569), de P "LESS" 570 (.str "<" 571), de P "EQUAL" 572 (.str "=" 573)] 3 },
  tp #[.str "=" 578, .str "<" 579, .str ">" 580, .str "<=" 581, .str ">=" 582],
  tp #[.int 0 584],
  tp #[],
  fl #[],
  tp #[.str "reader" 588, .str "ahead" 589, .str "token" 590],
  tp #[],
  f0 [42] "word_here",
  cd #[.str "word_here" 585, .str "word_here" 586, .str "/claim/cut.py" 587, .int 185 0, .int 2 0, .int 0 0, .int 0 0, .int 3 0, .ref 244, .bool true, .int 181 0, .ref 245, .none, .ref 246, .ref 247, .ref 248, .int 591 0, .int 185 0, .str "/claim/cut.py" 592],
  { cls := .type "function", data := .func { fn [42] "word_here" with globals := 3, defaults := .ref 243, kwdefaults := .none, pyModule := .str "ledgerspeak.conditions" 524, code := .ref 249 } },
  tp #[],
  fl #[],
  tp #[.str "reader" 597, .str "ahead" 598, .str "token" 599],
  tp #[],
  f0 [43] "is_relation_at",
  cd #[.str "is_relation_at" 594, .str "is_relation_at" 595, .str "/claim/cut.py" 596, .int 188 0, .int 2 0, .int 0 0, .int 0 0, .int 3 0, .ref 251, .bool true, .int 181 0, .ref 252, .none, .ref 253, .ref 254, .ref 255, .int 600 0, .int 188 0, .str "/claim/cut.py" 601],
  f1 [43] "is_relation_at" (.str "ledgerspeak.conditions" 524) 256,
  tp #[],
  fl #[],
  tp #[.str "reader" 606, .str "ahead" 607],
  tp #[],
  f0 [44] "place_of_word",
  cd #[.str "place_of_word" 603, .str "place_of_word" 604, .str "/claim/cut.py" 605, .int 193 0, .int 1 0, .int 0 0, .int 0 0, .int 3 0, .ref 258, .bool true, .int 181 0, .ref 259, .none, .ref 260, .ref 261, .ref 262, .int 608 0, .int 193 0, .str "/claim/cut.py" 609],
  f1 [44] "place_of_word" (.str "ledgerspeak.conditions" 524) 263,
  tp #[],
  fl #[],
  tp #[.str "reader" 614, .str "ahead" 615, .str "word" 616],
  tp #[],
  f0 [45] "is_predicate_here",
  cd #[.str "is_predicate_here" 611, .str "is_predicate_here" 612, .str "/claim/cut.py" 613, .int 196 0, .int 1 0, .int 0 0, .int 0 0, .int 3 0, .ref 265, .bool true, .int 181 0, .ref 266, .none, .ref 267, .ref 268, .ref 269, .int 617 0, .int 196 0, .str "/claim/cut.py" 618],
  f1 [45] "is_predicate_here" (.str "ledgerspeak.conditions" 524) 270,
  tp #[],
  fl #[],
  tp #[.str "reader" 623],
  tp #[],
  f0 [46] "is_bare_relation_here",
  cd #[.str "is_bare_relation_here" 620, .str "is_bare_relation_here" 621, .str "/claim/cut.py" 622, .int 200 0, .int 1 0, .int 0 0, .int 0 0, .int 3 0, .ref 272, .bool true, .int 181 0, .ref 273, .none, .ref 274, .ref 275, .ref 276, .int 624 0, .int 200 0, .str "/claim/cut.py" 625],
  f1 [46] "is_bare_relation_here" (.str "ledgerspeak.conditions" 524) 277,
  tp #[],
  { cls := .type "builtin_function_or_method", data := Data.fields #[.builtin "type.__prepare__", .type "type"] },
  { cls := .type "dict", data := Data.dict #[de P "__module__" 634 (.str "ledgerspeak.conditions" 524), de P "__qualname__" 636 (.str "ConditionReader" 635), de P "__firstlineno__" 638 (.int 202 637), de P "__init__" 648 (.ref 292), de P "either" 656 (.ref 299), de P "both" 664 (.ref 306), de P "turned" 671 (.ref 313), de P "single" 682 (.ref 320), de P "unbracketed" 690 (.ref 327), de P "in_brackets" 698 (.ref 334), de P "subject_of_last" 705 (.ref 341), de P "sign_of_last" 712 (.ref 348), de P "predicate" 723 (.ref 355), de P "relation" 733 (.ref 362), de P "sign_here" 742 (.ref 369), de P "__static_attributes__" 747 (.ref 370)] 16 },
  tp #[],
  fl #[.int 204 0, .int 4 0, .ref 291, .int 210 0, .int 4 0, .ref 298, .int 216 0, .int 4 0, .ref 305, .int 222 0, .int 4 0, .ref 312, .int 228 0, .int 4 0, .ref 319, .int 242 0, .int 4 0, .ref 326, .int 253 0, .int 4 0, .ref 333, .int 262 0, .int 4 0, .ref 340, .int 267 0, .int 4 0, .ref 347, .int 272 0, .int 4 0, .ref 354, .int 286 0, .int 4 0, .ref 361, .int 293 0, .int 4 0, .ref 368],
  cd #[.str "ConditionReader" 629, .str "ConditionReader" 630, .str "/claim/cut.py" 631, .int 202 0, .int 0 0, .int 0 0, .int 0 0, .int 0 0, .ref 282, .bool false, .int 181 0, .ref 283, .none, .none, .none, .none, .int 632 0, .int 202 0, .str "/claim/cut.py" 633],
  { cls := .type "frame", slots := #[some (.ref 284), some (.ref 3), some (.ref 281), none, some (.str "ledgerspeak.conditions" 524), none, some (.ref 0)] },
  tp #[],
  fl #[],
  tp #[.str "self" 642, .str "reader" 643, .str "is_named" 644, .str "depth" 645],
  tp #[],
  f0 [47, 0] "ConditionReader.__init__",
  cd #[.str "__init__" 639, .str "ConditionReader.__init__" 640, .str "/claim/cut.py" 641, .int 204 0, .int 4 0, .int 0 0, .int 0 0, .int 3 0, .ref 286, .bool true, .int 181 0, .ref 287, .none, .ref 288, .ref 289, .ref 290, .int 646 0, .int 204 0, .str "/claim/cut.py" 647],
  f1 [47, 0] "ConditionReader.__init__" (.str "ledgerspeak.conditions" 524) 291,
  tp #[],
  fl #[],
  tp #[.str "self" 652, .str "found" 653],
  tp #[],
  f0 [47, 1] "ConditionReader.either",
  cd #[.str "either" 649, .str "ConditionReader.either" 650, .str "/claim/cut.py" 651, .int 210 0, .int 1 0, .int 0 0, .int 0 0, .int 3 0, .ref 293, .bool true, .int 181 0, .ref 294, .none, .ref 295, .ref 296, .ref 297, .int 654 0, .int 210 0, .str "/claim/cut.py" 655],
  f1 [47, 1] "ConditionReader.either" (.str "ledgerspeak.conditions" 524) 298]
noncomputable def F5 (P:Params):List Obj:=[tp #[],
  fl #[],
  tp #[.str "self" 660, .str "found" 661],
  tp #[],
  f0 [47, 2] "ConditionReader.both",
  cd #[.str "both" 657, .str "ConditionReader.both" 658, .str "/claim/cut.py" 659, .int 216 0, .int 1 0, .int 0 0, .int 0 0, .int 3 0, .ref 300, .bool true, .int 181 0, .ref 301, .none, .ref 302, .ref 303, .ref 304, .int 662 0, .int 216 0, .str "/claim/cut.py" 663],
  f1 [47, 2] "ConditionReader.both" (.str "ledgerspeak.conditions" 524) 305,
  tp #[],
  fl #[],
  tp #[.str "self" 668],
  tp #[],
  f0 [47, 3] "ConditionReader.turned",
  cd #[.str "turned" 665, .str "ConditionReader.turned" 666, .str "/claim/cut.py" 667, .int 222 0, .int 1 0, .int 0 0, .int 0 0, .int 3 0, .ref 307, .bool true, .int 181 0, .ref 308, .none, .ref 309, .ref 310, .ref 311, .int 669 0, .int 222 0, .str "/claim/cut.py" 670],
  f1 [47, 3] "ConditionReader.turned" (.str "ledgerspeak.conditions" 524) 312,
  tp #[],
  fl #[],
  tp #[.str "self" 675, .str "start" 676, .str "error" 677, .str "elder" 678, .str "far" 679],
  tp #[],
  f0 [47, 4] "ConditionReader.single",
  cd #[.str "single" 672, .str "ConditionReader.single" 673, .str "/claim/cut.py" 674, .int 228 0, .int 1 0, .int 0 0, .int 0 0, .int 3 0, .ref 314, .bool true, .int 181 0, .ref 315, .none, .ref 316, .ref 317, .ref 318, .int 680 0, .int 228 0, .str "/claim/cut.py" 681],
  f1 [47, 4] "ConditionReader.single" (.str "ledgerspeak.conditions" 524) 319,
  tp #[],
  fl #[],
  tp #[.str "self" 686, .str "subject" 687],
  tp #[],
  f0 [47, 5] "ConditionReader.unbracketed",
  cd #[.str "unbracketed" 683, .str "ConditionReader.unbracketed" 684, .str "/claim/cut.py" 685, .int 242 0, .int 1 0, .int 0 0, .int 0 0, .int 3 0, .ref 321, .bool true, .int 181 0, .ref 322, .none, .ref 323, .ref 324, .ref 325, .int 688 0, .int 242 0, .str "/claim/cut.py" 689],
  f1 [47, 5] "ConditionReader.unbracketed" (.str "ledgerspeak.conditions" 524) 326,
  tp #[],
  fl #[],
  tp #[.str "self" 694, .str "found" 695],
  tp #[],
  f0 [47, 6] "ConditionReader.in_brackets",
  cd #[.str "in_brackets" 691, .str "ConditionReader.in_brackets" 692, .str "/claim/cut.py" 693, .int 253 0, .int 1 0, .int 0 0, .int 0 0, .int 3 0, .ref 328, .bool true, .int 181 0, .ref 329, .none, .ref 330, .ref 331, .ref 332, .int 696 0, .int 253 0, .str "/claim/cut.py" 697],
  f1 [47, 6] "ConditionReader.in_brackets" (.str "ledgerspeak.conditions" 524) 333,
  tp #[],
  fl #[],
  tp #[.str "self" 702],
  tp #[],
  f0 [47, 7] "ConditionReader.subject_of_last",
  cd #[.str "subject_of_last" 699, .str "ConditionReader.subject_of_last" 700, .str "/claim/cut.py" 701, .int 262 0, .int 1 0, .int 0 0, .int 0 0, .int 3 0, .ref 335, .bool true, .int 181 0, .ref 336, .none, .ref 337, .ref 338, .ref 339, .int 703 0, .int 262 0, .str "/claim/cut.py" 704],
  f1 [47, 7] "ConditionReader.subject_of_last" (.str "ledgerspeak.conditions" 524) 340,
  tp #[],
  fl #[],
  tp #[.str "self" 709],
  tp #[],
  f0 [47, 8] "ConditionReader.sign_of_last",
  cd #[.str "sign_of_last" 706, .str "ConditionReader.sign_of_last" 707, .str "/claim/cut.py" 708, .int 267 0, .int 1 0, .int 0 0, .int 0 0, .int 3 0, .ref 342, .bool true, .int 181 0, .ref 343, .none, .ref 344, .ref 345, .ref 346, .int 710 0, .int 267 0, .str "/claim/cut.py" 711],
  f1 [47, 8] "ConditionReader.sign_of_last" (.str "ledgerspeak.conditions" 524) 347,
  tp #[],
  fl #[],
  tp #[.str "self" 716, .str "subject" 717, .str "word" 718, .str "is_not" 719, .str "found" 720],
  tp #[],
  f0 [47, 9] "ConditionReader.predicate",
  cd #[.str "predicate" 713, .str "ConditionReader.predicate" 714, .str "/claim/cut.py" 715, .int 272 0, .int 2 0, .int 0 0, .int 0 0, .int 3 0, .ref 349, .bool true, .int 181 0, .ref 350, .none, .ref 351, .ref 352, .ref 353, .int 721 0, .int 272 0, .str "/claim/cut.py" 722],
  f1 [47, 9] "ConditionReader.predicate" (.str "ledgerspeak.conditions" 524) 354,
  tp #[],
  fl #[],
  tp #[.str "self" 727, .str "subject" 728, .str "is_not" 729, .str "sign" 730],
  tp #[]]
noncomputable def F6 (P : Params) : List Obj := [f0 [47, 10] "ConditionReader.relation",
  cd #[.str "relation" 724, .str "ConditionReader.relation" 725, .str "/claim/cut.py" 726, .int 286 0, .int 2 0, .int 0 0, .int 0 0, .int 3 0, .ref 356, .bool true, .int 181 0, .ref 357, .none, .ref 358, .ref 359, .ref 360, .int 731 0, .int 286 0, .str "/claim/cut.py" 732],
  f1 [47, 10] "ConditionReader.relation" (.str "ledgerspeak.conditions" 524) 361,
  tp #[],
  fl #[],
  tp #[.str "self" 737, .str "token" 738, .str "sign" 739],
  tp #[],
  f0 [47, 11] "ConditionReader.sign_here",
  cd #[.str "sign_here" 734, .str "ConditionReader.sign_here" 735, .str "/claim/cut.py" 736, .int 293 0, .int 1 0, .int 0 0, .int 0 0, .int 3 0, .ref 363, .bool true, .int 181 0, .ref 364, .none, .ref 365, .ref 366, .ref 367, .int 740 0, .int 293 0, .str "/claim/cut.py" 741],
  f1 [47, 11] "ConditionReader.sign_here" (.str "ledgerspeak.conditions" 524) 368,
  tp #[.str "depth" 743, .str "is_named" 744, .str "last" 745, .str "reader" 746],
  { cls := .type "dict", data := Data.dict #[de P "__module__" 634 (.str "ledgerspeak.conditions" 524), de P "__firstlineno__" 638 (.int 202 637), de P "__init__" 648 (.ref 292), de P "either" 656 (.ref 299), de P "both" 664 (.ref 306), de P "turned" 671 (.ref 313), de P "single" 682 (.ref 320), de P "unbracketed" 690 (.ref 327), de P "in_brackets" 698 (.ref 334), de P "subject_of_last" 705 (.ref 341), de P "sign_of_last" 712 (.ref 348), de P "predicate" 723 (.ref 355), de P "relation" 733 (.ref 362), de P "sign_here" 742 (.ref 369), de P "__static_attributes__" 747 (.ref 370), de P "__dict__" 749 (.ref 373), de P "__weakref__" 751 (.ref 374), de P "__doc__" 752 .none] 4 },
  { cls := .type "type", data := Data.cls { name := "ConditionReader", bases := [.type "object"], mro := [.ref 372, .type "object"], ns := 371, qualname := "ConditionReader" }, slots := #[none, none, some (.str "ConditionReader" 627), some (.str "ConditionReader" 635), some (.builtin "object.__new__"), some (.bool true)] },
  { cls := .type "getset_descriptor", data := Data.fields #[.str "__dict__" 748, .ref 372, .builtin "function.__dict__", .builtin "function.__dict__#set"] },
  { cls := .type "getset_descriptor", data := Data.fields #[.str "__weakref__" 750, .ref 372, .builtin "ExceptionGroup.__weakref__", .none] },
  { cls := .type "super", data := Data.fields #[.ref 372, .ref 372, .ref 372] },
  { cls := .type "builtin_function_or_method", data := Data.fields #[.builtin "object.__init_subclass__", .ref 372] },
  tp #[.none],
  tp #[],
  fl #[],
  tp #[.str "reader" 758, .str "is_named" 759],
  tp #[.str "reader" 760],
  f0 [48] "read_condition",
  cd #[.str "read_condition" 755, .str "read_condition" 756, .str "/claim/cut.py" 757, .int 305 0, .int 2 0, .int 0 0, .int 0 0, .int 3 0, .ref 378, .bool true, .int 181 0, .ref 379, .none, .ref 380, .ref 381, .ref 382, .int 761 0, .int 305 0, .str "/claim/cut.py" 762],
  { cls := .type "function", data := .func { fn [48] "read_condition" with globals := 3, defaults := .ref 377, kwdefaults := .none, pyModule := .str "ledgerspeak.conditions" 524, code := .ref 383 } },
  tp #[],
  fl #[],
  tp #[.str "word" 773],
  tp #[],
  f0 [52] "is_reserved",
  cd #[.str "is_reserved" 770, .str "is_reserved" 771, .str "/claim/cut.py" 772, .int 312 0, .int 1 0, .int 0 0, .int 0 0, .int 3 0, .ref 385, .bool true, .int 181 0, .ref 386, .none, .ref 387, .ref 388, .ref 389, .int 774 0, .int 312 0, .str "/claim/cut.py" 775],
  f1 [52] "is_reserved" (.str "ledgerspeak.reader" 764) 390,
  tp #[],
  fl #[],
  f0 [53] "octets_of_text",
  cd #[.str "octets_of_text" 777, .str "octets_of_text" 778, .str "/claim/cut.py" 779, .int 314 0, .int 1 0, .int 0 0, .int 0 0, .int 3 0, .ref 392, .bool true, .int 181 0, .ref 393, .none, .none, .none, .ref 394, .int 780 0, .int 314 0, .str "/claim/cut.py" 781],
  f1 [53] "octets_of_text" (.str "ledgerspeak.reader" 764) 395,
  tp #[],
  { cls := .type "builtin_function_or_method", data := Data.fields #[.builtin "type.__prepare__", .type "type"] },
  { cls := .type "dict", data := Data.dict #[de P "__module__" 790 (.str "ledgerspeak.reader" 764), de P "__qualname__" 792 (.str "Reader" 791), de P "__firstlineno__" 794 (.int 319 793), de P "__init__" 804 (.ref 411), de P "peek" 813 (.ref 419), de P "is_done" 820 (.ref 426), de P "fault" 828 (.ref 433), de P "take" 836 (.ref 440), de P "is_kind" 847 (.ref 448), de P "is_word" 857 (.ref 455), de P "skip" 865 (.ref 462), de P "need" 873 (.ref 469), de P "one_of" 882 (.ref 476), de P "word" 889 (.ref 483), de P "is_name" 898 (.ref 491), de P "name" 905 (.ref 498), de P "names" 913 (.ref 505), de P "is_sign" 923 (.ref 513), de P "skip_sign" 931 (.ref 520), de P "need_sign" 939 (.ref 527), de P "is_number" 946 (.ref 534), de P "signed" 955 (.ref 541), de P "whole" 963 (.ref 548), de P "literal" 970 (.ref 555), de P "octets" 978 (.ref 562), de P "__static_attributes__" 982 (.ref 563)] 26 },
  tp #[],
  fl #[.int 321 0, .int 4 0, .ref 410, .int 326 0, .int 4 0, .ref 418, .int 331 0, .int 4 0, .ref 425, .int 334 0, .int 4 0, .ref 432, .int 339 0, .int 4 0, .ref 439, .int 346 0, .int 4 0, .ref 447, .int 350 0, .int 4 0, .ref 454, .int 358 0, .int 4 0, .ref 461, .int 364 0, .int 4 0, .ref 468, .int 367 0, .int 4 0, .ref 475, .int 373 0, .int 4 0, .ref 482, .int 378 0, .int 4 0, .ref 490, .int 381 0, .int 4 0, .ref 497, .int 386 0, .int 4 0, .ref 504, .int 392 0, .int 4 0, .ref 512, .int 395 0, .int 4 0, .ref 519, .int 401 0, .int 4 0, .ref 526, .int 405 0, .int 4 0, .ref 533, .int 410 0, .int 4 0, .ref 540, .int 419 0, .int 4 0, .ref 547, .int 428 0, .int 4 0, .ref 554, .int 433 0, .int 4 0, .ref 561],
  cd #[.str "Reader" 785, .str "Reader" 786, .str "/claim/cut.py" 787, .int 319 0, .int 0 0, .int 0 0, .int 0 0, .int 0 0, .ref 400, .bool false, .int 181 0, .ref 401, .none, .none, .none, .none, .int 788 0, .int 319 0, .str "/claim/cut.py" 789],
  { cls := .type "frame", slots := #[some (.ref 402), some (.ref 3), some (.ref 399), none, some (.str "ledgerspeak.reader" 764), none, some (.ref 0)] },
  tp #[.int 0 795],
  tp #[],
  fl #[],
  tp #[.str "self" 799, .str "tokens" 800, .str "at" 801],
  tp #[],
  f0 [54, 0] "Reader.__init__",
  cd #[.str "__init__" 796, .str "Reader.__init__" 797, .str "/claim/cut.py" 798, .int 321 0, .int 3 0, .int 0 0, .int 0 0, .int 3 0, .ref 405, .bool true, .int 181 0, .ref 406, .none, .ref 407, .ref 408, .ref 409, .int 802 0, .int 321 0, .str "/claim/cut.py" 803],
  { cls := .type "function", data := .func { fn [54, 0] "Reader.__init__" with globals := 3, defaults := .ref 404, kwdefaults := .none, pyModule := .str "ledgerspeak.reader" 764, code := .ref 410 } },
  tp #[.int 0 805],
  tp #[],
  fl #[],
  tp #[.str "self" 809, .str "ahead" 810],
  tp #[],
  f0 [54, 1] "Reader.peek",
  cd #[.str "peek" 806, .str "Reader.peek" 807, .str "/claim/cut.py" 808, .int 326 0, .int 2 0, .int 0 0, .int 0 0, .int 3 0, .ref 413, .bool true, .int 181 0, .ref 414, .none, .ref 415, .ref 416, .ref 417, .int 811 0, .int 326 0, .str "/claim/cut.py" 812],
  { cls := .type "function", data := .func { fn [54, 1] "Reader.peek" with globals := 3, defaults := .ref 412, kwdefaults := .none, pyModule := .str "ledgerspeak.reader" 764, code := .ref 418 } }]
noncomputable def F7 (P:Params):List Obj:=[tp #[],
  fl #[],
  tp #[.str "self" 817],
  tp #[],
  f0 [54, 2] "Reader.is_done",
  cd #[.str "is_done" 814, .str "Reader.is_done" 815, .str "/claim/cut.py" 816, .int 331 0, .int 1 0, .int 0 0, .int 0 0, .int 3 0, .ref 420, .bool true, .int 181 0, .ref 421, .none, .ref 422, .ref 423, .ref 424, .int 818 0, .int 331 0, .str "/claim/cut.py" 819],
  f1 [54, 2] "Reader.is_done" (.str "ledgerspeak.reader" 764) 425,
  tp #[],
  fl #[],
  tp #[.str "self" 824, .str "what" 825],
  tp #[],
  f0 [54, 3] "Reader.fault",
  cd #[.str "fault" 821, .str "Reader.fault" 822, .str "/claim/cut.py" 823, .int 334 0, .int 2 0, .int 0 0, .int 0 0, .int 3 0, .ref 427, .bool true, .int 181 0, .ref 428, .none, .ref 429, .ref 430, .ref 431, .int 826 0, .int 334 0, .str "/claim/cut.py" 827],
  f1 [54, 3] "Reader.fault" (.str "ledgerspeak.reader" 764) 432,
  tp #[],
  fl #[],
  tp #[.str "self" 832, .str "token" 833],
  tp #[],
  f0 [54, 4] "Reader.take",
  cd #[.str "take" 829, .str "Reader.take" 830, .str "/claim/cut.py" 831, .int 339 0, .int 1 0, .int 0 0, .int 0 0, .int 3 0, .ref 434, .bool true, .int 181 0, .ref 435, .none, .ref 436, .ref 437, .ref 438, .int 834 0, .int 339 0, .str "/claim/cut.py" 835],
  f1 [54, 4] "Reader.take" (.str "ledgerspeak.reader" 764) 439,
  tp #[.int 0 837],
  tp #[],
  fl #[],
  tp #[.str "self" 841, .str "kind" 842, .str "ahead" 843, .str "token" 844],
  tp #[],
  f0 [54, 5] "Reader.is_kind",
  cd #[.str "is_kind" 838, .str "Reader.is_kind" 839, .str "/claim/cut.py" 840, .int 346 0, .int 3 0, .int 0 0, .int 0 0, .int 3 0, .ref 442, .bool true, .int 181 0, .ref 443, .none, .ref 444, .ref 445, .ref 446, .int 845 0, .int 346 0, .str "/claim/cut.py" 846],
  { cls := .type "function", data := .func { fn [54, 5] "Reader.is_kind" with globals := 3, defaults := .ref 441, kwdefaults := .none, pyModule := .str "ledgerspeak.reader" 764, code := .ref 447 } },
  tp #[],
  fl #[],
  tp #[.str "self" 851, .str "words" 852, .str "ahead" 853, .str "word" 854],
  tp #[],
  f0 [54, 6] "Reader.is_word",
  cd #[.str "is_word" 848, .str "Reader.is_word" 849, .str "/claim/cut.py" 850, .int 350 0, .int 2 0, .int 0 0, .int 0 0, .int 3 0, .ref 449, .bool true, .int 181 0, .ref 450, .none, .ref 451, .ref 452, .ref 453, .int 855 0, .int 350 0, .str "/claim/cut.py" 856],
  f1 [54, 6] "Reader.is_word" (.str "ledgerspeak.reader" 764) 454,
  tp #[],
  fl #[],
  tp #[.str "self" 861, .str "words" 862],
  tp #[],
  f0 [54, 7] "Reader.skip",
  cd #[.str "skip" 858, .str "Reader.skip" 859, .str "/claim/cut.py" 860, .int 358 0, .int 2 0, .int 0 0, .int 0 0, .int 3 0, .ref 456, .bool true, .int 181 0, .ref 457, .none, .ref 458, .ref 459, .ref 460, .int 863 0, .int 358 0, .str "/claim/cut.py" 864],
  f1 [54, 7] "Reader.skip" (.str "ledgerspeak.reader" 764) 461,
  tp #[],
  fl #[],
  tp #[.str "self" 869, .str "words" 870],
  tp #[],
  f0 [54, 8] "Reader.need",
  cd #[.str "need" 866, .str "Reader.need" 867, .str "/claim/cut.py" 868, .int 364 0, .int 2 0, .int 0 0, .int 0 0, .int 3 0, .ref 463, .bool true, .int 181 0, .ref 464, .none, .ref 465, .ref 466, .ref 467, .int 871 0, .int 364 0, .str "/claim/cut.py" 872],
  f1 [54, 8] "Reader.need" (.str "ledgerspeak.reader" 764) 468,
  tp #[],
  fl #[],
  tp #[.str "self" 877, .str "words" 878, .str "word" 879],
  tp #[],
  f0 [54, 9] "Reader.one_of",
  cd #[.str "one_of" 874, .str "Reader.one_of" 875, .str "/claim/cut.py" 876, .int 367 0, .int 2 0, .int 0 0, .int 0 0, .int 3 0, .ref 470, .bool true, .int 181 0, .ref 471, .none, .ref 472, .ref 473, .ref 474, .int 880 0, .int 367 0, .str "/claim/cut.py" 881],
  f1 [54, 9] "Reader.one_of" (.str "ledgerspeak.reader" 764) 475,
  tp #[],
  fl #[],
  tp #[.str "self" 886]]
noncomputable def F8 (P:Params):List Obj:=[tp #[],
  f0 [54, 10] "Reader.word",
  cd #[.str "word" 883, .str "Reader.word" 884, .str "/claim/cut.py" 885, .int 373 0, .int 1 0, .int 0 0, .int 0 0, .int 3 0, .ref 477, .bool true, .int 181 0, .ref 478, .none, .ref 479, .ref 480, .ref 481, .int 887 0, .int 373 0, .str "/claim/cut.py" 888],
  f1 [54, 10] "Reader.word" (.str "ledgerspeak.reader" 764) 482,
  tp #[.int 0 890],
  tp #[],
  fl #[],
  tp #[.str "self" 894, .str "ahead" 895],
  tp #[],
  f0 [54, 11] "Reader.is_name",
  cd #[.str "is_name" 891, .str "Reader.is_name" 892, .str "/claim/cut.py" 893, .int 378 0, .int 2 0, .int 0 0, .int 0 0, .int 3 0, .ref 485, .bool true, .int 181 0, .ref 486, .none, .ref 487, .ref 488, .ref 489, .int 896 0, .int 378 0, .str "/claim/cut.py" 897],
  { cls := .type "function", data := .func { fn [54, 11] "Reader.is_name" with globals := 3, defaults := .ref 484, kwdefaults := .none, pyModule := .str "ledgerspeak.reader" 764, code := .ref 490 } },
  tp #[],
  fl #[],
  tp #[.str "self" 902],
  tp #[],
  f0 [54, 12] "Reader.name",
  cd #[.str "name" 899, .str "Reader.name" 900, .str "/claim/cut.py" 901, .int 381 0, .int 1 0, .int 0 0, .int 0 0, .int 3 0, .ref 492, .bool true, .int 181 0, .ref 493, .none, .ref 494, .ref 495, .ref 496, .int 903 0, .int 381 0, .str "/claim/cut.py" 904],
  f1 [54, 12] "Reader.name" (.str "ledgerspeak.reader" 764) 497,
  tp #[],
  fl #[],
  tp #[.str "self" 909, .str "found" 910],
  tp #[],
  f0 [54, 13] "Reader.names",
  cd #[.str "names" 906, .str "Reader.names" 907, .str "/claim/cut.py" 908, .int 386 0, .int 1 0, .int 0 0, .int 0 0, .int 3 0, .ref 499, .bool true, .int 181 0, .ref 500, .none, .ref 501, .ref 502, .ref 503, .int 911 0, .int 386 0, .str "/claim/cut.py" 912],
  f1 [54, 13] "Reader.names" (.str "ledgerspeak.reader" 764) 504,
  tp #[.int 0 914],
  tp #[],
  fl #[],
  tp #[.str "self" 918, .str "sign" 919, .str "ahead" 920],
  tp #[],
  f0 [54, 14] "Reader.is_sign",
  cd #[.str "is_sign" 915, .str "Reader.is_sign" 916, .str "/claim/cut.py" 917, .int 392 0, .int 3 0, .int 0 0, .int 0 0, .int 3 0, .ref 507, .bool true, .int 181 0, .ref 508, .none, .ref 509, .ref 510, .ref 511, .int 921 0, .int 392 0, .str "/claim/cut.py" 922],
  { cls := .type "function", data := .func { fn [54, 14] "Reader.is_sign" with globals := 3, defaults := .ref 506, kwdefaults := .none, pyModule := .str "ledgerspeak.reader" 764, code := .ref 512 } },
  tp #[],
  fl #[],
  tp #[.str "self" 927, .str "sign" 928],
  tp #[],
  f0 [54, 15] "Reader.skip_sign",
  cd #[.str "skip_sign" 924, .str "Reader.skip_sign" 925, .str "/claim/cut.py" 926, .int 395 0, .int 2 0, .int 0 0, .int 0 0, .int 3 0, .ref 514, .bool true, .int 181 0, .ref 515, .none, .ref 516, .ref 517, .ref 518, .int 929 0, .int 395 0, .str "/claim/cut.py" 930],
  f1 [54, 15] "Reader.skip_sign" (.str "ledgerspeak.reader" 764) 519,
  tp #[],
  fl #[],
  tp #[.str "self" 935, .str "sign" 936],
  tp #[],
  f0 [54, 16] "Reader.need_sign",
  cd #[.str "need_sign" 932, .str "Reader.need_sign" 933, .str "/claim/cut.py" 934, .int 401 0, .int 2 0, .int 0 0, .int 0 0, .int 3 0, .ref 521, .bool true, .int 181 0, .ref 522, .none, .ref 523, .ref 524, .ref 525, .int 937 0, .int 401 0, .str "/claim/cut.py" 938],
  f1 [54, 16] "Reader.need_sign" (.str "ledgerspeak.reader" 764) 526,
  tp #[],
  fl #[],
  tp #[.str "self" 943],
  tp #[],
  f0 [54, 17] "Reader.is_number",
  cd #[.str "is_number" 940, .str "Reader.is_number" 941, .str "/claim/cut.py" 942, .int 405 0, .int 1 0, .int 0 0, .int 0 0, .int 3 0, .ref 528, .bool true, .int 181 0, .ref 529, .none, .ref 530, .ref 531, .ref 532, .int 944 0, .int 405 0, .str "/claim/cut.py" 945],
  f1 [54, 17] "Reader.is_number" (.str "ledgerspeak.reader" 764) 533,
  tp #[],
  fl #[],
  tp #[.str "self" 950, .str "is_below" 951, .str "found" 952],
  tp #[],
  f0 [54, 18] "Reader.signed"]
noncomputable def F9 (P : Params) : List Obj := [cd #[.str "signed" 947, .str "Reader.signed" 948, .str "/claim/cut.py" 949, .int 410 0, .int 1 0, .int 0 0, .int 0 0, .int 3 0, .ref 535, .bool true, .int 181 0, .ref 536, .none, .ref 537, .ref 538, .ref 539, .int 953 0, .int 410 0, .str "/claim/cut.py" 954],
  f1 [54, 18] "Reader.signed" (.str "ledgerspeak.reader" 764) 540,
  tp #[],
  fl #[],
  tp #[.str "self" 959, .str "found" 960],
  tp #[],
  f0 [54, 19] "Reader.whole",
  cd #[.str "whole" 956, .str "Reader.whole" 957, .str "/claim/cut.py" 958, .int 419 0, .int 1 0, .int 0 0, .int 0 0, .int 3 0, .ref 542, .bool true, .int 181 0, .ref 543, .none, .ref 544, .ref 545, .ref 546, .int 961 0, .int 419 0, .str "/claim/cut.py" 962],
  f1 [54, 19] "Reader.whole" (.str "ledgerspeak.reader" 764) 547,
  tp #[],
  fl #[],
  tp #[.str "self" 967],
  tp #[],
  f0 [54, 20] "Reader.literal",
  cd #[.str "literal" 964, .str "Reader.literal" 965, .str "/claim/cut.py" 966, .int 428 0, .int 1 0, .int 0 0, .int 0 0, .int 3 0, .ref 549, .bool true, .int 181 0, .ref 550, .none, .ref 551, .ref 552, .ref 553, .int 968 0, .int 428 0, .str "/claim/cut.py" 969],
  f1 [54, 20] "Reader.literal" (.str "ledgerspeak.reader" 764) 554,
  tp #[],
  fl #[],
  tp #[.str "self" 974, .str "found" 975],
  tp #[],
  f0 [54, 21] "Reader.octets",
  cd #[.str "octets" 971, .str "Reader.octets" 972, .str "/claim/cut.py" 973, .int 433 0, .int 1 0, .int 0 0, .int 0 0, .int 3 0, .ref 556, .bool true, .int 181 0, .ref 557, .none, .ref 558, .ref 559, .ref 560, .int 976 0, .int 433 0, .str "/claim/cut.py" 977],
  f1 [54, 21] "Reader.octets" (.str "ledgerspeak.reader" 764) 561,
  tp #[.str "at" 979, .str "named" 980, .str "tokens" 981],
  { cls := .type "dict", data := Data.dict #[de P "__module__" 790 (.str "ledgerspeak.reader" 764), de P "__firstlineno__" 794 (.int 319 793), de P "__init__" 804 (.ref 411), de P "peek" 813 (.ref 419), de P "is_done" 820 (.ref 426), de P "fault" 828 (.ref 433), de P "take" 836 (.ref 440), de P "is_kind" 847 (.ref 448), de P "is_word" 857 (.ref 455), de P "skip" 865 (.ref 462), de P "need" 873 (.ref 469), de P "one_of" 882 (.ref 476), de P "word" 889 (.ref 483), de P "is_name" 898 (.ref 491), de P "name" 905 (.ref 498), de P "names" 913 (.ref 505), de P "is_sign" 923 (.ref 513), de P "skip_sign" 931 (.ref 520), de P "need_sign" 939 (.ref 527), de P "is_number" 946 (.ref 534), de P "signed" 955 (.ref 541), de P "whole" 963 (.ref 548), de P "literal" 970 (.ref 555), de P "octets" 978 (.ref 562), de P "__static_attributes__" 982 (.ref 563), de P "__dict__" 984 (.ref 566), de P "__weakref__" 986 (.ref 567), de P "__doc__" 987 .none] 4 },
  { cls := .type "type", data := Data.cls { name := "Reader", bases := [.type "object"], mro := [.ref 565, .type "object"], ns := 564, qualname := "Reader" }, slots := #[none, none, some (.str "Reader" 783), some (.str "Reader" 791), some (.builtin "object.__new__"), some (.bool true)] },
  { cls := .type "getset_descriptor", data := Data.fields #[.str "__dict__" 983, .ref 565, .builtin "function.__dict__", .builtin "function.__dict__#set"] },
  { cls := .type "getset_descriptor", data := Data.fields #[.str "__weakref__" 985, .ref 565, .builtin "ExceptionGroup.__weakref__", .none] },
  { cls := .type "super", data := Data.fields #[.ref 565, .ref 565, .ref 565] },
  { cls := .type "builtin_function_or_method", data := Data.fields #[.builtin "object.__init_subclass__", .ref 565] },
  tp #[],
  { cls := .type "builtin_function_or_method", data := Data.fields #[.builtin "type.__prepare__", .type "type"] },
  { cls := .type "dict", data := Data.dict #[de P "__module__" 999 (.str "ledgerspeak.tokens" 990), de P "__qualname__" 1001 (.str "Token" 1000), de P "__firstlineno__" 1003 (.int 442 1002), de P "__init__" 1016 (.ref 585), de P "told" 1023 (.ref 592), de P "__static_attributes__" 1028 (.ref 593)] 6 },
  tp #[],
  fl #[.int 444 0, .int 4 0, .ref 584, .int 450 0, .int 4 0, .ref 591],
  cd #[.str "Token" 994, .str "Token" 995, .str "/claim/cut.py" 996, .int 442 0, .int 0 0, .int 0 0, .int 0 0, .int 0 0, .ref 573, .bool false, .int 181 0, .ref 574, .none, .none, .none, .none, .int 997 0, .int 442 0, .str "/claim/cut.py" 998],
  { cls := .type "frame", slots := #[some (.ref 575), some (.ref 3), some (.ref 572), none, some (.str "ledgerspeak.tokens" 990), none, some (.ref 0)] },
  tp #[.int 0 1004, .int 0 1005],
  tp #[.ref 577, .bool false],
  tp #[],
  fl #[],
  tp #[.str "self" 1009, .str "kind" 1010, .str "worth" 1011, .str "at" 1012, .str "is_in_a" 1013],
  tp #[],
  f0 [56, 0] "Token.__init__",
  cd #[.str "__init__" 1006, .str "Token.__init__" 1007, .str "/claim/cut.py" 1008, .int 444 0, .int 5 0, .int 0 0, .int 0 0, .int 3 0, .ref 579, .bool true, .int 181 0, .ref 580, .none, .ref 581, .ref 582, .ref 583, .int 1014 0, .int 444 0, .str "/claim/cut.py" 1015],
  { cls := .type "function", data := .func { fn [56, 0] "Token.__init__" with globals := 3, defaults := .ref 578, kwdefaults := .none, pyModule := .str "ledgerspeak.tokens" 990, code := .ref 584 } },
  tp #[],
  fl #[],
  tp #[.str "self" 1020],
  tp #[],
  f0 [56, 1] "Token.told",
  cd #[.str "told" 1017, .str "Token.told" 1018, .str "/claim/cut.py" 1019, .int 450 0, .int 1 0, .int 0 0, .int 0 0, .int 3 0, .ref 586, .bool true, .int 181 0, .ref 587, .none, .ref 588, .ref 589, .ref 590, .int 1021 0, .int 450 0, .str "/claim/cut.py" 1022],
  f1 [56, 1] "Token.told" (.str "ledgerspeak.tokens" 990) 591,
  tp #[.str "at" 1024, .str "is_in_a" 1025, .str "kind" 1026, .str "worth" 1027],
  { cls := .type "dict", data := Data.dict #[de P "__module__" 999 (.str "ledgerspeak.tokens" 990), de P "__firstlineno__" 1003 (.int 442 1002), de P "__init__" 1016 (.ref 585), de P "told" 1023 (.ref 592), de P "__static_attributes__" 1028 (.ref 593), de P "__dict__" 1030 (.ref 596), de P "__weakref__" 1032 (.ref 597), de P "__doc__" 1033 .none] 4 },
  { cls := .type "type", data := Data.cls { name := "Token", bases := [.type "object"], mro := [.ref 595, .type "object"], ns := 594, qualname := "Token" }, slots := #[none, none, some (.str "Token" 992), some (.str "Token" 1000), some (.builtin "object.__new__"), some (.bool true)] },
  { cls := .type "getset_descriptor", data := Data.fields #[.str "__dict__" 1029, .ref 595, .builtin "function.__dict__", .builtin "function.__dict__#set"] },
  { cls := .type "getset_descriptor", data := Data.fields #[.str "__weakref__" 1031, .ref 595, .builtin "ExceptionGroup.__weakref__", .none] },
  { cls := .type "super", data := Data.fields #[.ref 595, .ref 595, .ref 595] },
  { cls := .type "builtin_function_or_method", data := Data.fields #[.builtin "object.__init_subclass__", .ref 595] }]
noncomputable def F10 (P : Params) : List Obj := [{ cls := .type "list", data := Data.seq #[.str "=" 1039] },
  tp #[.str "=" 1038, .ref 600],
  { cls := .type "list", data := Data.seq #[.str "EQUAL" 1041] },
  tp #[.str "=" 1040, .ref 602],
  { cls := .type "list", data := Data.seq #[.str "EQUAL" 1043, .str "TO" 1044] },
  tp #[.str "=" 1042, .ref 604],
  { cls := .type "list", data := Data.seq #[.str ">" 1046] },
  tp #[.str ">" 1045, .ref 606],
  { cls := .type "list", data := Data.seq #[.str "GREATER" 1048] },
  tp #[.str ">" 1047, .ref 608],
  { cls := .type "list", data := Data.seq #[.str "GREATER" 1050, .str "THAN" 1051] },
  tp #[.str ">" 1049, .ref 610],
  { cls := .type "list", data := Data.seq #[.str "<" 1053] },
  tp #[.str "<" 1052, .ref 612],
  { cls := .type "list", data := Data.seq #[.str "LESS" 1055] },
  tp #[.str "<" 1054, .ref 614],
  { cls := .type "list", data := Data.seq #[.str "LESS" 1057, .str "THAN" 1058] },
  tp #[.str "<" 1056, .ref 616],
  { cls := .type "list", data := Data.seq #[.str ">=" 1060] },
  tp #[.str ">=" 1059, .ref 618],
  { cls := .type "list", data := Data.seq #[.str "GREATER" 1062, .str "OR" 1063, .str "EQUAL" 1064] },
  tp #[.str ">=" 1061, .ref 620],
  { cls := .type "list", data := Data.seq #[.str "GREATER" 1066, .str "THAN" 1067, .str "OR" 1068, .str "EQUAL" 1069, .str "TO" 1070] },
  tp #[.str ">=" 1065, .ref 622],
  { cls := .type "list", data := Data.seq #[.str "<=" 1072] },
  tp #[.str "<=" 1071, .ref 624],
  { cls := .type "list", data := Data.seq #[.str "LESS" 1074, .str "THAN" 1075, .str "OR" 1076, .str "EQUAL" 1077] },
  tp #[.str "<=" 1073, .ref 626],
  { cls := .type "list", data := Data.seq #[.str "LESS" 1079, .str "OR" 1080, .str "EQUAL" 1081, .str "TO" 1082] },
  tp #[.str "<=" 1078, .ref 628],
  tp #[.ref 601, .ref 603, .ref 605, .ref 607, .ref 609, .ref 611, .ref 613, .ref 615, .ref 617, .ref 619, .ref 621, .ref 623, .ref 625, .ref 627, .ref 629],
  tp #[.str "class" 1084, .str "NUMERIC" 1085, .str "NUMERIC" 1086],
  tp #[.str "class" 1087, .str "ALPHABETIC" 1088, .str "ALPHABETIC" 1089],
  tp #[.str "class" 1090, .str "ALPHABETIC-LOWER" 1091, .str "ALPHABETIC-LOWER" 1092],
  tp #[.str "class" 1093, .str "ALPHABETIC-UPPER" 1094, .str "ALPHABETIC-UPPER" 1095],
  tp #[.str "sign" 1096, .str "POSITIVE" 1097, .str "POSITIVE" 1098],
  tp #[.str "sign" 1099, .str "NEGATIVE" 1100, .str "NEGATIVE" 1101],
  tp #[.str "sign" 1102, .str "ZERO" 1103, .str "ZERO" 1104],
  tp #[.str "sign" 1105, .str "ZERO" 1106, .str "ZEROS" 1107],
  tp #[.str "sign" 1108, .str "ZERO" 1109, .str "ZEROES" 1110],
  tp #[.ref 631, .ref 632, .ref 633, .ref 634, .ref 635, .ref 636, .ref 637, .ref 638, .ref 639],
  tp #[],
  fl #[],
  tp #[],
  tp #[],
  f0 [60] "_law_turned",
  cd #[.str "_law_turned" 1112, .str "_law_turned" 1113, .str "/claim/cut.py" 1114, .int 455 0, .int 0 0, .int 0 0, .int 0 0, .int 3 0, .ref 641, .bool true, .int 181 0, .ref 642, .none, .ref 643, .ref 644, .ref 645, .int 1115 0, .int 455 0, .str "/claim/cut.py" 1116],
  f1 [60] "_law_turned" (.str "law_pc0147_02" 1036) 646,
  tp #[],
  fl #[],
  tp #[.str "pen" 1121, .str "many" 1122, .str "digit" 1123, .str "spot" 1124, .str "cell" 1125, .str "great" 1126],
  tp #[],
  f0 [61] "_law_draw",
  cd #[.str "_law_draw" 1118, .str "_law_draw" 1119, .str "/claim/cut.py" 1120, .int 457 0, .int 2 0, .int 0 0, .int 0 0, .int 3 0, .ref 648, .bool true, .int 181 0, .ref 649, .none, .ref 650, .ref 651, .ref 652, .int 1127 0, .int 457 0, .str "/claim/cut.py" 1128],
  f1 [61] "_law_draw" (.str "law_pc0147_02" 1036) 653,
  tp #[],
  fl #[],
  tp #[.str "script" 1133],
  tp #[],
  f0 [62] "_law_pen"]
noncomputable def F11 (P : Params) : List Obj := [cd #[.str "_law_pen" 1130, .str "_law_pen" 1131, .str "/claim/cut.py" 1132, .int 472 0, .int 1 0, .int 0 0, .int 0 0, .int 3 0, .ref 655, .bool true, .int 181 0, .ref 656, .none, .ref 657, .ref 658, .ref 659, .int 1134 0, .int 472 0, .str "/claim/cut.py" 1135],
  f1 [62] "_law_pen" (.str "law_pc0147_02" 1036) 660,
  tp #[],
  fl #[],
  tp #[.str "words" 1140, .str "tokens" 1141, .str "at" 1142, .str "word" 1143, .str "kind" 1144],
  tp #[],
  f0 [63] "_law_reader",
  cd #[.str "_law_reader" 1137, .str "_law_reader" 1138, .str "/claim/cut.py" 1139, .int 474 0, .int 1 0, .int 0 0, .int 0 0, .int 3 0, .ref 662, .bool true, .int 181 0, .ref 663, .none, .ref 664, .ref 665, .ref 666, .int 1145 0, .int 474 0, .str "/claim/cut.py" 1146],
  f1 [63] "_law_reader" (.str "law_pc0147_02" 1036) 667,
  tp #[],
  fl #[],
  tp #[.str "name" 1151],
  tp #[],
  f0 [64] "_law_ref",
  cd #[.str "_law_ref" 1148, .str "_law_ref" 1149, .str "/claim/cut.py" 1150, .int 480 0, .int 1 0, .int 0 0, .int 0 0, .int 3 0, .ref 669, .bool true, .int 181 0, .ref 670, .none, .ref 671, .ref 672, .ref 673, .int 1152 0, .int 480 0, .str "/claim/cut.py" 1153],
  f1 [64] "_law_ref" (.str "law_pc0147_02" 1036) 674,
  tp #[],
  fl #[],
  tp #[.str "pen" 1158, .str "name" 1159, .str "ahead" 1160, .str "is_not" 1161, .str "words" 1162, .str "kind" 1163, .str "word" 1164, .str "spelled" 1165, .str "found" 1166, .str "sign" 1167],
  tp #[],
  f0 [65] "_law_told",
  cd #[.str "_law_told" 1155, .str "_law_told" 1156, .str "/claim/cut.py" 1157, .int 482 0, .int 2 0, .int 0 0, .int 0 0, .int 3 0, .ref 676, .bool true, .int 181 0, .ref 677, .none, .ref 678, .ref 679, .ref 680, .int 1168 0, .int 482 0, .str "/claim/cut.py" 1169],
  f1 [65] "_law_told" (.str "law_pc0147_02" 1036) 681,
  tp #[],
  fl #[],
  tp #[.str "reader" 1174, .str "found" 1175, .str "caught" 1176, .str "error" 1177],
  tp #[],
  f0 [66] "_law_heard",
  cd #[.str "_law_heard" 1171, .str "_law_heard" 1172, .str "/claim/cut.py" 1173, .int 492 0, .int 1 0, .int 0 0, .int 0 0, .int 3 0, .ref 683, .bool true, .int 181 0, .ref 684, .none, .ref 685, .ref 686, .ref 687, .int 1178 0, .int 492 0, .str "/claim/cut.py" 1179],
  f1 [66] "_law_heard" (.str "law_pc0147_02" 1036) 688,
  tp #[],
  fl #[],
  tp #[.str "script" 1184, .str "pen" 1185, .str "words" 1186, .str "due" 1187, .str "word" 1188, .str "more" 1189, .str "other" 1190, .str "reader" 1191, .str "named" 1192],
  tp #[],
  f0 [67] "law",
  cd #[.str "law" 1181, .str "law" 1182, .str "/claim/cut.py" 1183, .int 499 0, .int 1 0, .int 0 0, .int 0 0, .int 3 0, .ref 690, .bool true, .int 181 0, .ref 691, .none, .ref 692, .ref 693, .ref 694, .int 1193 0, .int 499 0, .str "/claim/cut.py" 1194],
  f1 [67] "law" (.str "law_pc0147_02" 1036) 695]
noncomputable def F (P:Params):List Obj:=F0 P ++ (F1 P ++ (F2 P ++ (F3 P ++ (F4 P ++ (F5 P ++ (F6 P ++ (F7 P ++ (F8 P ++ (F9 P ++ (F10 P ++ (F11 P)))))))))))
noncomputable def L0 (P:Params):List Obj:=(((((F P).take 15).set 2 (boot_o_2 P)).set 3 (boot_o_3 P)).set 12 (fl #[]))
noncomputable def T0 (P:Params):BT:=treeOf 12 (L0 P)
noncomputable def L1 (P : Params) : List Obj := (((((F P).take 51).set 3 ({ cls := .type "dict", data := Data.dict #[de P "__name__" 165 (.str "ledgerspeak.errors" 194), de P "__doc__" 166 .none, de P "__package__" 167 .none, de P "__loader__" 168 (.builtin "__main__.__loader__#opaque"), de P "__spec__" 169 .none, de P "__annotations__" 170 (.ref 6), de P "__builtins__" 171 (.ref 4), de P "__file__" 173 (.str "/claim/cut.py" 172), de P "__cached__" 174 .none, de P "_wall" 193 (.ref 21), de P "LedgerError" 235 (.ref 47)] 11 })).set 12 (fl #[.int 1 0, .int 0 0, .ref 20, .int 5 0, .int 0 0, .ref 27])).set 47 ({ cls := .type "type", data := Data.cls { name := "LedgerError", bases := [.type "Exception"], mro := [.ref 47, .type "Exception", .type "BaseException", .type "object"], ns := 46, qualname := "LedgerError" }, slots := #[some (.ref 22), none, some (.str "LedgerError" 196), some (.str "LedgerError" 204), some (.builtin "Exception.__new__"), some (.bool true)] }))
noncomputable def T1 (P:Params):BT:=treeOf 12 (L1 P)
noncomputable def L2 (P : Params) : List Obj := (((((F P).take 63).set 3 ({ cls := .type "dict", data := Data.dict #[de P "__name__" 165 (.str "ledgerspeak.errors" 194), de P "__doc__" 166 .none, de P "__package__" 167 .none, de P "__loader__" 168 (.builtin "__main__.__loader__#opaque"), de P "__spec__" 169 .none, de P "__annotations__" 170 (.ref 6), de P "__builtins__" 171 (.ref 4), de P "__file__" 173 (.str "/claim/cut.py" 172), de P "__cached__" 174 .none, de P "_wall" 193 (.ref 21), de P "LedgerError" 235 (.ref 47), de P "TokenFault" 251 (.ref 60)] 12 })).set 12 (fl #[.int 1 0, .int 0 0, .ref 20, .int 5 0, .int 0 0, .ref 27, .int 14 0, .int 0 0, .ref 56])).set 47 ({ cls := .type "type", data := Data.cls { name := "LedgerError", bases := [.type "Exception"], mro := [.ref 47, .type "Exception", .type "BaseException", .type "object"], ns := 46, qualname := "LedgerError", subclasses := [.ref 60] }, slots := #[some (.ref 22), none, some (.str "LedgerError" 196), some (.str "LedgerError" 204), some (.builtin "Exception.__new__"), some (.bool true)] }))
noncomputable def T2 (P:Params):BT:=treeOf 12 (L2 P)
noncomputable def L3 (P : Params) : List Obj := ((((F P).take 111).set 3 ({ cls := .type "dict", data := Data.dict #[de P "__name__" 165 (.str "ledgerspeak.decimals" 268), de P "__doc__" 166 .none, de P "__package__" 167 .none, de P "__loader__" 168 (.builtin "__main__.__loader__#opaque"), de P "__spec__" 169 .none, de P "__annotations__" 170 (.ref 6), de P "__builtins__" 171 (.ref 4), de P "__file__" 173 (.str "/claim/cut.py" 172), de P "__cached__" 174 .none, de P "_wall" 193 (.ref 21), de P "LedgerError" 235 (.ref 47), de P "TokenFault" 251 (.ref 60), de P "GrammarFault" 267 (.ref 72), de P "FIGURES" 271 (.str "0123456789" 270), de P "cut_quotient" 279 (.ref 81), de P "decimal" 288 (.ref 89), de P "negated" 295 (.ref 96), de P "units_at" 306 (.ref 103), de P "is_whole" 313 (.ref 110)] 19 })).set 12 (fl #[.int 1 0, .int 0 0, .ref 20, .int 5 0, .int 0 0, .ref 27, .int 14 0, .int 0 0, .ref 56, .int 16 0, .int 0 0, .ref 68, .int 20 0, .int 0 0, .ref 80, .int 24 0, .int 0 0, .ref 88, .int 31 0, .int 0 0, .ref 95, .int 33 0, .int 0 0, .ref 102, .int 41 0, .int 0 0, .ref 109]))
noncomputable def T3 (P:Params):BT:=treeOf 12 (L3 P)
noncomputable def L4 (P : Params) : List Obj := ((((F P).take 154).set 3 ({ cls := .type "dict", data := Data.dict #[de P "__name__" 165 (.str "ledgerspeak.references" 343), de P "__doc__" 166 .none, de P "__package__" 167 .none, de P "__loader__" 168 (.builtin "__main__.__loader__#opaque"), de P "__spec__" 169 .none, de P "__annotations__" 170 (.ref 6), de P "__builtins__" 171 (.ref 4), de P "__file__" 173 (.str "/claim/cut.py" 172), de P "__cached__" 174 .none, de P "_wall" 193 (.ref 21), de P "LedgerError" 235 (.ref 47), de P "TokenFault" 251 (.ref 60), de P "GrammarFault" 267 (.ref 72), de P "FIGURES" 271 (.str "0123456789" 270), de P "cut_quotient" 279 (.ref 81), de P "decimal" 288 (.ref 89), de P "negated" 295 (.ref 96), de P "units_at" 306 (.ref 103), de P "is_whole" 313 (.ref 110), de P "whole_of" 320 (.ref 117), de P "worth_of" 329 (.ref 124), de P "read_decimal" 342 (.ref 131), de P "MOST_SUBSCRIPTS" 346 (.int 7 345), de P "FIGURE_NAMES" 380 (.ref 132), de P "is_part_next" 389 (.ref 139), de P "read_subscripts" 398 (.ref 146), de P "read_part" 408 (.ref 153)] 27 })).set 12 (fl #[.int 1 0, .int 0 0, .ref 20, .int 5 0, .int 0 0, .ref 27, .int 14 0, .int 0 0, .ref 56, .int 16 0, .int 0 0, .ref 68, .int 20 0, .int 0 0, .ref 80, .int 24 0, .int 0 0, .ref 88, .int 31 0, .int 0 0, .ref 95, .int 33 0, .int 0 0, .ref 102, .int 41 0, .int 0 0, .ref 109, .int 43 0, .int 0 0, .ref 116, .int 45 0, .int 0 0, .ref 123, .int 50 0, .int 0 0, .ref 130, .int 68 0, .int 0 0, .ref 138, .int 81 0, .int 0 0, .ref 145, .int 89 0, .int 0 0, .ref 152]))
noncomputable def T4 (P:Params):BT:=treeOf 12 (L4 P)
noncomputable def L5 (P : Params) : List Obj := ((((F P).take 238).set 3 ({ cls := .type "dict", data := Data.dict #[de P "__name__" 165 (.str "ledgerspeak.expressions" 445), de P "__doc__" 166 .none, de P "__package__" 167 .none, de P "__loader__" 168 (.builtin "__main__.__loader__#opaque"), de P "__spec__" 169 .none, de P "__annotations__" 170 (.ref 6), de P "__builtins__" 171 (.ref 4), de P "__file__" 173 (.str "/claim/cut.py" 172), de P "__cached__" 174 .none, de P "_wall" 193 (.ref 21), de P "LedgerError" 235 (.ref 47), de P "TokenFault" 251 (.ref 60), de P "GrammarFault" 267 (.ref 72), de P "FIGURES" 271 (.str "0123456789" 270), de P "cut_quotient" 279 (.ref 81), de P "decimal" 288 (.ref 89), de P "negated" 295 (.ref 96), de P "units_at" 306 (.ref 103), de P "is_whole" 313 (.ref 110), de P "whole_of" 320 (.ref 117), de P "worth_of" 329 (.ref 124), de P "read_decimal" 342 (.ref 131), de P "MOST_SUBSCRIPTS" 346 (.int 7 345), de P "FIGURE_NAMES" 380 (.ref 132), de P "is_part_next" 389 (.ref 139), de P "read_subscripts" 398 (.ref 146), de P "read_part" 408 (.ref 153), de P "read_ref" 420 (.ref 160), de P "read_all" 428 (.ref 167), de P "read_figure" 435 (.ref 174), de P "read_operand" 444 (.ref 181), de P "MOST_DEEP_expressions" 448 (.int 20 447), de P "read_expression" 455 (.ref 188), de P "sign_among" 464 (.ref 195), de P "read_sum" 474 (.ref 202), de P "read_product" 484 (.ref 209), de P "read_factor" 495 (.ref 216), de P "is_lone_number" 504 (.ref 223), de P "read_power" 513 (.ref 230), de P "read_primary" 523 (.ref 237)] 40 })).set 12 (fl #[.int 1 0, .int 0 0, .ref 20, .int 5 0, .int 0 0, .ref 27, .int 14 0, .int 0 0, .ref 56, .int 16 0, .int 0 0, .ref 68, .int 20 0, .int 0 0, .ref 80, .int 24 0, .int 0 0, .ref 88, .int 31 0, .int 0 0, .ref 95, .int 33 0, .int 0 0, .ref 102, .int 41 0, .int 0 0, .ref 109, .int 43 0, .int 0 0, .ref 116, .int 45 0, .int 0 0, .ref 123, .int 50 0, .int 0 0, .ref 130, .int 68 0, .int 0 0, .ref 138, .int 81 0, .int 0 0, .ref 145, .int 89 0, .int 0 0, .ref 152, .int 96 0, .int 0 0, .ref 159, .int 106 0, .int 0 0, .ref 166, .int 113 0, .int 0 0, .ref 173, .int 117 0, .int 0 0, .ref 180, .int 128 0, .int 0 0, .ref 187, .int 130 0, .int 0 0, .ref 194, .int 135 0, .int 0 0, .ref 201, .int 143 0, .int 0 0, .ref 208, .int 149 0, .int 0 0, .ref 215, .int 159 0, .int 0 0, .ref 222, .int 164 0, .int 0 0, .ref 229, .int 170 0, .int 0 0, .ref 236]))
noncomputable def T5 (P:Params):BT:=treeOf 12 (L5 P)
noncomputable def L6 (P : Params) : List Obj := ((((F P).take 265).set 3 ({ cls := .type "dict", data := Data.dict #[de P "__name__" 165 (.str "ledgerspeak.conditions" 524), de P "__doc__" 166 .none, de P "__package__" 167 .none, de P "__loader__" 168 (.builtin "__main__.__loader__#opaque"), de P "__spec__" 169 .none, de P "__annotations__" 170 (.ref 6), de P "__builtins__" 171 (.ref 4), de P "__file__" 173 (.str "/claim/cut.py" 172), de P "__cached__" 174 .none, de P "_wall" 193 (.ref 21), de P "LedgerError" 235 (.ref 47), de P "TokenFault" 251 (.ref 60), de P "GrammarFault" 267 (.ref 72), de P "FIGURES" 271 (.str "0123456789" 270), de P "cut_quotient" 279 (.ref 81), de P "decimal" 288 (.ref 89), de P "negated" 295 (.ref 96), de P "units_at" 306 (.ref 103), de P "is_whole" 313 (.ref 110), de P "whole_of" 320 (.ref 117), de P "worth_of" 329 (.ref 124), de P "read_decimal" 342 (.ref 131), de P "MOST_SUBSCRIPTS" 346 (.int 7 345), de P "FIGURE_NAMES" 380 (.ref 132), de P "is_part_next" 389 (.ref 139), de P "read_subscripts" 398 (.ref 146), de P "read_part" 408 (.ref 153), de P "read_ref" 420 (.ref 160), de P "read_all" 428 (.ref 167), de P "read_figure" 435 (.ref 174), de P "read_operand" 444 (.ref 181), de P "MOST_DEEP_expressions" 448 (.int 20 447), de P "read_expression" 455 (.ref 188), de P "sign_among" 464 (.ref 195), de P "read_sum" 474 (.ref 202), de P "read_product" 484 (.ref 209), de P "read_factor" 495 (.ref 216), de P "is_lone_number" 504 (.ref 223), de P "read_power" 513 (.ref 230), de P "read_primary" 523 (.ref 237), de P "MOST_DEEP_conditions" 527 (.int 20 526), de P "OPPOSITES" 546 (.ref 238), de P "CLASSES" 551 (.ref 239), de P "WORDS_OF_SIGNS" 567 (.ref 240), de P "WORDS_OF_RELATIONS" 577 (.ref 241), de P "RELATIONS" 583 (.ref 242), de P "word_here" 593 (.ref 250), de P "is_relation_at" 602 (.ref 257), de P "place_of_word" 610 (.ref 264)] 49 })).set 12 (fl #[.int 1 0, .int 0 0, .ref 20, .int 5 0, .int 0 0, .ref 27, .int 14 0, .int 0 0, .ref 56, .int 16 0, .int 0 0, .ref 68, .int 20 0, .int 0 0, .ref 80, .int 24 0, .int 0 0, .ref 88, .int 31 0, .int 0 0, .ref 95, .int 33 0, .int 0 0, .ref 102, .int 41 0, .int 0 0, .ref 109, .int 43 0, .int 0 0, .ref 116, .int 45 0, .int 0 0, .ref 123, .int 50 0, .int 0 0, .ref 130, .int 68 0, .int 0 0, .ref 138, .int 81 0, .int 0 0, .ref 145, .int 89 0, .int 0 0, .ref 152, .int 96 0, .int 0 0, .ref 159, .int 106 0, .int 0 0, .ref 166, .int 113 0, .int 0 0, .ref 173, .int 117 0, .int 0 0, .ref 180, .int 128 0, .int 0 0, .ref 187, .int 130 0, .int 0 0, .ref 194, .int 135 0, .int 0 0, .ref 201, .int 143 0, .int 0 0, .ref 208, .int 149 0, .int 0 0, .ref 215, .int 159 0, .int 0 0, .ref 222, .int 164 0, .int 0 0, .ref 229, .int 170 0, .int 0 0, .ref 236, .int 185 0, .int 0 0, .ref 249, .int 188 0, .int 0 0, .ref 256, .int 193 0, .int 0 0, .ref 263]))
noncomputable def T6 (P:Params):BT:=treeOf 12 (L6 P)
noncomputable def L7 (P : Params) : List Obj := ((((F P).take 279).set 3 ({ cls := .type "dict", data := Data.dict #[de P "__name__" 165 (.str "ledgerspeak.conditions" 524), de P "__doc__" 166 .none, de P "__package__" 167 .none, de P "__loader__" 168 (.builtin "__main__.__loader__#opaque"), de P "__spec__" 169 .none, de P "__annotations__" 170 (.ref 6), de P "__builtins__" 171 (.ref 4), de P "__file__" 173 (.str "/claim/cut.py" 172), de P "__cached__" 174 .none, de P "_wall" 193 (.ref 21), de P "LedgerError" 235 (.ref 47), de P "TokenFault" 251 (.ref 60), de P "GrammarFault" 267 (.ref 72), de P "FIGURES" 271 (.str "0123456789" 270), de P "cut_quotient" 279 (.ref 81), de P "decimal" 288 (.ref 89), de P "negated" 295 (.ref 96), de P "units_at" 306 (.ref 103), de P "is_whole" 313 (.ref 110), de P "whole_of" 320 (.ref 117), de P "worth_of" 329 (.ref 124), de P "read_decimal" 342 (.ref 131), de P "MOST_SUBSCRIPTS" 346 (.int 7 345), de P "FIGURE_NAMES" 380 (.ref 132), de P "is_part_next" 389 (.ref 139), de P "read_subscripts" 398 (.ref 146), de P "read_part" 408 (.ref 153), de P "read_ref" 420 (.ref 160), de P "read_all" 428 (.ref 167), de P "read_figure" 435 (.ref 174), de P "read_operand" 444 (.ref 181), de P "MOST_DEEP_expressions" 448 (.int 20 447), de P "read_expression" 455 (.ref 188), de P "sign_among" 464 (.ref 195), de P "read_sum" 474 (.ref 202), de P "read_product" 484 (.ref 209), de P "read_factor" 495 (.ref 216), de P "is_lone_number" 504 (.ref 223), de P "read_power" 513 (.ref 230), de P "read_primary" 523 (.ref 237), de P "MOST_DEEP_conditions" 527 (.int 20 526), de P "OPPOSITES" 546 (.ref 238), de P "CLASSES" 551 (.ref 239), de P "WORDS_OF_SIGNS" 567 (.ref 240), de P "WORDS_OF_RELATIONS" 577 (.ref 241), de P "RELATIONS" 583 (.ref 242), de P "word_here" 593 (.ref 250), de P "is_relation_at" 602 (.ref 257), de P "place_of_word" 610 (.ref 264), de P "is_predicate_here" 619 (.ref 271), de P "is_bare_relation_here" 626 (.ref 278)] 51 })).set 12 (fl #[.int 1 0, .int 0 0, .ref 20, .int 5 0, .int 0 0, .ref 27, .int 14 0, .int 0 0, .ref 56, .int 16 0, .int 0 0, .ref 68, .int 20 0, .int 0 0, .ref 80, .int 24 0, .int 0 0, .ref 88, .int 31 0, .int 0 0, .ref 95, .int 33 0, .int 0 0, .ref 102, .int 41 0, .int 0 0, .ref 109, .int 43 0, .int 0 0, .ref 116, .int 45 0, .int 0 0, .ref 123, .int 50 0, .int 0 0, .ref 130, .int 68 0, .int 0 0, .ref 138, .int 81 0, .int 0 0, .ref 145, .int 89 0, .int 0 0, .ref 152, .int 96 0, .int 0 0, .ref 159, .int 106 0, .int 0 0, .ref 166, .int 113 0, .int 0 0, .ref 173, .int 117 0, .int 0 0, .ref 180, .int 128 0, .int 0 0, .ref 187, .int 130 0, .int 0 0, .ref 194, .int 135 0, .int 0 0, .ref 201, .int 143 0, .int 0 0, .ref 208, .int 149 0, .int 0 0, .ref 215, .int 159 0, .int 0 0, .ref 222, .int 164 0, .int 0 0, .ref 229, .int 170 0, .int 0 0, .ref 236, .int 185 0, .int 0 0, .ref 249, .int 188 0, .int 0 0, .ref 256, .int 193 0, .int 0 0, .ref 263, .int 196 0, .int 0 0, .ref 270, .int 200 0, .int 0 0, .ref 277]))
noncomputable def T7 (P:Params):BT:=treeOf 12 (L7 P)
noncomputable def L8 (P : Params) : List Obj := ((((F P).take 377).set 3 ({ cls := .type "dict", data := Data.dict #[de P "__name__" 165 (.str "ledgerspeak.conditions" 524), de P "__doc__" 166 .none, de P "__package__" 167 .none, de P "__loader__" 168 (.builtin "__main__.__loader__#opaque"), de P "__spec__" 169 .none, de P "__annotations__" 170 (.ref 6), de P "__builtins__" 171 (.ref 4), de P "__file__" 173 (.str "/claim/cut.py" 172), de P "__cached__" 174 .none, de P "_wall" 193 (.ref 21), de P "LedgerError" 235 (.ref 47), de P "TokenFault" 251 (.ref 60), de P "GrammarFault" 267 (.ref 72), de P "FIGURES" 271 (.str "0123456789" 270), de P "cut_quotient" 279 (.ref 81), de P "decimal" 288 (.ref 89), de P "negated" 295 (.ref 96), de P "units_at" 306 (.ref 103), de P "is_whole" 313 (.ref 110), de P "whole_of" 320 (.ref 117), de P "worth_of" 329 (.ref 124), de P "read_decimal" 342 (.ref 131), de P "MOST_SUBSCRIPTS" 346 (.int 7 345), de P "FIGURE_NAMES" 380 (.ref 132), de P "is_part_next" 389 (.ref 139), de P "read_subscripts" 398 (.ref 146), de P "read_part" 408 (.ref 153), de P "read_ref" 420 (.ref 160), de P "read_all" 428 (.ref 167), de P "read_figure" 435 (.ref 174), de P "read_operand" 444 (.ref 181), de P "MOST_DEEP_expressions" 448 (.int 20 447), de P "read_expression" 455 (.ref 188), de P "sign_among" 464 (.ref 195), de P "read_sum" 474 (.ref 202), de P "read_product" 484 (.ref 209), de P "read_factor" 495 (.ref 216), de P "is_lone_number" 504 (.ref 223), de P "read_power" 513 (.ref 230), de P "read_primary" 523 (.ref 237), de P "MOST_DEEP_conditions" 527 (.int 20 526), de P "OPPOSITES" 546 (.ref 238), de P "CLASSES" 551 (.ref 239), de P "WORDS_OF_SIGNS" 567 (.ref 240), de P "WORDS_OF_RELATIONS" 577 (.ref 241), de P "RELATIONS" 583 (.ref 242), de P "word_here" 593 (.ref 250), de P "is_relation_at" 602 (.ref 257), de P "place_of_word" 610 (.ref 264), de P "is_predicate_here" 619 (.ref 271), de P "is_bare_relation_here" 626 (.ref 278), de P "ConditionReader" 754 (.ref 372)] 52 })).set 12 (fl #[.int 1 0, .int 0 0, .ref 20, .int 5 0, .int 0 0, .ref 27, .int 14 0, .int 0 0, .ref 56, .int 16 0, .int 0 0, .ref 68, .int 20 0, .int 0 0, .ref 80, .int 24 0, .int 0 0, .ref 88, .int 31 0, .int 0 0, .ref 95, .int 33 0, .int 0 0, .ref 102, .int 41 0, .int 0 0, .ref 109, .int 43 0, .int 0 0, .ref 116, .int 45 0, .int 0 0, .ref 123, .int 50 0, .int 0 0, .ref 130, .int 68 0, .int 0 0, .ref 138, .int 81 0, .int 0 0, .ref 145, .int 89 0, .int 0 0, .ref 152, .int 96 0, .int 0 0, .ref 159, .int 106 0, .int 0 0, .ref 166, .int 113 0, .int 0 0, .ref 173, .int 117 0, .int 0 0, .ref 180, .int 128 0, .int 0 0, .ref 187, .int 130 0, .int 0 0, .ref 194, .int 135 0, .int 0 0, .ref 201, .int 143 0, .int 0 0, .ref 208, .int 149 0, .int 0 0, .ref 215, .int 159 0, .int 0 0, .ref 222, .int 164 0, .int 0 0, .ref 229, .int 170 0, .int 0 0, .ref 236, .int 185 0, .int 0 0, .ref 249, .int 188 0, .int 0 0, .ref 256, .int 193 0, .int 0 0, .ref 263, .int 196 0, .int 0 0, .ref 270, .int 200 0, .int 0 0, .ref 277, .int 202 0, .int 0 0, .ref 284]))
noncomputable def T8 (P:Params):BT:=treeOf 12 (L8 P)
noncomputable def L9 (P : Params) : List Obj := ((((F P).take 397).set 3 ({ cls := .type "dict", data := Data.dict #[de P "__name__" 165 (.str "ledgerspeak.reader" 764), de P "__doc__" 166 .none, de P "__package__" 167 .none, de P "__loader__" 168 (.builtin "__main__.__loader__#opaque"), de P "__spec__" 169 .none, de P "__annotations__" 170 (.ref 6), de P "__builtins__" 171 (.ref 4), de P "__file__" 173 (.str "/claim/cut.py" 172), de P "__cached__" 174 .none, de P "_wall" 193 (.ref 21), de P "LedgerError" 235 (.ref 47), de P "TokenFault" 251 (.ref 60), de P "GrammarFault" 267 (.ref 72), de P "FIGURES" 271 (.str "0123456789" 270), de P "cut_quotient" 279 (.ref 81), de P "decimal" 288 (.ref 89), de P "negated" 295 (.ref 96), de P "units_at" 306 (.ref 103), de P "is_whole" 313 (.ref 110), de P "whole_of" 320 (.ref 117), de P "worth_of" 329 (.ref 124), de P "read_decimal" 342 (.ref 131), de P "MOST_SUBSCRIPTS" 346 (.int 7 345), de P "FIGURE_NAMES" 380 (.ref 132), de P "is_part_next" 389 (.ref 139), de P "read_subscripts" 398 (.ref 146), de P "read_part" 408 (.ref 153), de P "read_ref" 420 (.ref 160), de P "read_all" 428 (.ref 167), de P "read_figure" 435 (.ref 174), de P "read_operand" 444 (.ref 181), de P "MOST_DEEP_expressions" 448 (.int 20 447), de P "read_expression" 455 (.ref 188), de P "sign_among" 464 (.ref 195), de P "read_sum" 474 (.ref 202), de P "read_product" 484 (.ref 209), de P "read_factor" 495 (.ref 216), de P "is_lone_number" 504 (.ref 223), de P "read_power" 513 (.ref 230), de P "read_primary" 523 (.ref 237), de P "MOST_DEEP_conditions" 527 (.int 20 526), de P "OPPOSITES" 546 (.ref 238), de P "CLASSES" 551 (.ref 239), de P "WORDS_OF_SIGNS" 567 (.ref 240), de P "WORDS_OF_RELATIONS" 577 (.ref 241), de P "RELATIONS" 583 (.ref 242), de P "word_here" 593 (.ref 250), de P "is_relation_at" 602 (.ref 257), de P "place_of_word" 610 (.ref 264), de P "is_predicate_here" 619 (.ref 271), de P "is_bare_relation_here" 626 (.ref 278), de P "ConditionReader" 754 (.ref 372), de P "read_condition" 763 (.ref 384), de P "MOST_OCTET" 767 (.int 255 766), de P "RESERVED" 769 (.str rsv 768), de P "is_reserved" 776 (.ref 391), de P "octets_of_text" 782 (.ref 396)] 57 })).set 12 (fl #[.int 1 0, .int 0 0, .ref 20, .int 5 0, .int 0 0, .ref 27, .int 14 0, .int 0 0, .ref 56, .int 16 0, .int 0 0, .ref 68, .int 20 0, .int 0 0, .ref 80, .int 24 0, .int 0 0, .ref 88, .int 31 0, .int 0 0, .ref 95, .int 33 0, .int 0 0, .ref 102, .int 41 0, .int 0 0, .ref 109, .int 43 0, .int 0 0, .ref 116, .int 45 0, .int 0 0, .ref 123, .int 50 0, .int 0 0, .ref 130, .int 68 0, .int 0 0, .ref 138, .int 81 0, .int 0 0, .ref 145, .int 89 0, .int 0 0, .ref 152, .int 96 0, .int 0 0, .ref 159, .int 106 0, .int 0 0, .ref 166, .int 113 0, .int 0 0, .ref 173, .int 117 0, .int 0 0, .ref 180, .int 128 0, .int 0 0, .ref 187, .int 130 0, .int 0 0, .ref 194, .int 135 0, .int 0 0, .ref 201, .int 143 0, .int 0 0, .ref 208, .int 149 0, .int 0 0, .ref 215, .int 159 0, .int 0 0, .ref 222, .int 164 0, .int 0 0, .ref 229, .int 170 0, .int 0 0, .ref 236, .int 185 0, .int 0 0, .ref 249, .int 188 0, .int 0 0, .ref 256, .int 193 0, .int 0 0, .ref 263, .int 196 0, .int 0 0, .ref 270, .int 200 0, .int 0 0, .ref 277, .int 202 0, .int 0 0, .ref 284, .int 305 0, .int 0 0, .ref 383, .int 312 0, .int 0 0, .ref 390, .int 314 0, .int 0 0, .ref 395]))
noncomputable def T9 (P:Params):BT:=treeOf 12 (L9 P)
noncomputable def L10 (P : Params) : List Obj := ((((F P).take 570).set 3 ({ cls := .type "dict", data := Data.dict #[de P "__name__" 165 (.str "ledgerspeak.reader" 764), de P "__doc__" 166 .none, de P "__package__" 167 .none, de P "__loader__" 168 (.builtin "__main__.__loader__#opaque"), de P "__spec__" 169 .none, de P "__annotations__" 170 (.ref 6), de P "__builtins__" 171 (.ref 4), de P "__file__" 173 (.str "/claim/cut.py" 172), de P "__cached__" 174 .none, de P "_wall" 193 (.ref 21), de P "LedgerError" 235 (.ref 47), de P "TokenFault" 251 (.ref 60), de P "GrammarFault" 267 (.ref 72), de P "FIGURES" 271 (.str "0123456789" 270), de P "cut_quotient" 279 (.ref 81), de P "decimal" 288 (.ref 89), de P "negated" 295 (.ref 96), de P "units_at" 306 (.ref 103), de P "is_whole" 313 (.ref 110), de P "whole_of" 320 (.ref 117), de P "worth_of" 329 (.ref 124), de P "read_decimal" 342 (.ref 131), de P "MOST_SUBSCRIPTS" 346 (.int 7 345), de P "FIGURE_NAMES" 380 (.ref 132), de P "is_part_next" 389 (.ref 139), de P "read_subscripts" 398 (.ref 146), de P "read_part" 408 (.ref 153), de P "read_ref" 420 (.ref 160), de P "read_all" 428 (.ref 167), de P "read_figure" 435 (.ref 174), de P "read_operand" 444 (.ref 181), de P "MOST_DEEP_expressions" 448 (.int 20 447), de P "read_expression" 455 (.ref 188), de P "sign_among" 464 (.ref 195), de P "read_sum" 474 (.ref 202), de P "read_product" 484 (.ref 209), de P "read_factor" 495 (.ref 216), de P "is_lone_number" 504 (.ref 223), de P "read_power" 513 (.ref 230), de P "read_primary" 523 (.ref 237), de P "MOST_DEEP_conditions" 527 (.int 20 526), de P "OPPOSITES" 546 (.ref 238), de P "CLASSES" 551 (.ref 239), de P "WORDS_OF_SIGNS" 567 (.ref 240), de P "WORDS_OF_RELATIONS" 577 (.ref 241), de P "RELATIONS" 583 (.ref 242), de P "word_here" 593 (.ref 250), de P "is_relation_at" 602 (.ref 257), de P "place_of_word" 610 (.ref 264), de P "is_predicate_here" 619 (.ref 271), de P "is_bare_relation_here" 626 (.ref 278), de P "ConditionReader" 754 (.ref 372), de P "read_condition" 763 (.ref 384), de P "MOST_OCTET" 767 (.int 255 766), de P "RESERVED" 769 (.str rsv 768), de P "is_reserved" 776 (.ref 391), de P "octets_of_text" 782 (.ref 396), de P "Reader" 989 (.ref 565)] 58 })).set 12 (fl #[.int 1 0, .int 0 0, .ref 20, .int 5 0, .int 0 0, .ref 27, .int 14 0, .int 0 0, .ref 56, .int 16 0, .int 0 0, .ref 68, .int 20 0, .int 0 0, .ref 80, .int 24 0, .int 0 0, .ref 88, .int 31 0, .int 0 0, .ref 95, .int 33 0, .int 0 0, .ref 102, .int 41 0, .int 0 0, .ref 109, .int 43 0, .int 0 0, .ref 116, .int 45 0, .int 0 0, .ref 123, .int 50 0, .int 0 0, .ref 130, .int 68 0, .int 0 0, .ref 138, .int 81 0, .int 0 0, .ref 145, .int 89 0, .int 0 0, .ref 152, .int 96 0, .int 0 0, .ref 159, .int 106 0, .int 0 0, .ref 166, .int 113 0, .int 0 0, .ref 173, .int 117 0, .int 0 0, .ref 180, .int 128 0, .int 0 0, .ref 187, .int 130 0, .int 0 0, .ref 194, .int 135 0, .int 0 0, .ref 201, .int 143 0, .int 0 0, .ref 208, .int 149 0, .int 0 0, .ref 215, .int 159 0, .int 0 0, .ref 222, .int 164 0, .int 0 0, .ref 229, .int 170 0, .int 0 0, .ref 236, .int 185 0, .int 0 0, .ref 249, .int 188 0, .int 0 0, .ref 256, .int 193 0, .int 0 0, .ref 263, .int 196 0, .int 0 0, .ref 270, .int 200 0, .int 0 0, .ref 277, .int 202 0, .int 0 0, .ref 284, .int 305 0, .int 0 0, .ref 383, .int 312 0, .int 0 0, .ref 390, .int 314 0, .int 0 0, .ref 395, .int 319 0, .int 0 0, .ref 402]))
noncomputable def T10 (P:Params):BT:=treeOf 12 (L10 P)
noncomputable def L11 (P : Params) : List Obj := ((((F P).take 631).set 3 ({ cls := .type "dict", data := Data.dict #[de P "__name__" 165 (.str "law_pc0147_02" 1036), de P "__doc__" 166 .none, de P "__package__" 167 .none, de P "__loader__" 168 (.builtin "__main__.__loader__#opaque"), de P "__spec__" 169 .none, de P "__annotations__" 170 (.ref 6), de P "__builtins__" 171 (.ref 4), de P "__file__" 173 (.str "/claim/cut.py" 172), de P "__cached__" 174 .none, de P "_wall" 193 (.ref 21), de P "LedgerError" 235 (.ref 47), de P "TokenFault" 251 (.ref 60), de P "GrammarFault" 267 (.ref 72), de P "FIGURES" 271 (.str "0123456789" 270), de P "cut_quotient" 279 (.ref 81), de P "decimal" 288 (.ref 89), de P "negated" 295 (.ref 96), de P "units_at" 306 (.ref 103), de P "is_whole" 313 (.ref 110), de P "whole_of" 320 (.ref 117), de P "worth_of" 329 (.ref 124), de P "read_decimal" 342 (.ref 131), de P "MOST_SUBSCRIPTS" 346 (.int 7 345), de P "FIGURE_NAMES" 380 (.ref 132), de P "is_part_next" 389 (.ref 139), de P "read_subscripts" 398 (.ref 146), de P "read_part" 408 (.ref 153), de P "read_ref" 420 (.ref 160), de P "read_all" 428 (.ref 167), de P "read_figure" 435 (.ref 174), de P "read_operand" 444 (.ref 181), de P "MOST_DEEP_expressions" 448 (.int 20 447), de P "read_expression" 455 (.ref 188), de P "sign_among" 464 (.ref 195), de P "read_sum" 474 (.ref 202), de P "read_product" 484 (.ref 209), de P "read_factor" 495 (.ref 216), de P "is_lone_number" 504 (.ref 223), de P "read_power" 513 (.ref 230), de P "read_primary" 523 (.ref 237), de P "MOST_DEEP_conditions" 527 (.int 20 526), de P "OPPOSITES" 546 (.ref 238), de P "CLASSES" 551 (.ref 239), de P "WORDS_OF_SIGNS" 567 (.ref 240), de P "WORDS_OF_RELATIONS" 577 (.ref 241), de P "RELATIONS" 583 (.ref 242), de P "word_here" 593 (.ref 250), de P "is_relation_at" 602 (.ref 257), de P "place_of_word" 610 (.ref 264), de P "is_predicate_here" 619 (.ref 271), de P "is_bare_relation_here" 626 (.ref 278), de P "ConditionReader" 754 (.ref 372), de P "read_condition" 763 (.ref 384), de P "MOST_OCTET" 767 (.int 255 766), de P "RESERVED" 769 (.str rsv 768), de P "is_reserved" 776 (.ref 391), de P "octets_of_text" 782 (.ref 396), de P "Reader" 989 (.ref 565), de P "Token" 1035 (.ref 595), de P "_law_spelled" 1083 (.ref 630)] 60 })).set 12 (fl #[.int 1 0, .int 0 0, .ref 20, .int 5 0, .int 0 0, .ref 27, .int 14 0, .int 0 0, .ref 56, .int 16 0, .int 0 0, .ref 68, .int 20 0, .int 0 0, .ref 80, .int 24 0, .int 0 0, .ref 88, .int 31 0, .int 0 0, .ref 95, .int 33 0, .int 0 0, .ref 102, .int 41 0, .int 0 0, .ref 109, .int 43 0, .int 0 0, .ref 116, .int 45 0, .int 0 0, .ref 123, .int 50 0, .int 0 0, .ref 130, .int 68 0, .int 0 0, .ref 138, .int 81 0, .int 0 0, .ref 145, .int 89 0, .int 0 0, .ref 152, .int 96 0, .int 0 0, .ref 159, .int 106 0, .int 0 0, .ref 166, .int 113 0, .int 0 0, .ref 173, .int 117 0, .int 0 0, .ref 180, .int 128 0, .int 0 0, .ref 187, .int 130 0, .int 0 0, .ref 194, .int 135 0, .int 0 0, .ref 201, .int 143 0, .int 0 0, .ref 208, .int 149 0, .int 0 0, .ref 215, .int 159 0, .int 0 0, .ref 222, .int 164 0, .int 0 0, .ref 229, .int 170 0, .int 0 0, .ref 236, .int 185 0, .int 0 0, .ref 249, .int 188 0, .int 0 0, .ref 256, .int 193 0, .int 0 0, .ref 263, .int 196 0, .int 0 0, .ref 270, .int 200 0, .int 0 0, .ref 277, .int 202 0, .int 0 0, .ref 284, .int 305 0, .int 0 0, .ref 383, .int 312 0, .int 0 0, .ref 390, .int 314 0, .int 0 0, .ref 395, .int 319 0, .int 0 0, .ref 402, .int 442 0, .int 0 0, .ref 575]))
noncomputable def T11 (P:Params):BT:=treeOf 12 (L11 P)
noncomputable def L12 (P:Params):List Obj:=(F P)
noncomputable def T12 (P:Params):BT:=treeOf 12 (L12 P)
noncomputable def env:Env:={ scope:=P0.main.scope,locals:=mainNs,globals:=mainNs,cells:=[],code := .ref 13,frame:=some 14 }
noncomputable abbrev bd:List Stmt:=behindTheImports P0
noncomputable abbrev cE:Code := .body bd env
theorem p0 (w:World):(fun os=>segRunT treeTable P0 w 11 (some (.ref 6)) 1 305 ⟨T0 w.params,15,{}, #[],{},187,os⟩ (piecesOf ((bd.drop 0).take 3) env cE ⟨0,0,0,0⟩ [topFrame ⟨0,0,0,0⟩])) =
    fun os=>some (.next,⟨T1 w.params,51,{}, #[],{},236,os⟩,cE,⟨5,0,13,35⟩):=by
  rw [Fast.te10110043849684766642,Fast.te14364793385576792824]; kernel_rfl
theorem p1 (w:World):(fun os=>segRunT treeTable P0 w 11 (some (.ref 6)) 1 214 ⟨T1 w.params,51,{}, #[],{},236,os⟩ (piecesOf ((bd.drop 3).take 1) env cE ⟨5,0,13,35⟩ [topFrame ⟨0,0,0,0⟩])) =
    fun os=>some (.next,⟨T2 w.params,63,{}, #[],{},252,os⟩,cE,⟨14,0,15,8⟩):=by
  rw [Fast.te10110043849684766642,Fast.te14364793385576792824]; kernel_rfl
theorem p2 (w:World):(fun os=>segRunT treeTable P0 w 11 (some (.ref 6)) 1 385 ⟨T2 w.params,63,{}, #[],{},252,os⟩ (piecesOf ((bd.drop 4).take 8) env cE ⟨14,0,15,8⟩ [topFrame ⟨0,0,0,0⟩])) =
    fun os=>some (.next,⟨T3 w.params,111,{}, #[],{},314,os⟩,cE,⟨41,0,42,20⟩):=by
  rw [Fast.te10110043849684766642,Fast.te14364793385576792824]; kernel_rfl
theorem p3false (w : World) : (fun os => segRunT treeTable P0 (w.withFollow "special-get-raises" false) 11 (some (.ref 6)) 1 383 ⟨T3 (w.withFollow "special-get-raises" false).params, 111, {}, #[], {}, 314, os⟩ (piecesOf ((bd.drop 12).take 9) env cE ⟨41,0,42,20⟩ [topFrame ⟨0,0,0,0⟩])) =
    fun os => some (.next, ⟨T4 (w.withFollow "special-get-raises" false).params, 154, {}, #[], {}, 409, os⟩, cE, ⟨89,0,95,26⟩) := by
  rw [Fast.te10110043849684766642,Fast.te14364793385576792824]; kernel_rfl
theorem p3true (w : World) : (fun os => segRunT treeTable P0 (w.withFollow "special-get-raises" true) 11 (some (.ref 6)) 1 383 ⟨T3 (w.withFollow "special-get-raises" true).params, 111, {}, #[], {}, 314, os⟩ (piecesOf ((bd.drop 12).take 9) env cE ⟨41,0,42,20⟩ [topFrame ⟨0,0,0,0⟩])) =
    fun os => some (.next, ⟨T4 (w.withFollow "special-get-raises" true).params, 154, {}, #[], {}, 409, os⟩, cE, ⟨89,0,95,26⟩) := by
  rw [Fast.te10110043849684766642,Fast.te14364793385576792824]; kernel_rfl
theorem p4 (w:World):(fun os=>segRunT treeTable P0 w 11 (some (.ref 6)) 1 394 ⟨T4 w.params,154,{}, #[],{},409,os⟩ (piecesOf ((bd.drop 21).take 14) env cE ⟨89,0,95,26⟩ [topFrame ⟨0,0,0,0⟩])) =
    fun os=>some (.next,⟨T5 w.params,238,{}, #[],{},524,os⟩,cE,⟨170,0,177,16⟩):=by
  rw [Fast.te10110043849684766642,Fast.te14364793385576792824]; kernel_rfl
theorem p5false (w : World) : (fun os => segRunT treeTable P0 (w.withFollow "special-get-raises" false) 11 (some (.ref 6)) 1 382 ⟨T5 (w.withFollow "special-get-raises" false).params, 238, {}, #[], {}, 524, os⟩ (piecesOf ((bd.drop 35).take 10) env cE ⟨170,0,177,16⟩ [topFrame ⟨0,0,0,0⟩])) =
    fun os => some (.next, ⟨T6 (w.withFollow "special-get-raises" false).params, 265, {}, #[], {}, 611, os⟩, cE, ⟨193,0,195,68⟩) := by
  rw [Fast.te10110043849684766642,Fast.te14364793385576792824]; kernel_rfl
theorem p5true (w : World) : (fun os => segRunT treeTable P0 (w.withFollow "special-get-raises" true) 11 (some (.ref 6)) 1 382 ⟨T5 (w.withFollow "special-get-raises" true).params, 238, {}, #[], {}, 524, os⟩ (piecesOf ((bd.drop 35).take 10) env cE ⟨170,0,177,16⟩ [topFrame ⟨0,0,0,0⟩])) =
    fun os => some (.next, ⟨T6 (w.withFollow "special-get-raises" true).params, 265, {}, #[], {}, 611, os⟩, cE, ⟨193,0,195,68⟩) := by
  rw [Fast.te10110043849684766642,Fast.te14364793385576792824]; kernel_rfl
theorem p6 (w:World):(fun os=>segRunT treeTable P0 w 11 (some (.ref 6)) 1 61 ⟨T6 w.params,265,{}, #[],{},611,os⟩ (piecesOf ((bd.drop 45).take 2) env cE ⟨193,0,195,68⟩ [topFrame ⟨0,0,0,0⟩])) =
    fun os=>some (.next,⟨T7 w.params,279,{}, #[],{},627,os⟩,cE,⟨200,0,201,56⟩):=by
  rw [Fast.te10110043849684766642,Fast.te14364793385576792824]; kernel_rfl
theorem p7 (w:World):(fun os=>segRunT treeTable P0 w 11 (some (.ref 6)) 1 586 ⟨T7 w.params,279,{}, #[],{},627,os⟩ (piecesOf ((bd.drop 47).take 1) env cE ⟨200,0,201,56⟩ [topFrame ⟨0,0,0,0⟩])) =
    fun os=>some (.next,⟨T8 w.params,377,{}, #[],{},755,os⟩,cE,⟨202,0,304,19⟩):=by
  rw [Fast.te10110043849684766642,Fast.te14364793385576792824]; kernel_rfl
theorem p8 (w:World):(fun os=>segRunT treeTable P0 w 11 (some (.ref 6)) 1 115 ⟨T8 w.params,377,{}, #[],{},755,os⟩ (piecesOf ((bd.drop 48).take 6) env cE ⟨202,0,304,19⟩ [topFrame ⟨0,0,0,0⟩])) =
    fun os=>some (.next,⟨T9 w.params,397,{}, #[],{},783,os⟩,cE,⟨314,0,318,25⟩):=by
  rw [Fast.te10110043849684766642,Fast.te14364793385576792824]; kernel_rfl
theorem p9 (w:World):(fun os=>segRunT treeTable P0 w 11 (some (.ref 6)) 1 910 ⟨T9 w.params,397,{}, #[],{},783,os⟩ (piecesOf ((bd.drop 54).take 1) env cE ⟨314,0,318,25⟩ [topFrame ⟨0,0,0,0⟩])) =
    fun os=>some (.next,⟨T10 w.params,570,{}, #[],{},990,os⟩,cE,⟨319,0,440,20⟩):=by
  rw [Fast.te10110043849684766642,Fast.te14364793385576792824]; kernel_rfl
theorem p10 (w:World):(fun os=>segRunT treeTable P0 w 11 (some (.ref 6)) 1 398 ⟨T10 w.params,570,{}, #[],{},990,os⟩ (piecesOf ((bd.drop 55).take 4) env cE ⟨319,0,440,20⟩ [topFrame ⟨0,0,0,0⟩])) =
    fun os=>some (.next,⟨T11 w.params,631,{}, #[],{},1084,os⟩,cE,⟨453,0,453,12⟩):=by
  rw [Fast.te10110043849684766642,Fast.te14364793385576792824]; kernel_rfl
theorem p11 (w:World):(fun os=>segRunT treeTable P0 w 11 (some (.ref 6)) 1 316 ⟨T11 w.params,631,{}, #[],{},1084,os⟩ (piecesOf ((bd.drop 59).take 9) env cE ⟨453,0,453,12⟩ [topFrame ⟨0,0,0,0⟩])) =
    fun os=>some (.next,⟨T12 w.params,697,{}, #[],{},1196,os⟩,cE,⟨499,0,519,117⟩):=by
  rw [Fast.te10110043849684766642,Fast.te14364793385576792824]; kernel_rfl
end Mine.H
end
section
namespace Mine.H
open PySem PySem.W
noncomputable def H0 (P:Params):Heap:=⟨⟨L0 P⟩,{}⟩
noncomputable def H1 (P:Params):Heap:=⟨⟨F P⟩,{}⟩
theorem q0 (w:World):(fun os=>topGo treeTable P0 w 11 (some (.ref 6)) 12 ⟨boot_heap w.params, #[],boot_drawn,boot_toks,os⟩ (topStub P0)) =
    fun os=>some (⟨H0 w.params, #[],{},187,os⟩,⟨denote treeTable cE,cE,⟨0,0,0,0⟩,[topFrame ⟨0,0,0,0⟩]⟩):=by
  rw [Fast.te15667345088766844465,Fast.te14364793385576792824,Fast.te11892475500146522536]; kernel_rfl
theorem q1 (w:World):(fun os=>segRun treeTable P0 w 11 (some (.ref 6)) 1 1 ⟨H0 w.params, #[],{},187,os⟩ (blockOf bd env cE ⟨0,0,0,0⟩ [topFrame ⟨0,0,0,0⟩])) =
    fun os=>some (.next,(⟨T0 w.params,15,{}, #[],{},187,os⟩:SharedT).abs,cE,⟨0,0,0,0⟩):=by
  rw [Fast.te14374325043358763698,Fast.te14364793385576792824]; kernel_rfl
theorem q2 (w:World):(fun os=>topRun treeTable P0 w 11 (some (.ref 6)) 2 (⟨T12 w.params,697,{}, #[],{},1196,os⟩:SharedT).abs ⟨doneF .next,cE,⟨499,0,519,117⟩,[topFrame ⟨0,0,0,0⟩]⟩) =
    fun os=>some ⟨H1 w.params, #[],{},1196,os⟩:=by
  rw [Fast.te14082659384304107361,Fast.te14364793385576792824]; kernel_rfl
theorem ex3 (w : World) : (fun os => segRunT treeTable P0 w 11 (some (.ref 6)) 1 383 ⟨T3 w.params, 111, {}, #[], {}, 314, os⟩ (piecesOf ((bd.drop 12).take 9) env cE ⟨41,0,42,20⟩ [topFrame ⟨0,0,0,0⟩])) = fun os => some (.next, ⟨T4 w.params, 154, {}, #[], {}, 409, os⟩, cE, ⟨89,0,95,26⟩) := byRow2 "special-get-raises" (P := fun w => (fun os => segRunT treeTable P0 w 11 (some (.ref 6)) 1 383 ⟨T3 w.params, 111, {}, #[], {}, 314, os⟩ (piecesOf ((bd.drop 12).take 9) env cE ⟨41,0,42,20⟩ [topFrame ⟨0,0,0,0⟩])) = fun os => some (.next, ⟨T4 w.params, 154, {}, #[], {}, 409, os⟩, cE, ⟨89,0,95,26⟩)) p3false p3true w
theorem ex5 (w : World) : (fun os => segRunT treeTable P0 w 11 (some (.ref 6)) 1 382 ⟨T5 w.params, 238, {}, #[], {}, 524, os⟩ (piecesOf ((bd.drop 35).take 10) env cE ⟨170,0,177,16⟩ [topFrame ⟨0,0,0,0⟩])) = fun os => some (.next, ⟨T6 w.params, 265, {}, #[], {}, 611, os⟩, cE, ⟨193,0,195,68⟩) := byRow2 "special-get-raises" (P := fun w => (fun os => segRunT treeTable P0 w 11 (some (.ref 6)) 1 382 ⟨T5 w.params, 238, {}, #[], {}, 524, os⟩ (piecesOf ((bd.drop 35).take 10) env cE ⟨170,0,177,16⟩ [topFrame ⟨0,0,0,0⟩])) = fun os => some (.next, ⟨T6 w.params, 265, {}, #[], {}, 611, os⟩, cE, ⟨193,0,195,68⟩)) p5false p5true w
theorem body_eq' {c:Code} {pos:Pos} {B:List Frame}:restOf bd env c pos B=restOf ((bd.drop 0).take 3 ++ ((bd.drop 3).take 1 ++ ((bd.drop 4).take 8 ++ ((bd.drop 12).take 9 ++ ((bd.drop 21).take 14 ++ ((bd.drop 35).take 10 ++ ((bd.drop 45).take 2 ++ ((bd.drop 47).take 1 ++ ((bd.drop 48).take 6 ++ ((bd.drop 54).take 1 ++ ((bd.drop 55).take 4 ++ ((bd.drop 59).take 9 ++ [])))))))))))) env c pos B:=congrArg (fun b=>restOf b env c pos B) (by kernel_rfl)
noncomputable abbrev MM:Nat:=Nat.add 12 (Nat.add 1 (Nat.add 305 (Nat.add 214 (Nat.add 385 (Nat.add 383 (Nat.add 394 (Nat.add 382 (Nat.add 61 (Nat.add 586 (Nat.add 115 (Nat.add 910 (Nat.add 398 (Nat.add 316 2)))))))))))))
theorem run (w:World) (os:OsState):topRun treeTable P0 w 11 (some (.ref 6)) MM ⟨boot_heap w.params, #[],boot_drawn,boot_toks,os⟩ (topStub P0)=some ⟨H1 w.params, #[],{},1196,os⟩:=by
  refine go_top (congrFun (q0 w) os) ?_
  refine piece_block (congrFun (q1 w) os) ?_
  rw [body_eq']
  refine piece_app (segRun_of (congrFun (p0 w) os)) ?_
  refine piece_app (segRun_of (congrFun (p1 w) os)) ?_
  refine piece_app (segRun_of (congrFun (p2 w) os)) ?_
  refine piece_app (segRun_of (congrFun (ex3 w) os)) ?_
  refine piece_app (segRun_of (congrFun (p4 w) os)) ?_
  refine piece_app (segRun_of (congrFun (ex5 w) os)) ?_
  refine piece_app (segRun_of (congrFun (p6 w) os)) ?_
  refine piece_app (segRun_of (congrFun (p7 w) os)) ?_
  refine piece_app (segRun_of (congrFun (p8 w) os)) ?_
  refine piece_app (segRun_of (congrFun (p9 w) os)) ?_
  refine piece_app (segRun_of (congrFun (p10 w) os)) ?_
  refine piece_app (segRun_of (congrFun (p11 w) os)) ?_
  exact congrFun (q2 w) os
end Mine.H
end
section
namespace Mine.H
open PySem PySem.W
noncomputable abbrev keep:List Nat:=[0,2,3,4,6,7,9,10,11,12,13,14,16,17,18,19,20,21,22,23,24,26,27,28,29,30,31,32,33,34,36,37,38,39,40,41,43,44,45,46,47,50,51,52,53,54,56,58,59,60,61,62,63,64,65,66,67]
noncomputable def view:Program:={ P0 with main:={ P0.main with body:=keep.filterMap fun i=>P0.main.body[i]? } }
noncomputable abbrev loose : List Str := ["LedgerError", "decimal", "FIGURE_NAMES", "OPPOSITES", "WORDS_OF_SIGNS", "WORDS_OF_RELATIONS", "word_here", "read_condition", "Token", "_law_spelled"]
noncomputable def num:Nat→List Obj→Frag
  | _,[]=>[]
  | i,x :: r=>(i,x) :: num (i + 1) r
noncomputable def K (P:Params):Frag:=num 0 (((F P).drop 0).take 23) ++ (num 29 (((F P).drop 29).take 20) ++ (num 51 (((F P).drop 51).take 1) ++ (num 58 (((F P).drop 58).take 3) ++ (num 63 (((F P).drop 63).take 1) ++ (num 70 (((F P).drop 70).take 3) ++ (num 75 (((F P).drop 75).take 204) ++ (num 286 (((F P).drop 286).take 89) ++ (num 377 (((F P).drop 377).take 20) ++ (num 404 (((F P).drop 404).take 164) ++ (num 577 (((F P).drop 577).take 21) ++ (num 600 (((F P).drop 600).take 97))))))))))))
noncomputable abbrev as:List Addr:=List.range' 0 23 ++ List.range' 29 20 ++ List.range' 51 1 ++ List.range' 58 3 ++ List.range' 63 1 ++ List.range' 70 3 ++ List.range' 75 204 ++ List.range' 286 89 ++ List.range' 377 20 ++ List.range' 404 164 ++ List.range' 577 21 ++ List.range' 600 97
theorem as_eq (P:Params):as=(K P).map (·.1):=by kernel_rfl
theorem open1:opening P0=plainProg P0.main.scope.names:=by kernel_rfl
theorem open2 (s:Shared):fenceModules? P0 s=some s:=by kernel_rfl
theorem opens (w:World):(fencedOpening treeTable P0 w 9000).map (fun s=>(s.heap,s.gens,s.drawn,s.toks))=some (boot_heap w.params, #[],boot_drawn,boot_toks):=boot_open (p:=P0) (N:=9000) open1 (by decide) open2 w
theorem size (w : World) : ((boot_heap w.params).isNs mainGlobals && (#[] : Array GenState).size == 0, (boot_heap w.params).objs.size, (boot_heap w.params).nsMap mainGlobals "__annotations__") = (true, 11, some (.ref 6)) := by
  rw [Fast.te8920871248978507458]; kernel_rfl
abbrev R:=PySem.Challenge.rw_pc0147_02
theorem look1 (w:World):(fun os:OsState=>(staticsOk (importedModules P0.main.body) (boot_heap w.params) (H1 w.params) && namesBound P0 (H1 w.params) && gensDone ⟨H1 w.params, #[],{},1196,os⟩ && laidKept (boot_heap w.params) (H1 w.params)))=fun _=>true:=by
  kernel_rfl
theorem look3 (w:World):(fun os:OsState=>X.obsZ as ⟨H1 w.params, #[],{},1196,os⟩)=fun _=>X.valZ K 697 1196 w:=by
  kernel_rfl
end Mine.H
end
section
namespace Mine.H
open PySem PySem.W PyProof.Rows
noncomputable abbrev Xt:Shared→Bool:=fun s=>xlAt view [] s && recOk (RowW.records R.row.toRowW) s
noncomputable def S1 (w:World) (os:OsState):Shared:=⟨H1 w.params, #[],{},1196,os⟩
theorem c1 (w:World):(fun os=>seen ((recsOf view).map (·.name)) (ownsOf view) [] { (S1 w os) with gens := #[] })=fun _=>expectedOf view:=by rw [Fast.te5160383126252970620,Fast.te3399658132070893891,Fast.te5991557255702980513]; kernel_rfl
theorem c2 (w:World):(fun os=>(S1 w os).heap.bltView)=fun _=>bltViewBooted:=by kernel_rfl
theorem c3 (w:World):(fun os=>(openSeen view loose (importedModules P0.main.body) Xt true (S1 w os)).2.2.1)=fun _=>true:=by rw [Fast.te4187177175401517315,Fast.te5923862056798008813]; kernel_rfl
noncomputable abbrev resv:Str:=rsv
theorem vn : valNames view = (["FIGURES", "MOST_SUBSCRIPTS", "FIGURE_NAMES", "MOST_DEEP_expressions", "MOST_DEEP_conditions", "OPPOSITES", "CLASSES", "WORDS_OF_SIGNS", "WORDS_OF_RELATIONS", "RELATIONS", "MOST_OCTET", "RESERVED", "_law_spelled", "_law_others"] : List Str) := by kernel_rfl
theorem v0 (w : World) : ((["FIGURES", "MOST_SUBSCRIPTS", "FIGURE_NAMES", "MOST_DEEP_expressions", "MOST_DEEP_conditions", "OPPOSITES", "CLASSES", "WORDS_OF_SIGNS", "WORDS_OF_RELATIONS", "RELATIONS", "MOST_OCTET", "_law_spelled", "_law_others"] : List Str).all fun x => match valOf view x with | some d => (H1 w.params).constOk x d | none => true) = true := by kernel_rfl
theorem vr : valOf view "RESERVED" = some (.str resv) := by kernel_rfl
theorem vh (w : World) : (H1 w.params).nsMap mainGlobals "RESERVED" = some (.str resv 768) := by kernel_rfl
theorem const_str {h:Heap} {x s:Str} {t:Tok} (e:h.nsMap mainGlobals x=some (.str s t)):h.constOk x (.str s)=true:=by
  unfold Heap.constOk; rw [e]; exact beq_self_eq_true s
theorem v2 (w:World):valsOk view (H1 w.params)=true:=by
  unfold valsOk
  rw [vn]
  refine List.all_eq_true.mpr fun x hx => ?_
  by_cases hr : x = "RESERVED"
  · subst hr; rw [vr]; exact const_str (vh w)
  · refine List.all_eq_true.mp (v0 w) x ?_
    simpa only [List.mem_cons,List.mem_nil_iff,or_false,hr,false_or] using hx
theorem c4a (w:World):((recsOf view).all fun d=>(H1 w.params).tab0Ok d.name)=true:=by kernel_rfl
theorem c4b (w:World):(H1 w.params).bmainOk=true:=by kernel_rfl
theorem c4c (w:World):(!importsNone view || (H1 w.params).noSeerOk)=true:=by kernel_rfl
theorem c4' (w:World) (os:OsState):tabsOk view (S1 w os)=true:=by
  unfold tabsOk
  exact Bool.and_eq_true_iff.mpr ⟨Bool.and_eq_true_iff.mpr ⟨Bool.and_eq_true_iff.mpr ⟨c4a w,c4b w⟩,v2 w⟩,c4c w⟩
theorem c4 (w:World):(fun os=>tabsOk view (S1 w os))=fun _=>true:=funext fun os=>c4' w os
theorem c5 (w:World):(fun os=>pinSeenD view (drecsOf view) (S1 w os))=fun _=>pinGoodD (drecsOf view):=by rw [Fast.te16090120013241838585,Fast.te3247288618530077131]; kernel_rfl
theorem c6 (w:World):(fun os=>plainSeenE view (looseW view loose) (S1 w os))=fun _=>plainGoodE view (looseW view loose):=by rw [Fast.te2386780881361962483,Fast.te821141287760084731]; kernel_rfl
theorem c7 (w:World):(fun os=>plainSeenD view loose (S1 w os))=fun _=>plainGoodD view loose:=by rw [Fast.te11698064438423848299]; kernel_rfl
theorem c8 (w:World):(fun os=>wideSeen view (S1 w os))=fun _=>wideGood view:=by rw [Fast.te7317090234206586261]; kernel_rfl
theorem c9 (w:World):(fun os=>clsSeenW view loose (S1 w os))=fun _=>clsGoodW view loose:=by rw [Fast.te7369524293546568484]; kernel_rfl
theorem tup9 {A1 A2 A3 A4 A5 A6 A7 A8 A9:Type} {a1 b1:A1} {a2 b2:A2} {a3 b3:A3} {a4 b4:A4} {a5 b5:A5} {a6 b6:A6} {a7 b7:A7} {a8 b8:A8} {a9 b9:A9}
    (e1:a1=b1) (e2:a2=b2) (e3:a3=b3) (e4:a4=b4) (e5:a5=b5) (e6:a6=b6) (e7:a7=b7) (e8:a8=b8) (e9:a9=b9) :
    (a1,a2,a3,a4,a5,a6,a7,a8,a9)=(b1,b2,b3,b4,b5,b6,b7,b8,b9):=by rw [e1,e2,e3,e4,e5,e6,e7,e8,e9]
theorem tup3 {A1 A2 A3:Type} {a1 b1:A1} {a2 b2:A2} {a3 b3:A3} (e1:a1=b1) (e2:a2=b2) (e3:a3=b3):(a1,a2,a3)=(b1,b2,b3):=by rw [e1,e2,e3]
theorem look2 (w:World) (os:OsState):openSeen view loose (importedModules P0.main.body) Xt true (S1 w os)=openGood view loose:=by
  have h1:=congrFun (c1 w) os
  have h2:=congrFun (c2 w) os
  have h3:=congrFun (c3 w) os
  have h4:=congrFun (c4 w) os
  have h5:=congrFun (c5 w) os
  have h6:=congrFun (c6 w) os
  have h7:=congrFun (c7 w) os
  have h8:=congrFun (c8 w) os
  have h9:=congrFun (c9 w) os
  dsimp only at h1 h2 h3 h4 h5 h6 h7 h8 h9
  generalize S1 w os=s at h1 h2 h3 h4 h5 h6 h7 h8 h9 ⊢
  unfold openSeen at h3
  unfold openSeen openGood
  exact tup9 h1 h2 h3 h4 h5 h6 h7 h8 h9
theorem left:LeftO P0 view loose Xt (X.obsZ as) (X.valZ K 697 1196) 9000:=by
  refine LeftO.of_pieces opens size run (by decide) fun w => ?_
  funext os
  have l1:=congrFun (look1 w) os
  have l2:=look2 w os
  have l3:=congrFun (look3 w) os
  unfold S1 at l2
  exact tup3 l1 l2 l3
end Mine.H
end
section
namespace Mine.H
open PySem PySem.W PyProof.Rows PySem.W.X
noncomputable def dd:DefRec × List (PySem.Str × Expr):=match defOf view R.name with
  | some x=>x
  | none=>(⟨Str.empty,⟨[],[],none,[],[],none,[]⟩,[],⟨.function,[],false,false,[]⟩,⟨0,0,0,0⟩⟩,[])
theorem hdef:defOf view R.row.name=some (dd.1,[]):=by kernel_rfl
theorem hp:P0.theDef R.row.name=some (dd.1.params,dd.1.body,dd.1.scope):=by kernel_rfl
theorem hk:kwWritten? dd.1.params.kwonlyargs dd.1.params.kw_defaults=some []:=by kernel_rfl
theorem hch:chainsOk view=true:=by kernel_rfl
theorem how:opensWell R.prog=true:=by kernel_rfl
theorem hfr:(frees R.row.toRowW && R.row.within.isEmpty)=true:=by kernel_rfl
theorem hbare:P0.bare:=⟨rfl,rfl,rfl,rfl,rfl,by decide +kernel⟩
end Mine.H
end
section
namespace Mine
open PySem PySem.W PyProof.Rows PySem.W.X PySem.W.ZRun
noncomputable abbrev KK (w:World):Frag:=kfree (H.K w.params)
section
variable (w:World) (B:Heap) (mg mb:PySem.Str→Option Value)
noncomputable abbrev cc:Cx:=mkCx H.P0 w (KK w) B mg mb
abbrev FO (g:Nat) (d:FnD):Prop := ∃ a,fnAT g=some a∧FnF (cc w B mg mb) a d
local macro_rules | `(tactic| w_left) => `(tactic| exact ⟨_,rfl,⟨by kernel_rfl,by kernel_rfl,by kernel_rfl,by intro S a b x y z; kernel_rfl,by intro S a b x y z; kernel_rfl,by intro S a b x y z; kernel_rfl⟩⟩)
theorem f16:FO w B mg mb 16 fd_is_part_next:=by w_left
theorem f19:FO w B mg mb 19 fd_read_ref:=by w_left
theorem f21:FO w B mg mb 21 fd_read_figure:=by w_left
theorem f22:FO w B mg mb 22 fd_read_operand:=by w_left
theorem f23:FO w B mg mb 23 fd_read_expression:=by w_left
theorem f24:FO w B mg mb 24 fd_sign_among:=by w_left
theorem f25:FO w B mg mb 25 fd_read_sum:=by w_left
theorem f26:FO w B mg mb 26 fd_read_product:=by w_left
theorem f27:FO w B mg mb 27 fd_read_factor:=by w_left
theorem f28:FO w B mg mb 28 fd_is_lone_number:=by w_left
theorem f29:FO w B mg mb 29 fd_read_power:=by w_left
theorem f30:FO w B mg mb 30 fd_read_primary:=by w_left
theorem f32:FO w B mg mb 32 fd_word_here:=by w_left
theorem f33:FO w B mg mb 33 fd_is_relation_at:=by w_left
theorem f34:FO w B mg mb 34 fd_place_of_word:=by w_left
theorem f35:FO w B mg mb 35 fd_is_predicate_here:=by w_left
theorem f36:FO w B mg mb 36 fd_is_bare_relation_here:=by w_left
theorem f37:FO w B mg mb 37 fd_read_condition:=by w_left
theorem f38:FO w B mg mb 38 fd_is_reserved:=by w_left
theorem f39:FO w B mg mb 39 fd__law_turned:=by w_left
theorem f40:FO w B mg mb 40 fd__law_draw:=by w_left
theorem f41:FO w B mg mb 41 fd__law_pen:=by w_left
theorem f42:FO w B mg mb 42 fd__law_reader:=by w_left
theorem f43:FO w B mg mb 43 fd__law_ref:=by w_left
theorem f44:FO w B mg mb 44 fd__law_told:=by w_left
theorem f45:FO w B mg mb 45 fd__law_heard:=by w_left
theorem f90:FO w B mg mb 90 fd_law:=by w_left
theorem f199:FO w B mg mb 199 fd_Token___init__:=by w_left
theorem f211:FO w B mg mb 211 fd_Reader_peek:=by w_left
theorem f212:FO w B mg mb 212 fd_Reader_fault:=by w_left
theorem f213:FO w B mg mb 213 fd_Reader_take:=by w_left
theorem f214:FO w B mg mb 214 fd_Reader_is_kind:=by w_left
theorem f215:FO w B mg mb 215 fd_Reader_is_word:=by w_left
theorem f216:FO w B mg mb 216 fd_Reader_skip:=by w_left
theorem f217:FO w B mg mb 217 fd_Reader_one_of:=by w_left
theorem f218:FO w B mg mb 218 fd_Reader_is_name:=by w_left
theorem f219:FO w B mg mb 219 fd_Reader_name:=by w_left
theorem f220:FO w B mg mb 220 fd_Reader_is_sign:=by w_left
theorem f221:FO w B mg mb 221 fd_Reader_skip_sign:=by w_left
theorem f222:FO w B mg mb 222 fd_Reader_need_sign:=by w_left
theorem f223:FO w B mg mb 223 fd_Reader_is_number:=by w_left
theorem f299:FO w B mg mb 299 fd_Reader___init__:=by w_left
theorem f326:FO w B mg mb 326 fd_ConditionReader_either:=by w_left
theorem f327:FO w B mg mb 327 fd_ConditionReader_both:=by w_left
theorem f328:FO w B mg mb 328 fd_ConditionReader_turned:=by w_left
theorem f329:FO w B mg mb 329 fd_ConditionReader_single:=by w_left
theorem f330:FO w B mg mb 330 fd_ConditionReader_unbracketed:=by w_left
theorem f331:FO w B mg mb 331 fd_ConditionReader_in_brackets:=by w_left
theorem f332:FO w B mg mb 332 fd_ConditionReader_subject_of_last:=by w_left
theorem f333:FO w B mg mb 333 fd_ConditionReader_sign_of_last:=by w_left
theorem f334:FO w B mg mb 334 fd_ConditionReader_predicate:=by w_left
theorem f335:FO w B mg mb 335 fd_ConditionReader_relation:=by w_left
theorem f336:FO w B mg mb 336 fd_ConditionReader_sign_here:=by w_left
theorem f399:FO w B mg mb 399 fd_ConditionReader___init__:=by w_left
theorem look_all {α:Type} {P:Nat→α→Prop} : ∀ l:List (Nat × α),l.foldr (fun p R=>P p.1 p.2∧R) True → ∀ g v,look l g=some v→P g v
  | p :: r, H, g, v, h => by
    unfold look at h
    cases e:Nat.beq g p.1 with
    | true =>
      rw [e] at h
      obtain rfl:=Nat.eq_of_beq_eq_true e
      obtain rfl:=Option.some.inj h
      exact H.1
    | false=>rw [e] at h; exact look_all r H.2 g v h
theorem fns_ : ∀ g d,fnT g=some d → ∃ a,fnAT g=some a∧FnF (cc w B mg mb) a d:=look_all (P:=fun g d => ∃ a,fnAT g=some a∧FnF (cc w B mg mb) a d) fnL ⟨f16 w B mg mb,f19 w B mg mb,f21 w B mg mb,f22 w B mg mb,f23 w B mg mb,f24 w B mg mb,f25 w B mg mb,f26 w B mg mb,f27 w B mg mb,f28 w B mg mb,f29 w B mg mb,f30 w B mg mb,f32 w B mg mb,f33 w B mg mb,f34 w B mg mb,f35 w B mg mb,f36 w B mg mb,f37 w B mg mb,f38 w B mg mb,f39 w B mg mb,f40 w B mg mb,f41 w B mg mb,f42 w B mg mb,f43 w B mg mb,f44 w B mg mb,f45 w B mg mb,f90 w B mg mb,f199 w B mg mb,f211 w B mg mb,f212 w B mg mb,f213 w B mg mb,f214 w B mg mb,f215 w B mg mb,f216 w B mg mb,f217 w B mg mb,f218 w B mg mb,f219 w B mg mb,f220 w B mg mb,f221 w B mg mb,f222 w B mg mb,f223 w B mg mb,f299 w B mg mb,f326 w B mg mb,f327 w B mg mb,f328 w B mg mb,f329 w B mg mb,f330 w B mg mb,f331 w B mg mb,f332 w B mg mb,f333 w B mg mb,f334 w B mg mb,f335 w B mg mb,f336 w B mg mb,f399 w B mg mb,trivial⟩
end
section
variable (w:World)
theorem all_but {f:Nat→Bool} {n:Nat} (k:Nat) (h:((List.range n).all fun g=>Nat.beq g k || f g)=true) (hk:f k=true):(List.range n).all f=true:=by
  refine List.all_eq_true.mpr fun g hg => ?_
  have:=List.all_eq_true.mp h g hg
  cases e:Nat.beq g k with
  | true=>obtain rfl:=Nat.eq_of_beq_eq_true e; exact hk
  | false=>rw [e] at this; exact this
theorem gl10_ns:nsIn (KK w) mainGlobals (gnT 10)=some (some (.str H.resv 768)):=by kernel_rfl
noncomputable abbrev gl10L:CS:=match glT 10 with | some (.str l)=>l | _=>[]
theorem gl10_t:glT 10=some (.str gl10L):=by kernel_rfl
theorem gl10_l:(rl.map Char.toNat == gl10L)=true:=by kernel_rfl
theorem gl10_s:(H.resv.cps.toList == gl10L)=true:=by
  have e:H.resv=Str.ofString rs:=rfl
  rw [e,rs_eq,Fast.ofString_ofList]
  exact gl10_l
theorem gl10_f:(match glT 10 with
  | none=>true
  | some (.dct _ _)=>[4,5,7,8].contains 10
  | some v => match nsIn (KK w) mainGlobals (gnT 10) with
    | some (some x)=>repB (KK w) 60 v x
    | _=>false)=true:=by
  rw [gl10_t,gl10_ns]
  exact gl10_s
theorem k_gl:glB (KK w)=true:=all_but 10 (by kernel_rfl) (gl10_f w)
theorem k_d4:DctF (KK w) w.params 4:=⟨by kernel_rfl,by kernel_rfl,by kernel_rfl,by kernel_rfl⟩
theorem k_d5:DctF (KK w) w.params 5:=⟨by kernel_rfl,by kernel_rfl,by kernel_rfl,by kernel_rfl⟩
theorem k_d7:DctF (KK w) w.params 7:=⟨by kernel_rfl,by kernel_rfl,by kernel_rfl,by kernel_rfl⟩
theorem k_d8:DctF (KK w) w.params 8:=⟨by kernel_rfl,by kernel_rfl,by kernel_rfl,by kernel_rfl⟩
theorem k_cls:clsB (KK w)=true:=by kernel_rfl
theorem k_mth:mthB (KK w)=true:=by kernel_rfl
theorem k_keep:keepB (KK w)=true:=by kernel_rfl
theorem k_exc:excB (KK w)=true:=by kernel_rfl
theorem k_free:freeB (KK w)=true:=by kernel_rfl
variable (B:Heap) (mg mb:PySem.Str→Option Value)
theorem k_l0:LamF (cc w B mg mb) 0 (lamPrim (rOf (KK w) aPrim)) lam_0:=⟨fun _=>rfl,by kernel_rfl,by kernel_rfl,by kernel_rfl,by intro a x cl pm cdv ct; kernel_rfl⟩
theorem k_l1:LamF (cc w B mg mb) 1 (lamCond (rOf (KK w) aCond)) lam_1:=⟨fun _=>rfl,by kernel_rfl,by kernel_rfl,by kernel_rfl,by intro a x cl pm cdv ct; kernel_rfl⟩
theorem facts_of:Facts (cc w B mg mb) where
  fns:=fns_ w B mg mb
  gl:=k_gl w
  d4:=k_d4 w
  d5:=k_d5 w
  d7:=k_d7 w
  d8:=k_d8 w
  cls:=k_cls w
  mth:=k_mth w
  keep:=k_keep w
  exc:=k_exc w
  free:=k_free w
  i_at:=by kernel_rfl
  i_b:=by kernel_rfl
  i_body:=⟨⟨8,8,8,17⟩,⟨8,8,8,26⟩,⟨8,27,8,31⟩,⟨8,33,8,37⟩,⟨8,8,8,38⟩,⟨8,8,8,38⟩,⟨9,8,9,12⟩,⟨9,8,9,17⟩,⟨9,20,9,24⟩,⟨9,8,9,24⟩,⟨10,8,10,12⟩,⟨10,8,10,15⟩,⟨10,18,10,20⟩,⟨10,8,10,20⟩,by kernel_rfl,by kernel_rfl⟩
  i_bind:=by intro S a b d; kernel_rfl
  l0:=k_l0 w B mg mb
  l1:=k_l1 w B mg mb
end
end Mine
end
section
namespace Mine
open PySem PySem.W PyProof.Rows PySem.W.X PySem.W.ZRun
theorem tabs_b (w:World):tabsB (H.K w.params)=true:=by kernel_rfl
theorem fa_in (P:Params):nsIn (H.K P) mainGlobals H.R.row.name=some (some (.ref 696)):=by kernel_rfl
theorem cw02:L.Holds:=by
  w_on
  refine holds_law Mine.said fun said => ?_
  refine holds_openX (r:=L.row) (q:=H.view) (loose:=H.loose) (Xt:=H.Xt) (XP:=XL H.view []) (Yf:=X.obsZ H.as) (Ya:=X.valZ H.K 697 1196) (d:=H.dd.1) (kwd:=[]) (N:=9000) H.left (fun s e=>xl_of s (Bool.and_eq_true_iff.mp e).1) XL.keeps H.hdef H.hp H.hk (fun s e=>recFacts_of (Bool.and_eq_true_iff.mp e).2) rfl said (Bool.and_eq_true_iff.mpr ⟨Bool.and_eq_true_iff.mpr ⟨H.hch,H.how⟩,H.hfr⟩) H.hbare ?hw ?hc
  (case hw=>w_witness2)
  intro w s₀ s₁ mg mb G y fa o pm cd doc dV kV ho hd hcd hD hmg hg args vals as L hpre hlay hrd hwl hlo
  obtain ⟨-,ZI,ZN,ZT⟩:=X.z_facts H.as_eq y
  have KX:(H.K w.params).In s₁.heap:=InK.keeps w s₀.heap s₁.heap ZI L.keeps
  clear ZI y
  refine Ground.open G ?_
  intro T B D TE TW
  clear hd hcd hD ho
  have hfa:fa=696:=by
    have e:=mg_of KX T.g (fa_in w.params)
    exact Value.ref.inj (Option.some.inj (hmg.symm.trans e))
  subst hfa
  clear hmg G D TE TW B
  wrow_args hpre hlay hrd hwl hlo
  obtain ⟨hat,hsz⟩:=script_at L
  have htk:=script_toks L ZT
  rw [ZN] at hat hsz
  subst hat
  rename IntsAre _ _=>hI
  rename Heap.IsList _ _ _=>hL
  have hobj:=script_obj L hL
  rename ¬ _ < _=>hh
  obtain ⟨σ,hr⟩:=Mine.Pu.law02 (Int.ofNat_le.mp (Int.not_lt.mp hh))
  refine wpAny_mono (law_goes (w:=w) KX ⟨T.g,T.b,T.nolimit,T.bmain,T.builtins⟩ (tabs_b w) (fun B => ?_) hobj hI (n:=419) (by decide) hr (by decide) (by decide)) (fun v s' h => ?_) (fun e s' h=>h.elim)
  · exact facts_of w B mg mb
  · obtain ⟨rfl, h1, h2, h3⟩ := h
    exact ⟨.inl ⟨_,_,[],rfl,fun _=>rfl,ReadsW.bool true,by first | rfl | wrow_post,fun _=>⟨List.nodup_nil,fun _ hm=>(nomatch hm)⟩⟩,h1,h2, .of_eq (h3.trans hg)⟩
end Mine
end
set_option maxRecDepth 100000 in
set_option maxHeartbeats 8000000 in
theorem PySem.Challenge.cw_pc0147_02_holds : PySem.Challenge.rw_pc0147_02.Holds := by
  exact Mine.cw02
