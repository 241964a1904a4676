import PyProof.Rows.All
import Wide.All
import OpenK.AllK
import Wide.FinOn
import Lean
import PySem.Challenge.RW_ot0025_01
open PySem PySem.W PyProof.Rows PySem.Calls PySem.SeqAt
set_option linter.all false
set_option Elab.async false
set_option maxRecDepth 100000
set_option bootstrap.genMatcherCode false
set_option genSizeOf false
namespace Mine
noncomputable abbrev T:=List Nat
inductive Cst where
 | none | bool (b:Bool) | int (i:Int) | str (t:T)
inductive It where
 | val | rng | enm
mutual
inductive Ex where
 | cst (c:Cst)
 | loc (x:Nat) | cel (x:Nat) | glob (x:Nat)
 | list (es:Exs) | tup (es:Exs) | dict (ks:List T) (vs:Exs)
 | sub (a i:Ex) | slc (a:Ex) (lo:Option Int) (hi:Ex)
 | bin (op:Operator) (a b:Ex) | mulL (es:Exs) (b:Ex) | neg (a:Ex) | not (a:Ex)
 | cmp (op:CmpOp) (a b:Ex)
 | and (a b:Ex) | or (a b:Ex)
 | ite (c a b:Ex)
 | call (f:Nat) (es:Exs) | callp (f:Nat) (a b:Ex) | callv (f:Ex)
 | bi (f:Nat) (es:Exs)
 | join (sep:T) (a:Ex) | get (d k v:Ex) | meth (m:Nat) (a:Ex) (arg:Option T)
 | comp (elt:Ex) (one:Bool) (tg:List Nat) (k:It) (it:Ex) (cs:Exs)
 | lam (x:Nat) (b:Ex)
inductive Exs where
 | nil | cons (e:Ex) (es:Exs)
end
mutual
inductive St where
 | assign (fz:Bool) (cl:Bool) (x:Nat) (e:Ex)
 | assignT (xs:List (Bool×Nat)) (e:Ex)
 | own (x:Nat) (e:Ex)
 | append (x:Nat) (e:Ex)
 | pool (i:Nat) (e:Ex)
 | ret (e:Ex)
 | ite (c:Ex) (a b:Sts)
 | for (one:Bool) (tg:List Nat) (k:It) (it:Ex) (body:Sts)
 | while (c:Ex) (body:Sts)
inductive Sts where
 | nil | cons (s:St) (ss:Sts)
end
inductive D where
 | none | bool (b:Bool) | int (i:Int) | str (t:T)
 | tup (l:List D) | lst (l:List D) | dict (ks:List T) (l:List D)
 | pool | lam (b:Ex) (x:Nat) (d:D)
noncomputable abbrev Pi:=Int×Int
noncomputable def eqT (a b:T):Bool:=decide (a=b)
theorem eqT_iff {a b:T}:eqT a b=true↔a=b:=by simp [eqT]
noncomputable def Cst.d:Cst→D
 | .none=>.none | .bool b=>.bool b | .int i=>.int i | .str t=>.str t
noncomputable def asS:D→Option T
 | .str t=>some t
 | _=>none
noncomputable def asI:D→Option Int
 | .int i=>some i
 | _=>none
noncomputable def asT:D→Option (List D)
 | .tup l=>some l
 | _=>none
noncomputable def asL:D→Option (List D)
 | .lst l=>some l
 | _=>none
theorem asS_inv {d:D}{t:T}(h:asS d=some t):d=.str t:=by cases d <;> cases h;rfl
theorem asI_inv {d:D}{t:Int}(h:asI d=some t):d=.int t:=by cases d <;> cases h;rfl
theorem asT_inv {d:D}{t:List D}(h:asT d=some t):d=.tup t:=by cases d <;> cases h;rfl
theorem asL_inv {d:D}{t:List D}(h:asL d=some t):d=.lst t:=by cases d <;> cases h;rfl
noncomputable def onD {α:Type}(o:Option α) (k:α→Prop):Prop:=
 match o with
 | some d=>k d
 | none=>False
noncomputable def onN {α:Type}(o:Option α) (p:Prop):Prop:=
 match o with
 | some _=>False
 | none=>p
theorem onD_inv {α:Type}{o:Option α}{k:α→Prop}(h:onD o k):∃ d,o=some d∧k d:=by
 cases o with
 | none=>exact h.elim
 | some d=>exact ⟨d,rfl,h⟩
theorem onN_inv {α:Type}{o:Option α}{p:Prop}(h:onN o p):o=none∧p:=by
 cases o with
 | none=>exact ⟨rfl,h⟩
 | some d=>exact h.elim
theorem onS_inv {d:D}{k:T→Prop}(h:onD (asS d) k):∃ t,d=.str t∧k t:=let ⟨t,e,h⟩:=onD_inv h;⟨t,asS_inv e,h⟩
theorem onI_inv {d:D}{k:Int→Prop}(h:onD (asI d) k):∃ t,d=.int t∧k t:=let ⟨t,e,h⟩:=onD_inv h;⟨t,asI_inv e,h⟩
theorem onT_inv {d:D}{k:List D→Prop}(h:onD (asT d) k):∃ t,d=.tup t∧k t:=let ⟨t,e,h⟩:=onD_inv h;⟨t,asT_inv e,h⟩
theorem onL_inv {d:D}{k:List D→Prop}(h:onD (asL d) k):∃ t,d=.lst t∧k t:=let ⟨t,e,h⟩:=onD_inv h;⟨t,asL_inv e,h⟩
noncomputable def truth:D→Option Bool
 | .none=>some false
 | .bool b=>some b
 | .str t=>some (!t.isEmpty)
 | _=>none
noncomputable def nilO (b:Bool) (m:List D):Option Bool:=
 match m with
 | []=>some b
 | _::_=>none
noncomputable def eqD (a b:D):Option Bool:=
 match a with
 | .str x=>(asS b).map (eqT x)
 | .int i=>(asI b).map fun j=>decide (i=j)
 | .tup l=>(asT b).bind (nilO l.isEmpty)
 | .lst l=>(asL b).bind (nilO l.isEmpty)
 | _=>none
noncomputable def isD (a b:D):Option Bool:=
 match b with
 | .none=>match a with
  | .none=>some true
  | .bool _=>some false
  | .int _=>some false
  | .str _=>some false
  | .tup _=>some false
  | .lst _=>some false
  | _=>none
 | .bool y=>match a with
  | .bool x=>some (x==y)
  | .str _=>some false
  | .none=>some false
  | _=>none
 | _=>none
noncomputable def isStrD:D→Bool
 | .str _=>true
 | _=>false
noncomputable def strOf:D→T
 | .str t=>t
 | _=>[]
noncomputable def inL (t:T) (l:List D):Option Bool:=
 if l.all isStrD=true then some (l.any fun d=>eqT (strOf d) t) else none
noncomputable def inD (a b:D):Option Bool:=
 (asS a).bind fun t=>match b with
  | .tup l=>inL t l
  | .lst l=>inL t l
  | _=>none
noncomputable def onB (o:Option Bool) (k:Bool→Prop):Prop:=
 match o with
 | some b=>k b
 | none=>False
noncomputable def cmpW (op:CmpOp) (a b:D) (k:D→Prop):Prop:=
 match op with
 | .Eq=>onB (eqD a b) fun r=>k (.bool r)
 | .NotEq=>onB (eqD a b) fun r=>k (.bool (!r))
 | .Is=>onB (isD a b) fun r=>k (.bool r)
 | .IsNot=>onB (isD a b) fun r=>k (.bool (!r))
 | .In=>onB (inD a b) fun r=>k (.bool r)
 | .NotIn=>onB (inD a b) fun r=>k (.bool (!r))
 | .Lt=>onD (asI a) fun i=>onD (asI b) fun j=>k (.bool (decide (i < j)))
 | .Gt=>onD (asI a) fun i=>onD (asI b) fun j=>k (.bool (decide (i > j)))
 | .GtE=>onD (asI a) fun i=>onD (asI b) fun j=>k (.bool (decide (i ≥ j)))
 | _=>False
noncomputable def strBound:Nat:=4000000
noncomputable def chk (b:Bool) (p:Prop):Prop:=
 match b with
 | true=>p
 | false=>False
theorem chk_iff {b:Bool}{p:Prop}:chk b p↔b=true∧p:=by cases b <;> simp [chk]
noncomputable def chkL (n:Nat) (p:Prop):Prop:=chk (Nat.ble n strBound) p
theorem chkL_iff {n:Nat}{p:Prop}:chkL n p↔n≤strBound∧p:=by unfold chkL;rw [chk_iff,Nat.ble_eq]
noncomputable def repL {α:Type}(l:List α):Nat→List α
 | 0=>[]
 | n+1=>l++repL l n
noncomputable def binW (op:Operator) (a b:D) (k:D→Prop):Prop:=
 match op with
 | .Add=>match a with
  | .str x=>onD (asS b) fun y=>(x++y).length≤strBound∧k (.str (x++y))
  | .int x=>onD (asI b) fun y=>k (.int (x+y))
  | .lst x=>onD (asL b) fun y=>chkL (x++y).length (k (.lst (x++y)))
  | _=>False
 | .Sub=>onD (asI a) fun x=>onD (asI b) fun y=>k (.int (x - y))
 | .Mult=>match a with
  | .int x=>onD (asI b) fun y=>(-4294967296≤x∧x≤4294967296)∧k (.int (x*y))
  | .str x=>onD (asI b) fun n=>(0≤n∧n≤4000000∧x.length≤4)∧k (.str (repL x n.toNat))
  | _=>False
 | .FloorDiv=>onD (asI a) fun x=>onD (asI b) fun y=>(0 < y∧y≤4294967296)∧k (.int (x / y))
 | .Mod=>onD (asI a) fun x=>onD (asI b) fun y=>0 < y∧k (.int (x % y))
 | .Pow=>onD (asI a) fun x=>onD (asI b) fun y=>(x=10∧y=18)∧k (.int 1000000000000000000)
 | _=>False
noncomputable def small (i:Int):Bool:=
 match i with
 | .ofNat n=>Nat.ble n 1000
 | .negSucc n=>Nat.ble n 999
theorem small_iff {i:Int}:small i=true↔-1000≤i∧i≤1000:=by
 cases i with
 | ofNat n=>unfold small;rw [Nat.ble_eq];have:Int.ofNat n=n:=rfl;lia
 | negSucc n=>unfold small;rw [Nat.ble_eq];lia
noncomputable def nonneg (i:Int):Bool:=
 match i with
 | .ofNat _=>true
 | .negSucc _=>false
theorem nonneg_iff {i:Int}:nonneg i=true↔0≤i:=by
 cases i with
 | ofNat n=>have:Int.ofNat n=n:=rfl;simp [nonneg,this]
 | negSucc n=>simp [nonneg]
noncomputable def idxO (l:List D) (i:Int):Option D:=
 match i with
 | .ofNat n=>l[n]?
 | .negSucc n=>match Nat.ble (n+1) l.length with
  | true=>l[l.length - (n+1)]?
  | false=>none
noncomputable def idx (l:List D) (i:Int) (k:D→Prop):Prop:=chk (small i) (onD (idxO l i) k)
noncomputable def look:List T→List D→T→Option D
 | u::ks,d::ds,t=>if eqT t u then some d else look ks ds t
 | _,_,_=>none
noncomputable def strAt (t:T) (n:Int):Option Nat:=if 0≤n then t[n.toNat]? else if 0≤n+t.length then t[(n+t.length).toNat]? else none
noncomputable def poolAt (π:Pi) (n:Int):Option Int:=
 match n with
 | .ofNat 0=>some π.1
 | .ofNat 1=>some π.2
 | _=>none
noncomputable def subW (a i:D) (π:Pi) (k:D→Prop):Prop:=
 match a with
 | .tup l=>onD (asI i) fun n=>idx l n k
 | .lst l=>onD (asI i) fun n=>chk (nonneg n) (idx l n k)
 | .str t=>onD (asI i) fun n=>(-1000≤n∧n≤1000)∧onD (strAt t n) fun c=>k (.str [c])
 | .dict ks ds=>onD (asS i) fun t=>onD (look ks ds t) k
 | .pool=>onD (asI i) fun n=>onD (poolAt π n) fun j=>k (.int j)
 | _=>False
noncomputable def cutAt (i:Int) (n:Nat):Nat:=if 0≤i then min i.toNat n else (i+n).toNat
noncomputable def slcI (a:D) (lo:Option Int) (k:D→Prop) (h:Int):Prop:=
 match a with
 | .tup l=>onD lo fun x=>(1≤x∧x≤h∧h≤l.length∧l.length≤1000)∧k (.tup ((l.drop x.toNat).take (h.toNat - x.toNat)))
 | .lst l=>onN lo (l.length≤strBound∧k (.lst (l.take (cutAt h l.length))))
 | .str t=>onN lo (h=1∧k (.str (t.take 1)))
 | _=>False
noncomputable def slcW (a:D) (lo:Option Int) (hi:D) (k:D→Prop):Prop:=onD (asI hi) (slcI a lo k)
noncomputable def joinT (sep:T):List T→T
 | []=>[]
 | [t]=>t
 | t::ts=>t++sep++joinT sep ts
noncomputable def seqD:D→Option (List D)
 | .tup l=>some l
 | .lst l=>some l
 | _=>none
noncomputable def enumD:Int→List D→List D
 | _,[]=>[]
 | i,d::l=>.tup [.int i,d]::enumD (i+1) l
noncomputable def rngD (n:Int):Option (List D):=if 0≤n∧n≤1000 then some ((List.range n.toNat).map fun (i:Nat)=>.int i) else none
noncomputable def itD (k:It) (d:D):Option (List D):=
 match k with
 | .val=>seqD d
 | .rng=>(asI d).bind rngD
 | .enm=>(asL d).map (enumD 0)
noncomputable def zipT (tg:List Nat) (ds:List D):Option (List (Nat×D)):=if tg.length=ds.length then some (tg.zip ds).reverse else none
noncomputable def bindT (one:Bool) (tg:List Nat) (d:D):Option (List (Nat×D)):=
 match one with
 | true=>match tg with
  | [x]=>some [(x,d)]
  | _=>none
 | false=>(asT d).bind (zipT tg)
noncomputable def digits (i:Int):T:=(toString i).toList.map Char.toNat
structure Env where
 l:List (Nat×D)
 c:List (Nat×D)
noncomputable def getV:List (Nat×D)→Nat→Option D
 | [],_=>none
 | (y,d)::r,x=>if x=y then some d else getV r x
inductive Callee where
 | fn (f:Nat) | lam (b:Ex) (x:Nat) (d:D)
noncomputable abbrev Or:=Callee→List D→Pi→(D→Pi→Prop)→Prop
noncomputable def wMap (f:D→Pi→(Option D→Pi→Prop)→Prop):List D→List D→Pi→(List D→Pi→Prop)→Prop
 | [],acc,π,k=>k acc.reverse π
 | d::ds,acc,π,k=>f d π fun r π'=>wMap f ds (match r with | some x=>x::acc | none=>acc) π' k
noncomputable def noPool:D→Bool
 | .none=>true | .bool _=>true | .int _=>true | .str _=>true
 | .tup l=>noPools l
 | .lst l=>noPools l
 | .dict _ l=>noPools l
 | .pool=>false
 | .lam _ _ _=>false
where noPools:List D→Bool
 | []=>true
 | d::l=>noPool d&&noPools l
noncomputable def wordsT (t:T):List T:=(Txt.words ⟨t.toArray⟩).map (·.cps.toList)
noncomputable def splitT (t sep:T):List T:=(Txt.split ⟨t.toArray⟩ ⟨sep.toArray⟩).map (·.cps.toList)
noncomputable def lstripT (t sep:T):T:=(Txt.lstripChars ⟨t.toArray⟩ ⟨sep.toArray⟩).cps.toList
noncomputable def pyD:D→PyData
 | .none=>.none
 | .bool b=>.bool b
 | .int i=>.int i
 | .str t=>.str ⟨t.toArray⟩
 | .tup l=>.tuple (pyDs l)
 | .lst l=>.list (pyDs l)
 | _=>.none
where pyDs:List D→List PyData
 | []=>[]
 | d::l=>pyD d::pyDs l
noncomputable def plainD:D→Bool
 | .none=>true | .bool _=>true | .int i=>decide (i.natAbs < 1000000) | .str _=>true
 | .tup l=>plainDs l
 | .lst l=>plainDs l
 | _=>false
where plainDs:List D→Bool
 | []=>true
 | d::l=>plainD d&&plainDs l
noncomputable def reprT (d:D):T:=(pyD d).shown.cps.toList
noncomputable def oneD (ds:List D) (k:D→Prop):Prop:=
 match ds with
 | []=>False
 | d::r=>match r with
  | []=>k d
  | _::_=>False
noncomputable def twoD (ds:List D) (k:D→D→Prop):Prop:=
 match ds with
 | []=>False
 | d::r=>oneD r (k d)
theorem oneD_inv {ds:List D}{k:D→Prop}(h:oneD ds k):∃ d,ds=[d]∧k d:=by
 cases ds with
 | nil=>exact h.elim
 | cons d r=>cases r with
  | nil=>exact ⟨d,rfl,h⟩
  | cons _ _=>exact h.elim
theorem twoD_inv {ds:List D}{k:D→D→Prop}(h:twoD ds k):∃ d e,ds=[d,e]∧k d e:=by
 cases ds with
 | nil=>exact h.elim
 | cons d r=>
  obtain ⟨e,rfl,h⟩:=oneD_inv h
  exact ⟨d,e,rfl,h⟩
noncomputable def lenW (d:D) (k:D→Prop):Prop:=
 match d with
 | .str t=>k (.int t.length)
 | .tup l=>chkL l.length (k (.int l.length))
 | .lst l=>chkL l.length (k (.int l.length))
 | _=>False
noncomputable def isbW (d:D) (k:D→Prop):Prop:=
 match d with
 | .bool _=>k (.bool true)
 | .int _=>k (.bool false)
 | .str _=>k (.bool false)
 | _=>False
noncomputable def intW (d:D) (k:D→Prop):Prop:=
 match d with
 | .bool b=>k (.int (if b then 1 else 0))
 | _=>False
noncomputable def biW (f:Nat) (ds:List D) (k:D→Prop):Prop:=
 if f=23881070 then oneD ds fun d=>lenW d k
 else if f=6113817460 then oneD ds fun d=>onD (asT d) fun l=>chkL l.length (k (.lst l))
 else if f=1599698136165 then oneD ds fun d=>onD (asL d) fun l=>chkL l.length (k (.tup l))
 else if f=24343666 then oneD ds fun d=>onD (asI d) fun i=>chk (small i) (k (.str (digits i)))
 else if f=23686772 then oneD ds fun d=>intW d k
 else if f=23945592 then twoD ds fun d e=>onD (asI d) fun a=>onD (asI e) fun b=>k (.int (if a < b then b else a))
 else if f=1706903273020983629210469 then oneD ds fun d=>isbW d k
 else if f=6214217842 then oneD ds fun d=>onD (asT d) fun l=>(plainD (.tup l)=true∧(reprT (.tup l)).length≤strBound∧(pyD (.tup l)).depth≤100)∧k (.str (reprT (.tup l)))
 else False
noncomputable def joinW (sep:T) (d:D) (k:D→Prop):Prop:=
 onD (seqD d) fun l=>(l.all isStrD=true∧((l.map strOf).map (·.length)).sum+l.length*sep.length≤strBound)∧k (.str (joinT sep (l.map strOf)))
noncomputable def mulW (ds:List D) (e:D) (k:D→Prop):Prop:=onD (asI e) fun n=>(0≤n∧n≤1000∧ds.length≤1000)∧k (.lst (repL ds n.toNat))
noncomputable def negW (d:D) (k:D→Prop):Prop:=onD (asI d) fun i=>k (.int (-i))
noncomputable def isDictD (d:D):Bool:=
 match d with
 | .dict _ _=>true
 | _=>false
noncomputable def orV (o:Option D) (v:D):D:=
 match o with
 | some r=>r
 | none=>v
noncomputable def getW (d a v:D) (k:D→Prop):Prop:=
 match d with
 | .dict ks ds=>onD (asS a) fun t=>k (orV (look ks ds t) v)
 | _=>False
noncomputable def pairW (d e:D) (f:Int→Int→Prop):Prop:=onD (asI d) fun i=>onD (asI e) fun j=>f i j
noncomputable def lamW (d:D) (f:Ex→Nat→D→Prop):Prop:=
 match d with
 | .lam b x v=>f b x v
 | _=>False
noncomputable def itW (it:It) (d:D) (f:List D→Prop):Prop:=onD (itD it d) fun ds=>chkL ds.length (f ds)
noncomputable def tgW (one:Bool) (tg:List Nat) (d:D) (f:List (Nat×D)→Prop):Prop:=onD (bindT one tg d) f
noncomputable def oneC (s:T) (k:Nat→Prop):Prop:=
 match s with
 | []=>False
 | c::r=>match r with
  | []=>k c
  | _::_=>False
theorem oneC_inv {s:T}{k:Nat→Prop}(h:oneC s k):∃ c,s=[c]∧k c:=by
 cases s with
 | nil=>exact h.elim
 | cons c r=>cases r with
  | nil=>exact ⟨c,rfl,h⟩
  | cons _ _=>exact h.elim
noncomputable def splitW (t:T) (arg:Option T) (k:D→Prop):Prop:=
 match arg with
 | none=>(t.length≤strBound∧∀ x∈wordsT t,x.length≤strBound)∧k (.lst ((wordsT t).map .str))
 | some s=>oneC s fun c=>(t.length≤strBound∧∀ x∈splitT t [c],x.length≤strBound)∧k (.lst ((splitT t [c]).map .str))
noncomputable def methW (m:Nat) (d:D) (arg:Option T) (k:D→Prop):Prop:=
 onD (asS d) fun t=>
  if m=1595319019892 then splitW t arg k
  else if m=400718107404656 then onD arg fun s=>oneC s fun c=>(t.length≤strBound∧(lstripT t [c]).length≤strBound)∧k (.str (lstripT t [c]))
  else False
noncomputable def globT:List (Nat×D):=[
 (365335660547155,.dict [[124,124],[38,38],[61,61],[33,61],[60],[60,61],[62],[62,61],[124],[94],[38],[60,60],[62,62],[43],[45],[42],[47],[37]] [.int 1,.int 2,.int 3,.int 3,.int 3,.int 3,.int 3,.int 3,.int 4,.int 5,.int 6,.int 7,.int 7,.int 8,.int 8,.int 9,.int 9,.int 9]),
 (354370491468627,.tup [.str [98,108,111,99,107],.str [105,102],.str [109,97,116,99,104],.str [108,111,111,112],.str [119,104,105,108,101],.str [102,111,114]]),
 (1418770337875,.tup [.str [98,114,101,97,107],.str [99,111,110,116,105,110,117,101],.str [114,101,116,117,114,110]]),
 (1474386938949,.int 0),
 (5423321940,.int 10),
 (1465896751705,.int 11),
 (94662811489552728,.int 12),
 (23296924404499498308,.int 3),
 (362075478380116,.str [32,32,32,32]),
 (424844776200772908166245491,.lst [.lst [.str [124,124]],.lst [.str [38,38]],.lst [.str [61,61],.str [60]],.lst [.str [124]],.lst [.str [94]],.lst [.str [38]],.lst [.str [60,60]],.lst [.str [43],.str [45]],.lst [.str [42],.str [37]]])]
mutual
noncomputable def wE:Ex→Or→Env→Pi→(D→Pi→Prop)→Prop
 | .cst c,cf,ρ,π,k=>k c.d π
 | .loc x,cf,ρ,π,k=>onD (getV ρ.l x) fun d=>k d π
 | .cel x,cf,ρ,π,k=>onD (getV ρ.c x) fun d=>k d π
 | .glob x,cf,ρ,π,k=>onD (getV globT x) fun d=>k d π
 | .list es,cf,ρ,π,k=>wEs es cf ρ π fun ds π=>k (.lst ds) π
 | .tup es,cf,ρ,π,k=>wEs es cf ρ π fun ds π=>k (.tup ds) π
 | .dict ks vs,cf,ρ,π,k=>wEs vs cf ρ π fun ds π=>k (.dict ks ds) π
 | .sub a i,cf,ρ,π,k=>wE a cf ρ π fun d π=>wE i cf ρ π fun j π=>subW d j π fun r=>k r π
 | .slc a lo hi,cf,ρ,π,k=>wE a cf ρ π fun d π=>wE hi cf ρ π fun j π=>slcW d lo j fun r=>k r π
 | .bin op a b,cf,ρ,π,k=>wE a cf ρ π fun d π=>wE b cf ρ π fun e π=>binW op d e fun r=>k r π
 | .mulL es b,cf,ρ,π,k=>wEs es cf ρ π fun ds π=>wE b cf ρ π fun e π=>mulW ds e fun r=>k r π
 | .neg a,cf,ρ,π,k=>wE a cf ρ π fun d π=>negW d fun r=>k r π
 | .not a,cf,ρ,π,k=>wE a cf ρ π fun d π=>onB (truth d) fun b=>k (.bool (!b)) π
 | .cmp op a b,cf,ρ,π,k=>wE a cf ρ π fun d π=>wE b cf ρ π fun e π=>cmpW op d e fun r=>k r π
 | .and a b,cf,ρ,π,k=>wE a cf ρ π fun d π=>onB (truth d) fun t=>if t=true then wE b cf ρ π k else k d π
 | .or a b,cf,ρ,π,k=>wE a cf ρ π fun d π=>onB (truth d) fun t=>if t=true then k d π else wE b cf ρ π k
 | .ite c a b,cf,ρ,π,k=>wE c cf ρ π fun d π=>onB (truth d) fun t=>if t=true then wE a cf ρ π k else wE b cf ρ π k
 | .call f es,cf,ρ,π,k=>wEs es cf ρ π fun ds π=>cf (.fn f) ds π k
 | .callp f a b,cf,ρ,π,k=>wE a cf ρ π fun d π=>wE b cf ρ π fun e π=>pairW d e fun i j=>cf (.fn f) [.pool] (i,j) fun r _=>noPool r=true∧k r π
 | .callv f,cf,ρ,π,k=>wE f cf ρ π fun d π=>lamW d fun b x v=>cf (.lam b x v) [] π k
 | .bi f es,cf,ρ,π,k=>wEs es cf ρ π fun ds π=>biW f ds fun r=>k r π
 | .join sep a,cf,ρ,π,k=>wE a cf ρ π fun d π=>joinW sep d fun r=>k r π
 | .get d a v,cf,ρ,π,k=>wE d cf ρ π fun d π=>chk (isDictD d) (wE a cf ρ π fun a π=>wE v cf ρ π fun v π=>getW d a v fun r=>k r π)
 | .meth m a arg,cf,ρ,π,k=>wE a cf ρ π fun d π=>methW m d arg fun r=>k r π
 | .comp elt one tg it e cs,cf,ρ,π,k=>wE e cf ρ π fun d π=>itW it d fun ds=>wMap (fun d π k'=>tgW one tg d fun l=>
    wT cs cf ⟨l,ρ.c⟩ π fun b π=>if b=true then wE elt cf ⟨l,ρ.c⟩ π fun r π=>k' (some r) π else k' none π) ds [] π fun rs π=>k (.lst rs) π
 | .lam x b,cf,ρ,π,k=>onD (getV ρ.c x) fun d=>k (.lam b x d) π
noncomputable def wEs:Exs→Or→Env→Pi→(List D→Pi→Prop)→Prop
 | .nil,cf,ρ,π,k=>k [] π
 | .cons e es,cf,ρ,π,k=>wE e cf ρ π fun d π=>wEs es cf ρ π fun ds π=>k (d::ds) π
noncomputable def wT:Exs→Or→Env→Pi→(Bool→Pi→Prop)→Prop
 | .nil,cf,ρ,π,k=>k true π
 | .cons e es,cf,ρ,π,k=>wE e cf ρ π fun d π=>onB (truth d) fun t=>if t=true then wT es cf ρ π k else k false π
end
structure Sg where
 l:List (Nat×D)
 c:List (Nat×D)
 own:Option (Nat×List D)
noncomputable def Sg.env (σ:Sg):Env:=⟨σ.l,σ.c⟩
noncomputable def Sg.freeze (σ:Sg):Sg:=match σ.own with
 | some (x,ds)=>⟨(x,.lst ds)::σ.l,σ.c,none⟩
 | none=>σ
noncomputable def Sg.set (σ:Sg) (x:Nat) (d:D):Sg:=⟨(x,d)::σ.l,σ.c,match σ.own with
 | some (y,ds)=>if x=y then none else some (y,ds)
 | none=>none⟩
noncomputable def Sg.setC (σ:Sg) (x:Nat) (d:D):Sg:=⟨σ.l,(x,d)::σ.c,σ.own⟩
noncomputable def Sg.frz (σ:Sg) (fz:Bool):Sg:=if fz then σ.freeze else σ
noncomputable def Sg.asg (σ:Sg) (fz cl:Bool) (x:Nat) (d:D):Sg:=if cl then (σ.frz fz).setC x d else (σ.frz fz).set x d
noncomputable def Sg.setAll (σ:Sg):List (Nat×D)→Sg
 | []=>σ
 | (x,d)::r=>(σ.setAll r).set x d
noncomputable def Sg.setMix (σ:Sg):List (Bool×Nat)→List D→Option Sg
 | [],[]=>some σ
 | (b,x)::r,d::ds=>if b&&(getV σ.c x).isSome then none else (σ.setMix r ds).map fun σ=>if b then σ.setC x d else σ.set x d
 | _,_=>none
noncomputable def mixW (σ:Sg) (xs:List (Bool×Nat)) (d:D) (k:Sg→Prop):Prop:=onN σ.own (onD (asT d) fun ds=>onD (σ.setMix xs ds) k)
noncomputable def ownW (σ:Sg) (x:Nat) (d:D) (k:Sg→Prop):Prop:=onN σ.own (onD (asL d) fun ds=>chk (getV σ.l x).isNone (k ⟨σ.l,σ.c,some (x,ds)⟩))
noncomputable def ownIs (σ:Sg) (x:Nat):Bool:=
 match σ.own with
 | some (y,_)=>Nat.beq x y
 | none=>false
noncomputable def appW (σ:Sg) (x:Nat) (d:D) (k:Sg→Prop):Prop:=onD σ.own fun p=>chk (Nat.beq x p.1) (chkL p.2.length (k ⟨σ.l,σ.c,some (p.1,p.2++[d])⟩))
noncomputable def isPoolD (d:D):Prop:=
 match d with
 | .pool=>True
 | _=>False
noncomputable def poolW (i:Nat) (d:D) (π:Pi) (k:Pi→Prop):Prop:=
 onD (asI d) fun n=>match i with
  | 0=>k (n,π.2)
  | 1=>k (π.1,n)
  | _=>False
noncomputable def wFor (f:D→Sg→Pi→(Sg→Pi→Prop)→Prop):List D→Sg→Pi→(Sg→Pi→Prop)→Prop
 | [],σ,π,k=>k σ π
 | d::ds,σ,π,k=>f d σ π fun σ π=>wFor f ds σ π k
noncomputable def wWhile (f:Sg→Pi→(Bool→Pi→Prop)→Prop) (g:Sg→Pi→(Sg→Pi→Prop)→Prop):Nat→Sg→Pi→(Sg→Pi→Prop)→Prop
 | 0,σ,π,k=>False
 | n+1,σ,π,k=>f σ π fun b π=>if b=true then g σ π fun σ π=>wWhile f g n σ π k else k σ π
mutual
noncomputable def wS:St→Or→Sg→Pi→(Sg→Pi→Prop)→(D→Pi→Prop)→Prop
 | .assign fz cl x e,cf,σ,π,k,r=>wE e cf (σ.frz fz).env π fun d π=>k (σ.asg fz cl x d) π
 | .assignT xs e,cf,σ,π,k,r=>wE e cf σ.env π fun d π=>mixW σ xs d fun σ=>k σ π
 | .own x e,cf,σ,π,k,r=>wE e cf σ.env π fun d π=>ownW σ x d fun σ=>k σ π
 | .append x e,cf,σ,π,k,r=>chk (ownIs σ x) (wE e cf σ.env π fun d π=>appW σ x d fun σ=>k σ π)
 | .pool i e,cf,σ,π,k,r=>wE e cf σ.env π fun d π=>onD (getV σ.l 408397525705573) fun p=>isPoolD p∧poolW i d π fun π=>k σ π
 | .ret e,cf,σ,π,k,r=>wE e cf σ.freeze.env π r
 | .ite c a b,cf,σ,π,k,r=>wE c cf σ.env π fun d π=>onB (truth d) fun t=>if t=true then wSs a cf σ π k r else wSs b cf σ π k r
 | .for one tg it e body,cf,σ,π,k,r=>wE e cf σ.env π fun d π=>itW it d fun ds=>wFor (fun d σ π k'=>tgW one tg d fun l=>
    wSs body cf (σ.setAll l) π k' fun _ _=>False) ds σ π k
 | .while c body,cf,σ,π,k,r=>∃ n,wWhile (fun σ π k'=>wE c cf σ.env π fun d π=>onB (truth d) fun b=>k' b π)
   (fun σ π k'=>wSs body cf σ π k' fun _ _=>False) n σ π k
noncomputable def wSs:Sts→Or→Sg→Pi→(Sg→Pi→Prop)→(D→Pi→Prop)→Prop
 | .nil,cf,σ,π,k,r=>k σ π
 | .cons s ss,cf,σ,π,k,r=>wS s cf σ π (fun σ π=>wSs ss cf σ π k r) r
end
structure Fn where
 id:Nat
 ps:List (Bool×Nat)
 dfl:List Cst
 body:Sts
noncomputable def fillD (n:Nat) (dfl:List Cst) (ds:List D):Option (List D):=
 if n≤ds.length+dfl.length∧ds.length≤n then some (ds++(dfl.drop (ds.length+dfl.length - n)).map Cst.d) else none
noncomputable def bindP:List (Bool×Nat)→List D→Option (List (Nat×D)×List (Nat×D))
 | [],[]=>some ([],[])
 | (b,x)::r,d::ds=>(bindP r ds).map fun (l,c)=>if b then (l,(x,d)::c) else ((x,d)::l,c)
 | _,_=>none
noncomputable def getF:List Fn→Nat→Option Fn
 | [],_=>none
 | f::r,x=>if x=f.id then some f else getF r x
noncomputable def Ret (FN:List Fn):Nat→Or
 | 0,_,_,_,_=>False
 | K+1,.fn f,ds,π,k=>match getF FN f with
  | none=>False
  | some fn=>match fillD fn.ps.length fn.dfl ds with
   | none=>False
   | some ds=>match bindP fn.ps ds with
    | none=>False
    | some lc=>wSs fn.body (Ret FN K) ⟨lc.1,lc.2,none⟩ π (fun _ _=>False) k
 | K+1,.lam b x d,ds,π,k=>ds=[]∧wE b (Ret FN K) ⟨[],[(x,d)]⟩ π k
theorem bnot {b:Bool}(h:(!b)=true):b=false:=by cases b with
 | false=>rfl
 | true=>cases h
theorem bor {a b:Bool}(h:(a||b)=false):a=false∧b=false:=Bool.or_eq_false_iff.mp h
theorem band {a b:Bool}(h:(a&&b)=true):a=true∧b=true:=Bool.and_eq_true_iff.mp h
noncomputable def gd {α:Type}(c:Bool) (x:Option α):Option α:=
 match c with
 | true=>x
 | false=>none
noncomputable def encS (x:Str):Option Nat:=
 gd (x.cps.toList.all (fun c=>Nat.blt c 256)) (some (x.cps.toList.foldl (fun a c=>a*256+c) 1))
theorem bindI {α β:Type}{x:Option α}{g:α→Option β}{b:β}(h:x.bind g=some b):∃ a,x=some a∧g a=some b:=by
 cases x with
 | none=>cases h
 | some a=>exact ⟨a,rfl,h⟩
theorem mapI {α β:Type}{x:Option α}{g:α→β}{b:β}(h:x.map g=some b):∃ a,x=some a∧g a=b:=by
 cases x with
 | none=>cases h
 | some a=>exact ⟨a,rfl,Option.some.inj h⟩
theorem gdI {α:Type}{c:Bool}{x:Option α}{e:α}(h:gd c x=some e):c=true∧x=some e:=by
 cases c with
 | false=>cases h
 | true=>exact ⟨rfl,h⟩
noncomputable def ctor {α:Type}(k:Nat) (e:Expr) (f:e.ctorIdx=k→α):Option α:=
 match Nat.decEq e.ctorIdx k with
 | .isTrue h=>some (f h)
 | .isFalse _=>none
theorem ctor_inv {α:Type}{k:Nat}{e:Expr}{f:e.ctorIdx=k→α}{q:α}(h:ctor k e f=some q):∃ hi,f hi=q:=by
 unfold ctor at h
 cases hd:Nat.decEq e.ctorIdx k with
 | isTrue hi=>rw [hd] at h;exact ⟨hi,Option.some.inj h⟩
 | isFalse hi=>rw [hd] at h;cases h
theorem ctor_none {α:Type}{k:Nat}{e:Expr}{f:e.ctorIdx=k→α}(h:ctor k e f=none):e.ctorIdx≠k:=by
 unfold ctor at h
 cases hd:Nat.decEq e.ctorIdx k with
 | isTrue hi=>rw [hd] at h;cases h
 | isFalse hi=>exact hi
noncomputable def eName (e:Expr):Option (Str×Pos):=ctor 23 e fun h=>Expr.Name.elim (motive_1:=fun _=>Str×Pos) e h fun id p=>(id,p)
theorem eName_inv {e:Expr}{q:Str×Pos}(h:eName e=some q):e=.Name q.1 q.2:=by
 obtain ⟨hi,h⟩:=ctor_inv h
 exact Expr.Name.elim (motive_1:=fun e=>∀ hi,Expr.Name.elim (motive_1:=fun _=>Str×Pos) e hi (fun id p=>(id,p))=q→e=.Name q.1 q.2) e hi (fun id p _ h=>by cases h;rfl) hi h
noncomputable def eConstant (e:Expr):Option (Const×Nat×Pos):=ctor 19 e fun h=>Expr.Constant.elim (motive_1:=fun _=>Const×Nat×Pos) e h fun c n p=>(c,n,p)
theorem eConstant_inv {e:Expr}{q:Const×Nat×Pos}(h:eConstant e=some q):e=.Constant q.1 q.2.1 q.2.2:=by
 obtain ⟨hi,h⟩:=ctor_inv h
 exact Expr.Constant.elim (motive_1:=fun e=>∀ hi,Expr.Constant.elim (motive_1:=fun _=>Const×Nat×Pos) e hi (fun c n p=>(c,n,p))=q→e=.Constant q.1 q.2.1 q.2.2) e hi (fun c n p _ h=>by cases h;rfl) hi h
noncomputable def eList (e:Expr):Option (List Expr×Pos):=ctor 24 e fun h=>Expr.List.elim (motive_1:=fun _=>List Expr×Pos) e h fun l p=>(l,p)
theorem eList_inv {e:Expr}{q:List Expr×Pos}(h:eList e=some q):e=.List q.1 q.2:=by
 obtain ⟨hi,h⟩:=ctor_inv h
 exact Expr.List.elim (motive_1:=fun e=>∀ hi,Expr.List.elim (motive_1:=fun _=>List Expr×Pos) e hi (fun l p=>(l,p))=q→e=.List q.1 q.2) e hi (fun l p _ h=>by cases h;rfl) hi h
noncomputable def eTuple (e:Expr):Option (List Expr×Nat×Pos):=ctor 25 e fun h=>Expr.Tuple.elim (motive_1:=fun _=>List Expr×Nat×Pos) e h fun l n p=>(l,n,p)
theorem eTuple_inv {e:Expr}{q:List Expr×Nat×Pos}(h:eTuple e=some q):e=.Tuple q.1 q.2.1 q.2.2:=by
 obtain ⟨hi,h⟩:=ctor_inv h
 exact Expr.Tuple.elim (motive_1:=fun e=>∀ hi,Expr.Tuple.elim (motive_1:=fun _=>List Expr×Nat×Pos) e hi (fun l n p=>(l,n,p))=q→e=.Tuple q.1 q.2.1 q.2.2) e hi (fun l n p _ h=>by cases h;rfl) hi h
noncomputable def eDict (e:Expr):Option (List (Option Expr)×List Expr×Pos):=ctor 6 e fun h=>Expr.Dict.elim (motive_1:=fun _=>List (Option Expr)×List Expr×Pos) e h fun k v p=>(k,v,p)
theorem eDict_inv {e:Expr}{q:List (Option Expr)×List Expr×Pos}(h:eDict e=some q):e=.Dict q.1 q.2.1 q.2.2:=by
 obtain ⟨hi,h⟩:=ctor_inv h
 exact Expr.Dict.elim (motive_1:=fun e=>∀ hi,Expr.Dict.elim (motive_1:=fun _=>List (Option Expr)×List Expr×Pos) e hi (fun k v p=>(k,v,p))=q→e=.Dict q.1 q.2.1 q.2.2) e hi (fun k v p _ h=>by cases h;rfl) hi h
noncomputable def eSubscript (e:Expr):Option (Expr×Expr×Pos):=ctor 21 e fun h=>Expr.Subscript.elim (motive_1:=fun _=>Expr×Expr×Pos) e h fun a i p=>(a,i,p)
theorem eSubscript_inv {e:Expr}{q:Expr×Expr×Pos}(h:eSubscript e=some q):e=.Subscript q.1 q.2.1 q.2.2:=by
 obtain ⟨hi,h⟩:=ctor_inv h
 exact Expr.Subscript.elim (motive_1:=fun e=>∀ hi,Expr.Subscript.elim (motive_1:=fun _=>Expr×Expr×Pos) e hi (fun a i p=>(a,i,p))=q→e=.Subscript q.1 q.2.1 q.2.2) e hi (fun a i p _ h=>by cases h;rfl) hi h
noncomputable def eSlice (e:Expr):Option (Option Expr×Option Expr×Option Expr×Pos):=ctor 26 e fun h=>Expr.Slice.elim (motive_1:=fun _=>Option Expr×Option Expr×Option Expr×Pos) e h fun l h s p=>(l,h,s,p)
theorem eSlice_inv {e:Expr}{q:Option Expr×Option Expr×Option Expr×Pos}(h:eSlice e=some q):e=.Slice q.1 q.2.1 q.2.2.1 q.2.2.2:=by
 obtain ⟨hi,h⟩:=ctor_inv h
 exact Expr.Slice.elim (motive_1:=fun e=>∀ hi,Expr.Slice.elim (motive_1:=fun _=>Option Expr×Option Expr×Option Expr×Pos) e hi (fun l h s p=>(l,h,s,p))=q→e=.Slice q.1 q.2.1 q.2.2.1 q.2.2.2) e hi (fun l h s p _ h=>by cases h;rfl) hi h
noncomputable def eCall (e:Expr):Option (Expr×List Expr×List Keyword×Pos):=ctor 16 e fun h=>Expr.Call.elim (motive_1:=fun _=>Expr×List Expr×List Keyword×Pos) e h fun f a k p=>(f,a,k,p)
theorem eCall_inv {e:Expr}{q:Expr×List Expr×List Keyword×Pos}(h:eCall e=some q):e=.Call q.1 q.2.1 q.2.2.1 q.2.2.2:=by
 obtain ⟨hi,h⟩:=ctor_inv h
 exact Expr.Call.elim (motive_1:=fun e=>∀ hi,Expr.Call.elim (motive_1:=fun _=>Expr×List Expr×List Keyword×Pos) e hi (fun f a k p=>(f,a,k,p))=q→e=.Call q.1 q.2.1 q.2.2.1 q.2.2.2) e hi (fun f a k p _ h=>by cases h;rfl) hi h
noncomputable def eAttribute (e:Expr):Option (Expr×Str×Pos):=ctor 20 e fun h=>Expr.Attribute.elim (motive_1:=fun _=>Expr×Str×Pos) e h fun o n p=>(o,n,p)
theorem eAttribute_inv {e:Expr}{q:Expr×Str×Pos}(h:eAttribute e=some q):e=.Attribute q.1 q.2.1 q.2.2:=by
 obtain ⟨hi,h⟩:=ctor_inv h
 exact Expr.Attribute.elim (motive_1:=fun e=>∀ hi,Expr.Attribute.elim (motive_1:=fun _=>Expr×Str×Pos) e hi (fun o n p=>(o,n,p))=q→e=.Attribute q.1 q.2.1 q.2.2) e hi (fun o n p _ h=>by cases h;rfl) hi h
noncomputable def oneL {α:Type}:List α→Option α
 | []=>none
 | a::r=>match r with
  | []=>some a
  | _::_=>none
noncomputable def twoL {α:Type}:List α→Option (α×α)
 | []=>none
 | a::r=>(oneL r).map fun b=>(a,b)
theorem oneL_inv {α:Type}{l:List α}{a:α}(h:oneL l=some a):l=[a]:=by
 cases l with
 | nil=>cases h
 | cons b r=>cases r with
  | nil=>cases h;rfl
  | cons _ _=>cases h
theorem twoL_inv {α:Type}{l:List α}{a:α×α}(h:twoL l=some a):l=[a.1,a.2]:=by
 cases l with
 | nil=>cases h
 | cons b r=>
  obtain ⟨c,h1,rfl⟩:=mapI h
  rw [oneL_inv h1]
noncomputable def cStr:Const→Option Str
 | .str s=>some s
 | _=>none
noncomputable def cInt:Const→Option Int
 | .int s=>some s
 | _=>none
theorem cStr_inv {c:Const}{s:Str}(h:cStr c=some s):c=.str s:=by cases c <;> cases h;rfl
theorem cInt_inv {c:Const}{s:Int}(h:cInt c=some s):c=.int s:=by cases c <;> cases h;rfl
noncomputable def eCall1 (e:Expr):Option (Str×Expr):=
 (eCall e).bind fun q=>gd q.2.2.1.isEmpty ((eName q.1).bind fun g=>(oneL q.2.1).map fun a=>(g.1,a))
theorem eCall1_inv {e:Expr}{q:Str×Expr}(h:eCall1 e=some q):∃ gp p,e=.Call (.Name q.1 gp) [q.2] [] p:=by
 obtain ⟨⟨f,as,kw,p⟩,h1,h⟩:=bindI h
 obtain ⟨hk,h⟩:=gdI h
 obtain ⟨⟨g,gp⟩,h2,h⟩:=bindI h
 obtain ⟨a,h3,rfl⟩:=mapI h
 have hk:kw=[]:=List.isEmpty_iff.mp hk
 have h2:f=.Name g gp:=eName_inv h2
 have h3:as=[a]:=oneL_inv h3
 exact ⟨gp,p,by rw [eCall_inv h1,h2,h3,hk]⟩
noncomputable def compC:Const→Option Cst
 | .none=>some .none
 | .bool b=>some (.bool b)
 | .int i=>some (.int i)
 | .str s=>gd (Nat.ble s.cps.toList.length 1000) (some (.str s.cps.toList))
 | _=>none
noncomputable def compL (f:Expr→Option Ex):List Expr→Option Exs
 | []=>some .nil
 | e::es=>gd (!Nat.beq e.ctorIdx 22) ((f e).bind fun e'=>(compL f es).bind fun es'=>some (.cons e' es'))
noncomputable def compB (g:Ex→Ex→Ex) (f:Expr→Option Ex):List Expr→Option Ex
 | []=>none
 | e::r=>match r with
  | []=>f e
  | _::_=>(f e).bind fun e'=>(compB g f r).bind fun es'=>some (g e' es')
noncomputable def keyT (k:Option Expr):Option T:=k.bind fun e=>(eConstant e).bind fun q=>(cStr q.1).map fun s=>s.cps.toList
noncomputable def keysT:List (Option Expr)→Option (List T)
 | []=>some []
 | k::ks=>(keyT k).bind fun t=>(keysT ks).map fun ts=>t::ts
noncomputable def relab (sc' sc:Scope):Scope:=
 {sc' with names:=sc'.names.map fun (n,k)=>if (k==.free&&sc.kind==.function&&sc.names.lookup n==some .cell) then (n,.cell) else (n,k)}
noncomputable def nameX (i:Nat):NameKind→Option Ex
 | .local=>some (.loc i)
 | .cell=>some (.cel i)
 | .free=>some (.cel i)
 | .globalImplicit=>some (.glob i)
 | _=>none
noncomputable def compN (sc:Scope) (x:Str):Option Ex:=gd (!(x==("__debug__":Str)||x==("__classdict__":Str))) ((encS x).bind fun i=>(sc.names.lookup x).bind (nameX i))
noncomputable def locN (sc:Scope) (e:Expr):Option Nat:=(eName e).bind fun q=>gd (sc.names.lookup q.1==some .local) (encS q.1)
noncomputable def locNs (sc:Scope):List Expr→Option (List Nat)
 | []=>some []
 | e::es=>(locN sc e).bind fun i=>(locNs sc es).map fun is=>i::is
noncomputable def tgN (sc:Scope) (e:Expr):Option (Bool×List Nat):=
 match eTuple e with
 | some q=>(locNs sc q.1).map fun is=>(false,is)
 | none=>(locN sc e).map fun i=>(true,[i])
noncomputable def gName (sc:Scope) (x:Str):Option Nat:=gd (!(x==("__debug__":Str))&&sc.names.lookup x==some .globalImplicit) (encS x)
noncomputable def knownBi:List Nat:=[23881070,6113817460,1599698136165,24343666,23686772,23945592,6214217842]
noncomputable def lamScope (sc:Scope):Bool:=sc.names.lookup ("tails":Str)==some NameKind.local
noncomputable def lamCode:Addr:=353
noncomputable def lamTab:Addr:=349
noncomputable def compScopeOk (sc' sc:Scope):Bool:=
 sc'.kind==.function&&sc.kind==.function&&!lamScope sc'&&sc'.names.all fun (n,k)=>
  (k != .cell)&&(k != .local||sc'.names.lookup n==some .local)&&
  (k != .free||(sc.names.lookup n==some .cell||sc.names.lookup n==some .free))
noncomputable def isEnm:It→Bool
 | .enm=>true
 | _=>false
noncomputable def noArgs (a:Arguments):Bool:=
 a.posonlyargs.isEmpty&&a.args.isEmpty&&a.vararg.isNone&&a.kwonlyargs.isEmpty&&a.kw_defaults.isEmpty&&a.kwarg.isNone&&a.defaults.isEmpty
noncomputable def lamFree (sc':Scope):Option Str:=(oneL (sc'.names.filter (fun p=>p.2==.free))).map fun p=>p.1
section
variable (fns:List Nat) (sc:Scope) (f:Expr→Option Ex)
noncomputable def loK (a' h':Ex) (lo:Option Expr):Option Ex:=
 match lo with
 | none=>some (.slc a' none h')
 | some e=>(eConstant e).bind fun q=>(cInt q.1).bind fun l=>gd (decide (0≤l)&&decide (l≤100)) (some (.slc a' (some l) h'))
noncomputable def slcK (a':Ex) (lo hi st:Option Expr):Option Ex:=
 match st with
 | none=>match hi with
  | some h=>(f h).bind fun h'=>loK a' h' lo
  | none=>none
 | some _=>none
noncomputable def subK (a':Ex) (i:Expr):Option Ex:=
 match eSlice i with
 | some q=>slcK f a' q.1 q.2.1 q.2.2.1
 | none=>(f i).bind fun i'=>some (.sub a' i')
noncomputable def isMult:Operator→Bool
 | .Mult=>true
 | _=>false
noncomputable def mulO (a:Expr) (op:Operator):Option (List Expr×Pos):=gd (isMult op) (eList a)
noncomputable def binK (a:Expr) (op:Operator) (b:Expr):Option Ex:=
 match mulO a op with
 | some es=>gd (decide (es.1.length≤1000)) ((compL f es.1).bind fun es'=>(f b).bind fun b'=>some (.mulL es' b'))
 | none=>(f a).bind fun a'=>(f b).bind fun b'=>some (.bin op a' b')
noncomputable def unK (op:UnaryOp) (a':Ex):Option Ex:=
 match op with
 | .USub=>some (.neg a')
 | .Not=>some (.not a')
 | _=>none
noncomputable def cmpK (l:Expr) (ops:List CmpOp) (rs:List Expr):Option Ex:=
 (oneL ops).bind fun op=>(oneL rs).bind fun r=>gd (!behindInMarks op r) ((f l).bind fun a'=>(f r).bind fun b'=>some (.cmp op a' b'))
noncomputable def poolArg (as:List Expr):Option (Expr×Expr):=(oneL as).bind fun e=>(eList e).bind fun q=>twoL q.1
noncomputable def callN (i:Nat) (args:List Expr):Option Ex:=
 match poolArg args with
 | some (a,b)=>(f a).bind fun a'=>(f b).bind fun b'=>some (.callp i a' b')
 | none=>(compL f args).bind fun es=>some (.call i es)
noncomputable def isbArg (i:Nat) (as:List Expr):Option (Expr×Str):=(twoL as).bind fun p=>(eName p.2).bind fun q=>gd (Nat.beq i 1706903273020983629210469) (some (p.1,q.1))
noncomputable def biN (i:Nat) (args:List Expr):Option Ex:=
 match isbArg i args with
 | some (v,t)=>gd (t==("bool":Str)&&(gName sc t).isSome) ((f v).bind fun v'=>some (.bi i (.cons v' .nil)))
 | none=>gd (knownBi.contains i) ((compL f args).bind fun es=>some (.bi i es))
noncomputable def nameK (g:Str) (args:List Expr):Option Ex:=
 gd (!args.isEmpty) ((gName sc g).bind fun i=>match fns.contains i with
  | true=>callN f i args
  | false=>biN sc f i args)
noncomputable def oneX:Exs→Option Ex
 | .cons a .nil=>some a
 | _=>none
noncomputable def twoX:Exs→Option (Ex×Ex)
 | .cons a (.cons b .nil)=>some (a,b)
 | _=>none
noncomputable def joinK (c:Const) (name:Str) (args:List Expr):Option Ex:=
 (cStr c).bind fun s=>gd (name==("join":Str)) ((oneL args).bind fun a=>(compL f [a]).bind fun es=>(oneX es).bind fun a'=>some (.join s.cps.toList a'))
noncomputable def getK (o:Expr) (name:Str) (args:List Expr):Option Ex:=
 gd (name==("get":Str)) ((twoL args).bind fun q=>(f o).bind fun d'=>(compL f [q.1,q.2]).bind fun es=>(twoX es).bind fun p=>some (.get d' p.1 p.2))
noncomputable def methA (name:Str) (m:Nat) (o':Ex) (args:List Expr):Option Ex:=
 match args with
 | []=>gd (name==("split":Str)) (some (.meth m o' none))
 | a::r=>gd (r.isEmpty&&(name==("split":Str)||name==("lstrip":Str))) ((eConstant a).bind fun q=>(cStr q.1).bind fun s=>some (.meth m o' (some s.cps.toList)))
noncomputable def attrK (o:Expr) (name:Str) (args:List Expr):Option Ex:=
 match eConstant o with
 | some q=>joinK f q.1 name args
 | none=>match eDict o with
  | some _=>getK f o name args
  | none=>(eName o).bind fun _=>(f o).bind fun o'=>(encS name).bind fun m=>methA name m o' args
noncomputable def callK (fe:Expr) (args:List Expr) (kws:List Keyword) (pos:Pos):Option Ex:=
 gd kws.isEmpty (match eName fe with
  | some q=>nameK fns sc f q.1 args
  | none=>match eAttribute fe with
   | some q=>gd (q.2.2.endLine==pos.line) (attrK f q.1 q.2.1 args)
   | none=>gd (args.isEmpty) ((eSubscript fe).bind fun _=>(f fe).bind fun f'=>some (.callv f')))
noncomputable def iterK (en:Bool) (it:Expr):Option (It×Ex):=
 match eCall1 it with
 | some c=>(gName sc c.1).bind fun i=>match Nat.beq i 1590772524901 with
  | true=>(f c.2).bind fun a'=>some (It.rng,a')
  | false=>match Nat.beq i 6593447022513235260517 with
   | true=>gd en ((f c.2).bind fun a'=>some (It.enm,a'))
   | false=>(f it).bind fun a'=>some (It.val,a')
 | none=>gd (!Nat.beq it.ctorIdx 7) ((f it).bind fun a'=>some (It.val,a'))
noncomputable def compK (g:Scope→Expr→Option Ex) (elt:Expr) (gens:List Comprehension) (sc':Scope):Option Ex:=
 (oneL gens).bind fun c=>gd (compScopeOk sc' sc&&c.is_async==0) ((tgN sc' c.target).bind fun t=>(iterK sc (g sc) true c.iter).bind fun q=>gd (!(isEnm q.1&&t.1))
   ((g (relab sc' sc) elt).bind fun elt'=>(compL (g (relab sc' sc)) c.ifs).bind fun cs=>some (.comp elt' t.1 t.2 q.1 q.2 cs)))
noncomputable def lamK (g:Scope→Expr→Option Ex) (args:Arguments) (body:Expr) (sc':Scope):Option Ex:=
 gd (noArgs args&&compScopeOk sc' sc&&lamScope sc&&sc'.isGenerator==false&&sc'.isCoroutine==false) ((lamFree sc').bind fun x=>(encS x).bind fun i=>(g sc' body).bind fun b'=>some (.lam i b'))
end
noncomputable def compE (fns:List Nat):Nat→Scope→Expr→Option Ex
 | 0,_,_=>none
 | n+1,sc,pe=>match pe with
  | .Constant c _ _=>(compC c).map .cst
  | .Name x _=>compN sc x
  | .List es _=>gd (decide (es.length≤1000)) ((compL (compE fns n sc) es).bind fun es'=>some (.list es'))
  | .Tuple es _ _=>gd (decide (es.length≤1000)) ((compL (compE fns n sc) es).bind fun es'=>some (.tup es'))
  | .Dict ks vs _=>(keysT ks).bind fun ts=>(compL (compE fns n sc) vs).bind fun es=>gd (vs.length==ks.length&&decide (vs.length≤15)&&!ks.isEmpty&&decide (ts.Nodup)) (some (.dict ts es))
  | .Subscript a i _=>(compE fns n sc a).bind fun a'=>subK (compE fns n sc) a' i
  | .BinOp a op b _=>binK (compE fns n sc) a op b
  | .UnaryOp op a _=>(compE fns n sc a).bind fun a'=>unK op a'
  | .Compare l ops rs _=>cmpK (compE fns n sc) l ops rs
  | .BoolOp op vs _=>match op with
   | .And=>compB .and (compE fns n sc) vs
   | .Or=>compB .or (compE fns n sc) vs
  | .IfExp c a b _=>(compE fns n sc c).bind fun c'=>(compE fns n sc a).bind fun a'=>(compE fns n sc b).bind fun b'=>some (.ite c' a' b')
  | .Call fe args kws pos=>callK fns sc (compE fns n sc) fe args kws pos
  | .ListComp elt gens sc' _=>compK sc (compE fns n) elt gens sc'
  | .Lambda args body sc' _=>lamK sc (compE fns n) args body sc'
  | _=>none
noncomputable def mixK:Option NameKind→Option Bool
 | some .local=>some false
 | some .cell=>some true
 | _=>none
noncomputable def mixN (sc:Scope) (e:Expr):Option (Bool×Nat):=(eName e).bind fun q=>(mixK (sc.names.lookup q.1)).bind fun b=>(encS q.1).map fun i=>(b,i)
noncomputable def mixNs (sc:Scope):List Expr→Option (List (Bool×Nat))
 | []=>some []
 | e::es=>(mixN sc e).bind fun i=>(mixNs sc es).map fun is=>i::is
noncomputable def ownOk (e:Expr):Bool:=
 Nat.beq e.ctorIdx 24||Nat.beq e.ctorIdx 8||match eCall1 e with
  | some q=>q.1==("list":Str)
  | none=>false
noncomputable def tupOk (e:Expr):Bool:=
 match eTuple e with
 | some q=>!q.1.all (constantsAlone 8)
 | none=>!(Nat.beq e.ctorIdx 24||Nat.beq e.ctorIdx 8||Nat.beq e.ctorIdx 9||Nat.beq e.ctorIdx 10)
section
variable (ow fz:List Nat) (sc:Scope) (ce:Scope→Expr→Option Ex)
noncomputable def nameA (t v:Expr):Option St:=
 (mixN sc t).bind fun q=>(ce sc v).bind fun v'=>gd (!q.1) (match ow.contains q.2 with
  | true=>gd (ownOk v) (some (.own q.2 v'))
  | false=>some (.assign (fz.contains q.2) false q.2 v'))
noncomputable def tupA (es:List Expr) (v:Expr):Option St:=
 (mixNs sc es).bind fun xs=>gd (decide ((xs.map (·.2)).Nodup)&&tupOk v) ((ce sc v).bind fun v'=>some (.assignT xs v'))
noncomputable def locI:Ex→Option Nat
 | .loc i=>some i
 | _=>none
noncomputable def poolJ (j:Int) (v':Ex):Option St:=
 match j with
 | .ofNat 0=>some (.pool 0 v')
 | .ofNat 1=>some (.pool 1 v')
 | _=>none
noncomputable def constI (e:Expr):Option Int:=(eConstant e).bind fun q=>cInt q.1
noncomputable def poolA (a i v:Expr):Option St:=
 (eName a).bind fun _=>(constI i).bind fun j=>(ce sc a).bind fun a'=>(locI a').bind fun i=>gd (Nat.beq i 408397525705573) ((ce sc v).bind fun v'=>poolJ j v')
noncomputable def asgK (ts:List Expr) (v:Expr):Option St:=
 (oneL ts).bind fun t=>match eName t with
  | some _=>nameA ow fz sc ce t v
  | none=>match eTuple t with
   | some q=>tupA sc ce q.1 v
   | none=>(eSubscript t).bind fun q=>poolA sc ce q.1 q.2.1 v
structure AppC where
 x:Str
 m:Str
 p:Pos
 apos:Pos
 e:Expr
 pos:Pos
noncomputable def appC (e:Expr):Option AppC:=
 (eCall e).bind fun q=>gd q.2.2.1.isEmpty ((oneL q.2.1).bind fun a=>(eAttribute q.1).bind fun r=>(eName r.1).bind fun n=>some ⟨n.1,r.2.1,n.2,r.2.2,a,q.2.2.2⟩)
noncomputable def exprK (e:Expr):Option St:=
 (appC e).bind fun q=>gd (q.m==("append":Str)&&!(q.x==("__debug__":Str))&&q.apos.endLine==q.pos.line) ((locN sc (.Name q.x q.apos)).bind fun i=>(compL (ce sc) [q.e]).bind fun es=>(oneX es).bind fun e'=>some (.append i e'))
end
noncomputable def compS (fns ow fz:List Nat) (ce:Scope→Expr→Option Ex):Nat→Scope→Stmt→Option St
 | 0,_,_=>none
 | n+1,sc,ps=>match ps with
  | .Assign ts v _=>asgK ow fz sc ce ts v
  | .Expr e _=>exprK sc ce e
  | .Return e _=>match e with
   | some e=>(ce sc e).map .ret
   | none=>none
  | .If c a b _=>(ce sc c).bind fun c'=>(compSs (compS fns ow fz ce n sc) a).bind fun a'=>(compSs (compS fns ow fz ce n sc) b).bind fun b'=>some (.ite c' a' b')
  | .For tg it body orelse _=>match orelse with
   | []=>(tgN sc tg).bind fun t=>(iterK sc (ce sc) false it).bind fun q=>(compSs (compS fns ow fz ce n sc) body).bind fun b'=>some (.for t.1 t.2 q.1 q.2 b')
   | _=>none
  | .While c body orelse _=>match orelse with
   | []=>(ce sc c).bind fun c'=>(compSs (compS fns ow fz ce n sc) body).bind fun b'=>some (.while c' b')
   | _=>none
  | _=>none
where compSs (f:Stmt→Option St):List Stmt→Option Sts
 | []=>some .nil
 | s::ss=>(f s).bind fun s'=>(compSs f ss).bind fun ss'=>some (.cons s' ss')
noncomputable def cstV:Value→Option Cst
 | .none=>some .none
 | .bool b=>some (.bool b)
 | .int i _=>some (.int i)
 | .str s _=>gd (Nat.ble s.cps.toList.length 1000) (some (.str s.cps.toList))
 | _=>none
noncomputable def cstVs:List Value→Option (List Cst)
 | []=>some []
 | v::vs=>(cstV v).bind fun c=>(cstVs vs).map fun cs=>c::cs
noncomputable def vRef:Value→Option Addr
 | .ref a=>some a
 | _=>none
noncomputable def dFunc:Data→Option FuncData
 | .func f=>some f
 | _=>none
noncomputable def dSeq:Data→Option (Array Value)
 | .seq vs _=>some vs
 | _=>none
noncomputable def isTup:Value→Bool
 | .type t=>t=="tuple"
 | _=>false
noncomputable def bodyS:FuncBody→Option (List Stmt)
 | .stmts b=>some b
 | .expr _=>none
noncomputable def dflK (K:Frag) (v:Value):Option (List Cst):=
 match v with
 | .none=>some []
 | .ref a=>(K.lookup a).bind fun o=>gd (isTup o.cls) ((dSeq o.data).bind fun vs=>cstVs vs.toList)
 | _=>none
noncomputable def parNs (sc:Scope):List Arg→Option (List (Bool×Nat))
 | []=>some []
 | p::ps=>(mixN sc (.Name p.arg p.pos)).bind fun i=>(parNs sc ps).map fun is=>i::is
noncomputable def fnOk (K:Frag) (f:FuncData):Bool:=
 f.scope.kind==.function&&(f.scope.isGenerator==false&&(f.scope.isCoroutine==false&&(f.closure.isEmpty&&(decide (f.globals=mainGlobals)&&(decide (f.builtins=builtinsNs)&&(codeIn K f.code f.qualname
  && (f.params.posonlyargs.isEmpty&&(f.params.vararg.isNone&&(f.params.kwonlyargs.isEmpty&&(f.params.kwarg.isNone
  && (decide ((f.scope.names.map (·.1)).Nodup∧∀ p∈f.scope.names,p.2≠NameKind.free)&&(!lamScope f.scope||(f.code==.ref lamCode&&f.qualname==("_law_bare_flat":Str))))))))))))))
noncomputable def compFn (fns ow fz:List Nat) (K:Frag) (name:Str):Option Fn:=
 (nsIn K mainGlobals name).bind fun r=>r.bind fun v=>(vRef v).bind fun a=>(K.lookup a).bind fun o=>(dFunc o.data).bind fun f=>gd (fnOk K f) ((bodyS f.body).bind fun body=>
  (encS name).bind fun i=>(parNs f.scope f.params.args).bind fun ps=>(dflK K f.defaults).bind fun dfl=>(compS.compSs (compS fns ow fz (compE fns 40) 40 f.scope) body).bind fun b=>
   gd (decide ((ps.map (·.2)).Nodup)) (some ⟨i,ps,dfl,b⟩))
noncomputable def fns0:List Nat:=[116195194222048146608192513395,1772997958710451706623080,1772997958710451775303781,6925773276212702113655,7614968248536147765934460729123699,29745969720844329739584251720302,1772997958710451706622580,7614968248536148558559199053899108,29745969720844328622480187089260,29745969720844331428425337237108,101739320270876263,116195194222048152084242261107,26257523380435513190,1772997958710451523580018,105678913517413742,453887477429875572587454820,1772997958710451757474917,7614968248536148345481597721797988,1772997958710451640038260,116195194222048147669066018404,7614968248536147764815170559436132,1772997958710451607268720,1949431871625253755012820454215348078,499054559136064956505647099416295336805,453887477429875577000914532,27053801860205865318,453887477429875624010605416,1772997958710451741095795,26043864081937753444,453887477429875576950186859,1949431871625254050517372003949047412,453887477429875607148522867,1772997958710451590423917,27053801860205864558,1772997958710451539767917,1772997958710451589967980,6482616824352681717612,6482616824352747907941,25322721970127597157,6482616824352680801384,6482616824352749482085,7127712576792175460668829040664948,108760262707398985984080441966,6482616824352613949798,6482616824352497758322,1824694419658711675454248242656144229,1659549907034226339832683,1659549907034269172524396,6482616824352513745268,6482616824352614216564,6482616824352731653221,7127712576791841690456195311886708,7127712576792027165579548054806900,119583173486757647878448095968971901919604,27842627253094288470970699899252,27842627253093493012816881869683,6482616824352513946221,27842627253093425458813914935150,424844776200775107140150628,6482616824352564602221,7837002857627846317429081131406024461596977268]
noncomputable abbrev ci (i:Int):Ex:=.cst (.int i)
noncomputable abbrev cs (s:T):Ex:=.cst (.str s)
noncomputable abbrev sb (a:Ex) (i:Int):Ex:=.sub a (ci i)
noncomputable abbrev ad (a b:Ex):Ex:=.bin .Add a b
noncomputable abbrev ee (a b:Ex):Ex:=.cmp .Eq a b
noncomputable abbrev x1 (a:Ex):Exs:=.cons a .nil
noncomputable abbrev x2 (a b:Ex):Exs:=.cons a (x1 b)
noncomputable abbrev x3 (a b c:Ex):Exs:=.cons a (x2 b c)
noncomputable abbrev x4 (a b c d:Ex):Exs:=.cons a (x3 b c d)
noncomputable abbrev so (a:St):Sts:=.cons a .nil
noncomputable abbrev sa (x:Nat) (e:Ex):St:=.assign false false x e
noncomputable abbrev y1:Ex:=.loc 5997359218
noncomputable abbrev y2:Ex:=.loc 6097038948
noncomputable abbrev y3:Ex:=.loc 408397525705573
noncomputable abbrev y4:Ex:=.loc 24079973
noncomputable abbrev y5:Ex:=.loc 6064203117
noncomputable abbrev y6:Ex:=.loc 103689944226427502
noncomputable abbrev y7:Ex:=.cel 5997359218
noncomputable abbrev y8:Ex:=.loc 101739320102187621
noncomputable abbrev y9:Ex:=.loc 6248426596
noncomputable abbrev y10:Ex:=.loc 24600953
noncomputable abbrev y11:Ex:=.loc 6247774324
noncomputable abbrev y12:Ex:=.loc 24147298
noncomputable abbrev y13:Ex:=.cel 408397525705573
noncomputable abbrev y14:Ex:=.loc 1582182855795
noncomputable abbrev y15:Ex:=.loc 397419220071778
noncomputable abbrev y16:Ex:=.loc 1578205996402
noncomputable abbrev y17:Ex:=.loc 25897226614254166899
noncomputable abbrev y18:Ex:=.loc 1607952266597
noncomputable abbrev y19:Ex:=.loc 24276855
noncomputable abbrev y20:Ex:=.loc 1522237662059
noncomputable abbrev y21:Ex:=.loc 5979334000
noncomputable abbrev y22:Ex:=.loc 6146846053
noncomputable abbrev y23:Ex:=.loc 105678913517413742
noncomputable abbrev y24:Ex:=.loc 1552335922546
noncomputable abbrev y25:Ex:=.loc 5945520997
noncomputable abbrev y26:Ex:=.loc 394077835912307
noncomputable abbrev y27:Ex:=.loc 6852128163306360106612
noncomputable abbrev y28:Ex:=.loc 6214874995
noncomputable abbrev y29:Ex:=.loc 1539468258916
noncomputable abbrev y30:Ex:=.loc 1565070353772
noncomputable abbrev y31:Ex:=.loc 6013547117
noncomputable abbrev y32:Ex:=.loc 6231649637
noncomputable abbrev y33:Ex:=.loc 6180402280
noncomputable abbrev y34:Ex:=.glob 1474386938949
noncomputable abbrev y35:Ex:=.loc 5946434681
noncomputable abbrev y36:Ex:=.loc 363
noncomputable abbrev y37:Ex:=.cel 6097038948
noncomputable abbrev y38:Ex:=.loc 388601786164595
noncomputable abbrev y39:Ex:=.glob 1465896751705
noncomputable abbrev y40:Ex:=.glob 354370491468627
noncomputable abbrev y41:Ex:=.loc 1543862579812
noncomputable abbrev y42:Ex:=.loc 104257236207890035
noncomputable abbrev y43:Ex:=.loc 1599765243251
noncomputable abbrev y44:Ex:=.glob 1418770337875
noncomputable abbrev y45:Ex:=.loc 1565001934188
noncomputable abbrev y46:Ex:=.loc 1517942301043
noncomputable abbrev y47:Ex:=.loc 405038809836915
noncomputable abbrev y48:Ex:=.loc 407255031049332
noncomputable abbrev y49:Ex:=.loc 1599646820724
noncomputable abbrev y50:Ex:=.loc 23226727
noncomputable abbrev y51:Ex:=.loc 24407920
noncomputable abbrev w1 (e:Exs):Ex:=.call 25322721970127597157 e
noncomputable abbrev w2 (e:Exs):Ex:=.call 1772997958710451523580018 e
noncomputable abbrev w3 (e:Exs):Ex:=.call 6482616824352513745268 e
noncomputable abbrev w4 (e:Exs):Ex:=.call 6482616824352747907941 e
noncomputable abbrev w5 (e:Exs):Ex:=.call 1772997958710451775303781 e
noncomputable abbrev w6 (e:Exs):Ex:=.call 6482616824352680801384 e
noncomputable abbrev w7 (e:Exs):Ex:=.call 7127712576792175460668829040664948 e
noncomputable abbrev w8 (e:Exs):Ex:=.call 29745969720844329739584251720302 e
noncomputable abbrev w9 (e:Exs):Ex:=.call 6482616824352614216564 e
noncomputable abbrev w10 (e:Exs):Ex:=.call 1772997958710451706623080 e
noncomputable abbrev w11 (e:Exs):Ex:=.bi 24343666 e
noncomputable abbrev w12 (e:Exs):Ex:=.call 453887477429875576950186859 e
noncomputable abbrev w13 (e:Exs):Ex:=.call 1772997958710451741095795 e
noncomputable abbrev w14 (e:Exs):Ex:=.call 7127712576792027165579548054806900 e
noncomputable abbrev w15 (e:Exs):Ex:=.bi 23881070 e
noncomputable abbrev w16 (e:Exs):Ex:=.call 6482616824352497758322 e
noncomputable abbrev w17 (e:Exs):Ex:=.bi 1599698136165 e
noncomputable abbrev w18 (e:Exs):Ex:=.call 1772997958710451757474917 e
noncomputable abbrev w19 (e:Exs):Ex:=.call 7614968248536147765934460729123699 e
noncomputable abbrev w20 (e:Exs):Ex:=.call 6482616824352731653221 e
noncomputable abbrev w21 (e:Exs):Ex:=.call 1772997958710451706622580 e
noncomputable abbrev w22 (e:Exs):Ex:=.bi 23686772 e
noncomputable abbrev w23 (e:Exs):Ex:=.call 1772997958710451640038260 e
noncomputable abbrev w24 (e:Exs):Ex:=.call 1772997958710451590423917 e
noncomputable abbrev w25 (e:Exs):Ex:=.call 6482616824352749482085 e
noncomputable abbrev w26 (e:Exs):Ex:=.call 424844776200775107140150628 e
noncomputable abbrev w27 (e:Exs):Ex:=.call 116195194222048146608192513395 e
noncomputable abbrev w28 (e:Exs):Ex:=.bi 6113817460 e
noncomputable abbrev w29 (e:Exs):Ex:=.call 6925773276212702113655 e
noncomputable abbrev w30 (e:Exs):Ex:=.call 1949431871625253755012820454215348078 e
noncomputable abbrev w31 (e:Exs):Ex:=.call 108760262707398985984080441966 e
noncomputable abbrev w32 (e:Exs):Ex:=.call 1659549907034269172524396 e
noncomputable abbrev w33 (e:Exs):Ex:=.call 29745969720844328622480187089260 e
noncomputable abbrev w34 (e:Exs):Ex:=.call 105678913517413742 e
noncomputable abbrev w35 (e:Exs):Ex:=.call 453887477429875577000914532 e
noncomputable abbrev w36 (e:Exs):Ex:=.call 1772997958710451539767917 e
noncomputable abbrev w37 (e:Exs):Ex:=.call 1659549907034226339832683 e
noncomputable abbrev w38 (e:Exs):Ex:=.call 7127712576791841690456195311886708 e
noncomputable abbrev w39 (e:Exs):Ex:=.call 119583173486757647878448095968971901919604 e
noncomputable abbrev w40 (e:Exs):Ex:=.bi 6214217842 e
noncomputable abbrev w41 (e:Exs):Ex:=.call 27842627253093493012816881869683 e
noncomputable abbrev w42 (e:Exs):Ex:=.call 27842627253093425458813914935150 e
noncomputable abbrev w43 (e:Exs):Ex:=.call 6482616824352513946221 e
noncomputable def z1:Sts:=so (.ret (.ite (ee y14 (.list .nil)) (cs []) (ad (ad (cs [60]) (.join [44,32] y14)) (cs [62]))))
noncomputable def f_write_angles:Fn:={id:=116195194222048146608192513395,ps:=[(false,1582182855795)],dfl:=[],body:=z1}
noncomputable def z2:Sts:=so (.append 1539468258916 (ad y22 (.ite (.cmp .NotEq y38 (cs [])) (ad (.loc 99753692649317742) y38) (cs []))))
noncomputable def z3:Sts:=.cons (sa 388601786164595 (w27 (x1 (ad (w28 (x1 y42)) (.comp (w5 (x1 y4)) true [24079973] .val y43 .nil))))) z2
noncomputable def z4:Sts:=so (.ret (.join [58,58] y29))
noncomputable def z5:Sts:=.cons (.for false [6146846053,104257236207890035,1599765243251] .val y33 z3) z4
noncomputable def z6:Sts:=.cons (.own 1539468258916 (.list .nil)) z5
noncomputable def f_write_path:Fn:={id:=1772997958710451706623080,ps:=[(false,6180402280),(false,99753692649317742)],dfl:=[.str []],body:=z6}
noncomputable def z7:Sts:=so (.ret (w10 (x1 (sb y23 2))))
noncomputable def z8:Sts:=so (.ret (ad (ad (ad (cs [38]) (.loc 407254828937070)) (.ite (sb y23 3) (cs [109,117,116,32]) (cs []))) (w5 (x1 (sb y23 4)))))
noncomputable def z9:Sts:=.cons (sa 407254828937070 (.ite (.cmp .Is (sb y23 2) (.cst .none)) (cs []) (ad (sb y23 2) (cs [32])))) z8
noncomputable def z10:Sts:=so (.ret (w29 (x1 (.comp (w5 (x1 y4)) true [24079973] .val (sb y23 2) .nil))))
noncomputable def z11:Sts:=so (.ret (ad (ad (ad (ad (cs [91]) (w5 (x1 (sb y23 2)))) (cs [59,32])) (w11 (x1 (sb y23 3)))) (cs [93])))
noncomputable def z12:Sts:=so (.ret (.ite (ee y2 (cs [110,101,118,101,114])) (cs [33]) (cs [95])))
noncomputable def z13:Sts:=.cons (.ite (ee y2 (cs [97,114,114,97,121])) z11 .nil) z12
noncomputable def z14:Sts:=.cons (.ite (ee y2 (cs [116,117,112,108,101])) z10 .nil) z13
noncomputable def z15:Sts:=.cons (.ite (ee y2 (cs [114,101,102])) z9 .nil) z14
noncomputable def z16:Sts:=.cons (.ite (ee y2 (cs [112,97,116,104])) z7 .nil) z15
noncomputable def z17:Sts:=.cons (sa 6097038948 (sb y23 0)) z16
noncomputable def f_write_type:Fn:={id:=1772997958710451775303781,ps:=[(false,105678913517413742)],dfl:=[],body:=z17}
noncomputable def z18:Sts:=so (.ret (ad (ad (ad (cs [40]) (.join [44,32] y14)) (.ite (ee (w15 (x1 y14)) (ci 1)) (cs [44]) (cs []))) (cs [41])))
noncomputable def f_write_row:Fn:={id:=6925773276212702113655,ps:=[(false,1582182855795)],dfl:=[],body:=z18}
noncomputable def z19:Sts:=so (.append 1582182855795 (ad y22 (.ite (.cmp .NotEq y9 (cs [])) (ad (cs [58,32]) y9) (cs []))))
noncomputable def z20:Sts:=.cons (sa 6248426596 (.join [32,43,32] (.comp (w10 (x1 (.loc 1522288389732))) true [1522288389732] .val (.loc 389705827771507) .nil))) z19
noncomputable def z21:Sts:=so (.ret (w27 (x1 y14)))
noncomputable def z22:Sts:=.cons (.for false [6146846053,389705827771507] .val (sb y17 1) z20) z21
noncomputable def z23:Sts:=.cons (.own 1582182855795 (w28 (x1 (sb y17 0)))) z22
noncomputable def f_write_generics:Fn:={id:=7614968248536147765934460729123699,ps:=[(false,25897226614254166899)],dfl:=[],body:=z23}
noncomputable def z24:Sts:=so (.ret (.join [32,124,32] (.comp (w21 (x1 y4)) true [24079973] .val (sb y6 2) .nil)))
noncomputable def z25:Sts:=so (.ret (w21 (x1 y6)))
noncomputable def z26:Sts:=.cons (.ite (ee (sb y6 0) (cs [111,114])) z24 .nil) z25
noncomputable def f_write_pattern:Fn:={id:=29745969720844329739584251720302,ps:=[(false,103689944226427502)],dfl:=[],body:=z26}
noncomputable def z27:Sts:=so (.ret (ad (ad (cs [40]) (w8 (x1 y6))) (cs [41])))
noncomputable def z28:Sts:=so (.ret (cs [95]))
noncomputable def z29:Sts:=so (.ret (ad (ad (.loc 1517874930020) (sb y6 2)) (.ite (.cmp .Is (sb y6 5) (.cst .none)) (cs []) (ad (cs [32,64,32]) (w21 (x1 (sb y6 5)))))))
noncomputable def z30:Sts:=.cons (sa 1517874930020 (ad (.ite (sb y6 3) (cs [114,101,102,32]) (cs [])) (.ite (sb y6 4) (cs [109,117,116,32]) (cs [])))) z29
noncomputable def z31:Sts:=so (.ret (w33 (x1 (sb y6 2))))
noncomputable def z32:Sts:=so (.ret (ad (ad (w11 (x1 (sb y6 2))) (cs [46,46,61])) (w11 (x1 (sb y6 3)))))
noncomputable def z33:Sts:=so (.ret (ad (ad (cs [38]) (.ite (sb y6 2) (cs [109,117,116,32]) (cs []))) (.call 7614968248536148558559199053899108 (x1 y6))))
noncomputable def z34:Sts:=so (.ret (w29 (x1 (.comp (w8 (x1 y4)) true [24079973] .val (sb y6 2) .nil))))
noncomputable def z35:Sts:=so (.ret (.call 29745969720844331428425337237108 (x1 y6)))
noncomputable def z36:Sts:=so (.ret (.call 116195194222048152084242261107 (x1 y6)))
noncomputable def z37:Sts:=.cons (.ite (ee y2 (cs [118,97,114,105,97,110,116])) z35 .nil) z36
noncomputable def z38:Sts:=.cons (.ite (ee y2 (cs [116,117,112,108,101])) z34 .nil) z37
noncomputable def z39:Sts:=.cons (.ite (ee y2 (cs [114,101,102])) z33 .nil) z38
noncomputable def z40:Sts:=.cons (.ite (ee y2 (cs [114,97,110,103,101])) z32 .nil) z39
noncomputable def z41:Sts:=.cons (.ite (ee y2 (cs [108,105,116])) z31 .nil) z40
noncomputable def z42:Sts:=.cons (.ite (ee y2 (cs [110,97,109,101])) z30 .nil) z41
noncomputable def z43:Sts:=.cons (.ite (ee y2 (cs [119,105,108,100])) z28 .nil) z42
noncomputable def z44:Sts:=.cons (.ite (ee y2 (cs [111,114])) z27 .nil) z43
noncomputable def z45:Sts:=.cons (sa 6097038948 (sb y6 0)) z44
noncomputable def f_write_part:Fn:={id:=1772997958710451706622580,ps:=[(false,103689944226427502)],dfl:=[],body:=z45}
noncomputable def z46:Sts:=so (.ret (.ite (.loc 397419220006766) (ad (ad (cs [40]) y24) (cs [41])) y24))
noncomputable def z47:Sts:=.cons (sa 397419220006766 (.and (ee (sb (sb y6 3) 0) (cs [110,97,109,101])) (.and (sb (sb y6 3) 4) (.not (sb (sb y6 3) 3))))) z46
noncomputable def z48:Sts:=.cons (sa 1552335922546 (w21 (x1 (sb y6 3)))) z47
noncomputable def f_write_referred:Fn:={id:=7614968248536148558559199053899108,ps:=[(false,103689944226427502)],dfl:=[],body:=z48}
noncomputable def z49:Sts:=so (.ret (.ite y18 (cs [116,114,117,101]) (cs [102,97,108,115,101])))
noncomputable def z50:Sts:=so (.ret (w11 (x1 y18)))
noncomputable def z51:Sts:=.cons (.ite (.bi 1706903273020983629210469 (x1 y18)) z49 .nil) z50
noncomputable def f_write_literal:Fn:={id:=29745969720844328622480187089260,ps:=[(false,1607952266597)],dfl:=[],body:=z51}
noncomputable def z52:Sts:=so (.ret y33)
noncomputable def z53:Sts:=so (.ret (ad (ad (ad y33 (cs [40])) (.join [44,32] y14)) (cs [41])))
noncomputable def z54:Sts:=.cons (.ite (.and (ee y14 (.list .nil)) (.call 101739320270876263 (x1 (sb y6 2)))) z52 .nil) z53
noncomputable def z55:Sts:=.cons (.assignT [(false,6180402280),(false,1582182855795)] (.tup (x2 (w10 (x2 (sb y6 2) (cs [58,58]))) (.comp (w8 (x1 y4)) true [24079973] .val (sb y6 3) .nil)))) z54
noncomputable def f_write_variant:Fn:={id:=29745969720844331428425337237108,ps:=[(false,103689944226427502)],dfl:=[],body:=z55}
noncomputable def z56:Sts:=so (.ret (.or (.cmp .Gt (w15 (x1 y33)) (ci 1)) (.cmp .In (sb (sb y33 0) 0) (.tup (x4 (cs [83,101,108,102]) (cs [115,101,108,102]) (cs [115,117,112,101,114]) (cs [99,114,97,116,101]))))))
noncomputable def f_is_long:Fn:={id:=101739320270876263,ps:=[(false,6180402280)],dfl:=[],body:=z56}
noncomputable def z57:Sts:=so (.append 1582182855795 (cs [46,46]))
noncomputable def z58:Sts:=so (.ret (ad (ad (ad (w10 (x2 (sb y6 2) (cs [58,58]))) (cs [32,123,32])) (.join [44,32] y14)) (.ite (.cmp .NotEq y14 (.list .nil)) (cs [32,125]) (cs [125]))))
noncomputable def z59:Sts:=.cons (.ite (sb y6 4) z57 .nil) z58
noncomputable def z60:Sts:=.cons (.own 1582182855795 (.comp (ad (ad y22 (cs [58,32])) (w8 (x1 y4))) false [6146846053,24079973] .val (sb y6 3) .nil)) z59
noncomputable def f_write_fields:Fn:={id:=116195194222048152084242261107,ps:=[(false,103689944226427502)],dfl:=[],body:=z60}
noncomputable def z61:Sts:=so (.ret y34)
noncomputable def z62:Sts:=so (.ret (.sub (.glob 365335660547155) (sb y1 2)))
noncomputable def z63:Sts:=so (.ret (.glob 5423321940))
noncomputable def z64:Sts:=so (.ret (.ite (.cmp .In y2 (.tup (x2 (cs [117,110,97,114,121]) (cs [98,111,114,114,111,119])))) y39 (.glob 94662811489552728)))
noncomputable def z65:Sts:=.cons (.ite (ee y2 (cs [99,97,115,116])) z63 .nil) z64
noncomputable def z66:Sts:=.cons (.ite (ee y2 (cs [98,105,110,97,114,121])) z62 .nil) z65
noncomputable def z67:Sts:=.cons (.ite (.or (.cmp .In y2 (.tup (x2 (cs [97,115,115,105,103,110]) (cs [117,112,100,97,116,101])))) (.or (.cmp .In y2 y40) (.cmp .In y2 y44))) z61 .nil) z66
noncomputable def z68:Sts:=.cons (sa 6097038948 (sb y1 0)) z67
noncomputable def f_level_of:Fn:={id:=26257523380435513190,ps:=[(false,5997359218)],dfl:=[],body:=z68}
noncomputable def z69:Sts:=so (.ret (ad (ad (cs [40]) (w34 (x2 y1 (.cst (.bool false))))) (cs [41])))
noncomputable def z70:Sts:=so (.ret (w34 (x2 y1 y8)))
noncomputable def z71:Sts:=.cons (.ite (.or (.cmp .Lt (.call 26257523380435513190 (x1 y1)) (.loc 1565068981108)) (.loc 101739320321271150)) z69 .nil) z70
noncomputable def z72:Sts:=.cons (sa 101739320321271150 (.and y8 (.or (ee y2 (cs [115,116,114,117,99,116])) (.or (.cmp .In y2 y44) (.cmp .In y2 y40))))) z71
noncomputable def z73:Sts:=.cons (sa 6097038948 (sb y1 0)) z72
noncomputable def f_write_expr:Fn:={id:=1772997958710451523580018,ps:=[(false,5997359218),(false,1565068981108),(false,101739320102187621)],dfl:=[.int 0,.bool false],body:=z73}
noncomputable def z74:Sts:=so (.ret (ad (w11 (x1 (sb y1 2))) (.ite (.cmp .IsNot (sb y1 3) (.cst .none)) (sb y1 3) (cs []))))
noncomputable def z75:Sts:=so (.ret (w33 (x1 (sb y1 2))))
noncomputable def z76:Sts:=so (.ret (w10 (x2 (sb y1 2) (cs [58,58]))))
noncomputable def z77:Sts:=so (.ret (.call 453887477429875572587454820 (x2 y1 y8)))
noncomputable def z78:Sts:=so (.ret (.call 7614968248536148345481597721797988 (x2 y1 y8)))
noncomputable def z79:Sts:=so (.ret (.call 116195194222048147669066018404 (x2 y1 y8)))
noncomputable def z80:Sts:=so (.ret (.call 499054559136064956505647099416295336805 (x1 y1)))
noncomputable def z81:Sts:=so (.ret (.call 1772997958710451607268720 (x1 y1)))
noncomputable def z82:Sts:=so (.ret (.call 7614968248536147764815170559436132 (x1 y1)))
noncomputable def z83:Sts:=.cons (.ite (.cmp .In y2 y44) z81 .nil) z82
noncomputable def z84:Sts:=.cons (.ite (.cmp .In y2 y40) z80 .nil) z83
noncomputable def z85:Sts:=.cons (.ite (.cmp .In y2 (.tup (x4 (cs [99,97,108,108]) (cs [109,101,116,104,111,100]) (cs [102,105,101,108,100]) (cs [105,110,100,101,120])))) z79 .nil) z84
noncomputable def z86:Sts:=.cons (.ite (.cmp .In y2 (.tup (x4 (cs [98,105,110,97,114,121]) (cs [97,115,115,105,103,110]) (cs [117,112,100,97,116,101]) (cs [99,97,115,116])))) z78 .nil) z85
noncomputable def z87:Sts:=.cons (.ite (.cmp .In y2 (.tup (x2 (cs [117,110,97,114,121]) (cs [98,111,114,114,111,119])))) z77 .nil) z86
noncomputable def z88:Sts:=.cons (.ite (ee y2 (cs [112,97,116,104])) z76 .nil) z87
noncomputable def z89:Sts:=.cons (.ite (ee y2 (cs [98,111,111,108])) z75 .nil) z88
noncomputable def z90:Sts:=.cons (.ite (ee y2 (cs [105,110,116])) z74 .nil) z89
noncomputable def z91:Sts:=.cons (sa 6097038948 (sb y1 0)) z90
noncomputable def f_written:Fn:={id:=105678913517413742,ps:=[(false,5997359218),(false,101739320102187621)],dfl:=[],body:=z91}
noncomputable def z92:Sts:=so (.ret (ad (sb y1 2) (w2 (x3 (sb y1 3) y39 y8))))
noncomputable def z93:Sts:=so (.ret (ad (ad (cs [38]) (.ite (sb y1 2) (cs [109,117,116,32]) (cs []))) (w2 (x3 (sb y1 3) y39 y8))))
noncomputable def z94:Sts:=.cons (.ite (ee (sb y1 0) (cs [117,110,97,114,121])) z92 .nil) z93
noncomputable def f_write_ahead:Fn:={id:=453887477429875572587454820,ps:=[(false,5997359218),(false,101739320102187621)],dfl:=[],body:=z94}
noncomputable def z95:Sts:=so (.ret (w2 (x3 y1 (.ite (ee (sb y1 0) (cs [99,97,115,116])) y39 (.loc 1565068981108)) y8)))
noncomputable def f_write_side:Fn:={id:=1772997958710451757474917,ps:=[(false,5997359218),(false,1565068981108),(false,101739320102187621)],dfl:=[],body:=z95}
noncomputable def z96:Sts:=so (.ret (ad (ad (w2 (x3 (sb y1 2) (.glob 5423321940) y8)) (cs [32,97,115,32])) (w5 (x1 (sb y1 3)))))
noncomputable def z97:Sts:=so (.ret (ad (ad (ad (ad (.loc 6113551988) (cs [32])) (sb y1 2)) (cs [32])) (w18 (x3 (sb y1 4) (ad y30 (ci 1)) y8))))
noncomputable def z98:Sts:=.cons (sa 6113551988 (w18 (x3 (sb y1 3) (ad y30 (w22 (x1 (ee y30 (.glob 23296924404499498308))))) y8))) z97
noncomputable def z99:Sts:=.cons (sa 1565070353772 (.sub (.glob 365335660547155) (sb y1 2))) z98
noncomputable def z100:Sts:=so (.ret (ad (ad (w18 (x3 (sb y1 2) (ci 1) y8)) (cs [32,61,32])) (w2 (x3 (sb y1 3) y34 y8))))
noncomputable def z101:Sts:=so (.ret (ad (ad (ad (ad (w18 (x3 (sb y1 3) (ci 1) y8)) (cs [32])) (sb y1 2)) (cs [61,32])) (w2 (x3 (sb y1 4) y34 y8))))
noncomputable def z102:Sts:=.cons (.ite (ee y2 (cs [97,115,115,105,103,110])) z100 .nil) z101
noncomputable def z103:Sts:=.cons (.ite (ee y2 (cs [98,105,110,97,114,121])) z99 .nil) z102
noncomputable def z104:Sts:=.cons (.ite (ee y2 (cs [99,97,115,116])) z96 .nil) z103
noncomputable def z105:Sts:=.cons (sa 6097038948 (sb y1 0)) z104
noncomputable def f_write_operated:Fn:={id:=7614968248536148345481597721797988,ps:=[(false,5997359218),(false,101739320102187621)],dfl:=[],body:=z105}
noncomputable def z106:Sts:=so (.ret (.join [44,32] (.comp (w2 (x1 y4)) true [24079973] .val y14 .nil)))
noncomputable def f_write_list:Fn:={id:=1772997958710451640038260,ps:=[(false,1582182855795)],dfl:=[],body:=z106}
noncomputable def z107:Sts:=so (.ret (ad (ad (ad y9 (cs [40])) (w23 (x1 (sb y1 3)))) (cs [41])))
noncomputable def z108:Sts:=so (.ret (ad (ad y9 (cs [46])) (sb y1 3)))
noncomputable def z109:Sts:=so (.ret (ad (ad (ad y9 (cs [91])) (w2 (x1 (sb y1 3)))) (cs [93])))
noncomputable def z110:Sts:=so (.ret (ad (ad (ad (ad (ad (ad y9 (cs [46])) (sb y1 3)) (.ite (.cmp .NotEq y38 (cs [])) (ad (cs [58,58]) y38) (cs []))) (cs [40])) (w23 (x1 (sb y1 5)))) (cs [41])))
noncomputable def z111:Sts:=.cons (sa 388601786164595 (w27 (x1 (.comp (w5 (x1 y4)) true [24079973] .val (sb y1 4) .nil)))) z110
noncomputable def z112:Sts:=.cons (.ite (ee y2 (cs [105,110,100,101,120])) z109 .nil) z111
noncomputable def z113:Sts:=.cons (.ite (ee y2 (cs [102,105,101,108,100])) z108 .nil) z112
noncomputable def z114:Sts:=.cons (.ite (ee y2 (cs [99,97,108,108])) z107 .nil) z113
noncomputable def z115:Sts:=.cons (sa 6248426596 (.ite (.loc 6667588083363674809700) (ad (ad (cs [40]) (w2 (x1 y25))) (cs [41])) (w2 (x3 y25 (.glob 94662811489552728) y8)))) z114
noncomputable def z116:Sts:=.cons (sa 6667588083363674809700 (.or (.and (ee y2 (cs [99,97,108,108])) (ee (sb y25 0) (cs [102,105,101,108,100]))) (ee (sb y25 0) (cs [115,116,114,117,99,116])))) z115
noncomputable def z117:Sts:=.cons (sa 5945520997 (sb y1 2)) z116
noncomputable def z118:Sts:=.cons (sa 6097038948 (sb y1 0)) z117
noncomputable def f_write_behind:Fn:={id:=116195194222048147669066018404,ps:=[(false,5997359218),(false,101739320102187621)],dfl:=[],body:=z118}
noncomputable def z119:Sts:=so (.ret (w29 (x1 (.comp (w2 (x1 y4)) true [24079973] .val (sb y1 2) .nil))))
noncomputable def z120:Sts:=so (.ret (ad (ad (cs [91]) (w23 (x1 (sb y1 2)))) (cs [93])))
noncomputable def z121:Sts:=so (.ret (ad (ad (ad (ad (cs [91]) (w2 (x1 (sb y1 2)))) (cs [59,32])) (w11 (x1 (sb y1 3)))) (cs [93])))
noncomputable def z122:Sts:=so (.ret (ad (ad (ad (sb y1 2) (cs [33,40])) (w23 (x1 (sb y1 3)))) (cs [41])))
noncomputable def z123:Sts:=so (.ret (ad (w10 (x2 (sb y1 2) (cs [58,58]))) (.ite (.cmp .NotEq y26 (cs [])) (ad (ad (cs [32,123,32]) y26) (cs [32,125])) (cs [32,123,125]))))
noncomputable def z124:Sts:=.cons (sa 394077835912307 (.join [44,32] (.comp (ad (ad y22 (cs [58,32])) (w2 (x1 y4))) false [6146846053,24079973] .val (sb y1 3) .nil))) z123
noncomputable def z125:Sts:=.cons (.ite (ee y2 (cs [109,97,99,114,111])) z122 .nil) z124
noncomputable def z126:Sts:=.cons (.ite (ee y2 (cs [114,101,112,101,97,116])) z121 .nil) z125
noncomputable def z127:Sts:=.cons (.ite (ee y2 (cs [97,114,114,97,121])) z120 .nil) z126
noncomputable def z128:Sts:=.cons (.ite (ee y2 (cs [116,117,112,108,101])) z119 .nil) z127
noncomputable def z129:Sts:=.cons (sa 6097038948 (sb y1 0)) z128
noncomputable def f_write_gathered:Fn:={id:=7614968248536147764815170559436132,ps:=[(false,5997359218)],dfl:=[],body:=z129}
noncomputable def z130:Sts:=so (.ret (ad (cs [99,111,110,116,105,110,117,101]) (.ite (.cmp .Is (sb y1 2) (.cst .none)) (cs []) (ad (cs [32]) (sb y1 2)))))
noncomputable def z131:Sts:=so (sa 1539468258916 (ad (ad y29 (cs [32])) (sb y1 2)))
noncomputable def z132:Sts:=so (.ret y29)
noncomputable def z133:Sts:=so (.ret (ad (ad y29 (cs [32])) (w2 (x2 y18 (.ite (.cmp .In (sb y18 0) y40) (ci 1) y34)))))
noncomputable def z134:Sts:=.cons (.ite (.cmp .Is y18 (.cst .none)) z132 .nil) z133
noncomputable def z135:Sts:=.cons (.ite (.and (ee y2 (cs [98,114,101,97,107])) (.cmp .IsNot (sb y1 2) (.cst .none))) z131 .nil) z134
noncomputable def z136:Sts:=.cons (sa 1539468258916 y2) z135
noncomputable def z137:Sts:=.cons (sa 1607952266597 (.ite (ee y2 (cs [114,101,116,117,114,110])) (sb y1 2) (sb y1 3))) z136
noncomputable def z138:Sts:=.cons (.ite (ee y2 (cs [99,111,110,116,105,110,117,101])) z130 .nil) z137
noncomputable def z139:Sts:=.cons (sa 6097038948 (sb y1 0)) z138
noncomputable def f_write_jump:Fn:={id:=1772997958710451607268720,ps:=[(false,5997359218)],dfl:=[],body:=z139}
noncomputable def z140:Sts:=so (.ret (w2 (x3 y1 y34 (.cst (.bool true)))))
noncomputable def f_write_condition:Fn:={id:=1949431871625253755012820454215348078,ps:=[(false,5997359218)],dfl:=[],body:=z140}
noncomputable def z141:Sts:=so (.ret (w12 (x1 y1)))
noncomputable def z142:Sts:=so (.ret (.call 27053801860205865318 (x1 y1)))
noncomputable def z143:Sts:=so (.ret (.call 453887477429875624010605416 (x1 y1)))
noncomputable def z144:Sts:=so (.ret (ad (ad y45 (cs [108,111,111,112,32])) (w12 (x1 (sb y1 3)))))
noncomputable def z145:Sts:=so (.ret (ad (ad (ad (ad y45 (cs [119,104,105,108,101,32])) (w30 (x1 (sb y1 3)))) (cs [32])) (w12 (x1 (sb y1 4)))))
noncomputable def z146:Sts:=so (.ret (ad (ad (ad y45 y9) (cs [32])) (w12 (x1 (sb y1 7)))))
noncomputable def z147:Sts:=.cons (sa 6248426596 (ad (ad (ad (ad (ad (cs [102,111,114,32]) (w8 (x1 (sb y1 3)))) (cs [32,105,110,32])) (.loc 23883639)) (.ite (sb y1 6) (cs [32,46,46,61,32]) (cs [32,46,46,32]))) (.loc 6046705512))) z146
noncomputable def z148:Sts:=.cons (.assignT [(false,23883639),(false,6046705512)] (.tup (x2 (w35 (x1 (sb y1 4))) (w35 (x1 (sb y1 5)))))) z147
noncomputable def z149:Sts:=.cons (.ite (ee y2 (cs [119,104,105,108,101])) z145 .nil) z148
noncomputable def z150:Sts:=.cons (.ite (ee y2 (cs [108,111,111,112])) z144 .nil) z149
noncomputable def z151:Sts:=.cons (sa 1565001934188 (.ite (.cmp .Is (sb y1 2) (.cst .none)) (cs []) (ad (sb y1 2) (cs [58,32])))) z150
noncomputable def z152:Sts:=.cons (.ite (ee y2 (cs [109,97,116,99,104])) z143 .nil) z151
noncomputable def z153:Sts:=.cons (.ite (ee y2 (cs [105,102])) z142 .nil) z152
noncomputable def z154:Sts:=.cons (.ite (ee y2 (cs [98,108,111,99,107])) z141 .nil) z153
noncomputable def z155:Sts:=.cons (sa 6097038948 (sb y1 0)) z154
noncomputable def f_write_block_like:Fn:={id:=499054559136064956505647099416295336805,ps:=[(false,5997359218)],dfl:=[],body:=z155}
noncomputable def z156:Sts:=so (.ret (w18 (x3 y1 (ci 1) (.cst (.bool true)))))
noncomputable def f_write_bound:Fn:={id:=453887477429875577000914532,ps:=[(false,5997359218)],dfl:=[],body:=z156}
noncomputable def z157:Sts:=so (sa 5997359218 (sb y1 4))
noncomputable def z158:Sts:=.cons (.append 1539468258916 (ad (ad (ad (cs [105,102,32]) (w30 (x1 (sb y1 2)))) (cs [32])) (w12 (x1 (sb y1 3))))) z157
noncomputable def z159:Sts:=so (.append 1539468258916 (w12 (x1 y1)))
noncomputable def z160:Sts:=so (.ret (.join [32,101,108,115,101,32] y29))
noncomputable def z161:Sts:=.cons (.ite (.cmp .IsNot y1 (.cst .none)) z159 .nil) z160
noncomputable def z162:Sts:=.cons (.while (.and (.cmp .IsNot y1 (.cst .none)) (ee (sb y1 0) (cs [105,102]))) z158) z161
noncomputable def z163:Sts:=.cons (.own 1539468258916 (.list .nil)) z162
noncomputable def f_write_if:Fn:={id:=27053801860205865318,ps:=[(false,5997359218)],dfl:=[],body:=z163}
noncomputable def z164:Sts:=so (.append 1539468258916 (ad (ad (ad y9 (cs [32,61,62,32])) (w2 (x1 y35))) (cs [44])))
noncomputable def z165:Sts:=.cons (sa 6248426596 (ad (w8 (x1 y6)) (.ite (.cmp .Is y41 (.cst .none)) (cs []) (ad (cs [32,105,102,32]) (w2 (x1 y41)))))) z164
noncomputable def z166:Sts:=so (.ret (ad (ad (ad (cs [109,97,116,99,104,32]) (w30 (x1 (sb y1 2)))) (cs [32])) (w13 (x1 y29))))
noncomputable def z167:Sts:=.cons (.for false [103689944226427502,1543862579812,5946434681] .val (sb y1 3) z165) z166
noncomputable def z168:Sts:=.cons (.own 1539468258916 (.list .nil)) z167
noncomputable def f_write_match:Fn:={id:=453887477429875624010605416,ps:=[(false,5997359218)],dfl:=[],body:=z168}
noncomputable def z169:Sts:=so (.ret (cs [123,125]))
noncomputable def z170:Sts:=so (.ret (ad (ad (cs [123,10]) (.join [] (.comp (.call 26043864081937753444 (x1 (.loc 6180401780))) true [6180401780] .val y14 .nil))) (cs [125])))
noncomputable def z171:Sts:=.cons (.ite (ee y14 (.list .nil)) z169 .nil) z170
noncomputable def f_write_rows:Fn:={id:=1772997958710451741095795,ps:=[(false,1582182855795)],dfl:=[],body:=z171}
noncomputable def z172:Sts:=so (.ret (.join [] (.comp (ad (ad (.glob 362075478380116) y19) (cs [10])) true [24276855] .val (.meth 1595319019892 y11 (some [10])) .nil)))
noncomputable def f_indented:Fn:={id:=26043864081937753444,ps:=[(false,6247774324)],dfl:=[],body:=z172}
noncomputable def z173:Sts:=so (.append 1582182855795 (w2 (x1 (sb y20 3))))
noncomputable def z174:Sts:=so (.ret (w13 (x1 y14)))
noncomputable def z175:Sts:=.cons (.ite (.cmp .IsNot (sb y20 3) (.cst .none)) z173 .nil) z174
noncomputable def z176:Sts:=.cons (.own 1582182855795 (.comp (.call 1949431871625254050517372003949047412 (x1 y4)) true [24079973] .val (sb y20 2) .nil)) z175
noncomputable def f_write_block:Fn:={id:=453887477429875576950186859,ps:=[(false,1522237662059)],dfl:=[],body:=z176}
noncomputable def z177:Sts:=so (.ret (ad (w2 (x1 (sb y27 2))) (cs [59])))
noncomputable def z178:Sts:=so (.ret (ad (ad (ad (ad (cs [108,101,116,32]) (w8 (x1 (sb y27 2)))) y9) y18) (cs [59])))
noncomputable def z179:Sts:=.cons (sa 1607952266597 (.ite (.cmp .Is (sb y27 4) (.cst .none)) (cs []) (ad (cs [32,61,32]) (w2 (x1 (sb y27 4)))))) z178
noncomputable def z180:Sts:=.cons (sa 6248426596 (.ite (.cmp .Is (sb y27 3) (.cst .none)) (cs []) (ad (cs [58,32]) (w5 (x1 (sb y27 3)))))) z179
noncomputable def z181:Sts:=.cons (.ite (ee (sb y27 0) (cs [100,111])) z177 .nil) z180
noncomputable def f_write_statement:Fn:={id:=1949431871625254050517372003949047412,ps:=[(false,6852128163306360106612)],dfl:=[],body:=z181}
noncomputable def z182:Sts:=so (.ret (.join [] (.comp (ad (w24 (x1 y5)) (cs [10])) true [6064203117] .val (.loc 1552435998067) .nil)))
noncomputable def f_write_items:Fn:={id:=453887477429875607148522867,ps:=[(false,1552435998067)],dfl:=[],body:=z182}
noncomputable def z183:Sts:=so (.ret (.call 1772997958710451589967980 (x1 y5)))
noncomputable def z184:Sts:=so (.ret (ad y12 (.call 27053801860205864558 (x1 y5))))
noncomputable def z185:Sts:=so (.ret (ad (ad (ad (ad (ad y12 (cs [115,116,114,117,99,116,32])) (sb y5 2)) (w19 (x1 (sb y5 3)))) (w36 (x2 (sb y5 4) (sb y5 5)))) (.loc 23424612)))
noncomputable def z186:Sts:=.cons (sa 23424612 (.ite (ee (sb y5 4) (cs [110,97,109,101,100])) (cs []) (cs [59]))) z185
noncomputable def z187:Sts:=so (.ret (ad (ad (ad (ad (ad y12 (cs [101,110,117,109,32])) (sb y5 2)) (w19 (x1 (sb y5 3)))) (cs [32])) (w13 (x1 y14))))
noncomputable def z188:Sts:=.cons (sa 1582182855795 (.comp (ad (ad y22 (w36 (x2 y31 y26))) (cs [44])) false [6146846053,6013547117,394077835912307] .val (sb y5 4) .nil)) z187
noncomputable def z189:Sts:=so (.ret (ad (ad (ad (ad (ad y12 (cs [116,114,97,105,116,32])) (sb y5 2)) (w19 (x1 (sb y5 3)))) (cs [32])) (w13 (x1 (.comp (w24 (x1 y4)) true [24079973] .val (sb y5 4) .nil)))))
noncomputable def z190:Sts:=so (.ret (ad (ad (ad (ad y12 (cs [109,111,100,32])) (sb y5 2)) (cs [32])) (w13 (x1 (.comp (w24 (x1 y4)) true [24079973] .val (sb y5 3) .nil)))))
noncomputable def z191:Sts:=so (.ret (ad (ad (ad (ad y12 (cs [117,115,101,32])) (.join [58,58] (sb y5 2))) y46) (cs [59])))
noncomputable def z192:Sts:=.cons (sa 1517942301043 (.ite (ee (sb y5 3) (.sub (sb y5 2) (.neg (ci 1)))) (cs []) (ad (cs [32,97,115,32]) (sb y5 3)))) z191
noncomputable def z193:Sts:=so (.ret (ad (ad (ad (ad (ad (ad (ad y12 (cs [99,111,110,115,116,32])) (sb y5 2)) (cs [58,32])) (w5 (x1 (sb y5 3)))) (cs [32,61,32])) (w2 (x1 (sb y5 4)))) (cs [59])))
noncomputable def z194:Sts:=.cons (.ite (ee y2 (cs [117,115,101])) z192 .nil) z193
noncomputable def z195:Sts:=.cons (.ite (ee y2 (cs [109,111,100])) z190 .nil) z194
noncomputable def z196:Sts:=.cons (.ite (ee y2 (cs [116,114,97,105,116])) z189 .nil) z195
noncomputable def z197:Sts:=.cons (.ite (ee y2 (cs [101,110,117,109])) z188 .nil) z196
noncomputable def z198:Sts:=.cons (.ite (ee y2 (cs [115,116,114,117,99,116])) z186 .nil) z197
noncomputable def z199:Sts:=.cons (.ite (ee y2 (cs [102,110])) z184 .nil) z198
noncomputable def z200:Sts:=.cons (sa 24147298 (.ite (.sub y5 (.neg (ci 1))) (cs [112,117,98,32]) (cs []))) z199
noncomputable def z201:Sts:=.cons (.ite (ee y2 (cs [105,109,112,108])) z183 .nil) z200
noncomputable def z202:Sts:=.cons (sa 6097038948 (sb y5 0)) z201
noncomputable def f_write_item:Fn:={id:=1772997958710451590423917,ps:=[(false,6064203117)],dfl:=[],body:=z202}
noncomputable def z203:Sts:=so (.append 405038809836915 (.sub (.dict [[118,97,108,117,101],[114,101,102],[109,117,116]] (x3 (cs [115,101,108,102]) (cs [38,115,101,108,102]) (cs [38,109,117,116,32,115,101,108,102]))) (sb y5 4)))
noncomputable def z204:Sts:=so (.append 405038809836915 (ad (ad (w8 (x1 y6)) (cs [58,32])) (w5 (x1 y9))))
noncomputable def z205:Sts:=so (.ret (ad (.loc 6046441828) (.ite (.cmp .Is (sb y5 7) (.cst .none)) (cs [59]) (ad (cs [32]) (w12 (x1 (sb y5 7)))))))
noncomputable def z206:Sts:=.cons (.assign true false 6046441828 (ad (ad (ad (ad (ad (ad (cs [102,110,32]) (sb y5 2)) (w19 (x1 (sb y5 3)))) (cs [40])) (.join [44,32] y47)) (cs [41])) y48)) z205
noncomputable def z207:Sts:=.cons (sa 407255031049332 (.ite (.cmp .Is (sb y5 6) (.cst .none)) (cs []) (ad (cs [32,45,62,32]) (w5 (x1 (sb y5 6)))))) z206
noncomputable def z208:Sts:=.cons (.for false [103689944226427502,6248426596] .val (sb y5 5) z204) z207
noncomputable def z209:Sts:=.cons (.ite (.cmp .IsNot (sb y5 4) (.cst .none)) z203 .nil) z208
noncomputable def z210:Sts:=.cons (.own 405038809836915 (.list .nil)) z209
noncomputable def f_write_fn:Fn:={id:=27053801860205864558,ps:=[(false,6064203117)],dfl:=[],body:=z210}
noncomputable def z211:Sts:=so (.ret (cs []))
noncomputable def z212:Sts:=so (.ret (ad (ad (cs [40]) (.join [44,32] (.comp (ad (.ite y15 (cs [112,117,98,32]) (cs [])) (w5 (x1 y9))) false [6146846053,6248426596,397419220071778] .val y26 .nil))) (cs [41])))
noncomputable def z213:Sts:=so (.ret (ad (cs [32]) (w13 (x1 (.comp (ad (ad (ad (ad (.ite y15 (cs [112,117,98,32]) (cs [])) y22) (cs [58,32])) (w5 (x1 y9))) (cs [44])) false [6146846053,6248426596,397419220071778] .val y26 .nil)))))
noncomputable def z214:Sts:=.cons (.ite (ee y31 (cs [116,117,112,108,101])) z212 .nil) z213
noncomputable def z215:Sts:=.cons (.ite (ee y31 (cs [117,110,105,116])) z211 .nil) z214
noncomputable def f_write_form:Fn:={id:=1772997958710451539767917,ps:=[(false,6013547117),(false,394077835912307)],dfl:=[],body:=z215}
noncomputable def z216:Sts:=so (.ret (ad (ad (ad (ad (ad (ad (cs [105,109,112,108]) (w19 (x1 (sb y5 2)))) (cs [32])) y49) (w5 (x1 (sb y5 4)))) (cs [32])) (w13 (x1 (.comp (w24 (x1 y4)) true [24079973] .val (sb y5 5) .nil)))))
noncomputable def z217:Sts:=.cons (sa 1599646820724 (.ite (.cmp .Is (sb y5 3) (.cst .none)) (cs []) (ad (w10 (x1 (sb y5 3))) (cs [32,102,111,114,32])))) z216
noncomputable def f_write_impl:Fn:={id:=1772997958710451589967980,ps:=[(false,6064203117)],dfl:=[],body:=z217}
noncomputable def z218:Sts:=so (.ret (.list (x2 (.ite (.cmp .GtE y50 (.bin .Pow (ci 10) (ci 18))) y50 (ci 0)) (.loc 1522237009508))))
noncomputable def z219:Sts:=.cons (sa 1522237009508 (.bin .Mod (.bin .Mult (ad (ad (ad (.bin .Mod y50 (ci 2147483629)) (.bin .Mult (.bin .Mult (ci 7919) y36) y36)) (.bin .Mult (ci 31) y36)) (ci 17)) (ci 48271)) (ci 2147483647))) z218
noncomputable def z220:Sts:=.cons (sa 23226727 (.bi 23945592 (x2 (.loc 5962558572) (.bin .Sub (.neg (ci 1)) (.loc 5962558572))))) z219
noncomputable def z221:Sts:=.cons (sa 5962558572 (.ite (.cmp .Lt y36 (w15 (x1 (.loc 408345935179892)))) (.sub (.loc 408345935179892) y36) (ci 0))) z220
noncomputable def f_law_pool:Fn:={id:=6482616824352681717612,ps:=[(false,408345935179892),(false,363)],dfl:=[],body:=z221}
noncomputable def z222:Sts:=so (.ret (.loc 394077870060133))
noncomputable def z223:Sts:=.cons (.pool 0 (.bin .FloorDiv (sb y3 0) y51)) z222
noncomputable def z224:Sts:=.cons (sa 394077870060133 (.bin .Mod (sb y3 0) y51)) z223
noncomputable def z225:Sts:=so (.ret (.bin .Mod (.bin .FloorDiv (.bin .Mod (.bin .Mult (sb y3 1) (sb y3 1)) (ci 2147483629)) (ci 32)) y51))
noncomputable def z226:Sts:=.cons (.pool 1 (.bin .Mod (ad (.bin .Mult (sb y3 1) (ci 39373)) (ci 7)) (ci 2147483647))) z225
noncomputable def z227:Sts:=.cons (.ite (.cmp .Gt (sb y3 0) (ci 0)) z224 .nil) z226
noncomputable def f_law_take:Fn:={id:=6482616824352747907941,ps:=[(false,408397525705573),(false,24407920)],dfl:=[],body:=z227}
noncomputable def z228:Sts:=so (.ret (.sub (.loc 409466770974579) (w4 (x2 y3 (w15 (x1 (.loc 409466770974579)))))))
noncomputable def f_law_one:Fn:={id:=25322721970127597157,ps:=[(false,408397525705573),(false,409466770974579)],dfl:=[],body:=z228}
noncomputable def z229:Sts:=so (.ret (.tup (x3 (cs [112,97,116,104]) (ci 0) (.tup (x1 (.tup (x3 y22 (.tup .nil) (.tup .nil))))))))
noncomputable def f_law_path:Fn:={id:=6482616824352680801384,ps:=[(false,6146846053)],dfl:=[],body:=z229}
noncomputable def z230:Sts:=so (.ret (w1 (x2 y3 (.list (.cons (w6 (x1 (cs [117,56]))) (x4 (.tup (.cons (cs [114,101,102]) (x4 (ci 0) (.cst .none) (.cst (.bool true)) (w6 (x1 (cs [84])))))) (.tup (x3 (cs [116,117,112,108,101]) (ci 0) (.tup (x1 (w6 (x1 (cs [117,56]))))))) (.tup (x4 (cs [97,114,114,97,121]) (ci 0) (w6 (x1 (cs [98,111,111,108]))) (ci 3))) (.tup (x3 (cs [112,97,116,104]) (ci 0) (.tup (x1 (.tup (x3 (cs [65]) (.tup (x1 (cs [39,97]))) (.tup (x2 (w6 (x1 (cs [117,56]))) (.tup (x2 (cs [110,101,118,101,114]) (ci 0)))))))))))))))))
noncomputable def f_law_type:Fn:={id:=6482616824352749482085,ps:=[(false,408397525705573)],dfl:=[],body:=z230}
noncomputable def z231:Sts:=so (.ret (ad (cs [38,109,117,116,32]) (w7 (x1 (sb y9 4)))))
noncomputable def z232:Sts:=so (.ret (ad (ad (cs [40]) (w7 (x1 (sb (sb y9 2) 0)))) (cs [44,41])))
noncomputable def z233:Sts:=so (.ret (ad (ad (cs [91]) (w7 (x1 (sb y9 2)))) (cs [59,32,51,93])))
noncomputable def z234:Sts:=so (.ret (cs [33]))
noncomputable def z235:Sts:=so (.ret (ad y22 (.ite (.cmp .NotEq y42 (.tup .nil)) (ad (ad (cs [60]) (.join [44,32] (ad (w28 (x1 y42)) (.comp (w7 (x1 y4)) true [24079973] .val y43 .nil)))) (cs [62])) (cs []))))
noncomputable def z236:Sts:=.cons (.assignT [(false,6146846053),(false,104257236207890035),(false,1599765243251)] (sb (sb y9 2) 0)) z235
noncomputable def z237:Sts:=.cons (.ite (ee (sb y9 0) (cs [110,101,118,101,114])) z234 .nil) z236
noncomputable def z238:Sts:=.cons (.ite (ee (sb y9 0) (cs [97,114,114,97,121])) z233 .nil) z237
noncomputable def z239:Sts:=.cons (.ite (ee (sb y9 0) (cs [116,117,112,108,101])) z232 .nil) z238
noncomputable def z240:Sts:=.cons (.ite (ee (sb y9 0) (cs [114,101,102])) z231 .nil) z239
noncomputable def f_law_type_flat:Fn:={id:=7127712576792175460668829040664948,ps:=[(false,6248426596)],dfl:=[],body:=z240}
noncomputable def z241:Sts:=so (.ret (w1 (x2 y3 (.list (.cons (.tup (x2 (.tup (.cons (cs [110,97,109,101]) (.cons (ci 0) (x4 (cs [120]) (.cst (.bool false)) (.cst (.bool false)) (.cst .none))))) (cs [120]))) (.cons (.tup (x2 (.tup (.cons (cs [110,97,109,101]) (.cons (ci 0) (x4 (cs [120]) (.cst (.bool true)) (.cst (.bool true)) (.cst .none))))) (cs [114,101,102,32,109,117,116,32,120]))) (.cons (.tup (x2 (.tup (x2 (cs [119,105,108,100]) (ci 0))) (cs [95]))) (.cons (.tup (x2 (.tup (x3 (cs [116,117,112,108,101]) (ci 0) (.tup (x2 (.tup (x3 (cs [108,105,116]) (ci 0) (.neg (ci 1)))) (.tup (x4 (cs [114,97,110,103,101]) (ci 0) (ci 2) (ci 9))))))) (cs [40,45,49,44,32,50,46,46,61,57,41]))) (.cons (.tup (x2 (.tup (x3 (cs [111,114]) (ci 0) (.tup (x2 (.tup (x3 (cs [108,105,116]) (ci 0) (.cst (.bool true)))) (.tup (x2 (cs [119,105,108,100]) (ci 0))))))) (cs [116,114,117,101,32,124,32,95]))) (x4 (.tup (x2 (.tup (x4 (cs [118,97,114,105,97,110,116]) (ci 0) (.tup (x2 (.tup (x3 (cs [69]) (.tup .nil) (.tup .nil))) (.tup (x3 (cs [65]) (.tup .nil) (.tup .nil))))) (.tup .nil))) (cs [69,58,58,65]))) (.tup (x2 (.tup (x4 (cs [118,97,114,105,97,110,116]) (ci 0) (.tup (x1 (.tup (x3 (cs [78]) (.tup .nil) (.tup .nil))))) (.tup .nil))) (cs [78,40,41]))) (.tup (x2 (.tup (.cons (cs [102,105,101,108,100,115]) (x4 (ci 0) (.tup (x1 (.tup (x3 (cs [80]) (.tup .nil) (.tup .nil))))) (.tup (x1 (.tup (x2 (cs [97]) (.tup (x2 (cs [119,105,108,100]) (ci 0))))))) (.cst (.bool true))))) (cs [80,32,123,32,97,58,32,95,44,32,46,46,32,125]))) (.tup (x2 (.tup (x4 (cs [114,101,102]) (ci 0) (.cst (.bool false)) (.tup (.cons (cs [110,97,109,101]) (.cons (ci 0) (x4 (cs [121]) (.cst (.bool false)) (.cst (.bool true)) (.cst .none))))))) (cs [38,40,109,117,116,32,121,41])))))))))))))
noncomputable def f_law_pattern:Fn:={id:=108760262707398985984080441966,ps:=[(false,408397525705573)],dfl:=[],body:=z241}
noncomputable def z242:Sts:=so (.ret (w1 (x2 y3 (.list (.cons (.tup (x4 (cs [105,110,116]) (ci 0) (ci 7) (.cst .none))) (.cons (.tup (x4 (cs [105,110,116]) (ci 0) (ci 0) (cs [117,56]))) (x4 (.tup (x3 (cs [98,111,111,108]) (ci 0) (.cst (.bool true)))) (w6 (x1 (cs [97]))) (w6 (x1 (cs [98]))) (.tup (x3 (cs [112,97,116,104]) (ci 0) (.tup (x1 (.tup (x3 (cs [102]) (.tup .nil) (.tup (x1 (w6 (x1 (cs [117,56]))))))))))))))))))
noncomputable def f_law_leaf:Fn:={id:=6482616824352613949798,ps:=[(false,408397525705573)],dfl:=[],body:=z242}
noncomputable def z243:Sts:=so (.ret (.call 6482616824352613949798 (x1 y3)))
noncomputable def z244:Sts:=so (.ret (.tup (.cons (cs [98,105,110,97,114,121]) (x4 (ci 0) (w1 (x2 y3 (.list (.cons (cs [45]) (.cons (cs [60]) (.cons (cs [38,38]) (.cons (cs [42]) (.cons (cs [124,124]) (.cons (cs [61,61]) (.cons (cs [124]) (.cons (cs [60,60]) (x4 (cs [38]) (cs [94]) (cs [37]) (cs [43]))))))))))))) y4 y16))))
noncomputable def z245:Sts:=so (.ret (w1 (x2 y3 (.list (x4 (.tup (x4 (cs [117,110,97,114,121]) (ci 0) (cs [45]) y4)) (.tup (x4 (cs [117,110,97,114,121]) (ci 0) (cs [33]) y4)) (.tup (x4 (cs [98,111,114,114,111,119]) (ci 0) (.cst (.bool true)) y4)) (.tup (x4 (cs [98,111,114,114,111,119]) (ci 0) (.cst (.bool false)) y4)))))))
noncomputable def z246:Sts:=so (.ret (.tup (x4 (cs [99,97,115,116]) (ci 0) y4 (w6 (x1 (cs [117,56]))))))
noncomputable def z247:Sts:=so (.ret (w1 (x2 y3 (.list (x3 (.tup (x4 (cs [99,97,108,108]) (ci 0) y4 (.tup (x1 y16)))) (.tup (x4 (cs [99,97,108,108]) (ci 0) (.tup (x4 (cs [102,105,101,108,100]) (ci 0) y4 (cs [120]))) (.tup .nil))) (.tup (.cons (cs [109,101,116,104,111,100]) (.cons (ci 0) (x4 y4 (cs [109]) (.tup (x1 (w6 (x1 (cs [117,56]))))) (.tup (x1 y16)))))))))))
noncomputable def z248:Sts:=so (.ret (w1 (x2 y3 (.list (x4 (.tup (x4 (cs [102,105,101,108,100]) (ci 0) y4 (cs [48]))) (.tup (x4 (cs [105,110,100,101,120]) (ci 0) y4 y16)) (.tup (x4 (cs [115,116,114,117,99,116]) (ci 0) (.tup (x1 (.tup (x3 (cs [80]) (.tup .nil) (.tup .nil))))) (.tup (x1 (.tup (x2 (cs [97]) y4)))))) (.tup (x4 (cs [115,116,114,117,99,116]) (ci 0) (.tup (x1 (.tup (x3 (cs [80]) (.tup .nil) (.tup .nil))))) (.tup .nil))))))))
noncomputable def z249:Sts:=so (.ret (w1 (x2 y3 (.list (.cons (.tup (x3 (cs [116,117,112,108,101]) (ci 0) (.tup (x1 y4)))) (x4 (.tup (x3 (cs [116,117,112,108,101]) (ci 0) (.tup (x2 y4 y16)))) (.tup (x3 (cs [97,114,114,97,121]) (ci 0) (.tup (x2 y4 y16)))) (.tup (x4 (cs [114,101,112,101,97,116]) (ci 0) y4 (ci 4))) (.tup (x4 (cs [109,97,99,114,111]) (ci 0) (cs [97,115,115,101,114,116]) (.tup (x1 y4))))))))))
noncomputable def z250:Sts:=so (.ret (w1 (x2 y3 (.list (x2 (.tup (x4 (cs [97,115,115,105,103,110]) (ci 0) y4 y16)) (.tup (.cons (cs [117,112,100,97,116,101]) (x4 (ci 0) (cs [43]) y4 y16))))))))
noncomputable def z251:Sts:=so (.ret (w1 (x2 y3 (.list (.cons (.tup (x3 (cs [114,101,116,117,114,110]) (ci 0) (.cst .none))) (x4 (.tup (x3 (cs [114,101,116,117,114,110]) (ci 0) y4)) (.tup (x4 (cs [98,114,101,97,107]) (ci 0) (cs [39,97]) y4)) (.tup (x4 (cs [98,114,101,97,107]) (ci 0) (.cst .none) (.cst .none))) (.tup (x3 (cs [99,111,110,116,105,110,117,101]) (ci 0) (cs [39,97])))))))))
noncomputable def z252:Sts:=so (.ret (.call 1824694419658711675454248242656144229 (x4 y3 y21 y4 y16)))
noncomputable def z253:Sts:=.cons (.ite (ee y10 (ci 10)) z251 .nil) z252
noncomputable def z254:Sts:=.cons (.ite (ee y10 (ci 9)) z250 .nil) z253
noncomputable def z255:Sts:=.cons (.ite (ee y10 (ci 8)) z249 .nil) z254
noncomputable def z256:Sts:=.cons (.ite (ee y10 (ci 7)) z248 .nil) z255
noncomputable def z257:Sts:=.cons (.ite (ee y10 (ci 6)) z247 .nil) z256
noncomputable def z258:Sts:=.cons (.ite (ee y10 (ci 5)) z246 .nil) z257
noncomputable def z259:Sts:=.cons (.ite (ee y10 (ci 4)) z245 .nil) z258
noncomputable def z260:Sts:=.cons (.ite (.cmp .Lt y10 (ci 4)) z244 .nil) z259
noncomputable def z261:Sts:=.cons (.assignT [(false,24079973),(false,1578205996402)] (.tup (x2 (w16 (x2 y3 (.bin .Sub y21 (ci 1)))) (w16 (x2 y3 (.bin .Sub y21 (ci 1))))))) z260
noncomputable def z262:Sts:=.cons (.ite (ee y10 (ci 0)) z243 .nil) z261
noncomputable def z263:Sts:=.cons (sa 24600953 (.ite (.cmp .Gt y21 (ci 0)) (w4 (x2 y3 (ci 13))) (ci 0))) z262
noncomputable def f_law_expr:Fn:={id:=6482616824352497758322,ps:=[(false,408397525705573),(false,5979334000)],dfl:=[],body:=z263}
noncomputable def z264:Sts:=so (.ret (.tup (.cons (cs [105,102]) (x4 (ci 0) y4 y20 (w1 (x2 y3 (.list (x3 (.cst .none) y20 (.tup (.cons (cs [105,102]) (x4 (ci 0) y16 y20 (.cst .none))))))))))))
noncomputable def z265:Sts:=so (.ret (.tup (x4 (cs [109,97,116,99,104]) (ci 0) y4 (.tup (x2 (.tup (x3 y6 (.cst .none) y16)) (.tup (x3 (.tup (x2 (cs [119,105,108,100]) (ci 0))) y16 y20)))))))
noncomputable def z266:Sts:=.cons (sa 103689944226427502 (sb (w31 (x1 y3)) 0)) z265
noncomputable def z267:Sts:=so (.ret (.tup (x4 (cs [108,111,111,112]) (ci 0) (w1 (x2 y3 (.list (x2 (.cst .none) (cs [39,97]))))) y20)))
noncomputable def z268:Sts:=so (.ret (.tup (.cons (cs [119,104,105,108,101]) (x4 (ci 0) (w1 (x2 y3 (.list (x2 (.cst .none) (cs [39,97]))))) y4 y20))))
noncomputable def z269:Sts:=so (.ret (.tup (.cons (cs [102,111,114]) (.cons (ci 0) (.cons (.cst .none) (.cons (.tup (.cons (cs [110,97,109,101]) (.cons (ci 0) (x4 (cs [120]) (.cst (.bool false)) (.cst (.bool false)) (.cst .none))))) (x4 y4 y16 (ee (w4 (x2 y3 (ci 2))) (ci 0)) y20)))))))
noncomputable def z270:Sts:=so (.ret y20)
noncomputable def z271:Sts:=.cons (.ite (ee y10 (ci 4)) z269 .nil) z270
noncomputable def z272:Sts:=.cons (.ite (ee y10 (ci 3)) z268 .nil) z271
noncomputable def z273:Sts:=.cons (.ite (ee y10 (ci 2)) z267 .nil) z272
noncomputable def z274:Sts:=.cons (.ite (ee y10 (ci 1)) z266 .nil) z273
noncomputable def z275:Sts:=.cons (.ite (ee y10 (ci 0)) z264 .nil) z274
noncomputable def z276:Sts:=.cons (.assignT [(false,1522237662059),(false,24600953)] (.tup (x2 (w37 (x2 y3 (.bin .Sub y21 (ci 1)))) (w4 (x2 y3 (ci 6)))))) z275
noncomputable def f_law_block_like:Fn:={id:=1824694419658711675454248242656144229,ps:=[(false,408397525705573),(false,5979334000),(false,24079973),(false,1578205996402)],dfl:=[],body:=z276}
noncomputable def z277:Sts:=so (.append 6214874995 (.tup (.cons (cs [108,101,116]) (x4 (ci 0) (sb (w31 (x1 y3)) 0) y9 (w1 (x2 y3 (.list (x2 (.cst .none) (w16 (x2 y3 y21))))))))))
noncomputable def z278:Sts:=.cons (sa 6248426596 (w1 (x2 y3 (.list (x2 (.cst .none) (w25 (x1 y3))))))) z277
noncomputable def z279:Sts:=so (.append 6214874995 (.tup (x3 (cs [100,111]) (ci 0) (w16 (x2 y3 y21)))))
noncomputable def z280:Sts:=so (.ite (ee (w4 (x2 y3 (ci 2))) (ci 0)) z278 z279)
noncomputable def z281:Sts:=so (.ret (.tup (x4 (cs [98,108,111,99,107]) (ci 0) (w17 (x1 y28)) (w1 (x2 y3 (.list (x2 (.cst .none) (w16 (x2 y3 y21)))))))))
noncomputable def z282:Sts:=.cons (.for true [6248821358] .rng (w4 (x2 y3 (ci 3))) z280) z281
noncomputable def z283:Sts:=.cons (.own 6214874995 (.list .nil)) z282
noncomputable def f_law_block:Fn:={id:=1659549907034226339832683,ps:=[(false,408397525705573),(false,5979334000)],dfl:=[],body:=z283}
noncomputable def z284:Sts:=so (.ret (ad (ci 1) (sb (.comp (.loc 90484) false [90484,24276855] .enm (.glob 424844776200772908166245491) (x1 (.cmp .In (sb y7 2) y19))) 0)))
noncomputable def z285:Sts:=so (.ret (ci 0))
noncomputable def z286:Sts:=so (.ret (.get (.dict [[99,97,115,116],[117,110,97,114,121],[98,111,114,114,111,119]] (x3 (ci 10) (ci 11) (ci 11))) (sb y7 0) (ci 12)))
noncomputable def z287:Sts:=.cons (.ite (.cmp .In (sb y7 0) (.list (.cons (cs [97,115,115,105,103,110]) (.cons (cs [117,112,100,97,116,101]) (.cons (cs [114,101,116,117,114,110]) (.cons (cs [98,114,101,97,107]) (.cons (cs [99,111,110,116,105,110,117,101]) (.cons (cs [105,102]) (.cons (cs [109,97,116,99,104]) (x4 (cs [108,111,111,112]) (cs [119,104,105,108,101]) (cs [102,111,114]) (cs [98,108,111,99,107]))))))))))) z285 .nil) z286
noncomputable def z288:Sts:=.cons (.ite (ee (sb y7 0) (cs [98,105,110,97,114,121])) z284 .nil) z287
noncomputable def f_law_level:Fn:={id:=1659549907034269172524396,ps:=[(true,5997359218)],dfl:=[],body:=z288}
noncomputable def z289:Sts:=so (.ret (ad (ad (cs [40]) (w38 (x2 y1 (.cst (.bool false))))) (cs [41])))
noncomputable def z290:Sts:=so (.ret (w38 (x2 y1 y8)))
noncomputable def z291:Sts:=.cons (.ite (.or (.loc 101739320321271150) (.cmp .Lt (w32 (x1 y1)) (.loc 412735325365604))) z289 .nil) z290
noncomputable def z292:Sts:=.cons (sa 101739320321271150 (.and y8 (.or (ee (sb y1 0) (cs [115,116,114,117,99,116])) (.and (ee (w32 (x1 y1)) (ci 0)) (.cmp .NotIn (sb y1 0) (.list (x2 (cs [97,115,115,105,103,110]) (cs [117,112,100,97,116,101])))))))) z291
noncomputable def f_law_flat:Fn:={id:=6482616824352513745268,ps:=[(false,5997359218),(false,412735325365604),(false,101739320102187621)],dfl:=[],body:=z292}
noncomputable def z293:Sts:=so (.ret (.join [44,32] (.comp (w3 (x3 y4 (ci 0) (.cst (.bool false)))) true [24079973] .val y32 .nil)))
noncomputable def f_law_list:Fn:={id:=6482616824352614216564,ps:=[(false,6231649637)],dfl:=[],body:=z293}
noncomputable def z294:Sts:=so (.ret (w3 (x3 y1 (.ite (ee (sb y1 0) (cs [99,97,115,116])) (ci 11) (.loc 412735325365604)) y8)))
noncomputable def f_law_side:Fn:={id:=6482616824352731653221,ps:=[(false,5997359218),(false,412735325365604),(false,101739320102187621)],dfl:=[],body:=z294}
noncomputable def z295:Sts:=so (.ret (ad (w11 (x1 (sb y7 2))) (.or (sb y7 3) (cs []))))
noncomputable def z296:Sts:=so (.ret (cs [116,114,117,101]))
noncomputable def z297:Sts:=so (.ret (ad y22 (.ite (.cmp .NotEq y43 (.tup .nil)) (cs [58,58,60,117,56,62]) (cs []))))
noncomputable def z298:Sts:=.cons (.assignT [(false,6146846053),(false,104257236207890035),(false,1599765243251)] (sb (sb y7 2) 0)) z297
noncomputable def z299:Sts:=so (.ret (ad (.sub (.dict [[117,110,97,114,121],[98,111,114,114,111,119]] (x2 (sb y7 2) (.ite (.cmp .Is (sb y7 2) (.cst (.bool true))) (cs [38,109,117,116,32]) (cs [38])))) y2) (w3 (x3 (sb y7 3) (ci 11) y8))))
noncomputable def z300:Sts:=so (.ret (ad (ad (ad (ad (w20 (x3 (sb y7 3) (ad y30 (w22 (x1 (ee y30 (ci 3))))) y8)) (cs [32])) (sb y7 2)) (cs [32])) (w20 (x3 (sb y7 4) (ad y30 (ci 1)) y8))))
noncomputable def z301:Sts:=.cons (sa 1565070353772 (w32 (x1 y7))) z300
noncomputable def z302:Sts:=so (.ret (ad (w3 (x3 (sb y7 2) (ci 10) y8)) (cs [32,97,115,32,117,56])))
noncomputable def z303:Sts:=so (.ret (ad (ad (w20 (x3 (.sub y7 (.neg (ci 2))) (ci 1) y8)) (.loc 6231254894)) (w3 (x3 (.sub y7 (.neg (ci 1))) (ci 0) y8))))
noncomputable def z304:Sts:=.cons (sa 6231254894 (.ite (ee y2 (cs [97,115,115,105,103,110])) (cs [32,61,32]) (cs [32,43,61,32]))) z303
noncomputable def z305:Sts:=so (.ret (ad y11 (.ite (.cmp .NotEq y2 (cs [109,101,116,104,111,100])) (.callv (.sub (.loc 1599362133107) y2)) (ad (ad (cs [46,109,58,58,60,117,56,62,40]) (w9 (x1 (sb y7 5)))) (cs [41])))))
noncomputable def z306:Sts:=.cons (sa 1599362133107 (.dict [[99,97,108,108],[102,105,101,108,100],[105,110,100,101,120]] (x3 (.lam 5997359218 (ad (ad (cs [40]) (w9 (x1 (sb y7 3)))) (cs [41]))) (.lam 5997359218 (ad (cs [46]) (sb y7 3))) (.lam 5997359218 (ad (ad (cs [91]) (w9 (x1 (.slc y7 (some 3) (ci 4))))) (cs [93])))))) z305
noncomputable def z307:Sts:=.cons (sa 6247774324 (.ite (.loc 436943440728523238143259763) (ad (ad (cs [40]) (w3 (x3 y25 (ci 0) (.cst (.bool false))))) (cs [41])) (w3 (x3 y25 (ci 12) y8)))) z306
noncomputable def z308:Sts:=.cons (sa 436943440728523238143259763 (.or (ee (sb y25 0) (cs [115,116,114,117,99,116])) (.and (ee y2 (cs [99,97,108,108])) (ee (sb y25 0) (cs [102,105,101,108,100]))))) z307
noncomputable def z309:Sts:=.cons (sa 5945520997 (sb y7 2)) z308
noncomputable def z310:Sts:=so (.ret (.ite (ee (sb y7 3) (.tup .nil)) (cs [80,32,123,125]) (ad (ad (cs [80,32,123,32,97,58,32]) (w9 (x1 (.list (x1 (sb (sb (sb y7 3) 0) 1)))))) (cs [32,125]))))
noncomputable def z311:Sts:=so (.ret (ad (ad (ad (cs [40]) (w9 (x1 (sb y7 2)))) (.ite (ee (w15 (x1 (sb y7 2))) (ci 1)) (cs [44]) (cs []))) (cs [41])))
noncomputable def z312:Sts:=so (.ret (ad (ad (cs [91]) (.ite (ee y2 (cs [97,114,114,97,121])) (w9 (x1 (sb y7 2))) (ad (w9 (x1 (.list (x1 (sb y7 2))))) (cs [59,32,52])))) (cs [93])))
noncomputable def z313:Sts:=so (.ret (.ite (ee y2 (cs [109,97,99,114,111])) (ad (ad (cs [97,115,115,101,114,116,33,40]) (w9 (x1 (sb y7 3)))) (cs [41])) (w14 (x1 y7))))
noncomputable def z314:Sts:=.cons (.ite (.cmp .In y2 (.list (x2 (cs [97,114,114,97,121]) (cs [114,101,112,101,97,116])))) z312 .nil) z313
noncomputable def z315:Sts:=.cons (.ite (ee y2 (cs [116,117,112,108,101])) z311 .nil) z314
noncomputable def z316:Sts:=.cons (.ite (ee y2 (cs [115,116,114,117,99,116])) z310 .nil) z315
noncomputable def z317:Sts:=.cons (.ite (.cmp .In y2 (.list (x4 (cs [99,97,108,108]) (cs [109,101,116,104,111,100]) (cs [102,105,101,108,100]) (cs [105,110,100,101,120])))) z309 .nil) z316
noncomputable def z318:Sts:=.cons (.ite (.cmp .In y2 (.list (x2 (cs [97,115,115,105,103,110]) (cs [117,112,100,97,116,101])))) z304 .nil) z317
noncomputable def z319:Sts:=.cons (.ite (ee y2 (cs [99,97,115,116])) z302 .nil) z318
noncomputable def z320:Sts:=.cons (.ite (ee y2 (cs [98,105,110,97,114,121])) z301 .nil) z319
noncomputable def z321:Sts:=.cons (.ite (.cmp .In y2 (.list (x2 (cs [117,110,97,114,121]) (cs [98,111,114,114,111,119])))) z299 .nil) z320
noncomputable def z322:Sts:=.cons (.ite (ee y2 (cs [112,97,116,104])) z298 .nil) z321
noncomputable def z323:Sts:=.cons (.ite (ee y2 (cs [98,111,111,108])) z296 .nil) z322
noncomputable def z324:Sts:=.cons (.ite (ee y2 (cs [105,110,116])) z295 .nil) z323
noncomputable def z325:Sts:=.cons (sa 6097038948 (sb y7 0)) z324
noncomputable def f_law_bare_flat:Fn:={id:=7127712576791841690456195311886708,ps:=[(true,5997359218),(false,101739320102187621)],dfl:=[],body:=z325}
noncomputable def z326:Sts:=so (.ret (.ite (.cmp .Is y18 (.cst .none)) y11 (ad (ad y11 (cs [32])) (.ite (.loc 26045265946344383339) (ad (ad (cs [40]) (w3 (x3 y18 (ci 0) (.cst (.bool false))))) (cs [41])) (w3 (x3 y18 (ci 0) (.cst (.bool false))))))))
noncomputable def z327:Sts:=.cons (sa 26045265946344383339 (.and (.cmp .IsNot y18 (.cst .none)) (.cmp .In (sb y18 0) (.list (.cons (cs [105,102]) (.cons (cs [109,97,116,99,104]) (x4 (cs [108,111,111,112]) (cs [119,104,105,108,101]) (cs [102,111,114]) (cs [98,108,111,99,107])))))))) z326
noncomputable def z328:Sts:=.cons (sa 6247774324 (ad y2 (.ite (.and (.cmp .NotEq y2 (cs [114,101,116,117,114,110])) (.cmp .IsNot (sb y1 2) (.cst .none))) (ad (cs [32]) (sb y1 2)) (cs [])))) z327
noncomputable def z329:Sts:=.cons (sa 1607952266597 (.sub (.dict [[114,101,116,117,114,110],[98,114,101,97,107],[99,111,110,116,105,110,117,101]] (x3 (sb y1 2) (.sub y1 (.neg (ci 1))) (.cst .none))) y2)) z328
noncomputable def z330:Sts:=so (.ret (.ite (.cmp .NotEq y28 (.list .nil)) (ad (ad (cs [123,32]) (.join [32] y28)) (cs [32,125])) (cs [123,125])))
noncomputable def z331:Sts:=.cons (sa 6214874995 (ad (.comp (.call 27842627253094288470970699899252 (x1 y4)) true [24079973] .val (sb y1 2) .nil) (.ite (.cmp .IsNot (sb y1 3) (.cst .none)) (.list (x1 (w3 (x3 (sb y1 3) (ci 0) (.cst (.bool false)))))) (.list .nil)))) z330
noncomputable def z332:Sts:=so (.ret (ad (ad (ad (ad (cs [105,102,32]) (w3 (x3 (sb y1 2) (ci 0) (.cst (.bool true))))) (cs [32])) (w14 (x1 (sb y1 3)))) (.loc 6247508332)))
noncomputable def z333:Sts:=.cons (sa 6247508332 (.ite (.cmp .Is (sb y1 4) (.cst .none)) (cs []) (ad (cs [32,101,108,115,101,32]) (w14 (x1 (sb y1 4)))))) z332
noncomputable def z334:Sts:=so (.ret (ad (ad (ad (ad (cs [109,97,116,99,104,32]) (w3 (x3 (sb y1 2) (ci 0) (.cst (.bool true))))) (cs [32,123,32])) (.join [32] (.loc 5929856371))) (cs [32,125])))
noncomputable def z335:Sts:=.cons (sa 5929856371 (.comp (ad (ad (ad (ad (w39 (x1 y4)) (.ite (.cmp .IsNot y41 (.cst .none)) (ad (cs [32,105,102,32]) (w3 (x3 y41 (ci 0) (.cst (.bool false))))) (cs []))) (cs [32,61,62,32])) (w3 (x3 y35 (ci 0) (.cst (.bool false))))) (cs [44])) false [24079973,1543862579812,5946434681] .val (sb y1 3) .nil)) z334
noncomputable def z336:Sts:=so (.ret (ad (ad y11 (cs [108,111,111,112,32])) (w14 (x1 (sb y1 3)))))
noncomputable def z337:Sts:=so (.ret (ad (ad (ad (ad y11 (cs [119,104,105,108,101,32])) (w3 (x3 (sb y1 3) (ci 0) (.cst (.bool true))))) (cs [32])) (w14 (x1 (sb y1 4)))))
noncomputable def z338:Sts:=so (.ret (ad (ad (ad (ad (ad (cs [102,111,114,32,120,32,105,110,32]) (w20 (x3 (sb y1 4) (ci 1) (.cst (.bool true))))) (.loc 6231254894)) (w20 (x3 (sb y1 5) (ci 1) (.cst (.bool true))))) (cs [32])) (w14 (x1 (sb y1 7)))))
noncomputable def z339:Sts:=.cons (sa 6231254894 (.ite (sb y1 6) (cs [32,46,46,61,32]) (cs [32,46,46,32]))) z338
noncomputable def z340:Sts:=.cons (.ite (ee y2 (cs [119,104,105,108,101])) z337 .nil) z339
noncomputable def z341:Sts:=.cons (.ite (ee y2 (cs [108,111,111,112])) z336 .nil) z340
noncomputable def z342:Sts:=.cons (sa 6247774324 (.ite (.cmp .Is (sb y1 2) (.cst .none)) (cs []) (ad (sb y1 2) (cs [58,32])))) z341
noncomputable def z343:Sts:=.cons (.ite (ee y2 (cs [109,97,116,99,104])) z335 .nil) z342
noncomputable def z344:Sts:=.cons (.ite (ee y2 (cs [105,102])) z333 .nil) z343
noncomputable def z345:Sts:=.cons (.ite (ee y2 (cs [98,108,111,99,107])) z331 .nil) z344
noncomputable def z346:Sts:=.cons (.ite (.cmp .In y2 (.list (x3 (cs [114,101,116,117,114,110]) (cs [98,114,101,97,107]) (cs [99,111,110,116,105,110,117,101])))) z329 .nil) z345
noncomputable def z347:Sts:=.cons (sa 6097038948 (sb y1 0)) z346
noncomputable def f_law_long_flat:Fn:={id:=7127712576792027165579548054806900,ps:=[(false,5997359218)],dfl:=[],body:=z347}
noncomputable def z348:Sts:=so (.ret (sb (.comp y11 false [24079973,6247774324] .val y32 (x1 (ee (w40 (x1 y4)) (w40 (x1 (.cel 6248426596)))))) 0))
noncomputable def z349:Sts:=.cons (sa 6231649637 (.comp (.callp 108760262707398985984080441966 (ad (.loc 90484) (.bin .Mult (ci 9) (.bin .Pow (ci 10) (ci 18)))) (ci 1)) true [90484] .rng (ci 9) .nil)) z348
noncomputable def f_law_pattern_flat:Fn:={id:=119583173486757647878448095968971901919604,ps:=[(true,6248426596)],dfl:=[],body:=z349}
noncomputable def z350:Sts:=so (.ret (ad (w3 (x3 (sb y19 2) (ci 0) (.cst (.bool false)))) (cs [59])))
noncomputable def z351:Sts:=so (.ret (ad (ad (ad (ad (cs [108,101,116,32]) (w39 (x1 (sb y19 2)))) y9) (.ite (.cmp .Is (sb y19 4) (.cst .none)) (cs []) (ad (cs [32,61,32]) (w3 (x3 (sb y19 4) (ci 0) (.cst (.bool false))))))) (cs [59])))
noncomputable def z352:Sts:=.cons (sa 6248426596 (.ite (.cmp .Is (sb y19 3) (.cst .none)) (cs []) (ad (cs [58,32]) (w7 (x1 (sb y19 3)))))) z351
noncomputable def z353:Sts:=.cons (.ite (ee (sb y19 0) (cs [100,111])) z350 .nil) z352
noncomputable def f_law_row_flat:Fn:={id:=27842627253094288470970699899252,ps:=[(false,24276855)],dfl:=[],body:=z353}
noncomputable def z354:Sts:=so (.ret (w1 (x2 y3 (.list (x2 (.tup (x2 (.tup (x2 (.tup .nil) (.tup .nil))) (cs []))) (.tup (x2 (.tup (x2 (.tup (x1 (cs [39,97]))) (.tup (x2 (.tup (x2 (cs [84]) (.tup .nil))) (.tup (x2 (cs [85]) (.tup (x2 (.tup (x1 (.tup (x3 (cs [65]) (.tup .nil) (.tup .nil))))) (.tup (x1 (.tup (x3 (cs [66]) (.tup .nil) (.tup .nil))))))))))))) (cs [60,39,97,44,32,84,44,32,85,58,32,65,32,43,32,66,62]))))))))
noncomputable def f_law_generics:Fn:={id:=27842627253093493012816881869683,ps:=[(false,408397525705573)],dfl:=[],body:=z354}
noncomputable def z355:Sts:=so (.ret (w1 (x2 y3 (.list (x4 (.tup (x3 (cs [117,110,105,116]) (.tup .nil) (cs []))) (.tup (x3 (cs [116,117,112,108,101]) (.tup (x2 (.tup (x3 (cs [48]) y2 y15)) (.tup (x3 (cs [49]) y2 (.cst (.bool false)))))) (ad (ad (ad (ad (ad (cs [40]) y12) (w7 (x1 y2))) (cs [44,32])) (w7 (x1 y2))) (cs [41])))) (.tup (x3 (cs [110,97,109,101,100]) (.tup (x1 (.tup (x3 (cs [97]) y2 y15)))) (ad (ad (ad (ad (cs [32,123,32]) y12) (cs [97,58,32])) (w7 (x1 y2))) (cs [44,32,125])))) (.tup (x3 (cs [110,97,109,101,100]) (.tup .nil) (cs [32,123,125]))))))))
noncomputable def z356:Sts:=.cons (sa 24147298 (.ite y15 (cs [112,117,98,32]) (cs []))) z355
noncomputable def z357:Sts:=.cons (.assignT [(false,6097038948),(false,397419220071778)] (.tup (x2 (w25 (x1 y3)) (ee (w4 (x2 y3 (ci 2))) (ci 0))))) z356
noncomputable def f_law_form:Fn:={id:=6482616824352513946221,ps:=[(false,408397525705573)],dfl:=[],body:=z357}
noncomputable def z358:Sts:=so (.ret (.list (x2 (.tup (.cons (cs [102,110]) (.cons (ci 0) (.cons (cs [102]) (.cons (sb y17 0) (.cons (sb (.loc 26761915547662839671) 0) (x4 y9 y48 y35 y15))))))) (ad y11 (.ite (.cmp .Is y35 (.cst .none)) (cs [59]) (ad (cs [32]) (w14 (x1 y35))))))))
noncomputable def z359:Sts:=.cons (sa 6248426596 (w17 (x1 (.comp (.tup (x2 (sb y6 0) y37)) false [103689944226427502,94054] .val y47 .nil)))) z358
noncomputable def z360:Sts:=.cons (sa 6247774324 (ad (ad (ad (ad (ad (ad (.ite y15 (cs [112,117,98,32]) (cs [])) (cs [102,110,32,102])) (sb y17 1)) (cs [40])) (.join [44,32] (.loc 1599430227059))) (cs [41])) (.ite (.cmp .IsNot y48 (.cst .none)) (ad (cs [32,45,62,32]) (w7 (x1 y37))) (cs [])))) z359
noncomputable def z361:Sts:=.cons (sa 1599430227059 (ad (.comp y11 true [6247774324] .val (.list (x1 (sb (.loc 26761915547662839671) 1))) (x1 (.cmp .NotEq y11 (cs [])))) (.comp (ad (ad (sb y6 1) (cs [58,32])) (w7 (x1 y37))) false [103689944226427502,6248426596] .val y47 .nil))) z360
noncomputable def z362:Sts:=.cons (sa 407255031049332 (w1 (x2 y3 (.list (x2 (.cst .none) y37))))) z361
noncomputable def z363:Sts:=.cons (sa 5946434681 (.ite (.cmp .Gt (w4 (x2 y3 (ci 4))) (ci 0)) (w37 (x2 y3 y21)) (.cst .none))) z362
noncomputable def z364:Sts:=.cons (sa 405038809836915 (.mulL (x1 (.tup (x2 (w31 (x1 y3)) y37))) (w4 (x2 y3 (ci 3))))) z363
noncomputable def z365:Sts:=.cons (.assignT [(true,6097038948),(false,397419220071778)] (.tup (x2 (w25 (x1 y3)) (ee (w4 (x2 y3 (ci 2))) (ci 0))))) z364
noncomputable def z366:Sts:=.cons (.assignT [(false,25897226614254166899),(false,26761915547662839671)] (.tup (x2 (w41 (x1 y3)) (w1 (x2 y3 (.list (x4 (.tup (x2 (.cst .none) (cs []))) (.tup (x2 (cs [118,97,108,117,101]) (cs [115,101,108,102]))) (.tup (x2 (cs [114,101,102]) (cs [38,115,101,108,102]))) (.tup (x2 (cs [109,117,116]) (cs [38,109,117,116,32,115,101,108,102])))))))))) z365
noncomputable def f_law_function:Fn:={id:=27842627253093425458813914935150,ps:=[(false,408397525705573),(false,5979334000)],dfl:=[],body:=z366}
noncomputable def z367:Sts:=so (.ret (ad (.loc 6046441828) (.ite (.cmp .NotEq y28 (.list .nil)) (ad (ad (cs [32,123,32]) (.join [32] (.comp (sb y19 1) true [24276855] .val y28 .nil))) (cs [32,125])) (cs [32,123,125]))))
noncomputable def f_law_nested:Fn:={id:=424844776200775107140150628,ps:=[(false,6046441828),(false,6214874995)],dfl:=[],body:=z367}
noncomputable def z368:Sts:=so (.ret (w42 (x2 y13 (ci 2))))
noncomputable def z369:Sts:=so (.ret (.list (x2 (.tup (.cons (cs [115,116,114,117,99,116]) (.cons (ci 0) (.cons (cs [83]) (x4 (sb y17 0) y31 y26 y15))))) (ad (ad (ad (ad y12 (cs [115,116,114,117,99,116,32,83])) (sb y17 1)) y11) (.ite (ee y31 (cs [110,97,109,101,100])) (cs []) (cs [59]))))))
noncomputable def z370:Sts:=.cons (.assignT [(false,6013547117),(false,394077835912307),(false,6247774324)] (w43 (x1 y13))) z369
noncomputable def z371:Sts:=so (.ret (.list (x2 (.tup (.cons (cs [101,110,117,109]) (.cons (ci 0) (x4 (cs [69]) (sb y17 0) (w17 (x1 y28)) y15)))) (w26 (x2 (ad (ad y12 (cs [101,110,117,109,32,69])) (sb y17 1)) (.slc (.list (x2 (.tup (x2 (ci 0) (cs [65,44]))) (.tup (x2 (ci 0) (ad (ad (cs [66]) y11) (cs [44])))))) none (w15 (x1 y28))))))))
noncomputable def z372:Sts:=.cons (sa 6214874995 (.slc (.list (x2 (.tup (x3 (cs [65]) (cs [117,110,105,116]) (.tup .nil))) (.tup (x3 (cs [66]) y31 y26)))) none (w4 (x2 y13 (ci 3))))) z371
noncomputable def z373:Sts:=.cons (.assignT [(false,6013547117),(false,394077835912307),(false,6247774324)] (w43 (x1 y13))) z372
noncomputable def z374:Sts:=so (.ret (.list (x2 y9 (w26 (x2 (ad (ad (ad (ad (cs [105,109,112,108]) (sb y17 1)) (cs [32])) (sb y49 1)) (w7 (x1 y2))) y32)))))
noncomputable def z375:Sts:=.cons (sa 6248426596 (.tup (.cons (cs [105,109,112,108]) (.cons (ci 0) (x4 (sb y17 0) (sb y49 0) y2 (w17 (x1 (.comp (sb y4 0) true [24079973] .val y32 .nil)))))))) z374
noncomputable def z376:Sts:=.cons (.assignT [(false,1599646820724),(false,6097038948)] (.tup (x2 (w1 (x2 y13 (.list (x2 (.tup (x2 (.cst .none) (cs []))) (.tup (x2 (.tup (x1 (.tup (x3 (cs [84,114]) (.tup .nil) (.tup (x1 (w6 (x1 (cs [117,56]))))))))) (cs [84,114,60,117,56,62,32,102,111,114,32]))))))) (w25 (x1 y13))))) z375
noncomputable def z377:Sts:=so (.ret (.list (x2 (.tup (.cons (cs [116,114,97,105,116]) (.cons (ci 0) (x4 (cs [84,114]) (sb y17 0) (w17 (x1 (.comp (sb y4 0) true [24079973] .val y32 .nil))) y15)))) (w26 (x2 (ad (ad y12 (cs [116,114,97,105,116,32,84,114])) (sb y17 1)) y32)))))
noncomputable def z378:Sts:=so (.ret (w1 (x2 y13 (.list (x2 (.list (x2 (.tup (.cons (cs [117,115,101]) (x4 (ci 0) (.tup (x3 (cs [99,114,97,116,101]) (cs [97]) (cs [98]))) y46 y15))) (ad (ad y12 (cs [117,115,101,32,99,114,97,116,101,58,58,97,58,58,98])) (.ite (ee y46 (cs [99])) (cs [32,97,115,32,99,59]) (cs [59]))))) (.list (x2 (.tup (.cons (cs [99,111,110,115,116]) (.cons (ci 0) (x4 (cs [67]) (w6 (x1 (cs [117,56]))) y1 y15)))) (ad (ad (ad y12 (cs [99,111,110,115,116,32,67,58,32,117,56,32,61,32])) (w3 (x3 y1 (ci 0) (.cst (.bool false))))) (cs [59])))))))))
noncomputable def z379:Sts:=.cons (sa 5997359218 (w16 (x2 y13 (ci 1)))) z378
noncomputable def z380:Sts:=.cons (sa 1517942301043 (w1 (x2 y13 (.list (x2 (cs [98]) (cs [99])))))) z379
noncomputable def z381:Sts:=so (.ret (.list (x2 (.tup (.cons (cs [109,111,100]) (x4 (ci 0) (cs [109]) (w17 (x1 (.comp (sb y4 0) true [24079973] .val y24 .nil))) y15))) (w26 (x2 (ad y12 (cs [109,111,100,32,109])) y24)))))
noncomputable def z382:Sts:=.cons (sa 1552335922546 (.ite (.cmp .Gt y21 (ci 0)) (.list (x1 (.call 6482616824352564602221 (x2 y13 (.bin .Sub y21 (ci 1)))))) (.list .nil))) z381
noncomputable def z383:Sts:=.cons (.ite (ee y10 (ci 6)) z380 .nil) z382
noncomputable def z384:Sts:=.cons (.ite (ee y10 (ci 5)) z377 .nil) z383
noncomputable def z385:Sts:=.cons (.ite (ee y10 (ci 4)) z376 .nil) z384
noncomputable def z386:Sts:=.cons (sa 6231649637 (.comp (w42 (x2 y13 (ci 0))) true [6248821358] .rng (w4 (x2 y13 (ci 2))) .nil)) z385
noncomputable def z387:Sts:=.cons (.ite (ee y10 (ci 3)) z373 .nil) z386
noncomputable def z388:Sts:=.cons (.ite (ee y10 (ci 2)) z370 .nil) z387
noncomputable def z389:Sts:=.cons (.ite (.cmp .Lt y10 (ci 2)) z368 .nil) z388
noncomputable def z390:Sts:=.cons (sa 24147298 (.ite y15 (cs [112,117,98,32]) (cs []))) z389
noncomputable def z391:Sts:=.cons (.assignT [(false,24600953),(false,397419220071778),(false,25897226614254166899)] (.tup (x3 (w4 (x2 y13 (ci 8))) (ee (w4 (x2 y13 (ci 2))) (ci 0)) (w41 (x1 y13))))) z390
noncomputable def f_law_item:Fn:={id:=6482616824352564602221,ps:=[(true,408397525705573),(false,5979334000)],dfl:=[],body:=z391}
noncomputable def z392:Sts:=so (.ret (.cst (.bool false)))
noncomputable def z393:Sts:=so (sa 1530710226024 (ad (.loc 6046446181) (w22 (x1 (ee (.sub y24 (.neg (ci 1))) (cs [123]))))))
noncomputable def z394:Sts:=.cons (.ite (.or (.cmp .NotEq y19 (ad (.bin .Mult (cs [32,32,32,32]) (.loc 6046446181)) y24)) (ee y24 (cs []))) z392 .nil) z393
noncomputable def z395:Sts:=.cons (sa 6046446181 (.bin .Sub (.loc 1530710226024) (w22 (x1 (ee (.slc y24 none (ci 1)) (cs [125])))))) z394
noncomputable def z396:Sts:=.cons (sa 1552335922546 (.meth 400718107404656 y19 (some [32]))) z395
noncomputable def z397:Sts:=so (.ret (.and (ee (.loc 1530710226024) (ci 0)) (.or (ee y11 (cs [])) (ee (.sub y11 (.neg (ci 1))) (cs [10])))))
noncomputable def z398:Sts:=.cons (.for true [24276855] .val (.slc (.meth 1595319019892 y11 (some [10])) none (.neg (ci 1))) z396) z397
noncomputable def z399:Sts:=.cons (sa 1530710226024 (ci 0)) z398
noncomputable def f_law_are_rows_right:Fn:={id:=7837002857627846317429081131406024461596977268,ps:=[(false,6247774324)],dfl:=[],body:=z399}
noncomputable def FN:List Fn:=[f_write_angles,f_write_path,f_write_type,f_write_row,f_write_generics,f_write_pattern,f_write_part,f_write_referred,f_write_literal,f_write_variant,f_is_long,f_write_fields,f_level_of,f_write_expr,f_written,f_write_ahead,f_write_side,f_write_operated,f_write_list,f_write_behind,f_write_gathered,f_write_jump,f_write_condition,f_write_block_like,f_write_bound,f_write_if,f_write_match,f_write_rows,f_indented,f_write_block,f_write_statement,f_write_items,f_write_item,f_write_fn,f_write_form,f_write_impl,f_law_pool,f_law_take,f_law_one,f_law_path,f_law_type,f_law_type_flat,f_law_pattern,f_law_leaf,f_law_expr,f_law_block_like,f_law_block,f_law_level,f_law_flat,f_law_list,f_law_side,f_law_bare_flat,f_law_long_flat,f_law_pattern_flat,f_law_row_flat,f_law_generics,f_law_form,f_law_function,f_law_nested,f_law_item,f_law_are_rows_right]
noncomputable abbrev cr (n:Str) (a b:List Nat) (f:Fn):Str×List Nat×List Nat×Fn:=(n,a,b,f)
noncomputable def cfT:List (Str×List Nat×List Nat×Fn):=[cr "write_angles" [] [] f_write_angles,cr "write_path" [1539468258916] [] f_write_path,cr "write_type" [] [] f_write_type,cr "write_row" [] [] f_write_row,cr "write_generics" [1582182855795] [] f_write_generics,cr "write_pattern" [] [] f_write_pattern,cr "write_part" [] [] f_write_part,cr "write_referred" [] [] f_write_referred,cr "write_literal" [] [] f_write_literal,cr "write_variant" [] [] f_write_variant,cr "is_long" [] [] f_is_long,cr "write_fields" [1582182855795] [] f_write_fields,cr "level_of" [] [] f_level_of,cr "write_expr" [] [] f_write_expr,cr "written" [] [] f_written,cr "write_ahead" [] [] f_write_ahead,cr "write_side" [] [] f_write_side,cr "write_operated" [] [] f_write_operated,cr "write_list" [] [] f_write_list,cr "write_behind" [] [] f_write_behind,cr "write_gathered" [] [] f_write_gathered,cr "write_jump" [] [] f_write_jump,cr "write_condition" [] [] f_write_condition,cr "write_block_like" [] [] f_write_block_like,cr "write_bound" [] [] f_write_bound,cr "write_if" [1539468258916] [] f_write_if,cr "write_match" [1539468258916] [] f_write_match,cr "write_rows" [] [] f_write_rows,cr "indented" [] [] f_indented,cr "write_block" [1582182855795] [] f_write_block,cr "write_statement" [] [] f_write_statement,cr "write_items" [] [] f_write_items,cr "write_item" [] [] f_write_item,cr "write_fn" [405038809836915] [6046441828] f_write_fn,cr "write_form" [] [] f_write_form,cr "write_impl" [] [] f_write_impl,cr "_law_pool" [] [] f_law_pool,cr "_law_take" [] [] f_law_take,cr "_law_one" [] [] f_law_one,cr "_law_path" [] [] f_law_path,cr "_law_type" [] [] f_law_type,cr "_law_type_flat" [] [] f_law_type_flat,cr "_law_pattern" [] [] f_law_pattern,cr "_law_leaf" [] [] f_law_leaf,cr "_law_expr" [] [] f_law_expr,cr "_law_block_like" [] [] f_law_block_like,cr "_law_block" [6214874995] [] f_law_block,cr "_law_level" [] [] f_law_level,cr "_law_flat" [] [] f_law_flat,cr "_law_list" [] [] f_law_list,cr "_law_side" [] [] f_law_side,cr "_law_bare_flat" [] [] f_law_bare_flat,cr "_law_long_flat" [] [] f_law_long_flat,cr "_law_pattern_flat" [] [] f_law_pattern_flat,cr "_law_row_flat" [] [] f_law_row_flat,cr "_law_generics" [] [] f_law_generics,cr "_law_form" [] [] f_law_form,cr "_law_function" [] [] f_law_function,cr "_law_nested" [] [] f_law_nested,cr "_law_item" [] [] f_law_item,cr "_law_are_rows_right" [] [] f_law_are_rows_right]
section
open PySem PySem.W PyProof.Rows PySem.Calls
theorem foldr_inj (a:List Nat):∀ b:List Nat,(∀ c∈a,c < 256)→(∀ c∈b,c < 256)→a.foldr (fun c x=>x*256+c) 1=b.foldr (fun c x=>x*256+c) 1→a=b:=by
 have pos:∀ l:List Nat,0 < l.foldr (fun c x=>x*256+c) 1:=fun l=>by
  induction l with
  | nil=>exact Nat.one_pos
  | cons c l ih=>exact Nat.lt_of_lt_of_le (Nat.mul_pos ih (by decide)) (Nat.le_add_right _ _)
 have key:∀ (c:Nat) (l:List Nat),(c::l).foldr (fun c x=>x*256+c) 1≠1:=fun c l e=>by
  have h2:l.foldr (fun c x=>x*256+c) 1*256+c=1:=e
  have:=pos l
  lia
 induction a with
 | nil=>exact fun b _ _ h=>match b,h with
  | [],_=>rfl
  | c::l,h=>absurd h.symm (key c l)
 | cons c a ih=>exact fun b ha hb h=>match b,hb,h with
  | [],_,h=>absurd h (key c a)
  | d::b,hb,h=>by
   have h:a.foldr (fun c x=>x*256+c) 1*256+c=b.foldr (fun c x=>x*256+c) 1*256+d:=h
   have hc:=ha c List.mem_cons_self
   have hd:=hb d List.mem_cons_self
   have e1:c=d:=by lia
   have e2:a.foldr (fun c x=>x*256+c) 1=b.foldr (fun c x=>x*256+c) 1:=by lia
   rw [e1,ih b (fun x hx=>ha x (List.mem_cons_of_mem _ hx)) (fun x hx=>hb x (List.mem_cons_of_mem _ hx)) e2]
theorem encS_lt {x:Str}{i:Nat}(h:encS x=some i):(∀ c∈x.cps.toList.reverse,c < 256)∧x.cps.toList.reverse.foldr (fun c x=>x*256+c) 1=i:=by
 obtain ⟨h1,h⟩:=gdI (show gd (x.cps.toList.all (fun c=>Nat.blt c 256)) _=_ from h)
 exact ⟨fun c hc=>Nat.le_of_ble_eq_true (List.all_eq_true.mp h1 c (List.mem_reverse.mp hc)),by rw [←List.foldl_eq_foldr_reverse];exact Option.some.inj h⟩
theorem encS_inj {x y:Str}{i:Nat}(hx:encS x=some i) (hy:encS y=some i):x=y:=by
 obtain ⟨h1,h2⟩:=encS_lt hx
 obtain ⟨h3,h4⟩:=encS_lt hy
 have h:=List.reverse_inj.mp (foldr_inj _ _ h1 h3 (h2.trans h4.symm))
 obtain ⟨a⟩:=x;obtain ⟨b⟩:=y
 exact congrArg Str.mk (Array.toList_inj.mp h)
noncomputable abbrev T.s (t:T):Str:=⟨t.toArray⟩
theorem T.s_inj {x:Str}{t:T}(h:x.cps.toList=t):x=T.s t:=by
 obtain ⟨a⟩:=x;subst h;simp
structure LamOk (fns:List Nat) (fd:FuncData) (b:Ex) (x:Nat) (c:Addr):Prop where
 shape:∃ n pe xs,fd.body=.expr pe∧encS xs=some x∧fd.closure=[(xs,c)]∧compE fns n fd.scope pe=some b∧lamFree fd.scope=some xs
 params:noArgs fd.params=true
 kind:fd.scope.kind=.function
 gen:fd.scope.isGenerator=false
 co:fd.scope.isCoroutine=false
 cell:∀ y∈fd.scope.names,y.2≠.cell
 glob:fd.globals=mainGlobals
 bi:fd.builtins=builtinsNs
 nolam:lamScope fd.scope=false
 dfl:fd.defaults=.none
inductive StrI (v:Value) (x:T):Prop
 | mk (t:Tok) (hx:x.length≤16777216) (e:v=.str (T.s x) t)
inductive SeqR (T:Addr→Array Value→Prop) (M:List Addr) (v:Value) (R:List Value→Prop):Prop
 | mk (a:Addr) (vs:Array Value) (e:v=.ref a) (ht:T a vs) (hm:a∉M) (hr:R vs.toList)
inductive DictR (prog:Program) (w:World) (M:List Addr) (h:Heap) (v:Value) (ks:List T) (R:List Value→Prop):Prop
 | mk (a:Addr) (vs:List Value) (f:Str→Option Value) (e:v=.ref a) (ht:h.MapOf (strKind prog w) a f) (hm:a∉M) (hs:(a==sysModules)=false)
   (hf:∀ x,f x=(ks.zip vs).lookup x.cps.toList) (hl:ks.length=vs.length) (hr:R vs)
inductive LamR (fns:List Nat) (M:List Addr) (h:Heap) (r:Value) (b:Ex) (x:Nat) (R:Value→Prop):Prop
 | mk (a c cc:Addr) (o:Obj) (fd:FuncData) (v:Value) (e:r=.ref a) (ho:h.get? a=some o) (hd:o.data=.func fd) (hk:LamOk fns fd b x c)
   (hcc:fd.code=.ref cc) (hcd:h.CodeRec fd.code fd.qualname) (hc:h.IsCell c (some v)) (ham:a∉M) (hcm:c∉M) (hccm:cc∉M) (hr:R v)
inductive ConsR (vs:List Value) (A:Value→Prop) (B:List Value→Prop):Prop
 | mk (v:Value) (us:List Value) (e:vs=v::us) (hv:A v) (hr:B us)
section
variable (prog:Program) (w:World) (fns:List Nat) (src:Option Addr) (M:List Addr) (h:Heap)
mutual
noncomputable def RepD:D→Value→Prop
 | .none,v=>v=.none
 | .bool b,v=>v=.bool b
 | .int i,v=>∃ t,v=.int i t
 | .str x,v=>StrI v x
 | .tup ds,v=>SeqR (IsTup h) M v (RepLD ds)
 | .lst ds,v=>SeqR h.IsList M v (RepLD ds)
 | .dict ks ds,v=>DictR prog w M h v ks (RepLD ds)
 | .pool,v=>∃ a,v=.ref a∧src=some a
 | .lam b x d,v=>LamR fns M h v b x (RepD d)
noncomputable def RepLD:List D→List Value→Prop
 | [],vs=>vs=[]
 | d::ds,vs=>ConsR vs (RepD d) (RepLD ds)
end
noncomputable def Rep (v:Value) (d:D):Prop:=RepD prog w fns src M h d v
noncomputable def RepL (vs:List Value) (ds:List D):Prop:=RepLD prog w fns src M h ds vs
end
section
variable {prog:Program}{w:World}{fns:List Nat}{src src':Option Addr}{M M':List Addr}{h h':Heap}
theorem Rep.none:Rep prog w fns src M h .none .none:=rfl
theorem Rep.bool (b:Bool):Rep prog w fns src M h (.bool b) (.bool b):=rfl
theorem Rep.int (i:Int) (t:Tok):Rep prog w fns src M h (.int i t) (.int i):=⟨t,rfl⟩
theorem Rep.str (x:T) (t:Tok) (hx:x.length≤16777216):Rep prog w fns src M h (.str (T.s x) t) (.str x):=⟨t,hx,rfl⟩
theorem Rep.tup {a:Addr}{vs:Array Value}{ds:List D}(ht:IsTup h a vs) (hm:a∉M) (hr:RepL prog w fns src M h vs.toList ds):Rep prog w fns src M h (.ref a) (.tup ds):=⟨a,vs,rfl,ht,hm,hr⟩
theorem Rep.lst {a:Addr}{vs:Array Value}{ds:List D}(ht:h.IsList a vs) (hm:a∉M) (hr:RepL prog w fns src M h vs.toList ds):Rep prog w fns src M h (.ref a) (.lst ds):=⟨a,vs,rfl,ht,hm,hr⟩
theorem Rep.dict {a:Addr}{ks:List T}{vs:List Value}{ds:List D}(f:Str→Option Value) (ht:h.MapOf (strKind prog w) a f) (hm:a∉M) (hs:(a==sysModules)=false)
  (hf:∀ x,f x=(ks.zip vs).lookup x.cps.toList) (hl:ks.length=vs.length) (hr:RepL prog w fns src M h vs ds):Rep prog w fns src M h (.ref a) (.dict ks ds):=⟨a,vs,f,rfl,ht,hm,hs,hf,hl,hr⟩
theorem Rep.pool {a:Addr}(hs:src=some a):Rep prog w fns src M h (.ref a) .pool:=⟨a,rfl,hs⟩
theorem Rep.lam {a c cc:Addr}{o:Obj}{fd:FuncData}{b:Ex}{x:Nat}{d:D}{v:Value}(ho:h.get? a=some o) (hd:o.data=.func fd) (hk:LamOk fns fd b x c)
   (hcc:fd.code=.ref cc) (hcd:h.CodeRec fd.code fd.qualname) (hc:h.IsCell c (some v)) (ham:a∉M) (hcm:c∉M) (hccm:cc∉M) (hr:Rep prog w fns src M h v d):Rep prog w fns src M h (.ref a) (.lam b x d):=
 ⟨a,c,cc,o,fd,v,rfl,ho,hd,hk,hcc,hcd,hc,ham,hcm,hccm,hr⟩
theorem RepL.nil:RepL prog w fns src M h [] []:=rfl
theorem RepL.cons {v:Value}{d:D}{vs:List Value}{ds:List D}(hv:Rep prog w fns src M h v d) (hr:RepL prog w fns src M h vs ds):RepL prog w fns src M h (v::vs) (d::ds):=⟨v,vs,rfl,hv,hr⟩
theorem RepL.nil_inv {vs:List Value}(r:RepL prog w fns src M h vs []):vs=[]:=r
inductive ConsI (prog:Program) (w:World) (fns:List Nat) (src:Option Addr) (M:List Addr) (h:Heap) (vs:List Value) (d:D) (ds:List D):Prop
 | mk (v:Value) (us:List Value) (e:vs=v::us) (hv:Rep prog w fns src M h v d) (hr:RepL prog w fns src M h us ds)
theorem RepL.cons_inv {vs:List Value}{d:D}{ds:List D}(r:RepL prog w fns src M h vs (d::ds)):ConsI prog w fns src M h vs d ds:=
 let ⟨v,us,e,hv,hr⟩:=r;⟨v,us,e,hv,hr⟩
inductive VConsI (prog:Program) (w:World) (fns:List Nat) (src:Option Addr) (M:List Addr) (h:Heap) (v:Value) (us:List Value) (ds:List D):Prop
 | mk (d:D) (es:List D) (e:ds=d::es) (hv:Rep prog w fns src M h v d) (hr:RepL prog w fns src M h us es)
theorem RepL.vcons_inv {v:Value}{us:List Value}{ds:List D}(r:RepL prog w fns src M h (v::us) ds):VConsI prog w fns src M h v us ds:=
 match ds,r with
 | [],r=>absurd r nofun
 | d::es,⟨_,_,e,hv,hr⟩=>⟨d,es,rfl,(List.cons.inj e).1▸hv,(List.cons.inj e).2▸hr⟩
theorem RepL.vnil_inv {ds:List D}(r:RepL prog w fns src M h [] ds):ds=[]:=
 match ds,r with
 | [],_=>rfl
 | d::es,⟨_,_,e,_,_⟩=>absurd e nofun
theorem RepL.one_inv {vs:List Value}{d:D}(r:RepL prog w fns src M h vs [d]):∃ v,vs=[v]∧Rep prog w fns src M h v d:=
 let ⟨v,us,e,hv,hr⟩:=r.cons_inv
 ⟨v,by rw [e,hr.nil_inv],hv⟩
theorem Rep.none_inv {v:Value}(r:Rep prog w fns src M h v .none):v=.none:=r
theorem Rep.bool_inv {v:Value}{b:Bool}(r:Rep prog w fns src M h v (.bool b)):v=.bool b:=r
theorem Rep.int_inv {v:Value}{i:Int}(r:Rep prog w fns src M h v (.int i)):∃ t,v=.int i t:=r
theorem Rep.str_inv {v:Value}{x:T}(r:Rep prog w fns src M h v (.str x)):StrI v x:=r
inductive TupI (prog:Program) (w:World) (fns:List Nat) (src:Option Addr) (M:List Addr) (h:Heap) (v:Value) (ds:List D):Prop
 | mk (a:Addr) (vs:Array Value) (e:v=.ref a) (ht:IsTup h a vs) (hm:a∉M) (hr:RepL prog w fns src M h vs.toList ds)
theorem Rep.tup_inv {v:Value}{ds:List D}(r:Rep prog w fns src M h v (.tup ds)):TupI prog w fns src M h v ds:=let ⟨a,vs,e,ht,hm,hr⟩:=r;⟨a,vs,e,ht,hm,hr⟩
inductive LstI (prog:Program) (w:World) (fns:List Nat) (src:Option Addr) (M:List Addr) (h:Heap) (v:Value) (ds:List D):Prop
 | mk (a:Addr) (vs:Array Value) (e:v=.ref a) (ht:h.IsList a vs) (hm:a∉M) (hr:RepL prog w fns src M h vs.toList ds)
theorem Rep.lst_inv {v:Value}{ds:List D}(r:Rep prog w fns src M h v (.lst ds)):LstI prog w fns src M h v ds:=let ⟨a,vs,e,ht,hm,hr⟩:=r;⟨a,vs,e,ht,hm,hr⟩
inductive DictI (prog:Program) (w:World) (fns:List Nat) (src:Option Addr) (M:List Addr) (h:Heap) (v:Value) (ks:List T) (ds:List D):Prop
 | mk (a:Addr) (vs:List Value) (f:Str→Option Value) (e:v=.ref a) (ht:h.MapOf (strKind prog w) a f) (hm:a∉M) (hs:(a==sysModules)=false)
   (hf:∀ x,f x=(ks.zip vs).lookup x.cps.toList) (hl:ks.length=vs.length) (hr:RepL prog w fns src M h vs ds)
theorem Rep.dict_inv {v:Value}{ks:List T}{ds:List D}(r:Rep prog w fns src M h v (.dict ks ds)):DictI prog w fns src M h v ks ds:=let ⟨a,vs,f,e,ht,hm,hs,hf,hl,hr⟩:=r;⟨a,vs,f,e,ht,hm,hs,hf,hl,hr⟩
theorem Rep.pool_inv {v:Value}(r:Rep prog w fns src M h v .pool):∃ a,v=.ref a∧src=some a:=r
inductive LamI (prog:Program) (w:World) (fns:List Nat) (src:Option Addr) (M:List Addr) (h:Heap) (r:Value) (b:Ex) (x:Nat) (d:D):Prop
 | mk (a c cc:Addr) (o:Obj) (fd:FuncData) (v:Value) (e:r=.ref a) (ho:h.get? a=some o) (hd:o.data=.func fd) (hk:LamOk fns fd b x c)
   (hcc:fd.code=.ref cc) (hcd:h.CodeRec fd.code fd.qualname) (hc:h.IsCell c (some v)) (ham:a∉M) (hcm:c∉M) (hccm:cc∉M) (hr:Rep prog w fns src M h v d)
theorem Rep.lam_inv {r:Value}{b:Ex}{x:Nat}{d:D}(q:Rep prog w fns src M h r (.lam b x d)):LamI prog w fns src M h r b x d:=
 let ⟨a,c,cc,o,fd,v,e,ho,hd,hk,hcc,hcd,hc,ham,hcm,hccm,hr⟩:=q;⟨a,c,cc,o,fd,v,e,ho,hd,hk,hcc,hcd,hc,ham,hcm,hccm,hr⟩
noncomputable def Kept (M:List Addr) (h h':Heap):Prop:=∀ a o,a∉M→o.data≠.cell none→h.get? a=some o→h'.get? a=some o
theorem Kept.tup {a:Addr} {vs}(k:Kept M h h') (x:IsTup h a vs) (hm:a∉M):IsTup h' a vs:=by
 obtain ⟨o,ho,hc,n,hd⟩:=x
 exact ⟨o,k a o hm (by rw [hd];nofun) ho,hc,n,hd⟩
theorem Kept.lst {a:Addr} {vs}(k:Kept M h h') (x:h.IsList a vs) (hm:a∉M):h'.IsList a vs:=by
 obtain ⟨o,ho,hc,n,hd⟩:=x
 exact ⟨o,k a o hm (by rw [hd];nofun) ho,hc,n,hd⟩
theorem Kept.map {a:Addr}{f:Str→Option Value}(k:Kept M h h') (x:h.MapOf (strKind prog w) a f) (hm:a∉M):h'.MapOf (strKind prog w) a f:=by
 obtain ⟨o,es,ep,ho,hx,hd,r⟩:=x
 exact ⟨o,es,ep,k a o hm (by rw [hd];nofun) ho,hx,hd,r⟩
theorem Kept.cell {a:Addr}{v:Value}(k:Kept M h h') (x:h.IsCell a (some v)) (hm:a∉M):h'.IsCell a (some v):=by
 obtain ⟨o,ho,hd⟩:=x
 exact ⟨o,k a o hm (by rw [hd];nofun) ho,hd⟩
theorem Kept.code {cc:Addr}{cd:Value}{q:Str}(k:Kept M h h') (e:cd=.ref cc) (x:h.CodeRec cd q) (hm:cc∉M):h'.CodeRec cd q:=by
 obtain ⟨c,o,vs,t,e1,ho,hd,hq⟩:=x
 rw [e] at e1;cases e1
 exact ⟨cc,o,vs,t,e,k cc o hm (by rw [hd];nofun) ho,hd,hq⟩
theorem code_obj {cd:Value}{q:Str}{cc:Addr}(x:h.CodeRec cd q) (e:cd=.ref cc):∃ o,h.get? cc=some o:=
 let ⟨_,o,_,_,e1,ho,_⟩:=x;⟨o,Value.ref.inj (e1.symm.trans e)▸ho⟩
theorem RepD.go (k:Kept M h h') (hM:∀ a o,a∉M→h.get? a=some o→a∉M') (d:D):∀ v,(src'=src∨noPool d=true)→RepD prog w fns src M h d v→RepD prog w fns src' M' h' d v:=
 D.rec (motive_1:=fun d=>∀ v,(src'=src∨noPool d=true)→RepD prog w fns src M h d v→RepD prog w fns src' M' h' d v)
  (motive_2:=fun ds=>∀ vs,(src'=src∨noPool.noPools ds=true)→RepLD prog w fns src M h ds vs→RepLD prog w fns src' M' h' ds vs)
  (fun _ _ r=>r) (fun _ _ _ r=>r) (fun _ _ _ r=>r) (fun _ _ _ r=>r)
  (fun _ ih _ p r=>let ⟨a,vs,e,ht,hm,hr⟩:=r;⟨a,vs,e,k.tup ht hm,let ⟨_,ho,_⟩:=ht;hM a _ hm ho,ih _ p hr⟩)
  (fun _ ih _ p r=>let ⟨a,vs,e,ht,hm,hr⟩:=r;⟨a,vs,e,k.lst ht hm,let ⟨_,ho,_⟩:=ht;hM a _ hm ho,ih _ p hr⟩)
  (fun _ _ ih _ p r=>let ⟨a,vs,f,e,ht,hm,hs,hf,hl,hr⟩:=r;⟨a,vs,f,e,k.map ht hm,let ⟨_,_,_,ho,_⟩:=ht;hM a _ hm ho,hs,hf,hl,ih _ p hr⟩)
  (fun _ p r=>let ⟨a,e,hs⟩:=r;⟨a,e,(p.resolve_right nofun).trans hs⟩)
  (fun _ _ _ ih _ p r=>let ⟨a,c,cc,o,fd,v,e,ho,hd,hk,hcc,hcd,hc,ham,hcm,hccm,hr⟩:=r
   ⟨a,c,cc,o,fd,v,e,k a o ham (fun q=>nomatch hd.symm.trans q) ho,hd,hk,hcc,k.code hcc hcd hccm,k.cell hc hcm,hM a o ham ho,let ⟨_,ho,_⟩:=hc;hM c _ hcm ho,
    let ⟨_,ho⟩:=code_obj hcd hcc;hM cc _ hccm ho,ih _ (p.imp_right nofun) hr⟩)
  (fun _ _ r=>r)
  (fun _ _ ih1 ih2 _ p r=>let ⟨v,us,e,hv,hr⟩:=r;⟨v,us,e,ih1 _ (p.imp_right fun q=>(Bool.and_eq_true_iff.mp q).1) hv,ih2 _ (p.imp_right fun q=>(Bool.and_eq_true_iff.mp q).2) hr⟩) d
theorem RepL.go (k:Kept M h h') (hM:∀ a o,a∉M→h.get? a=some o→a∉M'){ds:List D}{vs:List Value}(p:src'=src∨noPool.noPools ds=true) (r:RepL prog w fns src M h vs ds):RepL prog w fns src' M' h' vs ds:=by
 induction ds generalizing vs with
 | nil=>exact r
 | cons d ds ih=>
  obtain ⟨v,us,e,hv,hr⟩:=r
  exact ⟨v,us,e,RepD.go k hM d v (p.imp_right fun q=>(Bool.and_eq_true_iff.mp q).1) hv,ih (p.imp_right fun q=>(Bool.and_eq_true_iff.mp q).2) hr⟩
theorem Kept.rfl:Kept M h h:=fun _ _ _ _ e=>e
section
variable {v:Value}{d:D}{vs:List Value}{ds:List D}
theorem Rep.kept (k:Kept M h h') (r:Rep prog w fns src M h v d):Rep prog w fns src M h' v d:=RepD.go k (fun _ _ q _=>q) d v (.inl rfl) r
theorem RepL.kept (k:Kept M h h') (r:RepL prog w fns src M h vs ds):RepL prog w fns src M h' vs ds:=RepL.go k (fun _ _ q _=>q) (.inl _root_.rfl) r
theorem Rep.weak (e:∀ a,a∉M→a∉M') (r:Rep prog w fns src M h v d):Rep prog w fns src M' h v d:=RepD.go Kept.rfl (fun a _ q _=>e a q) d v (.inl rfl) r
theorem RepL.weak (e:∀ a,a∉M→a∉M') (r:RepL prog w fns src M h vs ds):RepL prog w fns src M' h vs ds:=RepL.go Kept.rfl (fun a _ q _=>e a q) (.inl _root_.rfl) r
theorem Rep.wide (e:∀ a∈M',a∈M∨h.get? a=.none) (r:Rep prog w fns src M h v d):Rep prog w fns src M' h v d:=
 RepD.go Kept.rfl (fun a _ q ho m=>(e a m).elim q fun z=>nomatch z.symm.trans ho) d v (.inl rfl) r
theorem RepL.wide (e:∀ a∈M',a∈M∨h.get? a=none) (r:RepL prog w fns src M h vs ds):RepL prog w fns src M' h vs ds:=
 RepL.go Kept.rfl (fun a _ q ho m=>(e a m).elim q fun z=>nomatch z.symm.trans ho) (.inl _root_.rfl) r
theorem fresh_ne {b:Addr}(hb:h.objs.size≤b) (a:Addr) (o:Obj) (q:a∉M) (ho:h.get? a=some o):a∉b::M:=
 List.not_mem_cons_of_ne_of_not_mem (Nat.ne_of_lt (Nat.lt_of_lt_of_le (Heap.lt_size ho) hb)) q
theorem Rep.fresh {b:Addr}(hb:h.objs.size≤b) (r:Rep prog w fns src M h v d):Rep prog w fns src (b::M) h v d:=RepD.go Kept.rfl (fresh_ne hb) d v (.inl rfl) r
theorem RepL.fresh {b:Addr}(hb:h.objs.size≤b) (r:RepL prog w fns src M h vs ds):RepL prog w fns src (b::M) h vs ds:=RepL.go Kept.rfl (fresh_ne hb) (.inl _root_.rfl) r
theorem Rep.pools (r:Rep prog w fns src M h v d) (e:noPool d=true):Rep prog w fns src' M h v d:=RepD.go Kept.rfl (fun _ _ q _=>q) d v (.inr e) r
theorem RepL.pools (r:RepL prog w fns src M h vs ds) (e:noPool.noPools ds=true):RepL prog w fns src' M h vs ds:=RepL.go Kept.rfl (fun _ _ q _=>q) (.inr e) r
end
theorem IsTup.lt' {a vs}(x:IsTup h a vs):a < h.objs.size:=x.lt
theorem lst_lt {a vs}(x:h.IsList a vs):a < h.objs.size:=let ⟨_,ho,_⟩:=x;Heap.lt_size ho
theorem RepL.length {vs:List Value}{ds:List D}(r:RepL prog w fns src M h vs ds):vs.length=ds.length:=by
 induction ds generalizing vs with
 | nil=>rw [r.nil_inv];rfl
 | cons d ds ih=>obtain ⟨v,us,e,_,hr⟩:=r.cons_inv;rw [e,List.length_cons,List.length_cons,ih hr]
theorem RepL.get {vs:List Value}{ds:List D}{i:Nat}{d:D}(r:RepL prog w fns src M h vs ds) (e:ds[i]?=some d):∃ v,vs[i]?=some v∧Rep prog w fns src M h v d:=by
 induction ds generalizing vs i with
 | nil=>cases e
 | cons c ds ih=>
  obtain ⟨v,us,ev,hv,hr⟩:=r.cons_inv
  rw [ev]
  cases i with
  | zero=>exact ⟨v,rfl,Option.some.inj e▸hv⟩
  | succ i=>exact ih (vs:=us) (i:=i) hr e
theorem RepL.append {vs us:List Value}{ds es:List D}(r:RepL prog w fns src M h vs ds) (x:RepL prog w fns src M h us es):RepL prog w fns src M h (vs++us) (ds++es):=by
 induction ds generalizing vs with
 | nil=>rw [r.nil_inv];exact x
 | cons d ds ih=>obtain ⟨v,ws,e,hv,hr⟩:=r.cons_inv;rw [e];exact .cons hv (ih hr)
theorem RepL.take {vs:List Value}{ds:List D}(n:Nat) (r:RepL prog w fns src M h vs ds):RepL prog w fns src M h (vs.take n) (ds.take n):=by
 induction ds generalizing vs n with
 | nil=>rw [r.nil_inv,List.take_nil,List.take_nil];exact .nil
 | cons d ds ih=>
  obtain ⟨v,ws,e,hv,hr⟩:=r.cons_inv
  rw [e]
  cases n with
  | zero=>exact .nil
  | succ n=>exact .cons hv (ih n hr)
theorem RepL.drop {vs:List Value}{ds:List D}(n:Nat) (r:RepL prog w fns src M h vs ds):RepL prog w fns src M h (vs.drop n) (ds.drop n):=by
 induction n generalizing vs ds with
 | zero=>exact r
 | succ n ih=>cases ds with
  | nil=>rw [r.nil_inv,List.drop_nil,List.drop_nil];exact .nil
  | cons d ds=>obtain ⟨v,ws,e,hv,hr⟩:=r.cons_inv;rw [e];exact ih hr
theorem RepL.rep {vs ds}(n:Nat) (x:RepL prog w fns src M h vs ds):RepL prog w fns src M h (repL vs n) (repL ds n):=by
 induction n with
 | zero=>exact .nil
 | succ n ih=>exact x.append ih
end
end
section
open PySem PySem.W PyProof.Rows PySem.Calls
noncomputable def lamQual:Str:="_law_bare_flat"++".<locals>."++"<lambda>"
structure Good (A:Around) (k:Nat):Prop where
 handled:A.handled=none
 guards:A.guards=some []
 depth:A.depth+k < 990
 units:A.units+3*k < 9700
theorem Good.room {A:Around}{k:Nat}(g:Good A k):A.depth < recursionLimit:=
 Nat.lt_of_lt_of_le (Nat.lt_of_le_of_lt (Nat.le_add_right _ _) g.depth) (show 990≤1000 by decide)
theorem Good.deeper {A:Around}{k:Nat}(g:Good A (k+1)) (env:PySem.Env):Good (A.deeper env) k:=
 ⟨g.handled,g.guards,(Nat.add_right_comm A.depth 1 k).symm▸g.depth,(Nat.add_right_comm A.units 3 (3*k)).symm▸g.units⟩
theorem Good.mono {A:Around}{k j:Nat}(g:Good A k) (h:j≤k):Good A j:=
 ⟨g.handled,g.guards,Nat.lt_of_le_of_lt (Nat.add_le_add_left h _) g.depth,Nat.lt_of_le_of_lt (Nat.add_le_add_left (Nat.mul_le_mul_left 3 h) _) g.units⟩
structure Gd (prog:Program) (w:World) (fns:List Nat) (K:Frag) (mg mb:Str→Option Value) (h₀:Heap):Prop where
 X:K.In h₀
 g:h₀.Ns mainGlobals mg
 b:h₀.Ns builtinsNs mb
 nolimit:h₀.NoLimit
 bi:∀ x:Str,x≠"__name__"→mb x=bootBuiltins x
 bat:h₀.BuiltinsAt mg lamTab
 hd:CodeHd h₀ lamCode lamTab
 gP:mainGlobals≠lamTab
 fnOk:∀ i,fns.contains i=true→∃ fn name ow fz,getF FN i=some fn∧fn.id=i∧compFn fns ow fz K name=some fn
 glOk:∀ i d,getV globT i=some d→∃ name v,encS name=some i∧nsIn K mainGlobals name=some (some v)∧∀ src M h,(∀ a∈M,h₀.get? a=none)→(∀ a o,h₀.get? a=some o→h.get? a=some o)→Rep prog w fns src M h v d
 blOk:∀ x:Str,x="len"∨x="list"∨x="tuple"∨x="str"∨x="int"∨x="max"∨x="isinstance"∨x="repr"∨x="bool"∨x="range"∨x="enumerate"→nsIn K mainGlobals x=some none
inductive TabOk (M:List Addr) (h:Heap):Prop
 | mk (ps:Array Value) (h1:h.get? lamTab=some (tabObj ps)) (h2:TriplesOk ps.toList) (h3:∀ pos cv,codeAmong pos ps.toList=some cv→∃ cc,cv=.ref cc∧cc∉M∧h.CodeRec cv lamQual)
noncomputable def PoolAt (h:Heap) (a:Addr) (π:Pi):Prop:=∃ t1 t2,h.IsList a #[.int π.1 t1,.int π.2 t2]
structure WI (h₀:Heap) (src:Option Addr) (M:List Addr) (s:Shared) (π:Pi):Prop where
 base:∀ a o,h₀.get? a=some o→s.heap.get? a=some o
 fresh:∀ a∈M,h₀.get? a=none∧∃ o,s.heap.get? a=some o
 tabM:lamTab∈M
 tab:TabOk M s.heap
 pool:∀ a,src=some a→a∈M∧a≠lamTab∧PoolAt s.heap a π
theorem codeRec_keep {h h':Heap}{cv:Value}{cc:Addr}{q:Str}(e:cv=.ref cc) (x:h.CodeRec cv q) (hk:∀ o,h.get? cc=some o→h'.get? cc=some o):h'.CodeRec cv q:=
 let ⟨c',o,vs,t,e1,ho,r⟩:=x
 ⟨c',o,vs,t,e1,Value.ref.inj (e.symm.trans e1)▸hk o (Value.ref.inj (e.symm.trans e1)▸ho),r⟩
theorem TabOk.move {M M':List Addr}{h h':Heap}(t:TabOk M h) (ht:∀ o,h.get? lamTab=some o→h'.get? lamTab=some o) (hk:∀ a o,a∉M→h.get? a=some o→a∉M'∧h'.get? a=some o):TabOk M' h':=
 let ⟨ps,h1,h2,h3⟩:=t
 ⟨ps,ht _ h1,h2,fun pos cv e=>let ⟨cc,e1,hm,hc⟩:=h3 pos cv e;let ⟨o,ho⟩:=code_obj hc e1;⟨cc,e1,(hk cc o hm ho).1,codeRec_keep e1 hc fun o ho=>(hk cc o hm ho).2⟩⟩
theorem TabOk.at {M:List Addr}{h:Heap}(t:TabOk M h):∃ o,h.get? lamTab=some o:=let ⟨_,h1,_,_⟩:=t;⟨_,h1⟩
theorem PoolAt.keep {h h':Heap}{a:Addr}{π:Pi}(x:PoolAt h a π) (hk:∀ o,h.get? a=some o→h'.get? a=some o):PoolAt h' a π:=
 let ⟨t1,t2,o,ho,r⟩:=x;⟨t1,t2,o,hk o ho,r⟩
theorem ns_keep {h h':Heap}{a:Addr}{m:Str→Option Value}(x:h.Ns a m) (hk:∀ o,h.get? a=some o→h'.get? a=some o):h'.Ns a m:=
 let ⟨o,es,ep,ho,r⟩:=x;⟨o,es,ep,hk o ho,r⟩
structure Step (src:Option Addr) (s s':Shared):Prop where
 gens:s'.gens=s.gens
 os:s'.os=s.os
 keep:∀ a o,a≠lamTab→src≠some a→s.heap.get? a=some o→s'.heap.get? a=some o
theorem Step.refl {src}(s:Shared):Step src s s:=⟨rfl,rfl,fun _ _ _ _ e=>e⟩
theorem Step.trans {src}{s s' s'':Shared}(x:Step src s s') (y:Step src s' s''):Step src s s'':=
 ⟨y.gens.trans x.gens,y.os.trans x.os,fun a o h1 h2 e=>y.keep a o h1 h2 (x.keep a o h1 h2 e)⟩
theorem Step.toks {src}(s:Shared) (t:Tok):Step src s {s with toks:=t}:=⟨rfl,rfl,fun _ _ _ _ e=>e⟩
theorem Step.of_keeps {src}{s:Shared}{h':Heap}{t:Tok}(hk:∀ a o,s.heap.get? a=some o→h'.get? a=some o):
  Step src s {s with heap:=h',toks:=t}:=⟨rfl,rfl,fun a o _ _ e=>hk a o e⟩
section
variable {prog:Program}{w:World}{fns:List Nat}{src:Option Addr}{M:List Addr}{h₀:Heap}{s s':Shared}{π:Pi}
theorem WI.kept (W:WI h₀ src M s π) (x:Step src s s'):Kept M s.heap s'.heap:=fun a o hm _ e=>
 x.keep a o (fun q=>hm (q▸W.tabM)) (fun q=>hm (W.pool a q).1) e
theorem WI.move {M':List Addr}(W:WI h₀ src M s π) (hb:∀ a o,h₀.get? a=some o→s.heap.get? a=some o→s'.heap.get? a=some o) (hf:∀ a∈M',h₀.get? a=none∧∃ o,s'.heap.get? a=some o) (hm:lamTab∈M')
  (ht:∀ o,s.heap.get? lamTab=some o→s'.heap.get? lamTab=some o) (hk:∀ a o,a∉M→s.heap.get? a=some o→a∉M'∧s'.heap.get? a=some o) (hs:∀ a,src=some a→a∈M'∧∀ o,s.heap.get? a=some o→s'.heap.get? a=some o):WI h₀ src M' s' π where
 base a o e:=hb a o e (W.base a o e)
 fresh:=hf
 tabM:=hm
 tab:=W.tab.move ht hk
 pool a e:=⟨(hs a e).1,(W.pool a e).2.1,(W.pool a e).2.2.keep (hs a e).2⟩
theorem WI.grow (W:WI h₀ src M s π) (hk:∀ a o,s.heap.get? a=some o→s'.heap.get? a=some o):WI h₀ src M s' π:=
 W.move (fun a o _=>hk a o) (fun a ha=>⟨(W.fresh a ha).1,let ⟨o,e⟩:=(W.fresh a ha).2;⟨o,hk _ _ e⟩⟩) W.tabM (hk _) (fun a o q e=>⟨q,hk a o e⟩) (fun a e=>⟨(W.pool a e).1,hk a⟩)
theorem WI.toks (W:WI h₀ src M s π) (t:Tok):WI h₀ src M {s with toks:=t} π:=⟨W.base,W.fresh,W.tabM,W.tab,W.pool⟩
inductive Post (prog:Program) (w:World) (fns:List Nat) (h₀:Heap) (src:Option Addr) (M:List Addr) (s:Shared) (Q:D→Pi→Prop) (v:Value) (s':Shared):Prop
 | mk (d:D) (π':Pi) (h:Q d π') (r:Rep prog w fns src M s'.heap v d) (st:Step src s s') (W:WI h₀ src M s' π')
theorem Post.of_step {Q:D→Pi→Prop}{v:Value}{s'':Shared}(x:Step src s s') (p:Post prog w fns h₀ src M s' Q v s''):Post prog w fns h₀ src M s Q v s'':=by
 obtain ⟨d,π',h1,h2,h3,h4⟩:=p
 exact ⟨d,π',h1,h2,x.trans h3,h4⟩
structure FI (prog:Program) (w:World) (fns:List Nat) (src:Option Addr) (M:List Addr) (env:PySem.Env) (s:Shared) (ρ:Env):Prop where
 kind:env.scope.kind=.function
 glob:env.globals=mainGlobals
 bi:env.builtins=builtinsNs
 L:env.locals≠lamTab∧src≠some env.locals
 ns:∃ m,s.heap.Ns env.locals m∧∀ x i d,encS x=some i→getV ρ.l i=some d→∃ v,m x=some v∧Rep prog w fns src M s.heap v d
 cl:∀ x i d,encS x=some i→getV ρ.c i=some d→∀ c,env.cells.lookup x=some c→c∉M∧∃ v,s.heap.IsCell c (some v)∧Rep prog w fns src M s.heap v d
 cd:∀ x,env.scope.names.lookup x=some .cell∨env.scope.names.lookup x=some .free→∃ c,env.cells.lookup x=some c
 lam:lamScope env.scope=true→env.code=.ref lamCode∧env.qual++"<lambda>"=lamQual
variable {env:PySem.Env}{ρ:Env}
theorem FI.move {M':List Addr}(F:FI prog w fns src M env s ρ) (hL:∀ o,s.heap.get? env.locals=some o→s'.heap.get? env.locals=some o) (hr:∀ v d,Rep prog w fns src M s.heap v d→Rep prog w fns src M' s'.heap v d)
  (hc:∀ c v,c∉M→s.heap.IsCell c (some v)→c∉M'∧s'.heap.IsCell c (some v)):FI prog w fns src M' env s' ρ where
 kind:=F.kind
 glob:=F.glob
 bi:=F.bi
 L:=F.L
 ns:=let ⟨m,hn,hv⟩:=F.ns;⟨m,ns_keep hn hL,fun y i d h1 h2=>let ⟨v,h3,h4⟩:=hv y i d h1 h2;⟨v,h3,hr v d h4⟩⟩
 cl y i d h1 h2 c h3:=let ⟨hm,v,h4,h5⟩:=F.cl y i d h1 h2 c h3;let q:=hc c v hm h4;⟨q.1,v,q.2,hr v d h5⟩
 cd:=F.cd
 lam:=F.lam
theorem FI.step (W:WI h₀ src M s π) (F:FI prog w fns src M env s ρ) (x:Step src s s'):FI prog w fns src M env s' ρ:=
 F.move (x.keep _ · F.L.1 F.L.2) (fun _ _ r=>r.kept (W.kept x)) fun _ _ hm hc=>⟨hm,(W.kept x).cell hc hm⟩
end
section
variable {prog:Program}{w:World}{fns:List Nat}{src:Option Addr}{M M':List Addr}{h₀:Heap}{s s':Shared}{π:Pi}{b:Addr}{env:PySem.Env}{ρ:Env}{Cs:List Addr}
theorem Rep.add {v:Value}{d:D}(hb:s.heap.objs.size≤b) (hk:∀ a o,s.heap.get? a=some o→s'.heap.get? a=some o) (r:Rep prog w fns src M s.heap v d):Rep prog w fns src (b::M) s'.heap v d:=
 (r.fresh hb).kept fun a o _ _ e=>hk a o e
theorem RepL.add {v:List Value}{d:List D}(hb:s.heap.objs.size≤b) (hk:∀ a o,s.heap.get? a=some o→s'.heap.get? a=some o) (r:RepL prog w fns src M s.heap v d):RepL prog w fns src (b::M) s'.heap v d:=
 (r.fresh hb).kept fun a o _ _ e=>hk a o e
theorem nosome {α:Type}{P:Prop}{o:Option α}{x:α}(h:o=none) (e:o=some x):P:=nomatch h.symm.trans e
theorem WI.h0 (W:WI h₀ src M s π) (hb:s.heap.objs.size≤b):h₀.get? b=none:=by
 cases q:h₀.get? b with
 | none=>rfl
 | some o=>exact absurd (Heap.lt_size (W.base _ _ q)) (Nat.not_lt.mpr hb)
theorem WI.nin (W:WI h₀ src M s π) (ha:s.heap.get? b=none):b∉M:=fun hm=>let ⟨_,e⟩:=(W.fresh _ hm).2;nosome ha e
theorem WI.notab (W:WI h₀ src M s π) (e:s.heap.get? b=none):b≠lamTab:=fun q=>let ⟨_,e2⟩:=W.tab.at;nosome (q▸e) e2
theorem WI.nosrc (W:WI h₀ src M s π) (e:s.heap.get? b=none):src≠some b:=fun q=>W.nin e (W.pool b q).1
theorem WI.re {src':Option Addr}{π':Pi}(W:WI h₀ src M s π) (hM:∀ a,a∈M'→a∈M) (ht:lamTab∈M') (hs:∀ a,src'=some a→a∈M'∧a≠lamTab∧PoolAt s.heap a π'):WI h₀ src' M' s π':=
 ⟨W.base,fun a ha=>W.fresh a (hM a ha),ht,W.tab.move (fun _ e=>e) fun a o q e=>⟨fun m=>q (hM a m),e⟩,hs⟩
theorem WI.less (W:WI h₀ src M s π) (hM:∀ a,a∈M'→a∈M) (ht:lamTab∈M') (hs:∀ a,src=some a→a∈M'):WI h₀ src M' s π:=W.re hM ht fun a q=>⟨hs a q,(W.pool a q).2⟩
theorem WI.add {o:Obj}(W:WI h₀ src M s π) (hb:s.heap.objs.size≤b) (he:s'.heap.get? b=some o) (hk:∀ a o,s.heap.get? a=some o→s'.heap.get? a=some o):WI h₀ src (b::M) s' π:=
 W.move (fun a o _=>hk a o) (List.forall_mem_cons.mpr ⟨⟨W.h0 hb,o,he⟩,fun a ha=>⟨(W.fresh a ha).1,let ⟨o,e⟩:=(W.fresh a ha).2;⟨o,hk _ _ e⟩⟩⟩) (List.mem_cons_of_mem _ W.tabM) (hk _)
  (fun a o q e=>⟨fresh_ne hb a o q e,hk a o e⟩) fun a e=>⟨List.mem_cons_of_mem _ (W.pool a e).1,hk a⟩
theorem WI.off (W:WI h₀ src M s π) (hM:∀ a,a∈M'→a∈M) (ht:lamTab∈M') (hC:∀ a∈Cs,a∈M) (htC:lamTab∉Cs) (hs:∀ a,src=some a→a∈M'∧a∉Cs)
  (hk:∀ a o,a∉Cs→s.heap.get? a=some o→s'.heap.get? a=some o) (he:∀ a∈M',a∈Cs→∃ o,s'.heap.get? a=some o):WI h₀ src M' s' π:=
 W.move (fun a o e0=>hk a o fun q=>nosome (W.fresh a (hC a q)).1 e0)
  (fun a ha=>⟨(W.fresh a (hM a ha)).1,if q:a∈Cs then he a ha q else let ⟨o,e⟩:=(W.fresh a (hM a ha)).2;⟨o,hk a o q e⟩⟩) ht (fun o=>hk _ o htC)
  (fun a o q e=>⟨fun m=>q (hM a m),hk a o (fun c=>q (hC a c)) e⟩) fun a e=>⟨(hs a e).1,fun o=>hk a o (hs a e).2⟩
theorem WI.updL (W:WI h₀ src M s π) (hC:∀ a∈Cs,a∈M) (ht:lamTab∉Cs) (hs:∀ a,src=some a→a∉Cs) (hk:∀ a o,a∉Cs→s.heap.get? a=some o→s'.heap.get? a=some o) (he:∀ a∈Cs,∃ o,s'.heap.get? a=some o):WI h₀ src M s' π:=
 W.off (fun _ m=>m) W.tabM hC ht (fun a q=>⟨(W.pool a q).1,hs a q⟩) hk fun a _=>he a
theorem one_ne {a:Addr}(h:a≠b):a∉[b]:=fun q=>h (List.mem_singleton.mp q)
theorem ne_one {a:Addr}(h:a∉[b]):a≠b:=fun q=>h (List.mem_singleton.mpr q)
theorem all_one {P:Addr→Prop}(h:P b):∀ a∈[b],P a:=List.forall_mem_cons.mpr ⟨h,nofun⟩
theorem WI.upd (W:WI h₀ src M s π) (hb:b∈M) (hbt:b≠lamTab) (hbs:src≠some b) (hk:∀ a o,a≠b→s.heap.get? a=some o→s'.heap.get? a=some o) (he:∃ o,s'.heap.get? b=some o):WI h₀ src M s' π:=
 W.updL (Cs:=[b]) (all_one hb) (one_ne hbt.symm) (fun a q=>one_ne fun e=>hbs (e▸q)) (fun a o q=>hk a o (ne_one q)) (all_one he)
theorem keptL (hC:∀ a∈Cs,a∈M) (hk:∀ a o,a∉Cs→s.heap.get? a=some o→s'.heap.get? a=some o):Kept M s.heap s'.heap:=fun a o hm _ e=>hk a o (fun q=>hm (hC a q)) e
theorem kept_upd (hb:b∈M) (hk:∀ a o,a≠b→s.heap.get? a=some o→s'.heap.get? a=some o):Kept M s.heap s'.heap:=fun a o hm _ e=>hk a o (fun q=>hm (q▸hb)) e
theorem FI.add (F:FI prog w fns src M env s ρ) (hb:s.heap.objs.size≤b) (hk:∀ a o,s.heap.get? a=some o→s'.heap.get? a=some o):FI prog w fns src (b::M) env s' ρ:=
 F.move (hk _) (fun _ _ r=>r.add hb hk) fun c v hc x=>⟨let ⟨o,ho,_⟩:=x;fresh_ne hb c o hc ho,x.keeps hk⟩
theorem FI.updL (F:FI prog w fns src M env s ρ) (hC:∀ a∈Cs,a∈M) (hL:env.locals∉Cs) (hk:∀ a o,a∉Cs→s.heap.get? a=some o→s'.heap.get? a=some o):FI prog w fns src M env s' ρ:=
 F.move (hk _ · hL) (fun _ _ r=>r.kept (keptL hC hk)) fun c v hc x=>⟨hc,(keptL hC hk).cell x hc⟩
theorem FI.upd (F:FI prog w fns src M env s ρ) (hb:b∈M) (hL:env.locals≠b) (hk:∀ a o,a≠b→s.heap.get? a=some o→s'.heap.get? a=some o):FI prog w fns src M env s' ρ:=
 F.updL (all_one hb) (one_ne hL) fun a o q=>hk a o (ne_one q)
theorem FI.less (F:FI prog w fns src M env s ρ) (hM:∀ a,a∈M'→a∈M):FI prog w fns src M' env s ρ:=
 F.move (fun _ e=>e) (fun _ _ r=>r.weak fun a q e=>q (hM a e)) fun c v hc x=>⟨fun m=>hc (hM c m),x⟩
theorem ns_at {h:Heap}{a:Addr}{m:Str→Option Value}(x:h.Ns a m):∃ o,h.get? a=some o:=let ⟨o,_,_,ho,_⟩:=x;⟨o,ho⟩
theorem list_at {h:Heap}{a:Addr}{vs:Array Value}(x:h.IsList a vs):∃ o,h.get? a=some o:=let ⟨o,ho,_⟩:=x;⟨o,ho⟩
theorem plain_at {h:Heap}{a:Addr}{vs:Array Value}(x:h.PlainList a vs):∃ o,h.get? a=some o:=let ⟨_,ho⟩:=x;⟨_,ho⟩
theorem none_at {P:Prop}{h:Heap}{a:Addr}(e:h.get? a=none) (x:∃ o,h.get? a=some o):P:=let ⟨_,e2⟩:=x;nosome e e2
theorem FI.Lat (F:FI prog w fns src M env s ρ):∃ o,s.heap.get? env.locals=some o:=let ⟨_,hn,_⟩:=F.ns;ns_at hn
theorem FI.Lne (F:FI prog w fns src M env s ρ) (e:s.heap.get? b=none):env.locals≠b:=fun q=>none_at e (q▸F.Lat)
theorem Step.upd {s₁ s₂:Shared}(st:Step src s s₁) (hC:∀ a∈Cs,s.heap.get? a=none) (hg:s₂.gens=s₁.gens) (ho:s₂.os=s₁.os)
  (hk:∀ a o,a∉Cs→s₁.heap.get? a=some o→s₂.heap.get? a=some o):Step src s s₂:=
 ⟨hg.trans st.gens,ho.trans st.os,fun a o q1 q2 e=>hk a o (fun q=>nosome (hC a q) e) (st.keep a o q1 q2 e)⟩
theorem Step.upd1 {s₁ s₂:Shared}(st:Step src s s₁) (hC:s.heap.get? b=none) (hg:s₂.gens=s₁.gens) (ho:s₂.os=s₁.os)
  (hk:∀ a o,a≠b→s₁.heap.get? a=some o→s₂.heap.get? a=some o):Step src s s₂:=st.upd (all_one hC) hg ho fun a o q=>hk a o (ne_one q)
end
section
variable (prog:Program) (w:World) (fns:List Nat) (h₀:Heap) (k:Nat)
noncomputable def SndE (sc:Scope) (pe:Expr) (e:Ex):Prop:=
 ∀ (src:Option Addr) (M:List Addr) (env:PySem.Env) (A:Around) (s:Shared) (ρ:Env) (π:Pi) (Q:D→Pi→Prop),env.scope=sc→Good A k→WI h₀ src M s π→FI prog w fns src M env s ρ→
  wE e (Ret FN k) ρ π Q→wpAny (model prog w) A (eval pe env) (Post prog w fns h₀ src M s Q) (fun _ _=>False) s
noncomputable def SndT (sc:Scope) (pe:Expr) (e:Ex):Prop:=
 ∀ (src:Option Addr) (M:List Addr) (env:PySem.Env) (A:Around) (s:Shared) (ρ:Env) (π:Pi) (Q:Bool→Pi→Prop),env.scope=sc→Good A k→WI h₀ src M s π→FI prog w fns src M env s ρ→
  wE e (Ret FN k) ρ π (fun d π=>onB (truth d) fun t=>Q t π)→
  wpAny (model prog w) A (isTrue pe env (eval pe env)) (fun b s'=>∃ π',Q b π'∧Step src s s'∧WI h₀ src M s' π') (fun _ _=>False) s
end
section
variable {prog:Program}{w:World}{fns:List Nat}{h₀:Heap}{k:Nat}{K:Frag}{mg mb:Str→Option Value}(G:Gd prog w fns K mg mb h₀)
variable {sc:Scope}
theorem snd_const {c:Const} {n pos}{c':Cst}(hc:compC c=some c'):SndE prog w fns h₀ k sc (.Constant c n pos) (.cst c'):=by
 intro src M env A s ρ π Q hsc hA W F h
 have h:Q c'.d π:=h
 cases c with
 | none=>cases hc;exact Constant_none ⟨_,_,h,.none,Step.refl _,W⟩
 | bool b=>cases hc;exact Constant_bool ⟨_,_,h,.bool _,Step.refl _,W⟩
 | int i=>cases hc;exact wpAny_Constant_int ⟨_,_,h,.int _ _,Step.toks _ _,W.toks _⟩
 | str x=>
  obtain ⟨hl,hc⟩:=gdI hc
  cases hc
  exact Constant_str ⟨_,_,h,⟨s.toks,Nat.le_trans (Nat.le_of_ble_eq_true hl) (by decide),by rw [T.s]⟩,Step.toks _ _,W.toks _⟩
 | _=>cases hc
theorem post_same {src:Option Addr}{M:List Addr}{s:Shared}{π:Pi}{Q:D→Pi→Prop}{v:Value}{d:D}(W:WI h₀ src M s π) (h:Q d π) (r:Rep prog w fns src M s.heap v d):Post prog w fns h₀ src M s Q v s:=⟨d,π,h,r,Step.refl _,W⟩
include G in
theorem snd_name {x:Str} {pos}{e:Ex}(hc:compN sc x=some e):SndE prog w fns h₀ k sc (.Name x pos) e:=by
 intro src M env A s ρ π Q hsc hA W F h
 obtain ⟨hdb,hc⟩:=gdI hc
 obtain ⟨hdb,hdc⟩:=bor (bnot hdb)
 obtain ⟨i,hi,hc⟩:=bindI hc
 obtain ⟨kd,hk,hc⟩:=bindI hc
 have hkk:env.kindOf x=some kd:=(congrArg (fun sc:Scope=>sc.names.lookup x) hsc).trans hk
 cases kd with
 | «local»=>
  cases hc
  obtain ⟨d,hd,h⟩:=onD_inv h
  obtain ⟨m,hn,hv⟩:=F.ns
  obtain ⟨v,h1,h2⟩:=hv x i d hi hd
  exact wpAny_Name (wpAny_loadName_local F.kind hkk hn h1 (post_same W h h2)) hdb
 | cell=>
  cases hc
  obtain ⟨d,hd,h⟩:=onD_inv h
  obtain ⟨c,hc⟩:=F.cd x (.inl hkk)
  obtain ⟨hm,v,h1,h2⟩:=F.cl x i d hi hd c hc
  exact wpAny_Name (wpAny_loadName_cell F.kind hkk hc h1 (post_same W h h2)) hdb
 | free=>
  cases hc
  obtain ⟨d,hd,h⟩:=onD_inv h
  obtain ⟨c,hc⟩:=F.cd x (.inr hkk)
  obtain ⟨hm,v,h1,h2⟩:=F.cl x i d hi hd c hc
  exact wpAny_Name (wpAny_loadName_free F.kind hkk hc h1 (post_same W h h2) hdc) hdb
 | globalImplicit=>
  cases hc
  obtain ⟨d,hd,h⟩:=onD_inv h
  obtain ⟨y,v,hy,hv,hr⟩:=G.glOk i d hd
  cases encS_inj hi hy
  exact Name_function_global F.kind hkk (loadGlobal_global (env:=env) (F.glob▸G.g.keeps W.base) (mg_of G.X G.g hv) (post_same W h (hr src M _ (fun a ha=>(W.fresh a ha).1) W.base))) hdb
 | _=>cases hc
end
end
section
variable {prog:Program}{w:World}{fns:List Nat}{h₀:Heap}{src:Option Addr}{M:List Addr}{k:Nat}{A:Around}{s:Shared}{π:Pi}
theorem IsTup.tuple {h:Heap} {a vs}(x:IsTup h a vs):h.IsTuple a vs:=x
theorem sizeLine_big:strBound≤sizeLine:=by show 4000000≤2 ^ 24;decide
theorem Good.cl (g:Good A k):A.units < cLine:=Nat.lt_of_lt_of_le (Nat.lt_of_le_of_lt (Nat.le_add_right _ _) g.units) (show 9700≤9900 by decide)
theorem len_s (x:T):(T.s x).length=x.length:=by simp [T.s,Str.length]
theorem toList_s (x:T):(T.s x).cps.toList=x:=by simp [T.s]
theorem s_eq (x y:T):(T.s x==T.s y)=eqT x y:=by
 rw [Bool.eq_iff_iff,beq_iff_eq,eqT_iff]
 exact ⟨fun e=>(toList_s x).symm.trans ((congrArg (fun z:Str=>z.cps.toList) e).trans (toList_s y)),fun e=>congrArg T.s e⟩
theorem beq_i (i j:Int):(i==j)=decide (i=j):=by rw [Bool.eq_iff_iff];simp
theorem beq_t (i j:T):(i==j)=eqT i j:=by rw [Bool.eq_iff_iff];simp [eqT]
theorem truthy_snd {v:Value}{d:D}{b:Bool}{Q:Bool→Shared→Prop} {E}(hr:Rep prog w fns src M s.heap v d) (ht:truth d=some b)
  (h:∀ tk,Q b {s with toks:=tk}):wpAny (model prog w) A (truthy v) Q E s:=by
 cases d with
 | none=>rw [hr.none_inv];cases ht;exact truthy_none (h s.toks)
 | bool c=>rw [hr.bool_inv];cases ht;exact wpAny_truthy_bool (h s.toks)
 | str x=>
  obtain ⟨t,hx,rfl⟩:=hr.str_inv
  cases ht
  refine P.truthy_str (by rw [len_s];lia) ?_
  have e:(((T.s x).length:Int) != 0)=!x.isEmpty:=by
   rw [len_s]
   cases x with
   | nil=>rfl
   | cons c x=>rfl
  rw [e];exact h _
 | _=>cases ht
theorem isStrD_inv {d:D}(h:isStrD d=true):d=.str (strOf d):=by cases d <;> first | rfl | cases h
theorem strsAre_of {h:Heap}{vs:List Value}{ds:List D}(r:RepL prog w fns src M h vs ds) (e:ds.all isStrD=true):StrsAre vs (ds.map fun d=>T.s (strOf d)):=by
 induction ds generalizing vs with
 | nil=>rw [r.nil_inv];exact .nil
 | cons d ds ih=>
  obtain ⟨v,us,rfl,hv,hr⟩:=r.cons_inv
  obtain ⟨e1,e2⟩:=band e
  rw [isStrD_inv e1] at hv
  obtain ⟨t,_,rfl⟩:=hv.str_inv
  exact .cons _ _ (ih hr e2)
theorem pbool {Q:D→Pi→Prop}{b:Bool}{t:Tok}(W:WI h₀ src M s π) (h:Q (.bool b) π):Post prog w fns h₀ src M s Q (.bool b) {s with toks:=t}:=
 ⟨_,π,h,.bool b,Step.toks _ _,W.toks _⟩
theorem pbool' {Q:D→Pi→Prop}{b:Bool}(W:WI h₀ src M s π) (h:Q (.bool b) π):Post prog w fns h₀ src M s Q (.bool b) s:=
 ⟨_,π,h,.bool b,Step.refl _,W⟩
theorem pint {Q:D→Pi→Prop}{i:Int}{t u:Tok}(W:WI h₀ src M s π) (h:Q (.int i) π):Post prog w fns h₀ src M s Q (.int i u) {s with toks:=t}:=
 ⟨_,π,h,.int i u,Step.toks _ _,W.toks _⟩
theorem pstr {Q:D→Pi→Prop}{x:T}{t u:Tok}(W:WI h₀ src M s π) (h:Q (.str x) π) (hx:x.length≤16777216):Post prog w fns h₀ src M s Q (.str (T.s x) u) {s with toks:=t}:=
 ⟨_,π,h,.str x u hx,Step.toks _ _,W.toks _⟩
inductive EqC:D→D→Bool→Prop
 | str (a b:T):EqC (.str a) (.str b) (eqT a b)
 | int (i j:Int):EqC (.int i) (.int j) (decide (i=j))
 | tup (l:List D):EqC (.tup l) (.tup []) l.isEmpty
 | lst (l:List D):EqC (.lst l) (.lst []) l.isEmpty
theorem nilO_inv {b c:Bool}{m:List D}(h:nilO b m=some c):m=[]∧b=c:=by
 cases m with
 | nil=>exact ⟨rfl,Option.some.inj h⟩
 | cons _ _=>cases h
theorem eqD_inv {d e:D}{c:Bool}(h:eqD d e=some c):EqC d e c:=by
 cases d with
 | str x=>obtain ⟨y,h1,rfl⟩:=mapI h;rw [asS_inv h1];exact .str _ _
 | int i=>obtain ⟨j,h1,rfl⟩:=mapI h;rw [asI_inv h1];exact .int _ _
 | tup l=>obtain ⟨m,h1,h2⟩:=bindI h;obtain ⟨rfl,rfl⟩:=nilO_inv h2;rw [asT_inv h1];exact .tup _
 | lst l=>obtain ⟨m,h1,h2⟩:=bindI h;obtain ⟨rfl,rfl⟩:=nilO_inv h2;rw [asL_inv h1];exact .lst _
 | _=>cases h
theorem size_nil {vs:Array Value}(r:RepL prog w fns src M s.heap vs.toList []):vs.size=0:=by
 rw [←Array.length_toList,r.nil_inv];rfl
theorem size_of {vs:Array Value}{ds:List D}(r:RepL prog w fns src M s.heap vs.toList ds):vs.size=ds.length:=by
 rw [←Array.length_toList,r.length]
inductive InC:D→D→Bool→Prop
 | tup (t:T) (l:List D) (h:l.all isStrD=true):InC (.str t) (.tup l) (l.any fun d=>eqT (strOf d) t)
 | lst (t:T) (l:List D) (h:l.all isStrD=true):InC (.str t) (.lst l) (l.any fun d=>eqT (strOf d) t)
theorem inL_inv {t:T}{l:List D}{c:Bool}(h:inL t l=some c):l.all isStrD=true∧(l.any fun d=>eqT (strOf d) t)=c:=by
 unfold inL at h
 by_cases ha:l.all isStrD=true
 ·rw [if_pos ha] at h;exact ⟨ha,Option.some.inj h⟩
 ·rw [if_neg ha] at h;cases h
theorem inD_inv {d e:D}{c:Bool}(h:inD d e=some c):InC d e c:=by
 obtain ⟨t,h1,h⟩:=bindI h
 rw [asS_inv h1]
 cases e with
 | tup l=>obtain ⟨h2,rfl⟩:=inL_inv h;exact .tup _ _ h2
 | lst l=>obtain ⟨h2,rfl⟩:=inL_inv h;exact .lst _ _ h2
 | _=>cases h
theorem all_size (ds:List D){n m:Nat}(hn:n=ds.length) (hm:m=0):((List.range (min n m)).all (fun _=>true)&&n==m)=ds.isEmpty:=by
 rw [hm,hn,Nat.min_zero]
 cases ds <;> rfl
theorem min_absurd {P:Prop}{m j:Nat}(hm:m=0) (h:j < m):P:=absurd (hm▸h) (Nat.not_lt_zero j)
theorem eq_snd {a b:Value}{d e:D}{c:Bool}{Q:Value→Shared→Prop} {E}(g:Good A k) (ra:Rep prog w fns src M s.heap a d) (rb:Rep prog w fns src M s.heap b e) (he:EqC d e c)
  (h:Q (.bool c) s):wpAny (model prog w) A (compareOp .Eq a b) Q E s:=by
 cases he with
 | int i j=>
  obtain ⟨t,rfl⟩:=ra.int_inv
  obtain ⟨u,rfl⟩:=rb.int_inv
  exact P.eq_int ((beq_i i j).symm▸h)
 | str x y=>
  obtain ⟨t,hx,rfl⟩:=ra.str_inv
  obtain ⟨u,hy,rfl⟩:=rb.str_inv
  refine P.eq_str ?_
  rw [toList_s,toList_s,beq_t];exact h
 | tup ds1=>
  obtain ⟨a1,vs1,rfl,h1,m1,r1⟩:=ra.tup_inv
  obtain ⟨a2,vs2,rfl,h2,m2,r2⟩:=rb.tup_inv
  refine eq_tupleAt (e:=fun _=>true) (IsTup.tuple h1) (IsTup.tuple h2) g.cl (fun j _ h2=>min_absurd (size_nil r2) h2) ?_
  rw [all_size ds1 (size_of r1) (size_nil r2)];exact h
 | lst ds1=>
  obtain ⟨a1,vs1,rfl,h1,m1,r1⟩:=ra.lst_inv
  obtain ⟨a2,vs2,rfl,h2,m2,r2⟩:=rb.lst_inv
  have el:=size_of r1
  cases ds1 with
  | nil=>
   refine eq_listAt (e:=fun _=>true) h1 h2 (el.trans (size_nil r2).symm) g.cl (fun j _ h2=>min_absurd (size_nil r2) h2) ?_
   rw [el];exact h
  | cons _ _=>exact eq_list_lengthsAt h1 h2 (by rw [el,size_nil r2];rfl) g.cl h
theorem ne_snd {a b:Value}{d e:D}{c:Bool}{Q:Value→Shared→Prop} {E}(g:Good A k) (ra:Rep prog w fns src M s.heap a d) (rb:Rep prog w fns src M s.heap b e) (he:EqC d e c)
  (h:Q (.bool (!c)) s):wpAny (model prog w) A (compareOp .NotEq a b) Q E s:=by
 cases he with
 | int i j=>
  obtain ⟨t,rfl⟩:=ra.int_inv
  obtain ⟨u,rfl⟩:=rb.int_inv
  exact P.ne_int (show Q (.bool (!(i==j))) s from (beq_i i j).symm▸h)
 | str x y=>
  obtain ⟨t,hx,rfl⟩:=ra.str_inv
  obtain ⟨u,hy,rfl⟩:=rb.str_inv
  refine P.ne_str ?_
  rw [toList_s,toList_s]
  show Q (.bool (!(x==y))) s
  rw [beq_t];exact h
 | tup ds1=>
  obtain ⟨a1,vs1,rfl,h1,m1,r1⟩:=ra.tup_inv
  obtain ⟨a2,vs2,rfl,h2,m2,r2⟩:=rb.tup_inv
  refine (RcNeAt.tuples (e:=fun _=>true) (IsTup.tuple h1) (IsTup.tuple h2) g.cl (fun j _ h2=>min_absurd (size_nil r2) h2)) prog w _ _ ?_
  rw [all_size ds1 (size_of r1) (size_nil r2)];exact h
 | lst ds1=>
  obtain ⟨a1,vs1,rfl,h1,m1,r1⟩:=ra.lst_inv
  obtain ⟨a2,vs2,rfl,h2,m2,r2⟩:=rb.lst_inv
  have el:=size_of r1
  cases ds1 with
  | nil=>
   refine (RcNeAt.lists (e:=fun _=>true) h1 h2 (el.trans (size_nil r2).symm) g.cl (fun j _ h2=>min_absurd (size_nil r2) h2)) prog w _ _ ?_
   rw [el];exact h
  | cons _ _=>exact (RcNeAt.lists_lengths h1 h2 (by rw [el,size_nil r2];rfl) g.cl) prog w _ _ h
theorem is_snd {a b:Value}{d e:D}{c:Bool}(ra:Rep prog w fns src M s.heap a d) (rb:Rep prog w fns src M s.heap b e) (he:isD d e=some c):plainIs a b=true∧(a==b)=c:=by
 cases e with
 | none=>
  rw [rb.none_inv]
  cases d with
  | none=>cases he;rw [ra.none_inv];exact ⟨rfl,rfl⟩
  | bool x=>cases he;rw [ra.bool_inv];exact ⟨rfl,rfl⟩
  | int i=>cases he;obtain ⟨t,rfl⟩:=ra.int_inv;exact ⟨rfl,rfl⟩
  | str x=>cases he;obtain ⟨t,hx,rfl⟩:=ra.str_inv;exact ⟨rfl,rfl⟩
  | tup l=>cases he;obtain ⟨a1,vs1,rfl,h1,m1,r1⟩:=ra;exact ⟨rfl,rfl⟩
  | lst l=>cases he;obtain ⟨a1,vs1,rfl,h1,m1,r1⟩:=ra;exact ⟨rfl,rfl⟩
  | _=>cases he
 | bool y=>
  rw [rb.bool_inv]
  cases d with
  | none=>cases he;rw [ra.none_inv];exact ⟨rfl,rfl⟩
  | bool x=>cases he;rw [ra.bool_inv];exact ⟨rfl,by cases x <;> cases y <;> rfl⟩
  | str x=>cases he;obtain ⟨t,hx,rfl⟩:=ra.str_inv;exact ⟨rfl,rfl⟩
  | _=>cases he
 | _=>cases he
theorem any_s (t:T):∀ l:List D,(l.map fun d=>T.s (strOf d)).any (·==T.s t)=l.any fun d=>eqT (strOf d) t
 | []=>rfl
 | d::l=>by simp only [List.map_cons,List.any_cons,any_s t l,s_eq]
theorem in_snd {a b:Value}{d e:D}{c:Bool}{Q:Value→Shared→Prop} {E}(ra:Rep prog w fns src M s.heap a d) (rb:Rep prog w fns src M s.heap b e) (he:InC d e c)
  (h:Q (.bool c) s):wpAny (model prog w) A (compareOp .In a b) Q E s:=by
 cases he with
 | tup t l hs=>
  obtain ⟨u,hx,rfl⟩:=ra.str_inv
  obtain ⟨a2,vs2,rfl,h2,m2,r2⟩:=rb.tup_inv
  exact in_tuple_strs h2 (strsAre_of r2 hs) ((any_s t l).symm▸h)
 | lst t l hs=>
  obtain ⟨u,hx,rfl⟩:=ra.str_inv
  obtain ⟨a2,vs2,rfl,h2,m2,r2⟩:=rb.lst_inv
  exact in_list_strs (vs:=vs2.toList) (vs2.toArray_toList.symm▸h2) (strsAre_of r2 hs) ((any_s t l).symm▸h)
theorem notin_snd {a b:Value}{d e:D}{c:Bool}{Q:Value→Shared→Prop} {E}(ra:Rep prog w fns src M s.heap a d) (rb:Rep prog w fns src M s.heap b e) (he:InC d e c)
  (h:Q (.bool (!c)) s):wpAny (model prog w) A (compareOp .NotIn a b) Q E s:=by
 cases he with
 | tup t l hs=>
  obtain ⟨u,hx,rfl⟩:=ra.str_inv
  obtain ⟨a2,vs2,rfl,h2,m2,r2⟩:=rb.tup_inv
  exact notin_tuple_strs h2 (strsAre_of r2 hs) ((any_s t l).symm▸h)
 | lst t l hs=>
  obtain ⟨u,hx,rfl⟩:=ra.str_inv
  obtain ⟨a2,vs2,rfl,h2,m2,r2⟩:=rb.lst_inv
  exact notin_list_strs (vs:=vs2.toList) (vs2.toArray_toList.symm▸h2) (strsAre_of r2 hs) ((any_s t l).symm▸h)
theorem onB_inv {o:Option Bool}{k:Bool→Prop}(h:onB o k):∃ d,o=some d∧k d:=by
 cases o with
 | none=>exact h.elim
 | some d=>exact ⟨d,rfl,h⟩
theorem ints_inv {d e:D}{Q:Int→Int→Prop}{a b:Value}(ra:Rep prog w fns src M s.heap a d) (rb:Rep prog w fns src M s.heap b e) (h:onD (asI d) fun i=>onD (asI e) fun j=>Q i j):∃ i j t u,a=.int i t∧b=.int j u∧Q i j:=by
 obtain ⟨i,rfl,h1⟩:=onI_inv h
 obtain ⟨j,rfl,h2⟩:=onI_inv h1
 obtain ⟨t,e1⟩:=ra.int_inv
 obtain ⟨u,e2⟩:=rb.int_inv
 exact ⟨i,j,t,u,e1,e2,h2⟩
theorem cmp_snd {op:CmpOp}{a b:Value}{d e:D}{Q:D→Pi→Prop}(g:Good A k) (W:WI h₀ src M s π) (ra:Rep prog w fns src M s.heap a d) (rb:Rep prog w fns src M s.heap b e)
  (h:cmpW op d e fun r=>Q r π):wpAny (model prog w) A (compareOp op a b) (Post prog w fns h₀ src M s Q) (fun _ _=>False) s:=by
 cases op with
 | Eq=>obtain ⟨c,he,h⟩:=onB_inv h;exact eq_snd g ra rb (eqD_inv he) (pbool' W h)
 | NotEq=>obtain ⟨c,he,h⟩:=onB_inv h;exact ne_snd g ra rb (eqD_inv he) (pbool' W h)
 | Is=>obtain ⟨c,he,h⟩:=onB_inv h;obtain ⟨h1,rfl⟩:=is_snd ra rb he;exact wpAny_is_plain h1 (pbool' W h)
 | IsNot=>obtain ⟨c,he,h⟩:=onB_inv h;obtain ⟨h1,rfl⟩:=is_snd ra rb he;exact wpAny_isNot_plain h1 (pbool' W h)
 | In=>obtain ⟨c,he,h⟩:=onB_inv h;exact in_snd ra rb (inD_inv he) (pbool' W h)
 | NotIn=>obtain ⟨c,he,h⟩:=onB_inv h;exact notin_snd ra rb (inD_inv he) (pbool' W h)
 | Lt=>obtain ⟨i,j,t,u,rfl,rfl,h⟩:=ints_inv ra rb h;exact P.lt_int (pbool' W h)
 | Gt=>obtain ⟨i,j,t,u,rfl,rfl,h⟩:=ints_inv ra rb h;exact P.gt_int (pbool' W h)
 | GtE=>obtain ⟨i,j,t,u,rfl,rfl,h⟩:=ints_inv ra rb h;exact P.ge_int (pbool' W h)
 | LtE=>exact h.elim
theorem intBits_small {x:Int}(h1:-4294967296≤x) (h2:x≤4294967296):Builtin.Int.intBits x≤64:=by
 unfold Builtin.Int.intBits
 split
 ·lia
 ·rename_i hz
  have hn:x.natAbs≠0:=by
   intro e
   simp only [Int.natAbs_eq_zero] at e
   simp [e] at hz
  have:x.natAbs.log2 < 33:=(Nat.log2_lt hn).mpr (by lia)
  lia
theorem digits_small {y:Int}(h1:0 < y) (h2:y≤4294967296) (x:Int):Builtin.divisionGoesByPylong x y=false:=by
 unfold Builtin.divisionGoesByPylong
 have hn:y.natAbs≠0:=by lia
 have:y.natAbs.log2 < 33:=(Nat.log2_lt hn).mpr (by lia)
 have e:(y==0)=false:=by simp;lia
 simp only [e,Bool.false_eq_true,if_false]
 rw [Bool.and_eq_false_iff]
 left
 simp only [decide_eq_false_iff_not]
 lia
theorem repL_len {α:Type}(l:List α) (n:Nat):(repL l n).length=n*l.length:=by
 induction n with
 | zero=>simp [repL]
 | succ n ih=>simp [repL,ih,Nat.succ_mul,Nat.add_comm]
theorem foldl_rep (x:T):∀ (n:Nat) (acc:Array Nat),((List.replicate n x.toArray).foldl (·++·) acc)=(acc.toList++repL x n).toArray
 | 0,acc=>by simp [repL]
 | n+1,acc=>by
  rw [List.replicate_succ,List.foldl_cons,foldl_rep x n]
  simp [repL]
theorem mul_s (x:T) (n:Int) (h:0≤n):Txt.mul (T.s x) n=T.s (repL x n.toNat):=by
 unfold Txt.mul
 split
 ·have:n.toNat=0:=by lia
  rw [this];rfl
 ·split
  ·rename_i h1 h2
   simp only [Bool.or_eq_true,beq_iff_eq] at h2
   rcases h2 with h2 | h2
   ·have:n.toNat=1:=by lia
    rw [this];simp [repL]
   ·have:x=[]:=by
     rw [len_s] at h2
     exact List.length_eq_zero_iff.mp h2
    subst this
    have e:∀ m,repL ([]:T) m=[]:=fun m=>by induction m with
     | zero=>rfl
     | succ m ih=>simp [repL,ih]
    rw [e]
  ·have:=foldl_rep x n.toNat #[]
   show Str.mk _=_
   simp only [T.s]
   rw [this];simp
theorem add_raw {l b:Addr}{items items2:Array Value}{Q:Value→Shared→Prop} {E}(hl:s.heap.IsList l items) (hb:s.heap.IsList b items2)
  (h:Q (.ref s.heap.objs.size) {s with heap:=s.heap.push {cls:=.type "list",data:=.seq (items++items2)}}) (hsz:items.size+items2.size≤sizeLine):
  wpAny (model prog w) A (binaryOp .Add (.ref l) (.ref b)) Q E s:=by
 obtain ⟨⟨cls,dd,data,sl⟩,ho,hc,n,hd⟩:=id hl
 obtain ⟨⟨cls2,dd2,data2,sl2⟩,ho2,hc2,n2,hd2⟩:=id hb
 simp only at hc hd hc2 hd2
 subst hc hd hc2 hd2
 exact concat_meets ⟨_,ho,rfl⟩ ⟨_,ho2,rfl⟩ noFill_list_add seq_list_add PySem.F.slot_list_add PySem.F.entry_list_add (PySem.F.args_list_add_2 _ _) (list_addW l b items items2 n n2 dd dd2 sl sl2 (by simpa using hsz)) ⟨ho,ho2,h⟩
theorem size_push' (o:Obj):s.heap.objs.size≤(s.heap.push o).objs.size:=by rw [Heap.size_push];lia
theorem WI.new (W:WI h₀ src M s π) (hm:s.heap.objs.size∈M):False:=
 let ⟨_,e⟩:=(W.fresh _ hm).2
 Nat.lt_irrefl _ (Heap.lt_size e)
theorem newlist {Q:D→Pi→Prop}{items:Array Value}{ds:List D}{n:Nat}(W:WI h₀ src M s π) (hr:RepL prog w fns src M s.heap items.toList ds) (h:Q (.lst ds) π):
  Post prog w fns h₀ src M s Q (.ref s.heap.objs.size) {s with heap:=s.heap.push {cls:=.type "list",data:=.seq items n}}:=by
 have hk:∀ a o,s.heap.get? a=some o→(s.heap.push {cls:=.type "list",data:=.seq items n}).get? a=some o:=fun a o e=>Heap.get?_push_of_some _ e
 refine ⟨_,π,h,.lst ⟨_,Heap.get?_push_size _ rfl,rfl,_,rfl⟩ (fun hm=>?_) (hr.kept fun a o _ _ e=>hk a o e),⟨rfl,rfl,fun a o _ _ e=>hk a o e⟩,W.grow hk⟩
 exact W.new hm
theorem newtup {Q:D→Pi→Prop}{items:Array Value}{ds:List D}{n:Nat}(W:WI h₀ src M s π) (hr:RepL prog w fns src M s.heap items.toList ds) (h:Q (.tup ds) π):
  Post prog w fns h₀ src M s Q (.ref s.heap.objs.size) {s with heap:=s.heap.push {cls:=.type "tuple",data:=.seq items n}}:=by
 have hk:∀ a o,s.heap.get? a=some o→(s.heap.push {cls:=.type "tuple",data:=.seq items n}).get? a=some o:=fun a o e=>Heap.get?_push_of_some _ e
 refine ⟨_,π,h,.tup ⟨_,Heap.get?_push_size _ rfl,rfl,_,rfl⟩ (fun hm=>?_) (hr.kept fun a o _ _ e=>hk a o e),⟨rfl,rfl,fun a o _ _ e=>hk a o e⟩,W.grow hk⟩
 exact W.new hm
theorem add_snd {a b:Value}{d e:D}{Q:D→Pi→Prop}(W:WI h₀ src M s π) (ra:Rep prog w fns src M s.heap a d) (rb:Rep prog w fns src M s.heap b e)
  (h:binW .Add d e fun r=>Q r π):wpAny (model prog w) A (binaryOp .Add a b) (Post prog w fns h₀ src M s Q) (fun _ _=>False) s:=by
 cases d with
 | str x=>
  obtain ⟨y,ey,h1⟩:=onS_inv h;subst ey;replace h:=h1
  obtain ⟨t,hx,rfl⟩:=ra.str_inv
  obtain ⟨u,hy,rfl⟩:=rb.str_inv
  refine SB.add (fun t' k'=>?_) (by rw [len_s,len_s,←List.length_append];exact Nat.le_trans h.1 sizeLine_big)
  have e:T.s x++T.s y=T.s (x++y):=congrArg Str.mk (List.append_toArray x y)
  rw [e]
  exact pstr W h.2 (Nat.le_trans h.1 (by decide))
 | int x=>
  obtain ⟨y,ey,h1⟩:=onI_inv h;subst ey;replace h:=h1
  obtain ⟨t,rfl⟩:=ra.int_inv
  obtain ⟨u,rfl⟩:=rb.int_inv
  exact P.add_int (pint W h)
 | lst x=>
  obtain ⟨y,ey,h1⟩:=onL_inv h;subst ey;replace h:=h1
  obtain ⟨h,hq⟩:=chkL_iff.mp h
  obtain ⟨a1,vs1,rfl,h1,m1,r1⟩:=ra.lst_inv
  obtain ⟨a2,vs2,rfl,h2,m2,r2⟩:=rb.lst_inv
  refine add_raw h1 h2 (newlist W (by rw [Array.toList_append];exact r1.append r2) hq) ?_
  rw [size_of r1,size_of r2,←List.length_append]
  exact Nat.le_trans h sizeLine_big
 | _=>exact h.elim
theorem mul_snd {a b:Value}{d e:D}{Q:D→Pi→Prop}(W:WI h₀ src M s π) (ra:Rep prog w fns src M s.heap a d) (rb:Rep prog w fns src M s.heap b e)
  (h:binW .Mult d e fun r=>Q r π):wpAny (model prog w) A (binaryOp .Mult a b) (Post prog w fns h₀ src M s Q) (fun _ _=>False) s:=by
 cases d with
 | int x=>
  obtain ⟨y,ey,h1⟩:=onI_inv h;subst ey;replace h:=h1
  obtain ⟨t,rfl⟩:=ra.int_inv
  obtain ⟨u,rfl⟩:=rb.int_inv
  exact P.mul_int (pint W h.2) (IntMulOk.of_left (intBits_small h.1.1 h.1.2))
 | str x=>
  obtain ⟨n,en,h1⟩:=onI_inv h;subst en;replace h:=h1
  obtain ⟨t,hx,rfl⟩:=ra.str_inv
  obtain ⟨u,rfl⟩:=rb.int_inv
  obtain ⟨⟨h0,h1,h2⟩,hq⟩:=h
  refine SB.mul ⟨by simp;lia,fun h3 h4=>?_,fun h3 h4=>?_⟩ (fun t' k'=>?_)
  ·rw [len_s]
   intro hgt
   have:(2 ^ 63 - 1:Int) / n ≥ 4:=by
    rw [ge_iff_le,Int.le_ediv_iff_mul_le (by lia)]
    lia
   lia
  ·rw [len_s]
   have:x.length*n.toNat≤4*4000000:=Nat.mul_le_mul h2 (by lia)
   unfold Builtin.Str.tooLong sizeLine
   exact decide_eq_false (Nat.not_lt.mpr (Nat.le_trans this (by decide)))
  ·rw [mul_s _ _ h0]
   refine pstr W hq ?_
   rw [repL_len]
   exact Nat.le_trans (Nat.mul_le_mul (Int.toNat_le.mpr h1) h2) (by decide)
 | _=>exact h.elim
theorem bin_snd {op:Operator}{a b:Value}{d e:D}{Q:D→Pi→Prop}(g:Good A k) (W:WI h₀ src M s π) (ra:Rep prog w fns src M s.heap a d) (rb:Rep prog w fns src M s.heap b e)
  (h:binW op d e fun r=>Q r π):wpAny (model prog w) A (binaryOp op a b) (Post prog w fns h₀ src M s Q) (fun _ _=>False) s:=by
 cases op with
 | Add=>exact add_snd W ra rb h
 | Sub=>obtain ⟨i,j,t,u,rfl,rfl,h⟩:=ints_inv ra rb h;exact P.sub_int (pint W h)
 | Mult=>exact mul_snd W ra rb h
 | FloorDiv=>
  obtain ⟨x,y,t,u,rfl,rfl,h⟩:=ints_inv ra rb h
  refine AutoIntOps.floordiv_1 (fun q=>Int.ne_of_gt h.1.1 (eq_of_beq q)) (by rw [digits_small h.1.1 h.1.2];exact Bool.false_ne_true) ?_
  rw [Int.fdiv_eq_ediv_of_nonneg _ (Int.le_of_lt h.1.1)]
  exact pint W h.2
 | Mod=>
  obtain ⟨x,y,t,u,rfl,rfl,h⟩:=ints_inv ra rb h
  refine AutoIntOps.mod_1 (fun q=>Int.ne_of_gt h.1 (eq_of_beq q)) ?_
  rw [Int.fmod_eq_emod_of_nonneg _ (Int.le_of_lt h.1)]
  exact pint W h.2
 | Pow=>
  obtain ⟨x,y,t,u,rfl,rfl,h⟩:=ints_inv ra rb h
  obtain ⟨⟨rfl,rfl⟩,hq⟩:=h
  exact AutoIntOps.pow_4 (by decide) (by decide) (by decide) (by decide) (by decide) (pint W hq)
 | _=>exact h.elim
end
section
variable {prog:Program}{w:World}{fns:List Nat}{h₀:Heap}{src:Option Addr}{M:List Addr}{k:Nat}{A:Around}{s:Shared}{π:Pi}
theorem seqIndex_nn {n:Nat}{i:Int}(h0:0≤i) (h:i.toNat < n):seqIndex? i n=some i.toNat:=by
 unfold seqIndex?
 have e:¬ i < 0:=Int.not_lt.mpr h0
 simp only [e,if_false]
 rw [if_pos (by simp;lia)]
theorem seqIndex_ng {n:Nat}{i:Int}(h0:i < 0) (h:0≤i+n):seqIndex? i n=some (i+n).toNat:=by
 unfold seqIndex?
 simp only [h0,if_true]
 rw [if_pos (by simp;lia)]
theorem get_lt {α:Type}{l:List α}{n:Nat}{d:α}(h:l[n]?=some d):n < l.length:=by
 rcases Nat.lt_or_ge n l.length with h' | h'
 ·exact h'
 ·rw [List.getElem?_eq_none h'] at h;cases h
theorem idxO_inv {l:List D}{i:Int}{d:D}(h:idxO l i=some d):∃ j,seqIndex? i l.length=some j∧l[j]?=some d:=by
 cases i with
 | ofNat n=>exact ⟨n,seqIndex_nn (Int.natCast_nonneg n) (get_lt h),h⟩
 | negSucc n=>
  have h:(match Nat.ble (n+1) l.length with | true=>l[l.length - (n+1)]? | false=>none)=some d:=h
  cases hb:Nat.ble (n+1) l.length with
  | false=>rw [hb] at h;cases h
  | true=>
   rw [hb] at h
   have hb:=Nat.le_of_ble_eq_true hb
   have e:(Int.negSucc n+l.length).toNat=l.length - (n+1):=by lia
   exact ⟨_,seqIndex_ng (Int.negSucc_lt_zero n) (by lia),e▸h⟩
theorem idxO_nn {l:List D}{i:Int}(h:nonneg i=true):idxO l i=l[i.toNat]?:=by
 cases i with
 | ofNat n=>rfl
 | negSucc n=>cases h
theorem strAt_inv {l:T}{i:Int}{d:Nat}(h:strAt l i=some d):∃ j,seqIndex? i l.length=some j∧l[j]?=some d:=by
 unfold strAt at h
 by_cases h0:0≤i
 ·rw [if_pos h0] at h;exact ⟨_,seqIndex_nn h0 (get_lt h),h⟩
 ·rw [if_neg h0] at h
  by_cases h1:0≤i+l.length
  ·rw [if_pos h1] at h;exact ⟨_,seqIndex_ng (Int.not_le.mp h0) h1,h⟩
  ·rw [if_neg h1] at h;cases h
theorem psame {Q:D→Pi→Prop}{v:Value}{d:D}{t:Tok}(W:WI h₀ src M s π) (hr:Rep prog w fns src M s.heap v d) (h:Q d π):Post prog w fns h₀ src M s Q v {s with toks:=t}:=
 ⟨_,π,h,hr,Step.toks _ _,W.toks _⟩
theorem psame' {Q:D→Pi→Prop}{v:Value}{d:D}(W:WI h₀ src M s π) (hr:Rep prog w fns src M s.heap v d) (h:Q d π):Post prog w fns h₀ src M s Q v s:=
 ⟨_,π,h,hr,Step.refl _,W⟩
theorem look_zip {ks:List T}{h:Heap}(t:T):∀ {vs:List Value}{ds:List D},RepL prog w fns src M h vs ds→ks.length=vs.length→
  (∀ d,look ks ds t=some d→∃ v,(ks.zip vs).lookup t=some v∧Rep prog w fns src M h v d)∧(look ks ds t=none→(ks.zip vs).lookup t=none):=by
 induction ks with
 | nil=>exact fun r e=>⟨fun d e=>(nomatch e),fun _=>rfl⟩
 | cons u ks ih=>
  intro vs ds r e
  cases ds with
  | nil=>rw [r.nil_inv] at e;cases e
  | cons d ds=>
  obtain ⟨v,us,rfl,hv,hr⟩:=r.cons_inv
  have ih:=ih hr (Nat.succ.inj e)
  rw [List.zip_cons_cons,List.lookup_cons]
  have e1:look (u::ks) (d::ds) t=if eqT t u then some d else look ks ds t:=rfl
  have e2:(t==u)=eqT t u:=beq_t t u
  rw [e1,e2]
  cases q:eqT t u with
  | true=>exact ⟨fun d' e'=>⟨v,rfl,Option.some.inj e'▸hv⟩,fun e'=>(nomatch e')⟩
  | false=>exact ih
theorem tup_item {l:Addr}{vs:Array Value}{ds:List D}{n:Int}{u:Tok}{Q:D→Pi→Prop}(ht:IsTup s.heap l vs) (hr:RepL prog w fns src M s.heap vs.toList ds) (W:WI h₀ src M s π) (h:idx ds n fun r=>Q r π):
  wpAny (model prog w) A (getItem (.ref l) (.int n u)) (Post prog w fns h₀ src M s Q) (fun _ _=>False) s:=by
 obtain ⟨hb,h⟩:=chk_iff.mp h
 obtain ⟨d,hd,h⟩:=onD_inv h
 obtain ⟨j,h1,h2⟩:=idxO_inv hd
 obtain ⟨v,h3,h4⟩:=hr.get h2
 have hb:=small_iff.mp hb
 exact getItem_tuple ht (by lia) (by lia) (by rw [←Array.length_toList,hr.length];exact h1) (by rw [←Array.getElem?_toList];exact h3) (psame' W h4 h)
theorem lst_item {l:Addr}{vs:Array Value}{ds:List D}{n:Int}{u:Tok}{Q:D→Pi→Prop}(ht:s.heap.IsList l vs) (hr:RepL prog w fns src M s.heap vs.toList ds) (W:WI h₀ src M s π) (h:chk (nonneg n) (idx ds n fun r=>Q r π)):
  wpAny (model prog w) A (getItem (.ref l) (.int n u)) (Post prog w fns h₀ src M s Q) (fun _ _=>False) s:=by
 obtain ⟨h0,h⟩:=chk_iff.mp h
 obtain ⟨hb,h⟩:=chk_iff.mp h
 obtain ⟨d,hd,h⟩:=onD_inv h
 rw [idxO_nn h0] at hd
 have hb:=small_iff.mp hb
 obtain ⟨v,h3,h4⟩:=hr.get hd
 exact wpAny_getItem_list ht (nonneg_iff.mp h0) (by lia) (by rw [←Array.getElem?_toList];exact h3) (psame' W h4 h)
theorem sub_snd {value slice:Expr}{a b:Value}{d e:D}{Q:D→Pi→Prop}(hs:∀ o v,subscripted slice false o v=operate [o,v] (getItem o v)) (W:WI h₀ src M s π)
  (ra:Rep prog w fns src M s.heap a d) (rb:Rep prog w fns src M s.heap b e) (h:subW d e π fun r=>Q r π):
  wpAny (model prog w) A (subscriptTail value slice a b) (Post prog w fns h₀ src M s Q) (fun _ _=>False) s:=by
 cases d with
 | tup l=>
  obtain ⟨n,rfl,h1⟩:=onI_inv h
  obtain ⟨a,vs,rfl,ht,hm,hr⟩:=ra.tup_inv
  obtain ⟨u,rfl⟩:=rb.int_inv
  exact tail_any ht.typeIs slot_tuple_getitem.lookup (tup_item ht hr W h1) (hs _ _)
 | lst l=>
  obtain ⟨n,rfl,h1⟩:=onI_inv h
  obtain ⟨a,vs,rfl,ht,hm,hr⟩:=ra.lst_inv
  obtain ⟨u,rfl⟩:=rb.int_inv
  exact tail_any ht.typeIs slot_list_getitem.lookup (lst_item ht hr W h1) (hs _ _)
 | str t=>
  obtain ⟨n,rfl,hb,h1⟩:=onI_inv h
  obtain ⟨c,hc,h1⟩:=onD_inv h1
  obtain ⟨tk,hx,rfl⟩:=ra.str_inv
  obtain ⟨u,rfl⟩:=rb.int_inv
  obtain ⟨j,h2,h3⟩:=strAt_inv hc
  refine tail_any (typeIs_str s (T.s t) tk) F.slot_str_getitem.lookup (P.getItem_str (c:=c) (by simp;lia) ?_ (pstr (u:=s.toks) W h1 (show 1≤16777216 by decide))) (hs _ _)
  rw [len_s,h2,Option.bind_some,←Array.getElem?_toList,toList_s]
  exact h3
 | dict ks ds=>
  obtain ⟨t,rfl,h1⟩:=onS_inv h
  obtain ⟨d',hd,h1⟩:=onD_inv h1
  obtain ⟨a,vs,f,rfl,ht,hm,hsys,hf,hl,hr⟩:=ra.dict_inv
  obtain ⟨tk,hx,rfl⟩:=rb.str_inv
  obtain ⟨v,h2,h3⟩:=(look_zip t hr hl).1 d' hd
  exact tail_any ht.typeIs slot_dict_getitem.lookup (wpAny_getItem_of (strKind_is prog w (T.s t) tk) ht (v:=v) (by rw [hf,toList_s];exact h2) (psame W h3 h1)) (hs _ _)
 | pool=>
  obtain ⟨n,rfl,h1⟩:=onI_inv h
  obtain ⟨j,hj,h1⟩:=onD_inv h1
  obtain ⟨a,rfl,hp⟩:=ra.pool_inv
  obtain ⟨u,rfl⟩:=rb.int_inv
  obtain ⟨_,_,t1,t2,hl⟩:=W.pool _ hp
  refine tail_any hl.typeIs slot_list_getitem.lookup ?_ (hs _ _)
  rcases n with (_ | _ | n) | n
  ·cases hj;exact wpAny_getItem_list (k:=0) hl (by decide) (by decide) rfl (psame' W (.int _ _) h1)
  ·cases hj;exact wpAny_getItem_list (k:=1) hl (by decide) (by decide) rfl (psame' W (.int _ _) h1)
  ·cases hj
  ·cases hj
 | _=>exact h.elim
theorem slice_ops {lo hi:Option Expr}{p:Pos}(o v:Value):subscripted (.Slice lo hi none p) false o v=operate [v,o] (getItem o v):=rfl
theorem adjust_run (a b n:Nat) (h1:a≤b) (h2:b≤n):Builtin.Slice.sliceAdjust (some (a:Int)) (some (b:Int)) 1 (n:Int)=((a:Int),(b:Int)):=by
 unfold Builtin.Slice.sliceAdjust
 have e1:¬ ((1:Int) < 0):=by lia
 have e2:¬ ((a:Int) < 0):=by lia
 have e3:¬ ((b:Int) < 0):=by lia
 simp only [e1,e2,e3,if_false]
 rw [Prod.mk.injEq]
 lia
theorem places_run (a b:Nat) (h:a≤b):Builtin.Slice.slicePlaces (a:Int) (b:Int) 1=b - a:=by
 unfold Builtin.Slice.slicePlaces
 have h1:(1:Int) > 0:=by lia
 simp only [h1,if_true,Int.ediv_one]
 split <;> lia
theorem sliceApplied_run {sl:Addr}{a b n:Nat}{u u':Tok}{Q:Int×Int×Nat→Shared→Prop} {E}(hs:s.heap.IsSliceOf sl (.int a u) (.int b u') .none) (h1:a≤b) (h2:b≤n) (h:Q ((a:Int),1,b - a) s):
  wpAny (model prog w) A (Builtin.Slice.sliceApplied (.ref sl) (pure (n:Int))) Q E s:=by
 obtain ⟨os,hos,hcs,hds⟩:=id hs
 unfold Builtin.Slice.sliceApplied Builtin.Slice.sliceFields
 refine wpAny_bind (wpAny_bind (wpAny_field hos hds (x:=.int a u) rfl (wpAny_bind (wpAny_field hos hds (x:=.int b u') rfl (wpAny_bind (wpAny_field hos hds (x:=.none) rfl (wpAny_pure ?_)))))))
 refine wpAny_bind (slicePart_none ?_)
 show wpAny _ _ (if ((1:Int)==0)=true then _ else _) _ _ s
 rw [if_neg (by decide)]
 refine wpAny_bind (slicePart_int (wpAny_bind (slicePart_int (wpAny_bind (wpAny_pure ?_)))))
 show wpAny _ _ (match Builtin.Slice.sliceAdjust (some (a:Int)) (some (b:Int)) 1 (n:Int) with | (lo,hi)=>pure (lo,(1:Int),Builtin.Slice.slicePlaces lo hi 1)) _ _ s
 rw [adjust_run a b n h1 h2]
 show wpAny _ _ (pure ((a:Int),(1:Int),Builtin.Slice.slicePlaces (a:Int) (b:Int) 1)) _ _ s
 rw [places_run a b h1]
 exact wpAny_pure h
theorem pick_run' (xs:Array Value) (a b:Nat):((List.range (b - a)).filterMap fun (k:Nat)=>xs[((a:Int)+(k:Int)*1).toNat]?).toArray=((xs.toList.drop a).take (b - a)).toArray:=by
 have e:(fun (k:Nat)=>xs[((a:Int)+(k:Int)*1).toNat]?)=fun k=>xs[a+k]?:=by
  funext k
  have:((a:Int)+(k:Int)*1).toNat=a+k:=by lia
  rw [this]
 rw [e]
 have:=pick_run xs a (b - a)
 rw [List.filterMap_map] at this
 have e2:((fun x=>xs[x]?) ∘ fun x=>a+x)=fun k=>xs[a+k]?:=rfl
 rw [e2] at this
 rw [this]
theorem getItem_tuple_run {t sl:Addr}{items:Array Value}{a b:Nat}{u u':Tok}{Q:Value→Shared→Prop} {E}(ht:IsTup s.heap t items) (hs:s.heap.IsSliceOf sl (.int a u) (.int b u') .none) (h0:1≤a) (h1:a≤b) (h2:b≤items.size)
  (h:Q (.ref s.heap.objs.size) {s with heap:=s.heap.push {cls:=.type "tuple",data:=.seq ((items.toList.drop a).take (b - a)).toArray}})
  (hsz:items.size≤sizeLine):wpAny (model prog w) A (getItem (.ref t) (.ref sl)) Q E s:=by
 have hdrop:sizeOk (.seq ((items.toList.drop a).take (b - a)).toArray):=by
  show ((items.toList.drop a).take (b - a)).toArray.size≤sizeLine
  rw [List.size_toArray,List.length_take,List.length_drop,Array.length_toList]
  lia
 obtain ⟨os,hos,hcs,hds⟩:=id hs
 have hTs:s.TypeIs (.ref sl) "slice":=⟨os,hos,hcs⟩
 unfold getItem
 try with_reducible refine wpAny_holding ?_
 first | refine wpAny_bind (wpAny_pure ?_) | skip
 refine wpAny_bind (wpAny_sequenceKey ht.typeIs (by decide) ?_)
 refine wpAny_bind (wpAny_callSpecial?_slot (name:=Str.ofString "__getitem__") ht.typeIs slot_tuple_getitem
  (wpAny_call_entry slot_tuple_getitem ht.typeIs entry_tuple_getitem ?_ (args_tuple_getitem _ _)))
 show wpAny _ _ (Builtin.Tuple.tupleItemsOf (.ref t) >>= _) _ _ s
 refine wpAny_bind (tupleItemsOf_ ht ?_)
 refine wpAny_bind (wpAny_typeOf hTs ?_)
 rw [if_pos (by decide)]
 refine wpAny_bind (sliceApplied_run hs h1 h2 ?_)
 have hno:¬ (((a:Int)==0&&(1:Int)==1&&(b - a)==items.size)=true):=by
  have:((a:Int)==0)=false:=by rw [beq_eq_false_iff_ne];lia
  rw [this];simp
 show wpAny _ _ (if ((a:Int)==0&&(1:Int)==1&&(b - a)==items.size)=true then _ else _) _ _ s
 rw [if_neg hno,pick_run' items a b]
 first
  | exact wpAny_bind (m:=Builtin.Tuple.tupleExact _) (wpAny_newObj_type (wpAny_pure ⟨_,rfl,wpAny_pure h⟩) hdrop)
  | exact wpAny_bind (m:=Builtin.Tuple.tupleExact _) (wpAny_newObj_type (wpAny_bind (wpAny_pure (wpAny_pure ⟨_,rfl,wpAny_pure h⟩))) hdrop)
  | exact wpAny_bind (wpAny_bind (m:=Builtin.Tuple.tupleExact _) (wpAny_newObj_type (wpAny_pure (wpAny_pure ⟨_,rfl,wpAny_pure h⟩)) hdrop))
  | exact wpAny_bind (wpAny_bind (m:=Builtin.Tuple.tupleExact _) (wpAny_newObj_type (wpAny_pure ⟨_,rfl,wpAny_pure h⟩) hdrop))
theorem kms_take (l:List Value) (h:Int):kms_pick l none (some h)=l.take (cutAt h l.length):=by
 unfold kms_pick kms_lo kms_hi cutAt
 simp only [List.drop_zero,Nat.sub_zero]
 split
 ·rw [if_neg (by lia)];congr 1;lia
 ·rw [if_pos (by lia)]
theorem str_take1 (t:T):Txt.slice (T.s t) none (some 1)=T.s (t.take 1):=by
 cases t with
 | nil=>rfl
 | cons c t=>
  have:=slice_closes_to (x:=T.s (c::t)) (j:=1) ⟨by decide,by rw [toList_s];simp;lia⟩
  rw [eq_of_beq this,toList_s]
  simp [T.s]
abbrev slH (h:Heap) (vl vu:Value):Heap:=h.push {cls:=.type "slice",data:=.fields #[vl,vu,.none]}
section
variable {value:Expr}{lo hi:Option Expr}{p:Pos}{sl a:Addr}{vs:Array Value}{ds:List D}{n:Int}{u t:Tok}{Q:D→Pi→Prop}
theorem slc_tup {x:Int}(W:WI h₀ src M s π) (ht:IsTup s.heap a vs) (hr:RepL prog w fns src M s.heap vs.toList ds) (hs:s.heap.IsSliceOf sl (.int x t) (.int n u) .none) (h1:1≤x) (h2:x≤n) (h3:n≤ds.length) (h4:ds.length≤1000)
  (hq:Q (.tup ((ds.drop x.toNat).take (n.toNat - x.toNat))) π):wpAny (model prog w) A (subscriptTail value (.Slice lo hi none p) (.ref a) (.ref sl)) (Post prog w fns h₀ src M s Q) (fun _ _=>False) s:=by
 obtain ⟨x,rfl⟩:=Int.eq_ofNat_of_zero_le (Int.le_trans (by decide) h1)
 obtain ⟨n,rfl⟩:=Int.eq_ofNat_of_zero_le (Int.le_trans (Int.le_trans (by decide) h1) h2)
 have hl:=size_of hr
 exact tail_any ht.typeIs slot_tuple_getitem.lookup (getItem_tuple_run (a:=x) (b:=n) ht hs (Int.ofNat_le.mp h1) (Int.ofNat_le.mp h2) (hl▸Int.ofNat_le.mp h3) (newtup W ((hr.drop _).take _) hq) (hl▸Nat.le_trans h4 (by decide))) (slice_ops _ _)
theorem slc_lst (W:WI h₀ src M s π) (ht:s.heap.IsList a vs) (hr:RepL prog w fns src M s.heap vs.toList ds) (hs:s.heap.IsSliceOf sl .none (.int n u) .none) (h:ds.length≤strBound) (hq:Q (.lst (ds.take (cutAt n ds.length))) π):
  wpAny (model prog w) A (subscriptTail value (.Slice lo hi none p) (.ref a) (.ref sl)) (Post prog w fns h₀ src M s Q) (fun _ _=>False) s:=by
 have hl:=size_of hr
 refine tail_any ht.typeIs slot_list_getitem.lookup (wpAny_getItem_list_slice ht hs .none (.int n u) .none (by simp) (newlist W ?_ hq) (by rw [hl];exact Nat.le_trans h sizeLine_big)) (slice_ops _ _)
 rw [kms_pick_eq,kms_take,Array.length_toList,hl]
 exact hr.take _
theorem slc_str {x:T}(W:WI h₀ src M s π) (hx:x.length≤16777216) (hq:Q (.str (x.take 1)) π):
  wpAny (model prog w) A (subscriptTail value (.Slice lo hi none p) (.str (T.s x) t) (.ref s.heap.objs.size)) (Post prog w fns h₀ src M s Q) (fun _ _=>False) {s with heap:=slH s.heap .none (.int 1 u)}:=by
 obtain ⟨T',id,hl,hT,hg⟩:=SBH.sliceItem_ns (prog:=prog) (w:=w) (A:=A) (E:=fun _ _=>False) (Q:=Post prog w fns h₀ src M s Q) (x:=T.s x) (t:=t) (s:=s) (j:=1) (uj:=u) (P:=fun h'=>∀ a o,s.heap.get? a=some o→h'.get? a=some o)
  (fun h' ob hp a o e=>Heap.get?_push_of_some _ (hp a o e)) (fun _ _ e=>e) (fun h' t' k' hp=>by
   rw [str_take1]
   exact ⟨_,π,hq,.str _ _ (Nat.le_trans (List.length_take_le 1 x) (by decide)),⟨rfl,rfl,fun a o _ _ e=>hp a o e⟩,W.grow hp⟩) (by rw [len_s];exact hx)
 exact tail_any hT hl hg (slice_ops _ _)
end
theorem IsPart.none_inv {v:Value}(h:IsPart v none):v=.none:=by cases h;rfl
theorem IsPart.int_inv {v:Value}{i:Int}(h:IsPart v (some i)):∃ t,v=.int i t:=by cases h;exact ⟨_,rfl⟩
theorem slc_snd {value:Expr}{lo hi:Option Expr}{p:Pos}{a vl vu:Value}{d e:D}{l:Option Int}{Q:D→Pi→Prop}(W:WI h₀ src M s π)
  (ra:Rep prog w fns src M s.heap a d) (rb:Rep prog w fns src M s.heap vu e) (pl:IsPart vl l) (h:slcW d l e fun r=>Q r π):
  wpAny (model prog w) A (subscriptTail value (.Slice lo hi none p) a (.ref s.heap.objs.size)) (Post prog w fns h₀ src M s Q) (fun _ _=>False)
   {s with heap:=slH s.heap vl vu}:=by
 obtain ⟨n,rfl,h1⟩:=onI_inv h
 obtain ⟨u,rfl⟩:=rb.int_inv
 clear h rb
 have hk:∀ a o,s.heap.get? a=some o→(slH s.heap vl (.int n u)).get? a=some o:=fun a o e=>Heap.get?_push_of_some _ e
 have st:Step src s {s with heap:=slH s.heap vl (.int n u)}:=⟨rfl,rfl,fun a o _ _ e=>hk a o e⟩
 have post:∀ r s₃,Post prog w fns h₀ src M {s with heap:=slH s.heap vl (.int n u)} Q r s₃→Post prog w fns h₀ src M s Q r s₃:=fun _ _ p=>Post.of_step st p
 cases d with
 | tup ds=>
  obtain ⟨x,rfl,⟨h2,h3,h4,h5⟩,hq⟩:=onD_inv h1
  obtain ⟨t,rfl⟩:=IsPart.int_inv pl
  obtain ⟨a,vs,rfl,ht,hm,hr⟩:=(ra.kept (W.kept st)).tup_inv
  exact wpAny_mono (slc_tup (W.grow hk) ht hr (Heap.IsSliceOf.new ..) h2 h3 h4 h5 hq) post fun _ _ x=>x
 | lst ds=>
  obtain ⟨rfl,h2,hq⟩:=onN_inv h1
  obtain rfl:=IsPart.none_inv pl
  obtain ⟨a,vs,rfl,ht,hm,hr⟩:=(ra.kept (W.kept st)).lst_inv
  exact wpAny_mono (slc_lst (W.grow hk) ht hr (Heap.IsSliceOf.new ..) h2 hq) post fun _ _ x=>x
 | str t=>
  obtain ⟨rfl,rfl,hq⟩:=onN_inv h1
  obtain ⟨tk,hx,rfl⟩:=ra.str_inv
  obtain rfl:=IsPart.none_inv pl
  exact slc_str W hx hq
 | _=>exact h1.elim
end
section
variable {prog:Program}{w:World}{fns:List Nat}{h₀:Heap}{src:Option Addr}{M:List Addr}{k:Nat}{A:Around}{s:Shared}{π:Pi}
noncomputable def biVal (f:Nat):Value:=
 if f=23881070 then .builtin "len" else if f=6113817460 then .type "list" else if f=1599698136165 then .type "tuple" else if f=24343666 then .type "str"
 else if f=23686772 then .type "int" else if f=23945592 then .builtin "max" else if f=1706903273020983629210469 then .builtin "isinstance" else .builtin "repr"
theorem cast_data {a:Addr}{Q:D→Pi→Prop}{h':Heap}{tk:Tok}{vs:Array Value}{ds:List D}(W:WI h₀ src M s π) (hk:∀ b o,s.heap.get? b=some o→h'.get? b=some o)
  (hl:h'.IsList a vs) (ha:s.heap.get? a=none) (hr:RepL prog w fns src M s.heap vs.toList ds) (h:Q (.lst ds) π):Post prog w fns h₀ src M s Q (.ref a) {s with heap:=h',toks:=tk}:=
 ⟨_,π,h,.lst hl (W.nin ha) (hr.kept fun a o _ _ e=>hk a o e),Step.of_keeps hk,W.grow hk⟩
theorem cast_tup {a:Addr}{Q:D→Pi→Prop}{h':Heap}{tk:Tok}{vs:Array Value}{ds:List D}(W:WI h₀ src M s π) (hk:∀ b o,s.heap.get? b=some o→h'.get? b=some o)
  (hl:IsTup h' a vs) (ha:s.heap.get? a=none) (hr:RepL prog w fns src M s.heap vs.toList ds) (h:Q (.tup ds) π):Post prog w fns h₀ src M s Q (.ref a) {s with heap:=h',toks:=tk}:=
 ⟨_,π,h,.tup hl (W.nin ha) (hr.kept fun a o _ _ e=>hk a o e),Step.of_keeps hk,W.grow hk⟩
theorem fresh_none {h:Heap}{a:Addr}(ha:h.objs.size≤a):h.get? a=none:=Heap.get?_none_of_le ha
theorem rep_reads {h:Heap}(d:D):∀ v,Rep prog w fns src M h v d→plainD d=true→∃ as,Reads h v (pyD d) as:=
 D.rec (motive_1:=fun d=>∀ v,Rep prog w fns src M h v d→plainD d=true→∃ as,Reads h v (pyD d) as)
  (motive_2:=fun ds=>∀ vs,RepL prog w fns src M h vs ds→plainD.plainDs ds=true→∃ as,ReadsAll h vs (pyD.pyDs ds) as)
  (fun _ r _=>by rw [r.none_inv];exact ⟨_,.none⟩) (fun b _ r _=>by rw [r.bool_inv];exact ⟨_,.bool b⟩) (fun i _ r _=>by obtain ⟨t,rfl⟩:=r.int_inv;exact ⟨_,.int i t⟩) (fun _ _ r _=>by obtain ⟨t,_,rfl⟩:=r.str_inv;exact ⟨_,.str _ t⟩)
  (fun _ ih _ r p=>by
   obtain ⟨a,vs,rfl,⟨o,ho,hc,n,hd⟩,hm,hr⟩:=r.tup_inv
   obtain ⟨as,h1⟩:=ih _ hr p
   exact ⟨_,.tuple ho hc hd h1⟩)
  (fun _ ih _ r p=>by
   obtain ⟨a,vs,rfl,⟨o,ho,hc,n,hd⟩,hm,hr⟩:=r.lst_inv
   obtain ⟨as,h1⟩:=ih _ hr p
   exact ⟨_,.list ho hc hd h1⟩)
  (fun _ _ _ _ _ p=>nomatch p) (fun _ _ p=>nomatch p) (fun _ _ _ _ _ _ p=>nomatch p)
  (fun _ r _=>by rw [r.nil_inv];exact ⟨_,.nil⟩)
  (fun _ _ ih1 ih2 _ r p=>by
   obtain ⟨v,us,rfl,hv,hr⟩:=r.cons_inv
   obtain ⟨p1,p2⟩:=band p
   obtain ⟨as,h1⟩:=ih1 _ hv p1
   obtain ⟨bs,h2⟩:=ih2 _ hr p2
   exact ⟨_,.cons h1 h2⟩) d
theorem noDict_of (d:D):(pyD d).hasDict=false:=
 D.rec (motive_1:=fun d=>(pyD d).hasDict=false) (motive_2:=fun l=>PyData.hasDictAll (pyD.pyDs l)=false)
  rfl (fun _=>rfl) (fun _=>rfl) (fun _=>rfl) (fun _ h=>h) (fun _ h=>h) (fun _ _ _=>rfl) rfl (fun _ _ _ _=>rfl) rfl
  (fun _ _ h1 h2=>Bool.or_eq_false_iff.mpr ⟨h1,h2⟩) d
theorem show_of (d:D):plainD d=true→(pyD d).showable=true:=
 D.rec (motive_1:=fun d=>plainD d=true→(pyD d).showable=true) (motive_2:=fun l=>plainD.plainDs l=true→PyData.showableAll (pyD.pyDs l)=true)
  (fun _=>rfl) (fun _ _=>rfl) (fun i e=>by
   show decide (i.natAbs.log2 < 1920)=true
   rw [decide_eq_true_eq]
   by_cases h:i.natAbs=0
   ·rw [h];decide
   ·exact Nat.lt_trans ((Nat.log2_lt h).mpr (Nat.lt_of_lt_of_le (of_decide_eq_true e) (show 1000000≤2 ^ 20 by decide))) (by decide))
  (fun _ _=>rfl) (fun _ h=>h) (fun _ h=>h) (fun _ _ _ _=>rfl) (fun _=>rfl) (fun _ _ _ _ _=>rfl) (fun _=>rfl)
  (fun _ _ h1 h2 e=>Bool.and_eq_true_iff.mpr ⟨h1 (band e).1,h2 (band e).2⟩) d
theorem one_rep {vs:List Value}{ds:List D}{Q:D→Prop}(hr:RepL prog w fns src M s.heap vs ds) (h:oneD ds Q):∃ v d,vs=[v]∧Rep prog w fns src M s.heap v d∧Q d:=by
 obtain ⟨d,rfl,h⟩:=oneD_inv h
 obtain ⟨v,e,hv⟩:=hr.one_inv
 exact ⟨v,d,e,hv,h⟩
section
variable {v:Value}{d:D}{Q:D→Pi→Prop}
theorem len_snd (W:WI h₀ src M s π) (hr:Rep prog w fns src M s.heap v d) (h:lenW d fun r=>Q r π):wpAny (model prog w) A (call (.builtin "len") [v]) (Post prog w fns h₀ src M s Q) (fun _ _=>False) s:=by
 cases d with
 | str x=>
  obtain ⟨t,hx,rfl⟩:=hr.str_inv
  refine P.len_str (by rw [len_s];lia) ?_
  rw [len_s]
  exact pint W h
 | tup l=>
  obtain ⟨a,vs,rfl,ht,hm,hrl⟩:=hr.tup_inv
  obtain ⟨h1,h⟩:=chkL_iff.mp h
  have hl:=size_of hrl
  have e:strBound=4000000:=rfl
  refine len_tuple ht (by lia) ?_
  rw [hl];exact pint W h
 | lst l=>
  obtain ⟨a,vs,rfl,ht,hm,hrl⟩:=hr.lst_inv
  obtain ⟨h1,h⟩:=chkL_iff.mp h
  have hl:=size_of hrl
  have e:strBound=4000000:=rfl
  refine len_list ht (by lia) ?_
  rw [hl];exact pint W h
 | _=>exact h.elim
theorem list_snd (W:WI h₀ src M s π) (hr:Rep prog w fns src M s.heap v d) (h:onD (asT d) fun l=>chkL l.length (Q (.lst l) π)):wpAny (model prog w) A (call (.type "list") [v]) (Post prog w fns h₀ src M s Q) (fun _ _=>False) s:=by
 obtain ⟨l,rfl,h⟩:=onT_inv h
 obtain ⟨a,vs,rfl,ht,hm,hrl⟩:=hr.tup_inv
 obtain ⟨h1,h⟩:=chkL_iff.mp h
 obtain ⟨o,ho,hc,n,hd⟩:=ht
 exact call_list_seq _ (.inr rfl) ho hc hd (fun h' c' hk hS=>cast_data (tk:=s.toks) W hk ⟨_,hS,rfl,_,rfl⟩ (fresh_none (Nat.le_refl _)) hrl h) (by rw [size_of hrl];exact Nat.le_trans h1 sizeLine_big)
theorem tuple_snd (W:WI h₀ src M s π) (hr:Rep prog w fns src M s.heap v d) (h:onD (asL d) fun l=>chkL l.length (Q (.tup l) π)):wpAny (model prog w) A (call (.type "tuple") [v]) (Post prog w fns h₀ src M s Q) (fun _ _=>False) s:=by
 obtain ⟨l,rfl,h⟩:=onL_inv h
 obtain ⟨a,vs,rfl,ht,hm,hrl⟩:=hr.lst_inv
 obtain ⟨h1,h⟩:=chkL_iff.mp h
 refine call_tuple_list ht (fun h' hk=>?_) (by rw [size_of hrl];exact Nat.le_trans h1 sizeLine_big)
 have hk':∀ b o,s.heap.get? b=some o→(h'.push {cls:=.type "tuple",data:=.seq vs}).get? b=some o:=fun b o e=>Heap.get?_push_of_some _ (hk b o e)
 refine ⟨_,π,h,.tup (IsTup.new h' _) (fun hm'=>?_) (hrl.kept fun a o _ _ e=>hk' a o e),⟨rfl,rfl,fun a o _ _ e=>hk' a o e⟩,W.grow hk'⟩
 obtain ⟨o,e⟩:=(W.fresh _ hm').2
 exact Nat.lt_irrefl _ (Heap.lt_size (hk _ _ e))
theorem str_snd (W:WI h₀ src M s π) (hr:Rep prog w fns src M s.heap v d) (h:onD (asI d) fun i=>chk (small i) (Q (.str (digits i)) π)):wpAny (model prog w) A (call (.type "str") [v]) (Post prog w fns h₀ src M s Q) (fun _ _=>False) s:=by
 obtain ⟨i,rfl,h⟩:=onI_inv h
 obtain ⟨hi,h⟩:=chk_iff.mp h
 have hi:=small_iff.mp hi
 obtain ⟨t,rfl⟩:=hr.int_inv
 have e:Str.ofString (toString i)=T.s (digits i):=by
  rw [Str.ofString_eq_toList];rfl
 refine str_of_int_fit (N:=2000) (by split <;> lia) (by lia) (fun hlen=>?_)
 have h1:=len_str_of_int i
 have e2:(Str.ofString (toString i)).length=(digits i).length:=by rw [e,len_s]
 rw [e2] at h1
 show Post prog w fns h₀ src M s Q (.str (Str.ofString (toString i)) _) _
 rw [e]
 exact pstr W h (by lia)
theorem max_snd {u:Value}{e:D}(g:Good A k) (W:WI h₀ src M s π) (hr:Rep prog w fns src M s.heap v d) (hu:Rep prog w fns src M s.heap u e) (h:onD (asI d) fun a=>onD (asI e) fun b=>Q (.int (if a < b then b else a)) π):
  wpAny (model prog w) A (call (.builtin "max") [v,u]) (Post prog w fns h₀ src M s Q) (fun _ _=>False) s:=by
 obtain ⟨i,j,t,u,rfl,rfl,h⟩:=ints_inv hr hu h
 refine max_two_ints g.handled fun h' tk hk=>?_
 by_cases hba:i < j
 ·rw [if_pos (show j > i from hba)]
  rw [if_pos hba] at h
  exact ⟨_,π,h,.int _ _,Step.of_keeps hk,W.grow hk⟩
 ·rw [if_neg (show ¬ j > i from hba)]
  rw [if_neg hba] at h
  exact ⟨_,π,h,.int _ _,Step.of_keeps hk,W.grow hk⟩
theorem repr_snd (g:Good A k) (W:WI h₀ src M s π) (hr:Rep prog w fns src M s.heap v d)
  (h:onD (asT d) fun l=>(plainD (.tup l)=true∧(reprT (.tup l)).length≤strBound∧(pyD (.tup l)).depth≤100)∧Q (.str (reprT (.tup l))) π):wpAny (model prog w) A (call (.builtin "repr") [v]) (Post prog w fns h₀ src M s Q) (fun _ _=>False) s:=by
 obtain ⟨l,rfl,⟨h1,h2,h3⟩,h⟩:=onT_inv h
 obtain ⟨as,hrd⟩:=rep_reads _ v hr h1
 obtain ⟨a,vs,rfl,_,_,_⟩:=hr.tup_inv
 have hu:=g.units
 have e:(pyD (D.tup l)).shown=T.s (reprT (D.tup l)):=rfl
 refine repr_of_reads' hrd (show_of _ h1) (fun q=>nomatch (noDict_of _).symm.trans q) g.guards (by show A.units+_ < 9900;lia) (fun _ _ e=>e) (fun h' u tk hk=>?_) ?_
 ·rw [e]
  exact ⟨_,π,h,.str _ _ (Nat.le_trans h2 (by decide)),Step.of_keeps hk,W.grow hk⟩
 ·rw [e,len_s];exact Nat.le_trans h2 sizeLine_big
theorem int_snd (W:WI h₀ src M s π) (hr:Rep prog w fns src M s.heap v d) (h:intW d fun r=>Q r π):wpAny (model prog w) A (call (.type "int") [v]) (Post prog w fns h₀ src M s Q) (fun _ _=>False) s:=by
 cases d with
 | bool b=>rw [hr.bool_inv];exact call_int_bool (pint W h)
 | _=>exact h.elim
theorem isb_snd' (W:WI h₀ src M s π) (hr:Rep prog w fns src M s.heap v d) (h:isbW d fun r=>Q r π):wpAny (model prog w) A (call (.builtin "isinstance") [v,.type "bool"]) (Post prog w fns h₀ src M s Q) (fun _ _=>False) s:=by
 cases d with
 | bool b=>rw [hr.bool_inv];exact IsiPair.bool_bool (pbool' W h)
 | int i=>obtain ⟨t,rfl⟩:=hr.int_inv;exact IsiPair.int_bool (pbool W h)
 | str x=>obtain ⟨t,_,rfl⟩:=hr.str_inv;exact IsiPair.str_bool (pbool W h)
 | _=>exact h.elim
end
theorem bi_snd {f:Nat}{vs:List Value}{ds:List D}{Q:D→Pi→Prop}(g:Good A k) (W:WI h₀ src M s π) (hr:RepL prog w fns src M s.heap vs ds)
  (hf:f=23881070∨f=6113817460∨f=1599698136165∨f=24343666∨f=23686772∨f=23945592∨f=6214217842) (h:biW f ds fun r=>Q r π):wpAny (model prog w) A (call (biVal f) vs) (Post prog w fns h₀ src M s Q) (fun _ _=>False) s:=by
 rcases hf with rfl | rfl | rfl | rfl | rfl | rfl | rfl
 ·obtain ⟨v,d,rfl,hv,h⟩:=one_rep hr h;exact len_snd W hv h
 ·obtain ⟨v,d,rfl,hv,h⟩:=one_rep hr h;exact list_snd W hv h
 ·obtain ⟨v,d,rfl,hv,h⟩:=one_rep hr h;exact tuple_snd W hv h
 ·obtain ⟨v,d,rfl,hv,h⟩:=one_rep hr h;exact str_snd W hv h
 ·obtain ⟨v,d,rfl,hv,h⟩:=one_rep hr h;exact int_snd W hv h
 ·obtain ⟨d,e,rfl,h⟩:=twoD_inv h
  obtain ⟨v,us,rfl,hv,hr1⟩:=hr.cons_inv
  obtain ⟨u,rfl,hu⟩:=hr1.one_inv
  exact max_snd g W hv hu h
 ·obtain ⟨v,d,rfl,hv,h⟩:=one_rep hr h;exact repr_snd g W hv h
theorem isb_snd {v:Value}{d:D}{Q:D→Pi→Prop}(g:Good A k) (W:WI h₀ src M s π) (hr:Rep prog w fns src M s.heap v d)
  (h:biW 1706903273020983629210469 [d] fun r=>Q r π):wpAny (model prog w) A (call (.builtin "isinstance") [v,.type "bool"]) (Post prog w fns h₀ src M s Q) (fun _ _=>False) s:=isb_snd' W hr h
theorem s_app (x y:T):T.s x++T.s y=T.s (x++y):=by
 show Str.mk _=_
 simp [T.s]
theorem join_s (sep:T) (ts:List T):Txt.join (T.s sep) (ts.map T.s)=T.s (joinT sep ts):=by
 show Builtin.Str.glued _ _=_
 rw [StrLaws.glued_eq_join]
 induction ts with
 | nil=>rfl
 | cons t ts ih=>
  cases ts with
  | nil=>rfl
  | cons u ts=>
   show T.s t++T.s sep++Str.join (T.s sep) (List.map T.s (u::ts))=_
   rw [ih,s_app,s_app]
   rfl
theorem joinT_le (sep:T) (l:List T):(joinT sep l).length≤(l.map (·.length)).sum+l.length*sep.length:=by
 induction l with
 | nil=>exact Nat.zero_le _
 | cons t l ih=>
  cases l with
  | nil=>simp [joinT]
  | cons u l=>
   simp only [joinT,List.length_append,List.map_cons,List.sum_cons,List.length_cons] at ih ⊢
   rw [Nat.succ_mul]
   lia
theorem strs_of {l:List D}{vs:List Value}(hr:RepL prog w fns src M s.heap vs l) (e:l.all isStrD=true):StrsAre vs ((l.map strOf).map T.s):=by
 rw [List.map_map];exact strsAre_of hr e
theorem join_sz {sep:T}{l:List D}(h:((l.map strOf).map (·.length)).sum+l.length*sep.length≤strBound):((((l.map strOf).map T.s).map (·.length)).sum+((l.map strOf).map T.s).length*(T.s sep).length≤strBound)∧(joinT sep (l.map strOf)).length≤strBound:=by
 have e:(((l.map strOf).map T.s).map (·.length)).sum=((l.map strOf).map (·.length)).sum:=by
  rw [List.map_map];exact congrArg List.sum (List.map_congr_left fun t _=>len_s t)
 refine ⟨by rw [e,len_s,List.length_map,List.length_map];exact h,Nat.le_trans (joinT_le sep _) (by rw [List.length_map];exact h)⟩
theorem join_snd {sep:T}{tk:Tok}{v:Value}{d:D}{Q:D→Pi→Prop}(W:WI h₀ src M s π) (hr:Rep prog w fns src M s.heap v d) (h:joinW sep d fun r=>Q r π):
  wpAny (model prog w) A (call (.builtin "str.join") [.str (T.s sep) tk,v]) (Post prog w fns h₀ src M s Q) (fun _ _=>False) s:=by
 obtain ⟨l,hd,⟨h1,h2⟩,hq⟩:=onD_inv h
 obtain ⟨z1,z2⟩:=join_sz h2
 have fin:∀ t' k',Post prog w fns h₀ src M s Q (.str (Txt.join (T.s sep) ((l.map strOf).map T.s)) t') {s with toks:=k'}:=fun t' k'=>by
  rw [join_s];exact pstr W hq (Nat.le_trans z2 (by decide))
 cases d with
 | tup ds=>
  cases hd
  obtain ⟨a,vs,rfl,ht,hm,hrl⟩:=hr.tup_inv
  exact join_tuple ht (strs_of hrl h1) (Nat.le_trans z1 (by decide)) fin
 | lst ds=>
  cases hd
  obtain ⟨a,vs,rfl,ht,hm,hrl⟩:=hr.lst_inv
  exact join_list ht (strs_of hrl h1) (Nat.le_trans z1 (by decide)) fin
 | _=>cases hd
end
theorem starEach_one {e:Expr}(hst:∀ t p,e≠.Starred t p){es:List Expr}{env:PySem.Env}:starEach (e::es) env=(false,eval e env)::starEach es env:=by
 cases e <;> first | rfl | exact absurd rfl (hst _ _)
inductive CompI (f:Expr→Option Ex) (e:Expr) (es:List Expr) (es':Exs):Prop
 | mk (e':Ex) (es'':Exs) (he:f e=some e') (hes:compL f es=some es'') (eq:es'=.cons e' es'') (hst:∀ t p,e≠.Starred t p)
theorem compL_inv {f:Expr→Option Ex}{e:Expr}{es:List Expr}{es':Exs}(hc:compL f (e::es)=some es'):CompI f e es es':=by
 obtain ⟨h1,h⟩:=gdI hc
 obtain ⟨e',he,h⟩:=bindI h
 obtain ⟨es'',hes,h⟩:=bindI h
 exact ⟨e',es'',he,hes,(Option.some.inj h).symm,fun t p q=>nomatch (congrArg (fun e:Expr=>Nat.beq e.ctorIdx 22) q).symm.trans (bnot h1)⟩
section
variable {prog:Program}{w:World}{fns:List Nat}{h₀:Heap}{k:Nat}{sc:Scope}
inductive PostL (prog:Program) (w:World) (fns:List Nat) (h₀:Heap) (src:Option Addr) (M:List Addr) (s:Shared) (n:Nat) (Q:List D→Pi→Prop) (vs:List Value) (s':Shared):Prop
 | mk (hl:vs.length=n) (ds:List D) (π':Pi) (h:Q ds π') (r:RepL prog w fns src M s'.heap vs ds) (st:Step src s s') (W:WI h₀ src M s' π')
theorem snd_each {f:Expr→Option Ex}(IH:∀ pe e,f pe=some e→SndE prog w fns h₀ k sc pe e){pos:Pos}{src:Option Addr}{M:List Addr}{env:PySem.Env}{A:Around}{ρ:Env}(hsc:env.scope=sc) (hA:Good A k){es:List Expr}:
  ∀ {es':Exs}{s:Shared}{π:Pi}{Q:List D→Pi→Prop},compL f es=some es'→WI h₀ src M s π→FI prog w fns src M env s ρ→wEs es' (Ret FN k) ρ π Q→
   wpAny (model prog w) A (spliced (backTo pos (starEach es env))) (PostL prog w fns h₀ src M s es.length Q) (fun _ _=>False) s:=by
 induction es with
 | nil=>
  intro es' s π Q hc W F h
  cases hc
  exact spliced_nil ⟨rfl,[],π,h,.nil,Step.refl _,W⟩
 | cons e es ih=>
  intro es' s π Q hc W F h
  obtain ⟨e',es'',he,hes,rfl,hst⟩:=compL_inv hc
  have hb:backTo pos (starEach (e::es) env)=(false,eval e env)::backTo pos (starEach es env):=by rw [starEach_one hst];rfl
  rw [hb]
  refine spliced_cons (wpAny_mono (IH e e' he src M env A s ρ π _ hsc hA W F h) (fun v s₁ p=>?_) fun _ _ x=>x)
  obtain ⟨d,π₁,h1,r1,st1,W1⟩:=p
  refine wpAny_mono (ih hes W1 (F.step W st1) h1) (fun vs s₂ p=>?_) fun _ _ x=>x
  obtain ⟨hl,ds,π₂,h2,r2,st2,W2⟩:=p
  exact ⟨congrArg Nat.succ hl,d::ds,π₂,h2,.cons (r1.kept (W1.kept st2)) r2,st1.trans st2,W2⟩
theorem starEach_plain {f:Expr→Option Ex}(env:PySem.Env){es:List Expr}:∀ {es':Exs},compL f es=some es'→(starEach es env).any (·.1)=false:=by
 induction es with
 | nil=>exact fun _=>rfl
 | cons e es ih=>
  intro es' hc
  obtain ⟨e',es'',he,hes,rfl,hst⟩:=compL_inv hc
  rw [starEach_one hst,List.any_cons,ih hes];rfl
theorem backTo_plain {pos:Pos}(l:List (Bool×Sem Value)):(backTo pos l).any (·.1)=l.any (·.1):=by
 unfold backTo
 rw [List.any_map]
 rfl
theorem mul_raw {A:Around}{s:Shared}{l:Addr}{items:Array Value}{m:Nat}{x:Int}{u:Tok}{Q:Value→Shared→Prop} {E}
  (hl:s.heap.get? l=some {cls:=.type "list",dict:=none,data:=.seq items m,slots:=#[]})
  (hlo:0≤x) (hhi:x≤1000) (hsz:items.size≤1000)
  (h:Q (.ref s.heap.objs.size) {s with heap:=s.heap.push {cls:=.type "list",data:=.seq (List.foldl (fun x1 x2=>x1++x2) #[] (List.replicate (if items.isEmpty=true then 0 else x.toNat) items))}}):
  wpAny (model prog w) A (binaryOp .Mult (.ref l) (.int x u)) Q E s:=by
 have hz:items.size*x.toNat≤1000*1000:=Nat.mul_le_mul hsz (by lia)
 have e24:(2:Nat) ^ 24=16777216:=by decide
 exact wpAny_binaryOp_repeat_ref (T:="list") (U:="int") (by decide) ⟨_,hl,rfl⟩ (fun s'=>typeIs_int s' x u) noFill_list_mul PySem.F.fills_int_mul PySem.F.slot_int_rmul repeat_list PySem.F.slot_int_index.lookup
  (call_meets PySem.F.slot_int_rmul (typeIs_int s x u) PySem.F.entry_int_rmul (PySem.F.args_int_rmul_2 _ _) (int___rmul___int_list x u l items m)
   ⟨hl,rfl,⟨_,hl,rfl⟩,call_meets PySem.F.slot_list_mul ⟨_,hl,rfl⟩ PySem.F.entry_list_mul (PySem.F.args_list_mul_2 _ _)
    (AutoListH.list___mul___list_int_3 l items m x u (by simp [Builtin.List.listFitsIndex];lia) (by lia) (by simp [Builtin.List.listTooLong,sizeLine];lia))
    ⟨hl,h⟩⟩)
section
variable {f:Expr→Option Ex}(IH:∀ pe e,f pe=some e→SndE prog w fns h₀ k sc pe e)
include IH
theorem snd_tup {es:List Expr}{es':Exs} {n pos}(hc:compL f es=some es') (hz:es.length≤1000):SndE prog w fns h₀ k sc (.Tuple es n pos) (.tup es'):=by
 intro src M env A s ρ π Q hsc hA W F h
 refine Tuple_ (wpAny_mono (snd_each IH hsc hA hc W F h) (fun vs s₁ p=>?_) fun _ _ x=>x)
 obtain ⟨hl,ds,π₁,h1,r1,st1,W1⟩:=p
 exact wpAny_newTuple (Post.of_step st1 (newtup W1 r1 h1)) (by rw [hl];exact Nat.le_trans hz (by decide))
theorem snd_lst {es:List Expr}{es':Exs} {pos}(hc:compL f es=some es') (hz:es.length≤1000):SndE prog w fns h₀ k sc (.List es pos) (.list es'):=by
 intro src M env A s ρ π Q hsc hA W F h
 refine List_ (wpAny_mono (snd_each IH hsc hA hc W F h) (fun vs s₁ p=>?_) fun _ _ x=>x)
 obtain ⟨hl,ds,π₁,h1,r1,st1,W1⟩:=p
 exact wpAny_newList (Post.of_step st1 (newlist W1 r1 h1)) (by rw [hl];exact Nat.le_trans hz (by decide))
omit IH in
theorem rep_fold (vs:Array Value) (m:Nat):∀ acc:Array Value,((List.replicate m vs).foldl (fun x1 x2=>x1++x2) acc).toList=acc.toList++repL vs.toList m:=by
 induction m with
 | zero=>exact fun acc=>(List.append_nil _).symm
 | succ m ih=>exact fun acc=>(ih (acc++vs)).trans (by rw [Array.toList_append,List.append_assoc];rfl)
omit IH in
theorem repL_nil {α:Type}(m:Nat):repL ([]:List α) m=[]:=by
 induction m with
 | zero=>rfl
 | succ m ih=>exact ih
omit IH in
theorem rep_fold0 (vs:Array Value) (m:Nat):(List.foldl (fun x1 x2=>x1++x2) #[] (List.replicate (if vs.isEmpty=true then 0 else m) vs)).toList=repL vs.toList m:=by
 rw [rep_fold,List.nil_append]
 cases h:vs.isEmpty with
 | false=>rfl
 | true=>rw [Array.isEmpty_iff.mp h];exact (repL_nil m).symm
theorem snd_mulL {es:List Expr}{es':Exs} {p pos}{b:Expr}{b':Ex}(hc:compL f es=some es') (hb:SndE prog w fns h₀ k sc b b') (hz:es.length≤1000):
  SndE prog w fns h₀ k sc (.BinOp (.List es p) .Mult b pos) (.mulL es' b'):=by
 intro src M env A s ρ π Q hsc hA W F h
 refine wpAny_BinOp (List_ (wpAny_mono (snd_each IH hsc hA hc W F h) (fun vs s₁ p=>?_) fun _ _ x=>x))
 obtain ⟨hl,ds,π₁,h1,r1,st1,W1⟩:=p
 refine wpAny_newList ?_ (by rw [hl];exact Nat.le_trans hz (by decide))
 have hk:∀ a o,s₁.heap.get? a=some o→(s₁.heap.push {cls:=.type "list",data:=.seq vs.toArray}).get? a=some o:=fun a o e=>Heap.get?_push_of_some _ e
 have st2:Step src s₁ {s₁ with heap:=s₁.heap.push {cls:=.type "list",data:=.seq vs.toArray}}:=⟨rfl,rfl,fun a o _ _ e=>hk a o e⟩
 have hDM:s₁.heap.objs.size∉M:=fun hm=>W1.new hm
 refine wpAny_mono (hb src M env A _ ρ π₁ _ hsc hA (W1.grow hk) (F.step W (st1.trans st2)) h1) (fun v s₃ p=>?_) fun _ _ x=>x
 obtain ⟨e,π₂,h2,r2,st3,W3⟩:=p
 obtain ⟨n,rfl,⟨g0,g1,g2⟩,hq⟩:=onI_inv h2
 obtain ⟨u,rfl⟩:=r2.int_inv
 have hD3:=st3.keep s₁.heap.objs.size _ (fun q=>hDM (q▸W1.tabM)) (fun q=>hDM (W1.pool _ q).1) (Heap.get?_push_size _ rfl)
 refine mul_raw hD3 g0 g1 (by rw [List.size_toArray,r1.length];exact g2) (Post.of_step ((st1.trans st2).trans st3) (newlist W3 ?_ hq))
 rw [rep_fold0]
 exact (r1.kept (W1.kept (st2.trans st3))).rep n.toNat
end
theorem snd_two {a b:Expr}{a' b':Ex}(ha:SndE prog w fns h₀ k sc a a') (hb:SndE prog w fns h₀ k sc b b'){src:Option Addr}{M:List Addr}{env:PySem.Env}{A:Around}{s:Shared}{ρ:Env}{π:Pi}{K:D→D→Pi→Prop}{R:Value→Value→Shared→Prop}
  (hsc:env.scope=sc) (hA:Good A k) (W:WI h₀ src M s π) (F:FI prog w fns src M env s ρ) (h:wE a' (Ret FN k) ρ π fun d π=>wE b' (Ret FN k) ρ π fun e π=>K d e π)
  (H:∀ v u s₂ d e π₂,K d e π₂→Rep prog w fns src M s₂.heap v d→Rep prog w fns src M s₂.heap u e→Step src s s₂→WI h₀ src M s₂ π₂→R v u s₂):
  wpAny (model prog w) A (eval a env) (fun v s₁=>wpAny (model prog w) A (eval b env) (fun u s₂=>R v u s₂) (fun _ _=>False) s₁) (fun _ _=>False) s:=
 wpAny_mono (ha src M env A s ρ π _ hsc hA W F h) (fun v s₁ p=>by
  obtain ⟨d,π₁,h1,r1,st1,W1⟩:=p
  exact wpAny_mono (hb src M env A s₁ ρ π₁ _ hsc hA W1 (F.step W st1) h1) (fun u s₂ p=>by
   obtain ⟨e,π₂,h2,r2,st2,W2⟩:=p
   exact H v u s₂ d e π₂ h2 (r1.kept (W1.kept st2)) r2 (st1.trans st2) W2) fun _ _ x=>x) fun _ _ x=>x
theorem snd_sub {a i:Expr}{a' i':Ex} {pos}(ha:SndE prog w fns h₀ k sc a a') (hi:SndE prog w fns h₀ k sc i i') (hn:∀ lo hi st p,i≠.Slice lo hi st p):SndE prog w fns h₀ k sc (.Subscript a i pos) (.sub a' i'):=
 fun src M env A s ρ π Q hsc hA W F h=>Subscript_ (snd_two ha hi hsc hA W F h fun v u s₂ d e π₂ h2 r1 r2 st W2=>
  wpAny_mono (sub_snd (fun o v=>by cases i <;> first | rfl | exact absurd rfl (hn _ _ _ _)) W2 r1 r2 h2) (fun r s₃ p=>Post.of_step st p) fun _ _ x=>x)
theorem snd_slc {a hi:Expr}{lo:Option Expr}{a' hi':Ex}{l:Option Int} {p pos}(ha:SndE prog w fns h₀ k sc a a') (hh:SndE prog w fns h₀ k sc hi hi')
  (hl:(lo=none∧l=none)∨∃ x n q,lo=some (.Constant (.int x) n q)∧l=some x):
  SndE prog w fns h₀ k sc (.Subscript a (.Slice lo (some hi) none p) pos) (.slc a' l hi'):=by
 intro src M env A s ρ π Q hsc hA W F h
 refine Subscript_ (wpAny_mono (ha src M env A s ρ π _ hsc hA W F h) (fun v s₁ p=>?_) fun _ _ x=>x)
 obtain ⟨d,π₁,h1,r1,st1,W1⟩:=p
 refine wpAny_Slice ?_
 have lower:∀ (Q':Value→Shared→Prop),(∀ vl t,IsPart vl l→Q' vl {s₁ with toks:=t})→wpAny (model prog w) A (evalPart lo env) Q' (fun _ _=>False) s₁:=fun Q' hq=>by
  rcases hl with ⟨rfl,rfl⟩ | ⟨x,n,q,rfl,rfl⟩
  ·rw [evalPart_none];exact wpAny_pure (hq _ s₁.toks .none)
  ·rw [evalPart_some];exact wpAny_Constant_int (hq _ _ (.int _ _))
 refine lower _ fun vl t pl=>?_
 rw [evalPart_some]
 have st1':Step src s {s₁ with toks:=t}:=st1.trans (Step.toks _ _)
 refine wpAny_mono (hh src M env A {s₁ with toks:=t} ρ π₁ _ hsc hA (W1.toks t) (F.step W st1') h1) (fun v2 s₂ p=>?_) fun _ _ x=>x
 obtain ⟨e,π₂,h2,r2,st2,W2⟩:=p
 rw [evalPart_none]
 exact wpAny_pure (wpAny_mono (slc_snd W2 (r1.kept (W1.kept ((Step.toks s₁ t).trans st2))) r2 pl h2) (fun r s₃ p=>Post.of_step (st1'.trans st2) p) fun _ _ x=>x)
theorem snd_bin {a b:Expr}{a' b':Ex}{op:Operator} {pos}(ha:SndE prog w fns h₀ k sc a a') (hb:SndE prog w fns h₀ k sc b b'):SndE prog w fns h₀ k sc (.BinOp a op b pos) (.bin op a' b'):=
 fun src M env A s ρ π Q hsc hA W F h=>wpAny_BinOp (snd_two ha hb hsc hA W F h fun v u s₂ d e π₂ h2 r1 r2 st W2=>
  wpAny_mono (bin_snd hA W2 r1 r2 h2) (fun r s₃ p=>Post.of_step st p) fun _ _ x=>x)
theorem snd_neg {a:Expr}{a':Ex} {pos}(ha:SndE prog w fns h₀ k sc a a'):SndE prog w fns h₀ k sc (.UnaryOp .USub a pos) (.neg a'):=by
 intro src M env A s ρ π Q hsc hA W F h
 refine UnaryOp_ (wpAny_mono (ha src M env A s ρ π _ hsc hA W F h) (fun v s₁ p=>?_) fun _ _ x=>x)
 obtain ⟨d,π₁,h1,r1,st1,W1⟩:=p
 obtain ⟨i,rfl,h1⟩:=onI_inv h1
 obtain ⟨t,rfl⟩:=r1.int_inv
 exact P.neg_int (Post.of_step st1 (pint W1 h1))
theorem snd_not {a:Expr}{a':Ex} {pos}(ha:SndE prog w fns h₀ k sc a a'):SndE prog w fns h₀ k sc (.UnaryOp .Not a pos) (.not a'):=by
 intro src M env A s ρ π Q hsc hA W F h
 refine UnaryOp_ (wpAny_mono (ha src M env A s ρ π _ hsc hA W F h) (fun v s₁ p=>?_) fun _ _ x=>x)
 obtain ⟨d,π₁,h1,r1,st1,W1⟩:=p
 obtain ⟨b,ht,h1⟩:=onB_inv h1
 exact not_of (truthy_snd r1 ht fun tk=>Post.of_step st1 (pbool W1 h1))
theorem snd_cmp {a b:Expr}{a' b':Ex}{op:CmpOp} {pos}(ha:SndE prog w fns h₀ k sc a a') (hb:SndE prog w fns h₀ k sc b b') (hm:behindInMarks op b=false):
  SndE prog w fns h₀ k sc (.Compare a [op] [b] pos) (.cmp op a' b'):=
 fun src M env A s ρ π Q hsc hA W F h=>wpAny_Compare1 (snd_two ha hb hsc hA W F h fun v u s₂ d e π₂ h2 r1 r2 st W2=>
  wpAny_mono (cmp_snd hA W2 r1 r2 h2) (fun r s₃ p=>Post.of_step st p) fun _ _ x=>x) hm
theorem post_truth {src:Option Addr}{M:List Addr}{A:Around}{s s₁:Shared}{v:Value}{Q:Bool→Pi→Prop}(p:Post prog w fns h₀ src M s (fun d π=>onB (truth d) fun t=>Q t π) v s₁):
  wpAny (model prog w) A (truthy v) (fun b s'=>∃ π',Q b π'∧Step src s s'∧WI h₀ src M s' π') (fun _ _=>False) s₁:=by
 obtain ⟨d,π₁,h1,r1,st1,W1⟩:=p
 obtain ⟨t,ht,h1⟩:=onB_inv h1
 exact truthy_snd r1 ht fun tk=>⟨π₁,h1,st1.trans (Step.toks _ _),W1.toks _⟩
theorem sndT_cmp {a b:Expr}{a' b':Ex}{op:CmpOp} {pos}(ha:SndE prog w fns h₀ k sc a a') (hb:SndE prog w fns h₀ k sc b b') (hm:behindInMarks op b=false):
  SndT prog w fns h₀ k sc (.Compare a [op] [b] pos) (.cmp op a' b'):=
 fun src M env A s ρ π Q hsc hA W F h=>wpAny_isTrue_Compare1 (snd_two ha hb hsc hA W F h fun v u s₂ d e π₂ h2 r1 r2 st W2=>
  wpAny_mono (cmp_snd (Q:=fun d π=>onB (truth d) fun t=>Q t π) hA W2 r1 r2 h2) (fun r s₃ p=>post_truth (Post.of_step st p)) fun _ _ x=>x) hm
theorem sndT_not {a:Expr}{a':Ex} {pos}(ha:SndT prog w fns h₀ k sc a a'):SndT prog w fns h₀ k sc (.UnaryOp .Not a pos) (.not a'):=
 fun src M env A s ρ π Q hsc hA W F h=>isTrue_not (wpAny_mono (ha src M env A s ρ π (fun t π=>Q (!t) π) hsc hA W F h) (fun b s₁ p=>p) fun _ _ x=>x)
theorem sndT_plain {pe:Expr}{e:Ex}(hs:SndE prog w fns h₀ k sc pe e) (he:∀ env whole,isTrue pe env whole=(do let v ←whole;standAt pe.pos;holding [v] (truthy v))):SndT prog w fns h₀ k sc pe e:=
 fun src M env A s ρ π Q hsc hA W F h=>isTrue_plain (wpAny_mono (hs src M env A s ρ π _ hsc hA W F h) (fun v s₁ p=>post_truth p) fun _ _ x=>x) (he _ _)
theorem snd_ite {c a b:Expr}{c' a' b':Ex} {pos}(hc:SndT prog w fns h₀ k sc c c') (ha:SndE prog w fns h₀ k sc a a') (hb:SndE prog w fns h₀ k sc b b'):
  SndE prog w fns h₀ k sc (.IfExp c a b pos) (.ite c' a' b'):=by
 intro src M env A s ρ π Q hsc hA W F h
 refine IfExp_ (wpAny_mono (hc src M env A s ρ π (fun t π=>if t=true then wE a' (Ret FN k) ρ π Q else wE b' (Ret FN k) ρ π Q) hsc hA W F h) (fun t s₁ p=>?_) fun _ _ x=>x)
 obtain ⟨π₁,h1,st1,W1⟩:=p
 cases t with
 | true=>exact wpAny_mono (ha src M env A s₁ ρ π₁ _ hsc hA W1 (F.step W st1) h1) (fun r s₃ p=>Post.of_step st1 p) fun _ _ x=>x
 | false=>exact wpAny_mono (hb src M env A s₁ ρ π₁ _ hsc hA W1 (F.step W st1) h1) (fun r s₃ p=>Post.of_step st1 p) fun _ _ x=>x
abbrev PostT (h₀:Heap) (src:Option Addr) (M:List Addr) (s:Shared) (Q:Bool→Pi→Prop) (b:Bool) (s':Shared):Prop:=∃ π',Q b π'∧Step src s s'∧WI h₀ src M s' π'
theorem PostT.of_step {src:Option Addr}{M:List Addr}{s s₁ s₂:Shared}{Q:Bool→Pi→Prop}{b:Bool}(st:Step src s s₁) (p:PostT h₀ src M s₁ Q b s₂):PostT h₀ src M s Q b s₂:=let ⟨π',h1,h2,h3⟩:=p;⟨π',h1,st.trans h2,h3⟩
theorem sndT_ite {c a b:Expr}{c' a' b':Ex} {pos}(hc:SndT prog w fns h₀ k sc c c') (ha:SndT prog w fns h₀ k sc a a') (hb:SndT prog w fns h₀ k sc b b'):
  SndT prog w fns h₀ k sc (.IfExp c a b pos) (.ite c' a' b'):=by
 intro src M env A s ρ π Q hsc hA W F h
 refine isTrue_IfExp (wpAny_mono (hc src M env A s ρ π (fun t π=>if t=true then wE a' (Ret FN k) ρ π _ else wE b' (Ret FN k) ρ π _) hsc hA W F h) (fun t s₁ p=>?_) fun _ _ x=>x)
 obtain ⟨π₁,h1,st1,W1⟩:=p
 cases t with
 | true=>exact wpAny_mono (ha src M env A s₁ ρ π₁ _ hsc hA W1 (F.step W st1) h1) (fun r s₃ p=>PostT.of_step st1 p) fun _ _ x=>x
 | false=>exact wpAny_mono (hb src M env A s₁ ρ π₁ _ hsc hA W1 (F.step W st1) h1) (fun r s₃ p=>PostT.of_step st1 p) fun _ _ x=>x
theorem compB_cons {g:Ex→Ex→Ex}{f:Expr→Option Ex}{x y:Expr}{r:List Expr}{e:Ex}(h:compB g f (x::y::r)=some e):∃ x' r',f x=some x'∧compB g f (y::r)=some r'∧g x' r'=e:=by
 obtain ⟨x',hx,h⟩:=bindI h
 obtain ⟨r',hr,h⟩:=bindI h
 exact ⟨x',r',hx,hr,Option.some.inj h⟩
theorem onB_and (o:Option Bool) (X:Prop) (Q:Bool→Prop):(onB o fun t=>if t=true then X else onB o Q)=onB o fun t=>if t=true then X else Q false:=by
 cases o with
 | none=>rfl
 | some b=>cases b <;> rfl
theorem onB_or (o:Option Bool) (X:Prop) (Q:Bool→Prop):(onB o fun t=>if t=true then onB o Q else X)=onB o fun t=>if t=true then Q true else X:=by
 cases o with
 | none=>rfl
 | some b=>cases b <;> rfl
section
variable {f:Expr→Option Ex}
theorem snd_and (IH:∀ pe e,f pe=some e→SndE prog w fns h₀ k sc pe e) {pos}{es:List Expr}:∀ {e:Ex},compB .and f es=some e→SndE prog w fns h₀ k sc (.BoolOp .And es pos) e:=by
 induction es with
 | nil=>exact fun hc=>nomatch hc
 | cons x r ih=>cases r with
  | nil=>exact fun hc src M env A s ρ π Q hsc hA W F h=>BoolOp_one (IH x _ hc src M env A s ρ π Q hsc hA W F h)
  | cons y r=>
   intro e hc
   obtain ⟨x',r',hx,hr,rfl⟩:=compB_cons hc
   intro src M env A s ρ π Q hsc hA W F h
   refine BoolOp_and (wpAny_mono (IH x x' hx src M env A s ρ π _ hsc hA W F h) (fun v s₁ p=>?_) fun _ _ x=>x)
   obtain ⟨d,π₁,h1,r1,st1,W1⟩:=p
   obtain ⟨t,ht,h1⟩:=onB_inv h1
   refine truthy_snd r1 ht fun tk=>?_
   cases t with
   | true=>exact wpAny_mono (ih hr src M env A {s₁ with toks:=tk} ρ π₁ _ hsc hA (W1.toks _) (F.step W (st1.trans (Step.toks _ _))) h1) (fun r s₃ p=>Post.of_step (st1.trans (Step.toks _ _)) p) fun _ _ x=>x
   | false=>exact Post.of_step st1 (psame W1 r1 h1)
theorem snd_or (IH:∀ pe e,f pe=some e→SndE prog w fns h₀ k sc pe e) {pos}{es:List Expr}:∀ {e:Ex},compB .or f es=some e→SndE prog w fns h₀ k sc (.BoolOp .Or es pos) e:=by
 induction es with
 | nil=>exact fun hc=>nomatch hc
 | cons x r ih=>cases r with
  | nil=>exact fun hc src M env A s ρ π Q hsc hA W F h=>BoolOp_one (IH x _ hc src M env A s ρ π Q hsc hA W F h)
  | cons y r=>
   intro e hc
   obtain ⟨x',r',hx,hr,rfl⟩:=compB_cons hc
   intro src M env A s ρ π Q hsc hA W F h
   refine BoolOp_or (wpAny_mono (IH x x' hx src M env A s ρ π _ hsc hA W F h) (fun v s₁ p=>?_) fun _ _ x=>x)
   obtain ⟨d,π₁,h1,r1,st1,W1⟩:=p
   obtain ⟨t,ht,h1⟩:=onB_inv h1
   refine truthy_snd r1 ht fun tk=>?_
   cases t with
   | false=>exact wpAny_mono (ih hr src M env A {s₁ with toks:=tk} ρ π₁ _ hsc hA (W1.toks _) (F.step W (st1.trans (Step.toks _ _))) h1) (fun r s₃ p=>Post.of_step (st1.trans (Step.toks _ _)) p) fun _ _ x=>x
   | true=>exact Post.of_step st1 (psame W1 r1 h1)
noncomputable def SndTw (prog:Program) (w:World) (fns:List Nat) (h₀:Heap) (k:Nat) (sc:Scope) (pe:Expr) (e:Ex):Prop:=
 ∀ (src:Option Addr) (M:List Addr) (env:PySem.Env) (A:Around) (s:Shared) (ρ:Env) (π:Pi) (Q:Bool→Pi→Prop) (whole:Sem Value),env.scope=sc→Good A k→WI h₀ src M s π→FI prog w fns src M env s ρ→
  wE e (Ret FN k) ρ π (fun d π=>onB (truth d) fun t=>Q t π)→wpAny (model prog w) A (isTrue pe env whole) (PostT h₀ src M s Q) (fun _ _=>False) s
theorem sndT_and (IT:∀ pe e,f pe=some e→SndT prog w fns h₀ k sc pe e) {pos}{es:List Expr}:∀ {e:Ex},compB .and f es=some e→SndTw prog w fns h₀ k sc (.BoolOp .And es pos) e:=by
 induction es with
 | nil=>exact fun hc=>nomatch hc
 | cons x r ih=>cases r with
  | nil=>
   intro e hc src M env A s ρ π Q whole hsc hA W F h
   refine isTrue_and (wpAny_mono (IT x e hc src M env A s ρ π Q hsc hA W F h) (fun c s₁ p=>?_) fun _ _ x=>x)
   cases c with
   | true=>exact isTrue_and_nil p
   | false=>exact p
  | cons y r=>
   intro e hc
   obtain ⟨x',r',hx,hr,rfl⟩:=compB_cons hc
   intro src M env A s ρ π Q whole hsc hA W F h
   refine isTrue_and (wpAny_mono (IT x x' hx src M env A s ρ π (fun t π=>if t=true then wE r' (Ret FN k) ρ π (fun d π=>onB (truth d) fun t=>Q t π) else Q false π) hsc hA W F
    (Eq.mp (congrArg (wE x' (Ret FN k) ρ π) (funext fun d=>funext fun π=>onB_and (truth d) _ fun t=>Q t π)) h)) (fun c s₁ p=>?_) fun _ _ x=>x)
   obtain ⟨π₁,h1,st1,W1⟩:=p
   cases c with
   | true=>exact wpAny_mono (ih hr src M env A s₁ ρ π₁ Q whole hsc hA W1 (F.step W st1) h1) (fun b s₃ p=>PostT.of_step st1 p) fun _ _ x=>x
   | false=>exact ⟨π₁,h1,st1,W1⟩
theorem sndT_or (IT:∀ pe e,f pe=some e→SndT prog w fns h₀ k sc pe e) {pos}{es:List Expr}:∀ {e:Ex},compB .or f es=some e→SndTw prog w fns h₀ k sc (.BoolOp .Or es pos) e:=by
 induction es with
 | nil=>exact fun hc=>nomatch hc
 | cons x r ih=>cases r with
  | nil=>
   intro e hc src M env A s ρ π Q whole hsc hA W F h
   refine isTrue_or (wpAny_mono (IT x e hc src M env A s ρ π Q hsc hA W F h) (fun c s₁ p=>?_) fun _ _ x=>x)
   cases c with
   | true=>exact p
   | false=>exact isTrue_or_nil p
  | cons y r=>
   intro e hc
   obtain ⟨x',r',hx,hr,rfl⟩:=compB_cons hc
   intro src M env A s ρ π Q whole hsc hA W F h
   refine isTrue_or (wpAny_mono (IT x x' hx src M env A s ρ π (fun t π=>if t=true then Q true π else wE r' (Ret FN k) ρ π (fun d π=>onB (truth d) fun t=>Q t π)) hsc hA W F
    (Eq.mp (congrArg (wE x' (Ret FN k) ρ π) (funext fun d=>funext fun π=>onB_or (truth d) _ fun t=>Q t π)) h)) (fun c s₁ p=>?_) fun _ _ x=>x)
   obtain ⟨π₁,h1,st1,W1⟩:=p
   cases c with
   | false=>exact wpAny_mono (ih hr src M env A s₁ ρ π₁ Q whole hsc hA W1 (F.step W st1) h1) (fun b s₃ p=>PostT.of_step st1 p) fun _ _ x=>x
   | true=>exact ⟨π₁,h1,st1,W1⟩
end
end
section
variable (prog:Program) (w:World) (fns:List Nat) (h₀:Heap) (K:Frag) (k:Nat)
noncomputable def CallOk:Prop:=∀ (src:Option Addr) (M:List Addr) (A:Around) (s:Shared) (π:Pi) (Q:D→Pi→Prop) (i:Nat) (fn:Fn) (name:Str) (ow fz:List Nat) (a:Addr) (vs:List Value) (ds:List D),
 Good A k→WI h₀ src M s π→getF FN i=some fn→compFn fns ow fz K name=some fn→nsIn K mainGlobals name=some (some (.ref a))→RepL prog w fns src M s.heap vs ds→
 Ret FN k (.fn i) ds π Q→wpAny (model prog w) A (call (.ref a) vs) (Post prog w fns h₀ src M s Q) (fun _ _=>False) s
noncomputable def LamCallOk:Prop:=∀ (src:Option Addr) (M:List Addr) (A:Around) (s:Shared) (π:Pi) (Q:D→Pi→Prop) (a:Addr) (b:Ex) (x:Nat) (d:D),
 Good A k→WI h₀ src M s π→Rep prog w fns src M s.heap (.ref a) (.lam b x d)→Ret FN k (.lam b x d) [] π Q→
 wpAny (model prog w) A (call (.ref a) []) (Post prog w fns h₀ src M s Q) (fun _ _=>False) s
end
section
variable {prog:Program}{w:World}{fns:List Nat}{h₀:Heap}{k:Nat}{K:Frag}{mg mb:Str→Option Value}{sc:Scope}
structure FnOk (K:Frag) (f:FuncData):Prop where
 kind:f.scope.kind=.function
 gen:f.scope.isGenerator=false
 co:f.scope.isCoroutine=false
 clo:f.closure=[]
 glob:f.globals=mainGlobals
 bi:f.builtins=builtinsNs
 code:codeIn K f.code f.qualname=true
 po:f.params.posonlyargs=[]
 va:f.params.vararg=none
 ko:f.params.kwonlyargs=[]
 kw:f.params.kwarg=none
 nd:(f.scope.names.map (·.1)).Nodup
 free:∀ p∈f.scope.names,p.2≠NameKind.free
 lam:lamScope f.scope=true→f.code=.ref lamCode∧f.qualname="_law_bare_flat"
theorem isNone_inv {α:Type}{o:Option α}(h:o.isNone=true):o=none:=Option.isNone_iff_eq_none.mp h
theorem fnOk_inv {f:FuncData}(h:fnOk K f=true):FnOk K f:=by
 obtain ⟨h1,h⟩:=band h;obtain ⟨h2,h⟩:=band h;obtain ⟨h3,h⟩:=band h;obtain ⟨h4,h⟩:=band h;obtain ⟨h5,h⟩:=band h;obtain ⟨h6,h⟩:=band h;obtain ⟨h7,h⟩:=band h
 obtain ⟨h8,h⟩:=band h;obtain ⟨h9,h⟩:=band h;obtain ⟨h10,h⟩:=band h;obtain ⟨h11,h⟩:=band h;obtain ⟨h12,h⟩:=band h
 exact ⟨eq_of_beq h1,eq_of_beq h2,eq_of_beq h3,List.isEmpty_iff.mp h4,of_decide_eq_true h5,of_decide_eq_true h6,h7,List.isEmpty_iff.mp h8,isNone_inv h9,List.isEmpty_iff.mp h10,isNone_inv h11,
  (of_decide_eq_true h12).1,(of_decide_eq_true h12).2,fun q=>(Bool.or_eq_true_iff.mp h).elim (fun q2=>nomatch q.symm.trans (bnot q2)) fun q2=>⟨eq_of_beq (band q2).1,eq_of_beq (band q2).2⟩⟩
inductive CompFnI (fns ow fz:List Nat) (K:Frag) (name:Str) (fn:Fn):Prop
 | mk (id:encS name=some fn.id) (a:Addr) (o:Obj) (f:FuncData) (body:List Stmt) (hns:nsIn K mainGlobals name=some (some (.ref a))) (hl:K.lookup a=some o) (hd:o.data=.func f) (ok:FnOk K f) (hb:f.body=.stmts body)
   (hp:parNs f.scope f.params.args=some fn.ps) (hdf:dflK K f.defaults=some fn.dfl) (hst:compS.compSs (compS fns ow fz (compE fns 40) 40 f.scope) body=some fn.body) (hnd:(fn.ps.map (·.2)).Nodup)
theorem vRef_inv {v:Value}{a:Addr}(h:vRef v=some a):v=.ref a:=by cases v <;> cases h;rfl
theorem dFunc_inv {v:Data}{a:FuncData}(h:dFunc v=some a):v=.func a:=by cases v <;> cases h;rfl
theorem bodyS_inv {v:FuncBody}{a:List Stmt}(h:bodyS v=some a):v=.stmts a:=by cases v <;> cases h;rfl
theorem compFn_data {ow fz:List Nat}{name:Str}{fn:Fn}(h:compFn fns ow fz K name=some fn):CompFnI fns ow fz K name fn:=by
 obtain ⟨r,h1,h⟩:=bindI h
 obtain ⟨v,h2,h⟩:=bindI h
 obtain ⟨a,h3,h⟩:=bindI h
 obtain ⟨o,h4,h⟩:=bindI h
 obtain ⟨f,h5,h⟩:=bindI h
 obtain ⟨h6,h⟩:=gdI h
 obtain ⟨body,h7,h⟩:=bindI h
 obtain ⟨i,h8,h⟩:=bindI h
 obtain ⟨ps,h9,h⟩:=bindI h
 obtain ⟨dfl,h10,h⟩:=bindI h
 obtain ⟨b,h11,h⟩:=bindI h
 obtain ⟨h12,h⟩:=gdI h
 cases h
 exact ⟨h8,a,o,f,body,by rw [h1,h2,vRef_inv h3],h4,dFunc_inv h5,fnOk_inv h6,bodyS_inv h7,h9,h10,h11,of_decide_eq_true h12⟩
theorem getF_id {l:List Fn}{i:Nat}{fn:Fn}(h:getF l i=some fn):fn.id=i:=by
 induction l with
 | nil=>cases h
 | cons f r ih=>
  have h:(if i=f.id then some f else getF r i)=some fn:=h
  by_cases e:i=f.id
  ·rw [if_pos e] at h;cases h;exact e.symm
  ·rw [if_neg e] at h;exact ih h
theorem gName_data {x:Str}{i:Nat}(h:gName sc x=some i):(x==("__debug__":Str))=false∧sc.names.lookup x=some .globalImplicit∧encS x=some i:=by
 obtain ⟨h1,h⟩:=gdI h
 exact ⟨bnot (band h1).1,eq_of_beq (band h1).2,h⟩
theorem starEach_len {f:Expr→Option Ex}{env:PySem.Env}{es:List Expr}:∀ {es':Exs},compL f es=some es'→(starEach es env).length=es.length:=by
 induction es with
 | nil=>exact fun _=>rfl
 | cons e es ih=>
  intro es' hc
  obtain ⟨e',es'',he,hes,rfl,hst⟩:=compL_inv hc
  rw [starEach_one hst,List.length_cons,List.length_cons,ih hes]
theorem evalArgs_of {fv:Value}{l:List (Bool×Sem Value)}{A:Around}{s:Shared}{Q:List Value→Shared→Prop} {E}(hp:l.any (·.1)=false) (hl:l≠[]) (h:wpAny (model prog w) A (spliced l) Q E s):
  wpAny (model prog w) A (evalArgs fv true l []) (fun a s'=>a.kw=[]∧Q a.pos s') E s:=
 match l,hl,hp,h with
 | [],hl,_,_=>absurd rfl hl
 | (false,x)::rest,_,_,h=>evalArgs_plain (wpAny_mono h (fun vs s' p=>⟨rfl,p⟩) fun _ _ x=>x)
 | (true,x)::rest,_,hp,_=>nomatch hp
theorem evalArgs_each {f:Expr→Option Ex}(IH:∀ pe e,f pe=some e→SndE prog w fns h₀ k sc pe e){pos:Pos}{es:List Expr}{es':Exs}(hc:compL f es=some es') (hne:es≠[])
  (fv:Value) (src:Option Addr) (M:List Addr) (env:PySem.Env) (A:Around) (s:Shared) (ρ:Env) (π:Pi) (Q:List D→Pi→Prop)
  (hsc:env.scope=sc) (hA:Good A k) (W:WI h₀ src M s π) (F:FI prog w fns src M env s ρ) (h:wEs es' (Ret FN k) ρ π Q):
  wpAny (model prog w) A (evalArgs fv true (backTo pos (starEach es env)) []) (fun a s'=>a.kw=[]∧PostL prog w fns h₀ src M s es.length Q a.pos s') (fun _ _=>False) s:=
 evalArgs_of ((backTo_plain _).trans (starEach_plain env hc)) (fun q=>hne (List.length_eq_zero_iff.mp ((starEach_len (env:=env) hc).symm.trans ((List.length_map _).symm.trans (congrArg List.length q))))) (snd_each IH hsc hA hc W F h)
theorem kw_nil (pos:Pos) (env:PySem.Env):backToKw pos (keywordEach [] env)=[]:=rfl
theorem fn_at (G:Gd prog w fns K mg mb h₀){g:Str}{gp:Pos}{i:Nat}{env:PySem.Env}{A:Around}{s:Shared}{π:Pi} {src M}{ρ:Env}{Q:Value→Shared→Prop} {E}(hg:gName sc g=some i) (hi:fns.contains i=true) (hsc:env.scope=sc) (W:WI h₀ src M s π) (F:FI prog w fns src M env s ρ)
  (h:∀ fn ow fz a o fd,getF FN i=some fn→compFn fns ow fz K g=some fn→nsIn K mainGlobals g=some (some (.ref a))→K.lookup a=some o→o.data=.func fd→Q (.ref a) s):wpAny (model prog w) A (eval (.Name g gp) env) Q E s:=by
 obtain ⟨hdb,hk,he⟩:=gName_data hg
 obtain ⟨fn,name,ow,fz,h1,h2,h3⟩:=G.fnOk i hi
 obtain ⟨hid,a,o,fd,body,hns,hl,hd,_⟩:=compFn_data h3
 obtain rfl:g=name:=encS_inj he (h2▸hid)
 exact Name_function_global F.kind (((congrArg (fun sc:Scope=>sc.names.lookup g) hsc).trans hk)) (loadGlobal_global (env:=env) (F.glob▸G.g.keeps W.base) (mg_of G.X G.g hns) (h fn ow fz a o fd h1 h3 hns hl hd)) hdb
theorem snd_call (G:Gd prog w fns K mg mb h₀) (C:CallOk prog w fns h₀ K k){f:Expr→Option Ex}(IH:∀ pe e,f pe=some e→SndE prog w fns h₀ k sc pe e){g:Str}{gp pos:Pos}{i:Nat}{es:List Expr}{es':Exs}
  (hg:gName sc g=some i) (hi:fns.contains i=true) (hc:compL f es=some es') (hne:es≠[]):SndE prog w fns h₀ k sc (.Call (.Name g gp) es [] pos) (.call i es'):=by
 intro src M env A s ρ π Q hsc hA W F h
 refine wpAny_Call_Name_kw (fn_at G hg hi hsc W F fun fn ow fz a o fd h1 h3 hns hl hd=>?_)
 rw [kw_nil]
 refine callWith_function (o:=o) (fd:=fd) (wpAny_mono (evalArgs_each IH hc hne _ src M env A s ρ π _ hsc hA W F h) (fun x s₁ p=>?_) fun _ _ x=>x)
 obtain ⟨hkw,hl',ds,π₁,h4,r1,st1,W1⟩:=p
 refine ⟨⟨W1.base _ _ (G.X _ _ hl),hd⟩,?_⟩
 rw [hkw]
 exact wpAny_mono (C src M A s₁ π₁ Q i fn g ow fz a x.pos ds hA W1 h1 h3 hns r1 h4) (fun v s₂ p=>Post.of_step st1 p) fun _ _ x=>x
theorem snd_bname (G:Gd prog w fns K mg mb h₀){g:Str}{gp:Pos}{v:Value}{env:PySem.Env}{A:Around}{s:Shared}{π:Pi} {src M}{ρ:Env}{Q:Value→Shared→Prop} {E}
  (hg:(gName sc g).isSome=true) (hsc:env.scope=sc) (W:WI h₀ src M s π) (F:FI prog w fns src M env s ρ)
  (hb:g="len"∨g="list"∨g="tuple"∨g="str"∨g="int"∨g="max"∨g="isinstance"∨g="repr"∨g="bool"∨g="range"∨g="enumerate") (hv:bootBuiltins g=some v) (h:Q v s):
  wpAny (model prog w) A (eval (.Name g gp) env) Q E s:=by
 obtain ⟨i,hi⟩:=Option.isSome_iff_exists.mp hg
 obtain ⟨hdb,hk,he⟩:=gName_data hi
 exact Name_function_global F.kind (((congrArg (fun sc:Scope=>sc.names.lookup g) hsc).trans hk)) (loadGlobal_builtin (env:=env) (F.glob▸G.g.keeps W.base) (mg_none_of G.X G.g (G.blOk g hb)) (F.bi▸G.b.keeps W.base)
  ((G.bi g (by rintro rfl;revert hb;decide)).trans hv) h) hdb
end
section
variable {prog:Program}{w:World}{fns:List Nat}{h₀:Heap}{k:Nat}{K:Frag}{mg mb:Str→Option Value}{sc:Scope}
theorem enc_name {x:Str}{i:Nat}(y:Str) (h:encS x=some i) (hy:encS y=some i):x=y:=encS_inj h hy
theorem biName {g:Str}{f:Nat}(he:encS g=some f) (hf:f=23881070∨f=6113817460∨f=1599698136165∨f=24343666∨f=23686772∨f=23945592∨f=6214217842):
  (g="len"∨g="list"∨g="tuple"∨g="str"∨g="int"∨g="max"∨g="isinstance"∨g="repr"∨g="bool"∨g="range"∨g="enumerate")∧bootBuiltins g=some (biVal f):=by
 rcases hf with rfl | rfl | rfl | rfl | rfl | rfl | rfl
 ·have:=enc_name "len" he (by decide +kernel);subst this;exact ⟨by simp,by decide +kernel⟩
 ·have:=enc_name "list" he (by decide +kernel);subst this;exact ⟨by simp,by decide +kernel⟩
 ·have:=enc_name "tuple" he (by decide +kernel);subst this;exact ⟨by simp,by decide +kernel⟩
 ·have:=enc_name "str" he (by decide +kernel);subst this;exact ⟨by simp,by decide +kernel⟩
 ·have:=enc_name "int" he (by decide +kernel);subst this;exact ⟨by simp,by decide +kernel⟩
 ·have:=enc_name "max" he (by decide +kernel);subst this;exact ⟨by simp,by decide +kernel⟩
 ·have:=enc_name "repr" he (by decide +kernel);subst this;exact ⟨by simp,by decide +kernel⟩
theorem knownBi_or {i:Nat}(h:knownBi.contains i=true):i=23881070∨i=6113817460∨i=1599698136165∨i=24343666∨i=23686772∨i=23945592∨i=6214217842:=by
 simpa [knownBi] using h
theorem callWith_known {fv:Value}{pos:Pos}{l:List (Bool×Sem Value)}{A:Around}{s:Shared}{Q:Value→Shared→Prop} {E}(hv:(∃ id,fv=.builtin id)∨∃ T,fv=.type T) (hp:l.any (·.1)=false)
  (h:wpAny (model prog w) A (evalArgs fv true l []) (fun a s₁=>wpAny (model prog w) A (call fv ([]++a.pos) a.kw) Q E s₁) E s):wpAny (model prog w) A (callWith pos fv [] l []) Q E s:=by
 rcases hv with ⟨id,rfl⟩ | ⟨T',rfl⟩
 ·exact callWith_builtin hp h
 ·exact PySem.callWith_type hp h
theorem snd_bi (G:Gd prog w fns K mg mb h₀){f:Expr→Option Ex}(IH:∀ pe e,f pe=some e→SndE prog w fns h₀ k sc pe e){g:Str}{gp pos:Pos}{i:Nat}{es:List Expr}{es':Exs}
  (hg:gName sc g=some i) (hi:knownBi.contains i=true) (hc:compL f es=some es') (hne:es≠[]):SndE prog w fns h₀ k sc (.Call (.Name g gp) es [] pos) (.bi i es'):=by
 intro src M env A s ρ π Q hsc hA W F h
 obtain ⟨hdb,hk,he⟩:=gName_data hg
 have hor:=knownBi_or hi
 obtain ⟨hb,hv⟩:=biName he hor
 have hq:(∃ id,biVal i=.builtin id)∨∃ T,biVal i=.type T:=by
  rcases hor with rfl | rfl | rfl | rfl | rfl | rfl | rfl
  ·exact .inl ⟨_,rfl⟩
  ·exact .inr ⟨_,rfl⟩
  ·exact .inr ⟨_,rfl⟩
  ·exact .inr ⟨_,rfl⟩
  ·exact .inr ⟨_,rfl⟩
  ·exact .inl ⟨_,rfl⟩
  ·exact .inl ⟨_,rfl⟩
 refine wpAny_Call_Name_kw (snd_bname G (hg▸rfl) hsc W F hb hv ?_)
 rw [kw_nil]
 refine callWith_known hq ((backTo_plain _).trans (starEach_plain env hc)) (wpAny_mono (evalArgs_each IH hc hne _ src M env A s ρ π _ hsc hA W F h) (fun x s₁ p=>?_) fun _ _ x=>x)
 obtain ⟨hkw,hl',ds,π₁,h4,r1,st1,W1⟩:=p
 rw [hkw]
 exact wpAny_mono (bi_snd hA W1 r1 hor h4) (fun v s₂ p=>Post.of_step st1 p) fun _ _ x=>x
theorem snd_isb (G:Gd prog w fns K mg mb h₀){g t:Str}{gp tp pos:Pos}{v:Expr}{v':Ex}(hv:SndE prog w fns h₀ k sc v v')
  (hg:gName sc g=some 1706903273020983629210469) (ht:t="bool") (htg:(gName sc t).isSome=true) (hst:∀ x p,v≠.Starred x p):
  SndE prog w fns h₀ k sc (.Call (.Name g gp) [v,.Name t tp] [] pos) (.bi 1706903273020983629210469 (.cons v' .nil)):=by
 intro src M env A s ρ π Q hsc hA W F h
 obtain ⟨hdb,hk,he⟩:=gName_data hg
 obtain rfl:=enc_name "isinstance" he (by decide +kernel)
 subst ht
 refine wpAny_Call_Name_kw (snd_bname G (by rw [hg];rfl) hsc W F (by simp) (v:=.builtin "isinstance") (by decide +kernel) ?_)
 rw [kw_nil]
 have hb:backTo pos (starEach [v,.Name "bool" tp] env)=[(false,eval v env),(false,eval (.Name "bool" tp) env)]:=by
  rw [starEach_one hst];rfl
 rw [hb]
 refine callWith_builtin rfl (evalArgs_plain (spliced_cons (wpAny_mono (hv src M env A s ρ π _ hsc hA W F h) (fun u s₁ p=>?_) fun _ _ x=>x)))
 obtain ⟨d,π₁,h1,r1,st1,W1⟩:=p
 refine spliced_cons (snd_bname G htg hsc W1 (F.step W st1) (by simp) (v:=.type "bool") (by decide +kernel) (spliced_nil ?_))
 exact wpAny_mono (isb_snd hA W1 r1 h1) (fun v s₂ p=>Post.of_step st1 p) fun _ _ x=>x
abbrev pairH (h:Heap) (x y:Int) (t u:Tok):Heap:=h.push {cls:=.type "list",data:=.seq [Value.int x t,Value.int y u].toArray}
theorem pool_new {src:Option Addr}{M:List Addr}{s:Shared}{π:Pi}{x y:Int}{t u:Tok}(W:WI h₀ src M s π):WI h₀ (some s.heap.objs.size) (s.heap.objs.size::M) {s with heap:=pairH s.heap x y t u} (x,y):=
 have hn:=fresh_none (h:=s.heap) (Nat.le_refl _)
 (W.add (s':={s with heap:=pairH s.heap x y t u}) (Nat.le_refl _) (Heap.get?_push_size _ rfl) fun _ _ e=>Heap.get?_push_of_some _ e).re (fun _ m=>m) (List.mem_cons_of_mem _ W.tabM) fun a q=>by
  cases q
  exact ⟨List.mem_cons_self,W.notab hn,t,u,_,Heap.get?_push_size _ rfl,rfl,_,rfl⟩
theorem snd_callp (G:Gd prog w fns K mg mb h₀) (C:CallOk prog w fns h₀ K k){g:Str}{gp lp pos:Pos}{i:Nat}{a b:Expr}{a' b':Ex}(ha:SndE prog w fns h₀ k sc a a') (hb:SndE prog w fns h₀ k sc b b')
  (hg:gName sc g=some i) (hi:fns.contains i=true) (sa:∀ x p,a≠.Starred x p) (sb:∀ x p,b≠.Starred x p):SndE prog w fns h₀ k sc (.Call (.Name g gp) [.List [a,b] lp] [] pos) (.callp i a' b'):=by
 intro src M env A s ρ π Q hsc hA W F h
 refine wpAny_Call_Name_kw (fn_at G hg hi hsc W F fun fn ow fz fa o fd h1 h3 hns hl hd=>?_)
 have hbl:backTo lp (starEach [a,b] env)=[(false,eval a env),(false,eval b env)]:=by rw [starEach_one sa,starEach_one sb];rfl
 show wpAny _ A (callWith pos (.ref fa) [] [(false,eval (.List [a,b] lp) env)] []) _ _ s
 refine callWith_function (o:=o) (fd:=fd) (evalArgs_plain (spliced_cons (List_ ?_)))
 rw [hbl]
 refine spliced_cons (wpAny_mono (snd_two ha hb hsc hA W F h fun va vb s₂ d e π₂ h5 r1 r2 st W2=>?_) (fun va s₁ p=>spliced_cons (wpAny_mono p (fun vb s₂ p=>spliced_nil p) fun _ _ x=>x)) fun _ _ x=>x)
 refine wpAny_newList (spliced_nil ?_) (by show 2≤2 ^ 24;decide)
 obtain ⟨x,y,t,u,rfl,rfl,h5⟩:=ints_inv r1 r2 h5
 have hk3:∀ a o,s₂.heap.get? a=some o→(pairH s₂.heap x y t u).get? a=some o:=fun a o e=>Heap.get?_push_of_some _ e
 have hn:=fresh_none (h:=s₂.heap) (Nat.le_refl _)
 refine ⟨⟨hk3 _ _ (W2.base _ _ (G.X _ _ hl)),hd⟩,wpAny_mono (C (some s₂.heap.objs.size) (s₂.heap.objs.size::M) A _ (x,y) _ i fn g ow fz fa [.ref s₂.heap.objs.size] [.pool] hA (pool_new W2) h1 h3 hns (.cons (.pool rfl) .nil) h5) (fun v s₅ p=>?_) fun _ _ x=>x⟩
 obtain ⟨r,π₅,⟨hnp,hq⟩,r5,st5,W5⟩:=p
 have keep:∀ a o,a≠lamTab→s₂.heap.get? a=some o→s₅.heap.get? a=some o:=fun a o q1 e=>st5.keep a o q1 (fun q=>nosome hn (Option.some.inj q▸e)) (hk3 _ _ e)
 exact ⟨r,π₂,hq,(r5.pools hnp).weak fun a hm q=>hm (List.mem_cons_of_mem _ q),st.trans ⟨st5.gens,st5.os,fun a o q1 _=>keep a o q1⟩,
  W5.re (fun _=>List.mem_cons_of_mem _) W2.tabM fun a q=>⟨(W2.pool a q).1,(W2.pool a q).2.1,(W2.pool a q).2.2.keep fun o=>keep a o (W2.pool a q).2.1⟩⟩
theorem lamW_inv {d:D}{f:Ex→Nat→D→Prop}(h:lamW d f):∃ b x e,d=.lam b x e∧f b x e:=by
 cases d with
 | lam b x e=>exact ⟨b,x,e,rfl,h⟩
 | _=>exact h.elim
theorem isDictD_inv {d:D}(h:isDictD d=true):∃ ks ds,d=.dict ks ds:=by
 cases d with
 | dict ks ds=>exact ⟨ks,ds,rfl⟩
 | _=>cases h
theorem snd_callv (C:LamCallOk prog w fns h₀ k){f i:Expr}{p pos:Pos}{f':Ex}(hf:SndE prog w fns h₀ k sc (.Subscript f i p) f'):SndE prog w fns h₀ k sc (.Call (.Subscript f i p) [] [] pos) (.callv f'):=by
 intro src M env A s ρ π Q hsc hA W F h
 show wpAny _ A (eval (.Subscript f i p) env >>= fun v=>callWith pos v [] [] []) _ _ s
 refine wpAny_bind (wpAny_mono (hf src M env A s ρ π _ hsc hA W F h) (fun v s₁ p=>?_) fun _ _ x=>x)
 obtain ⟨d,π₁,h1,r1,st1,W1⟩:=p
 obtain ⟨b,x,e,rfl,h2⟩:=lamW_inv h1
 obtain ⟨a,c,cc,o,fd,v,rfl,ho,hd,_⟩:=r1.lam_inv
 exact callWith_function (evalArgs_nil3 ⟨⟨ho,hd⟩,wpAny_mono (C src M A s₁ π₁ Q _ b x e hA W1 r1 h2) (fun v s₂ p=>Post.of_step st1 p) fun _ _ x=>x⟩)
theorem snd_join {x:Str}{n:Nat}{sp apos pos:Pos}{a:Expr}{a':Ex}(ha:SndE prog w fns h₀ k sc a a') (sa:∀ x p,a≠.Starred x p) (hl:(apos.endLine==pos.line)=true):
  SndE prog w fns h₀ k sc (.Call (.Attribute (.Constant (.str x) n sp) "join" apos) [a] [] pos) (.join x.cps.toList a'):=by
 intro src M env A s ρ π Q hsc hA W F h
 have ex:x=T.s x.cps.toList:=by simp [T.s]
 refine Call_method1 rfl (by rw [starEach_one sa];rfl) hl (Constant_str ?_)
 refine ⟨"str","str.join",PySem.F.plainAttrs_str,PySem.F.slot_str_join,PySem.F.type_str_join,typeIs_str _ _ _,(fun a q=>by cases q),?_⟩
 refine callWith_builtin rfl (evalArgs_plain (spliced_cons (wpAny_mono (ha src M env A {s with toks:=s.toks+1} ρ π _ hsc hA (W.toks _) (F.step W (Step.toks _ _)) h) (fun v s₁ p=>spliced_nil ?_) fun _ _ x=>x)))
 obtain ⟨d,π₁,h1,r1,st1,W1⟩:=p
 have:=join_snd (A:=A) (tk:=s.toks) W1 r1 h1
 rw [←ex] at this
 exact wpAny_mono this (fun v s₂ p=>Post.of_step ((Step.toks _ _).trans st1) p) fun _ _ x=>x
theorem rep_str {h:Heap} {src M}{x:Str}{t:Tok}(hx:x.cps.toList.length≤16777216):Rep prog w fns src M h (.str x t) (.str x.cps.toList):=⟨t,hx,by rw [T.s]⟩
theorem strVals_rep {h:Heap} {src M}(l:List (Str×Tok)) (hl:∀ y∈l,y.1.length≤16777216):RepL prog w fns src M h (strValues l) ((l.map (·.1)).map fun x=>D.str x.cps.toList):=by
 induction l with
 | nil=>exact .nil
 | cons y l ih=>exact .cons (rep_str (hl _ List.mem_cons_self)) (ih fun y hm=>hl y (List.mem_cons_of_mem _ hm))
theorem wsum_len:∀ l:List (Nat×Nat),l.length≤StrLaws.wsum l
 | []=>Nat.le_refl _
 | p::r=>by have:=wsum_len r;simp only [StrLaws.wsum,List.length_cons];lia
theorem cuts_len (x y:Str) (hy:1≤y.length):(Builtin.Str.partsBetween x (Builtin.Str.occurrences x y 0 x.length (x.length+1)) y.length).length≤x.length+1:=by
 have hg:(Builtin.Str.glued y (Builtin.Str.partsBetween x (Builtin.Str.occurrences x y 0 x.length (x.length+1)) y.length)).length=x.length:=by rw [StrLaws.glued_between_self]
 rw [size_glued,length_partsBetween,Nat.add_sub_cancel] at hg
 rw [length_partsBetween]
 have:(Builtin.Str.occurrences x y 0 x.length (x.length+1)).length≤(Builtin.Str.occurrences x y 0 x.length (x.length+1)).length*y.length:=Nat.le_mul_of_pos_right _ hy
 lia
theorem strL_rep {h:Heap} {src M}(l:List (Str×Tok)) (ts:List T) (he:(l.map (·.1)).map (·.cps.toList)=ts) (hy:∀ x∈ts,x.length≤strBound):
  RepL prog w fns src M h (strValues l) (ts.map D.str):=by
 subst he
 rw [List.map_map (g:=D.str)]
 exact strVals_rep l fun y hm=>Nat.le_trans (hy y.1.cps.toList (List.mem_map_of_mem (List.mem_map_of_mem hm))) (by decide)
open Builtin.Str in
theorem split0_raw {A:Around}{E:Value→Shared→Prop}{s:Shared}{x:Str}{t:Tok}{Q:Value→Shared→Prop}
  (h:∀ l tk,l.map (·.1)=Txt.words x→Q (.ref s.heap.objs.size) {s with heap:=s.heap.push {cls:=.type "list",data:=.seq (strValues l).toArray},toks:=tk})
  (hsz:x.length≤sizeLine) (hsz2:(spaceWords x (x.length+1)).length≤sizeLine):
  wpAny (model prog w) A (call (.builtin "str.split") [.str x t]) Q E s:=by
 refine call_meets PySem.F.slot_str_split (typeIs_str _ _ _) PySem.F.entry_str_split (PySem.F.args_str_split_1 _) (meets_str_split_space x t hsz hsz2) ?_
 cases hw:spaceWords x (x.length+1)==[(0,x.length)]
 ·simp only [Bool.false_eq_true,if_false]
  rw [strsFrom_eq]
  exact h (numbered s.toks (PySem.wordsOf x)) _ ((numbered_texts _ _).trans (if_neg (ne_true_of_eq_false hw)).symm)
 ·simp only [if_true]
  exact h [(x,t)] s.toks (if_pos hw).symm
open Builtin.Str in
theorem split1_raw {A:Around}{E:Value→Shared→Prop}{s:Shared}{x:Str}{t:Tok}{Q:Value→Shared→Prop}{y:Str}{u:Tok}(hy:(y.length==0)=false)
  (h:∀ l tk,l.map (·.1)=Txt.split x y→Q (.ref s.heap.objs.size) {s with heap:=s.heap.push {cls:=.type "list",data:=.seq (strValues l).toArray},toks:=tk})
  (hsz:x.length≤sizeLine) (hsz2:(partsBetween x (occurrences x y 0 x.length (x.length+1)) y.length).length≤sizeLine):
  wpAny (model prog w) A (call (.builtin "str.split") [.str x t,.str y u]) Q E s:=by
 cases h1:(decide (x.length < y.length)||decide (strKind x < strKind y))
 ·cases hf:(occurrences x y 0 x.length (x.length+1)).isEmpty
  ·refine call_meets PySem.F.slot_str_split (typeIs_str _ _ _) PySem.F.entry_str_split (PySem.F.args_str_split_2 _ _) (meets_str_split_sep x y t u h1 hy hf hsz hsz2) ?_
   show wants Q E _ {s with toks:=_,heap:=s.heap.push {cls:=.type "list",data:=.seq (strsFrom s.toks (partsBetween x (occurrences x y 0 x.length (x.length+1)) y.length)).toArray}}
   rw [strsFrom_eq]
   exact h (numbered s.toks _) _ ((numbered_texts _ _).trans ((if_neg (ne_true_of_eq_false h1)).trans (if_neg (ne_true_of_eq_false hf))).symm)
  ·exact call_meets PySem.F.slot_str_split (typeIs_str _ _ _) PySem.F.entry_str_split (PySem.F.args_str_split_2 _ _) (meets_str_split_not_found x y t u h1 hy hf)
    (h [(x,t)] s.toks ((if_neg (ne_true_of_eq_false h1)).trans (if_pos hf)).symm)
 ·exact call_meets PySem.F.slot_str_split (typeIs_str _ _ _) PySem.F.entry_str_split (PySem.F.args_str_split_2 _ _) (meets_str_split_cannot_occur x y t u h1)
   (h [(x,t)] s.toks (if_pos h1).symm)
theorem newstrs {src:Option Addr}{M:List Addr}{s:Shared}{π:Pi}{Q:D→Pi→Prop}{l:List (Str×Tok)}{ts:List T}{tk:Tok}(W:WI h₀ src M s π) (he:(l.map (·.1)).map (·.cps.toList)=ts) (hy:∀ x∈ts,x.length≤strBound) (hq:Q (.lst (ts.map D.str)) π):
  Post prog w fns h₀ src M s Q (.ref s.heap.objs.size) {s with heap:=s.heap.push {cls:=.type "list",data:=.seq (strValues l).toArray},toks:=tk}:=by
 have hk:∀ a o,s.heap.get? a=some o→(s.heap.push {cls:=.type "list",data:=.seq (strValues l).toArray}).get? a=some o:=fun a o e=>Heap.get?_push_of_some _ e
 refine ⟨_,π,hq,.lst ⟨_,Heap.get?_push_size _ rfl,rfl,_,rfl⟩ (fun hm=>W.new hm) ?_,⟨rfl,rfl,fun a o _ _ e=>hk a o e⟩,W.grow hk⟩
 have:=strL_rep (prog:=prog) (w:=w) (fns:=fns) (src:=src) (M:=M) (h:=s.heap.push {cls:=.type "list",data:=.seq (strValues l).toArray}) l ts he hy
 simpa using this
section
variable {o:Expr}{o':Ex}{apos pos:Pos}{m:Nat}(ho:SndE prog w fns h₀ k sc o o') (hl:(apos.endLine==pos.line)=true)
include ho hl
theorem snd_split0 (hb:∀ env,attributeBase o "split" env (eval o env)=eval o env):SndE prog w fns h₀ k sc (.Call (.Attribute o "split" apos) [] [] pos) (.meth 1595319019892 o' none):=by
 intro src M env A s ρ π Q hsc hA W F h
 refine Call_method0 (hb env) hl (wpAny_mono (ho src M env A s ρ π _ hsc hA W F h) (fun v s₁ p=>?_) fun _ _ x=>x)
 obtain ⟨d,π₁,h1,r1,st1,W1⟩:=p
 obtain ⟨t,rfl,⟨h2,h3⟩,hq⟩:=onS_inv h1
 obtain ⟨tk,hx,rfl⟩:=r1.str_inv
 have hz:(T.s t).length≤sizeLine:=by rw [len_s];exact Nat.le_trans h2 sizeLine_big
 refine ⟨"str","str.split",PySem.F.plainAttrs_str,PySem.F.slot_str_split,PySem.F.type_str_split,typeIs_str _ _ _,nofun,?_⟩
 refine callWith_builtin rfl (evalArgs_nil3 (split0_raw (fun l tk he=>Post.of_step st1 (newstrs W1 (by rw [he];rfl) h3 hq)) hz ?_))
 have h4:=wsum_len (Builtin.Str.spaceWords (T.s t) ((T.s t).length+1))
 have h5:=(StrLaws.sw_weight (T.s t)).1
 have e:strBound=4000000:=rfl
 rw [len_s] at h4 h5 ⊢
 show _≤2 ^ 24
 lia
theorem snd_split1 {x:Str} {n p}(hb:∀ env,attributeBase o "split" env (eval o env)=eval o env):SndE prog w fns h₀ k sc (.Call (.Attribute o "split" apos) [.Constant (.str x) n p] [] pos) (.meth 1595319019892 o' (some x.cps.toList)):=by
 intro src M env A s ρ π Q hsc hA W F h
 refine Call_method1 (hb env) rfl hl (wpAny_mono (ho src M env A s ρ π _ hsc hA W F h) (fun v s₁ p=>?_) fun _ _ x=>x)
 obtain ⟨d,π₁,h1,r1,st1,W1⟩:=p
 obtain ⟨t,rfl,h4⟩:=onS_inv h1
 obtain ⟨c,hc,⟨h2,h3⟩,hq⟩:=oneC_inv h4
 obtain ⟨tk,hx,rfl⟩:=r1.str_inv
 obtain rfl:x=T.s [c]:=T.s_inj hc
 have hz:(T.s t).length≤sizeLine:=by rw [len_s];exact Nat.le_trans h2 sizeLine_big
 refine ⟨"str","str.split",PySem.F.plainAttrs_str,PySem.F.slot_str_split,PySem.F.type_str_split,typeIs_str _ _ _,nofun,?_⟩
 refine callWith_builtin rfl (evalArgs_plain (spliced_cons (Constant_str (spliced_nil (split1_raw rfl (fun l tk he=>Post.of_step (st1.trans (Step.toks _ _)) (newstrs (W1.toks _) (by rw [he];rfl) h3 hq)) hz ?_)))))
 refine Nat.le_trans (cuts_len (T.s t) (T.s [c]) (Nat.le_refl 1)) ?_
 rw [len_s]
 exact Nat.le_trans (Nat.succ_le_succ h2) (by decide)
theorem snd_lstrip {x:Str} {n p}(hb:∀ env,attributeBase o "lstrip" env (eval o env)=eval o env):SndE prog w fns h₀ k sc (.Call (.Attribute o "lstrip" apos) [.Constant (.str x) n p] [] pos) (.meth 400718107404656 o' (some x.cps.toList)):=by
 intro src M env A s ρ π Q hsc hA W F h
 refine Call_method1 (hb env) rfl hl (wpAny_mono (ho src M env A s ρ π _ hsc hA W F h) (fun v s₁ p=>?_) fun _ _ x=>x)
 obtain ⟨d,π₁,h1,r1,st1,W1⟩:=p
 obtain ⟨t,rfl,h1⟩:=onS_inv h1
 obtain ⟨c,hc,⟨h2,h3⟩,hq⟩:=oneC_inv h1
 obtain ⟨tk,hx,rfl⟩:=r1.str_inv
 obtain rfl:x=T.s [c]:=T.s_inj hc
 refine ⟨"str","str.lstrip",PySem.F.plainAttrs_str,PySem.F.slot_str_lstrip,PySem.F.type_str_lstrip,typeIs_str _ _ _,nofun,?_⟩
 refine callWith_builtin rfl (evalArgs_plain (spliced_cons (Constant_str (spliced_nil (SC.lstripChars (fun t' k'=>?_) (by rw [len_s];exact Nat.le_trans h2 sizeLine_big))))))
 exact Post.of_step (st1.trans (Step.toks s₁ (s₁.toks+1))) (pstr (x:=lstripT t [c]) (s:={s₁ with toks:=s₁.toks+1}) (W1.toks _) hq (Nat.le_trans h3 (by decide)))
end
theorem forIn_yield {α β:Type}(g:α→β→β){f:α→β→Sem (ForInStep β)}{l:List α}:∀ c:β,(∀ x∈l,∀ c,f x c=pure (.yield (g x c)))→forIn l c f=pure (l.foldl (fun c x=>g x c) c):=by
 induction l with
 | nil=>exact fun c h=>rfl
 | cons x l ih=>
  intro c h
  rw [List.forIn_cons,h x List.mem_cons_self,pure_bind]
  exact ih _ fun y hy=>h y (List.mem_cons_of_mem _ hy)
noncomputable def closF (env:PySem.Env) (acc:List (Str×Addr)) (x:Str×NameKind):List (Str×Addr):=
 match x.2==.free with
 | true=>(x.1,(env.cells.lookup x.1).getD 0)::acc
 | false=>acc
noncomputable def closL (env:PySem.Env) (names:List (Str×NameKind)):List (Str×Addr):=names.foldl (closF env) []
theorem closureFor_eq {scope:Scope}{env:PySem.Env}(hc:∀ x,(x,NameKind.free)∈scope.names→∃ c,env.cells.lookup x=some c):closureFor scope env=pure (closL env scope.names):=by
 simp only [closureFor]
 rw [forIn_yield (fun x acc=>closF env acc x) [] (fun x hx c=>by
  obtain ⟨n,kind⟩:=x
  cases hk:kind==NameKind.free with
  | false=>simp [hk,closF]
  | true=>
   obtain rfl:kind=.free:=eq_of_beq hk
   obtain ⟨a,ha⟩:=hc n hx
   simp [cellOf,ha,closF])]
 rfl
theorem closL_lookup {env:PySem.Env}{names:List (Str×NameKind)}{x:Str}{c:Addr}(hf:∀ x,(x,NameKind.free)∈names→∃ c,env.cells.lookup x=some c) (h:(closL env names).lookup x=some c):env.cells.lookup x=some c:=by
 have key:∀ (l:List (Str×NameKind)) (acc:List (Str×Addr)),(∀ p∈l,p∈names)→(∀ c,acc.lookup x=some c→env.cells.lookup x=some c)→∀ c,(l.foldl (closF env) acc).lookup x=some c→env.cells.lookup x=some c:=by
  intro l
  induction l with
  | nil=>exact fun acc _ ha=>ha
  | cons p l ih=>
   refine fun acc hl ha=>ih _ (fun q hq=>hl q (List.mem_cons_of_mem _ hq)) ?_
   have hp:=hl p List.mem_cons_self
   unfold closF
   cases hk:p.2==NameKind.free with
   | false=>exact ha
   | true=>
    intro c hc
    rw [List.lookup_cons] at hc
    cases hx:x==p.1 with
    | false=>rw [hx] at hc;exact ha c hc
    | true=>
     rw [hx] at hc
     obtain ⟨a,e⟩:=hf p.1 (by rw [←eq_of_beq hk];exact hp)
     rw [e] at hc
     rw [eq_of_beq hx,e];exact hc
 exact key names [] (fun _ m=>m) (fun _ e=>nomatch e) c h
theorem closL_has {env:PySem.Env}{names:List (Str×NameKind)}{x:Str}(h:(x,NameKind.free)∈names):∃ c,(closL env names).lookup x=some c:=by
 have key:∀ (l:List (Str×NameKind)) (acc:List (Str×Addr)),(x,NameKind.free)∈l∨(∃ c,acc.lookup x=some c)→∃ c,(l.foldl (closF env) acc).lookup x=some c:=by
  intro l
  induction l with
  | nil=>exact fun acc ha=>ha.resolve_left nofun
  | cons p l ih=>
   intro acc ha
   refine ih _ ?_
   unfold closF
   rcases ha with ha | ha
   ·rcases List.mem_cons.mp ha with e | ha
    ·right;rw [←e];exact ⟨_,List.lookup_cons_self⟩
    ·exact .inl ha
   ·right
    cases hk:p.2==NameKind.free with
    | false=>exact ha
    | true=>
     rw [List.lookup_cons]
     cases hx:x==p.1 with
     | false=>exact ha
     | true=>exact ⟨_,rfl⟩
 exact key names [] (.inl h)
theorem snd_get {o a b:Expr}{o' a' b':Ex}{apos pos:Pos}(ho:SndE prog w fns h₀ k sc o o') (ha:SndE prog w fns h₀ k sc a a') (hb:SndE prog w fns h₀ k sc b b')
  (hbs:∀ env,attributeBase o "get" env (eval o env)=eval o env) (hl:(apos.endLine==pos.line)=true) (sa:∀ x p,a≠.Starred x p) (sb:∀ x p,b≠.Starred x p):
  SndE prog w fns h₀ k sc (.Call (.Attribute o "get" apos) [a,b] [] pos) (.get o' a' b'):=by
 intro src M env A s ρ π Q hsc hA W F h
 refine Call_method2 (hbs env) (by rw [starEach_one sa,starEach_one sb];rfl) hl (wpAny_mono (ho src M env A s ρ π _ hsc hA W F h) (fun v s₁ p=>?_) fun _ _ x=>x)
 obtain ⟨d,π₁,h1,r1,st1,W1⟩:=p
 obtain ⟨hd,h1⟩:=chk_iff.mp h1
 obtain ⟨ks,ds,rfl⟩:=isDictD_inv hd
 obtain ⟨D,vs,f,rfl,ht,hm,hsys,hf,hlen,hr⟩:=r1.dict_inv
 refine ⟨"dict","dict.get",PySem.F.plainAttrs_dict,PySem.F.slot_dict_get,PySem.F.type_dict_get,ht.typeIs,ht.noDict,wpAny_dict_get2 (knd:=strKind prog w) hsys ?_⟩
 refine snd_two ha hb hsc hA W1 (F.step W st1) h1 fun va vb s₃ ad bd π₃ h3 r2 r3 st W3=>?_
 obtain ⟨t,rfl,h4⟩:=onS_inv h3
 have kp:=W1.kept st
 obtain ⟨tk,hx,rfl⟩:=r2.str_inv
 refine ⟨T.s t,f,strKind_is prog w (T.s t) tk,kp.map ht hm,?_⟩
 rw [hf,toList_s]
 have lz:=look_zip t (hr.kept kp) hlen
 cases hlk:look ks ds t with
 | some r=>
  rw [hlk] at h4
  obtain ⟨v,q1,q2⟩:=lz.1 r hlk
  rw [q1]
  exact Post.of_step (st1.trans st) (psame W3 q2 h4)
 | none=>
  rw [hlk] at h4
  rw [lz.2 hlk]
  exact Post.of_step (st1.trans st) (psame W3 r3 h4)
theorem keyT_data {k:Option Expr}{t:T}(h:keyT k=some t):∃ x n p,k=some (.Constant (.str x) n p)∧x=T.s t:=by
 obtain ⟨e,he,h⟩:=bindI h
 obtain ⟨⟨c,n,p⟩,h1,h⟩:=bindI h
 obtain ⟨x,h2,h⟩:=mapI h
 have h2:c=.str x:=cStr_inv h2
 exact ⟨x,n,p,he.trans (congrArg some ((eConstant_inv h1).trans (by rw [h2]))),T.s_inj h⟩
inductive KeyI (k:Option Expr) (ks:List (Option Expr)) (ts:List T):Prop
 | mk (x:Str) (n:Nat) (p:Pos) (t:T) (us:List T) (ek:k=some (.Constant (.str x) n p)) (ex:x=T.s t) (et:ts=t::us) (hk:keysT ks=some us)
theorem keysT_inv {k:Option Expr}{ks:List (Option Expr)}{ts:List T}(h:keysT (k::ks)=some ts):KeyI k ks ts:=by
 obtain ⟨t,h1,h⟩:=bindI h
 obtain ⟨us,h2,h⟩:=mapI h
 obtain ⟨x,n,p,e1,e2⟩:=keyT_data h1
 exact ⟨x,n,p,t,us,e1,e2,h.symm,h2⟩
noncomputable def pairsOf (pos:Pos) (env:PySem.Env):List (Option Expr)→List Expr→List (Sem Value×Sem Value)
 | [],_=>[]
 | k::ks,vs=>match k,vs with
  | some k,v::vs=>(eval k env,do let x ←eval v env;standAt pos;pure x)::pairsOf pos env ks vs
  | _,_=>[]
theorem pairs_shape {pos:Pos}{env:PySem.Env}{ks:List (Option Expr)}:∀ {vs:List Expr}{ts:List T},keysT ks=some ts→vs.length=ks.length→
  (evalEachOpt ks env).zip ((evalEach vs env).map fun v=>do let x ←v;standAt pos;pure x)=(pairsOf pos env ks vs).map fun p=>(some p.1,p.2):=by
 induction ks with
 | nil=>exact fun _ _=>rfl
 | cons k ks ih=>
  intro vs ts h hl
  cases vs with
  | nil=>cases hl
  | cons v vs=>
   obtain ⟨x,n,p,t,us,rfl,_,_,hk⟩:=keysT_inv h
   exact congrArg (List.cons _) (ih hk (Nat.succ.inj hl))
theorem pairs_len {pos:Pos}{env:PySem.Env}{ks:List (Option Expr)}:∀ {vs:List Expr}{ts:List T},keysT ks=some ts→vs.length=ks.length→(pairsOf pos env ks vs).length=ks.length:=by
 induction ks with
 | nil=>exact fun _ _=>rfl
 | cons k ks ih=>
  intro vs ts h hl
  cases vs with
  | nil=>cases hl
  | cons v vs=>
   obtain ⟨x,n,p,t,us,rfl,_,_,hk⟩:=keysT_inv h
   exact congrArg Nat.succ (ih hk (Nat.succ.inj hl))
inductive PostP (prog:Program) (w:World) (fns:List Nat) (h₀:Heap) (src:Option Addr) (M:List Addr) (s:Shared) (ts:List T) (Q:List D→Pi→Prop) (ps:List (Value×Value)) (s':Shared):Prop
 | mk (us:List Value) (ds:List D) (π':Pi) (h:Q ds π') (hc:Carries (strKind prog w) ps ((ts.map T.s).zip us)) (hl:us.length=ts.length) (hr:RepL prog w fns src M s'.heap us ds) (st:Step src s s') (W:WI h₀ src M s' π')
theorem snd_pairs {f:Expr→Option Ex}(IH:∀ pe e,f pe=some e→SndE prog w fns h₀ k sc pe e){pos:Pos}{src:Option Addr}{M:List Addr}{env:PySem.Env}{A:Around}{ρ:Env}(hsc:env.scope=sc) (hA:Good A k){ks:List (Option Expr)}:
  ∀ {vs:List Expr}{ts:List T}{es':Exs}{s:Shared}{π:Pi}{Q:List D→Pi→Prop},keysT ks=some ts→vs.length=ks.length→compL f vs=some es'→WI h₀ src M s π→FI prog w fns src M env s ρ→wEs es' (Ret FN k) ρ π Q→
  wpAny (model prog w) A (evalPairs (pairsOf pos env ks vs)) (PostP prog w fns h₀ src M s ts Q) (fun _ _=>False) s:=by
 induction ks with
 | nil=>
  intro vs ts es' s π Q hk hl hc W F h
  cases hk
  cases vs with
  | nil=>cases hc;exact evalPairs_nil ⟨[],[],π,h,trivial,rfl,.nil,Step.refl _,W⟩
  | cons _ _=>cases hl
 | cons kx ks ih=>
  intro vs ts es' s π Q hk hl hc W F h
  cases vs with
  | nil=>cases hl
  | cons v vs=>
  obtain ⟨x,n,p,t,us,rfl,ex,rfl,hk'⟩:=keysT_inv hk
  obtain ⟨e',es'',he,hes,rfl,hst⟩:=compL_inv hc
  refine evalPairs_cons (Constant_str (wpAny_bind (wpAny_mono (IH v e' he src M env A {s with toks:=s.toks+1} ρ π _ hsc hA (W.toks _) (F.step W (Step.toks _ _)) h) (fun u s₁ p=>wpAny_bind (wpAny_standAt (wpAny_pure ?_))) fun _ _ x=>x)))
  obtain ⟨d,π₁,h1,r1,st1,W1⟩:=p
  have st1':Step src s s₁:=(Step.toks s (s.toks+1)).trans st1
  refine wpAny_mono (ih hk' (Nat.succ.inj hl) hes W1 (F.step W st1') h1) (fun ps s₂ p=>?_) fun _ _ x=>x
  obtain ⟨us,ds,π₂,h2,q1,q2,r2,st2,W2⟩:=p
  exact ⟨u::us,d::ds,π₂,h2,⟨ex▸strKind_is prog w _ _,rfl,q1⟩,congrArg Nat.succ q2,.cons (r1.kept (W1.kept st2)) r2,st1'.trans st2,W2⟩
theorem zip_valueAt (ts:List T) (x:Str):∀ us:List Value,valueAt ((ts.map T.s).zip us) x=(ts.zip us).lookup x.cps.toList:=by
 induction ts with
 | nil=>exact fun us=>rfl
 | cons t ts ih=>
  intro us
  cases us with
  | nil=>rfl
  | cons u us=>
   have ih:=ih us
   simp only [List.map_cons,List.zip_cons_cons,valueAt,List.find?_cons] at ih ⊢
   rw [List.lookup_cons]
   by_cases h:T.s t=x
   ·subst h
    simp [T.s]
   ·have h2:(x.cps.toList==t)=false:=beq_eq_false_iff_ne.mpr fun e=>h (T.s_inj e).symm
    rw [h2]
    simp only [h,decide_false]
    exact ih
theorem snd_dict (G:Gd prog w fns K mg mb h₀){f:Expr→Option Ex}(IH:∀ pe e,f pe=some e→SndE prog w fns h₀ k sc pe e){pos:Pos}{ks:List (Option Expr)}{vs:List Expr}{ts:List T}{es':Exs}
  (hk:keysT ks=some ts) (hl:vs.length=ks.length) (hc:compL f vs=some es') (h15:vs.length≤15) (hne:ks≠[]) (hnd:ts.Nodup):SndE prog w fns h₀ k sc (.Dict ks vs pos) (.dict ts es'):=by
 intro src M env A s ρ π Q hsc hA W F h
 have hlen:=pairs_len (pos:=pos) (env:=env) hk hl
 refine wpAny_Dict_pairs (knd:=strKind prog w) (pairs_shape hk hl) (fun q=>hne (List.length_eq_zero_iff.mp (hlen.symm.trans (congrArg List.length q)))) (by rw [hlen,←hl];exact h15) ?_
 have hk1:∀ a o,s.heap.get? a=some o→(s.heap.push {cls:=.type "dict",data:=.dict #[]}).get? a=some o:=fun a o e=>Heap.get?_push_of_some _ e
 have hn:=fresh_none (h:=s.heap) (Nat.le_refl _)
 refine wpAny_mono (snd_pairs IH hsc hA hk hl hc (W.add (s':={s with heap:=s.heap.push {cls:=.type "dict",data:=.dict #[]}}) (Nat.le_refl _) (Heap.get?_push_size _ rfl) hk1) (F.add (Nat.le_refl _) hk1) h) (fun ps s₂ p=>?_) fun _ _ x=>x
 obtain ⟨us,ds,π₂,h2,q1,q2,r2,st2,W3⟩:=p
 refine ⟨_,q1,Heap.DictOf.at (Heap.DictOf.new s.heap) fun o e=>st2.keep _ _ (W.notab hn) (W.nosrc hn) e,fun h' hd hs=>?_⟩
 have hks:∀ a o,a≠s.heap.objs.size→s₂.heap.get? a=some o→h'.get? a=some o:=fun a o q e=>hs.extBut a o q e
 have hne:∀ {a o},s.heap.get? a=some o→a≠s.heap.objs.size:=fun e q=>nosome (q▸hn) e
 have hmerge:merged [] ((ts.map T.s).zip us)=(ts.map T.s).zip us:=by
  refine merged_nil_of_nodup _ ?_
  rw [List.map_fst_zip (by rw [List.length_map,q2];exact Nat.le_refl _)]
  exact List.pairwise_map.mpr (hnd.imp fun {a b} hab q=>hab ((toList_s a).symm.trans ((congrArg (fun z:Str=>z.cps.toList) q).trans (toList_s b))))
 rw [hmerge] at hd
 refine ⟨_,π₂,h2,.dict _ hd.mapOf (W.nin hn) (beq_eq_false_iff_ne.mpr (Nat.ne_of_gt (modules_low (G.nolimit.keeps W.base)))) (fun x=>zip_valueAt ts x us) q2.symm
   (RepL.weak (M:=s.heap.objs.size::M) (fun a hm q=>hm (List.mem_cons_of_mem _ q)) (r2.kept fun a o hm _ e=>hks a o (fun q=>hm (q▸List.mem_cons_self)) e)),
  ⟨st2.gens,st2.os,fun a o q3 q4 q5=>hks a o (hne q5) (st2.keep a o q3 q4 (hk1 _ _ q5))⟩,?_⟩
 exact W3.off (Cs:=[s.heap.objs.size]) (fun _=>List.mem_cons_of_mem _) W.tabM (all_one List.mem_cons_self) (one_ne (W.notab hn).symm) (fun a q=>⟨(W.pool a q).1,one_ne fun e=>W.nosrc hn (e▸q)⟩) (fun a o q=>hks a o (ne_one q))
  fun a m q=>absurd (List.mem_singleton.mp q▸m) (W.nin hn)
end
inductive Trip:List Value→Prop
 | nil:Trip []
 | cons (x:Int) (t:Tok) (y:Int) (u:Tok) (c:Value){r:List Value}(h:Trip r):Trip (.int x t::.int y u::c::r)
theorem trip_of (n:Nat):∀ l:List Value,l.length≤n→TriplesOk l→Trip l:=by
 induction n with
 | zero=>exact fun l hl _=>List.length_eq_zero_iff.mp (Nat.le_zero.mp hl)▸.nil
 | succ n ih=>
  intro l hl h
  cases l with
  | nil=>exact .nil
  | cons a l=>
  cases a with
  | int x t=>
   cases l with
   | nil=>exact h.elim
   | cons b l=>cases b with
    | int y u=>cases l with
     | nil=>exact h.elim
     | cons c r=>exact .cons x t y u c (ih r (Nat.le_trans (Nat.le_add_right _ 2) (Nat.le_of_succ_le_succ hl)) h)
    | _=>exact h.elim
  | _=>exact h.elim
theorem triples_snoc {c:Value}{x y:Int}{t u:Tok}{l:List Value}(h:Trip l):TriplesOk (l++[.int x t,.int y u,c]):=by
 induction h with
 | nil=>exact trivial
 | cons _ _ _ _ _ _ ih=>exact ih
theorem among_snoc {c cv:Value}{x y:Int}{t u:Tok}{pos:Pos}{l:List Value}(hl:Trip l):codeAmong pos (l++[.int x t,.int y u,c])=some cv→codeAmong pos l=some cv∨cv=c:=by
 induction hl with
 | nil=>
  intro h
  have h:(if x==pos.line&&y==pos.col then some c else none)=some cv:=h
  cases q:x==pos.line&&y==pos.col with
  | true=>rw [q] at h;exact .inr (Option.some.inj h).symm
  | false=>rw [q] at h;cases h
 | cons x' t' y' u' c' hr ih=>
  intro h
  have h:(if x'==pos.line&&y'==pos.col then some c' else _)=some cv:=h
  show (if x'==pos.line&&y'==pos.col then some c' else _)=some cv∨_
  cases q:x'==pos.line&&y'==pos.col with
  | true=>rw [q] at h;exact .inl h
  | false=>rw [q] at h;exact ih h
section
variable {prog:Program}{w:World}{fns:List Nat}{h₀:Heap}{k:Nat}{K:Frag}{mg mb:Str→Option Value}{sc:Scope}
theorem noArgs_eq {a:Arguments}(h:noArgs a=true):a=⟨[],[],none,[],[],none,[]⟩:=by
 obtain ⟨a1,a2,a3,a4,a5,a6,a7⟩:=a
 obtain ⟨h,h7⟩:=band h
 obtain ⟨h,h6⟩:=band h
 obtain ⟨h,h5⟩:=band h
 obtain ⟨h,h4⟩:=band h
 obtain ⟨h,h3⟩:=band h
 obtain ⟨h1,h2⟩:=band h
 rw [show a1=[] from List.isEmpty_iff.mp h1,show a2=[] from List.isEmpty_iff.mp h2,show a3=none from isNone_inv h3,show a4=[] from List.isEmpty_iff.mp h4,show a5=[] from List.isEmpty_iff.mp h5,show a6=none from isNone_inv h6,
  show a7=[] from List.isEmpty_iff.mp h7]
structure CompOk (sc' sc:Scope):Prop where
 kind':sc'.kind=.function
 kind:sc.kind=.function
 nolam:lamScope sc'=false
 nocell:∀ x∈sc'.names,x.2≠.cell
 locs:∀ x∈sc'.names,x.2=.local→sc'.names.lookup x.1=some .local
 free:∀ x,(x,NameKind.free)∈sc'.names→sc.names.lookup x=some .cell∨sc.names.lookup x=some .free
theorem bne_or {α:Type} [BEq α] [LawfulBEq α] {a b:α}{p:Bool}(h:((a != b)||p)=true) (e:a=b):p=true:=(Bool.or_eq_true_iff.mp h).resolve_left fun q=>bne_iff_ne.mp q e
theorem compScope_data {sc' sc:Scope}(h:compScopeOk sc' sc=true):CompOk sc' sc:=by
 obtain ⟨h,h4⟩:=band h
 obtain ⟨h,h3⟩:=band h
 obtain ⟨h1,h2⟩:=band h
 have h4:=List.all_eq_true.mp h4
 exact ⟨eq_of_beq h1,eq_of_beq h2,bnot h3,fun x hx=>bne_iff_ne.mp (band (band (h4 x hx)).1).1,fun x hx e=>eq_of_beq (bne_or (band (band (h4 x hx)).1).2 e),
  fun x hx=>(Bool.or_eq_true_iff.mp (bne_or (band (h4 _ hx)).2 rfl)).imp eq_of_beq eq_of_beq⟩
theorem lamFree_inv {sc':Scope}{xs:Str}(h:lamFree sc'=some xs):∃ p,sc'.names.filter (fun p=>p.2==.free)=[p]∧p.1=xs∧(xs,NameKind.free)∈sc'.names:=by
 obtain ⟨p,h1,h2⟩:=mapI h
 have h1:=oneL_inv h1
 have hp:p∈sc'.names.filter (fun p=>p.2==.free):=h1▸List.mem_singleton_self p
 obtain ⟨q1,q2⟩:=List.mem_filter.mp hp
 exact ⟨p,h1,h2,by rw [←h2,←eq_of_beq q2];exact q1⟩
theorem closL_foldl (env:PySem.Env) (names:List (Str×NameKind)):∀ acc,names.foldl (closF env) acc=((names.filter (fun p=>p.2==.free)).map fun x=>(x.1,(env.cells.lookup x.1).getD 0)).reverse++acc:=by
 induction names with
 | nil=>exact fun _=>rfl
 | cons x l ih=>
  intro acc
  rw [List.foldl_cons,ih,List.filter_cons]
  unfold closF
  cases hk:x.2==NameKind.free with
  | false=>rfl
  | true=>rw [if_pos rfl,List.map_cons,List.reverse_cons,List.append_assoc];rfl
theorem closL_one {sc':Scope}{env:PySem.Env}{xs:Str}{c:Addr}(h:lamFree sc'=some xs) (hc:env.cells.lookup xs=some c):closL env sc'.names=[(xs,c)]:=by
 obtain ⟨p,h1,h2,_⟩:=lamFree_inv h
 rw [closL,closL_foldl,h1,List.map_singleton,h2,hc]
 rfl
abbrev lamO (env:PySem.Env) (mg:Str→Option Value) (body:Expr) (sc':Scope) (xs:Str) (c cc:Addr) (ctv:Value):Obj:=kla_obj "<lambda>" (env.qual++"<lambda>") ⟨[],[],none,[],[],none,[]⟩ body sc' [(xs,c)] ((mg "__name__").getD .none) cc ctv
theorem lam_post {src:Option Addr}{M:List Addr}{env:PySem.Env}{s:Shared}{π:Pi}{Q:D→Pi→Prop}{n:Nat}{body:Expr}{sc':Scope}{xs:Str}{i:Nat}{b':Ex}{c:Addr}{v:Value}{d:D}
  (C:CompOk sc' sc) (hg:sc'.isGenerator=false) (hco:sc'.isCoroutine=false) (hf:lamFree sc'=some xs) (hx:encS xs=some i) (hb:compE fns n sc' body=some b') (W:WI h₀ src M s π) (hq:env.qual++"<lambda>"=lamQual)
  (h:Q (.lam b' i d) π) (hcM:c∉M) (hv:s.heap.IsCell c (some v)) (hr:Rep prog w fns src M s.heap v d)
  {cc:Addr}{ctv:Value}{h':Heap}{tk:Tok}(hk:∀ a o,a≠lamTab→s.heap.get? a=some o→h'.get? a=some o) (hrec:h'.CodeRec (.ref cc) lamQual) (hccM:cc∉M) (ht:TabOk M h') (hsz:s.heap.get? h'.objs.size=none):
  Post prog w fns h₀ src M s Q (.ref h'.objs.size) {s with heap:=h'.push (lamO env mg body sc' xs c cc ctv),toks:=tk}:=by
 have hk2:∀ a o,a≠lamTab→s.heap.get? a=some o→(h'.push (lamO env mg body sc' xs c cc ctv)).get? a=some o:=fun a o q e=>Heap.get?_push_of_some _ (hk a o q e)
 have st:Step src s {s with heap:=h'.push (lamO env mg body sc' xs c cc ctv),toks:=tk}:=⟨rfl,rfl,fun a o q1 _ e=>hk2 a o q1 e⟩
 have keep:∀ a o,h'.get? a=some o→(h'.push (lamO env mg body sc' xs c cc ctv)).get? a=some o:=fun a o e=>Heap.get?_push_of_some _ e
 refine ⟨_,π,h,.lam (v:=v) (cc:=cc) (Heap.get?_push_size _ rfl) rfl ⟨⟨n,body,xs,rfl,hx,rfl,hb,hf⟩,rfl,C.kind',hg,hco,C.nocell,rfl,rfl,C.nolam,rfl⟩ rfl ?_ (let ⟨o,ho,hd⟩:=hv;⟨o,hk2 _ _ (fun q=>hcM (q▸W.tabM)) ho,hd⟩) (W.nin hsz) hcM hccM (hr.kept (W.kept st)),st,?_⟩
 ·show (h'.push _).CodeRec (.ref cc) (env.qual++"<lambda>")
  rw [hq];exact hrec.push _
 ·exact ⟨fun a o e=>hk2 a o (fun q=>nosome (W.fresh _ W.tabM).1 (q▸e)) (W.base a o e),fun a hm=>⟨(W.fresh a hm).1,if q:a=lamTab then q▸let ⟨o,e⟩:=ht.at;⟨o,keep _ _ e⟩ else let ⟨o,e⟩:=(W.fresh a hm).2;⟨o,hk2 a o q e⟩⟩,W.tabM,
   ht.move (keep _) fun a o q e=>⟨q,keep a o e⟩,fun a q=>⟨(W.pool a q).1,(W.pool a q).2.1,(W.pool a q).2.2.keep fun o=>hk2 a o (W.pool a q).2.1⟩⟩
theorem snd_lam (G:Gd prog w fns K mg mb h₀){n:Nat}{args:Arguments}{body:Expr}{sc':Scope}{pos:Pos}{xs:Str}{i:Nat}{b':Ex}
  (ha:noArgs args=true) (hs:compScopeOk sc' sc=true) (hl:lamScope sc=true) (hg:sc'.isGenerator=false) (hco:sc'.isCoroutine=false) (hf:lamFree sc'=some xs) (hx:encS xs=some i) (hb:compE fns n sc' body=some b'):
  SndE prog w fns h₀ k sc (.Lambda args body sc' pos) (.lam i b'):=by
 intro src M env A s ρ π Q hsc hA W F h
 have C:=compScope_data hs
 obtain rfl:=noArgs_eq ha
 obtain rfl:=hsc
 obtain ⟨d,hd,h⟩:=onD_inv h
 obtain ⟨_,_,_,hmem⟩:=lamFree_inv hf
 obtain ⟨c,hc⟩:=F.cd xs (C.free xs hmem)
 obtain ⟨hcM,v,hv,hr⟩:=F.cl xs i d hx hd c hc
 obtain ⟨hcode,hqual⟩:=F.lam hl
 have hclos:closureFor sc' env=pure [(xs,c)]:=(closureFor_eq fun x hx=>F.cd x (C.free x hx)).trans (congrArg pure (closL_one hf hc))
 obtain ⟨ps,hP,htr,hcs⟩:=W.tab
 have hgs:s.heap.Ns mainGlobals mg:=G.g.keeps W.base
 have hCd:CodeHd s.heap lamCode lamTab:=G.hd.keeps W.base
 have hbat:s.heap.BuiltinsAt mg lamTab:=let ⟨bm,ob,b1,b2,b3,b4,b5,b6⟩:=G.bat;⟨bm,ob,b1,b2,b3,b4,W.base _ _ b5,b6⟩
 refine kla_eval rfl ?_
 cases hfound:codeAmong pos ps.toList with
 | none=>
  have T:=trip_of _ _ (Nat.le_refl _) htr
  refine kla_makeFunction hclos F.glob hgs hcode hCd hP htr hfound G.gP hbat fun c' ctv h' tk hx' hge hlt hrec htab=>?_
  rw [hqual] at hrec
  have hc'M:c'∉M:=W.nin (fresh_none hge)
  refine lam_post (env:=env) C hg hco hf hx hb W hqual h hcM hv hr (fun a o q e=>hx' a o q e) hrec hc'M ⟨_,htab,?_,fun pp cv q=>?_⟩ (fresh_none (Nat.le_of_lt (Nat.lt_of_le_of_lt hge hlt)))
  ·rw [Array.toList_append];exact triples_snoc T
  ·rw [Array.toList_append] at q
   rcases among_snoc T q with q | e
   ·obtain ⟨cc,q1,q2,q3⟩:=hcs pp cv q
    exact ⟨cc,q1,q2,codeRec_keep q1 q3 fun o=>hx' _ _ (fun e=>q2 (e▸W.tabM))⟩
   ·exact ⟨c',e,hc'M,e▸hrec⟩
 | some cv=>
  obtain ⟨cc,rfl,hccM,hrec⟩:=hcs pos cv hfound
  refine kla_makeFunctionHit hclos F.glob hgs hcode hCd hP htr hfound hbat fun ctv h' tk hk hsz=>?_
  exact lam_post (env:=env) C hg hco hf hx hb W hqual h hcM hv hr (fun a o _ e=>hk a o e) (hrec.keeps hk) hccM (TabOk.move ⟨ps,hP,htr,hcs⟩ (hk _) fun a o q e=>⟨q,hk a o e⟩) (fresh_none hsz)
end
section
variable (prog:Program) (w:World) (fns:List Nat) (src:Option Addr) (M:List Addr)
inductive IterAt (h:Heap) (I:Addr) (b:Bool) (As:List Addr) (ds:List D):Prop
 | lst (l:Addr) (i:Nat) (vs:Array Value) (eb:b=false) (eA:As=[I]) (hi:h.IsListIter I l i) (hl:h.IsList l vs) (hm:l∉M) (hr:RepL prog w fns src M h (vs.toList.drop i) ds)
 | tup (l:Addr) (i:Nat) (vs:Array Value) (eb:b=false) (eA:As=[I]) (hi:IsTupIter h I l i) (hl:IsTup h l vs) (hm:l∉M) (hr:RepL prog w fns src M h (vs.toList.drop i) ds)
 | rng (x n:Nat) (eb:b=false) (eA:As=[I]) (hi:IsRangeIter h I (x:Int) (n:Int) 1) (ed:ds=(List.range' x n).map fun (j:Nat)=>.int j)
 | enm (it l:Addr) (i:Nat) (vs:Array Value) (es:List D) (old:Value) (eA:As=[I,it]) (he:IsEnum h I it (i:Int) old) (hi:h.IsListIter it l i) (hl:h.IsList l vs) (hm:l∉M) (hne:I≠it)
   (hr:RepL prog w fns src M h (vs.toList.drop i) es) (ed:ds=enumD i es) (eb:b=true)
end
section
variable {prog:Program}{w:World}{fns:List Nat}{src:Option Addr}{M M':List Addr}{h h':Heap}{I:Addr}{b:Bool}{As:List Addr}{ds:List D}
theorem IterAt.self (x:IterAt prog w fns src M h I b As ds):I∈As:=by
 cases x with
 | enm _ _ _ _ _ _ eA=>rw [eA];exact List.mem_cons_self
 | lst _ _ _ _ eA=>rw [eA];exact List.mem_cons_self
 | tup _ _ _ _ eA=>rw [eA];exact List.mem_cons_self
 | rng _ _ _ eA=>rw [eA];exact List.mem_cons_self
theorem IterAt.go (x:IterAt prog w fns src M h I b As ds) (hA:∀ a∈As,∀ o,h.get? a=some o→h'.get? a=some o) (k:Kept M h h') (hM:∀ a o,a∉M→h.get? a=some o→a∉M'):IterAt prog w fns src M' h' I b As ds:=by
 have hs:=hA I x.self
 cases x with
 | lst l i vs eb eA hi hl hm hr=>exact .lst l i vs eb eA (let ⟨o,ho,r⟩:=hi;⟨o,hs _ ho,r⟩) (k.lst hl hm) (let ⟨o,ho,_⟩:=hl;hM _ _ hm ho) (hr.go k hM (.inl rfl))
 | tup l i vs eb eA hi hl hm hr=>exact .tup l i vs eb eA (let ⟨o,ho,r⟩:=hi;⟨o,hs _ ho,r⟩) (k.tup hl hm) (let ⟨o,ho,_⟩:=hl;hM _ _ hm ho) (hr.go k hM (.inl rfl))
 | rng x n eb eA hi ed=>exact .rng x n eb eA (hs _ hi) ed
 | enm it l i vs es old eA he hi hl hm hne hr ed eb=>exact .enm it l i vs es old eA (hs _ he) (let ⟨o,ho,r⟩:=hi;⟨o,hA it (eA▸List.mem_cons_of_mem _ (List.mem_singleton_self _)) _ ho,r⟩) (k.lst hl hm) (let ⟨o,ho,_⟩:=hl;hM _ _ hm ho) hne (hr.go k hM (.inl rfl)) ed eb
theorem IterAt.kept (x:IterAt prog w fns src M h I b As ds) (hA:∀ a∈As,∀ o,h.get? a=some o→h'.get? a=some o) (k:Kept M h h'):IterAt prog w fns src M h' I b As ds:=x.go hA k fun _ _ q _=>q
theorem drop_cons {α:Type}{l:List α}{i:Nat}{v:α}{r:List α}(h:l.drop i=v::r):l[i]?=some v∧l.drop (i+1)=r:=
 ⟨(List.head?_drop (l:=l) (i:=i)).symm.trans (by rw [h];rfl),by rw [←List.tail_drop,h];rfl⟩
theorem drop_nil {α:Type}{l:List α}{i:Nat}(h:l.drop i=[]):l[i]?=none:=List.getElem?_eq_none (List.drop_eq_nil_iff.mp h)
end
section
variable {prog:Program}{w:World}{fns:List Nat}{h₀:Heap}{src:Option Addr}{M:List Addr}{A:Around}{s:Shared}{π:Pi}{I:Addr}{b:Bool}{As:List Addr}
noncomputable def Tgt (e:Expr):Prop:=(∃ x p,e=.Name x p)∨∃ es n p,e=.Tuple es n p
theorem noTupGo {target:Expr}{I:Addr}{v:Value}{s:Shared}{Q:Unit→Shared→Prop} {E}{T:String}{vs:Array Value}{o:Obj}(htg:Tgt target) (ho:s.heap.get? I=some o) (hc:o.cls=.type T) (hd:o.data=.fields vs)
  (hT:["enumerate","zip","dict_itemiterator","dict_reverseitemiterator","odict_iterator","itertools.zip_longest","itertools.pairwise"].contains T=false) (h:Q () s):
  wpAny (model prog w) A (letOwnedTupleGo target (.ref I) v) Q E s:=by
 rcases htg with ⟨x,p,rfl⟩ | ⟨es,n,p,rfl⟩
 ·exact wpAny_pure h
 ·cases v with
  | ref a=>
   refine wpAny_bind (wpAny_load ho ?_)
   rw [hc,hd]
   show wpAny _ A (if (_&&_)=true then _ else _) Q E s
   rw [if_neg (by rw [hT,Bool.false_and];exact Bool.false_ne_true)]
   exact wpAny_pure h
  | _=>exact wpAny_pure h
theorem iter_next {target:Expr}{d:D}{ds:List D}(htg:Tgt target) (hb:b=true→∃ es n p,target=.Tuple es n p) (hM:∀ a∈As,a∈M) (hMe:∀ a∈M,∃ o,s.heap.get? a=some o) (x:IterAt prog w fns src M s.heap I b As (d::ds)){Q:Option Value→Shared→Prop}{R:Value→Shared→Prop} {E}
  (hQ:∀ v s₁,wpAny (model prog w) A (letOwnedTupleGo target (.ref I) v) (fun _ s₂=>R v s₂) (fun _ _=>False) s₁→Q (some v) s₁)
  (hR:∀ v s₂,Rep prog w fns src M s₂.heap v d→IterAt prog w fns src M s₂.heap I b As ds→(∀ a o,a∉As→s.heap.get? a=some o→s₂.heap.get? a=some o)→(∀ a∈As,∃ o,s₂.heap.get? a=some o)→s₂.gens=s.gens→s₂.os=s.os→R v s₂):
  wpAny (model prog w) A (pyNext (.ref I)) Q E s:=by
 cases x with
 | lst l i vs eb eA hi hl hm hr=>
  obtain ⟨v,r,hv,hv',hr'⟩:=hr.cons_inv
  obtain ⟨h1,h2⟩:=drop_cons hv
  refine wpAny_pyNext_list_item hi hl (Array.getElem?_toList.symm.trans h1) fun h' hi' hs=>hQ _ _ ?_
  have hk:∀ a o,a∉As→s.heap.get? a=some o→h'.get? a=some o:=fun a o q=>hs.extBut a o (ne_one (eA▸q))
  have kp:Kept M s.heap h':=fun a o hm _ e=>hk a o (fun q=>hm (hM a q)) e
  obtain ⟨o,ho,hc,hd⟩:=id hi'
  exact noTupGo htg ho hc hd (by decide) (hR _ _ (hv'.kept kp) (.lst l _ vs eb eA hi' (kp.lst hl hm) hm (h2▸hr'.kept kp)) hk (eA▸all_one ⟨o,ho⟩) rfl rfl)
 | tup l i vs eb eA hi hl hm hr=>
  obtain ⟨v,r,hv,hv',hr'⟩:=hr.cons_inv
  obtain ⟨h1,h2⟩:=drop_cons hv
  refine next_tuple_item hi hl (Array.getElem?_toList.symm.trans h1) fun h' hi' hs=>hQ _ _ ?_
  have hk:∀ a o,a∉As→s.heap.get? a=some o→h'.get? a=some o:=fun a o q=>hs.extBut a o (ne_one (eA▸q))
  have kp:Kept M s.heap h':=fun a o hm _ e=>hk a o (fun q=>hm (hM a q)) e
  obtain ⟨o,ho,hc,hd⟩:=id hi'
  exact noTupGo htg ho hc hd (by decide) (hR _ _ (hv'.kept kp) (.tup l _ vs eb eA hi' (kp.tup hl hm) hm (h2▸hr'.kept kp)) hk (eA▸all_one ⟨o,ho⟩) rfl rfl)
 | rng x n eb eA hi ed=>
  cases n with
  | zero=>cases ed
  | succ n=>
   obtain ⟨e1,e2⟩:=List.cons.inj ed
   refine wpAny_pyNext_range_item hi (by lia) fun h' hi' hs=>hQ _ _ ?_
   have hk:∀ a o,a∉As→s.heap.get? a=some o→h'.get? a=some o:=fun a o q=>hs.extBut a o (ne_one (eA▸q))
   have hi2:IsRangeIter h' I ((x+1:Nat):Int) (n:Int) 1:=(show (((n+1:Nat):Int) - 1)=(n:Int) by lia)▸hi'
   exact noTupGo htg hi' rfl rfl (by decide) (hR _ _ (e1▸.int _ _) (.rng _ _ eb eA hi2 e2) hk (eA▸all_one ⟨_,hi'⟩) rfl rfl)
 | enm it l i vs es old eA he hi hl hm hne hr ed eb=>
  cases es with
  | nil=>cases ed
  | cons d' es=>
   obtain ⟨e1,e2⟩:=List.cons.inj ed
   obtain ⟨v,r,hv,hv',hr'⟩:=hr.cons_inv
   obtain ⟨h1,h2⟩:=drop_cons hv
   obtain ⟨es',n',p',rfl⟩:=hb eb
   refine wpAny_pyNext_enum_item he hi hl (Array.getElem?_toList.symm.trans h1) hne fun h' he' hi' ht hsz hk=>hQ _ _ ?_
   refine wpAny_letOwnedTupleGo_enum he' fun h'' he'' hs=>?_
   have hk2:∀ a o,a∉As→s.heap.get? a=some o→h''.get? a=some o:=fun a o q e=>
    have q1:a≠I:=fun e=>q (eA▸e▸List.mem_cons_self)
    hs.extBut a o q1 (hk a o q1 (fun e=>q (eA▸e▸List.mem_cons_of_mem _ (List.mem_singleton_self _))) e)
   have kp:Kept M s.heap h'':=fun a o hm _ e=>hk2 a o (fun q=>hm (hM a q)) e
   have ht2:h''.get? s.heap.objs.size=some {cls:=.type "tuple",data:=.seq #[.int i s.toks,v]}:=hs.extBut _ _ (Nat.ne_of_gt (Heap.lt_size he)) ht
   have hi2:h''.IsListIter it l (i+1):=hi'.extBut hs.extBut (Ne.symm hne)
   have hnM:s.heap.objs.size∉M:=fun hm=>let ⟨_,e⟩:=hMe _ hm;Nat.lt_irrefl _ (Heap.lt_size e)
   exact hR _ _ (e1▸.tup ⟨_,ht2,rfl,_,rfl⟩ hnM (.cons (.int _ _) (.cons (hv'.kept kp) .nil))) (.enm it l (i+1) vs es v eA he'' hi2 (kp.lst hl hm) hm hne (h2▸hr'.kept kp) e2 eb) hk2
    (eA▸List.forall_mem_cons.mpr ⟨⟨_,he''⟩,all_one (let ⟨o,ho,_⟩:=hi2;⟨o,ho⟩)⟩) rfl rfl
theorem iter_end {Q:Option Value→Shared→Prop} {E}(hA:A.handled=none) (hM:∀ a∈As,a∈M) (x:IterAt prog w fns src M s.heap I b As [])
  (hQ:∀ s',(∀ a o,a∉As→s.heap.get? a=some o→s'.heap.get? a=some o)→s'.gens=s.gens→s'.os=s.os→Q none s'):
  wpAny (model prog w) A (pyNext (.ref I)) Q E s:=by
 have fin:∀ h':Heap,(∀ a o,a≠I→s.heap.get? a=some o→h'.get? a=some o)→Q none {s with heap:=h'}:=fun h' he=>hQ _ (fun a o q e=>he a o (fun e=>q (e▸x.self)) e) rfl rfl
 cases x with
 | lst l i vs eb eA hi hl hm hr=>exact wpAny_pyNext_list_end hA hi hl (Array.getElem?_toList.symm.trans (drop_nil hr.nil_inv)) fin
 | tup l i vs eb eA hi hl hm hr=>exact next_tuple_end hA hi hl (Array.getElem?_toList.symm.trans (drop_nil hr.nil_inv)) fin
 | rng x n eb eA hi ed=>cases n with
  | succ n=>cases ed
  | zero=>exact wpAny_pyNext_range_end hA hi (Int.le_refl 0) fin
 | enm it l i vs es old eA he hi hl hm hne hr ed eb=>cases es with
  | cons _ _=>cases ed
  | nil=>exact wpAny_pyNext_enum_end hA he hi hl (Array.getElem?_toList.symm.trans (drop_nil hr.nil_inv)) fun h' he=>hQ _ (fun a o q e=>he a o (fun e=>q (eA▸e▸List.mem_cons_of_mem _ (List.mem_singleton_self _))) e) rfl rfl
end
section
variable {prog:Program}{w:World}{fns:List Nat}{h₀:Heap}{src:Option Addr}{M:List Addr}{A:Around}{s s':Shared}{π:Pi}
theorem locN_data {sc:Scope}{e:Expr}{i:Nat}(h:locN sc e=some i):∃ x p,e=.Name x p∧sc.names.lookup x=some .local∧encS x=some i:=by
 obtain ⟨q,h1,h⟩:=bindI h
 obtain ⟨h2,h⟩:=gdI h
 exact ⟨q.1,q.2,eName_inv h1,eq_of_beq h2,h⟩
inductive LocI (sc:Scope) (e:Expr) (es:List Expr) (is:List Nat):Prop
 | mk (x:Str) (p:Pos) (i:Nat) (js:List Nat) (ee:e=.Name x p) (ei:is=i::js) (hl:sc.names.lookup x=some .local) (hi:encS x=some i) (hs:locNs sc es=some js)
theorem locNs_inv {sc:Scope}{e:Expr}{es:List Expr}{is:List Nat}(h:locNs sc (e::es)=some is):LocI sc e es is:=by
 obtain ⟨i,h1,h⟩:=bindI h
 obtain ⟨js,h2,h⟩:=mapI h
 obtain ⟨x,p,h3,h4,h5⟩:=locN_data h1
 exact ⟨x,p,i,js,h3,h.symm,h4,h5,h2⟩
inductive TgI (sc:Scope) (tg:Expr) (one:Bool) (is:List Nat):Prop
 | name (x:Str) (p:Pos) (i:Nat) (et:tg=.Name x p) (eo:one=true) (ei:is=[i]) (hl:sc.names.lookup x=some .local) (hi:encS x=some i)
 | tup (es:List Expr) (n:Nat) (p:Pos) (et:tg=.Tuple es n p) (eo:one=false) (hs:locNs sc es=some is)
theorem tgN_data {sc:Scope}{tg:Expr}{one:Bool}{is:List Nat}(h:tgN sc tg=some (one,is)):TgI sc tg one is:=by
 unfold tgN at h
 cases ht:eTuple tg with
 | some q=>
  rw [ht] at h
  obtain ⟨js,h1,h⟩:=mapI h
  cases h
  exact .tup q.1 q.2.1 q.2.2 (eTuple_inv ht) rfl h1
 | none=>
  rw [ht] at h
  obtain ⟨i,h1,h⟩:=mapI h
  cases h
  obtain ⟨x,p,h3,h4,h5⟩:=locN_data h1
  exact .name x p i h3 rfl rfl h4 h5
theorem TgI.tgt {sc:Scope}{tg:Expr}{one:Bool}{is:List Nat}(h:TgI sc tg one is):Tgt tg:=by
 cases h with
 | name x p i e=>exact .inl ⟨x,p,e⟩
 | tup es n p e=>exact .inr ⟨es,n,p,e⟩
theorem hp_fun {env:PySem.Env}(hk:env.scope.kind=.function):(env.scope.kind==.class||(env.scope.kind==.module&&env.locals != env.globals))=false:=by rw [hk];rfl
structure NsRep (prog:Program) (w:World) (fns:List Nat) (src:Option Addr) (M:List Addr) (h:Heap) (m m':Str→Option Value) (l:List (Nat×D)):Prop where
 rep:∀ x i d,encS x=some i→getV l i=some d→∃ v,m' x=some v∧Rep prog w fns src M h v d
 other:∀ x i,encS x=some i→getV l i=none→m' x=m x
theorem getV_cons (i j:Nat) (d:D) (l:List (Nat×D)):getV ((j,d)::l) i=if i=j then some d else getV l i:=rfl
theorem NsRep.set {h:Heap}{m m':Str→Option Value}{l:List (Nat×D)}(N:NsRep prog w fns src M h m m' l){x:Str}{i:Nat}{v:Value}{d:D}(hi:encS x=some i) (hv:Rep prog w fns src M h v d):
  NsRep prog w fns src M h m (fun y=>if y=x then some v else m' y) ((i,d)::l) where
 rep y j e hj hg:=by
  rw [getV_cons] at hg
  by_cases q:j=i
  ·rw [if_pos q] at hg
   exact ⟨v,if_pos (encS_inj hj (q▸hi)),Option.some.inj hg▸hv⟩
  ·rw [if_neg q] at hg
   obtain ⟨u,h1,h2⟩:=N.rep y j e hj hg
   exact ⟨u,(if_neg fun e=>q (Option.some.inj (hj.symm.trans ((congrArg encS e).trans hi)))).trans h1,h2⟩
 other y j hj hg:=by
  rw [getV_cons] at hg
  by_cases q:j=i
  ·rw [if_pos q] at hg;cases hg
  ·rw [if_neg q] at hg
   exact (if_neg fun e=>q (Option.some.inj (hj.symm.trans ((congrArg encS e).trans hi)))).trans (N.other y j hj hg)
theorem stores {env:PySem.Env}{sc:Scope}(hk:env.scope.kind=.function) (hloc:∀ x,sc.names.lookup x=some .local→env.scope.names.lookup x=some .local){E:Value→Shared→Prop}{h:Heap}{m₀:Str→Option Value}{Q:Unit→Shared→Prop}{es:List Expr}:
  ∀ {is:List Nat}{vs:List Value}{ds:List D}{s:Shared}{m:Str→Option Value}{acc:List (Nat×D)},locNs sc es=some is→is.length=ds.length→RepL prog w fns src M h vs ds→s.heap.Ns env.locals m→NsRep prog w fns src M h m₀ m acc→
  (∀ s' m',s'.heap.Ns env.locals m'→NsRep prog w fns src M h m₀ m' ((is.zip ds).reverse++acc)→(∀ a o,a≠env.locals→s.heap.get? a=some o→s'.heap.get? a=some o)→s'.gens=s.gens→s'.os=s.os→Q () s')→
  wpAny (model prog w) A (assignInOrder (es.map (fun e=>assign e env)) vs) Q E s:=by
 induction es with
 | nil=>
  intro is vs ds s m acc h1 hl hr hn N hQ
  cases h1
  cases ds with
  | cons _ _=>cases hl
  | nil=>rw [hr.nil_inv];exact assignInOrder_nil (hQ s m hn N (fun _ _ _ e=>e) rfl rfl)
 | cons e es ih=>
  intro is vs ds s m acc h1 hl hr hn N hQ
  obtain ⟨x,p,i,js,rfl,rfl,h3,h4,h5⟩:=locNs_inv h1
  cases ds with
  | nil=>cases hl
  | cons d ds=>
  obtain ⟨v,us,rfl,hv,hr'⟩:=hr.cons_inv
  refine assignInOrder_cons (PyProof.Rows.assign_Name (wpAny_storeName_local (hloc x h3) hn (fun h' hn' hs=>?_) (hp_fun hk)))
  refine ih h5 (Nat.succ.inj hl) hr' hn' (N.set h4 hv) fun s' m' q1 q2 q3 q4 q5=>hQ s' m' q1 ?_ (fun a o q e=>q3 a o q (hs.extBut a o q e)) q4 q5
  rw [List.zip_cons_cons,List.reverse_cons,List.append_assoc]
  exact q2
theorem each_names {sc:Scope}{env:PySem.Env}{es:List Expr}:∀ {is:List Nat},locNs sc es=some is→assignEach es env=es.map (fun e=>(false,assign e env))∧es.length=is.length:=by
 induction es with
 | nil=>exact fun h=>by cases h;exact ⟨rfl,rfl⟩
 | cons e es ih=>
  intro is h
  obtain ⟨x,p,i,js,rfl,rfl,h3,h4,h5⟩:=locNs_inv h
  obtain ⟨q1,q2⟩:=ih h5
  exact ⟨congrArg (List.cons _) q1,congrArg Nat.succ q2⟩
theorem no_star (env:PySem.Env) (es:List Expr):(es.map fun e=>(false,assign e env)).findIdx? (·.1)=none:=by
 rw [List.findIdx?_eq_none_iff]
 intro y hy
 obtain ⟨e,_,rfl⟩:=List.mem_map.mp hy
 rfl
theorem zipT_inv {tg:List Nat}{ds:List D}{l:List (Nat×D)}(h:zipT tg ds=some l):tg.length=ds.length∧(tg.zip ds).reverse=l:=by
 unfold zipT at h
 by_cases q:tg.length=ds.length
 ·rw [if_pos q] at h;exact ⟨q,Option.some.inj h⟩
 ·rw [if_neg q] at h;cases h
theorem assign_tg {sc:Scope}{tg:Expr}{one:Bool}{is:List Nat}(ht:TgI sc tg one is){env:PySem.Env}(hloc:∀ x,sc.names.lookup x=some .local→env.scope.names.lookup x=some .local) (hk:env.scope.kind=.function) (hh:A.handled=none)
  {d:D}{l:List (Nat×D)}{v:Value}{m:Str→Option Value}(hb:bindT one is d=some l) (hr:Rep prog w fns src M s.heap v d) (hn:s.heap.Ns env.locals m){Q:Unit→Shared→Prop} {E}
  (hQ:∀ s' m',s'.heap.Ns env.locals m'→NsRep prog w fns src M s.heap m m' l→(∀ a o,a≠env.locals→s.heap.get? a=some o→s'.heap.get? a=some o)→s'.gens=s.gens→s'.os=s.os→Q () s'):wpAny (model prog w) A (assign tg env v) Q E s:=by
 have N0:NsRep prog w fns src M s.heap m m []:=⟨fun _ _ _ _ q=>(nomatch q),fun _ _ _ _=>rfl⟩
 cases ht with
 | name x p i et eo ei hl hi=>
  subst et eo ei
  cases hb
  exact PyProof.Rows.assign_Name (wpAny_storeName_local (hloc x hl) hn (fun h' hn' hs=>hQ _ _ hn' (N0.set hi hr) (fun a o q e=>hs.extBut a o q e) rfl rfl) (hp_fun hk))
 | tup es n p et eo hs=>
  subst et eo
  obtain ⟨ds,hd,hz⟩:=bindI hb
  obtain ⟨hlen,rfl⟩:=zipT_inv hz
  rw [asT_inv hd] at hr
  obtain ⟨ad,vs,rfl,htp,hm,hrl⟩:=hr.tup_inv
  obtain ⟨e1,e2⟩:=each_names (env:=env) hs
  refine assign_Tuple_tuple hh htp (by rw [e1,List.length_map,e2,hlen,size_of hrl]) (by rw [e1];exact no_star env es) fun h' he=>?_
  rw [e1,List.map_map]
  have hk':∀ a o,s.heap.get? a=some o→h'.get? a=some o:=fun a o e=>he a o (Nat.ne_of_lt (Heap.lt_size e)) e
  exact stores (s:={s with heap:=h'}) hk hloc hs hlen hrl (hn.keeps hk') N0 fun s' m' q1 q2 q3 q4 q5=>hQ s' m' q1 (by rw [List.append_nil] at q2;exact q2) (fun a o q e=>q3 a o q (hk' a o e)) q4 q5
end
section
variable {prog:Program}{w:World}{A:Around}{s:Shared}{R:Result→Shared→Prop}
theorem compLoop_gen {elt target iter:Expr}{ifs:List Expr}{scope:Scope}{pos:Pos}{it acc:Value}{env:PySem.Env}(I:Nat→Shared→Prop)
  (turn:∀ n s,I n s→wpAny (model prog w) A (pyNext it) (fun r s₁=>match r with
   | none=>R (.ok .next) s₁
   | some v=>wpAny (model prog w) A (letOwnedTupleGo target it v) (fun _ s₀=>wpAny (model prog w) A (assign target env v) (fun _ s₂=>
     wpAny (model prog w) A (forIn ifs true fun c r=>if r=true then do let ok ←isTrue c env (eval c env);pure (ForInStep.yield ok) else pure (ForInStep.yield r)) (fun ok s₃=>
      if ok=true then wpAny (model prog w) A (eval elt env) (fun x s₄=>
       wpAny (model prog w) A (call (.builtin "list.append") [acc,x]) (fun _ s₅=>∃ m,m < n∧I m s₅) (fun _ _=>False) s₄) (fun _ _=>False) s₃
      else ∃ m,m < n∧I m s₃) (fun _ _=>False) s₂) (fun _ _=>False) s₀) (fun _ _=>False) s₁) (fun _ _=>False) s)
  (n:Nat) (h:I n s):codeAny (model prog w) A (.compLoop (.ListComp elt [⟨target,iter,ifs,0⟩] scope pos) 0 it acc env) R s:=by
 refine codeAny_loop rfl I (fun n s hI=>?_) n h
 show wpAny _ A ((compTurn (.ListComp elt [⟨target,iter,ifs,0⟩] scope pos) 0 it acc env).onRaise (fun x=>do noteFrame x env;theTreesLotGoes x)) _ _ s
 refine wpAny_noted ?_
 rw [compTurn_list]
 refine wpAny_bind (wpAny_standAt (wpAny_bind (wpAny_mono (turn n s hI) (fun r s₁ h₁=>?_) fun _ _ h'=>h'.elim)))
 cases r with
 | none=>exact wpAny_pure h₁
 | some v=>
  refine wpAny_bind (wpAny_mono h₁ (fun _ s₀ h₀=>?_) fun _ _ h'=>h'.elim)
  refine wpAny_bind (wpAny_mono h₀ (fun _ s₂ h₂=>wpAny_bind (wpAny_mono h₂ (fun ok s₃ h₃=>?_) fun _ _ h'=>h'.elim)) fun _ _ h'=>h'.elim)
  cases ok with
  | false=>exact wpAny_pure ⟨rfl,h₃⟩
  | true=>
   exact wpAny_bind (wpAny_bind (wpAny_mono h₃ (fun x s₄ h₄=>wpAny_bind (wpAny_mono h₄ (fun _ s₅ h₅=>wpAny_pure (wpAny_pure ⟨rfl,h₅⟩)) fun _ _ h'=>h'.elim)) fun _ _ h'=>h'.elim))
end
inductive PostI (prog:Program) (w:World) (fns:List Nat) (h₀:Heap) (src:Option Addr) (M:List Addr) (env:PySem.Env) (ρ:Env) (s:Shared) (kd:It) (Q:List D→Pi→Prop) (it:Value) (s₂:Shared):Prop
 | mk (I:Addr) (b:Bool) (As:List Addr) (ds:List D) (π₁:Pi) (e:it=.ref I) (h:Q ds π₁) (hl:ds.length≤strBound) (hb:b=true→kd=.enm) (hi:IterAt prog w fns src (As++M) s₂.heap I b As ds)
   (W:WI h₀ src (As++M) s₂ π₁) (F:FI prog w fns src (As++M) env s₂ ρ) (st:Step src s s₂) (hn:∀ a∈As,s.heap.get? a=none)
section
variable (prog:Program) (w:World) (fns:List Nat) (h₀:Heap) (k:Nat)
noncomputable def SndI (sc:Scope) (pit:Expr) (kd:It) (e':Ex):Prop:=
 ∀ (src:Option Addr) (M:List Addr) (env:PySem.Env) (A:Around) (s:Shared) (ρ:Env) (π:Pi) (Q:List D→Pi→Prop),env.scope=sc→Good A k→WI h₀ src M s π→FI prog w fns src M env s ρ→
  wE e' (Ret FN k) ρ π (fun d π=>itW kd d fun ds=>Q ds π)→
  wpAny (model prog w) A (eval pit env) (fun x s₁=>wpAny (model prog w) A (pyIter x) (PostI prog w fns h₀ src M env ρ s kd Q) (fun _ _=>False) s₁) (fun _ _=>False) s
end
section
variable {prog:Program}{w:World}{fns:List Nat}{h₀:Heap}{k:Nat}{K:Frag}{mg mb:Str→Option Value}{sc:Scope}
theorem Step.none_of {src}{s s':Shared} {M} {π}(W:WI h₀ src M s' π) (st:Step src s s'){a:Addr}(h:s'.heap.get? a=none):s.heap.get? a=none:=by
 cases q:s.heap.get? a with
 | none=>rfl
 | some o=>exact nosome h (st.keep a o (W.notab h) (W.nosrc h) q)
section
variable {src:Option Addr}{M As:List Addr}{env:PySem.Env}{s s₁ s':Shared}{ρ:Env}{π:Pi}
theorem more_nin (hN:∀ a∈As,s.heap.get? a=none) (a:Addr) (o:Obj) (q:a∉M) (e:s.heap.get? a=some o):a∉As++M:=fun m=>(List.mem_append.mp m).elim (fun m=>nosome (hN a m) e) q
theorem WI.more (W:WI h₀ src M s π) (hN:∀ a∈As,s.heap.get? a=none) (he:∀ a∈As,∃ o,s'.heap.get? a=some o) (hk:∀ a o,s.heap.get? a=some o→s'.heap.get? a=some o):WI h₀ src (As++M) s' π:=
 W.move (fun a o _=>hk a o) (fun a ha=>(List.mem_append.mp ha).elim (fun m=>⟨by
   cases q:h₀.get? a with
   | none=>rfl
   | some o=>exact nosome (hN a m) (W.base a o q),he a m⟩) fun m=>⟨(W.fresh a m).1,let ⟨o,e⟩:=(W.fresh a m).2;⟨o,hk _ _ e⟩⟩) (List.mem_append_right _ W.tabM) (hk _)
  (fun a o q e=>⟨more_nin hN a o q e,hk a o e⟩) fun a e=>⟨List.mem_append_right _ (W.pool a e).1,hk a⟩
theorem FI.more (F:FI prog w fns src M env s ρ) (hN:∀ a∈As,s.heap.get? a=none) (hk:∀ a o,s.heap.get? a=some o→s'.heap.get? a=some o):FI prog w fns src (As++M) env s' ρ:=
 F.move (hk _) (fun v d r=>RepD.go (fun a o _ _ e=>hk a o e) (more_nin hN) d v (.inl rfl) r) fun c v hc x=>⟨let ⟨o,ho,_⟩:=x;more_nin hN c o hc ho,x.keeps hk⟩
theorem postI_new {kd:It}{Q:List D→Pi→Prop}{ds:List D}{I:Addr}{b:Bool}(W:WI h₀ src M s₁ π) (F:FI prog w fns src M env s₁ ρ) (st:Step src s s₁) (hN:∀ a∈As,s₁.heap.get? a=none) (he:∀ a∈As,∃ o,s'.heap.get? a=some o) (hg:s'.gens=s₁.gens) (ho:s'.os=s₁.os)
  (hk:∀ a o,s₁.heap.get? a=some o→s'.heap.get? a=some o) (hq:Q ds π) (hl:ds.length≤strBound) (hb:b=true→kd=.enm) (hi:IterAt prog w fns src (As++M) s'.heap I b As ds):PostI prog w fns h₀ src M env ρ s kd Q (.ref I) s':=
 ⟨I,b,As,ds,π,rfl,hq,hl,hb,hi,W.more hN he hk,F.more hN hk,st.trans ⟨hg,ho,fun a o _ _ e=>hk a o e⟩,fun a m=>Step.none_of W st (hN a m)⟩
end
theorem seqD_inv {d:D}{ds:List D}(h:seqD d=some ds):d=.tup ds∨d=.lst ds:=by
 cases d with
 | tup l=>exact .inl (congrArg D.tup (Option.some.inj h))
 | lst l=>exact .inr (congrArg D.lst (Option.some.inj h))
 | _=>cases h
theorem sndI_val {pit:Expr}{e':Ex}(H:SndE prog w fns h₀ k sc pit e'):SndI prog w fns h₀ k sc pit .val e':=by
 intro src M env A s ρ π Q hsc hA W F h
 refine wpAny_mono (H src M env A s ρ π _ hsc hA W F h) (fun v s₁ p=>?_) fun _ _ x=>x
 obtain ⟨d,π₁,h1,r1,st1,W1⟩:=p
 obtain ⟨ds,hd,h1⟩:=onD_inv h1
 obtain ⟨hl,hq⟩:=chkL_iff.mp h1
 have hnew:=all_one (P:=fun a=>s₁.heap.get? a=none) (fresh_none (h:=s₁.heap) (Nat.le_refl _))
 rcases seqD_inv hd with rfl | rfl
 ·obtain ⟨l,vs,rfl,ht,hm,hr⟩:=r1.tup_inv
  exact iter_tuple ht (postI_new (b:=false) W1 (F.step W st1) st1 hnew (all_one ⟨_,Heap.get?_push_size _ rfl⟩) rfl rfl (fun _ _ e=>Heap.get?_push_of_some _ e) hq hl nofun (.tup l 0 vs rfl rfl ⟨_,Heap.get?_push_size _ rfl,rfl,rfl⟩ (ht.push _) (let ⟨_,ho,_⟩:=ht;more_nin hnew _ _ hm ho)
   (hr.go (fun a o _ _ e=>Heap.get?_push_of_some _ e) (more_nin hnew) (.inl rfl))))
 ·obtain ⟨l,vs,rfl,ht,hm,hr⟩:=r1.lst_inv
  exact wpAny_pyIter_list ht (postI_new (b:=false) W1 (F.step W st1) st1 hnew (all_one ⟨_,Heap.get?_push_size _ rfl⟩) rfl rfl (fun _ _ e=>Heap.get?_push_of_some _ e) hq hl nofun (.lst l 0 vs rfl rfl ⟨_,Heap.get?_push_size _ rfl,rfl,rfl⟩ (ht.push _) (let ⟨_,ho,_⟩:=ht;more_nin hnew _ _ hm ho)
   (hr.go (fun a o _ _ e=>Heap.get?_push_of_some _ e) (more_nin hnew) (.inl rfl))))
theorem call_type1 (G:Gd prog w fns K mg mb h₀){g:Str}{T:String}{gp p:Pos}{a:Expr}{a':Ex}{src:Option Addr}{M:List Addr}{env:PySem.Env}{A:Around}{s:Shared}{ρ:Env}{π:Pi}{K':D→Pi→Prop}{R:Value→Shared→Prop}(hg:(gName sc g).isSome=true)
  (hb:g="len"∨g="list"∨g="tuple"∨g="str"∨g="int"∨g="max"∨g="isinstance"∨g="repr"∨g="bool"∨g="range"∨g="enumerate") (hv:bootBuiltins g=some (.type T)) (H:SndE prog w fns h₀ k sc a a') (sa:∀ x p,a≠.Starred x p)
  (hsc:env.scope=sc) (hA:Good A k) (W:WI h₀ src M s π) (F:FI prog w fns src M env s ρ) (h:wE a' (Ret FN k) ρ π K') (hR:∀ v s₁,Post prog w fns h₀ src M s K' v s₁→wpAny (model prog w) A (call (.type T) [v]) R (fun _ _=>False) s₁):
  wpAny (model prog w) A (eval (.Call (.Name g gp) [a] [] p) env) R (fun _ _=>False) s:=by
 refine wpAny_Call_NameR (snd_bname G hg hsc W F hb hv ?_)
 have hb:backTo p (starEach [a] env)=[(false,eval a env)]:=by rw [starEach_one sa];rfl
 rw [hb]
 exact PySem.callWith_type rfl (evalArgs_plain (spliced_cons (wpAny_mono (H src M env A s ρ π _ hsc hA W F h) (fun v s₁ p=>spliced_nil (hR v s₁ p)) fun _ _ x=>x)))
theorem rngD_inv {n:Int}{ds:List D}(h:rngD n=some ds):∃ N:Nat,n=N∧N≤1000∧ds=(List.range' 0 N).map fun (i:Nat)=>.int i:=by
 unfold rngD at h
 by_cases q:0≤n∧n≤1000
 ·rw [if_pos q] at h
  obtain ⟨N,rfl⟩:=Int.eq_ofNat_of_zero_le q.1
  exact ⟨N,rfl,Int.ofNat_le.mp q.2,by rw [←List.range_eq_range'];exact (Option.some.inj h).symm⟩
 ·rw [if_neg q] at h;cases h
theorem sndI_rng (G:Gd prog w fns K mg mb h₀){g:Str}{gp p:Pos}{a:Expr}{a':Ex}(hg:gName sc g=some 1590772524901) (H:SndE prog w fns h₀ k sc a a') (sa:∀ x p,a≠.Starred x p):SndI prog w fns h₀ k sc (.Call (.Name g gp) [a] [] p) .rng a':=by
 intro src M env A s ρ π Q hsc hA W F h
 obtain rfl:=enc_name "range" (gName_data hg).2.2 (by decide +kernel)
 refine call_type1 G (hg▸rfl) (by simp) (T:="range") (by decide +kernel) H sa hsc hA W F h fun v s₁ p=>?_
 obtain ⟨d,π₁,h1,r1,st1,W1⟩:=p
 obtain ⟨ds,hd,h1⟩:=onD_inv h1
 obtain ⟨hl,hq⟩:=chkL_iff.mp h1
 obtain ⟨n,hn,hr⟩:=bindI hd
 obtain ⟨N,rfl,hN,rfl⟩:=rngD_inv hr
 rw [asI_inv hn] at r1
 obtain ⟨tN,rfl⟩:=r1.int_inv
 refine call_range_1 ?_
 refine wpAny_pyIter_range (IsRange.new ..) (small_one (by decide) (by decide) (by lia) (by lia)) ?_
 have hsz:Builtin.Range.rangeSize 0 (N:Int) 1=(N:Int):=by rw [rangeSize_one];split <;> lia
 rw [hsz]
 exact postI_new (b:=false) W1 (F.step W st1) st1 (all_one (fresh_none (by rw [Heap.size_push];exact Nat.le_succ _))) (all_one ⟨_,Heap.get?_push_size _ rfl⟩) rfl rfl (fun _ _ e=>Heap.get?_push_of_some _ (Heap.get?_push_of_some _ e)) hq hl nofun (.rng 0 N rfl rfl (Heap.get?_push_size _ rfl) rfl)
theorem sndI_enm (G:Gd prog w fns K mg mb h₀){g:Str}{gp p:Pos}{a:Expr}{a':Ex}(hg:gName sc g=some 6593447022513235260517) (H:SndE prog w fns h₀ k sc a a') (sa:∀ x p,a≠.Starred x p):SndI prog w fns h₀ k sc (.Call (.Name g gp) [a] [] p) .enm a':=by
 intro src M env A s ρ π Q hsc hA W F h
 obtain rfl:=enc_name "enumerate" (gName_data hg).2.2 (by decide +kernel)
 refine call_type1 G (hg▸rfl) (by simp) (T:="enumerate") (by decide +kernel) H sa hsc hA W F h fun v s₁ p=>?_
 obtain ⟨d,π₁,h1,r1,st1,W1⟩:=p
 obtain ⟨ds,hd,h1⟩:=onD_inv h1
 obtain ⟨hl,hq⟩:=chkL_iff.mp h1
 obtain ⟨es,he,rfl⟩:=mapI hd
 rw [asL_inv he] at r1
 obtain ⟨l,vs,rfl,ht,hm,hr⟩:=r1.lst_inv
 refine call_enumerate_list ht fun h' he hi hsz hk=>?_
 have hN:∀ a∈[s₁.heap.objs.size+1,s₁.heap.objs.size],s₁.heap.get? a=none:=List.forall_mem_cons.mpr ⟨fresh_none (Nat.le_succ _),all_one (fresh_none (Nat.le_refl _))⟩
 exact wpAny_pyIter_enum he (postI_new W1 (F.step W st1) st1 hN (List.forall_mem_cons.mpr ⟨⟨_,he⟩,all_one (let ⟨o,ho,_⟩:=hi;⟨o,ho⟩)⟩) rfl rfl hk hq hl (fun _=>rfl)
  (.enm _ l 0 vs es _ rfl he hi (let ⟨o,ho,r⟩:=ht;⟨o,hk _ _ ho,r⟩) (let ⟨_,ho,_⟩:=ht;more_nin hN _ _ hm ho) (Nat.succ_ne_self _) (hr.go (fun a o _ _ e=>hk a o e) (more_nin hN) (.inl rfl)) rfl rfl))
abbrev testsOf (env:PySem.Env) (ifs:List Expr) (b:Bool):Sem Bool:=forIn ifs b fun c r=>if r=true then do let ok ←isTrue c env (eval c env);pure (ForInStep.yield ok) else pure (ForInStep.yield r)
theorem tests_off {env:PySem.Env}{A:Around}{Q:Bool→Shared→Prop}{s:Shared}(h:Q false s) (ifs:List Expr):wpAny (model prog w) A (testsOf env ifs false) Q (fun _ _=>False) s:=by
 induction ifs with
 | nil=>exact wpAny_pure h
 | cons c ifs ih=>
  show wpAny _ _ (forIn (c::ifs) _ _) _ _ _
  rw [List.forIn_cons]
  exact wpAny_bind (wpAny_pure ih)
theorem snd_tests {f:Expr→Option Ex}(IT:∀ pe e,f pe=some e→SndT prog w fns h₀ k sc pe e){src:Option Addr}{M:List Addr}{env:PySem.Env}{A:Around}{ρ:Env}{Q:Bool→Pi→Prop}(hsc:env.scope=sc) (hA:Good A k){ifs:List Expr}:
  ∀ {cs:Exs}{s:Shared}{π:Pi},compL f ifs=some cs→WI h₀ src M s π→FI prog w fns src M env s ρ→wT cs (Ret FN k) ρ π Q→wpAny (model prog w) A (testsOf env ifs true) (PostT h₀ src M s Q) (fun _ _=>False) s:=by
 induction ifs with
 | nil=>
  intro cs s π hc W F h
  cases hc
  exact wpAny_pure ⟨π,h,Step.refl _,W⟩
 | cons c ifs ih=>
  intro cs s π hc W F h
  obtain ⟨e',es'',he,hes,rfl,hst⟩:=compL_inv hc
  show wpAny _ _ (forIn (c::ifs) _ _) _ _ _
  rw [List.forIn_cons]
  refine wpAny_bind (wpAny_bind (wpAny_mono (IT c e' he src M env A s ρ π (fun t π=>if t=true then wT es'' (Ret FN k) ρ π Q else Q false π) hsc hA W F h) (fun ok s₁ p=>wpAny_pure ?_) fun _ _ x=>x))
  obtain ⟨π₁,h1,st1,W1⟩:=p
  cases ok with
  | false=>exact tests_off ⟨π₁,h1,st1,W1⟩ ifs
  | true=>exact wpAny_mono (ih hes W1 (F.step W st1) h1) (fun b s₂ p=>PostT.of_step st1 p) fun _ _ x=>x
end
section
variable {prog:Program}{w:World}{fns:List Nat}{h₀:Heap}{src:Option Addr}{M:List Addr}{A:Around}{s s':Shared}{π:Pi}{I:Addr}{b:Bool}{As:List Addr}{ds:List D}
theorem iter_self {Q:Value→Shared→Prop} {E}(x:IterAt prog w fns src M s.heap I b As ds) (h:Q (.ref I) s):wpAny (model prog w) A (pyIter (.ref I)) Q E s:=by
 cases x with
 | lst l i vs eb eA hi hl hm hr=>exact wpAny_pyIter_listiter hi h
 | tup l i vs eb eA hi hl hm hr=>exact wpAny_pyIter_tupleiter hi h
 | rng x n eb eA hi=>exact wpAny_pyIter_rangeiter hi h
 | enm it l i vs es old eA he hi hl hm hne hr=>exact wpAny_pyIter_enum he h
theorem IterAt.add {c:Addr}(x:IterAt prog w fns src M s.heap I b As ds) (hc:s.heap.objs.size≤c) (hk:∀ a o,s.heap.get? a=some o→s'.heap.get? a=some o):IterAt prog w fns src (c::M) s'.heap I b As ds:=
 x.go (fun a _=>hk a) (fun a o _ _ e=>hk a o e) (fresh_ne hc)
theorem lookup_mem' {l:List (Str×NameKind)}{x:Str}{k:NameKind}(h:l.lookup x=some k):(x,k)∈l:=by
 induction l with
 | nil=>cases h
 | cons p l ih=>
  rw [List.lookup_cons] at h
  cases hx:x==p.1 with
  | true=>rw [hx] at h;rw [eq_of_beq hx,←Option.some.inj h];exact List.mem_cons_self
  | false=>rw [hx] at h;exact List.mem_cons_of_mem _ (ih h)
noncomputable def relK (sc:Scope) (p:Str×NameKind):Str×NameKind:=if (p.2==.free&&sc.kind==.function&&sc.names.lookup p.1==some .cell) then (p.1,.cell) else (p.1,p.2)
theorem relK_fst (sc:Scope) (p:Str×NameKind):(relK sc p).1=p.1:=by
 unfold relK
 cases (p.2==.free&&sc.kind==.function&&sc.names.lookup p.1==some .cell) <;> rfl
theorem relK_snd {sc:Scope}{p:Str×NameKind}{k:NameKind}(h:(relK sc p).2=k):p.2=k∨(p.2=.free∧k=.cell):=by
 unfold relK at h
 cases hc:(p.2==.free&&sc.kind==.function&&sc.names.lookup p.1==some .cell) with
 | true=>rw [hc] at h;exact .inr ⟨eq_of_beq (band (band hc).1).1,h.symm⟩
 | false=>rw [hc] at h;exact .inl h
theorem relab_mem {sc' sc:Scope}{x:Str}{k:NameKind}(h:(relab sc' sc).names.lookup x=some k):(x,k)∈sc'.names∨((x,NameKind.free)∈sc'.names∧k=.cell):=by
 obtain ⟨p,h1,h2⟩:=List.mem_map.mp (show (x,k)∈sc'.names.map (relK sc) from lookup_mem' h)
 have e1:p.1=x:=(relK_fst sc p).symm.trans (congrArg Prod.fst h2)
 rcases relK_snd (show (relK sc p).2=k from congrArg Prod.snd h2) with e | ⟨e,e3⟩
 ·left;rw [←e1,←e];exact h1
 ·right;exact ⟨by rw [←e1,←e];exact h1,e3⟩
theorem relab_free {sc' sc:Scope}(C:CompOk sc' sc){x:Str}(h:(relab sc' sc).names.lookup x=some .cell∨(relab sc' sc).names.lookup x=some .free):(x,NameKind.free)∈sc'.names:=by
 rcases h with h | h
 ·exact (relab_mem h).elim (fun m=>absurd rfl (C.nocell _ m)) And.left
 ·exact (relab_mem h).elim id And.left
theorem relab_lookup {env:PySem.Env}{sc':Scope}{x:Str}(h:sc'.names.lookup x=some .local):(relabel sc' env).names.lookup x=some .local:=lookup_relabel_local h
theorem relab_eq {env:PySem.Env}{sc' sc:Scope}(h:env.scope=sc):relabel sc' env=relab sc' sc:=by subst h;rfl
theorem relab_lam {sc' sc:Scope}(h:lamScope sc'=false):lamScope (relab sc' sc)=false:=by
 have key:∀ l:List (Str×NameKind),(l.map (relK sc)).lookup ("tails":Str)=some .local→l.lookup ("tails":Str)=some .local:=by
  intro l
  induction l with
  | nil=>exact fun h=>nomatch h
  | cons p l ih=>
   intro h
   rw [List.map_cons,List.lookup_cons,relK_fst] at h
   rw [List.lookup_cons]
   cases hx:("tails":Str)==p.1 with
   | true=>
    rw [hx] at h
    exact congrArg some ((relK_snd (Option.some.inj h)).elim id fun q=>nomatch q.2)
   | false=>rw [hx] at h;exact ih h
 exact beq_eq_false_iff_ne.mpr fun q=>beq_eq_false_iff_ne.mp h (key _ q)
section
variable {k:Nat}{sc:Scope}
structure CLoc (src:Option Addr) (M:List Addr) (env:PySem.Env) (s:Shared) (As:List Addr) (Dx Cx:Addr):Prop where
 A:∀ a∈As,s.heap.get? a=none
 D:s.heap.get? Dx=none
 C:s.heap.get? Cx=none
 DC:Dx≠Cx
 DA:Dx∉As
 CA:Cx∉As
 tab:∀ {a},s.heap.get? a=none→a≠lamTab
 src:∀ {a},s.heap.get? a=none→src≠some a
 L:∀ {a},s.heap.get? a=none→env.locals≠a
 M:∀ {a},s.heap.get? a=none→a∉M
abbrev cM (Cx Dx:Addr) (As M:List Addr):List Addr:=Cx::Dx::(As++M)
theorem inAs {Cx Dx:Addr}{As M:List Addr}(a:Addr) (h:a∈As):a∈cM Cx Dx As M:=List.mem_cons_of_mem _ (List.mem_cons_of_mem _ (List.mem_append_left _ h))
theorem inCx {Cx Dx:Addr}{As M:List Addr}:Cx∈cM Cx Dx As M:=List.mem_cons_self
theorem inDx {Cx Dx:Addr}{As M:List Addr}:Dx∈cM Cx Dx As M:=List.mem_cons_of_mem _ List.mem_cons_self
theorem inMs {Cx Dx:Addr}{As M:List Addr}(a:Addr) (h:a∈M):a∈cM Cx Dx As M:=List.mem_cons_of_mem _ (List.mem_cons_of_mem _ (List.mem_append_right _ h))
inductive LoopJ (prog:Program) (w:World) (fns:List Nat) (h₀:Heap) (src:Option Addr) (Mx:List Addr) (env:PySem.Env) (ρ:Env) (s:Shared) (k:Nat) (one:Bool) (is:List Nat) (elt':Ex) (cs:Exs) (Q:D→Pi→Prop) (I:Addr) (b:Bool) (As:List Addr) (Dx Cx:Addr) (n:Nat) (s₄:Shared):Prop
 | mk (rest acc:List D) (π':Pi) (m:Str→Option Value) (vs:Array Value) (hn:n=rest.length)
   (hw:wMap (fun d π k'=>tgW one is d fun l=>wT cs (Ret FN k) ⟨l,ρ.c⟩ π fun b π=>if b=true then wE elt' (Ret FN k) ⟨l,ρ.c⟩ π fun r π=>k' (some r) π else k' none π) rest acc π' (fun rs π=>Q (.lst rs) π))
   (hI:IterAt prog w fns src Mx s₄.heap I b As rest) (hL:s₄.heap.PlainList Dx vs) (hr:RepL prog w fns src Mx s₄.heap vs.toList acc.reverse) (hN:s₄.heap.Ns Cx m) (hW:WI h₀ src Mx s₄ π') (hst:Step src s s₄) (hF:FI prog w fns src Mx env s₄ ρ) (hsz:vs.size+rest.length≤strBound)
theorem plain_keep {h h':Heap}{a:Addr}{vs:Array Value}(x:h.PlainList a vs) (hk:∀ o,h.get? a=some o→h'.get? a=some o):h'.PlainList a vs:=let ⟨n,ho⟩:=x;⟨n,hk _ ho⟩
section
variable {elt tg it:Expr}{ifs:List Expr}{sc':Scope}{pos:Pos}{one:Bool}{is:List Nat}{elt':Ex}{cs:Exs}{f:Expr→Option Ex}{env:PySem.Env}{ρ:Env}{Q:D→Pi→Prop}{Dx Cx:Addr}
noncomputable def CEnd (prog:Program) (w:World) (fns:List Nat) (h₀:Heap) (src:Option Addr) (M:List Addr) (env:PySem.Env) (ρ:Env) (s:Shared) (Q:D→Pi→Prop) (R:Addr→Addr→Shared→Prop):Prop:=
 ∀ (Dl C:Addr) (s':Shared) (m:Str→Option Value) (rs:List D) (vs:Array Value) (π':Pi),Q (.lst rs) π'→s'.heap.Ns C m→s'.heap.PlainList Dl vs→RepL prog w fns src (C::Dl::M) s'.heap vs.toList rs→
   WI h₀ src (C::Dl::M) s' π'→Step src s s'→FI prog w fns src (C::Dl::M) env s' ρ→C≠Dl→s.heap.get? Dl=none→s.heap.get? C=none→R Dl C s'
theorem comp_frame {m:Str→Option Value}{l:List (Nat×D)}{m0:Str→Option Value}{h:Heap}{Mx:List Addr}(C:CompOk sc' sc) (hsc:env.scope=sc) (hfree:∀ x,(x,NameKind.free)∈sc'.names→∃ c,env.cells.lookup x=some c) (ht:Cx≠lamTab) (hs:src≠some Cx)
  (F:FI prog w fns src Mx env s ρ) (hN:s.heap.Ns Cx m) (N:NsRep prog w fns src Mx h m0 m l) (kp:Kept Mx h s.heap):FI prog w fns src Mx (compEnvC sc' (closL env sc'.names) Cx env) s ⟨l,ρ.c⟩ where
 kind:=C.kind'
 glob:=F.glob
 bi:=F.bi
 L:=⟨ht,hs⟩
 ns:=⟨m,hN,fun x i d q1 q2=>let ⟨v,q3,q4⟩:=N.rep x i d q1 q2;⟨v,q3,q4.kept kp⟩⟩
 cl x i d q1 q2 c q3:=F.cl x i d q1 q2 c (closL_lookup hfree q3)
 cd x q:=closL_has (relab_free C (relab_eq hsc▸q))
 lam q:=nomatch (relab_lam (sc:=sc) C.nolam).symm.trans (show lamScope (relab sc' sc)=true from relab_eq hsc▸q)
theorem comp_turn {d:D}{rest acc:List D}{n:Nat}{π':Pi}{m:Str→Option Value}{vs:Array Value}{s₄:Shared}(X:CLoc src M env s As Dx Cx) (C:CompOk sc' sc) (hsc:env.scope=sc) (hfree:∀ x,(x,NameKind.free)∈sc'.names→∃ c,env.cells.lookup x=some c)
  (T:TgI sc' tg one is) (hb:b=true→one=false) (HE:SndE prog w fns h₀ k (relab sc' sc) elt elt') (HT:∀ pe e,f pe=some e→SndT prog w fns h₀ k (relab sc' sc) pe e) (hcs:compL f ifs=some cs) (hA:Good A k)
  (hn:n=(d::rest).length)
  (hw:wMap (fun d π k'=>tgW one is d fun l=>wT cs (Ret FN k) ⟨l,ρ.c⟩ π fun b π=>if b=true then wE elt' (Ret FN k) ⟨l,ρ.c⟩ π fun r π=>k' (some r) π else k' none π) (d::rest) acc π' (fun rs π=>Q (.lst rs) π))
  (hI:IterAt prog w fns src (cM Cx Dx As M) s₄.heap I b As (d::rest)) (hL:s₄.heap.PlainList Dx vs) (hr:RepL prog w fns src (cM Cx Dx As M) s₄.heap vs.toList acc.reverse) (hN:s₄.heap.Ns Cx m) (hW:WI h₀ src (cM Cx Dx As M) s₄ π') (hst:Step src s s₄) (hF:FI prog w fns src (cM Cx Dx As M) env s₄ ρ)
  (hsz:vs.size+(d::rest).length≤strBound){R:Option Value→Shared→Prop}
  (hR:∀ v s₁,wpAny (model prog w) A (letOwnedTupleGo tg (.ref I) v) (fun _ s₀=>wpAny (model prog w) A (assign tg (compEnvC sc' (closL env sc'.names) Cx env) v) (fun _ s₂=>
    wpAny (model prog w) A (testsOf (compEnvC sc' (closL env sc'.names) Cx env) ifs true) (fun ok s₃=>
     if ok=true then wpAny (model prog w) A (eval elt (compEnvC sc' (closL env sc'.names) Cx env)) (fun x s₄=>
      wpAny (model prog w) A (call (.builtin "list.append") [.ref Dx,x]) (fun _ s₅=>∃ m,m < n∧LoopJ prog w fns h₀ src (cM Cx Dx As M) env ρ s k one is elt' cs Q I b As Dx Cx m s₅) (fun _ _=>False) s₄) (fun _ _=>False) s₃
     else ∃ m,m < n∧LoopJ prog w fns h₀ src (cM Cx Dx As M) env ρ s k one is elt' cs Q I b As Dx Cx m s₃) (fun _ _=>False) s₂) (fun _ _=>False) s₀) (fun _ _=>False) s₁→R (some v) s₁):
  wpAny (model prog w) A (pyNext (.ref I)) R (fun _ _=>False) s₄:=by
 obtain ⟨l,hbind,hw⟩:=onD_inv hw
 have hbT:b=true→∃ es n p,tg=.Tuple es n p:=fun q=>by
  cases T with
  | name x p i et eo=>exact nomatch eo.symm.trans (hb q)
  | tup es n p et=>exact ⟨es,n,p,et⟩
 have hsz':vs.size+rest.length+1≤strBound:=hsz
 have hlt:rest.length < n:=hn▸Nat.lt_succ_self _
 clear hsz hn
 refine iter_next T.tgt hbT inAs (fun a ha=>(hW.fresh a ha).2) hI hR fun v s₅ hv hI5 hk5 he5 hg5 ho5=>?_
 have hW5:=hW.updL inAs (fun q=>X.tab (X.A _ q) rfl) (fun a q ha=>X.src (X.A a ha) q) hk5 he5
 have hst5:=hst.upd X.A hg5 ho5 hk5
 have hN5:=ns_keep hN (hk5 _ · X.CA)
 have hL5:=plain_keep hL (hk5 _ · X.DA)
 have hr5:=hr.kept (keptL inAs hk5)
 have hF5:=hF.updL inAs (fun q=>X.L (X.A _ q) rfl) hk5
 clear hI hL hr hN hW hst hF hk5 he5 hg5 ho5 hR
 refine assign_tg (env:=compEnvC sc' (closL env sc'.names) Cx env) T (fun x=>relab_lookup) C.kind' hA.handled hbind hv hN5 fun s₆ m6 hN6 N6 hk6 hg6 ho6=>?_
 have hW6:=hW5.upd inCx (X.tab X.C) (X.src X.C) hk6 (ns_at hN6)
 have hst6:=hst5.upd1 X.C hg6 ho6 hk6
 have kp6:=kept_upd (M:=cM Cx Dx As M) inCx hk6
 have hL6:=plain_keep hL5 (hk6 _ · X.DC)
 have hr6:=hr5.kept kp6
 have hF6:=hF5.upd inCx (X.L X.C) hk6
 have hI6:=hI5.kept (fun a ha o e=>hk6 a o (fun q=>X.CA ((show a=Cx from q)▸ha)) e) kp6
 have hFc:=comp_frame C hsc hfree (X.tab X.C) (X.src X.C) hF6 hN6 N6 kp6
 clear hI5 hL5 hr5 hN5 hW5 hst5 hF5 hk6 hg6 ho6 kp6 hv
 refine wpAny_mono (snd_tests HT (relab_eq hsc) hA hcs hW6 hFc hw) (fun ok s₇ p=>?_) fun _ _ x=>x
 obtain ⟨π7,h7,st7,hW7⟩:=p
 have keep:∀ {sa sb:Shared},Step src sa sb→∀ a o,s.heap.get? a=none→sa.heap.get? a=some o→sb.heap.get? a=some o:=fun st a o q e=>st.keep _ _ (X.tab q) (X.src q) e
 have hN7:=ns_keep hN6 (keep st7 _ · X.C)
 have hL7:=plain_keep hL6 (keep st7 _ · X.D)
 have hr7:=hr6.kept (hW6.kept st7)
 have hF7:=hF6.step hW6 st7
 have hI7:=hI6.kept (fun a ha o=>keep st7 a o (X.A a ha)) (hW6.kept st7)
 have hst7:=hst6.trans st7
 have hFc7:=hFc.step hW6 st7
 clear hI6 hL6 hr6 hN6 hW6 hst6 hF6 hFc st7 N6 hw
 cases ok with
 | false=>exact ⟨rest.length,hlt,rest,acc,π7,m6,vs,rfl,h7,hI7,hL7,hr7,hN7,hW7,hst7,hF7,Nat.le_of_succ_le hsz'⟩
 | true=>
  refine wpAny_mono (HE src _ (compEnvC sc' (closL env sc'.names) Cx env) A s₇ ⟨l,ρ.c⟩ π7 _ (relab_eq hsc) hA hW7 hFc7 h7) (fun v8 s₈ p=>?_) fun _ _ x=>x
  obtain ⟨d8,π8,h8,r8,st8,hW8⟩:=p
  refine wpAny_list_append_plain (plain_keep hL7 (keep st8 _ · X.D)) (fun h9 hL9 hs9=>?_) (Nat.le_trans (Nat.le_trans (Nat.le_succ_of_le (Nat.le_add_right _ _)) hsz') sizeLine_big)
  have hk9:∀ a o,a≠Dx→s₈.heap.get? a=some o→h9.get? a=some o:=fun a o q e=>hs9.extBut a o q e
  have kp9:Kept (cM Cx Dx As M) s₈.heap h9:=kept_upd (s':={s₈ with heap:=h9}) inDx hk9
  refine ⟨rest.length,hlt,rest,d8::acc,π8,m6,vs.push v8,rfl,h8,(hI7.kept (fun a ha o=>keep st8 a o (X.A a ha)) (hW7.kept st8)).kept (fun a ha o e=>hk9 a o (fun q=>X.DA (q▸ha)) e) kp9,hL9,?_,
   ns_keep (ns_keep hN7 (keep st8 _ · X.C)) (hk9 _ · X.DC.symm),hW8.upd (s':={s₈ with heap:=h9}) inDx (X.tab X.D) (X.src X.D) hk9 (plain_at hL9),
   (hst7.trans st8).upd1 (s₂:={s₈ with heap:=h9}) X.D rfl rfl hk9,(hF7.step hW7 st8).upd (s':={s₈ with heap:=h9}) inDx (X.L X.D) hk9,by rw [Array.size_push,Nat.add_right_comm];exact hsz'⟩
  rw [Array.toList_push,List.reverse_cons]
  exact ((hr7.kept (hW7.kept st8)).kept kp9).append (.cons (r8.kept kp9) .nil)
theorem comp_last {acc:List D}{π':Pi}{m:Str→Option Value}{vs:Array Value}{s₄:Shared}{R:Addr→Addr→Shared→Prop}(W:WI h₀ src M s π) (X:CLoc src M env s As Dx Cx) (hA:Good A k) (hQ:Q (.lst acc.reverse) π')
  (hI:IterAt prog w fns src (cM Cx Dx As M) s₄.heap I b As []) (hL:s₄.heap.PlainList Dx vs) (hr:RepL prog w fns src (cM Cx Dx As M) s₄.heap vs.toList acc.reverse) (hN:s₄.heap.Ns Cx m) (hW:WI h₀ src (cM Cx Dx As M) s₄ π') (hst:Step src s s₄) (hF:FI prog w fns src (cM Cx Dx As M) env s₄ ρ)
  (hend:CEnd prog w fns h₀ src M env ρ s Q R){Q':Option Value→Shared→Prop}(hR:∀ s',R Dx Cx s'→Q' none s'):wpAny (model prog w) A (pyNext (.ref I)) Q' (fun _ _=>False) s₄:=by
 refine iter_end hA.handled inAs hI fun s₅ hk5 hg5 ho5=>hR _ ?_
 have sub:∀ a,a∈Cx::Dx::M→a∈cM Cx Dx As M:=List.forall_mem_cons.mpr ⟨inCx,List.forall_mem_cons.mpr ⟨inDx,inMs⟩⟩
 have nA:∀ a∈Cx::Dx::M,a∉As:=List.forall_mem_cons.mpr ⟨X.CA,List.forall_mem_cons.mpr ⟨X.DA,fun a m q=>X.M (X.A a q) m⟩⟩
 exact hend _ _ s₅ m acc.reverse vs π' hQ (ns_keep hN (hk5 _ · X.CA)) (plain_keep hL (hk5 _ · X.DA)) ((hr.kept (keptL inAs hk5)).weak fun a q e=>q (sub a e))
  (hW.off sub (List.mem_cons_of_mem _ (List.mem_cons_of_mem _ W.tabM)) inAs (fun q=>X.tab (X.A _ q) rfl) (fun a q=>⟨List.mem_cons_of_mem _ (List.mem_cons_of_mem _ (W.pool a q).1),fun ha=>X.src (X.A a ha) q⟩) hk5 fun a m q=>absurd q (nA a m))
  (hst.upd X.A hg5 ho5 hk5) ((hF.updL inAs (fun q=>X.L (X.A _ q) rfl) hk5).less sub) X.DC.symm X.D X.C
theorem snd_comp_core {kd:It}{it':Ex}(hok:compScopeOk sc' sc=true) (htg:tgN sc' tg=some (one,is)) (hkd:kd=.enm→one=false) (HI:SndI prog w fns h₀ k sc it kd it') (HE:SndE prog w fns h₀ k (relab sc' sc) elt elt')
  (HT:∀ pe e,f pe=some e→SndT prog w fns h₀ k (relab sc' sc) pe e) (hcs:compL f ifs=some cs) (hset:∀ env x,foldedSetIterable it env x=pure x)
  (hsc:env.scope=sc) (hA:Good A k) (W:WI h₀ src M s π) (F:FI prog w fns src M env s ρ)
  (h:wE (.comp elt' one is kd it' cs) (Ret FN k) ρ π Q){use:Option (Value→Sem Unit)}{Qm:Value→Shared→Prop}{p:Pos}
  (hend:CEnd prog w fns h₀ src M env ρ s Q fun Dl C s'=>compPost (model prog w) A (fun _ _=>False) use Qm (.ref Dl) C (.ok .next) s'):
  wpAny (model prog w) A (comprehension (.ListComp elt [⟨tg,it,ifs,0⟩] sc' pos) sc' env p (newList []) false (eval it env) use) Qm (fun _ _=>False) s:=by
 have C:=compScope_data hok
 have hfree:∀ x,(x,NameKind.free)∈sc'.names→∃ c,env.cells.lookup x=some c:=fun x hx=>F.cd x (hsc.symm▸C.free x hx)
 refine wpAny_comprehension_free (use:=use) (cl:=closL env sc'.names) rfl (hset env) (closureFor_eq hfree) C.kind' C.locs ?_
 refine wpAny_mono (HI src M env A s ρ π _ hsc hA W F h) (fun x s₁ p=>wpAny_mono p (fun itv s₂ p2=>?_) fun _ _ x=>x) fun _ _ x=>x
 obtain ⟨I,b,As,ds,π₁,rfl,h1,hlen,hb,hit,W2,F2,st2,hAs⟩:=p2
 refine wpAny_newList ?_ (by decide)
 refine wpAny_newFunctionEnv C.nocell (fun _ q=>absurd q List.not_mem_nil) (fun h₁ hns hsb=>?_) C.kind'
 have hk3:∀ a o,s₂.heap.get? a=some o→(s₂.heap.push {cls:=.type "list",data:=.seq ([]:List Value).toArray}).get? a=some o:=fun a o e=>Heap.get?_push_of_some _ e
 have hk34:∀ a o,(s₂.heap.push {cls:=.type "list",data:=.seq ([]:List Value).toArray}).get? a=some o→h₁.get? a=some o:=fun a o e=>hsb.extBut a o (Nat.ne_of_lt (Heap.lt_size e)) (Heap.get?_push_of_some _ e)
 have hDo:(s₂.heap.push {cls:=.type "list",data:=.seq ([]:List Value).toArray}).get? s₂.heap.objs.size=some {cls:=.type "list",data:=.seq ([]:List Value).toArray}:=Heap.get?_push_size _ rfl
 have hC:(s₂.heap.push {cls:=.type "list",data:=.seq ([]:List Value).toArray}).objs.size=s₂.heap.objs.size+1:=Heap.size_push ..
 have hDn2:s₂.heap.get? s₂.heap.objs.size=none:=fresh_none (Nat.le_refl _)
 have hCn2:s₂.heap.get? (s₂.heap.push {cls:=.type "list",data:=.seq ([]:List Value).toArray}).objs.size=none:=fresh_none (hC▸Nat.le_succ _)
 have hnA:∀ {a},s₂.heap.get? a=none→a∉As:=fun e q=>W2.nin e (List.mem_append_left _ q)
 have X:CLoc src M env s As s₂.heap.objs.size (s₂.heap.push {cls:=.type "list",data:=.seq ([]:List Value).toArray}).objs.size:=
  ⟨hAs,Step.none_of W2 st2 hDn2,Step.none_of W2 st2 hCn2,hC▸Nat.ne_of_lt (Nat.lt_succ_self _),hnA hDn2,hnA hCn2,W.notab,W.nosrc,F.Lne,W.nin⟩
 obtain ⟨oC,hCo⟩:∃ o,h₁.get? (s₂.heap.push {cls:=.type "list",data:=.seq ([]:List Value).toArray}).objs.size=some o:=ns_at hns
 have W4:=(W2.add (s':={s₂ with heap:=s₂.heap.push {cls:=.type "list",data:=.seq ([]:List Value).toArray}}) (Nat.le_refl _) hDo hk3).add (s':={s₂ with heap:=h₁,toks:=s₂.toks+([]:List (Str×Value)).length}) (Nat.le_refl _) hCo hk34
 have F4:=(F2.add (s':={s₂ with heap:=s₂.heap.push {cls:=.type "list",data:=.seq ([]:List Value).toArray}}) (Nat.le_refl _) hk3).add (s':={s₂ with heap:=h₁,toks:=s₂.toks+([]:List (Str×Value)).length}) (Nat.le_refl _) hk34
 have I4:=(hit.add (s':={s₂ with heap:=s₂.heap.push {cls:=.type "list",data:=.seq ([]:List Value).toArray}}) (Nat.le_refl _) hk3).add (s':={s₂ with heap:=h₁,toks:=s₂.toks+([]:List (Str×Value)).length}) (Nat.le_refl _) hk34
 have st4:Step src s {s₂ with heap:=h₁,toks:=s₂.toks+([]:List (Str×Value)).length}:=st2.trans ⟨rfl,rfl,fun a o _ _ e=>hk34 a o (hk3 a o e)⟩
 have hDL1:h₁.PlainList s₂.heap.objs.size #[]:=⟨0,hk34 _ _ hDo⟩
 clear hCo W2 F2 hit st2 hAs hk3 hk34 hDo hC hDn2 hCn2 hnA
 generalize (s₂.heap.push {cls:=.type "list",data:=.seq ([]:List Value).toArray}).objs.size=Cx at*
 generalize s₂.heap.objs.size=Dx at*
 have loop:codeAny (model prog w) A (.compLoop (.ListComp elt [⟨tg,it,ifs,0⟩] sc' pos) 0 (.ref I) (.ref Dx) (compEnvC sc' (closL env sc'.names) Cx env)) (compPost (model prog w) A (fun _ _=>False) use Qm (.ref Dx) Cx) _:=
  compLoop_gen (LoopJ prog w fns h₀ src (cM Cx Dx As M) env ρ s k one is elt' cs Q I b As Dx Cx) (fun n s₄ hJ=>by
   obtain ⟨rest,acc,π',m,vs,hn,hw,hI,hL,hr,hN,hW,hst,hF,hsz⟩:=hJ
   cases rest with
   | nil=>exact comp_last W X hA hw hI hL hr hN hW hst hF hend fun _ h=>h
   | cons d rest=>exact comp_turn X C hsc hfree (tgN_data htg) (fun q=>hkd (hb q)) HE HT hcs hA hn hw hI hL hr hN hW hst hF hsz fun _ _ h=>h) ds.length
   ⟨ds,[],π₁,_,#[],rfl,h1,I4,hDL1,.nil,hns,W4,st4,F4,(Nat.zero_add _).symm▸hlen⟩
 exact codeAny_compStart_list loop (iter_self (s:={s₂ with heap:=h₁,toks:=s₂.toks+([]:List (Str×Value)).length}) I4 loop)
end
end
end
section
variable {prog:Program}{w:World}{fns:List Nat}{h₀:Heap}{k:Nat}{K:Frag}{mg mb:Str→Option Value}{sc:Scope}
theorem comp_end {src:Option Addr}{M:List Addr}{env:PySem.Env}{s s':Shared}{ρ:Env}{π π':Pi}{Dl C:Addr}{rs:List D}{vs:Array Value}{h':Heap}
  (W:WI h₀ src M s π) (F:FI prog w fns src M env s ρ) (hL:s'.heap.PlainList Dl vs) (hr:RepL prog w fns src (C::Dl::M) s'.heap vs.toList rs)
  (hW:WI h₀ src (C::Dl::M) s' π') (hst:Step src s s') (hF:FI prog w fns src (C::Dl::M) env s' ρ) (hCD:C≠Dl) (hDn:s.heap.get? Dl=none) (hCn:s.heap.get? C=none) (hs:Heap.SameBut C s'.heap h'):
  h'.PlainList Dl vs∧RepL prog w fns src (Dl::M) h' vs.toList rs∧WI h₀ src (Dl::M) {s' with heap:=h'} π'∧Step src s {s' with heap:=h'}∧FI prog w fns src (Dl::M) env {s' with heap:=h'} ρ∧Dl∉M:=
 have hk:∀ a o,a≠C→s'.heap.get? a=some o→h'.get? a=some o:=fun a o q e=>hs.extBut a o q e
 have hC:C∉Dl::M:=List.not_mem_cons_of_ne_of_not_mem hCD (W.nin hCn)
 ⟨plain_keep hL (hk _ · hCD.symm),(hr.kept (kept_upd (s':={s' with heap:=h'}) List.mem_cons_self hk)).weak fun a q e=>q (List.mem_cons_of_mem _ e),
  hW.off (Cs:=[C]) (s':={s' with heap:=h'}) (fun _=>List.mem_cons_of_mem _) (List.mem_cons_of_mem _ W.tabM) (all_one List.mem_cons_self) (one_ne (W.notab hCn).symm) (fun a q=>⟨List.mem_cons_of_mem _ (W.pool a q).1,one_ne fun e=>W.nosrc hCn (e▸q)⟩) (fun a o q=>hk a o (ne_one q))
   (fun a m q=>absurd (List.mem_singleton.mp q▸m) hC),hst.upd1 hCn rfl rfl hk,(hF.upd (s':={s' with heap:=h'}) List.mem_cons_self (F.Lne hCn) hk).less (fun _=>List.mem_cons_of_mem _),W.nin hDn⟩
inductive PostF (prog:Program) (w:World) (fns:List Nat) (h₀:Heap) (src:Option Addr) (M:List Addr) (env:PySem.Env) (ρ:Env) (s:Shared) (Q:D→Pi→Prop) (v:Value) (s':Shared):Prop
 | mk (Dl:Addr) (vs:Array Value) (ds:List D) (π':Pi) (e:v=.ref Dl) (h:Q (.lst ds) π') (hp:s'.heap.PlainList Dl vs) (r:RepL prog w fns src (Dl::M) s'.heap vs.toList ds) (W:WI h₀ src (Dl::M) s' π') (st:Step src s s')
   (F:FI prog w fns src (Dl::M) env s' ρ) (hm:Dl∉M) (hn:s.heap.get? Dl=none)
theorem WI.drop1 {src:Option Addr}{M:List Addr}{s0 s:Shared}{π0 π:Pi}{Dl:Addr}(W0:WI h₀ src M s0 π0) (W:WI h₀ src (Dl::M) s π):WI h₀ src M s π:=
 W.less (fun a ha=>List.mem_cons_of_mem _ ha) W0.tabM (fun a q=>(W0.pool a q).1)
theorem PostF.post {src:Option Addr}{M:List Addr}{env:PySem.Env}{ρ:Env}{s:Shared}{π:Pi}{Q:D→Pi→Prop}{v:Value}{s':Shared}(W:WI h₀ src M s π) (p:PostF prog w fns h₀ src M env ρ s Q v s'):Post prog w fns h₀ src M s Q v s':=by
 obtain ⟨Dl,vs,ds,π',rfl,h1,h2,h3,h4,h5,h6,h7,h8⟩:=p
 exact ⟨_,π',h1,.lst h2.isList h7 (h3.weak fun a q e=>q (List.mem_cons_of_mem _ e)),h5,W.drop1 h4⟩
theorem snd_compF {elt tg it:Expr}{ifs:List Expr}{sc':Scope}{pos:Pos}{one:Bool}{is:List Nat}{kd:It}{it' elt':Ex}{cs:Exs}{f:Expr→Option Ex}
  (hok:compScopeOk sc' sc=true) (htg:tgN sc' tg=some (one,is)) (hkd:kd=.enm→one=false) (HI:SndI prog w fns h₀ k sc it kd it') (HE:SndE prog w fns h₀ k (relab sc' sc) elt elt')
  (HT:∀ pe e,f pe=some e→SndT prog w fns h₀ k (relab sc' sc) pe e) (hcs:compL f ifs=some cs) (hset:∀ env x,foldedSetIterable it env x=pure x)
  (src:Option Addr) (M:List Addr) (env:PySem.Env) (A:Around) (s:Shared) (ρ:Env) (π:Pi) (Q:D→Pi→Prop) (hsc:env.scope=sc) (hA:Good A k) (W:WI h₀ src M s π) (F:FI prog w fns src M env s ρ)
  (h:wE (.comp elt' one is kd it' cs) (Ret FN k) ρ π Q):wpAny (model prog w) A (eval (.ListComp elt [⟨tg,it,ifs,0⟩] sc' pos) env) (PostF prog w fns h₀ src M env ρ s Q) (fun _ _=>False) s:=by
 rw [eval_ListComp]
 refine snd_comp_core (use:=none) hok htg hkd HI HE HT hcs hset hsc hA W F h fun Dl C s' m rs vs π' h1 hN hL hr hW hst hF hCD hDn hCn=>⟨m,hN,fun h' hs=>?_⟩
 obtain ⟨q1,q2,q3,q4,q5,q6⟩:=comp_end (π:=π) W F hL hr hW hst hF hCD hDn hCn hs
 exact ⟨Dl,vs,rs,π',rfl,h1,q1,q2,q3,q4,q5,q6,hDn⟩
theorem compL_one {f:Expr→Option Ex}{a:Expr}{a':Ex}(h:compL f [a]=some (.cons a' .nil)):f a=some a'∧(∀ x p,a≠.Starred x p):=by
 obtain ⟨e',r,h3,h4,h2,h1⟩:=compL_inv h
 cases h2
 exact ⟨h3,h1⟩
theorem compL_two {f:Expr→Option Ex}{a b:Expr}{a' b':Ex}(h:compL f [a,b]=some (.cons a' (.cons b' .nil))):f a=some a'∧f b=some b'∧(∀ x p,a≠.Starred x p)∧(∀ x p,b≠.Starred x p):=by
 obtain ⟨e',r,h3,h4,h2,h1⟩:=compL_inv h
 cases h2
 obtain ⟨h5,h6⟩:=compL_one h4
 exact ⟨h3,h5,h1,h6⟩
theorem compE_star {n:Nat}{a:Expr}{a':Ex}(h:compE fns n sc a=some a'):∀ x p,a≠.Starred x p:=by
 rintro x p rfl
 cases n <;> cases h
theorem nil_ne {α:Type}{l:List α}(h:(!l.isEmpty)=true):l≠[]:=fun q=>by subst q;cases h
theorem fold_other {it:Expr}(h:it.ctorIdx≠7) (env:PySem.Env) (x):foldedSetIterable it env x=pure x:=by
 cases it <;> first | rfl | exact absurd rfl h
theorem nat_beq {i j:Nat}(h:Nat.beq i j=true):i=j:=Nat.eq_of_beq_eq_true h
theorem nat_bne {i j:Nat}(h:(!Nat.beq i j)=true):i≠j:=Nat.ne_of_beq_eq_false (bnot h)
theorem snd_iter (G:Gd prog w fns K mg mb h₀){f:Expr→Option Ex}(IE:∀ pe e,f pe=some e→SndE prog w fns h₀ k sc pe e) (IS:∀ a a',f a=some a'→∀ x p,a≠.Starred x p){it:Expr}{en:Bool}{q:It×Ex}
  (h:iterK sc f en it=some q):SndI prog w fns h₀ k sc it q.1 q.2∧(∀ env x,foldedSetIterable it env x=pure x)∧(en=false→q.1≠.enm):=by
 have val:∀ {q},((f it).bind fun a'=>some (It.val,a'))=some q→SndI prog w fns h₀ k sc it q.1 q.2∧(en=false→q.1≠.enm):=fun h=>by
  replace h:=bindI h;obtain ⟨a',hf,h⟩:=h
  obtain rfl:=Option.some.inj h
  exact ⟨sndI_val (IE _ _ hf),fun _=>It.noConfusion⟩
 unfold iterK at h
 cases hi:eCall1 it with
 | none=>
  rw [hi] at h
  replace h:=gdI h;obtain ⟨h1,h⟩:=h
  exact ⟨(val h).1,fold_other (nat_bne h1),(val h).2⟩
 | some c=>
  rw [hi] at h
  obtain ⟨gp,p,e⟩:=eCall1_inv hi
  have fs:∀ env x,foldedSetIterable it env x=pure x:=fun env x=>e▸rfl
  replace h:=bindI h;obtain ⟨i,hg,h⟩:=h
  cases h1:Nat.beq i 1590772524901 with
  | true=>
   rw [h1] at h
   replace h:=bindI h;obtain ⟨a',hf,h⟩:=h
   cases h
   cases nat_beq h1
   exact ⟨e▸sndI_rng G hg (IE _ _ hf) (IS _ _ hf),fs,fun _=>It.noConfusion⟩
  | false=>
   rw [h1] at h
   cases h2:Nat.beq i 6593447022513235260517 with
   | true=>
    rw [h2] at h
    replace h:=gdI h;obtain ⟨he,h⟩:=h
    replace h:=bindI h;obtain ⟨a',hf,h⟩:=h
    cases h
    cases nat_beq h2
    exact ⟨e▸sndI_enm G hg (IE _ _ hf) (IS _ _ hf),fs,fun q=>Bool.noConfusion (he.symm.trans q)⟩
   | false=>
    rw [h2] at h
    exact ⟨(val h).1,fs,(val h).2⟩
theorem plainB {pe:Expr}{e:Ex}(H:SndE prog w fns h₀ k sc pe e) (he:∀ env whole,isTrue pe env whole=(do let v ←whole;standAt pe.pos;holding [v] (truthy v))):SndE prog w fns h₀ k sc pe e∧SndT prog w fns h₀ k sc pe e:=⟨H,sndT_plain H he⟩
section
variable {f:Expr→Option Ex}(IE:∀ pe e,f pe=some e→SndE prog w fns h₀ k sc pe e)
include IE
theorem ok_slc {a:Expr}{a':Ex}{lo hi st:Option Expr}{p pos:Pos}{e:Ex}(ha:SndE prog w fns h₀ k sc a a') (h:slcK f a' lo hi st=some e):SndE prog w fns h₀ k sc (.Subscript a (.Slice lo hi st p) pos) e:=by
 cases st with
 | some _=>cases h
 | none=>
 cases hi with
 | none=>cases h
 | some hx=>
 replace h:=bindI h;obtain ⟨h',hh,h⟩:=h
 cases lo with
 | none=>obtain rfl:=Option.some.inj h;exact snd_slc ha (IE _ _ hh) (.inl ⟨rfl,rfl⟩)
 | some x=>
  replace h:=bindI h;obtain ⟨⟨c,n,q⟩,h1,h⟩:=h
  replace h:=bindI h;obtain ⟨l,h2,h⟩:=h
  replace h:=gdI h;obtain ⟨_,h⟩:=h
  obtain rfl:=Option.some.inj h
  exact snd_slc ha (IE _ _ hh) (.inr ⟨l,n,q,congrArg some ((eConstant_inv h1).trans (cInt_inv h2▸rfl)),rfl⟩)
theorem ok_sub {a i:Expr}{a':Ex}{pos:Pos}{e:Ex}(ha:SndE prog w fns h₀ k sc a a') (h:subK f a' i=some e):SndE prog w fns h₀ k sc (.Subscript a i pos) e:=by
 unfold subK at h
 cases hs:eSlice i with
 | some q=>rw [hs] at h;exact eSlice_inv hs▸ok_slc IE ha h
 | none=>
  rw [hs] at h
  replace h:=bindI h;obtain ⟨i',hi,h⟩:=h
  obtain rfl:=Option.some.inj h
  exact snd_sub ha (IE _ _ hi) fun lo h st p e=>ctor_none hs (e▸rfl)
theorem ok_bin {a b:Expr}{op:Operator}{pos:Pos}{e:Ex}(h:binK f a op b=some e):SndE prog w fns h₀ k sc (.BinOp a op b pos) e:=by
 unfold binK at h
 cases hm:mulO a op with
 | some es=>
  rw [hm] at h
  obtain ⟨h1,h2⟩:=gdI hm
  obtain rfl:op=.Mult:=by cases op <;> first | rfl | cases h1
  replace h:=gdI h;obtain ⟨hz,h⟩:=h
  replace h:=bindI h;obtain ⟨es',hes,h⟩:=h
  replace h:=bindI h;obtain ⟨b',hb,h⟩:=h
  obtain rfl:=Option.some.inj h
  exact eList_inv h2▸snd_mulL IE hes (IE _ _ hb) (of_decide_eq_true hz)
 | none=>
  rw [hm] at h
  replace h:=bindI h;obtain ⟨a',ha,h⟩:=h
  replace h:=bindI h;obtain ⟨b',hb,h⟩:=h
  obtain rfl:=Option.some.inj h
  exact snd_bin (IE _ _ ha) (IE _ _ hb)
theorem ok_cmp {l:Expr}{ops:List CmpOp}{rs:List Expr}{pos:Pos}{e:Ex}(h:cmpK f l ops rs=some e):SndE prog w fns h₀ k sc (.Compare l ops rs pos) e∧SndT prog w fns h₀ k sc (.Compare l ops rs pos) e:=by
 replace h:=bindI h;obtain ⟨op,h1,h⟩:=h
 replace h:=bindI h;obtain ⟨r,h2,h⟩:=h
 replace h:=gdI h;obtain ⟨hm,h⟩:=h
 replace h:=bindI h;obtain ⟨a',ha,h⟩:=h
 replace h:=bindI h;obtain ⟨b',hb,h⟩:=h
 obtain rfl:=Option.some.inj h
 obtain rfl:=oneL_inv h1
 obtain rfl:=oneL_inv h2
 exact ⟨snd_cmp (IE _ _ ha) (IE _ _ hb) (bnot hm),sndT_cmp (IE _ _ ha) (IE _ _ hb) (bnot hm)⟩
omit IE in
theorem poolArg_inv {args:List Expr}{q:Expr×Expr}(h:poolArg args=some q):∃ lp,args=[.List [q.1,q.2] lp]:=by
 replace h:=bindI h;obtain ⟨e,h1,h⟩:=h
 replace h:=bindI h;obtain ⟨⟨l,lp⟩,h2,h⟩:=h
 exact ⟨lp,by rw [oneL_inv h1,eList_inv h2,show l=[q.1,q.2] from twoL_inv h]⟩
omit IE in
theorem isbArg_inv {i:Nat}{args:List Expr}{q:Expr×Str}(h:isbArg i args=some q):i=1706903273020983629210469∧∃ tp,args=[q.1,.Name q.2 tp]:=by
 replace h:=bindI h;obtain ⟨p,h1,h⟩:=h
 replace h:=bindI h;obtain ⟨⟨t,tp⟩,h2,h⟩:=h
 replace h:=gdI h;obtain ⟨h3,h⟩:=h
 obtain rfl:=Option.some.inj h
 exact ⟨nat_beq h3,tp,by rw [twoL_inv h1,eName_inv h2]⟩
variable (IS:∀ a a',f a=some a'→∀ x p,a≠.Starred x p)
include IS
theorem ok_name (G:Gd prog w fns K mg mb h₀) (C:CallOk prog w fns h₀ K k){g:Str}{gp pos:Pos}{args:List Expr}{e:Ex}(h:nameK fns sc f g args=some e):SndE prog w fns h₀ k sc (.Call (.Name g gp) args [] pos) e:=by
 replace h:=gdI h;obtain ⟨hne,h⟩:=h
 have hne:=nil_ne hne
 replace h:=bindI h;obtain ⟨i,hg,h⟩:=h
 cases hi:fns.contains i with
 | true=>
  rw [hi] at h
  have h:callN f i args=some e:=h
  unfold callN at h
  cases hp:poolArg args with
  | some q=>
   rw [hp] at h
   obtain ⟨lp,rfl⟩:=poolArg_inv hp
   replace h:=bindI h;obtain ⟨a',ha,h⟩:=h
   replace h:=bindI h;obtain ⟨b',hb,h⟩:=h
   obtain rfl:=Option.some.inj h
   exact snd_callp G C (IE _ _ ha) (IE _ _ hb) hg hi (IS _ _ ha) (IS _ _ hb)
  | none=>
   rw [hp] at h
   replace h:=bindI h;obtain ⟨es',hc,h⟩:=h
   obtain rfl:=Option.some.inj h
   exact snd_call G C IE hg hi hc hne
 | false=>
  rw [hi] at h
  have h:biN sc f i args=some e:=h
  unfold biN at h
  cases hb:isbArg i args with
  | some q=>
   rw [hb] at h
   obtain ⟨rfl,tp,rfl⟩:=isbArg_inv hb
   replace h:=gdI h;obtain ⟨hq,h⟩:=h
   replace h:=bindI h;obtain ⟨v',hv,h⟩:=h
   obtain rfl:=Option.some.inj h
   exact snd_isb G (IE _ _ hv) hg (eq_of_beq (band hq).1) (band hq).2 (IS _ _ hv)
  | none=>
   rw [hb] at h
   replace h:=gdI h;obtain ⟨hk,h⟩:=h
   replace h:=bindI h;obtain ⟨es',hc,h⟩:=h
   obtain rfl:=Option.some.inj h
   exact snd_bi G IE hg hk hc hne
omit IS
omit IE in
theorem oneX_inv {es:Exs}{a:Ex}(h:oneX es=some a):es=.cons a .nil:=by
 cases es with
 | nil=>cases h
 | cons x r=>cases r with
  | nil=>cases h;rfl
  | cons _ _=>cases h
omit IE in
theorem twoX_inv {es:Exs}{p:Ex×Ex}(h:twoX es=some p):es=.cons p.1 (.cons p.2 .nil):=by
 cases es with
 | nil=>cases h
 | cons x r=>cases r with
  | nil=>cases h
  | cons y r=>cases r with
   | nil=>cases h;rfl
   | cons _ _=>cases h
omit IE in
theorem enc_split {m:Nat}(h:encS ("split":Str)=some m):1595319019892=m:=Option.some.inj ((show encS ("split":Str)=some 1595319019892 by decide +kernel).symm.trans h)
omit IE in
theorem enc_lstrip {m:Nat}(h:encS ("lstrip":Str)=some m):400718107404656=m:=Option.some.inj ((show encS ("lstrip":Str)=some 400718107404656 by decide +kernel).symm.trans h)
theorem ok_join {c:Const}{kk:Nat}{sp apos pos:Pos}{name:Str}{args:List Expr}{e:Ex}(hl:(apos.endLine==pos.line)=true) (h:joinK f c name args=some e):SndE prog w fns h₀ k sc (.Call (.Attribute (.Constant c kk sp) name apos) args [] pos) e:=by
 replace h:=bindI h;obtain ⟨s,h1,h⟩:=h
 replace h:=gdI h;obtain ⟨hn,h⟩:=h
 replace h:=bindI h;obtain ⟨a,h2,h⟩:=h
 replace h:=bindI h;obtain ⟨es,hc,h⟩:=h
 replace h:=bindI h;obtain ⟨a',ha,h⟩:=h
 obtain rfl:=Option.some.inj h
 obtain rfl:=eq_of_beq hn
 obtain rfl:=oneL_inv h2
 obtain rfl:=cStr_inv h1
 obtain rfl:=oneX_inv ha
 obtain ⟨h1,h2⟩:=compL_one hc
 exact snd_join (IE _ _ h1) h2 hl
theorem ok_get {o:Expr}{apos pos:Pos}{name:Str}{args:List Expr}{e:Ex}(ho:∀ env,attributeBase o "get" env (eval o env)=eval o env) (hl:(apos.endLine==pos.line)=true) (h:getK f o name args=some e):SndE prog w fns h₀ k sc (.Call (.Attribute o name apos) args [] pos) e:=by
 replace h:=gdI h;obtain ⟨hn,h⟩:=h
 replace h:=bindI h;obtain ⟨q,h2,h⟩:=h
 replace h:=bindI h;obtain ⟨d',hd,h⟩:=h
 replace h:=bindI h;obtain ⟨es,hc,h⟩:=h
 replace h:=bindI h;obtain ⟨p,hp,h⟩:=h
 obtain rfl:=Option.some.inj h
 obtain rfl:=eq_of_beq hn
 obtain rfl:=twoL_inv h2
 obtain rfl:=twoX_inv hp
 obtain ⟨h1,h2,h3,h4⟩:=compL_two hc
 exact snd_get (IE _ _ hd) (IE _ _ h1) (IE _ _ h2) ho hl h3 h4
theorem ok_meth {x:Str}{xp:Pos}{o':Ex}{m:Nat}{apos pos:Pos}{name:Str}{args:List Expr}{e:Ex}(ho:f (.Name x xp)=some o') (hm:encS name=some m) (hl:(apos.endLine==pos.line)=true) (h:methA name m o' args=some e):SndE prog w fns h₀ k sc (.Call (.Attribute (.Name x xp) name apos) args [] pos) e:=by
 cases args with
 | nil=>
  replace h:=gdI h;obtain ⟨hn,h⟩:=h
  obtain rfl:=Option.some.inj h
  obtain rfl:=eq_of_beq hn
  obtain rfl:=enc_split hm
  exact snd_split0 (IE _ _ ho) hl fun _=>rfl
 | cons a r=>
  replace h:=gdI h;obtain ⟨hn,h⟩:=h
  obtain ⟨hr,hn⟩:=band hn
  replace h:=bindI h;obtain ⟨⟨c,kk,sp⟩,h1,h⟩:=h
  replace h:=bindI h;obtain ⟨s,h2,h⟩:=h
  obtain rfl:=Option.some.inj h
  obtain rfl:=List.isEmpty_iff.mp hr
  obtain rfl:=eConstant_inv h1
  obtain rfl:=cStr_inv h2
  rcases Bool.or_eq_true_iff.mp hn with hn | hn
  ·obtain rfl:=eq_of_beq hn
   obtain rfl:=enc_split hm
   exact snd_split1 (IE _ _ ho) hl fun _=>rfl
  ·obtain rfl:=eq_of_beq hn
   obtain rfl:=enc_lstrip hm
   exact snd_lstrip (IE _ _ ho) hl fun _=>rfl
theorem ok_attr {o:Expr}{apos pos:Pos}{name:Str}{args:List Expr}{e:Ex}(hl:(apos.endLine==pos.line)=true) (h:attrK f o name args=some e):SndE prog w fns h₀ k sc (.Call (.Attribute o name apos) args [] pos) e:=by
 unfold attrK at h
 cases h1:eConstant o with
 | some q=>rw [h1] at h;exact eConstant_inv h1▸ok_join IE hl h
 | none=>
  rw [h1] at h
  cases h2:eDict o with
  | some q=>
   rw [h2] at h
   obtain rfl:=eDict_inv h2
   exact ok_get IE (fun _=>rfl) hl h
  | none=>
   rw [h2] at h
   replace h:=bindI h;obtain ⟨q,h3,h⟩:=h
   replace h:=bindI h;obtain ⟨o',ho,h⟩:=h
   obtain ⟨m,hm,h4⟩:=bindI h
   clear h h1 h2
   obtain rfl:=eName_inv h3
   exact ok_meth IE ho hm hl h4
include IS
theorem ok_call (G:Gd prog w fns K mg mb h₀) (C:CallOk prog w fns h₀ K k) (LC:LamCallOk prog w fns h₀ k){fe:Expr}{args:List Expr}{kws:List Keyword}{pos:Pos}{e:Ex}(h:callK fns sc f fe args kws pos=some e):SndE prog w fns h₀ k sc (.Call fe args kws pos) e:=by
 obtain ⟨hk,h9⟩:=gdI h
 clear h
 obtain rfl:=List.isEmpty_iff.mp hk
 have h:=h9
 clear h9
 cases h1:eName fe with
 | some q=>rw [h1] at h;exact eName_inv h1▸ok_name IE IS G C h
 | none=>
  rw [h1] at h
  cases h2:eAttribute fe with
  | some q=>
   rw [h2] at h
   replace h:=gdI h;obtain ⟨hl,h⟩:=h
   exact eAttribute_inv h2▸ok_attr IE hl h
  | none=>
   rw [h2] at h
   replace h:=gdI h;obtain ⟨ha,h⟩:=h
   replace h:=bindI h;obtain ⟨q,h3,h⟩:=h
   replace h:=bindI h;obtain ⟨f',hf,h⟩:=h
   obtain rfl:=Option.some.inj h
   obtain rfl:=List.isEmpty_iff.mp ha
   obtain rfl:=eSubscript_inv h3
   exact snd_callv LC (IE _ _ hf)
end
inductive CompD (prog:Program) (w:World) (fns:List Nat) (h₀:Heap) (k:Nat) (sc:Scope) (g:Scope→Expr→Option Ex) (elt:Expr) (gens:List Comprehension) (sc':Scope) (e:Ex):Prop
 | mk (tg it:Expr) (ifs:List Expr) (one:Bool) (is:List Nat) (kd:It) (it' elt':Ex) (cs:Exs) (hgens:gens=[⟨tg,it,ifs,0⟩]) (he:e=.comp elt' one is kd it' cs) (hok:compScopeOk sc' sc=true) (htg:tgN sc' tg=some (one,is))
   (hkd:kd=.enm→one=false) (HI:SndI prog w fns h₀ k sc it kd it') (helt:g (relab sc' sc) elt=some elt') (hcs:compL (g (relab sc' sc)) ifs=some cs) (hset:∀ env x,foldedSetIterable it env x=pure x)
theorem compK_inv (G:Gd prog w fns K mg mb h₀){g:Scope→Expr→Option Ex}(IE:∀ pe e,g sc pe=some e→SndE prog w fns h₀ k sc pe e) (IS:∀ a a',g sc a=some a'→∀ x p,a≠.Starred x p){elt:Expr}{gens:List Comprehension}{sc':Scope}{e:Ex}
  (h:compK sc g elt gens sc'=some e):CompD prog w fns h₀ k sc g elt gens sc' e:=by
 replace h:=bindI h;obtain ⟨⟨tg,it,ifs,asy⟩,hc,h⟩:=h
 replace h:=gdI h;obtain ⟨hb,h⟩:=h
 obtain ⟨hok,ha⟩:=band hb
 replace h:=bindI h;obtain ⟨t,htg,h⟩:=h
 replace h:=bindI h;obtain ⟨q,hit,h⟩:=h
 replace h:=gdI h;obtain ⟨hen,h⟩:=h
 replace h:=bindI h;obtain ⟨elt',helt,h⟩:=h
 replace h:=bindI h;obtain ⟨cs,hcs,h⟩:=h
 obtain ⟨HI,hs,_⟩:=snd_iter G IE IS hit
 exact ⟨tg,it,ifs,t.1,t.2,q.1,q.2,elt',cs,(oneL_inv hc).trans (eq_of_beq ha▸rfl),(Option.some.inj h).symm,hok,htg,fun z=>(Bool.and_eq_false_iff.mp (bnot hen)).resolve_left fun y=>Bool.noConfusion ((z▸y:isEnm .enm=false)),HI,helt,hcs,hs⟩
theorem snd_all (G:Gd prog w fns K mg mb h₀) (C:CallOk prog w fns h₀ K k) (LC:LamCallOk prog w fns h₀ k):∀ (n:Nat) (sc:Scope) (pe:Expr) (e:Ex),compE fns n sc pe=some e→SndE prog w fns h₀ k sc pe e∧SndT prog w fns h₀ k sc pe e:=by
 intro n
 induction n with
 | zero=>intro sc pe e h;cases h
 | succ n ih=>
  intro sc pe e h
  have IE:∀ pe e,compE fns n sc pe=some e→SndE prog w fns h₀ k sc pe e:=fun pe e h=>(ih sc pe e h).1
  have IT:∀ pe e,compE fns n sc pe=some e→SndT prog w fns h₀ k sc pe e:=fun pe e h=>(ih sc pe e h).2
  have IS:∀ a a',compE fns n sc a=some a'→∀ x p,a≠.Starred x p:=fun a a' h=>compE_star h
  cases pe with
  | Constant c kk pos=>
   obtain ⟨c',hc,rfl⟩:=mapI (x:=compC c) h
   exact plainB (snd_const hc) (fun _ _=>rfl)
  | Name x pos=>exact plainB (snd_name G h) (fun _ _=>rfl)
  | List es pos=>
   replace h:=gdI h;obtain ⟨hz,h⟩:=h
   replace h:=bindI h;obtain ⟨es',hc,h⟩:=h
   obtain rfl:=Option.some.inj h;exact plainB (snd_lst IE hc (of_decide_eq_true hz)) (fun _ _=>rfl)
  | Tuple es kk pos=>
   replace h:=gdI h;obtain ⟨hz,h⟩:=h
   replace h:=bindI h;obtain ⟨es',hc,h⟩:=h
   obtain rfl:=Option.some.inj h;exact plainB (snd_tup IE hc (of_decide_eq_true hz)) (fun _ _=>rfl)
  | Dict ks vs pos=>
   replace h:=bindI h;obtain ⟨ts,hts,h⟩:=h
   replace h:=bindI h;obtain ⟨es,hes,h⟩:=h
   replace h:=gdI h;obtain ⟨hb,h⟩:=h
   obtain rfl:=Option.some.inj h
   obtain ⟨hb,h4⟩:=band hb
   obtain ⟨hb,h3⟩:=band hb
   obtain ⟨h1,h2⟩:=band hb
   exact plainB (snd_dict G IE hts (eq_of_beq h1) hes (of_decide_eq_true h2) (nil_ne h3) (of_decide_eq_true h4)) (fun _ _=>rfl)
  | Subscript a i pos=>
   replace h:=bindI h;obtain ⟨a',ha,h⟩:=h
   exact plainB (ok_sub IE (IE _ _ ha) h) (fun _ _=>rfl)
  | BinOp a op b pos=>exact plainB (ok_bin IE h) (fun _ _=>rfl)
  | UnaryOp op a pos=>
   replace h:=bindI h;obtain ⟨a',ha,h⟩:=h
   cases op with
   | USub=>obtain rfl:=Option.some.inj h;exact plainB (snd_neg (IE _ _ ha)) (fun _ _=>rfl)
   | Not=>obtain rfl:=Option.some.inj h;exact ⟨snd_not (IE _ _ ha),sndT_not (IT _ _ ha)⟩
   | _=>cases h
  | Compare l ops rs pos=>exact ok_cmp IE h
  | BoolOp op vs pos=>
   cases op with
   | And=>exact ⟨snd_and IE h,fun src M env A s ρ π Q hsc hA W F hh=>sndT_and IT h src M env A s ρ π Q _ hsc hA W F hh⟩
   | Or=>exact ⟨snd_or IE h,fun src M env A s ρ π Q hsc hA W F hh=>sndT_or IT h src M env A s ρ π Q _ hsc hA W F hh⟩
  | IfExp c a b pos=>
   replace h:=bindI h;obtain ⟨c',hc,h⟩:=h
   replace h:=bindI h;obtain ⟨a',ha,h⟩:=h
   replace h:=bindI h;obtain ⟨b',hb,h⟩:=h
   obtain rfl:=Option.some.inj h
   exact ⟨snd_ite (IT _ _ hc) (IE _ _ ha) (IE _ _ hb),sndT_ite (IT _ _ hc) (IT _ _ ha) (IT _ _ hb)⟩
  | Call fe args kws pos=>exact plainB (ok_call IE IS G C LC h) (fun _ _=>rfl)
  | ListComp elt gens sc' pos=>
   obtain ⟨tg,it,ifs,one,is,kd,it',elt',cs,rfl,rfl,hok,htg,hkd,HI,helt,hcs,hs⟩:=compK_inv G (g:=compE fns n) IE IS h
   refine plainB (fun src M env A s ρ π Q hsc hA W F hh=>?_) (fun _ _=>rfl)
   exact wpAny_mono (snd_compF hok htg hkd HI (ih _ _ _ helt).1 (fun pe e hpe=>(ih _ pe e hpe).2) hcs hs src M env A s ρ π Q hsc hA W F hh) (fun v s₁ p=>p.post W) fun _ _ x=>x
  | Lambda args body sc' pos=>
   replace h:=gdI h;obtain ⟨hb,h⟩:=h
   replace h:=bindI h;obtain ⟨x,hx,h⟩:=h
   replace h:=bindI h;obtain ⟨i,hi,h⟩:=h
   replace h:=bindI h;obtain ⟨b',hb',h⟩:=h
   obtain rfl:=Option.some.inj h
   obtain ⟨hb,h5⟩:=band hb
   obtain ⟨hb,h4⟩:=band hb
   obtain ⟨hb,h3⟩:=band hb
   obtain ⟨h1,h2⟩:=band hb
   exact plainB (snd_lam G h1 h2 h3 (eq_of_beq h4) (eq_of_beq h5) hx hi hb') (fun _ _=>rfl)
  | _=>cases h
end
inductive OwnAt (prog:Program) (w:World) (fns:List Nat) (src:Option Addr) (env:PySem.Env) (s₀:Shared) (M:List Addr) (h:Heap) (l:List (Nat×D)) (i:Nat) (ds:List D):Prop
 | mk (x:Str) (D:Addr) (vs:Array Value) (m:Str→Option Value) (hx:encS x=some i) (hn:h.Ns env.locals m) (hm:m x=some (.ref D)) (hl:h.PlainList D vs) (hr:RepL prog w fns src M h vs.toList ds) (hD:D∈M) (h0:s₀.heap.get? D=none) (hDL:D≠env.locals) (hg:getV l i=none)
noncomputable def CellAt (s₀:Shared) (M:List Addr) (h:Heap) (c:Addr):Prop:=h.IsCell c none∧c∉M∧s₀.heap.get? c=none
noncomputable def PinAt (s₀:Shared) (M:List Addr) (h:Heap) (p:Addr×Obj):Prop:=h.get? p.1=some p.2∧p.1∈M∧s₀.heap.get? p.1=none∧∃ vs,p.2.data=.fields vs
structure SF (prog:Program) (w:World) (fns:List Nat) (h₀:Heap) (src:Option Addr) (M₀:List Addr) (s₀:Shared) (P:List (Addr×Obj)) (env:PySem.Env) (M:List Addr) (σ:Sg) (s:Shared) (π:Pi):Prop where
 sub:∀ a∈M₀,a∈M
 M₀e:∀ a∈M₀,∃ o,s₀.heap.get? a=some o
 tab₀:lamTab∈M₀
 base₀:∀ a o,h₀.get? a=some o→s₀.heap.get? a=some o
 src₀:∀ a,src=some a→a∈M₀
 L:env.locals∈M
 L0:s₀.heap.get? env.locals=none
 W:WI h₀ src M s π
 F:FI prog w fns src M env s ⟨σ.l,σ.c⟩
 st:Step src s₀ s
 own:∀ i ds,σ.own=some (i,ds)→OwnAt prog w fns src env s₀ M s.heap σ.l i ds
 cells:∀ x i c,encS x=some i→env.scope.names.lookup x=some .cell→env.cells.lookup x=some c→getV σ.c i=none→CellAt s₀ M s.heap c
 apart:∀ x y c,env.scope.names.lookup x=some .cell→env.scope.names.lookup y=some .cell→env.cells.lookup x=some c→env.cells.lookup y=some c→x=y
 pin:∀ p∈P,PinAt s₀ M s.heap p
structure Tr (M:List Addr) (s:Shared) (M':List Addr) (s':Shared):Prop where
 new:∀ a∈M',a∈M∨s.heap.get? a=none
 kept:Kept M s.heap s'.heap
 ex:∀ a o,a∉M→s.heap.get? a=some o→∃ o',s'.heap.get? a=some o'
theorem Tr.refl (M s):Tr M s M s:=⟨fun _ h=>.inl h,fun _ _ _ _ e=>e,fun _ o _ e=>⟨o,e⟩⟩
theorem Tr.of {M M':List Addr}{s s':Shared}(hn:∀ a∈M',a∈M∨s.heap.get? a=none) (hk:∀ a o,a∉M→s.heap.get? a=some o→s'.heap.get? a=some o):Tr M s M' s':=
 ⟨hn,fun a o q _ e=>hk a o q e,fun a o q e=>⟨o,hk a o q e⟩⟩
theorem Tr.nin {M M':List Addr}{s s':Shared}(x:Tr M s M' s'){a:Addr}{o:Obj}(hm:a∉M) (e:s.heap.get? a=some o):a∉M':=fun q=>(x.new a q).elim hm fun z=>nosome z e
theorem Tr.trans {M M' M'':List Addr}{s s' s'':Shared}(x:Tr M s M' s') (y:Tr M' s' M'' s''):Tr M s M'' s'' where
 new a ha:=(y.new a ha).elim (x.new a) fun h=>(Classical.em (a∈M)).imp id fun hm=>by
  cases q:s.heap.get? a with
  | none=>rfl
  | some o=>exact none_at h (x.ex a o hm q)
 kept a o hm hd e:=y.kept a o (x.nin hm e) hd (x.kept a o hm hd e)
 ex a o hm e:=let ⟨o',e'⟩:=x.ex a o hm e;y.ex a o' (x.nin hm e) e'
theorem Tr.less {M M':List Addr}{s:Shared}(h:∀ a∈M',a∈M):Tr M s M' s:=Tr.of (fun a ha=>.inl (h a ha)) fun _ _ _ e=>e
theorem Tr.step {h₀:Heap}{src:Option Addr}{M:List Addr}{s s':Shared}{π:Pi}(W:WI h₀ src M s π) (st:Step src s s'):Tr M s M s':=
 Tr.of (fun _ h=>.inl h) fun a o hm e=>st.keep a o (fun q=>hm (q▸W.tabM)) (fun q=>hm (W.pool a q).1) e
section
variable {prog:Program}{w:World}{fns:List Nat}{h₀:Heap}{src:Option Addr}{M₀ M:List Addr}{P:List (Addr×Obj)}{s₀ s s':Shared}{env:PySem.Env}{σ:Sg}{π π':Pi}
theorem SF.notab (x:SF prog w fns h₀ src M₀ s₀ P env M σ s π){a:Addr}(e:s₀.heap.get? a=none):a≠lamTab:=fun q=>none_at e (x.M₀e _ (q▸x.tab₀))
theorem SF.nosrc (x:SF prog w fns h₀ src M₀ s₀ P env M σ s π){a:Addr}(e:s₀.heap.get? a=none):src≠some a:=fun q=>none_at e (x.M₀e _ (x.src₀ a q))
theorem SF.nM₀ (x:SF prog w fns h₀ src M₀ s₀ P env M σ s π){a b:Addr}(ha:a∈M₀) (e:s₀.heap.get? b=none):a≠b:=fun q=>none_at e (q▸x.M₀e a ha)
theorem OwnAt.move {l:List (Nat×D)}{i:Nat}{ds:List D}{h h':Heap}{M':List Addr}(O:OwnAt prog w fns src env s₀ M h l i ds) (hn:∀ o,h.get? env.locals=some o→h'.get? env.locals=some o)
  (hd:∀ D o,D∈M→s₀.heap.get? D=none→(∃ xs n,o.data=.seq xs n)→h.get? D=some o→D∈M'∧h'.get? D=some o) (hr:∀ {vs ds},RepL prog w fns src M h vs ds→RepL prog w fns src M' h' vs ds):OwnAt prog w fns src env s₀ M' h' l i ds:=
 let ⟨x,D,vs,m,h1,h2,h3,⟨n,e⟩,h5,h6,h7,h8,h9⟩:=O
 have q:=hd D _ h6 h7 ⟨_,_,rfl⟩ e
 ⟨x,D,vs,m,h1,ns_keep h2 hn,h3,⟨n,q.2⟩,hr h5,q.1,h7,h8,h9⟩
theorem SF.move {M':List Addr}{σ':Sg}(X:SF prog w fns h₀ src M₀ s₀ P env M σ s π) (hs:∀ a∈M₀,a∈M') (hL:env.locals∈M') (W':WI h₀ src M' s' π') (F':FI prog w fns src M' env s' ⟨σ'.l,σ'.c⟩) (st':Step src s₀ s')
  (own':∀ i ds,σ'.own=some (i,ds)→OwnAt prog w fns src env s₀ M' s'.heap σ'.l i ds) (hc:∀ i,getV σ'.c i=none→getV σ.c i=none)
  (hk:∀ a o,a∉M→s₀.heap.get? a=none→o.data=.cell none→s.heap.get? a=some o→a∉M'∧s'.heap.get? a=some o)
  (hp:∀ p∈P,p.1∈M→s₀.heap.get? p.1=none→(∃ vs,p.2.data=.fields vs)→s.heap.get? p.1=some p.2→p.1∈M'∧s'.heap.get? p.1=some p.2):SF prog w fns h₀ src M₀ s₀ P env M' σ' s' π' where
 sub:=hs
 M₀e:=X.M₀e
 tab₀:=X.tab₀
 base₀:=X.base₀
 src₀:=X.src₀
 L:=hL
 L0:=X.L0
 W:=W'
 F:=F'
 st:=st'
 own:=own'
 cells x i c q1 q2 q3 q4:=
  let ⟨⟨o,ho,hd⟩,h6,h7⟩:=X.cells x i c q1 q2 q3 (hc i q4)
  have q:=hk c o h6 h7 hd ho
  ⟨⟨o,q.2,hd⟩,q.1,h7⟩
 apart:=X.apart
 pin p m:=
  let ⟨h1,h2,h3,h4⟩:=X.pin p m
  have q:=hp p m h2 h3 h4 h1
  ⟨q.2,q.1,h3,h4⟩
theorem SF.step (x:SF prog w fns h₀ src M₀ s₀ P env M σ s π) (st:Step src s s') (W':WI h₀ src M s' π'):SF prog w fns h₀ src M₀ s₀ P env M σ s' π':=
 have keep:∀ {a o},s₀.heap.get? a=none→s.heap.get? a=some o→s'.heap.get? a=some o:=fun e=>st.keep _ _ (x.notab e) (x.nosrc e)
 x.move x.sub x.L W' (x.F.step x.W st) (x.st.trans st) (fun i ds q=>(x.own i ds q).move (fun o=>keep x.L0) (fun D o m e _ h=>⟨m,keep e h⟩) fun r=>r.kept (x.W.kept st)) (fun _ q=>q) (fun a o m e _ h=>⟨m,keep e h⟩) fun p _ m e _ h=>⟨m,keep e h⟩
theorem ns_inj {h:Heap}{a:Addr}{m m':Str→Option Value}(x:h.Ns a m) (y:h.Ns a m') (z:Str):m z=m' z:=by
 obtain ⟨o,es,ep,a1,a2,a3,a4⟩:=x
 obtain ⟨o',es',ep',b1,b2,b3,b4⟩:=y
 rw [a1] at b1;cases b1
 rw [a2] at b2;cases b2
 rw [←a4,←b4]
theorem fields_seq {P:Prop}{h:Heap}{a:Addr}{o:Obj}{vs:Array Value}(e:h.get? a=some o) (hd:∃ vs,o.data=.fields vs) (x:h.PlainList a vs):P:=by
 obtain ⟨us,hd⟩:=hd
 obtain ⟨n,e2⟩:=x
 rw [←Option.some.inj (e2.symm.trans e)] at hd
 cases hd
theorem cell_seq {P:Prop}{h:Heap}{a:Addr}{o:Obj}{vs:Array Value}(e:h.get? a=some o) (hd:o.data=.cell none) (x:h.PlainList a vs):P:=by
 obtain ⟨n,e2⟩:=x
 rw [←Option.some.inj (e2.symm.trans e)] at hd
 cases hd
theorem fields_ns {P:Prop}{h:Heap}{a:Addr}{o:Obj}{m:Str→Option Value}(e:h.get? a=some o) (hd:∃ vs,o.data=.fields vs) (x:h.Ns a m):P:=by
 obtain ⟨us,hd⟩:=hd
 obtain ⟨o',es,ep,b1,b2,_⟩:=x
 rw [Option.some.inj (e.symm.trans b1),b2] at hd
 cases hd
theorem SF.freeze (x:SF prog w fns h₀ src M₀ s₀ P env M σ s π):∃ M',SF prog w fns h₀ src M₀ s₀ P env M' σ.freeze s π∧∀ a∈M',a∈M:=by
 unfold Sg.freeze
 cases hown:σ.own with
 | none=>exact ⟨M,x,fun _ h=>h⟩
 | some p=>
  obtain ⟨i,ds⟩:=p
  obtain ⟨y,D,vs,m,h1,h2,h3,h4,h5,h6,h7,h8,h9⟩:=x.own i ds hown
  have hsub:∀ a,a∈M.filter (· != D)→a∈M:=fun a ha=>(List.mem_filter.mp ha).1
  have hin:∀ {a},a∈M→a≠D→a∈M.filter (· != D):=fun ha hq=>List.mem_filter.mpr ⟨ha,bne_iff_ne.mpr hq⟩
  have hDn:D∉M.filter (· != D):=fun q=>bne_iff_ne.mp (List.mem_filter.mp q).2 rfl
  have hF:=x.F.less hsub
  refine ⟨M.filter (· != D),x.move (σ':=⟨(i,.lst ds)::σ.l,σ.c,none⟩) (fun a ha=>hin (x.sub a ha) (x.nM₀ ha h7)) (hin x.L h8.symm) (x.W.less hsub (hin x.W.tabM (x.notab h7).symm) fun a q=>hin (x.W.pool a q).1 fun q2=>x.nosrc h7 (q2▸q))
   ⟨hF.kind,hF.glob,hF.bi,hF.L,?_,hF.cl,hF.cd,hF.lam⟩ x.st (fun _ _ q=>nomatch q) (fun _ q=>q) (fun a o q _ _ e=>⟨fun m=>q (hsub a m),e⟩) fun p _ m _ hd e=>⟨hin m fun q=>fields_seq (q▸e) hd h4,e⟩,hsub⟩
  obtain ⟨m',hn',hv⟩:=hF.ns
  refine ⟨m',hn',fun z j d q1 q2=>?_⟩
  rw [getV_cons] at q2
  by_cases q:j=i
  ·rw [if_pos q] at q2
   rw [←Option.some.inj q2,encS_inj q1 (q▸h1)]
   exact ⟨_,(ns_inj hn' h2 y).trans h3,.lst h4.isList hDn (h5.weak fun a q e=>q (hsub a e))⟩
  ·rw [if_neg q] at q2;exact hv z j d q1 q2
theorem ns_set {h:Heap}{m:Str→Option Value}{l:List (Nat×D)}{x:Str}{i:Nat}{v:Value}{d:D}(hi:encS x=some i) (hv:Rep prog w fns src M h v d)
  (H:∀ y j e,encS y=some j→getV l j=some e→∃ u,m y=some u∧Rep prog w fns src M h u e):∀ y j e,encS y=some j→getV ((i,d)::l) j=some e→∃ u,(fun y=>if y=x then some v else m y) y=some u∧Rep prog w fns src M h u e:=by
 intro y j e hj hg
 rw [getV_cons] at hg
 by_cases q:j=i
 ·rw [if_pos q] at hg
  exact ⟨v,if_pos (encS_inj hj (q▸hi)),Option.some.inj hg▸hv⟩
 ·rw [if_neg q] at hg
  obtain ⟨u,h1,h2⟩:=H y j e hj hg
  exact ⟨u,(if_neg fun e=>q (Option.some.inj (hj.symm.trans ((congrArg encS e).trans hi)))).trans h1,h2⟩
theorem SF.store {A:Around}{x:Str}{i:Nat}{v:Value}{d:D}{Q:Unit→Shared→Prop} {E}(X:SF prog w fns h₀ src M₀ s₀ P env M σ s π) (hx:env.scope.names.lookup x=some .local) (hi:encS x=some i)
  (hr:Rep prog w fns src M s.heap v d) (hQ:∀ s',SF prog w fns h₀ src M₀ s₀ P env M (σ.set i d) s' π→(∀ a o,a≠env.locals→s.heap.get? a=some o→s'.heap.get? a=some o)→Q () s'):wpAny (model prog w) A (storeName env x v) Q E s:=by
 obtain ⟨m,hn,hv⟩:=X.F.ns
 refine wpAny_storeName_local hx hn (fun h' hn' hs=>hQ _ ?_ (fun a o q e=>hs.extBut a o q e)) (hp_fun X.F.kind)
 have hk:∀ a o,a≠env.locals→s.heap.get? a=some o→h'.get? a=some o:=fun a o q e=>hs.extBut a o q e
 have kp:Kept M s.heap h':=kept_upd (s':={s with heap:=h'}) X.L hk
 refine X.move (s':={s with heap:=h',toks:=s.toks+1}) X.sub X.L (X.W.upd X.L (X.notab X.L0) (X.nosrc X.L0) hk (ns_at hn'))
  ⟨X.F.kind,X.F.glob,X.F.bi,X.F.L,⟨_,hn',ns_set hi (hr.kept kp) fun y j e q1 q2=>let ⟨u,h1,h2⟩:=hv y j e q1 q2;⟨u,h1,h2.kept kp⟩⟩,fun y j e q1 q2 c q3=>let ⟨h1,u,h2,h3⟩:=X.F.cl y j e q1 q2 c q3;⟨h1,u,kp.cell h2 h1,h3.kept kp⟩,X.F.cd,X.F.lam⟩
  (X.st.upd1 (s₂:={s with heap:=h',toks:=s.toks+1}) X.L0 rfl rfl hk) (fun j ds q=>?_) (fun _ q=>q) (fun a o q _ _ e=>⟨q,hk a o (fun q2=>q (q2▸X.L)) e⟩) fun p _ q _ hd e=>⟨q,hk _ _ (fun q2=>fields_ns (q2▸e) hd hn) e⟩
 obtain ⟨hne,q⟩:i≠j∧σ.own=some (j,ds):=by
  unfold Sg.set at q
  cases ho:σ.own with
  | none=>rw [ho] at q;cases q
  | some p=>
   rw [ho] at q
   have q:(if i=p.1 then none else some p)=some (j,ds):=q
   by_cases hp:i=p.1
   ·rw [if_pos hp] at q;cases q
   ·rw [if_neg hp] at q;cases q;exact ⟨hp,rfl⟩
 obtain ⟨y,D,vs,m₂,h1,h2,h3,h4,h5,h6,h7,h8,h9⟩:=X.own j ds q
 exact ⟨y,D,vs,_,h1,hn',(if_neg fun e=>hne (Option.some.inj (hi.symm.trans ((congrArg encS e).symm.trans h1)))).trans ((ns_inj hn h2 y).trans h3),plain_keep h4 (hk _ · h8),h5.kept kp,h6,h7,h8,by
  show getV ((i,d)::σ.l) j=none
  rw [getV_cons,if_neg (Ne.symm hne)];exact h9⟩
theorem SF.storeOwn {A:Around}{x:Str}{i:Nat}{Dl:Addr}{vs:Array Value}{ds:List D}{Q:Unit→Shared→Prop} {E}(X:SF prog w fns h₀ src M₀ s₀ P env M σ s π) (hx:env.scope.names.lookup x=some .local) (hi:encS x=some i)
  (hg:getV σ.l i=none) (hL:s.heap.PlainList Dl vs) (hr:RepL prog w fns src (Dl::M) s.heap vs.toList ds) (hW:WI h₀ src (Dl::M) s π) (hF:FI prog w fns src (Dl::M) env s ⟨σ.l,σ.c⟩) (hD0:s₀.heap.get? Dl=none) (hDL:Dl≠env.locals)
  (hQ:∀ s'',SF prog w fns h₀ src M₀ s₀ P env (Dl::M) ⟨σ.l,σ.c,some (i,ds)⟩ s'' π→(∀ a o,a≠env.locals→s.heap.get? a=some o→s''.heap.get? a=some o)→Q () s''):wpAny (model prog w) A (storeName env x (.ref Dl)) Q E s:=by
 obtain ⟨m,hn,hv⟩:=hF.ns
 refine wpAny_storeName_local hx hn (fun h' hn' hs=>hQ _ ?_ (fun a o q e=>hs.extBut a o q e)) (hp_fun X.F.kind)
 have hk:∀ a o,a≠env.locals→s.heap.get? a=some o→h'.get? a=some o:=fun a o q e=>hs.extBut a o q e
 have hC:env.locals∈Dl::M:=List.mem_cons_of_mem _ X.L
 have kp:Kept (Dl::M) s.heap h':=kept_upd (s':={s with heap:=h'}) hC hk
 refine X.move (s':={s with heap:=h',toks:=s.toks+1}) (σ':=⟨σ.l,σ.c,some (i,ds)⟩) (fun a ha=>List.mem_cons_of_mem _ (X.sub a ha)) hC (hW.upd hC (X.notab X.L0) (X.nosrc X.L0) hk (ns_at hn'))
  ⟨X.F.kind,X.F.glob,X.F.bi,X.F.L,⟨_,hn',fun y j e q1 q2=>?_⟩,fun y j e q1 q2 c q3=>let ⟨h1,u,h2,h3⟩:=hF.cl y j e q1 q2 c q3;⟨h1,u,kp.cell h2 h1,h3.kept kp⟩,X.F.cd,X.F.lam⟩
  (X.st.upd1 (s₂:={s with heap:=h',toks:=s.toks+1}) X.L0 rfl rfl hk) (fun j ds q=>?_) (fun _ q=>q) (fun a o q _ hd e=>⟨List.not_mem_cons_of_ne_of_not_mem (fun q2=>cell_seq (q2▸e) hd hL) q,hk a o (fun q2=>q (q2▸X.L)) e⟩) fun p _ q _ hd e=>⟨List.mem_cons_of_mem _ q,hk _ _ (fun q2=>fields_ns (q2▸e) hd hn) e⟩
 ·obtain ⟨u,h1,h2⟩:=hv y j e q1 q2
  exact ⟨u,(if_neg fun e=>nosome hg ((show j=i from Option.some.inj (q1.symm.trans ((congrArg encS e).trans hi)))▸q2)).trans h1,h2.kept kp⟩
 ·cases q
  exact ⟨x,Dl,vs,_,hi,hn',if_pos rfl,plain_keep hL (hk _ · hDL),hr.kept kp,List.mem_cons_self,hD0,hDL,hg⟩
end
section
variable {prog:Program}{w:World}{fns:List Nat}{h₀:Heap}{src:Option Addr}{M₀ M:List Addr}{P:List (Addr×Obj)}{s₀ s s':Shared}{env:PySem.Env}{σ:Sg}{π π':Pi}
theorem SF.drop {Cs M':List Addr}(X:SF prog w fns h₀ src M₀ s₀ P env M σ s π) (hM':∀ a∈M',a∈M∧(a∈Cs→∃ o,s'.heap.get? a=some o)) (hM:∀ a∈M,a∉Cs→a∈M') (hC:∀ a∈Cs,a∈M∧s₀.heap.get? a=none∧a≠env.locals∧(∀ vs,¬ s.heap.PlainList a vs)∧(∀ p∈P,p.1≠a))
  (hk:∀ a o,a∉Cs→s.heap.get? a=some o→s'.heap.get? a=some o) (hg:s'.gens=s.gens) (ho:s'.os=s.os):SF prog w fns h₀ src M₀ s₀ P env M' σ s' π:=by
 have sub:∀ a,a∈M'→a∈M:=fun a ha=>(hM' a ha).1
 have hCM:∀ a∈Cs,a∈M:=fun a ha=>(hC a ha).1
 have hLC:env.locals∉Cs:=fun q=>(hC _ q).2.2.1 rfl
 have htC:lamTab∉Cs:=fun q=>X.notab (hC _ q).2.1 rfl
 have hsC:∀ a,src=some a→a∉Cs:=fun a q q2=>X.nosrc (hC _ q2).2.1 q
 refine X.move (fun a ha=>hM a (X.sub a ha) fun q=>X.nM₀ ha (hC a q).2.1 rfl) (hM _ X.L hLC)
  (X.W.off sub (hM _ X.W.tabM htC) hCM htC (fun a q=>⟨hM a (X.W.pool a q).1 (hsC a q),hsC a q⟩) hk fun a ha=>(hM' a ha).2) ((X.F.updL (s':=s') hCM hLC hk).less sub) (X.st.upd (fun a ha=>(hC a ha).2.1) hg ho hk)
  (fun i ds q=>?_) (fun _ q=>q) (fun a o q _ _ e=>⟨fun m=>q (sub a m),hk a o (fun m=>q (hCM a m)) e⟩) fun p hp q _ _ e=>have n:p.1∉Cs:=fun m=>(hC _ m).2.2.2.2 p hp rfl;⟨hM _ q n,hk _ _ n e⟩
 obtain ⟨y,D,vs,m,h1,h2,h3,h4,h5,h6,h7,h8,h9⟩:=X.own i ds q
 have hDC:D∉Cs:=fun q=>(hC D q).2.2.2.1 vs h4
 exact ⟨y,D,vs,m,h1,ns_keep h2 (hk _ · hLC),h3,plain_keep h4 (hk _ · hDC),(h5.kept (keptL hCM hk)).weak fun a q e=>q (sub a e),hM D h6 hDC,h7,h8,h9⟩
end
section
variable {prog:Program}{w:World}{fns:List Nat}{h₀:Heap}{k:Nat}{K:Frag}{mg mb:Str→Option Value}{sc:Scope}
inductive PostN (prog:Program) (w:World) (fns:List Nat) (h₀:Heap) (src:Option Addr) (M₀:List Addr) (s₀:Shared) (P:List (Addr×Obj)) (env:PySem.Env) (M:List Addr) (s:Shared) (kn:Sg→Pi→Prop) (s':Shared):Prop
 | mk (σ':Sg) (π':Pi) (M':List Addr) (h:kn σ' π') (X:SF prog w fns h₀ src M₀ s₀ P env M' σ' s' π') (t:Tr M s M' s')
noncomputable def PostS (prog:Program) (w:World) (fns:List Nat) (h₀:Heap) (src:Option Addr) (M₀:List Addr) (s₀:Shared) (P:List (Addr×Obj)) (env:PySem.Env) (M:List Addr) (s:Shared) (kn:Sg→Pi→Prop) (kr:D→Pi→Prop) (fl:Flow) (s':Shared):Prop:=
 match fl with
 | .next=>PostN prog w fns h₀ src M₀ s₀ P env M s kn s'
 | .ret v=>Post prog w fns h₀ src M₀ s₀ kr v s'
 | _=>False
theorem PostS.tr {src:Option Addr}{M₀:List Addr}{s₀:Shared}{P:List (Addr×Obj)}{env:PySem.Env}{M M':List Addr}{s s' s'':Shared}{kn:Sg→Pi→Prop}{kr:D→Pi→Prop}{fl:Flow}
  (x:PostS prog w fns h₀ src M₀ s₀ P env M' s' kn kr fl s'') (t:Tr M s M' s'):PostS prog w fns h₀ src M₀ s₀ P env M s kn kr fl s'':=by
 cases fl with
 | next=>obtain ⟨σ',π',M'',h1,h2,h3⟩:=x;exact ⟨σ',π',M'',h1,h2,t.trans h3⟩
 | ret v=>exact x
 | _=>exact x
noncomputable def SndS (prog:Program) (w:World) (fns:List Nat) (h₀:Heap) (k:Nat) (sc:Scope) (ps:Stmt) (st:St):Prop:=
 ∀ (src:Option Addr) (M₀ M:List Addr) (s₀:Shared) (P:List (Addr×Obj)) (env:PySem.Env) (A:Around) (s:Shared) (σ:Sg) (π:Pi) (kn:Sg→Pi→Prop) (kr:D→Pi→Prop),env.scope=sc→Good A k→SF prog w fns h₀ src M₀ s₀ P env M σ s π→
  wS st (Ret FN k) σ π kn kr→wpAny (model prog w) A (exec ps env) (PostS prog w fns h₀ src M₀ s₀ P env M s kn kr) (fun _ _=>False) s
noncomputable def SndSs (prog:Program) (w:World) (fns:List Nat) (h₀:Heap) (k:Nat) (sc:Scope) (ps:List Stmt) (st:Sts):Prop:=
 ∀ (src:Option Addr) (M₀ M:List Addr) (s₀:Shared) (P:List (Addr×Obj)) (env:PySem.Env) (A:Around) (s:Shared) (σ:Sg) (π:Pi) (kn:Sg→Pi→Prop) (kr:D→Pi→Prop),env.scope=sc→Good A k→SF prog w fns h₀ src M₀ s₀ P env M σ s π→
  wSs st (Ret FN k) σ π kn kr→wpAny (model prog w) A (execs ps env) (PostS prog w fns h₀ src M₀ s₀ P env M s kn kr) (fun _ _=>False) s
theorem compSs_inv {f:Stmt→Option St}{p:Stmt}{ps:List Stmt}{st:Sts}(h:compS.compSs f (p::ps)=some st):∃ s ss,f p=some s∧compS.compSs f ps=some ss∧st=.cons s ss:=by
 replace h:=bindI h;obtain ⟨s,hs,h⟩:=h
 replace h:=bindI h;obtain ⟨ss,hss,h⟩:=h
 exact ⟨s,ss,hs,hss,(Option.some.inj h).symm⟩
theorem sndSs_of {f:Stmt→Option St}(IH:∀ ps st,f ps=some st→SndS prog w fns h₀ k sc ps st){ps:List Stmt}:∀ {st:Sts},compS.compSs f ps=some st→SndSs prog w fns h₀ k sc ps st:=by
 induction ps with
 | nil=>
  intro st h
  cases h
  exact fun src M₀ M s₀ P env A s σ π kn kr hsc hA X h=>wpAny_execs_nil ⟨σ,π,M,h,X,Tr.refl M s⟩
 | cons p ps ih=>
  intro st h
  obtain ⟨s',ss',hs,hss,rfl⟩:=compSs_inv h
  intro src M₀ M s₀ P env A s σ π kn kr hsc hA X h
  refine wpAny_execs_cons (wpAny_mono (IH p s' hs src M₀ M s₀ P env A s σ π _ kr hsc hA X h) (fun fl s₁ q=>?_) fun _ _ x=>x)
  cases fl with
  | next=>
   obtain ⟨σ',π',M',q1,q2,q3⟩:=q
   exact wpAny_mono (ih hss src M₀ M' s₀ P env A s₁ σ' π' kn kr hsc hA q2 q1) (fun fl s₂ q=>q.tr q3) fun _ _ x=>x
  | ret v=>exact q
  | _=>exact q.elim
theorem sndS_ret {e:Expr}{e':Ex} {pos}(H:SndE prog w fns h₀ k sc e e'):SndS prog w fns h₀ k sc (.Return (some e) pos) (.ret e'):=by
 intro src M₀ M s₀ P env A s σ π kn kr hsc hA X h
 obtain ⟨M',X',_⟩:=X.freeze
 refine wpAny_Return_some (wpAny_mono (H src M' env A s _ π _ hsc hA X'.W X'.F h) (fun v s₁ p=>?_) fun _ _ x=>x)
 obtain ⟨d,π₁,h1,r1,st1,W1⟩:=p
 exact ⟨d,π₁,h1,r1.weak fun a q e=>q (X'.sub a e),X'.st.trans st1,W1.less X'.sub X'.tab₀ X'.src₀⟩
theorem sndS_ite {c:Expr}{c':Ex}{a b:List Stmt}{a' b':Sts} {pos}(H:SndT prog w fns h₀ k sc c c') (Ha:SndSs prog w fns h₀ k sc a a') (Hb:SndSs prog w fns h₀ k sc b b'):SndS prog w fns h₀ k sc (.If c a b pos) (.ite c' a' b'):=by
 intro src M₀ M s₀ P env A s σ π kn kr hsc hA X h
 refine wpAny_If (wpAny_mono (H src M env A s _ π (fun t π=>if t=true then wSs a' (Ret FN k) σ π kn kr else wSs b' (Ret FN k) σ π kn kr) hsc hA X.W X.F h) (fun t s₁ p=>?_) fun _ _ x=>x)
 obtain ⟨π₁,h1,st1,W1⟩:=p
 cases t with
 | true=>exact wpAny_mono (Ha src M₀ M s₀ P env A s₁ σ π₁ kn kr hsc hA (X.step st1 W1) h1) (fun fl s₂ q=>q.tr (Tr.step X.W st1)) fun _ _ x=>x
 | false=>exact wpAny_mono (Hb src M₀ M s₀ P env A s₁ σ π₁ kn kr hsc hA (X.step st1 W1) h1) (fun fl s₂ q=>q.tr (Tr.step X.W st1)) fun _ _ x=>x
end
section
variable {prog:Program}{w:World}{fns:List Nat}{h₀:Heap}{src:Option Addr}{M₀ M:List Addr}{P:List (Addr×Obj)}{s₀ s s':Shared}{env:PySem.Env}{σ:Sg}{π π':Pi}
theorem SF.more2 {M':List Addr}(X:SF prog w fns h₀ src M₀ s₀ P env M σ s π) (st:Step src s s') (hsub:∀ a,a∈M→a∈M') (hnew:∀ a∈M',a∈M∨s.heap.get? a=none) (W':WI h₀ src M' s' π') (F':FI prog w fns src M' env s' ⟨σ.l,σ.c⟩):
  SF prog w fns h₀ src M₀ s₀ P env M' σ s' π':=
 have keep:∀ {a o},s₀.heap.get? a=none→s.heap.get? a=some o→s'.heap.get? a=some o:=fun e=>st.keep _ _ (X.notab e) (X.nosrc e)
 X.move (fun a ha=>hsub a (X.sub a ha)) (hsub _ X.L) W' F' (X.st.trans st) (fun i ds q=>(X.own i ds q).move (fun o=>keep X.L0) (fun D o m e _ h=>⟨hsub D m,keep e h⟩) fun r=>(r.wide hnew).kept fun a o hm _ e=>st.keep a o (fun q=>hm (q▸W'.tabM)) (fun q=>hm (W'.pool a q).1) e) (fun _ q=>q)
  (fun a o m e _ h=>⟨fun q=>(hnew a q).elim m fun z=>nosome z h,keep e h⟩) fun p _ m e _ h=>⟨hsub _ m,keep e h⟩
theorem SF.perm {M':List Addr}(X:SF prog w fns h₀ src M₀ s₀ P env M σ s π) (hsub:∀ a,a∈M→a∈M') (hsub':∀ a,a∈M'→a∈M):SF prog w fns h₀ src M₀ s₀ P env M' σ s π:=
 X.more2 (Step.refl s) hsub (fun a ha=>.inl (hsub' a ha)) (X.W.less hsub' (hsub _ X.W.tabM) fun a q=>hsub _ (X.W.pool a q).1) (X.F.less hsub')
theorem ns_not_plain {h:Heap}{C D:Addr} {m vs}(hN:h.Ns C m) (hL:h.PlainList D vs):C≠D:=fun q=>by
 obtain ⟨o,es,ep,ho,hd,_⟩:=hN
 obtain ⟨n,e⟩:=hL
 rw [q] at ho
 rw [←Option.some.inj (e.symm.trans ho)] at hd
 cases hd
theorem SF.drop1 {C:Addr}{h':Heap} {m}(X:SF prog w fns h₀ src M₀ s₀ P env (C::M) σ s π) (hC0:s₀.heap.get? C=none) (hCM:C∉M) (hCL:C≠env.locals) (hN:s.heap.Ns C m) (hs:Heap.SameBut C s.heap h'):SF prog w fns h₀ src M₀ s₀ P env M σ {s with heap:=h'} π:=
 X.drop (s':={s with heap:=h'}) (Cs:=[C]) (fun a ha=>⟨List.mem_cons_of_mem _ ha,fun q=>absurd (List.mem_singleton.mp q▸ha) hCM⟩) (fun a ha q=>(List.mem_cons.mp ha).resolve_left (ne_one q))
  (all_one ⟨List.mem_cons_self,hC0,hCL,fun vs q=>ns_not_plain hN q rfl,fun p hp e=>let ⟨a1,_,_,a4⟩:=X.pin p hp;fields_ns (e▸a1) a4 hN⟩) (fun a o q e=>hs.extBut a o (ne_one q) e) rfl rfl
theorem ns_not_cell {h:Heap}{C c:Addr} {m v}(hN:h.Ns C m) (hL:h.IsCell c v):C≠c:=fun q=>by
 obtain ⟨o,es,ep,ho,hd,_⟩:=hN
 obtain ⟨o',e,hd'⟩:=hL
 rw [q] at ho
 rw [←Option.some.inj (e.symm.trans ho),hd'] at hd
 cases hd
theorem sub2 {C Dl:Addr}(a:Addr) (h:a∈C::M):a∈C::Dl::M:=(List.mem_cons.mp h).elim (fun e=>e▸List.mem_cons_self) fun m=>List.mem_cons_of_mem _ (List.mem_cons_of_mem _ m)
theorem swp {C Dl:Addr}(a:Addr) (h:a∈Dl::C::M):a∈C::Dl::M:=(List.mem_cons.mp h).elim (fun e=>e▸List.mem_cons_of_mem _ List.mem_cons_self) (sub2 a)
theorem SF.comp {C Dl:Addr}(X:SF prog w fns h₀ src M₀ s₀ P env M σ s π) (hW:WI h₀ src (C::Dl::M) s' π') (hst:Step src s s') (hF:FI prog w fns src (C::Dl::M) env s' ⟨σ.l,σ.c⟩) (hCn:s.heap.get? C=none):SF prog w fns h₀ src M₀ s₀ P env (C::M) σ s' π':=
 X.more2 hst (fun a ha=>List.mem_cons_of_mem _ ha) (List.forall_mem_cons.mpr ⟨.inr hCn,fun a ha=>.inl ha⟩) (hW.less sub2 (List.mem_cons_of_mem _ X.W.tabM) fun a q=>List.mem_cons_of_mem _ (X.W.pool a q).1) (hF.less sub2)
theorem SF.keepC {C:Addr}{s₂:Shared}{h':Heap}(X:SF prog w fns h₀ src M₀ s₀ P env M σ s π) (hst:Step src s s') (hk:∀ a o,a≠env.locals→s'.heap.get? a=some o→s₂.heap.get? a=some o) (hCn:s.heap.get? C=none) (hs:Heap.SameBut C s₂.heap h')
  (a:Addr) (o:Obj) (hm:a∉M) (e:s.heap.get? a=some o):h'.get? a=some o:=hs.extBut a o (fun q=>nosome hCn (q▸e)) (hk a o (fun q=>hm (q▸X.L)) (hst.keep a o (fun q=>hm (q▸X.W.tabM)) (fun q=>hm (X.W.pool a q).1) e))
end
section
variable {prog:Program}{w:World}{fns:List Nat}{h₀:Heap}{k:Nat}{K:Frag}{mg mb:Str→Option Value}{sc:Scope}
variable {src:Option Addr}{M₀ M:List Addr}{P:List (Addr×Obj)}{s₀:Shared}{env:PySem.Env}{A:Around}{s:Shared}{σ:Sg}{π:Pi}{kn:Sg→Pi→Prop}{kr:D→Pi→Prop}
theorem asg_plain {v:Expr}{v':Ex}{x:Str}{p pos:Pos}{i:Nat}(hx:sc.names.lookup x=some .local) (hi:encS x=some i) (H:SndE prog w fns h₀ k sc v v') (hsc:env.scope=sc) (hA:Good A k)
  (hsw:swapsWith v (some (.Name x p)) pos.line env=pure false) (X:SF prog w fns h₀ src M₀ s₀ P env M σ s π) (h:wE v' (Ret FN k) σ.env π fun d π=>kn (σ.set i d) π):
  wpAny (model prog w) A (exec (.Assign [.Name x p] v pos) env) (PostS prog w fns h₀ src M₀ s₀ P env M s kn kr) (fun _ _=>False) s:=by
 refine wpAny_Assign_Name (wpAny_mono (H src M env A s _ π _ hsc hA X.W X.F h) (fun v s₁ p=>?_) fun _ _ x=>x) hsw
 obtain ⟨d,π₁,h1,r1,st1,W1⟩:=p
 exact (X.step st1 W1).store (hsc▸hx) hi r1 fun s₂ X₂ hk=>⟨_,_,_,h1,X₂,(Tr.step X.W st1).trans (Tr.of (fun _ h=>.inl h) fun a o hm e=>hk a o (fun q=>hm (q▸X.L)) e)⟩
theorem asg_used {elt tg it:Expr}{ifs:List Expr}{sc':Scope}{cpos:Pos}{one:Bool}{is:List Nat}{kd:It}{it' elt':Ex}{cs:Exs}{f:Expr→Option Ex}
  (hok:compScopeOk sc' sc=true) (htg:tgN sc' tg=some (one,is)) (hkd:kd=.enm→one=false) (HI:SndI prog w fns h₀ k sc it kd it') (HE:SndE prog w fns h₀ k (relab sc' sc) elt elt')
  (HT:∀ pe e,f pe=some e→SndT prog w fns h₀ k (relab sc' sc) pe e) (hcs:compL f ifs=some cs) (hset:∀ env x,foldedSetIterable it env x=pure x)
  {x:Str}{p pos:Pos}{i:Nat}(hx:sc.names.lookup x=some .local) (hi:encS x=some i) (hsc:env.scope=sc) (hA:Good A k)
  (hsw:swapsWith (.ListComp elt [⟨tg,it,ifs,0⟩] sc' cpos) (some (.Name x p)) pos.line env=pure true) (X:SF prog w fns h₀ src M₀ s₀ P env M σ s π) (h:wE (.comp elt' one is kd it' cs) (Ret FN k) σ.env π fun d π=>kn (σ.set i d) π):
  wpAny (model prog w) A (exec (.Assign [.Name x p] (.ListComp elt [⟨tg,it,ifs,0⟩] sc' cpos) pos) env) (PostS prog w fns h₀ src M₀ s₀ P env M s kn kr) (fun _ _=>False) s:=by
 rw [exec_Assign_Name_used _ _ _ _ hsw]
 refine wpAny_bind (wpAny_standAt (wpAny_bind ?_))
 rw [arm_evalThenUse_ListComp]
 refine wpAny_bind (wpAny_mono (snd_comp_core (use:=some (assign (.Name x p) env)) hok htg hkd HI HE HT hcs hset hsc hA X.W X.F h (Qm:=fun _ s'=>PostS prog w fns h₀ src M₀ s₀ P env M s kn kr .next s') ?_) (fun _ s' hq=>wpAny_pure (wpAny_pure hq)) fun _ _ x=>x)
 intro Dl C s' m rs vs π' h1 hN hL hr hW hst hF hCD hDn hCn
 have hCM:=X.W.nin hCn
 have hCL:C≠env.locals:=fun q=>hCM (q▸X.L)
 refine PyProof.Rows.assign_Name ((X.comp hW hst hF hCn).store (hsc▸hx) hi (.lst hL.isList (List.not_mem_cons_of_ne_of_not_mem hCD.symm (X.W.nin hDn)) (hr.weak fun a q e=>q (sub2 a e))) fun s₂ X₂ hk=>?_)
 have hN2:=ns_keep hN (hk _ · hCL)
 exact ⟨m,hN2,fun h' hs=>⟨_,_,_,h1,X₂.drop1 (Step.none_of X.W X.st hCn) hCM hCL hN2 hs,Tr.of (fun _ h=>.inl h) (X.keepC hst hk hCn hs)⟩⟩
noncomputable def SndF (prog:Program) (w:World) (fns:List Nat) (h₀:Heap) (k:Nat) (sc:Scope) (pe:Expr) (e:Ex):Prop:=
 ∀ (src:Option Addr) (M:List Addr) (env:PySem.Env) (A:Around) (s:Shared) (ρ:Env) (π:Pi) (Q:D→Pi→Prop),env.scope=sc→Good A k→WI h₀ src M s π→FI prog w fns src M env s ρ→
  wE e (Ret FN k) ρ π Q→wpAny (model prog w) A (eval pe env) (PostF prog w fns h₀ src M env ρ s Q) (fun _ _=>False) s
theorem snd_lstF {f:Expr→Option Ex}(IH:∀ pe e,f pe=some e→SndE prog w fns h₀ k sc pe e){es:List Expr}{es':Exs} {pos}(hc:compL f es=some es') (hz:es.length≤1000):SndF prog w fns h₀ k sc (.List es pos) (.list es'):=by
 intro src M env A s ρ π Q hsc hA W F h
 refine List_ (wpAny_mono (snd_each IH hsc hA hc W F h) (fun vs s₁ p=>?_) fun _ _ x=>x)
 obtain ⟨hl,ds,π₁,h1,r1,st1,W1⟩:=p
 refine wpAny_newList ?_ (by rw [hl];exact Nat.le_trans hz (by decide))
 have hk:∀ a o,s₁.heap.get? a=some o→(s₁.heap.push {cls:=.type "list",data:=.seq vs.toArray}).get? a=some o:=fun a o e=>Heap.get?_push_of_some _ e
 have hn:=Step.none_of W1 st1 (fresh_none (Nat.le_refl s₁.heap.objs.size))
 exact ⟨s₁.heap.objs.size,vs.toArray,ds,π₁,rfl,h1,⟨0,Heap.get?_push_size _ rfl⟩,r1.add (s':={s₁ with heap:=s₁.heap.push {cls:=.type "list",data:=.seq vs.toArray}}) (Nat.le_refl _) hk,W1.add (Nat.le_refl _) (Heap.get?_push_size _ rfl) hk,st1.trans ⟨rfl,rfl,fun a o _ _ e=>hk a o e⟩,
  (F.step W st1).add (Nat.le_refl _) hk,W.nin hn,hn⟩
theorem snd_listF (G:Gd prog w fns K mg mb h₀){f:Expr→Option Ex}(IH:∀ pe e,f pe=some e→SndE prog w fns h₀ k sc pe e){g:Str}{gp pos:Pos}{e:Expr}{es':Exs}
  (hg:gName sc g=some 6113817460) (hc:compL f [e]=some es'):SndF prog w fns h₀ k sc (.Call (.Name g gp) [e] [] pos) (.bi 6113817460 es'):=by
 intro src M env A s ρ π Q hsc hA W F h
 obtain ⟨hb,hv⟩:=biName (gName_data hg).2.2 (.inr (.inl rfl))
 refine wpAny_Call_Name_kw (snd_bname G (hg▸rfl) hsc W F hb hv ?_)
 rw [kw_nil]
 refine PySem.callWith_type ((backTo_plain _).trans (starEach_plain env hc)) (wpAny_mono (evalArgs_each IH hc (List.cons_ne_nil _ _) _ src M env A s ρ π _ hsc hA W F h) (fun x s₁ p=>?_) fun _ _ x=>x)
 obtain ⟨hkw,hl',ds,π₁,h4,r1,st1,W1⟩:=p
 rw [hkw]
 obtain ⟨v,d,hx,hv,h4⟩:=one_rep r1 (show oneD ds _ from h4)
 rw [hx]
 obtain ⟨l,rfl,h4⟩:=onT_inv h4
 obtain ⟨h5,h6⟩:=chkL_iff.mp h4
 obtain ⟨av,vs,rfl,ht,hm,hr⟩:=hv.tup_inv
 obtain ⟨o,ho,hc,n,hd⟩:=ht
 have hn:=Step.none_of W1 st1 (fresh_none (Nat.le_refl s₁.heap.objs.size))
 exact call_list_seq _ (.inr rfl) ho hc hd (fun h' c' hk hS=>⟨_,vs,l,π₁,rfl,h6,⟨c',hS⟩,hr.add (s':={s₁ with heap:=h'}) (Nat.le_refl _) hk,W1.add (s':={s₁ with heap:=h'}) (Nat.le_refl _) hS hk,st1.trans ⟨rfl,rfl,fun a o _ _ e=>hk a o e⟩,
  (F.step W st1).add (s':={s₁ with heap:=h'}) (Nat.le_refl _) hk,W.nin hn,hn⟩) (by rw [size_of hr];exact Nat.le_trans h5 sizeLine_big)
theorem ownW_inv {i:Nat}{ds:List D}{kn:Sg→Prop}(h:ownW σ i (.lst ds) kn):getV σ.l i=none∧kn ⟨σ.l,σ.c,some (i,ds)⟩:=
 let ⟨hg,h⟩:=chk_iff.mp (onN_inv h).2
 ⟨Option.isNone_iff_eq_none.mp hg,h⟩
theorem asg_own {v:Expr}{v':Ex}{x:Str}{p pos:Pos}{i:Nat}(hx:sc.names.lookup x=some .local) (hi:encS x=some i) (H:SndF prog w fns h₀ k sc v v') (hsc:env.scope=sc) (hA:Good A k)
  (hsw:swapsWith v (some (.Name x p)) pos.line env=pure false) (X:SF prog w fns h₀ src M₀ s₀ P env M σ s π) (h:wE v' (Ret FN k) σ.env π fun d π=>ownW σ i d fun σ=>kn σ π):
  wpAny (model prog w) A (exec (.Assign [.Name x p] v pos) env) (PostS prog w fns h₀ src M₀ s₀ P env M s kn kr) (fun _ _=>False) s:=by
 refine wpAny_Assign_Name (wpAny_mono (H src M env A s _ π _ hsc hA X.W X.F h) (fun v s₁ p=>?_) fun _ _ x=>x) hsw
 obtain ⟨Dl,vs,ds,π₁,rfl,h1,hL,hr,hW,hst,hF,hDM,hDn⟩:=p
 obtain ⟨hg,h1⟩:=ownW_inv h1
 exact (X.step hst (X.W.drop1 hW)).storeOwn (hsc▸hx) hi hg hL hr hW hF (Step.none_of X.W X.st hDn) (fun q=>hDM (q▸X.L)) fun s₂ X₂ hk=>⟨_,_,_,h1,X₂,Tr.of (List.forall_mem_cons.mpr ⟨.inr hDn,fun _=>.inl⟩) fun a o hm e=>hk a o (fun q=>hm (q▸X.L)) (hst.keep a o (fun q=>hm (q▸X.W.tabM)) (fun q=>hm (X.W.pool a q).1) e)⟩
theorem asg_own_used {elt tg it:Expr}{ifs:List Expr}{sc':Scope}{cpos:Pos}{one:Bool}{is:List Nat}{kd:It}{it' elt':Ex}{cs:Exs}{f:Expr→Option Ex}
  (hok:compScopeOk sc' sc=true) (htg:tgN sc' tg=some (one,is)) (hkd:kd=.enm→one=false) (HI:SndI prog w fns h₀ k sc it kd it') (HE:SndE prog w fns h₀ k (relab sc' sc) elt elt')
  (HT:∀ pe e,f pe=some e→SndT prog w fns h₀ k (relab sc' sc) pe e) (hcs:compL f ifs=some cs) (hset:∀ env x,foldedSetIterable it env x=pure x)
  {x:Str}{p pos:Pos}{i:Nat}(hx:sc.names.lookup x=some .local) (hi:encS x=some i) (hsc:env.scope=sc) (hA:Good A k)
  (hsw:swapsWith (.ListComp elt [⟨tg,it,ifs,0⟩] sc' cpos) (some (.Name x p)) pos.line env=pure true) (X:SF prog w fns h₀ src M₀ s₀ P env M σ s π) (h:wE (.comp elt' one is kd it' cs) (Ret FN k) σ.env π fun d π=>ownW σ i d fun σ=>kn σ π):
  wpAny (model prog w) A (exec (.Assign [.Name x p] (.ListComp elt [⟨tg,it,ifs,0⟩] sc' cpos) pos) env) (PostS prog w fns h₀ src M₀ s₀ P env M s kn kr) (fun _ _=>False) s:=by
 rw [exec_Assign_Name_used _ _ _ _ hsw]
 refine wpAny_bind (wpAny_standAt (wpAny_bind ?_))
 rw [arm_evalThenUse_ListComp]
 refine wpAny_bind (wpAny_mono (snd_comp_core (use:=some (assign (.Name x p) env)) hok htg hkd HI HE HT hcs hset hsc hA X.W X.F h (Qm:=fun _ s'=>PostS prog w fns h₀ src M₀ s₀ P env M s kn kr .next s') ?_) (fun _ s' hq=>wpAny_pure (wpAny_pure hq)) fun _ _ x=>x)
 intro Dl C s' m rs vs π' h1 hN hL hr hW hst hF hCD hDn hCn
 obtain ⟨hg,h1⟩:=ownW_inv h1
 have hCM:=X.W.nin hCn
 have hCL:C≠env.locals:=fun q=>hCM (q▸X.L)
 refine PyProof.Rows.assign_Name ((X.comp hW hst hF hCn).storeOwn (hsc▸hx) hi hg hL (hr.weak fun a q e=>q (swp a e)) (hW.less swp (swp _ hW.tabM) fun a q=>swp _ (hW.pool a q).1) (hF.less swp) (Step.none_of X.W X.st hDn) (fun q=>X.W.nin hDn (q▸X.L)) fun s₂ X₂ hk=>?_)
 have hN2:=ns_keep hN (hk _ · hCL)
 exact ⟨m,hN2,fun h' hs=>⟨_,_,_,h1,(X₂.perm swp swp).drop1 (Step.none_of X.W X.st hCn) (List.not_mem_cons_of_ne_of_not_mem hCD hCM) hCL hN2 hs,Tr.of (List.forall_mem_cons.mpr ⟨.inr hDn,fun _=>.inl⟩) (X.keepC hst hk hCn hs)⟩⟩
end
section
variable {prog:Program}{w:World}{fns:List Nat}{h₀:Heap}{k:Nat}{K:Frag}{mg mb:Str→Option Value}{sc:Scope}
inductive CompV (prog:Program) (w:World) (fns:List Nat) (h₀:Heap) (k:Nat) (sc:Scope) (elt:Expr) (gens:List Comprehension) (sc':Scope) (e:Ex):Prop
 | mk (n':Nat) (tg it:Expr) (ifs:List Expr) (one:Bool) (is:List Nat) (kd:It) (it' elt':Ex) (cs:Exs) (hgens:gens=[⟨tg,it,ifs,0⟩]) (he:e=.comp elt' one is kd it' cs) (hok:compScopeOk sc' sc=true) (htg:tgN sc' tg=some (one,is))
   (hkd:kd=.enm→one=false) (HI:SndI prog w fns h₀ k sc it kd it') (HE:SndE prog w fns h₀ k (relab sc' sc) elt elt') (HT:∀ pe e,compE fns n' (relab sc' sc) pe=some e→SndT prog w fns h₀ k (relab sc' sc) pe e)
   (hcs:compL (compE fns n' (relab sc' sc)) ifs=some cs) (hset:∀ env x,foldedSetIterable it env x=pure x)
theorem comp_inv (G:Gd prog w fns K mg mb h₀) (C:CallOk prog w fns h₀ K k) (LC:LamCallOk prog w fns h₀ k){n:Nat}{elt:Expr}{gens:List Comprehension}{sc':Scope}{pos:Pos}{e:Ex}(h:compE fns n sc (.ListComp elt gens sc' pos)=some e):
  CompV prog w fns h₀ k sc elt gens sc' e:=by
 cases n with
 | zero=>cases h
 | succ n=>
  have ih:=snd_all G C LC n
  obtain ⟨tg,it,ifs,one,is,kd,it',elt',cs,q1,q2,hok,htg,hkd,HI,helt,hcs,hs⟩:=compK_inv G (g:=compE fns n) (fun pe e h=>(ih sc pe e h).1) (fun a a' h=>compE_star h) h
  exact ⟨n,tg,it,ifs,one,is,kd,it',elt',cs,q1,q2,hok,htg,hkd,HI,(ih _ _ _ helt).1,fun pe e hpe=>(ih _ pe e hpe).2,hcs,hs⟩
theorem swaps_other {v:Expr}(h1:v.ctorIdx≠8) (h2:v.ctorIdx≠9) (h3:v.ctorIdx≠10) (t:Option Expr) (l:Nat) (env:PySem.Env):swapsWith v t l env=pure false:=by
 cases v <;> first | rfl | exact absurd rfl h1 | exact absurd rfl h2 | exact absurd rfl h3
theorem compE_noset {n:Nat}{v:Expr}{v':Ex}(h:compE fns n sc v=some v'):v.ctorIdx≠9∧v.ctorIdx≠10:=by
 cases n with
 | zero=>cases h
 | succ n=>
  constructor
  ·exact fun q=>Expr.SetComp.elim (motive_1:=fun v=>compE fns (n+1) sc v=some v'→False) v q (fun _ _ _ _ h=>nomatch h) h
  ·exact fun q=>Expr.DictComp.elim (motive_1:=fun v=>compE fns (n+1) sc v=some v'→False) v q (fun _ _ _ _ _ h=>nomatch h) h
theorem swaps_comp {elt:Expr} {gens sc' cpos}{x:Str}{p:Pos}{l:Nat}{env:PySem.Env}:swapsWith (.ListComp elt gens sc' cpos) (some (.Name x p)) l env=pure true∨swapsWith (.ListComp elt gens sc' cpos) (some (.Name x p)) l env=pure false:=by
 have key:∀ b:Bool,(pure b:Sem Bool)=pure true∨(pure b:Sem Bool)=pure false:=fun b=>by cases b with
  | true=>exact .inl rfl
  | false=>exact .inr rfl
 exact key (env.blockKind==.function&&env.kindOf x==some .local&&p.line==cpos.line&&!(sc'.names.any fun (n,k)=>n==x&&(k==.local||k==.cell)))
theorem SF.frz {prog:Program}{w:World}{fns:List Nat}{h₀:Heap}{src:Option Addr}{M₀ M:List Addr}{P:List (Addr×Obj)}{s₀ s:Shared}{env:PySem.Env}{σ:Sg}{π:Pi}(X:SF prog w fns h₀ src M₀ s₀ P env M σ s π) (fz:Bool):∃ M',SF prog w fns h₀ src M₀ s₀ P env M' (σ.frz fz) s π∧∀ a∈M',a∈M:=by
 cases fz with
 | true=>exact X.freeze
 | false=>exact ⟨M,X,fun _ h=>h⟩
theorem list_elim {P:Expr→Prop}{v:Expr}(h:v.ctorIdx=24) (H:∀ l p,P (.List l p)):P v:=Expr.List.elim (motive_1:=P) v h H
theorem comp_elim {P:Expr→Prop}{v:Expr}(h:v.ctorIdx=8) (H:∀ a b c d,P (.ListComp a b c d)):P v:=Expr.ListComp.elim (motive_1:=P) v h H
theorem sndS_assign (G:Gd prog w fns K mg mb h₀) (C:CallOk prog w fns h₀ K k) (LC:LamCallOk prog w fns h₀ k){n:Nat}{v:Expr}{v':Ex}{x:Str}{p pos:Pos}{i:Nat}(fz:Bool) (hx:sc.names.lookup x=some .local) (hi:encS x=some i) (hv:compE fns n sc v=some v'):
  SndS prog w fns h₀ k sc (.Assign [.Name x p] v pos) (.assign fz false i v'):=by
 intro src M₀ M s₀ P env A s σ π kn kr hsc hA X h
 have H:=(snd_all G C LC n sc v v' hv).1
 obtain ⟨M',X',hsub⟩:=X.frz fz
 refine wpAny_mono (?_:wpAny (model prog w) A (exec (.Assign [.Name x p] v pos) env) (PostS prog w fns h₀ src M₀ s₀ P env M' s kn kr) (fun _ _=>False) s) (fun fl s₁ q=>q.tr (Tr.less hsub)) fun _ _ x=>x
 by_cases hc:v.ctorIdx=8
 ·revert hv H
  refine comp_elim (P:=fun v=>compE fns n sc v=some v'→SndE prog w fns h₀ k sc v v'→wpAny (model prog w) A (exec (.Assign [.Name x p] v pos) env) (PostS prog w fns h₀ src M₀ s₀ P env M' s kn kr) (fun _ _=>False) s) hc fun elt gens sc' cpos hv H=>?_
  rcases swaps_comp (elt:=elt) (gens:=gens) (sc':=sc') (cpos:=cpos) (x:=x) (p:=p) (l:=pos.line) (env:=env) with hs | hs
  ·obtain ⟨n',tg,it,ifs,one,is,kd,it',elt',cs,rfl,rfl,q1,q2,q3,q4,q5,q6,q7,q8⟩:=comp_inv G C LC hv
   exact asg_used q1 q2 q3 q4 q5 q6 q7 q8 hx hi hsc hA hs X' h
  ·exact asg_plain hx hi H hsc hA hs X' h
 ·exact asg_plain hx hi H hsc hA (swaps_other hc (compE_noset hv).1 (compE_noset hv).2 _ _ _) X' h
theorem own_list (G:Gd prog w fns K mg mb h₀) (C:CallOk prog w fns h₀ K k) (LC:LamCallOk prog w fns h₀ k){n:Nat}{e:Expr}{v':Ex}{gp cp:Pos}(hv:compE fns n sc (.Call (.Name "list" gp) [e] [] cp)=some v'):SndF prog w fns h₀ k sc (.Call (.Name "list" gp) [e] [] cp) v':=by
 cases n with
 | zero=>cases hv
 | succ n=>
  replace hv:=gdI (show nameK fns sc (compE fns n sc) "list" [e]=some v' from hv);obtain ⟨_,hv⟩:=hv
  replace hv:=bindI hv;obtain ⟨i2,hgn,hv⟩:=hv
  obtain rfl:6113817460=i2:=Option.some.inj ((show encS ("list":Str)=some 6113817460 by decide +kernel).symm.trans (gName_data hgn).2.2)
  cases hfn:fns.contains 6113817460 with
  | true=>
   obtain ⟨fn,name,ow,fz,q1,q2,q3⟩:=G.fnOk _ hfn
   obtain ⟨hid,a,o,fd,body,hns,_⟩:=compFn_data q3
   rw [show name="list" from encS_inj (q2▸hid) (by decide +kernel),G.blOk "list" (by simp)] at hns
   cases hns
  | false=>
   rw [hfn] at hv
   replace hv:=gdI (show gd (knownBi.contains 6113817460) ((compL (compE fns n sc) [e]).bind fun es=>some (.bi 6113817460 es))=some v' from hv);obtain ⟨_,hv⟩:=hv
   replace hv:=bindI hv;obtain ⟨es',hc,hv⟩:=hv
   obtain rfl:=Option.some.inj hv
   exact snd_listF G (fun pe e h=>(snd_all G C LC n sc pe e h).1) hgn hc
theorem sndS_own (G:Gd prog w fns K mg mb h₀) (C:CallOk prog w fns h₀ K k) (LC:LamCallOk prog w fns h₀ k){n:Nat}{v:Expr}{v':Ex}{x:Str}{p pos:Pos}{i:Nat}(hx:sc.names.lookup x=some .local) (hi:encS x=some i) (hv:compE fns n sc v=some v') (ho:ownOk v=true):
  SndS prog w fns h₀ k sc (.Assign [.Name x p] v pos) (.own i v'):=by
 rcases Bool.or_eq_true_iff.mp ho with ho | ho
 ·rcases Bool.or_eq_true_iff.mp ho with ho | ho
  ·-- a display
   refine list_elim (P:=fun v=>compE fns n sc v=some v'→SndS prog w fns h₀ k sc (.Assign [.Name x p] v pos) (.own i v')) (nat_beq ho) (fun es lp hv=>?_) hv
   cases n with
   | zero=>cases hv
   | succ n=>
    replace hv:=gdI hv;obtain ⟨hz,hv⟩:=hv
    replace hv:=bindI hv;obtain ⟨es',hc,hv⟩:=hv
    obtain rfl:=Option.some.inj hv
    exact fun src M₀ M s₀ P env A s σ π kn kr hsc hA X h=>asg_own hx hi (snd_lstF (fun pe e h=>(snd_all G C LC n sc pe e h).1) hc (of_decide_eq_true hz)) hsc hA rfl X h
  ·-- a comprehension
   refine comp_elim (P:=fun v=>compE fns n sc v=some v'→SndS prog w fns h₀ k sc (.Assign [.Name x p] v pos) (.own i v')) (nat_beq ho) (fun elt gens sc' cpos hv=>?_) hv
   obtain ⟨n',tg,it,ifs,one,is,kd,it',elt',cs,rfl,rfl,q1,q2,q3,q4,q5,q6,q7,q8⟩:=comp_inv G C LC hv
   intro src M₀ M s₀ P env A s σ π kn kr hsc hA X h
   rcases swaps_comp (elt:=elt) (gens:=[⟨tg,it,ifs,0⟩]) (sc':=sc') (cpos:=cpos) (x:=x) (p:=p) (l:=pos.line) (env:=env) with hs | hs
   ·exact asg_own_used q1 q2 q3 q4 q5 q6 q7 q8 hx hi hsc hA hs X h
   ·exact asg_own hx hi (snd_compF q1 q2 q3 q4 q5 q6 q7 q8) hsc hA hs X h
 ·-- a call of list
  cases hq:eCall1 v with
  | none=>rw [hq] at ho;cases ho
  | some q=>
   rw [hq] at ho
   obtain ⟨gp,cp,rfl⟩:=eCall1_inv hq
   rw [show q.1="list" from eq_of_beq ho] at hv ⊢
   exact fun src M₀ M s₀ P env A s σ π kn kr hsc hA X h=>asg_own hx hi (own_list G C LC hv) hsc hA rfl X h
end
section
variable {prog:Program}{w:World}{fns:List Nat}{h₀:Heap}{src:Option Addr}{M₀ M:List Addr}{P:List (Addr×Obj)}{s₀ s s':Shared}{env:PySem.Env}{σ:Sg}{π π':Pi}
theorem SF.push {y:Str}{Dl:Addr}{vs:Array Value}{m:Str→Option Value}{v:Value}{d:D}{i:Nat}{ds:List D}{h':Heap}(X:SF prog w fns h₀ src M₀ s₀ P env M σ s π) (hy:encS y=some i) (hn:s.heap.Ns env.locals m) (hm:m y=some (.ref Dl)) (hL:s.heap.PlainList Dl vs)
  (hr:RepL prog w fns src M s.heap vs.toList ds) (hD:Dl∈M) (hD0:s₀.heap.get? Dl=none) (hDl:Dl≠env.locals) (hg:getV σ.l i=none) (rv:Rep prog w fns src M s.heap v d) (hL':h'.PlainList Dl (vs.push v)) (hs:Heap.SameBut Dl s.heap h'):
  SF prog w fns h₀ src M₀ s₀ P env M ⟨σ.l,σ.c,some (i,ds++[d])⟩ {s with heap:=h'} π:=by
 have hk:∀ a o,a≠Dl→s.heap.get? a=some o→h'.get? a=some o:=fun a o q e=>hs.extBut a o q e
 have kp:Kept M s.heap h':=kept_upd (s':={s with heap:=h'}) hD hk
 refine X.move (s':={s with heap:=h'}) (σ':=⟨σ.l,σ.c,some (i,ds++[d])⟩) X.sub X.L (X.W.upd hD (X.notab hD0) (X.nosrc hD0) hk (plain_at hL')) (X.F.upd (s':={s with heap:=h'}) hD hDl.symm hk) (X.st.upd1 (s₂:={s with heap:=h'}) hD0 rfl rfl hk) (fun j ds' q=>?_) (fun _ q=>q)
  (fun a o q _ _ e=>⟨q,hk a o (fun q2=>q (q2▸hD)) e⟩) fun p _ q _ hd e=>⟨q,hk _ _ (fun q2=>fields_seq (q2▸e) hd hL) e⟩
 cases q
 exact ⟨y,Dl,vs.push v,m,hy,ns_keep hn (hk _ · hDl.symm),hm,hL',by rw [Array.toList_push];exact (hr.kept kp).append (.cons (rv.kept kp) .nil),hD,hD0,hDl,hg⟩
theorem SF.storeCell {A:Around}{x:Str}{i:Nat}{v:Value}{d:D}{Q:Unit→Shared→Prop} {E}(X:SF prog w fns h₀ src M₀ s₀ P env M σ s π) (hx:env.scope.names.lookup x=some .cell) (hi:encS x=some i) (hg:getV σ.c i=none) (hown:σ.own=none)
  (hr:Rep prog w fns src M s.heap v d) (hQ:∀ s',SF prog w fns h₀ src M₀ s₀ P env M (σ.setC i d) s' π→Tr M s M s'→Q () s'):wpAny (model prog w) A (storeName env x v) Q E s:=by
 obtain ⟨c,hc⟩:=X.F.cd x (.inl hx)
 obtain ⟨hcell,hcM,hc0⟩:=X.cells x i c hi hx hc hg
 refine wpAny_storeName_cell X.F.kind hx hc hcell (fun h' hc' hs=>?_)
 obtain ⟨oc,hoc,hdc⟩:=hcell
 have hk:∀ a o,a≠c→s.heap.get? a=some o→h'.get? a=some o:=fun a o q e=>hs.extBut a o q e
 have kp:Kept M s.heap h':=fun a o hm hd e=>hk a o (fun q=>hd (Option.some.inj (e.symm.trans (q▸hoc))▸hdc)) e
 have hMc:∀ {a},a∈M→a≠c:=fun ha q=>hcM (q▸ha)
 have hb0:∀ {a o},h₀.get? a=some o→a≠c:=fun e q=>nosome hc0 (X.base₀ _ _ (q▸e))
 refine hQ _ ?_ ⟨fun _ h=>.inl h,kp,fun a o hm e=>if q:a=c then q▸let ⟨o',e',_⟩:=hc';⟨o',e'⟩ else ⟨o,hk a o q e⟩⟩
 have W':WI h₀ src M {s with heap:=h'} π:=
  ⟨fun a o e=>hk a o (hb0 e) (X.W.base a o e),fun a ha=>⟨(X.W.fresh a ha).1,let ⟨o,e⟩:=(X.W.fresh a ha).2;⟨o,hk _ _ (hMc ha) e⟩⟩,X.W.tabM,let ⟨ps,q1,q2,q3⟩:=X.W.tab;⟨ps,hk _ _ (hMc X.W.tabM) q1,q2,fun ps' cv q=>let ⟨cc,q4,q5,q6⟩:=q3 ps' cv q;⟨cc,q4,q5,kp.code q4 q6 q5⟩⟩,
   fun a q=>⟨(X.W.pool a q).1,(X.W.pool a q).2.1,(X.W.pool a q).2.2.keep fun o=>hk a o (hMc (X.W.pool a q).1)⟩⟩
 have F':=X.F.move (s':={s with heap:=h'}) (M':=M) (fun o=>hk _ o (hMc X.L)) (fun _ _ r=>r.kept kp) fun c v hm x=>⟨hm,kp.cell x hm⟩
 refine ⟨X.sub,X.M₀e,X.tab₀,X.base₀,X.src₀,X.L,X.L0,W',⟨X.F.kind,X.F.glob,X.F.bi,X.F.L,F'.ns,fun y j e q1 q2 c' q3=>?_,X.F.cd,X.F.lam⟩,X.st.upd1 (s₂:={s with heap:=h'}) hc0 rfl rfl hk,fun j ds q=>nosome hown (show σ.own=some (j,ds) from q),fun y j c' q1 q2 q3 q4=>?_,X.apart,
  fun p hp=>let ⟨a1,a2,a3,a4⟩:=X.pin p hp;⟨hk _ _ (hMc a2) a1,a2,a3,a4⟩⟩
 ·have q2:(if j=i then some d else getV σ.c j)=some e:=q2
  by_cases q:j=i
  ·rw [if_pos q] at q2
   obtain rfl:y=x:=encS_inj q1 (q▸hi)
   rw [←Option.some.inj (hc.symm.trans q3),←Option.some.inj q2]
   exact ⟨hcM,v,hc',hr.kept kp⟩
  ·rw [if_neg q] at q2
   exact F'.cl y j e q1 q2 c' q3
 ·have q4:(if j=i then some d else getV σ.c j)=none:=q4
  by_cases q:j=i
  ·rw [if_pos q] at q4;cases q4
  ·rw [if_neg q] at q4
   obtain ⟨⟨o,ho,hd⟩,h2,h3⟩:=X.cells y j c' q1 q2 q3 q4
   exact ⟨⟨o,hk _ _ (fun e=>q (Option.some.inj (q1.symm.trans ((congrArg encS (X.apart y x c' q2 hx q3 (e▸hc))).trans hi)))) ho,hd⟩,h2,h3⟩
theorem SF.poolSet {a:Addr}{h':Heap}(X:SF prog w fns h₀ src M₀ s₀ P env M σ s π) (hs:src=some a) (hL:∃ t1 t2,h'.IsList a #[.int π'.1 t1,.int π'.2 t2]) (hsb:Heap.SameBut a s.heap h'):SF prog w fns h₀ src M₀ s₀ P env M σ {s with heap:=h'} π':=by
 have ha:a∈M:=(X.W.pool a hs).1
 have hk:∀ b o,b≠a→s.heap.get? b=some o→h'.get? b=some o:=fun b o q e=>hsb.extBut b o q e
 have kp:Kept M s.heap h':=kept_upd (s':={s with heap:=h'}) ha hk
 have hne:∀ {b},s₀.heap.get? b=none→b≠a:=fun e q=>X.nosrc e (q▸hs)
 have hat:lamTab≠a:=(X.W.pool a hs).2.1.symm
 refine X.move (s':={s with heap:=h'}) X.sub X.L ⟨fun b o e=>hk b o (fun q=>nosome (X.W.fresh b (q▸ha)).1 e) (X.W.base b o e),fun b hb=>⟨(X.W.fresh b hb).1,if q:b=a then q▸(let ⟨t1,t2,hl⟩:=hL;list_at hl) else let ⟨o,e⟩:=(X.W.fresh b hb).2;⟨o,hk _ _ q e⟩⟩,X.W.tabM,
   X.W.tab.move (fun o=>hk _ o hat) (fun b o q e=>⟨q,hk b o (fun q2=>q (q2▸ha)) e⟩),fun b q=>Option.some.inj (hs.symm.trans q)▸⟨ha,hat.symm,hL⟩⟩
  (X.F.upd (s':={s with heap:=h'}) ha (hne X.L0) hk) (X.st.trans ⟨rfl,rfl,fun b o _ q e=>hk b o (fun q2=>q (q2▸hs)) e⟩) (fun i ds q=>(X.own i ds q).move (fun o=>hk _ o (hne X.L0)) (fun D o m e _ h=>⟨m,hk _ _ (hne e) h⟩) fun r=>r.kept kp) (fun _ q=>q)
  (fun b o q _ _ e=>⟨q,hk b o (fun q2=>q (q2▸ha)) e⟩) fun p _ q e _ h=>⟨q,hk _ _ (hne e) h⟩
theorem SF.congr {σ':Sg}(X:SF prog w fns h₀ src M₀ s₀ P env M σ s π) (hl:∀ i,getV σ'.l i=getV σ.l i) (hc:∀ i,getV σ'.c i=getV σ.c i) (ho:σ'.own=σ.own):SF prog w fns h₀ src M₀ s₀ P env M σ' s π:=
 X.move X.sub X.L X.W ⟨X.F.kind,X.F.glob,X.F.bi,X.F.L,let ⟨m,hn,hv⟩:=X.F.ns;⟨m,hn,fun y j d q1 q2=>hv y j d q1 ((hl j).symm.trans q2)⟩,fun y j d q1 q2=>X.F.cl y j d q1 ((hc j).symm.trans q2),X.F.cd,X.F.lam⟩ X.st
  (fun i ds q=>let ⟨y,D,vs,m,h1,h2,h3,h4,h5,h6,h7,h8,h9⟩:=X.own i ds (ho.symm.trans q);⟨y,D,vs,m,h1,h2,h3,h4,h5,h6,h7,h8,(hl i).trans h9⟩) (fun i q=>(hc i).symm.trans q) (fun _ _ q _ _ e=>⟨q,e⟩) fun _ _ q _ _ e=>⟨q,e⟩
end
section
variable {prog:Program}{w:World}{fns:List Nat}{h₀:Heap}{k:Nat}{K:Frag}{mg mb:Str→Option Value}{sc:Scope}
theorem sndS_append {e:Expr}{e':Ex}{x:Str}{xp apos pos pos':Pos}{i:Nat}(hx:sc.names.lookup x=some .local) (hi:encS x=some i) (hdb:(x==("__debug__":Str))=false) (H:SndE prog w fns h₀ k sc e e') (he:∀ t p,e≠.Starred t p) (hl:(apos.endLine==pos.line)=true):
  SndS prog w fns h₀ k sc (.Expr (.Call (.Attribute (.Name x xp) "append" apos) [e] [] pos) pos') (.append i e'):=by
 intro src M₀ M s₀ P env A s σ π kn kr hsc hA X h
 refine wpAny_Expr (Call_method1 rfl (by rw [starEach_one he];rfl) hl ?_) (by unfold interactive;rw [X.F.kind];rfl)
 obtain ⟨hown,h⟩:=chk_iff.mp h
 obtain ⟨ds,ho⟩:∃ ds,σ.own=some (i,ds):=by
  unfold ownIs at hown
  cases ho:σ.own with
  | none=>rw [ho] at hown;cases hown
  | some p=>rw [ho] at hown;exact ⟨p.2,by rw [nat_beq hown]⟩
 obtain ⟨y,Dl,vs,m,h1,h2,h3,h4,h5,h6,h7,h8,h9⟩:=X.own i ds ho
 obtain rfl:=encS_inj hi h1
 refine wpAny_Name (wpAny_loadName_local X.F.kind ((congrArg (fun sc:Scope=>sc.names.lookup x) hsc).trans hx) h2 h3 ?_) hdb
 obtain ⟨n0,e0⟩:=id h4
 refine ⟨"list","list.append",PySem.F.plainAttrs_list,PySem.F.slot_list_append,PySem.F.type_list_append,⟨_,e0,rfl⟩,fun a q=>by cases q;exact ⟨_,e0,rfl⟩,callWith_builtin rfl (evalArgs_plain (spliced_cons (wpAny_mono (H src M env A s _ π _ hsc hA X.W X.F h) (fun v s₁ p=>spliced_nil ?_) fun _ _ x=>x)))⟩
 clear h e0
 obtain ⟨d,π₁,q1,r1,st1,W1⟩:=p
 obtain ⟨hlen,q1⟩:ds.length≤strBound∧kn ⟨σ.l,σ.c,some (i,ds++[d])⟩ π₁:=by
  unfold appW at q1
  rw [ho] at q1
  exact chkL_iff.mp (chk_iff.mp q1).2
 have keep:∀ {a o},s₀.heap.get? a=none→s.heap.get? a=some o→s₁.heap.get? a=some o:=fun e=>st1.keep _ _ (X.notab e) (X.nosrc e)
 have h4':=plain_keep h4 fun o=>keep h7
 exact wpAny_list_append_plain h4' (fun h' hL' hs=>⟨_,_,_,q1,(X.step st1 W1).push h1 (ns_keep h2 fun o=>keep X.L0) h3 h4' (h5.kept (X.W.kept st1)) h6 h7 h8 h9 r1 hL' hs,(Tr.step X.W st1).trans (Tr.of (fun _ h=>.inl h) fun a o hm e=>hs.extBut a o (fun q=>hm (q▸h6)) e)⟩) (by rw [size_of h5];exact Nat.le_trans hlen sizeLine_big)
theorem isPoolD_inv {d:D}(h:isPoolD d):d=.pool:=by
 cases d with
 | pool=>rfl
 | _=>exact h.elim
theorem swaps_sub (e a b:Expr) (p:Pos) (l:Nat) (env:PySem.Env):swapsWith e (some (.Subscript a b p)) l env=pure false:=by cases e <;> rfl
theorem sndS_pool {e:Expr}{e':Ex}{j:Int}{jn:Nat}{ck xp cp tp pos:_}{x:Str}(hj:j=jn) (hjn:jn=0∨jn=1) (hx:compN sc x=some (.loc 408397525705573)) (G:Gd prog w fns K mg mb h₀) (H:SndE prog w fns h₀ k sc e e'):
  SndS prog w fns h₀ k sc (.Assign [.Subscript (.Name x xp) (.Constant (.int j) ck cp) tp] e pos) (.pool jn e'):=by
 intro src M₀ M s₀ P env A s σ π kn kr hsc hA X h
 refine wpAny_Assign_Subscript (wpAny_mono (H src M env A s _ π _ hsc hA X.W X.F h) (fun v s₁ p=>?_) fun _ _ x=>x) (swaps_sub _ _ _ _ _ _)
 obtain ⟨d,π₁,q1,r1,st1,W1⟩:=p
 have X1:=X.step st1 W1
 obtain ⟨pd,hg,hp,q1⟩:=onD_inv q1
 obtain rfl:=isPoolD_inv hp
 refine wpAny_mono (snd_name G hx src M env A s₁ ⟨σ.l,σ.c⟩ π₁ (fun d π=>d=.pool∧π=π₁) hsc hA W1 X1.F (show onD (getV σ.l 408397525705573) _ by rw [hg];exact ⟨rfl,rfl⟩)) (fun pv s₂ p=>?_) fun _ _ x=>x
 obtain ⟨pd,π₂,⟨rfl,rfl⟩,r2,st2,W2⟩:=p
 obtain ⟨a,rfl,hs⟩:=r2.pool_inv
 have X2:=X1.step st2 W2
 refine wpAny_Constant_int ?_
 obtain ⟨ha,hat,t1,t2,hl⟩:=X2.W.pool a hs
 have X3:SF prog w fns h₀ src M₀ s₀ P env M σ {s₂ with toks:=s₂.toks+1} π₂:=X2.step (Step.toks _ _) (X2.W.toks _)
 have tr:∀ h',Heap.SameBut a s₂.heap h'→∀ t,Tr M s M {s₂ with heap:=h',toks:=t}:=fun h' hs' t=>((Tr.step X.W st1).trans (Tr.step X1.W st2)).trans (Tr.of (fun _ h=>.inl h) fun b o hm e=>hs'.extBut b o (fun q=>hm (q▸ha)) e)
 obtain ⟨z,rfl,q2⟩:=onI_inv q1
 obtain ⟨tn,rfl⟩:=r1.int_inv
 subst hj
 clear h H q1 hg hp X1 X2 st1 st2 W1 W2
 rcases hjn with rfl | rfl
 ·exact wpAny_setItem_list (items:=#[.int π₂.1 t1,.int π₂.2 t2]) hl (by lia) (by decide) (by simp) fun h' hl' hs'=>⟨_,_,_,q2,X3.poolSet hs (π':=(_,π₂.2)) ⟨tn,t2,by simpa using hl'⟩ hs',tr h' hs' _⟩
 ·exact wpAny_setItem_list (items:=#[.int π₂.1 t1,.int π₂.2 t2]) hl (by lia) (by decide) (by simp) fun h' hl' hs'=>⟨_,_,_,q2,X3.poolSet hs (π':=(π₂.1,_)) ⟨t1,tn,by simpa using hl'⟩ hs',tr h' hs' _⟩
end
structure Sto where
 x:Str
 p:Pos
 b:Bool
 i:Nat
 v:Value
 d:D
noncomputable def Sg.put (σ:Sg) (a:Sto):Sg:=if a.b=true then σ.setC a.i a.d else σ.set a.i a.d
noncomputable def setL (σ:Sg):List Sto→Sg
 | []=>σ
 | a::r=>setL (σ.put a) r
theorem put_own {σ:Sg}(h:σ.own=none) (a:Sto):(σ.put a).own=none:=by
 unfold Sg.put;split
 ·exact h
 ·simp [Sg.set,h]
theorem setL_own {l:List Sto}:∀ {σ:Sg},σ.own=none→(setL σ l).own=none:=by
 induction l with
 | nil=>intro σ h;exact h
 | cons a r ih=>intro σ h;exact ih (put_own h a)
theorem setL_append (l r:List Sto):∀ (σ:Sg),setL σ (l++r)=setL (setL σ l) r:=by
 induction l with
 | nil=>intro σ;rfl
 | cons a l ih=>intro σ;exact ih _
theorem put_l {σ:Sg}{a:Sto}{i:Nat}:getV (σ.put a).l i=if a.b=false∧i=a.i then some a.d else getV σ.l i:=by
 unfold Sg.put
 cases a.b <;> simp [Sg.setC,Sg.set,getV]
theorem put_c {σ:Sg}{a:Sto}{i:Nat}:getV (σ.put a).c i=if a.b=true∧i=a.i then some a.d else getV σ.c i:=by
 unfold Sg.put
 cases a.b <;> simp [Sg.setC,Sg.set,getV]
noncomputable def Sg.vars (σ:Sg) (b:Bool):List (Nat×D):=if b=true then σ.c else σ.l
theorem put_v {σ:Sg}{a:Sto}{i:Nat}{b:Bool}:getV ((σ.put a).vars b) i=if a.b=b∧i=a.i then some a.d else getV (σ.vars b) i:=by
 cases b with
 | true=>exact put_c
 | false=>exact put_l
theorem setL_v {b:Bool}{l:List Sto}:∀ {σ:Sg},(l.map (·.i)).Nodup→(∀ a∈l,a.b=b→getV ((setL σ l).vars b) a.i=some a.d)∧∀ i,(∀ a∈l,a.b=b→a.i≠i)→getV ((setL σ l).vars b) i=getV (σ.vars b) i:=by
 induction l with
 | nil=>exact fun _=>⟨fun _ h=>absurd h List.not_mem_nil,fun _ _=>rfl⟩
 | cons a r ih=>
  intro σ hn
  rw [List.map_cons,List.nodup_cons] at hn
  obtain ⟨h1,h2⟩:=ih (σ:=σ.put a) hn.2
  refine ⟨List.forall_mem_cons.mpr ⟨fun q=>?_,h1⟩,fun i hi=>?_⟩
  ·exact (h2 _ fun c hc _ e=>hn.1 (by rw [←e];exact List.mem_map_of_mem hc)).trans (put_v.trans (if_pos ⟨q,rfl⟩))
  ·exact (h2 i fun b hb=>hi b (List.mem_cons_of_mem _ hb)).trans (put_v.trans (if_neg fun q=>hi a List.mem_cons_self q.1 q.2.symm))
theorem nodup_rev {l:List Sto}(hn:(l.map (·.i)).Nodup):(l.reverse.map (·.i)).Nodup:=by rw [List.map_reverse];exact List.pairwise_reverse.mpr (hn.imp fun h=>Ne.symm h)
theorem setL_rev_v {l:List Sto}(σ:Sg) (b:Bool) (hn:(l.map (·.i)).Nodup) (i:Nat):getV ((setL σ l.reverse).vars b) i=getV ((setL σ l).vars b) i:=by
 have hn':=nodup_rev hn
 by_cases h:∃ a∈l,a.b=b∧a.i=i
 ·obtain ⟨a,h1,h2,rfl⟩:=h
  rw [(setL_v (σ:=σ) hn).1 a h1 h2,(setL_v (σ:=σ) hn').1 a (List.mem_reverse.mpr h1) h2]
 ·have h':∀ a∈l,a.b=b→a.i≠i:=fun a h1 h2 h3=>h ⟨a,h1,h2,h3⟩
  rw [(setL_v (σ:=σ) hn).2 i h',(setL_v (σ:=σ) hn').2 i fun a ha=>h' a (List.mem_reverse.mp ha)]
theorem setL_rev {l:List Sto}(σ:Sg) (hn:(l.map (·.i)).Nodup):(∀ i,getV (setL σ l.reverse).l i=getV (setL σ l).l i)∧∀ i,getV (setL σ l.reverse).c i=getV (setL σ l).c i:=
 ⟨setL_rev_v σ false hn,setL_rev_v σ true hn⟩
section
variable {prog:Program}{w:World}{fns:List Nat}{h₀:Heap}{src:Option Addr}{M₀ M:List Addr}{P:List (Addr×Obj)}{s₀:Shared}{env:PySem.Env}{π:Pi}{A:Around}
noncomputable def kindB (b:Bool):NameKind:=if b=true then .cell else .local
noncomputable def Sto.ok (sc:Scope) (a:Sto):Prop:=sc.names.lookup a.x=some (kindB a.b)∧encS a.x=some a.i
theorem mixStores (F:Str→Pos→Value→Sem Unit) (hF:∀ x p v (Q:Unit→Shared→Prop) E s,wpAny (model prog w) A (storeName env x v) Q E s→wpAny (model prog w) A (F x p v) Q E s){E:Value→Shared→Prop}{Q:Unit→Shared→Prop}{l:List Sto}:
  ∀ {s:Shared}{σ:Sg},SF prog w fns h₀ src M₀ s₀ P env M σ s π→σ.own=none→(∀ a∈l,a.ok env.scope)→(l.map (·.i)).Nodup→
   (∀ a∈l,a.b=true→getV σ.c a.i=none)→(∀ a∈l,Rep prog w fns src M s.heap a.v a.d)→(∀ s',SF prog w fns h₀ src M₀ s₀ P env M (setL σ l) s' π→Tr M s M s'→Q () s')→
   wpAny (model prog w) A (assignInOrder (l.map fun a=>F a.x a.p) (l.map (·.v))) Q E s:=by
 induction l with
 | nil=>exact fun X _ _ _ _ _ hQ=>assignInOrder_nil (hQ _ X (Tr.refl M _))
 | cons a l ih=>
  intro s σ X ho hx hn hc hr hQ
  obtain ⟨⟨h1,h2⟩,hx⟩:=List.forall_mem_cons.mp hx
  obtain ⟨hr1,hr⟩:=List.forall_mem_cons.mp hr
  obtain ⟨hc1,hc⟩:=List.forall_mem_cons.mp hc
  rw [List.map_cons,List.nodup_cons] at hn
  have next:∀ s',SF prog w fns h₀ src M₀ s₀ P env M (σ.put a) s' π→Tr M s M s'→wpAny (model prog w) A (assignInOrder (l.map fun a=>F a.x a.p) (l.map (·.v))) Q E s':=fun s' X' t'=>
   ih X' (put_own ho a) hx hn.2 (fun b hb q=>put_c.trans ((if_neg fun (e:a.b=true∧b.i=a.i)=>hn.1 (by rw [←e.2];exact List.mem_map_of_mem hb)).trans (hc b hb q))) (fun b hb=>(hr b hb).kept t'.kept) fun s'' X'' t''=>hQ s'' X'' (t'.trans t'')
  refine assignInOrder_cons (hF _ _ _ _ _ _ ?_)
  unfold Sg.put at next
  cases hb:a.b with
  | true=>
   rw [hb] at h1 next
   exact X.storeCell h1 h2 (hc1 hb) ho hr1 next
  | false=>
   rw [hb] at h1 next
   exact X.store h1 h2 hr1 fun s' X' hk=>next s' X' (Tr.of (fun _ h=>.inl h) fun b o hm e=>hk b o (fun q=>hm (q▸X.L)) e)
end
theorem mixK_inv {o:Option NameKind}{b:Bool}(h:mixK o=some b):o=some (kindB b):=by
 cases o with
 | none=>cases h
 | some k=>cases k with
  | «local»=>cases h;rfl
  | cell=>cases h;rfl
  | _=>cases h
theorem mixN_data {sc:Scope}{e:Expr}{x:Bool×Nat}(h:mixN sc e=some x):∃ y p,e=.Name y p∧sc.names.lookup y=some (kindB x.1)∧encS y=some x.2:=by
 replace h:=bindI h;obtain ⟨q,h1,h⟩:=h
 replace h:=bindI h;obtain ⟨b,h2,h⟩:=h
 replace h:=mapI h;obtain ⟨i,h3,h⟩:=h
 subst h
 exact ⟨q.1,q.2,eName_inv h1,mixK_inv h2,h3⟩
theorem mixNs_inv {sc:Scope}{e:Expr}{es:List Expr}{xs:List (Bool×Nat)}(h:mixNs sc (e::es)=some xs):∃ x ys,mixN sc e=some x∧mixNs sc es=some ys∧xs=x::ys:=by
 replace h:=bindI h;obtain ⟨x,h1,h⟩:=h
 replace h:=mapI h;obtain ⟨ys,h2,h⟩:=h
 exact ⟨x,ys,h1,h2,h.symm⟩
inductive SideI (sc:Scope) (es:List Expr) (xs:List (Bool×Nat)) (vs:List Value) (ds:List D):Prop
 | mk (l:List Sto) (he:es=l.map (fun a=>Expr.Name a.x a.p)) (hv:vs=l.map (·.v)) (hd:ds=l.map (·.d)) (hx:xs=l.map (fun a=>(a.b,a.i))) (ok:∀ a∈l,a.ok sc)
theorem mixNs_data {sc:Scope}{es:List Expr}:∀ {xs:List (Bool×Nat)},mixNs sc es=some xs→∀ (vs:List Value) (ds:List D),vs.length=ds.length→xs.length=ds.length→SideI sc es xs vs ds:=by
 induction es with
 | nil=>
  intro xs h vs ds h1 h2
  cases h
  obtain rfl:=List.length_eq_zero_iff.mp h2.symm
  obtain rfl:=List.length_eq_zero_iff.mp h1
  exact ⟨[],rfl,rfl,rfl,rfl,fun _ q=>absurd q List.not_mem_nil⟩
 | cons e es ih=>
  intro xs h vs ds h1 h2
  obtain ⟨i,is,hi,his,rfl⟩:=mixNs_inv h
  cases ds with
  | nil=>cases h2
  | cons d ds=>cases vs with
   | nil=>cases h1
   | cons v vs=>
    obtain ⟨y,p,e1,q1,q2⟩:=mixN_data hi
    obtain ⟨l,e2,e3,e4,e5,q3⟩:=ih his vs ds (Nat.succ.inj h1) (Nat.succ.inj h2)
    exact ⟨⟨y,p,i.1,i.2,v,d⟩::l,by rw [e1,e2];rfl,congrArg (List.cons v) e3,congrArg (List.cons d) e4,congrArg (List.cons i) e5,List.forall_mem_cons.mpr ⟨⟨q1,q2⟩,q3⟩⟩
theorem setMix_cons {σ σ':Sg}{b:Bool}{x:Nat}{xs:List (Bool×Nat)}{d:D}{ds:List D}(h:σ.setMix ((b,x)::xs) (d::ds)=some σ'):(b=true→getV σ.c x=none)∧∃ σ2,σ.setMix xs ds=some σ2∧(if b=true then σ2.setC x d else σ2.set x d)=σ':=by
 have h:(if (b&&(getV σ.c x).isSome)=true then none else (σ.setMix xs ds).map fun σ=>if b=true then σ.setC x d else σ.set x d)=some σ':=h
 cases hc:b&&(getV σ.c x).isSome with
 | true=>rw [hc] at h;cases h
 | false=>
  rw [hc] at h
  exact ⟨fun q=>Option.not_isSome_iff_eq_none.mp fun z=>(by rw [q,z] at hc;cases hc),mapI h⟩
theorem setMix_len {σ:Sg}{xs:List (Bool×Nat)}:∀ {ds:List D}{σ':Sg},σ.setMix xs ds=some σ'→xs.length=ds.length:=by
 induction xs with
 | nil=>intro ds σ' h;cases ds with
  | nil=>rfl
  | cons _ _=>cases h
 | cons x xs ih=>intro ds σ' h;cases ds with
  | nil=>cases h
  | cons d ds=>
   obtain ⟨_,σ2,h2,_⟩:=setMix_cons h
   exact congrArg Nat.succ (ih h2)
theorem setMix_setL {σ:Sg}{l:List Sto}:∀ {σ':Sg},σ.setMix (l.map fun a=>(a.b,a.i)) (l.map (·.d))=some σ'→σ'=setL σ l.reverse∧∀ a∈l,a.b=true→getV σ.c a.i=none:=by
 induction l with
 | nil=>intro σ' h;exact ⟨(Option.some.inj h).symm,fun _ q=>absurd q List.not_mem_nil⟩
 | cons a l ih=>
  intro σ' h
  obtain ⟨h1,σ2,h2,h3⟩:=setMix_cons h
  obtain ⟨h4,h5⟩:=ih h2
  refine ⟨?_,List.forall_mem_cons.mpr ⟨h1,h5⟩⟩
  rw [List.reverse_cons,setL_append,←h4]
  exact h3.symm
noncomputable def nameOf:Expr→Str
 | .Name x _=>x
 | _=>""
theorem names_all {f:Expr→Option Str}{es:List Expr}(hf:∀ e∈es,f e=none∨f e=some (nameOf e)):(es.filterMap f).length≤es.length∧((es.filterMap f).length=es.length→es.filterMap f=es.map nameOf):=by
 induction es with
 | nil=>exact ⟨Nat.le_refl _,fun _=>rfl⟩
 | cons e es ih=>
  obtain ⟨h,hf⟩:=List.forall_mem_cons.mp hf
  obtain ⟨ih1,ih2⟩:=ih hf
  rcases h with h | h
  ·rw [List.filterMap_cons_none h];exact ⟨Nat.le_succ_of_le ih1,fun q=>absurd (Nat.le_trans (Nat.le_of_eq q.symm) ih1) (Nat.not_succ_le_self _)⟩
  ·rw [List.filterMap_cons_some h];exact ⟨Nat.succ_le_succ ih1,fun q=>congrArg (List.cons _) (ih2 (Nat.succ.inj q))⟩
theorem five_ifs {α:Type}(c1 c2 c3 c4:Bool){n u y:α}:(if c1=true then n else if c2=true then n else if c3=true then n else if c4=true then n else if false=true then u else y)=n∨
  ((if c1=true then n else if c2=true then n else if c3=true then n else if c4=true then n else if false=true then u else y)=y∧c3=false):=by
 cases c1 <;> cases c2 <;> cases c3 <;> cases c4 <;> first | exact .inl rfl | exact .inr ⟨rfl,rfl⟩
noncomputable def swapF (env:PySem.Env) (line:Nat):Expr→Option Str
 | .Name id pos=>if env.kindOf id==some .local&&pos.line==line then some id else none
 | _=>none
theorem swap_other {ts:List Expr}{k:_}{tp:Pos}{v:Expr}{env:PySem.Env}(h:v.ctorIdx≠25):swappedStores [.Tuple ts k tp] v env=pure none:=by
 cases v <;> first | rfl | exact absurd rfl h
theorem swapped_data {es:List Expr}{k:_}{tp:Pos}{v:Expr}{env:PySem.Env}(hn:∀ e∈es,∃ x p,e=.Name x p) (hv:tupOk v=true):
  swappedStores [.Tuple es k tp] v env=pure none∨swappedStores [.Tuple es k tp] v env=pure (some (es.map nameOf)):=by
 unfold tupOk at hv
 cases hq:eTuple v with
 | none=>exact .inl (swap_other (ctor_none hq))
 | some q=>
  rw [hq] at hv
  obtain ⟨vs,a,b⟩:=q
  obtain rfl:=eTuple_inv hq
  have hc:vs.all (constantsAlone 8)=false:=bnot hv
  have e:swappedStores [.Tuple es k tp] (.Tuple vs a b) env=if (!(es.length==2||es.length==3)||vs.length != es.length||env.blockKind != .function)=true then pure none else
   if (vs.any fun | .Starred ..=>true | _=>false)=true then pure none else
   if ((es.filterMap (swapF env ((es.head?.map (·.pos.line)).getD 0))).length != es.length||(es.filterMap (swapF env ((es.head?.map (·.pos.line)).getD 0))).eraseDups.length != (es.filterMap (swapF env ((es.head?.map (·.pos.line)).getD 0))).length)=true then pure none else
   if vs.all (foldedForSure 8)=true then pure none else if vs.all (constantsAlone 8)=true then (do (unsupported "assign.tuple-of-constant-expressions:order-of-the-stores":Sem PUnit);pure (some (es.filterMap (swapF env ((es.head?.map (·.pos.line)).getD 0))))) else pure (some (es.filterMap (swapF env ((es.head?.map (·.pos.line)).getD 0)))):=rfl
  rw [e,hc]
  refine (five_ifs _ _ _ _).imp id fun ⟨h1,h2⟩=>h1.trans (congrArg (fun z=>pure (some z)) ((names_all fun e he=>?_).2 (eq_of_beq (bne_eq_false_iff_eq.mp (bor h2).1▸beq_self_eq_true _))))
  obtain ⟨x,p,rfl⟩:=hn e he
  cases hb:(env.kindOf x==some .local&&p.line==(es.head?.map (·.pos.line)).getD 0) with
  | true=>right;show (if _=true then _ else _)=_;rw [hb];rfl
  | false=>left;show (if _=true then _ else _)=_;rw [hb];rfl
theorem mixNs_names {sc:Scope}{es:List Expr}:∀ {xs:List (Bool×Nat)},mixNs sc es=some xs→∀ e∈es,∃ x p,e=.Name x p:=by
 induction es with
 | nil=>exact fun _ _ q=>absurd q List.not_mem_nil
 | cons e es ih=>
  intro xs h
  obtain ⟨i,is,hi,his,_⟩:=mixNs_inv h
  obtain ⟨y,p,e1,_⟩:=mixN_data hi
  exact List.forall_mem_cons.mpr ⟨⟨y,p,e1⟩,ih his⟩
theorem swaps_tup (es k p) (e:Expr) (l:Nat) (env:PySem.Env):swapsWithSole [.Tuple es k p] e l env=pure false:=by cases e <;> rfl
theorem each_sto (env:PySem.Env) (l:List Sto):assignEach (l.map fun a=>Expr.Name a.x a.p) env=l.map fun a=>(false,assign (.Name a.x a.p) env):=by
 induction l with
 | nil=>rfl
 | cons a l ih=>exact congrArg (List.cons _) ih
theorem no_sto (env:PySem.Env) (l:List Sto):(l.map fun a=>(false,assign (.Name a.x a.p) env)).findIdx? (·.1)=none:=by
 rw [List.findIdx?_eq_none_iff]
 intro y hy
 obtain ⟨e,_,rfl⟩:=List.mem_map.mp hy
 rfl
section
variable {prog:Program}{w:World}{fns:List Nat}{h₀:Heap}{k:Nat}{K:Frag}{mg mb:Str→Option Value}{sc:Scope}{src:Option Addr}{M₀ M:List Addr}{s₀:Shared}{P:List (Addr×Obj)}{env:PySem.Env}{A:Around}{s s₁:Shared}{σ:Sg}{π:Pi}{kn:Sg→Pi→Prop}{kr:D→Pi→Prop}
theorem reps_of {h:Heap}{l:List Sto}(hr:RepL prog w fns src M h (l.map (·.v)) (l.map (·.d))):∀ a∈l,Rep prog w fns src M h a.v a.d:=by
 induction l with
 | nil=>exact fun _ q=>absurd q List.not_mem_nil
 | cons b l ih=>
  obtain ⟨v,us,e,hv,hr⟩:=RepL.cons_inv hr
  cases e
  exact List.forall_mem_cons.mpr ⟨hv,ih hr⟩
inductive MixP (prog:Program) (w:World) (fns:List Nat) (h₀:Heap) (src:Option Addr) (M₀ M:List Addr) (s₀:Shared) (P:List (Addr×Obj)) (env:PySem.Env) (s:Shared) (σ:Sg) (kn:Sg→Pi→Prop) (es:List Expr) (v:Value) (s₁:Shared):Prop
 | mk (a:Addr) (vs:Array Value) (l:List Sto) (π₁:Pi) (hv:v=.ref a) (ht:IsTup s₁.heap a vs) (he:es=l.map fun a=>Expr.Name a.x a.p) (hvs:vs.toList=l.map (·.v)) (ok:∀ a∈l,a.ok env.scope) (hn:(l.map (·.i)).Nodup) (hr:∀ a∈l,Rep prog w fns src M s₁.heap a.v a.d)
  (ho:σ.own=none) (hc:∀ a∈l,a.b=true→getV σ.c a.i=none) (hk:kn (setL σ l.reverse) π₁) (X:SF prog w fns h₀ src M₀ s₀ P env M σ s₁ π₁) (t:Tr M s M s₁)
theorem mixP_of {es:List Expr}{xs:List (Bool×Nat)}{v:Value}(hxs:mixNs env.scope es=some xs) (hnd:(xs.map (·.2)).Nodup) (X:SF prog w fns h₀ src M₀ s₀ P env M σ s π) (p:Post prog w fns h₀ src M s (fun d π=>mixW σ xs d fun σ=>kn σ π) v s₁):
  MixP prog w fns h₀ src M₀ M s₀ P env s σ kn es v s₁:=by
 obtain ⟨d,π₁,q1,r1,st1,W1⟩:=p
 obtain ⟨ho,q2⟩:=onN_inv q1
 obtain ⟨ds,hd,q3⟩:=onD_inv q2
 obtain ⟨σ',hσ,q4⟩:=onD_inv q3
 rw [asT_inv hd] at r1
 obtain ⟨a,vs,hv,ht,hm,hr⟩:=r1.tup_inv
 obtain ⟨l,e1,e2,e3,e4,ok⟩:=mixNs_data hxs vs.toList ds hr.length (setMix_len hσ)
 rw [e3,e4] at hσ
 obtain ⟨e5,hc⟩:=setMix_setL hσ
 rw [e2,e3] at hr
 rw [e4,List.map_map] at hnd
 rw [e5] at q4
 exact ⟨a,vs,l,π₁,hv,ht,e1,e2,ok,hnd,reps_of hr,ho,hc,q4,X.step st1 W1,Tr.step X.W st1⟩
theorem sndS_mix {es:List Expr} {kk tp pos}{e:Expr}{e':Ex}{xs:List (Bool×Nat)}(hxs:mixNs sc es=some xs) (hnd:(xs.map (·.2)).Nodup) (ht:tupOk e=true) (H:SndE prog w fns h₀ k sc e e'):
  SndS prog w fns h₀ k sc (.Assign [.Tuple es kk tp] e pos) (.assignT xs e'):=by
 intro src M₀ M s₀ P env A s σ π kn kr hsc hA X h
 have h':wpAny (model prog w) A (eval e env) (MixP prog w fns h₀ src M₀ M s₀ P env s σ kn es) (fun _ _=>False) s:=wpAny_mono (H src M env A s _ π _ hsc hA X.W X.F h) (fun v s₁ p=>mixP_of (by rw [hsc];exact hxs) hnd X p) fun _ _ x=>x
 clear h H
 have grow:∀ {s₁:Shared}{h':Heap} {π₁},SF prog w fns h₀ src M₀ s₀ P env M σ s₁ π₁→(∀ a o,s₁.heap.get? a=some o→h'.get? a=some o)→SF prog w fns h₀ src M₀ s₀ P env M σ {s₁ with heap:=h'} π₁:=fun X hk=>X.step ⟨rfl,rfl,fun a o _ _ e=>hk a o e⟩ (X.W.grow hk)
 rcases swapped_data (k:=kk) (tp:=tp) (env:=env) (mixNs_names hxs) ht with hw | hw
 ·refine Assign_Tuple (wpAny_mono h' (fun v s₁ p=>?_) fun _ _ x=>x) (swaps_tup _ _ _ _ _ _) hw
  obtain ⟨a,vs,l,π₁,rfl,htp,rfl,hvs,ok,hn,hr,ho,hc,hk,X1,t1⟩:=p
  refine assign_Tuple_tuple hA.handled htp (by rw [each_sto,List.length_map,←Array.length_toList,hvs,List.length_map]) (by rw [each_sto];exact no_sto env l) fun h' he=>?_
  rw [each_sto,List.map_map,hvs]
  have hk':∀ a o,s₁.heap.get? a=some o→h'.get? a=some o:=fun a o e=>he a o (Nat.ne_of_lt (Heap.lt_size e)) e
  obtain ⟨g1,g2⟩:=setL_rev σ hn
  exact mixStores (fun x p=>assign (.Name x p) env) (fun x p v Q E s h=>PyProof.Rows.assign_Name h) (grow X1 hk') ho ok hn hc (fun a ha=>(hr a ha).kept fun a o _ _ e=>hk' a o e) fun s₃ X3 t3=>
   ⟨_,π₁,M,hk,X3.congr g1 g2 ((setL_own ho).trans (setL_own ho).symm),(t1.trans (Tr.of (fun _ h=>.inl h) fun a o _ e=>hk' a o e)).trans t3⟩
 ·refine Assign_Tuple_swapped (wpAny_mono h' (fun v s₁ p=>?_) fun _ _ x=>x) (swaps_tup _ _ _ _ _ _) hw
  obtain ⟨a,vs,l,π₁,rfl,htp,rfl,hvs,ok,hn,hr,ho,hc,hk,X1,t1⟩:=p
  rw [List.length_map,List.length_map,←List.length_map (f:=(·.v)),←hvs,Array.length_toList]
  refine unpackItems_tuple hA.handled htp fun h' he=>?_
  have hk':∀ a o,s₁.heap.get? a=some o→h'.get? a=some o:=fun a o e=>he a o (Nat.ne_of_lt (Heap.lt_size e)) e
  rw [hvs,List.map_map,←List.map_reverse,←List.map_reverse,List.map_map]
  exact mixStores (fun x p=>bindName env x) (fun x p v Q E s h=>bindName_ h) (grow X1 hk') ho (fun a ha=>ok a (List.mem_reverse.mp ha)) (nodup_rev hn) (fun a ha=>hc a (List.mem_reverse.mp ha)) (fun a ha=>(hr a (List.mem_reverse.mp ha)).kept fun a o _ _ e=>hk' a o e) fun s₃ X3 t3=>
   ⟨_,π₁,M,hk,X3,(t1.trans (Tr.of (fun _ h=>.inl h) fun a o _ e=>hk' a o e)).trans t3⟩
end
section
variable {prog:Program}{w:World}{fns:List Nat}{src:Option Addr}{M M':List Addr}{h h':Heap}{I:Addr}{b:Bool}{As:List Addr}{ds:List D}
theorem IterAt.tr {s s':Shared}(x:IterAt prog w fns src M s.heap I b As ds) (t:Tr M s M' s') (hA:∀ a∈As,∀ o,s.heap.get? a=some o→s'.heap.get? a=some o):IterAt prog w fns src M' s'.heap I b As ds:=
 x.go hA t.kept fun a o hm e=>t.nin hm e
theorem IterAt.fields (x:IterAt prog w fns src M h I b As ds):∀ a∈As,∃ o vs,h.get? a=some o∧o.data=.fields vs:=by
 cases x with
 | lst l i vs eb eA hi hl hm hr=>exact eA▸all_one (let ⟨o,ho,_,hd⟩:=hi;⟨o,_,ho,hd⟩)
 | tup l i vs eb eA hi hl hm hr=>exact eA▸all_one (let ⟨o,ho,_,hd⟩:=hi;⟨o,_,ho,hd⟩)
 | rng x n eb eA hi ed=>exact eA▸all_one ⟨_,_,hi,rfl⟩
 | enm it l i vs es old eA he hi hl hm hne hr ed eb=>exact eA▸List.forall_mem_cons.mpr ⟨⟨_,_,he,rfl⟩,all_one (let ⟨o,ho,_,hd⟩:=hi;⟨o,_,ho,hd⟩)⟩
inductive PinsI (h:Heap) (As:List Addr):Prop
 | mk (PL:List (Addr×Obj)) (all:∀ a∈As,∃ p∈PL,p.1=a) (at':∀ p∈PL,p.1∈As∧h.get? p.1=some p.2∧∃ vs,p.2.data=.fields vs)
theorem pins_of (hf:∀ a∈As,∃ o vs,h.get? a=some o∧o.data=.fields vs):PinsI h As:=by
 induction As with
 | nil=>exact ⟨[],fun _ q=>absurd q List.not_mem_nil,fun _ q=>absurd q List.not_mem_nil⟩
 | cons a As ih=>
  obtain ⟨⟨o,vs,h3,h4⟩,hf⟩:=List.forall_mem_cons.mp hf
  obtain ⟨PL,h1,h2⟩:=ih hf
  exact ⟨(a,o)::PL,List.forall_mem_cons.mpr ⟨⟨_,List.mem_cons_self,rfl⟩,fun b hb=>let ⟨p,q1,q2⟩:=h1 b hb;⟨p,List.mem_cons_of_mem _ q1,q2⟩⟩,
   List.forall_mem_cons.mpr ⟨⟨List.mem_cons_self,h3,vs,h4⟩,fun p hp=>let ⟨q1,q2⟩:=h2 p hp;⟨List.mem_cons_of_mem _ q1,q2⟩⟩⟩
end
section
variable {prog:Program}{w:World}{fns:List Nat}{h₀:Heap}{src:Option Addr}{M₀ M:List Addr}{P:List (Addr×Obj)}{s₀ s s':Shared}{env:PySem.Env}{σ:Sg}{π π':Pi}
theorem SF.pins {P':List (Addr×Obj)}(X:SF prog w fns h₀ src M₀ s₀ P env M σ s π) (h:∀ p∈P',PinAt s₀ M s.heap p):SF prog w fns h₀ src M₀ s₀ P' env M σ s π:=
 ⟨X.sub,X.M₀e,X.tab₀,X.base₀,X.src₀,X.L,X.L0,X.W,X.F,X.st,X.own,X.cells,X.apart,h⟩
theorem setAll_l {l:List (Nat×D)}{i:Nat}:getV (σ.setAll l).l i=(getV l i).or (getV σ.l i):=by
 induction l with
 | nil=>rfl
 | cons p l ih=>
  show getV (p::(σ.setAll l).l) i=_
  rw [getV_cons,getV_cons]
  by_cases q:i=p.1
  ·rw [if_pos q,if_pos q];rfl
  ·rw [if_neg q,if_neg q];exact ih
theorem setAll_c {l:List (Nat×D)}:(σ.setAll l).c=σ.c:=by
 induction l with
 | nil=>rfl
 | cons p l ih=>exact ih
theorem set_own {i j:Nat}{d:D}{ds:List D}(h:(σ.set i d).own=some (j,ds)):i≠j∧σ.own=some (j,ds):=by
 unfold Sg.set at h
 cases ho:σ.own with
 | none=>rw [ho] at h;cases h
 | some p=>
  rw [ho] at h
  have q:(if i=p.1 then none else some p)=some (j,ds):=h
  by_cases hp:i=p.1
  ·rw [if_pos hp] at q;cases q
  ·rw [if_neg hp] at q;cases q;exact ⟨hp,rfl⟩
theorem setAll_own {l:List (Nat×D)}{j:Nat}{ds:List D}(h:(σ.setAll l).own=some (j,ds)):σ.own=some (j,ds)∧getV l j=none:=by
 induction l with
 | nil=>exact ⟨h,rfl⟩
 | cons p l ih=>
  obtain ⟨h1,h2⟩:=set_own h
  exact ⟨(ih h2).1,(if_neg (Ne.symm h1)).trans (ih h2).2⟩
theorem SF.setAll {l:List (Nat×D)}{m m':Str→Option Value}(X:SF prog w fns h₀ src M₀ s₀ P env M σ s π) (hn:s.heap.Ns env.locals m) (hn':s'.heap.Ns env.locals m') (N:NsRep prog w fns src M s.heap m m' l) (hk:∀ a o,a≠env.locals→s.heap.get? a=some o→s'.heap.get? a=some o) (hg:s'.gens=s.gens) (ho:s'.os=s.os):
  SF prog w fns h₀ src M₀ s₀ P env M (σ.setAll l) s' π:=by
 have kp:Kept M s.heap s'.heap:=kept_upd X.L hk
 refine X.move X.sub X.L (X.W.upd X.L (X.notab X.L0) (X.nosrc X.L0) hk (ns_at hn')) ⟨X.F.kind,X.F.glob,X.F.bi,X.F.L,⟨m',hn',fun y j d q1 q2=>?_⟩,fun y j d q1 q2 c q3=>?_,X.F.cd,X.F.lam⟩ (X.st.upd1 X.L0 hg ho hk) (fun j ds q=>?_) (fun i q=>by rw [setAll_c] at q;exact q)
  (fun a o q _ _ e=>⟨q,hk a o (fun q2=>q (q2▸X.L)) e⟩) fun p _ q _ hd e=>⟨q,hk _ _ (fun q2=>fields_ns (q2▸e) hd hn) e⟩
 ·rw [setAll_l] at q2
  cases hg:getV l j with
  | some d'=>
   rw [hg] at q2
   obtain ⟨v,q3,q4⟩:=N.rep y j d' q1 hg
   exact ⟨v,q3,Option.some.inj q2▸q4.kept kp⟩
  | none=>
   rw [hg] at q2
   obtain ⟨m₁,hn1,hv⟩:=X.F.ns
   obtain ⟨v,q3,q4⟩:=hv y j d q1 q2
   exact ⟨v,(N.other y j q1 hg).trans ((ns_inj hn hn1 y).trans q3),q4.kept kp⟩
 ·rw [setAll_c] at q2
  exact let ⟨h1,u,h2,h3⟩:=X.F.cl y j d q1 q2 c q3;⟨h1,u,kp.cell h2 h1,h3.kept kp⟩
 ·obtain ⟨q1,q2⟩:=setAll_own q
  obtain ⟨y,D,vs,m₁,g1,g2,g3,g4,g5,g6,g7,g8,g9⟩:=X.own j ds q1
  exact ⟨y,D,vs,m',g1,hn',(N.other y j g1 q2).trans ((ns_inj hn g2 y).trans g3),plain_keep g4 (hk _ · g8),g5.kept kp,g6,g7,g8,by rw [setAll_l,q2];exact g9⟩
end
section
variable {prog:Program}{w:World}{fns:List Nat}{h₀:Heap}{k:Nat}{K:Frag}{mg mb:Str→Option Value}{sc:Scope}
inductive WhJ (prog:Program) (w:World) (fns:List Nat) (h₀:Heap) (src:Option Addr) (M₀ M:List Addr) (s₀:Shared) (P:List (Addr×Obj)) (env:PySem.Env) (s:Shared) (k:Nat) (c':Ex) (body':Sts) (kn:Sg→Pi→Prop) (n:Nat) (s₁:Shared):Prop
 | mk (σ:Sg) (π:Pi) (M':List Addr) (h:wWhile (fun σ π k'=>wE c' (Ret FN k) σ.env π fun d π=>onB (truth d) fun b=>k' b π) (fun σ π k'=>wSs body' (Ret FN k) σ π k' fun _ _=>False) n σ π kn) (X:SF prog w fns h₀ src M₀ s₀ P env M' σ s₁ π) (t:Tr M s M' s₁)
theorem sndS_while {c:Expr}{c':Ex}{body:List Stmt}{body':Sts} {pos}(H:SndT prog w fns h₀ k sc c c') (Hb:SndSs prog w fns h₀ k sc body body'):SndS prog w fns h₀ k sc (.While c body [] pos) (.while c' body'):=by
 intro src M₀ M s₀ P env A s σ π kn kr hsc hA X h
 obtain ⟨n,h⟩:=h
 refine wpAny_While (codeAny_whileLoop (WhJ prog w fns h₀ src M₀ M s₀ P env s k c' body' kn) ?_ n ⟨σ,π,M,h,X,Tr.refl M s⟩)
 clear X h
 intro n s₁ J
 obtain ⟨σ,π,M',h,X,t⟩:=J
 cases n with
 | zero=>exact h.elim
 | succ n=>
  refine wpAny_mono (H src M' env A s₁ _ π (fun b π=>if b=true then _ else _) hsc hA X.W X.F h) (fun b s₂ p=>?_) fun _ _ x=>x.elim
  clear h
  obtain ⟨π₂,h2,st2,W2⟩:=p
  have X2:=X.step st2 W2
  have t2:=t.trans (Tr.step X.W st2)
  clear X st2 W2 t
  cases b with
  | false=>exact wpAny_execs_nil ⟨σ,π₂,M',h2,X2,t2⟩
  | true=>
   refine wpAny_mono (Hb src M₀ M' s₀ P env A s₂ σ π₂ _ _ hsc hA X2 h2) (fun fl s₃ p=>?_) fun _ _ x=>x.elim
   cases fl with
   | next=>
    obtain ⟨σ',π',M'',q1,q2,q3⟩:=p
    exact ⟨n,Nat.lt_succ_self n,σ',π',M'',q1,q2,t2.trans q3⟩
   | ret v=>obtain ⟨_,_,q,_⟩:=p;exact q.elim
   | cont=>exact p.elim
   | brk=>exact p.elim
section
variable {src:Option Addr}{M₀ M:List Addr}{s₀:Shared}{P:List (Addr×Obj)}{env:PySem.Env}{A:Around}{s:Shared}{one:Bool}{is:List Nat}{body:List Stmt}{body':Sts}{kn:Sg→Pi→Prop}{kr:D→Pi→Prop}{I:Addr}{b:Bool}{As:List Addr}{tg:Expr}
inductive ForJ (prog:Program) (w:World) (fns:List Nat) (h₀:Heap) (src:Option Addr) (M₀ M:List Addr) (s₀:Shared) (P:List (Addr×Obj)) (env:PySem.Env) (s:Shared) (k:Nat) (one:Bool) (is:List Nat) (body':Sts) (kn:Sg→Pi→Prop) (I:Addr) (b:Bool) (As:List Addr) (n:Nat) (s₄:Shared):Prop
 | mk (rest:List D) (σ:Sg) (π:Pi) (M':List Addr) (hn:n=rest.length) (h:wFor (fun d σ π k'=>tgW one is d fun l=>wSs body' (Ret FN k) (σ.setAll l) π k' fun _ _=>False) rest σ π kn) (X:SF prog w fns h₀ src M₀ s₀ P env M' σ s₄ π)
  (hI:IterAt prog w fns src M' s₄.heap I b As rest) (hA:∀ a∈As,a∈M') (t:Tr M s M' s₄)
structure ForA (s₀:Shared) (P:List (Addr×Obj)) (env:PySem.Env) (As:List Addr):Prop where
 new:∀ a∈As,s₀.heap.get? a=none
 pin:∀ p∈P,p.1∉As
 loc:env.locals∉As
theorem ForA.drop {σ:Sg}{π:Pi}{M':List Addr}{s₄:Shared}{ds:List D}(Y:ForA s₀ P env As) (X:SF prog w fns h₀ src M₀ s₀ P env M' σ s₄ π) (hI:IterAt prog w fns src M' s₄.heap I b As ds) (hAM:∀ a∈As,a∈M'):
  ∀ a∈As,a∈M'∧s₀.heap.get? a=none∧a≠env.locals∧(∀ vs,¬ s₄.heap.PlainList a vs)∧(∀ p∈P,p.1≠a):=fun a ha=>
 ⟨hAM a ha,Y.new a ha,fun q=>Y.loc (q▸ha),fun vs q=>let ⟨o,vs',e1,e2⟩:=hI.fields a ha;fields_seq e1 ⟨vs',e2⟩ q,fun p hp q=>Y.pin p hp (q▸ha)⟩
theorem for_last {σ:Sg}{π:Pi}{M':List Addr}{s₄:Shared}{R:Option Value→Shared→Prop}(Y:ForA s₀ P env As) (hh:A.handled=none) (h:kn σ π) (X:SF prog w fns h₀ src M₀ s₀ P env M' σ s₄ π) (hI:IterAt prog w fns src M' s₄.heap I b As []) (hAM:∀ a∈As,a∈M') (t:Tr M s M' s₄)
  (hR:∀ s₅,PostN prog w fns h₀ src M₀ s₀ P env M s kn s₅→R none s₅):wpAny (model prog w) A (pyNext (.ref I)) R (fun _ _=>False) s₄:=by
 refine iter_end hh hAM hI fun s₅ hk5 hg5 ho5=>hR s₅ ?_
 have hM5:∀ a∈M'.filter fun a=>!(As.contains a),a∈M'∧a∉As:=fun a ha=>⟨(List.mem_filter.mp ha).1,fun q=>Bool.false_ne_true ((bnot (List.mem_filter.mp ha).2).symm.trans (List.contains_iff_mem.mpr q))⟩
 exact ⟨σ,π,_,h,X.drop (Cs:=As) (fun a ha=>⟨(hM5 a ha).1,fun q=>absurd q (hM5 a ha).2⟩) (fun a ha q=>List.mem_filter.mpr ⟨ha,by rw [List.contains_eq_mem,decide_eq_false q];rfl⟩) (Y.drop X hI hAM) hk5 hg5 ho5,
  t.trans (Tr.of (fun a ha=>.inl (hM5 a ha).1) fun a o hm e=>hk5 a o (fun q=>hm (hAM a q)) e)⟩
theorem for_turn {σ:Sg}{π:Pi}{M':List Addr}{s₄:Shared}{d:D}{rest:List D}{n:Nat}{R:Option Value→Shared→Prop}(T:TgI sc tg one is) (hb:b=false) (hsc:env.scope=sc) (hA:Good A k) (Hb:SndSs prog w fns h₀ k sc body body') (Y:ForA s₀ P env As) (hn:n=(d::rest).length)
  (h:wFor (fun d σ π k'=>tgW one is d fun l=>wSs body' (Ret FN k) (σ.setAll l) π k' fun _ _=>False) (d::rest) σ π kn) (X:SF prog w fns h₀ src M₀ s₀ P env M' σ s₄ π) (hI:IterAt prog w fns src M' s₄.heap I b As (d::rest)) (hAM:∀ a∈As,a∈M') (t:Tr M s M' s₄)
  (hR:∀ v s₅,wpAny (model prog w) A (letOwnedTupleGo tg (.ref I) v) (fun _ s₂=>wpAny (model prog w) A (assign tg env v) (fun _ s₃=>wpAny (model prog w) A (execs body env)
   (fun fl s₇=>fl=.next∧∃ m,m < n∧ForJ prog w fns h₀ src M₀ M s₀ P env s k one is body' kn I b As m s₇) (fun _ _=>False) s₃) (fun _ _=>False) s₂) (fun _ _=>False) s₅→R (some v) s₅):
  wpAny (model prog w) A (pyNext (.ref I)) R (fun _ _=>False) s₄:=by
 obtain ⟨l,hbind,hw⟩:=onD_inv h
 have hCs:=Y.drop X hI hAM
 refine iter_next T.tgt (fun q=>nomatch hb.symm.trans q) hAM (fun a ha=>(X.W.fresh a ha).2) hI hR fun v s₅ hv hI5 hk5 he5 hg5 ho5=>?_
 have X5:SF prog w fns h₀ src M₀ s₀ P env M' σ s₅ π:=X.drop (Cs:=As) (fun a ha=>⟨ha,fun q=>he5 a q⟩) (fun a ha _=>ha) hCs hk5 hg5 ho5
 have t5:=t.trans (Tr.of (fun a ha=>.inl ha) fun a o hm e=>hk5 a o (fun q=>hm (hAM a q)) e:Tr M' s₄ M' s₅)
 clear h X hI t hR hk5 he5 hg5 ho5 hCs
 obtain ⟨m,hn5,_⟩:=X5.F.ns
 refine assign_tg T (fun x q=>hsc.symm▸q) X5.F.kind hA.handled hbind hv hn5 fun s₆ m6 hN6 N6 hk6 hg6 ho6=>?_
 have t56:Tr M' s₅ M' s₆:=Tr.of (fun _ h=>.inl h) fun a o hm e=>hk6 a o (fun q=>hm (q▸X5.L)) e
 have X6:SF prog w fns h₀ src M₀ s₀ P env M' (σ.setAll l) s₆ π:=X5.setAll hn5 hN6 N6 hk6 hg6 ho6
 have hI6:IterAt prog w fns src M' s₆.heap I b As rest:=hI5.tr t56 fun a ha o e=>hk6 a o (fun q=>Y.loc (q▸ha)) e
 have t6:=t5.trans t56
 clear X5 hI5 t5 t56 hn5 hN6 N6 hk6 hg6 ho6 hv
 obtain ⟨PL,p1,p2⟩:=pins_of hI6.fields
 have X7:SF prog w fns h₀ src M₀ s₀ (PL++P) env M' (σ.setAll l) s₆ π:=X6.pins fun p hp=>(List.mem_append.mp hp).elim (fun hp=>let ⟨q1,q2,q3⟩:=p2 p hp;⟨q2,hAM _ q1,Y.new _ q1,q3⟩) (X6.pin p)
 refine wpAny_mono (Hb src M₀ M' s₀ (PL++P) env A s₆ _ π _ _ hsc hA X7 hw) (fun fl s₇ p=>?_) fun _ _ x=>x
 clear hw X6 X7
 cases fl with
 | next=>
  obtain ⟨σ',π',M'',q1,q2,q3⟩:=p
  have hA7:∀ a∈As,a∈M''∧∀ o,s₆.heap.get? a=some o→s₇.heap.get? a=some o:=fun a ha=>
   let ⟨p,hp,e⟩:=p1 a ha
   let ⟨a1,a2,_⟩:=q2.pin p (List.mem_append_left _ hp)
   ⟨e▸a2,fun o e2=>e▸a1.trans ((p2 p hp).2.1.symm.trans (e▸e2))⟩
  exact ⟨rfl,rest.length,hn▸Nat.lt_succ_self _,rest,σ',π',M'',rfl,q1,q2.pins fun p hp=>q2.pin p (List.mem_append_right _ hp),hI6.tr q3 fun a ha=>(hA7 a ha).2,fun a ha=>(hA7 a ha).1,t6.trans q3⟩
 | ret v=>obtain ⟨_,_,q,_⟩:=p;exact q.elim
 | cont=>exact p.elim
 | brk=>exact p.elim
end
theorem sndS_for {tg it:Expr}{body:List Stmt}{body':Sts}{one:Bool}{is:List Nat}{kd:It}{it':Ex} {pos}(htg:tgN sc tg=some (one,is)) (hkd:kd≠.enm) (HI:SndI prog w fns h₀ k sc it kd it') (hset:∀ env x,foldedSetIterable it env x=pure x)
  (Hb:SndSs prog w fns h₀ k sc body body'):SndS prog w fns h₀ k sc (.For tg it body [] pos) (.for one is kd it' body'):=by
 intro src M₀ M s₀ P env A s σ π kn kr hsc hA X h
 refine wpAny_For (wpAny_mono (HI src M env A s _ π _ hsc hA X.W X.F h) (fun x s₁ p=>wpAny_mono p (fun itv s₂ p2=>?_) fun _ _ x=>x) fun _ _ x=>x) (hset env)
 clear h HI
 obtain ⟨I,b,As,ds,π₁,rfl,h1,hlen,hb,hit,W2,F2,st2,hAs⟩:=p2
 have hnew:∀ a∈As++M,a∈M∨s.heap.get? a=none:=fun a ha=>(List.mem_append.mp ha).elim (fun q=>.inr (hAs a q)) .inl
 have Y:ForA s₀ P env As:=⟨fun a ha=>Step.none_of X.W X.st (hAs a ha),fun p hp q=>nosome (hAs _ q) (X.pin p hp).1,fun q=>let ⟨m,hn,_⟩:=X.F.ns;let ⟨o,e⟩:=ns_at hn;nosome (hAs _ q) e⟩
 refine codeAny_forLoop_any (ForJ prog w fns h₀ src M₀ M s₀ P env s k one is body' kn I b As) ?_ ds.length
  ⟨ds,σ,π₁,As++M,rfl,h1,X.more2 st2 (fun a ha=>List.mem_append_right _ ha) hnew W2 F2,hit,fun a ha=>List.mem_append_left _ ha,Tr.of hnew fun a o hm e=>st2.keep a o (fun q=>hm (q▸X.W.tabM)) (fun q=>hm (X.W.pool a q).1) e⟩
 clear W2 F2 st2 hit h1 hlen X hnew
 intro n s₄ J
 obtain ⟨rest,σ,π,M',hn,h,X,hI,hAM,t⟩:=J
 cases rest with
 | nil=>
  refine wpAny_mono (for_last Y hA.handled h X hI hAM t (fun s₅ p=>?_)) (fun _ _ x=>x) fun _ _ x=>x.elim
  exact wpAny_execs_nil p
 | cons d rest=>
  refine wpAny_mono (for_turn (tgN_data htg) (Bool.eq_false_iff.mpr fun q=>hkd (hb q)) hsc hA Hb Y hn h X hI hAM t fun v s₅ hh=>?_) (fun _ _ x=>x) fun _ _ x=>x.elim
  refine wpAny_mono hh (fun _ s₆ h6=>wpAny_mono h6 (fun _ s₇ h7=>wpAny_mono h7 (fun fl s₈ h8=>?_) fun _ _ x=>x.elim) fun _ _ x=>x.elim) fun _ _ x=>x.elim
  obtain ⟨rfl,h8⟩:=h8
  exact h8
end
section
variable {prog:Program}{w:World}{fns:List Nat}{h₀:Heap}{k:Nat}{K:Frag}{mg mb:Str→Option Value}{sc:Scope}
section
variable {sc:Scope}{ow fz:List Nat}{m:Nat}
theorem compE_nm {x:Str}{xp:Pos}{e:Ex}(h:compE fns m sc (.Name x xp)=some e):compN sc x=some e:=by
 cases m with
 | zero=>cases h
 | succ m=>exact h
theorem asg_name (G:Gd prog w fns K mg mb h₀) (C:CallOk prog w fns h₀ K k) (LC:LamCallOk prog w fns h₀ k){t v:Expr}{pos:Pos}{st:St}(h:nameA ow fz sc (compE fns m) t v=some st):SndS prog w fns h₀ k sc (.Assign [t] v pos) st:=by
 replace h:=bindI h;obtain ⟨q,hm,h⟩:=h
 replace h:=bindI h;obtain ⟨v',hv,h⟩:=h
 replace h:=gdI h;obtain ⟨hb,h⟩:=h
 obtain ⟨y,p,rfl,e2,e3⟩:=mixN_data hm
 rw [show q.1=false from bnot hb] at e2
 cases hw:ow.contains q.2 with
 | true=>
  rw [hw] at h
  replace h:=gdI h;obtain ⟨ho,h⟩:=h
  obtain rfl:=Option.some.inj h
  exact sndS_own G C LC e2 e3 hv ho
 | false=>
  rw [hw] at h
  obtain rfl:=Option.some.inj h
  exact sndS_assign G C LC _ e2 e3 hv
theorem ok_tup (G:Gd prog w fns K mg mb h₀) (C:CallOk prog w fns h₀ K k) (LC:LamCallOk prog w fns h₀ k){es:List Expr}{n:_}{p:Pos}{v:Expr}{pos:Pos}{st:St}(h:tupA sc (compE fns m) es v=some st):SndS prog w fns h₀ k sc (.Assign [.Tuple es n p] v pos) st:=by
 replace h:=bindI h;obtain ⟨xs,hxs,h⟩:=h
 replace h:=gdI h;obtain ⟨hc,h⟩:=h
 replace h:=bindI h;obtain ⟨v',hv,h⟩:=h
 obtain rfl:=Option.some.inj h
 obtain ⟨h1,h2⟩:=band hc
 exact sndS_mix hxs (of_decide_eq_true h1) h2 (snd_all G C LC m sc _ _ hv).1
theorem locI_inv {e:Ex}{i:Nat}(h:locI e=some i):e=.loc i:=by
 unfold locI at h
 cases e with
 | loc j=>exact congrArg _ (Option.some.inj h)
 | _=>cases h
theorem poolJ_inv {j:Int}{v':Ex}{st:St}(h:poolJ j v'=some st):∃ jn:Nat,j=jn∧(jn=0∨jn=1)∧st=.pool jn v':=by
 cases j with
 | negSucc n=>cases h
 | ofNat n=>match n,h with
  | 0,h=>exact ⟨0,rfl,.inl rfl,(Option.some.inj h).symm⟩
  | 1,h=>exact ⟨1,rfl,.inr rfl,(Option.some.inj h).symm⟩
  | n+2,h=>cases h
theorem ok_pool (G:Gd prog w fns K mg mb h₀) (C:CallOk prog w fns h₀ K k) (LC:LamCallOk prog w fns h₀ k){a i:Expr}{tp:Pos}{v:Expr}{pos:Pos}{st:St}(h:poolA sc (compE fns m) a i v=some st):SndS prog w fns h₀ k sc (.Assign [.Subscript a i tp] v pos) st:=by
 replace h:=bindI h;obtain ⟨q,hq,h⟩:=h
 replace h:=bindI h;obtain ⟨j,hj,h⟩:=h
 replace h:=bindI h;obtain ⟨a',hx,h⟩:=h
 replace h:=bindI h;obtain ⟨l,hi,h⟩:=h
 replace h:=gdI h;obtain ⟨hb,h⟩:=h
 replace h:=bindI h;obtain ⟨v',hv,h⟩:=h
 obtain ⟨c,hc,hj⟩:=bindI hj
 obtain rfl:=eName_inv hq
 obtain rfl:=eConstant_inv hc
 rw [cInt_inv hj]
 obtain ⟨jn,e1,e2,rfl⟩:=poolJ_inv h
 have hx':=compE_nm hx
 rw [locI_inv hi,nat_beq hb] at hx'
 exact sndS_pool e1 e2 hx' G (snd_all G C LC m sc _ _ hv).1
theorem ok_asg (G:Gd prog w fns K mg mb h₀) (C:CallOk prog w fns h₀ K k) (LC:LamCallOk prog w fns h₀ k){ts:List Expr}{v:Expr}{pos:Pos}{st:St}(h:asgK ow fz sc (compE fns m) ts v=some st):SndS prog w fns h₀ k sc (.Assign ts v pos) st:=by
 replace h:=bindI h;obtain ⟨t,ht,h⟩:=h
 obtain rfl:=oneL_inv ht
 cases hn:eName t with
 | some q=>rw [hn] at h;exact asg_name G C LC h
 | none=>
  rw [hn] at h
  cases hu:eTuple t with
  | some q=>
   rw [hu] at h
   obtain rfl:=eTuple_inv hu
   exact ok_tup G C LC h
  | none=>
   rw [hu] at h
   replace h:=bindI h;obtain ⟨q,hq,h⟩:=h
   obtain rfl:=eSubscript_inv hq
   exact ok_pool G C LC h
theorem isNil {α:Type}{l:List α}(h:l.isEmpty=true):l=[]:=by
 cases l with
 | nil=>rfl
 | cons _ _=>cases h
theorem appC_inv {e:Expr}{q:AppC}(h:appC e=some q):e=.Call (.Attribute (.Name q.x q.p) q.m q.apos) [q.e] [] q.pos:=by
 obtain ⟨c,h1,h⟩:=bindI h
 obtain ⟨h2,h⟩:=gdI h
 obtain ⟨a,h3,h⟩:=bindI h
 obtain ⟨r,h4,h⟩:=bindI h
 obtain ⟨n,h5,h⟩:=bindI h
 obtain rfl:=Option.some.inj h
 rw [eCall_inv h1,eAttribute_inv h4,eName_inv h5,oneL_inv h3,isNil h2]
theorem ok_expr (G:Gd prog w fns K mg mb h₀) (C:CallOk prog w fns h₀ K k) (LC:LamCallOk prog w fns h₀ k){e:Expr}{pos:Pos}{st:St}(h:exprK sc (compE fns m) e=some st):SndS prog w fns h₀ k sc (.Expr e pos) st:=by
 replace h:=bindI h;obtain ⟨q,hq,h⟩:=h
 replace h:=gdI h;obtain ⟨hc,h⟩:=h
 replace h:=bindI h;obtain ⟨i,hi,h⟩:=h
 replace h:=bindI h;obtain ⟨es,hes,h⟩:=h
 replace h:=bindI h;obtain ⟨e',he,h⟩:=h
 obtain rfl:=Option.some.inj h
 rw [oneX_inv he] at hes
 obtain ⟨y,p,e1,e2,e3⟩:=locN_data hi
 cases e1
 obtain ⟨h1,h2⟩:=compL_one hes
 obtain ⟨h3,h5⟩:=band hc
 obtain ⟨h3,h4⟩:=band h3
 rw [appC_inv hq,eq_of_beq h3]
 exact sndS_append e2 e3 (bnot h4) (snd_all G C LC m sc _ _ h1).1 h2 h5
end
theorem snd_stmt (G:Gd prog w fns K mg mb h₀) (C:CallOk prog w fns h₀ K k) (LC:LamCallOk prog w fns h₀ k){ow fz:List Nat}{m:Nat}:∀ (n:Nat) (sc:Scope) (ps:Stmt) (st:St),compS fns ow fz (compE fns m) n sc ps=some st→SndS prog w fns h₀ k sc ps st:=by
 intro n
 induction n with
 | zero=>intro sc ps st h;cases h
 | succ n ih=>
  intro sc ps st h
  have IE:∀ pe e,compE fns m sc pe=some e→SndE prog w fns h₀ k sc pe e:=fun pe e h=>(snd_all G C LC m sc pe e h).1
  have IT:∀ pe e,compE fns m sc pe=some e→SndT prog w fns h₀ k sc pe e:=fun pe e h=>(snd_all G C LC m sc pe e h).2
  have IS:∀ {ps:List Stmt}{st:Sts},compS.compSs (compS fns ow fz (compE fns m) n sc) ps=some st→SndSs prog w fns h₀ k sc ps st:=fun h=>sndSs_of (fun ps st h=>ih sc ps st h) h
  cases ps with
  | Assign ts v pos=>exact ok_asg G C LC h
  | Expr e pos=>exact ok_expr G C LC h
  | Return e pos=>
   cases e with
   | none=>cases h
   | some e=>
    obtain ⟨e',he,h⟩:=mapI (x:=compE fns m sc e) h
    cases h;exact sndS_ret (IE _ _ he)
  | If c a b pos=>
   replace h:=bindI h;obtain ⟨c',hc,h⟩:=h
   replace h:=bindI h;obtain ⟨a',ha,h⟩:=h
   replace h:=bindI h;obtain ⟨b',hb,h⟩:=h
   cases h
   exact sndS_ite (IT _ _ hc) (IS ha) (IS hb)
  | For tg it body orelse pos=>
   cases orelse with
   | cons _ _=>cases h
   | nil=>
    replace h:=bindI h;obtain ⟨t,htg,h⟩:=h
    replace h:=bindI h;obtain ⟨q,hit,h⟩:=h
    replace h:=bindI h;obtain ⟨b',hb,h⟩:=h
    cases h
    obtain ⟨HI,hs,hn⟩:=snd_iter G IE (fun a a' ha=>compE_star ha) hit
    exact sndS_for htg (hn rfl) HI hs (IS hb)
  | While c body orelse pos=>
   cases orelse with
   | cons _ _=>cases h
   | nil=>
    replace h:=bindI h;obtain ⟨c',hc,h⟩:=h
    replace h:=bindI h;obtain ⟨b',hb,h⟩:=h
    cases h
    exact sndS_while (IT _ _ hc) (IS hb)
  | _=>cases h
end
theorem forIn_fold {α β:Type}{f:α→β→Sem (ForInStep β)}(g:α→β→β) (hf:∀ x s,f x s=pure (.yield (g x s))) (l:List α):∀ s:β,forIn l s f=(pure (l.foldl (fun s x=>g x s) s):Sem β):=by
 induction l with
 | nil=>exact fun s=>List.forIn_nil
 | cons x l ih=>exact fun s=>by rw [List.forIn_cons,hf,pure_bind];exact ih _
theorem lookup_cons_eq (x y:Str) (v:Value) (l:List (Str×Value)) (h:x=y):((y,v)::l).lookup x=some v:=by rw [List.lookup_cons,h,beq_self_eq_true]
theorem lookup_cons_ne (x y:Str) (v:Value) (l:List (Str×Value)) (h:x≠y):((y,v)::l).lookup x=l.lookup x:=by rw [List.lookup_cons,beq_eq_false_iff_ne.mpr h]
theorem lookup_app (l r:List (Str×Value)) (x:Str):(l++r).lookup x=(l.lookup x).or (r.lookup x):=by
 induction l with
 | nil=>rfl
 | cons a l ih=>
  obtain ⟨y,v⟩:=a
  by_cases h:x=y
  ·rw [List.cons_append,lookup_cons_eq _ _ _ _ h,lookup_cons_eq _ _ _ _ h];rfl
  ·rw [List.cons_append,lookup_cons_ne _ _ _ _ h,lookup_cons_ne _ _ _ _ h];exact ih
noncomputable def dflStep (a:Str×Value) (slots:List (Str×Value)):List (Str×Value):=if (slots.lookup a.1).isNone=true then slots++[a] else slots
theorem dflStep_lookup (a:Str×Value) (slots:List (Str×Value)) (x:Str):(dflStep a slots).lookup x=(slots.lookup x).or ([a].lookup x):=by
 unfold dflStep
 by_cases h:(slots.lookup a.1).isNone=true
 ·rw [if_pos h];exact lookup_app _ _ _
 ·rw [if_neg h]
  cases hx:slots.lookup x with
  | some v=>rfl
  | none=>exact (lookup_cons_ne x a.1 a.2 [] (fun e=>h (e▸(by rw [hx];rfl)))).symm
theorem dflFold_lookup (l:List (Str×Value)):∀ (slots:List (Str×Value)) (x:Str),(l.foldl (fun s a=>dflStep a s) slots).lookup x=(slots.lookup x).or (l.lookup x):=by
 induction l with
 | nil=>exact fun slots x=>Option.or_none.symm
 | cons a l ih=>
  intro slots x
  rw [List.foldl_cons,ih,dflStep_lookup,Option.or_assoc]
  exact congrArg _ (lookup_app [a] l x).symm
theorem filterMap_zip (L:Str→Option Value) (xs:List Str):∀ (full:List Value),xs.length=full.length→(∀ p∈xs.zip full,L p.1=some p.2)→xs.filterMap (fun n=>(L n).map (n,·))=xs.zip full:=by
 induction xs with
 | nil=>exact fun _ _ _=>List.zip_nil_left.symm
 | cons x xs ih=>
  intro full h hL
  cases full with
  | nil=>cases h
  | cons v vs=>
   rw [List.zip_cons_cons] at hL ⊢
   obtain ⟨h1,h2⟩:=List.forall_mem_cons.mp hL
   exact (List.filterMap_cons_some (f:=fun n=>(L n).map (n,·)) (congrArg (Option.map (x,·)) h1)).trans (congrArg (List.cons (x,v)) (ih vs (Nat.succ.inj h) h2))
theorem lookup_zip_none (xs:List Str):∀ (vs:List Value) (x:Str),x∉xs.take vs.length→(xs.zip vs).lookup x=none:=by
 induction xs with
 | nil=>exact fun vs x _=>by rw [List.zip_nil_left];rfl
 | cons y xs ih=>
  intro vs x h
  cases vs with
  | nil=>rfl
  | cons v vs=>exact (lookup_cons_ne _ _ _ _ fun (e:x=y)=>h (by rw [e];exact List.mem_cons_self)).trans (ih vs x fun q=>h (List.mem_cons_of_mem _ q))
theorem lookup_zip_get (xs:List Str):∀ (vs:List Value),xs.Nodup→∀ (j:Nat) (x:Str) (v:Value),xs[j]?=some x→vs[j]?=some v→(xs.zip vs).lookup x=some v:=by
 induction xs with
 | nil=>exact fun _ _ _ _ _ h=>nomatch h
 | cons y xs ih=>
  intro vs hn j x v h1 h2
  cases vs with
  | nil=>cases h2
  | cons u vs=>
   cases j with
   | zero=>exact Option.some.inj h2▸lookup_cons_eq _ _ _ _ (Option.some.inj h1).symm
   | succ j=>
    have hn:=List.nodup_cons.mp hn
    exact (lookup_cons_ne _ _ _ _ fun (e:x=y)=>hn.1 (by rw [←e];exact List.mem_of_getElem? h1)).trans (ih vs hn.2 j x v h1 h2)
theorem getq {α:Type}{l:List α}{i:Nat}(h:i < l.length){x:α}(e:l[i]=x):l[i]?=some x:=e▸List.getElem?_eq_getElem h
theorem sub_c (n m:Nat):m - (m - n)=min n m:=by
 cases Nat.le_total n m with
 | inl h=>rw [Nat.sub_sub_self h,Nat.min_eq_left h]
 | inr h=>rw [Nat.sub_eq_zero_of_le h,Nat.min_eq_right h];rfl
theorem sub_d {n m v:Nat}(h1:n≤v+m):n - (m - (m - n))≤v:=by
 rw [sub_c]
 cases Nat.le_total n m with
 | inl h=>rw [Nat.min_eq_left h,Nat.sub_self];exact Nat.zero_le _
 | inr h=>rw [Nat.min_eq_right h];exact Nat.sub_le_of_le_add h1
theorem sub_a {n m v j:Nat}(h1:n≤v+m) (h:v≤j):n - (m - (m - n))+(j - (n - (m - (m - n))))=j:=Nat.add_sub_cancel' (Nat.le_trans (sub_d h1) h)
theorem sub_b {n m v j:Nat}(h1:n≤v+m) (h2:v≤n) (h:v≤j):m - n+(j - (n - (m - (m - n))))=v+m - n+(j - v):=by
 rw [sub_c]
 cases Nat.le_total n m with
 | inl q=>
  obtain ⟨i,rfl⟩:=Nat.exists_eq_add_of_le q
  obtain ⟨k,rfl⟩:=Nat.exists_eq_add_of_le h
  rw [Nat.min_eq_left q,Nat.sub_self,Nat.add_sub_cancel_left,Nat.sub_zero,Nat.add_sub_cancel_left,Nat.add_left_comm v n i,Nat.add_sub_cancel_left]
  exact (Nat.add_left_comm i v k).trans (Nat.add_assoc v i k).symm
 | inr q=>
  obtain ⟨i,rfl⟩:=Nat.exists_eq_add_of_le q
  rw [Nat.add_comm v m] at h1
  obtain ⟨a,rfl⟩:=Nat.exists_eq_add_of_le (Nat.le_of_add_le_add_left h1)
  obtain ⟨k,rfl⟩:=Nat.exists_eq_add_of_le h
  rw [Nat.min_eq_right q,Nat.sub_eq_zero_of_le q,Nat.zero_add,Nat.add_sub_cancel_left,Nat.add_assoc,Nat.add_sub_cancel_left,Nat.add_comm (i+a) m,Nat.add_sub_add_left,Nat.add_sub_cancel_left,←Nat.add_assoc,Nat.add_sub_cancel_left]
theorem sub_e {α β:Type}{xs:List α}{vals dv:List β}(h1:xs.length≤vals.length+dv.length) (h2:vals.length≤xs.length):(vals++dv.drop (vals.length+dv.length - xs.length)).length=xs.length:=by
 obtain ⟨i,hi⟩:=Nat.exists_eq_add_of_le h2
 rw [List.length_append,List.length_drop,hi,Nat.add_sub_add_left,Nat.sub_sub_self (Nat.le_of_add_le_add_left (hi▸h1))]
theorem binds_zip {xs:List Str}{vals dv:List Value}(hn:xs.Nodup) (h1:xs.length≤vals.length+dv.length) (h2:vals.length≤xs.length):
  xs.filterMap (fun n=>((((xs.drop (xs.length - (dv.drop (dv.length - xs.length)).length)).zip (dv.drop (dv.length - xs.length))).foldl (fun s a=>dflStep a s) (xs.zip vals)).lookup n).map (n,·))=xs.zip (vals++dv.drop (vals.length+dv.length - xs.length)):=by
 have ha:=sub_e h1 h2
 refine filterMap_zip _ xs _ ha.symm fun p hp=>?_
 rw [dflFold_lookup]
 obtain ⟨j,hj,e⟩:=List.mem_iff_getElem.mp hp
 rw [List.getElem_zip] at e
 rw [List.length_zip,ha,Nat.min_self] at hj
 have hx:xs[j]?=some p.1:=getq hj (congrArg Prod.fst e)
 have hv:(vals++dv.drop (vals.length+dv.length - xs.length))[j]?=some p.2:=getq (by rw [ha];exact hj) (congrArg Prod.snd e)
 clear e hp
 generalize p.1=x at*
 generalize p.2=v at*
 by_cases hjl:j < vals.length
 ·rw [List.getElem?_append_left hjl] at hv
  rw [lookup_zip_get xs vals hn j x v hx hv]
  rfl
 ·have hjl:=Nat.le_of_not_lt hjl
  rw [List.getElem?_append_right hjl,List.getElem?_drop] at hv
  have hm:x∉xs.take vals.length:=fun q=>by
   obtain ⟨i,hi,e⟩:=List.mem_iff_getElem.mp q
   rw [List.length_take] at hi
   rw [List.getElem_take] at e
   have hi2:i < xs.length:=Nat.lt_of_lt_of_le hi (Nat.min_le_right _ _)
   exact Nat.lt_irrefl _ (Nat.lt_of_lt_of_le (Nat.lt_of_lt_of_le hi (Nat.min_le_left _ _)) ((List.getElem?_inj hi2 hn).mp ((getq hi2 e).trans hx.symm)▸hjl))
  rw [lookup_zip_none _ _ _ hm,Option.none_or]
  refine lookup_zip_get _ _ (hn.sublist (List.drop_sublist _ _)) (j - (xs.length - (dv.drop (dv.length - xs.length)).length)) _ _ ?_ ?_
  ·rw [List.getElem?_drop,←hx,List.length_drop]
   exact congrArg (xs[·]?) (sub_a h1 hjl)
  ·rw [List.getElem?_drop,←hv,List.length_drop]
   exact congrArg (dv[·]?) (sub_b h1 h2 hjl)
theorem no_missing {xs:List Str}{vals:List Value}{n:Nat}(hn:xs.Nodup) (h:n≤vals.length):((xs.take n).filter fun x=>((xs.zip vals).lookup x).isNone)=[]:=by
 rw [List.filter_eq_nil_iff]
 intro x hx
 obtain ⟨i,hi,e⟩:=List.mem_iff_getElem.mp hx
 rw [List.length_take] at hi
 rw [List.getElem_take] at e
 rw [lookup_zip_get xs vals hn i _ _ (getq (Nat.lt_of_lt_of_le hi (Nat.min_le_right _ _)) e) (List.getElem?_eq_getElem (Nat.lt_of_lt_of_le (Nat.lt_of_lt_of_le hi (Nat.min_le_left _ _)) h))]
 exact Bool.false_ne_true
noncomputable def dflOf (xs:List Str) (o:Option (Array Value)):List Value:=(o.getD #[]).toList.drop ((o.getD #[]).toList.length - xs.length)
noncomputable def slotsF (a:Str×Value) (slots:List (Str×Value)):Sem (ForInStep (List (Str×Value))):=if (slots.lookup a.1).isNone=true then pure (.yield (slots++[a])) else pure (.yield slots)
theorem bind_shape (fd:FuncData) (vals:List Value) (hp:fd.params.posonlyargs=[]) (hv:fd.params.vararg=none) (hk:fd.params.kwonlyargs=[]) (hkw:fd.params.kwarg=none) (xs:List Str) (hxs:fd.params.args.map (·.arg)=xs):∃ e1 e2:Option (Array Value)→Sem (List (Str×Value)),
  bindArgs fd ⟨vals,[]⟩=(seqItems? fd.defaults >>= fun o=>if (decide (vals.length > xs.length)&&true)=true then e1 o else
   if (!((xs.take (xs.length - (dflOf xs o).length)).filter fun n=>((xs.zip vals).lookup n).isNone).isEmpty)=true then e2 o else
   forIn ((xs.drop (xs.length - (dflOf xs o).length)).zip (dflOf xs o)) (xs.zip vals) slotsF >>= fun slots=>pure ((xs++[]).filterMap fun n=>(slots.lookup n).map (n,·))):=by
 obtain ⟨_,_,⟨po,ar,va,ko,_,kw,_⟩⟩:=fd
 cases (hp:po=[])
 cases (hv:va=none)
 cases (hk:ko=[])
 cases (hkw:kw=none)
 exact hxs▸⟨_,_,rfl⟩
theorem bindArgs_ok {fd:FuncData}{vals dv:List Value}{M:Model}{A:Around}{E:Value→Shared→Prop}{s:Shared}{Q:List (Str×Value)→Shared→Prop}(hp:fd.params.posonlyargs=[]) (hv:fd.params.vararg=none) (hk:fd.params.kwonlyargs=[]) (hkw:fd.params.kwarg=none)
  (hd:∀ {Q:Option (Array Value)→Shared→Prop} {E},(∀ o:Option (Array Value),(o.getD #[]).toList=dv→Q o s)→wpAny M A (seqItems? fd.defaults) Q E s)
  (hn:(fd.params.args.map (·.arg)).Nodup) (h1:fd.params.args.length≤vals.length+dv.length) (h2:vals.length≤fd.params.args.length)
  (hQ:Q ((fd.params.args.map (·.arg)).zip (vals++dv.drop (vals.length+dv.length - fd.params.args.length))) s):wpAny M A (bindArgs fd ⟨vals,[]⟩) Q E s:=by
 obtain ⟨e1,e2,e⟩:=bind_shape fd vals hp hv hk hkw _ rfl
 rw [←List.length_map (f:=(·.arg)) (as:=fd.params.args)] at h1 h2 hQ
 rw [e]
 clear e hp hv hk hkw
 generalize fd.params.args.map (·.arg)=xs at*
 refine wpAny_bind (hd fun o ho=>?_)
 rw [if_neg (by rw [Bool.and_true,decide_eq_true_eq];exact Nat.not_lt_of_le h2)]
 have ed:dflOf xs o=dv.drop (dv.length - xs.length):=by unfold dflOf;rw [ho]
 rw [ed,no_missing hn (by rw [List.length_drop];exact sub_d h1),if_neg (show ¬ (!([]:List Str).isEmpty)=true from Bool.false_ne_true),forIn_fold dflStep (f:=slotsF) (fun x s=>by
  unfold dflStep slotsF
  by_cases q:(s.lookup x.1).isNone=true
  ·rw [if_pos q,if_pos q]
  ·rw [if_neg q,if_neg q]),pure_bind,List.append_nil,binds_zip hn h1 h2]
 exact wpAny_pure hQ
theorem nodup_of_enc {l:List Sto}(he:∀ a∈l,encS a.x=some a.i) (h:(l.map (·.i)).Nodup):(l.map (·.x)).Nodup:=by
 induction l with
 | nil=>exact List.nodup_nil
 | cons a l ih=>
  rw [List.map_cons,List.nodup_cons] at h ⊢
  obtain ⟨he1,he⟩:=List.forall_mem_cons.mp he
  refine ⟨fun q=>h.1 ?_,ih he h.2⟩
  obtain ⟨b,hb,e⟩:=List.mem_map.mp q
  rw [←Option.some.inj ((he b hb).symm.trans ((congrArg encS e).trans he1))]
  exact List.mem_map_of_mem hb
theorem bindL_get {kf:Str→Option NameKind}{l:List Sto}:∀ (m:Str→Option Value),(l.map (·.x)).Nodup→(∀ a∈l,kf a.x=some (kindB a.b))→
  (∀ a∈l,a.b=false→bindL kf (l.map fun a=>(a.x,a.v)) m a.x=some a.v)∧∀ x,(∀ a∈l,a.x≠x)→bindL kf (l.map fun a=>(a.x,a.v)) m x=m x:=by
 induction l with
 | nil=>exact fun m _ _=>⟨fun _ h=>absurd h List.not_mem_nil,fun _ _=>rfl⟩
 | cons a l ih=>
  intro m hn hk
  rw [List.map_cons,List.nodup_cons] at hn
  obtain ⟨ha,hk⟩:=List.forall_mem_cons.mp hk
  obtain ⟨h1,h2⟩:=ih (if kf a.x=some .local then fun y=>if y=a.x then some a.v else m y else m) hn.2 hk
  refine ⟨List.forall_mem_cons.mpr ⟨fun q=>(h2 a.x fun c hc e=>hn.1 (e▸List.mem_map_of_mem hc)).trans ?_,h1⟩,fun x hx=>?_⟩
  ·rw [q] at ha
   rw [if_pos (show kf a.x=some .local from ha)]
   exact if_pos rfl
  ·obtain ⟨hx1,hx⟩:=List.forall_mem_cons.mp hx
   refine (h2 x hx).trans ?_
   by_cases q:kf a.x=some .local
   ·rw [if_pos q];exact if_neg (Ne.symm hx1)
   ·rw [if_neg q]
theorem bindC_get {kf:Str→Option NameKind}{l:List Sto}:∀ (m:Str→Option Value),(l.map (·.x)).Nodup→(∀ a∈l,kf a.x=some (kindB a.b))→
  (∀ a∈l,a.b=true→bindC kf (l.map fun a=>(a.x,a.v)) m a.x=some a.v)∧∀ x,(∀ a∈l,a.x≠x)→bindC kf (l.map fun a=>(a.x,a.v)) m x=m x:=by
 induction l with
 | nil=>exact fun m _ _=>⟨fun _ h=>absurd h List.not_mem_nil,fun _ _=>rfl⟩
 | cons a l ih=>
  intro m hn hk
  rw [List.map_cons,List.nodup_cons] at hn
  obtain ⟨ha,hk⟩:=List.forall_mem_cons.mp hk
  obtain ⟨h1,h2⟩:=ih (if kf a.x=some .local then m else fun y=>if y=a.x then some a.v else m y) hn.2 hk
  refine ⟨List.forall_mem_cons.mpr ⟨fun q=>(h2 a.x fun c hc e=>hn.1 (e▸List.mem_map_of_mem hc)).trans ?_,h1⟩,fun x hx=>?_⟩
  ·rw [q] at ha
   rw [if_neg fun e:kf a.x=some .local=>absurd (ha.symm.trans e) (by decide)]
   exact if_pos rfl
  ·obtain ⟨hx1,hx⟩:=List.forall_mem_cons.mp hx
   refine (h2 x hx).trans ?_
   by_cases q:kf a.x=some .local
   ·rw [if_pos q]
   ·rw [if_neg q];exact if_neg (Ne.symm hx1)
theorem bindP_cons {b:Bool}{i:Nat}{xs:List (Bool×Nat)}{d:D}{ds:List D}{lc:List (Nat×D)×List (Nat×D)}(h:bindP ((b,i)::xs) (d::ds)=some lc):∃ lc',bindP xs ds=some lc'∧lc=(if b=true then (lc'.1,(i,d)::lc'.2) else ((i,d)::lc'.1,lc'.2)):=by
 obtain ⟨lc',h1,h2⟩:=mapI h
 exact ⟨lc',h1,h2.symm⟩
inductive BindI (l:List Sto) (b:Bool) (r:List (Nat×D)):Prop
 | mk (data:∀ i d,getV r i=some d→∃ a∈l,a.b=b∧a.i=i∧a.d=d) (all:∀ a∈l,a.b=b→getV r a.i≠none)
theorem BindI.skip {l:List Sto}{b:Bool}{r:List (Nat×D)}{a:Sto}(h:BindI l b r) (q:a.b≠b):BindI (a::l) b r:=
 let ⟨h1,h2⟩:=h
 ⟨fun i d e=>let ⟨c,hc,r⟩:=h1 i d e;⟨c,List.mem_cons_of_mem _ hc,r⟩,List.forall_mem_cons.mpr ⟨fun e=>absurd e q,h2⟩⟩
theorem BindI.add {l:List Sto}{b:Bool}{r:List (Nat×D)}{a:Sto}(h:BindI l b r) (q:a.b=b):BindI (a::l) b ((a.i,a.d)::r):=by
 obtain ⟨h1,h2⟩:=h
 refine ⟨fun i d e=>?_,List.forall_mem_cons.mpr ⟨fun _ e=>?_,fun c hc q2 e=>?_⟩⟩
 ·rw [getV_cons] at e
  by_cases z:i=a.i
  ·rw [if_pos z] at e;exact ⟨a,List.mem_cons_self,q,z.symm,Option.some.inj e⟩
  ·rw [if_neg z] at e;obtain ⟨c,hc,r⟩:=h1 i d e;exact ⟨c,List.mem_cons_of_mem _ hc,r⟩
 ·rw [getV_cons,if_pos rfl] at e;cases e
 ·rw [getV_cons] at e
  by_cases z:c.i=a.i
  ·rw [if_pos z] at e;cases e
  ·rw [if_neg z] at e;exact h2 c hc q2 e
theorem bindP_data {l:List Sto}:∀ {lc:List (Nat×D)×List (Nat×D)},bindP (l.map fun a=>(a.b,a.i)) (l.map (·.d))=some lc→BindI l false lc.1∧BindI l true lc.2:=by
 induction l with
 | nil=>
  intro lc h
  obtain rfl:=Option.some.inj h
  exact ⟨.mk (fun _ _ q=>nomatch q) fun _ q=>absurd q List.not_mem_nil,.mk (fun _ _ q=>nomatch q) fun _ q=>absurd q List.not_mem_nil⟩
 | cons a l ih=>
  intro lc h
  obtain ⟨lc',h1,h2⟩:=bindP_cons h
  obtain ⟨i1,i2⟩:=ih h1
  cases hb:a.b with
  | true=>rw [hb,if_pos rfl] at h2;rw [h2];exact ⟨i1.skip fun e=>Bool.false_ne_true (e.symm.trans hb),i2.add hb⟩
  | false=>rw [hb,if_neg Bool.false_ne_true] at h2;rw [h2];exact ⟨i1.add hb,i2.skip (by rw [hb];exact Bool.false_ne_true)⟩
theorem parNs_mixNs {sc:Scope}{ps:List Arg}:∀ {xs:List (Bool×Nat)},parNs sc ps=some xs→mixNs sc (ps.map fun p=>Expr.Name p.arg p.pos)=some xs∧xs.length=ps.length:=by
 induction ps with
 | nil=>exact fun h=>⟨h,(Option.some.inj h)▸rfl⟩
 | cons p ps ih=>
  intro xs h
  obtain ⟨i,h1,h⟩:=bindI h
  obtain ⟨is,h2,h⟩:=mapI h
  obtain ⟨h3,h4⟩:=ih h2
  refine ⟨?_,h▸congrArg Nat.succ h4⟩
  show Option.bind (mixN sc (.Name p.arg p.pos)) (fun i=>(mixNs sc (ps.map fun p=>Expr.Name p.arg p.pos)).map fun is=>i::is)=_
  rw [h1,h3];exact congrArg some h
theorem lookup_addr_eq (x y:Str) (v:Addr) (l:List (Str×Addr)) (h:x=y):(((y,v)::l).lookup x).isSome=true:=by rw [List.lookup_cons,h,beq_self_eq_true];rfl
theorem cellsFrom_has (names:List (Str×NameKind)):∀ (n:Nat) (acc:List (Str×Addr)) (x:Str),((x,NameKind.cell)∈names∨(acc.lookup x).isSome=true)→((cellsFrom n names acc).lookup x).isSome=true:=by
 induction names with
 | nil=>exact fun n acc x h=>h.elim (fun q=>absurd q List.not_mem_nil) id
 | cons p r ih=>
  intro n acc x h
  obtain ⟨y,k⟩:=p
  unfold cellsFrom
  by_cases hk:(k==NameKind.cell)=true
  ·rw [if_pos hk]
   refine ih (n+1) _ x ?_
   by_cases e:x=y
   ·exact .inr (lookup_addr_eq _ _ _ _ e)
   ·refine h.imp (fun h=>(List.mem_cons.mp h).resolve_left fun q=>e (congrArg Prod.fst q)) fun h=>?_
    rw [List.lookup_cons,beq_eq_false_iff_ne.mpr e];exact h
  ·rw [if_neg hk]
   exact ih n acc x (h.imp (fun h=>(List.mem_cons.mp h).resolve_left fun q=>hk ((congrArg (fun p:Str×NameKind=>p.2==NameKind.cell) q).symm.trans rfl)) id)
section
variable {prog:Program}{w:World}{fns:List Nat}{src:Option Addr}{M:List Addr}{h:Heap}
theorem cstV_rep {v:Value}{c:Cst}(e:cstV v=some c):Rep prog w fns src M h v c.d:=by
 cases v with
 | none=>cases e;exact .none
 | bool b=>cases e;exact .bool _
 | int i t=>cases e;exact .int _ _
 | str x t=>
  obtain ⟨hl,e⟩:=gdI e
  obtain rfl:=Option.some.inj e
  have r:=Rep.str (prog:=prog) (w:=w) (fns:=fns) (src:=src) (M:=M) (h:=h) x.cps.toList t (Nat.le_trans (Nat.le_of_ble_eq_true hl) (by decide))
  simpa [T.s,Cst.d] using r
 | _=>cases e
theorem cstVs_rep {vs:List Value}:∀ {cs:List Cst},cstVs vs=some cs→RepL prog w fns src M h vs (cs.map Cst.d):=by
 induction vs with
 | nil=>intro cs e;cases e;exact .nil
 | cons v vs ih=>
  intro cs e
  obtain ⟨c,h1,e⟩:=bindI e
  obtain ⟨cs',h2,e⟩:=mapI e
  exact e▸.cons (cstV_rep h1) (ih h2)
end
section
variable {prog:Program}{w:World}{fns:List Nat}{h₀:Heap}{k:Nat}{K:Frag}{mg mb:Str→Option Value}
theorem fillD_data {n:Nat}{dfl:List Cst}{ds ds':List D}(h:fillD n dfl ds=some ds'):n≤ds.length+dfl.length∧ds.length≤n∧ds++(dfl.drop (ds.length+dfl.length - n)).map Cst.d=ds':=by
 unfold fillD at h
 by_cases q:n≤ds.length+dfl.length∧ds.length≤n
 ·rw [if_pos q] at h;exact ⟨q.1,q.2,Option.some.inj h⟩
 ·rw [if_neg q] at h;cases h
inductive DflI (prog:Program) (w:World) (fns:List Nat) (src:Option Addr) (M:List Addr) (s:Shared) (v:Value) (dfl:List Cst):Prop
 | mk (dv:List Value) (hd:∀ {M:Model}{A:Around}{Q:Option (Array Value)→Shared→Prop} {E},(∀ o:Option (Array Value),(o.getD #[]).toList=dv→Q o s)→wpAny M A (seqItems? v) Q E s) (hr:RepL prog w fns src M s.heap dv (dfl.map Cst.d))
theorem dfl_none {src:Option Addr}{M:List Addr}{s:Shared}:DflI prog w fns src M s .none []:=⟨[],fun hQ=>wpAny_bind (wpAny_pure (wpAny_pure (hQ none rfl))),.nil⟩
theorem isTup_inv {c:Value}(h:isTup c=true):c=.type "tuple":=by
 cases c with
 | type t=>exact congrArg _ (eq_of_beq h)
 | _=>cases h
theorem dSeq_inv {d:Data}{us:Array Value}(h:dSeq d=some us):∃ n,d=.seq us n:=by
 cases d with
 | seq vs n=>exact ⟨n,Option.some.inj h▸rfl⟩
 | _=>cases h
theorem dfl_ok (G:Gd prog w fns K mg mb h₀){src:Option Addr}{M:List Addr}{s:Shared}{v:Value}{dfl:List Cst}(hb:∀ a o,h₀.get? a=some o→s.heap.get? a=some o) (h:dflK K v=some dfl):DflI prog w fns src M s v dfl:=by
 cases v with
 | none=>cases h;exact dfl_none
 | ref a=>
  obtain ⟨⟨oc,od,ol,osl⟩,h1,h⟩:=bindI h
  obtain ⟨h2,h⟩:=gdI h
  obtain ⟨us,h3,h⟩:=bindI h
  obtain ⟨n,h4⟩:=dSeq_inv h3
  exact ⟨us.toList,fun hQ=>wpAny_seqItems (hb _ _ (G.X _ _ h1)) h4 (hQ (some us) rfl),cstVs_rep h⟩
 | _=>cases h
inductive ParI (prog:Program) (w:World) (fns:List Nat) (src:Option Addr) (M:List Addr) (h:Heap) (sc:Scope) (xs:List Str) (ps:List (Bool×Nat)) (vs dv:List Value) (ds':List D):Prop
 | mk (l:List Sto) (ex:xs=l.map (·.x)) (ez:xs.zip (vs++dv.drop (vs.length+dv.length - xs.length))=l.map fun a=>(a.x,a.v)) (ep:ps=l.map fun a=>(a.b,a.i)) (ed:ds'=l.map (·.d)) (ok:∀ a∈l,a.ok sc) (hn:(l.map (·.x)).Nodup) (hr:∀ a∈l,Rep prog w fns src M h a.v a.d)
   (h1:xs.length≤vs.length+dv.length) (h2:vs.length≤xs.length)
theorem par_of {src:Option Addr}{M:List Addr}{h:Heap}{sc:Scope}{args:List Arg}{ps:List (Bool×Nat)}{vs dv:List Value}{ds ds':List D}{dfl:List Cst}(hp:parNs sc args=some ps) (hn:(ps.map (·.2)).Nodup) (hr:RepL prog w fns src M h vs ds) (hdr:RepL prog w fns src M h dv (dfl.map Cst.d))
  (hf:fillD ps.length dfl ds=some ds'):ParI prog w fns src M h sc (args.map (·.arg)) ps vs dv ds':=by
 obtain ⟨g1,g2,g3⟩:=fillD_data hf
 obtain ⟨p1,p2⟩:=parNs_mixNs hp
 rw [←hr.length] at g2
 rw [←hr.length,←List.length_map (f:=Cst.d),←hdr.length] at g1
 rw [List.map_drop,←hr.length,←List.length_map (f:=Cst.d) (as:=dfl),←hdr.length] at g3
 have hl:RepL prog w fns src M h (vs++dv.drop (vs.length+dv.length - ps.length)) ds':=g3▸hr.append (hdr.drop _)
 have e:(args.map (·.arg)).length=ps.length:=(List.length_map _).trans p2.symm
 obtain ⟨l,e1,e2,e3,e4,ok⟩:=mixNs_data p1 _ ds' hl.length ((sub_e (xs:=ps) g1 g2).symm.trans hl.length)
 have ex:args.map (·.arg)=l.map (·.x):=by
  have:=congrArg (List.map nameOf) e1
  rw [List.map_map,List.map_map] at this
  exact this
 rw [e4,List.map_map] at hn
 rw [e2,e3] at hl
 exact ⟨l,ex,by rw [e,e2,ex];exact List.zip_map',e4,e3,ok,nodup_of_enc (fun a ha=>(ok a ha).2) hn,reps_of hl,e▸g1,e▸g2⟩
structure EnvI (env:PySem.Env) (f:FuncData) (L:Addr) (cl:List (Str×Addr)):Prop where
 sc:env.scope=f.scope
 L:env.locals=L
 cl:env.cells=cl
 glob:env.globals=f.globals
 bi:env.builtins=f.builtins
 code:env.code=f.code
 qual:env.qual=f.qualname++".<locals>."
theorem WI.size_ne {src:Option Addr}{M:List Addr}{s:Shared}{π:Pi}(W:WI h₀ src M s π):s.heap.objs.size≠lamTab∧src≠some s.heap.objs.size:=
 ⟨fun q=>W.nin (q▸fresh_none (Nat.le_refl _)) W.tabM,fun q=>W.nin (fresh_none (Nat.le_refl _)) (W.pool _ q).1⟩
theorem frame_of {src:Option Addr}{M:List Addr}{s s₁:Shared}{π:Pi}{f:FuncData}{l:List Sto}{lc:List (Nat×D)×List (Nat×D)}{env:PySem.Env}(ok:FnOk K f) (W:WI h₀ src M s π) (E:EnvI env f s.heap.objs.size (cellsFrom (s.heap.objs.size+1) f.scope.names []))
  (hok:∀ a∈l,a.ok f.scope) (hn:(l.map (·.x)).Nodup) (hr:∀ a∈l,Rep prog w fns src M s.heap a.v a.d) (b1:BindI l false lc.1) (b2:BindI l true lc.2)
  (x:InCallC s env.locals (bindL env.kindOf (l.map fun a=>(a.x,a.v)) fun _=>none) env.cells (bindC env.kindOf (l.map fun a=>(a.x,a.v)) fun _=>none) s₁):
  SF prog w fns h₀ src M s [] env (s.heap.objs.size::M) ⟨lc.1,lc.2,none⟩ s₁ π:=by
 have hkf:∀ a∈l,env.kindOf a.x=some (kindB a.b):=fun a ha=>(congrArg (fun sc:Scope=>sc.names.lookup a.x) E.sc).trans (hok a ha).1
 have keep:=x.toInCall.keep
 obtain ⟨L1,L2⟩:=bindL_get (fun _=>none) hn hkf
 obtain ⟨C1,C2⟩:=bindC_get (fun _=>none) hn hkf
 have hL0:s.heap.get? env.locals=none:=E.L▸fresh_none (Nat.le_refl _)
 obtain ⟨oL,hoL⟩:=ns_at x.toInCall.ns
 have W1:WI h₀ src (s.heap.objs.size::M) s₁ π:=W.add (Nat.le_refl _) (E.L▸hoL) keep
 have st:Step src s s₁:=by
  obtain ⟨h',tk,rfl⟩:=x.toInCall.same
  exact ⟨rfl,rfl,fun a o _ _ e=>keep a o e⟩
 have rep:∀ a∈l,Rep prog w fns src (s.heap.objs.size::M) s₁.heap a.v a.d:=fun a ha=>(hr a ha).add (Nat.le_refl _) keep
 have hlt:∀ {n c},env.cells.lookup n=some c→s.heap.objs.size < c:=fun q=>E.L▸x.above _ _ (mem_of_lookup q)
 have hcM:∀ {n c},env.cells.lookup n=some c→c∉s.heap.objs.size::M:=fun q=>
  List.not_mem_cons_of_ne_of_not_mem (Nat.ne_of_gt (hlt q)) (W.nin (fresh_none (Nat.le_of_lt (hlt q))))
 have enc:∀ {y:Str}{a:Sto},a∈l→encS y=some a.i→y=a.x:=fun ha q=>encS_inj q (hok _ ha).2
 have F1:FI prog w fns src (s.heap.objs.size::M) env s₁ ⟨lc.1,lc.2⟩:=
  ⟨E.sc▸ok.kind,E.glob.trans ok.glob,E.bi.trans ok.bi,E.L.symm▸W.size_ne,
   ⟨_,x.toInCall.ns,fun y i d q1 q2=>let ⟨a,ha,hb,e1,e2⟩:=b1.1 i d q2;⟨a.v,enc ha (e1.symm▸q1)▸L1 a ha hb,e2▸rep a ha⟩⟩,
   fun y i d q1 q2 c q3=>let ⟨a,ha,hb,e1,e2⟩:=b2.1 i d q2;⟨hcM q3,a.v,(enc ha (e1.symm▸q1)▸C1 a ha hb:bindC env.kindOf (l.map fun a=>(a.x,a.v)) (fun _=>none) y=some a.v)▸x.cell y c q3,e2▸rep a ha⟩,
   fun y q=>E.cl▸Option.isSome_iff_exists.mp (cellsFrom_has _ _ _ _ (.inl ((E.sc▸q:f.scope.names.lookup y=some .cell∨f.scope.names.lookup y=some .free).elim lookup_mem' fun q=>absurd rfl (ok.free _ (lookup_mem' q))))),
   fun q=>let ⟨q1,q2⟩:=ok.lam (E.sc▸q);⟨E.code.trans q1,by rw [E.qual,q2];rfl⟩⟩
 refine ⟨fun a ha=>List.mem_cons_of_mem _ ha,fun a ha=>(W.fresh a ha).2,W.tabM,W.base,fun a q=>(W.pool a q).1,E.L▸List.mem_cons_self,hL0,W1,F1,st,fun i ds q=>(nomatch q),fun y i c q1 q2 q3 q4=>?_,
  fun y z c _ _ q3 q4=>name_of_addr x.apart (mem_of_lookup q3) (mem_of_lookup q4),fun p hp=>absurd hp List.not_mem_nil⟩
 refine ⟨(C2 y fun a ha e=>?_)▸x.cell y c q3,hcM q3,fresh_none (Nat.le_of_lt (hlt q3))⟩
 have hk:some (kindB a.b)=some NameKind.cell:=(hkf a ha).symm.trans ((congrArg env.kindOf e).trans q2)
 have hb:a.b=true:=by
  cases hb:a.b with
  | true=>rfl
  | false=>rw [hb] at hk;cases hk
 exact b2.2 a ha hb (Option.some.inj (q1.symm.trans ((congrArg encS e.symm).trans (hok a ha).2))▸q4)
theorem call_enter (G:Gd prog w fns K mg mb h₀){src:Option Addr}{M:List Addr}{A:Around}{s:Shared}{π:Pi}{fn:Fn}{name:Str}{ow fz:List Nat}{a:Addr}{vs:List Value}{ds ds':List D}{lc:List (Nat×D)×List (Nat×D)}{Q:Value→Shared→Prop}
  (hA:Good A (k+1)) (W:WI h₀ src M s π) (hcf:compFn fns ow fz K name=some fn) (hns:nsIn K mainGlobals name=some (some (.ref a))) (hr:RepL prog w fns src M s.heap vs ds)
  (hfd:fillD fn.ps.length fn.dfl ds=some ds') (hbp:bindP fn.ps ds'=some lc)
  (hB:∀ (env:PySem.Env) (s₁:Shared) (o:Obj) (f:FuncData) (body:List Stmt),K.lookup a=some o→o.data=.func f→f.body=.stmts body→compS.compSs (compS fns ow fz (compE fns 40) 40 f.scope) body=some fn.body→env.scope=f.scope→Good (A.deeper env) k→
   SF prog w fns h₀ src M s [] env (s.heap.objs.size::M) ⟨lc.1,lc.2,none⟩ s₁ π→wpAny (model prog w) (A.deeper env) (execs body env) (fun fl s₂=>∃ v,fl=.ret v∧Q v s₂) (fun _ _=>False) s₁):
  wpAny (model prog w) A (call (.ref a) vs) Q (fun _ _=>False) s:=by
 obtain ⟨hid,a',o,f,body,hns',hlk,hd,ok,hb,hp,hdf,hst,hnd⟩:=compFn_data hcf
 have ea:a'=a:=Value.ref.inj (Option.some.inj (Option.some.inj (hns'.symm.trans hns)))
 rw [ea] at hlk
 clear hns hns' ea hcf hid
 obtain ⟨dv,hdv,hdr⟩:=dfl_ok (src:=src) (M:=M) G W.base hdf
 obtain ⟨l,ex,ez,ep,ed,hok,hn,hreps,h1,h2⟩:=par_of hp hnd hr hdr hfd
 rw [ep,ed] at hbp
 obtain ⟨b1,b2⟩:=bindP_data hbp
 clear hdf hp hnd hr hdr hfd ep ed hbp
 refine wpAny_call (codeAny_call_function hA.room (W.base _ _ (G.X _ _ hlk)) hd ok.co ok.gen hb ((codeRec_of G.X ok.code).keeps W.base) ?_)
 refine bindArgs_ok ok.po ok.va ok.ko ok.kw hdv (ex▸hn) (List.length_map (f:=(·.arg)) (as:=f.params.args)▸h1) (List.length_map (f:=(·.arg)) (as:=f.params.args)▸h2) ?_
 rw [←List.length_map (f:=(·.arg)) (as:=f.params.args),ez,ok.clo]
 refine wpAny_newFunctionEnv_cells ok.kind (fun y hy=>?_) fun env he s₁ x=>?_
 ·obtain ⟨a,ha,rfl⟩:=List.mem_map.mp hy
  have q1:=(hok a ha).1
  cases hb:a.b with
  | false=>rw [hb] at q1;exact .inl q1
  | true=>rw [hb] at q1;exact .inr ⟨q1,cellsFrom_has _ _ _ _ (.inl (lookup_mem' q1))⟩
 have E:EnvI env f s.heap.objs.size (cellsFrom (s.heap.objs.size+1) f.scope.names []):=he▸⟨rfl,rfl,rfl,rfl,rfl,rfl,rfl⟩
 refine ⟨(G.nolimit.keeps W.base).keeps x.toInCall.keep,codeAny_func ?_⟩
 refine wpAny_mono (hB env s₁ o f body hlk hd hb hst E.sc (hA.deeper env) (frame_of ok W E hok hn hreps b1 b2 x)) (fun fl s₂ p=>?_) fun _ _ x=>x.elim
 obtain ⟨v,rfl,q⟩:=p
 exact q
inductive RetI (fn:Fn) (K:Nat) (ds:List D) (π:Pi) (k:D→Pi→Prop):Prop
 | mk (ds':List D) (lc:List (Nat×D)×List (Nat×D)) (h1:fillD fn.ps.length fn.dfl ds=some ds') (h2:bindP fn.ps ds'=some lc) (h:wSs fn.body (Ret FN K) ⟨lc.1,lc.2,none⟩ π (fun _ _=>False) k)
theorem Ret_inv {i:Nat}{fn:Fn}{ds:List D}{π:Pi}{Q:D→Pi→Prop}(hfn:getF FN i=some fn) (h:Ret FN (k+1) (.fn i) ds π Q):RetI fn k ds π Q:=by
 unfold Ret at h
 rw [hfn] at h
 dsimp only at h
 cases hfd:fillD fn.ps.length fn.dfl ds with
 | none=>rw [hfd] at h;exact h.elim
 | some ds'=>
  rw [hfd] at h
  dsimp only at h
  cases hbp:bindP fn.ps ds' with
  | none=>rw [hbp] at h;exact h.elim
  | some lc=>rw [hbp] at h;exact ⟨ds',lc,hfd,hbp,h⟩
theorem callOk_succ (G:Gd prog w fns K mg mb h₀) (C:CallOk prog w fns h₀ K k) (LC:LamCallOk prog w fns h₀ k):CallOk prog w fns h₀ K (k+1):=by
 intro src M A s π Q i fn name ow fz a vs ds hA W hfn hcf hns hr h
 obtain ⟨ds',lc,hfd,hbp,h⟩:=Ret_inv hfn h
 refine call_enter G hA W hcf hns hr hfd hbp fun env s₁ o f body hlk hd hbody hst hsc hA' X=>?_
 refine wpAny_mono (sndSs_of (fun ps st h=>snd_stmt G C LC 40 f.scope ps st h) hst src M (s.heap.objs.size::M) s [] env (A.deeper env) s₁ ⟨lc.1,lc.2,none⟩ π (fun _ _=>False) Q hsc hA' X h) (fun fl s₂ p=>?_) fun _ _ x=>x.elim
 cases fl with
 | next=>obtain ⟨_,_,_,q,_⟩:=p;exact q.elim
 | ret v=>exact ⟨v,rfl,p⟩
 | cont=>exact p.elim
 | brk=>exact p.elim
theorem lam_frame {src:Option Addr}{M:List Addr}{s s₁:Shared}{π:Pi}{fd:FuncData}{b:Ex}{x:Nat}{d:D}{c:Addr}{v:Value}{xs:Str}{env:PySem.Env}{m:Str→Option Value}(hk:LamOk fns fd b x c) (W:WI h₀ src M s π) (s2:encS xs=some x) (s3:fd.closure=[(xs,c)]) (s5:lamFree fd.scope=some xs)
  (E:EnvI env fd s.heap.objs.size fd.closure) (hc:s.heap.IsCell c (some v)) (hcm:c∉M) (hr:Rep prog w fns src M s.heap v d) (hns:s₁.heap.Ns s.heap.objs.size m) (keep:∀ a o,s.heap.get? a=some o→s₁.heap.get? a=some o):FI prog w fns src (s.heap.objs.size::M) env s₁ ⟨[],[(x,d)]⟩:=by
 have hcl:env.cells.lookup xs=some c:=by rw [E.cl,s3,List.lookup_cons,beq_self_eq_true]
 refine ⟨E.sc▸hk.kind,E.glob.trans hk.glob,E.bi.trans hk.bi,E.L.symm▸W.size_ne,⟨m,E.L.symm▸hns,fun y i d q1 q2=>nomatch q2⟩,fun y i d' q1 q2 c' q3=>?_,fun y q=>?_,fun q=>?_⟩
 ·rw [getV_cons] at q2
  by_cases z:i=x
  ·rw [if_pos z] at q2
   rw [encS_inj q1 (z▸s2),hcl] at q3
   rw [←Option.some.inj q3,←Option.some.inj q2]
   obtain ⟨o,e,hd⟩:=hc
   exact ⟨List.not_mem_cons_of_ne_of_not_mem (Nat.ne_of_lt (Heap.lt_size e)) hcm,v,⟨o,keep _ _ e,hd⟩,hr.add (Nat.le_refl _) keep⟩
  ·rw [if_neg z] at q2;cases q2
 ·rw [E.sc] at q
  have hm:=q.elim (fun q=>absurd rfl (hk.cell _ (lookup_mem' q))) lookup_mem'
  obtain ⟨p,e1,e2,_⟩:=lamFree_inv s5
  have:(y,NameKind.free)∈fd.scope.names.filter (fun p=>p.2==.free):=List.mem_filter.mpr ⟨hm,rfl⟩
  rw [e1] at this
  exact ⟨c,by rw [show y=xs from (congrArg Prod.fst (List.mem_singleton.mp this)).trans e2];exact hcl⟩
 ·rw [E.sc,hk.nolam] at q;cases q
theorem lamCallOk_succ (G:Gd prog w fns K mg mb h₀) (C:CallOk prog w fns h₀ K k) (LC:LamCallOk prog w fns h₀ k):LamCallOk prog w fns h₀ (k+1):=by
 intro src M A s π Q a b x d hA W hr h
 obtain ⟨a',c,cc,o,fd,v,e,ho,hd,hk,hcc,hcd,hc,ham,hcm,hccm,hr⟩:=hr.lam_inv
 rw [←Value.ref.inj e] at ho
 obtain ⟨n,pe,xs,s1,s2,s3,s4,s5⟩:=hk.shape
 have hpar:=noArgs_eq hk.params
 refine wpAny_call (kla_callFunE hA.room ho hd hk.co hk.gen s1 hcd ?_)
 refine bindArgs_ok (dv:=[]) (by rw [hpar]) (by rw [hpar]) (by rw [hpar]) (by rw [hpar]) (fun hQ=>hk.dfl▸wpAny_bind (wpAny_pure (wpAny_pure (hQ none rfl)))) (by rw [hpar];exact List.nodup_nil) (by rw [hpar];exact Nat.le_refl _) (Nat.zero_le _) ?_
 rw [hpar]
 refine wpAny_newFunctionEnv hk.cell (fun _ q=>absurd q List.not_mem_nil) (fun h₁ hns hsb=>?_) hk.kind
 have keep:∀ b o,s.heap.get? b=some o→h₁.get? b=some o:=fun b o e=>hsb.extBut b o (Nat.ne_of_lt (Heap.lt_size e)) (Heap.get?_push_of_some _ e)
 obtain ⟨oL,hoL⟩:=ns_at hns
 have W1:WI h₀ src (s.heap.objs.size::M) {s with heap:=h₁,toks:=s.toks+([]:List (Str×Value)).length} π:=W.add (Nat.le_refl _) hoL keep
 have st:Step src s {s with heap:=h₁,toks:=s.toks+([]:List (Str×Value)).length}:=⟨rfl,rfl,fun a o _ _ e=>keep a o e⟩
 refine ⟨(G.nolimit.keeps W.base).keeps keep,kla_codeExpr ?_⟩
 have E:EnvI (newEnv fd.scope s.heap.objs.size fd.globals fd.closure (fd.qualname++".<locals>.") (some a) fd.code none fd.builtins) fd s.heap.objs.size fd.closure:=⟨rfl,rfl,rfl,rfl,rfl,rfl,rfl⟩
 refine wpAny_mono ((snd_all G C LC n fd.scope pe b s4).1 src (s.heap.objs.size::M) _ (A.deeper _) _ ⟨[],[(x,d)]⟩ π Q E.sc (hA.deeper _) W1 (lam_frame hk W s2 s3 s5 E hc hcm hr hns keep) h.2) (fun u s₂ p=>?_) fun _ _ x=>x.elim
 obtain ⟨d',π',q1,q2,q3,q4⟩:=p
 exact ⟨d',π',q1,q2.weak fun a q e=>q (List.mem_cons_of_mem _ e),st.trans q3,W.drop1 q4⟩
theorem calls_ok (G:Gd prog w fns K mg mb h₀) (k:Nat):CallOk prog w fns h₀ K k∧LamCallOk prog w fns h₀ k:=by
 induction k with
 | zero=>exact ⟨fun src M A s π Q i fn name ow fz a vs ds hA W hfn hcf hns hr h=>h.elim,fun src M A s π Q a b x d hA W hr h=>h.elim⟩
 | succ k ih=>exact ⟨callOk_succ G ih.1 ih.2,lamCallOk_succ G ih.1 ih.2⟩
end
section
variable {prog:Program}{w:World}{fns:List Nat}{h₀:Heap}{k:Nat}{K:Frag}{mg mb:Str→Option Value}
theorem sndSs_then {sc:Scope}{f:Stmt→Option St}(IH:∀ ps st,f ps=some st→SndS prog w fns h₀ k sc ps st){src:Option Addr}{M₀:List Addr}{s₀:Shared}{P:List (Addr×Obj)}{env:PySem.Env}{A:Around}{kn:Sg→Pi→Prop}{qs:List Stmt}{R:Flow→Shared→Prop}
  (hsc:env.scope=sc) (hA:Good A k) (hq:∀ σ' π' M' s',kn σ' π'→SF prog w fns h₀ src M₀ s₀ P env M' σ' s' π'→wpAny (model prog w) A (execs qs env) R (fun _ _=>False) s'){ps:List Stmt}:∀ {st:Sts},compS.compSs f ps=some st→∀ (M:List Addr) (s:Shared) (σ:Sg) (π:Pi),SF prog w fns h₀ src M₀ s₀ P env M σ s π→wSs st (Ret FN k) σ π kn (fun _ _=>False)→
  wpAny (model prog w) A (execs (ps++qs) env) R (fun _ _=>False) s:=by
 induction ps with
 | nil=>
  intro st h M s σ π X hw
  cases h
  exact hq _ _ _ _ hw X
 | cons p ps ih=>
  intro st h M s σ π X hw
  obtain ⟨s',ss',hs,hss,rfl⟩:=compSs_inv h
  refine wpAny_execs_cons (wpAny_mono (IH p s' hs src M₀ M s₀ P env A s σ π _ _ hsc hA X hw) (fun fl s₁ q=>?_) fun _ _ x=>x)
  cases fl with
  | next=>
   obtain ⟨σ',π',M',q1,q2,q3⟩:=q
   exact ih hss M' s₁ σ' π' q2 q1
  | ret v=>obtain ⟨_,_,q,_⟩:=q;exact q.elim
  | _=>exact q.elim
end
section
open PySem
mutual
inductive Dc where
 | txt (t:T) | cat (a b:Dc) | br (rs:DcL)
inductive DcL where
 | nil | cons (r:Dc) (rs:DcL)
end
noncomputable def ind:T→T
 | []=>[]
 | c::t=>if c=10 then 10::32::32::32::32::ind t else c::ind t
noncomputable def indT (t:T):T:=32::32::32::32::(ind t++[10])
mutual
noncomputable def pretty:Dc→T
 | .txt t=>t
 | .cat a b=>pretty a++pretty b
 | .br .nil=>[123,125]
 | .br (.cons r rs)=>123::10::(indT (pretty r)++prettyRs rs++[125])
noncomputable def prettyRs:DcL→T
 | .nil=>[]
 | .cons r rs=>indT (pretty r)++prettyRs rs
end
mutual
noncomputable def flat:Dc→T
 | .txt t=>t
 | .cat a b=>flat a++flat b
 | .br .nil=>[123,125]
 | .br (.cons r rs)=>123::32::(flat r++flatRs rs++[32,125])
noncomputable def flatRs:DcL→T
 | .nil=>[]
 | .cons r rs=>32::(flat r++flatRs rs)
end
noncomputable def nd:T→Bool
 | []=>true
 | a::t=>!(a==32&&t.head?==some 32)&&nd t
structure Row (t:T):Prop where
 hd:∃ c r,t=c::r∧c≠32∧c≠125
 tl:∃ r c,t=r++[c]∧c≠32∧c≠123
 nd:nd t=true
noncomputable def okT (t:T):Bool:=t.all fun c=>decide (32≤c)&&decide (c≤126)
mutual
noncomputable def WF:Dc→Prop
 | .txt t=>okT t=true
 | .cat a b=>WF a∧WF b
 | .br rs=>WFs rs
noncomputable def WFs:DcL→Prop
 | .nil=>True
 | .cons r rs=>WF r∧Row (flat r)∧WFs rs
end
inductive Eqv:T→T→Prop
 | nil:Eqv [] []
 | chr {c:Nat}{w f:T}(h:33≤c∧c≤126) (x:Eqv w f):Eqv (c::w) (c::f)
 | sp {ws w f:T}(hn:ws≠[]) (h:∀ c∈ws,c=32∨c=10) (x:Eqv w f):Eqv (ws++w) (32::f)
theorem Eqv.append {a b c d:T}(x:Eqv a b) (y:Eqv c d):Eqv (a++c) (b++d):=by
 induction x with
 | nil=>exact y
 | chr h x ih=>exact .chr h ih
 | sp hn h x ih=>rw [List.append_assoc];exact .sp hn h ih
theorem Eqv.txt {t:T}(h:okT t=true):Eqv t t:=by
 induction t with
 | nil=>exact .nil
 | cons c t ih=>
  simp only [okT,List.all_cons,Bool.and_eq_true,decide_eq_true_eq] at h
  by_cases hc:c=32
  ·subst hc;exact .sp (ws:=[32]) (by simp) (by simp) (ih h.2)
  ·exact .chr (by lia) (ih h.2)
theorem ind_append (a b:T):ind (a++b)=ind a++ind b:=by
 induction a with
 | nil=>rfl
 | cons c t ih=>
  simp only [List.cons_append,ind]
  split
  ·simp [ih]
  ·simp [ih]
theorem ind_blank:∀ {ws:T},(∀ c∈ws,c=32∨c=10)→ws≠[]→ind ws≠[]∧∀ c∈ind ws,c=32∨c=10
 | [],_,hn=>absurd rfl hn
 | c::ws,h,_=>by
  have hw:∀ c∈ind ws,c=32∨c=10:=by
   by_cases e:ws=[]
   ·subst e;intro c h;cases h
   ·exact (ind_blank (fun c hc=>h c (List.mem_cons_of_mem _ hc)) e).2
  simp only [ind]
  split
  ·refine ⟨by simp,fun d hd=>?_⟩
   simp only [List.mem_cons] at hd
   rcases hd with rfl | rfl | rfl | rfl | rfl | hd
   ·exact .inr rfl
   ·exact .inl rfl
   ·exact .inl rfl
   ·exact .inl rfl
   ·exact .inl rfl
   ·exact hw d hd
  ·refine ⟨by simp,fun d hd=>?_⟩
   rcases List.mem_cons.mp hd with rfl | hd
   ·exact h d List.mem_cons_self
   ·exact hw d hd
theorem Eqv.ind {w f:T}(x:Eqv w f):Eqv (ind w) f:=by
 induction x with
 | nil=>exact .nil
 | chr h x ih=>
  rename_i c w f
  have:Mine.ind (c::w)=c::Mine.ind w:=by
   simp only [Mine.ind];rw [if_neg (by lia)]
  rw [this]
  exact .chr h ih
 | sp hn h x ih=>
  rw [ind_append]
  obtain ⟨h1,h2⟩:=ind_blank h hn
  exact .sp h1 h2 ih
theorem Eqv.lead {ws w f:T}(h:∀ c∈ws,c=32∨c=10) (hn:ws≠[]) (x:Eqv w f):Eqv (ws++w) (32::f):=.sp hn h x
mutual
theorem eqv:∀ d:Dc,WF d→Eqv (pretty d) (flat d)
 | .txt t,h=>Eqv.txt h
 | .cat a b,h=>(eqv a h.1).append (eqv b h.2)
 | .br .nil,h=>.chr (by lia) (.chr (by lia) .nil)
 | .br (.cons r rs),h=>by
  refine .chr (by lia) ?_
  have e:10::(indT (pretty r)++prettyRs rs++[125])=[10,32,32,32,32]++(ind (pretty r)++([10]++(prettyRs rs++[125]))):=by simp [indT]
  rw [e]
  refine Eqv.lead (by simp) (by simp) ?_
  rw [List.append_assoc]
  refine (eqv r h.1).ind.append ?_
  have:=eqvRs rs h.2.2 (tail:=[125]) (tail':=[125]) (.chr (by lia) .nil)
  simpa using this
theorem eqvRs:∀ (rs:DcL),WFs rs→∀ {tail tail':T},Eqv tail tail'→Eqv (10::(prettyRs rs++tail)) (flatRs rs++32::tail')
 | .nil,h,tail,tail',x=>Eqv.lead (ws:=[10]) (by simp) (by simp) x
 | .cons r rs,h,tail,tail',x=>by
  have e:10::(prettyRs (.cons r rs)++tail)=[10,32,32,32,32]++(ind (pretty r)++(10::(prettyRs rs++tail))):=by simp [prettyRs,indT]
  have e2:flatRs (.cons r rs)++32::tail'=32::(flat r++(flatRs rs++32::tail')):=by simp [flatRs]
  rw [e,e2]
  exact Eqv.lead (by simp) (by simp) ((eqv r h.1).ind.append (eqvRs rs h.2.2 x))
end
noncomputable def nls:T→Nat
 | []=>0
 | c::t=>(if c=10 then 1 else 0)+nls t
theorem nls_append (a b:T):nls (a++b)=nls a+nls b:=by
 induction a with
 | nil=>simp [nls]
 | cons c t ih=>simp only [List.cons_append,nls,ih];lia
theorem ind_len (t:T):(ind t).length=t.length+4*nls t:=by
 induction t with
 | nil=>rfl
 | cons c t ih=>
  simp only [ind,nls]
  split <;> simp only [List.length_cons,ih] <;> lia
theorem nls_ind (t:T):nls (ind t)=nls t:=by
 induction t with
 | nil=>rfl
 | cons c t ih=>
  simp only [ind,nls]
  split
  ·simp only [nls,ih];simp
  ·rename_i h
   simp only [nls,ih,if_neg h]
theorem nls_ok {t:T}(h:okT t=true):nls t=0:=by
 induction t with
 | nil=>rfl
 | cons c t ih=>
  simp only [okT,List.all_cons,Bool.and_eq_true,decide_eq_true_eq] at h
  simp only [nls,ih h.2,if_neg (show c≠10 by lia)]
mutual
noncomputable def dep:Dc→Nat
 | .txt _=>0
 | .cat a b=>max (dep a) (dep b)
 | .br rs=>depRs rs+1
noncomputable def depRs:DcL→Nat
 | .nil=>0
 | .cons r rs=>max (dep r) (depRs rs)
end
mutual
theorem nls_le:∀ d:Dc,WF d→nls (pretty d)≤(flat d).length
 | .txt t,h=>by simp only [pretty,nls_ok h];lia
 | .cat a b,h=>by simp only [pretty,flat,nls_append,List.length_append];have:=nls_le a h.1;have:=nls_le b h.2;lia
 | .br .nil,h=>by simp [pretty,flat,nls]
 | .br (.cons r rs),h=>by
  have h1:=nls_le r h.1
  have h2:=nlsRs_le rs h.2.2
  simp [pretty,flat,nls,nls_append,indT,nls_ind,List.length_append] at*
  lia
theorem nlsRs_le:∀ rs:DcL,WFs rs→nls (prettyRs rs)≤(flatRs rs).length
 | .nil,h=>by simp [prettyRs,flatRs,nls]
 | .cons r rs,h=>by
  have h1:=nls_le r h.1
  have h2:=nlsRs_le rs h.2.2
  simp [prettyRs,flatRs,nls,nls_append,indT,nls_ind,List.length_append] at*
  lia
end
mutual
theorem len_le:∀ d:Dc,WF d→∀ m,dep d≤m→(pretty d).length≤(flat d).length+4*m*nls (pretty d)
 | .txt t,h,m,hm=>by simp only [pretty,flat];lia
 | .cat a b,h,m,hm=>by
  simp only [dep] at hm
  simp only [pretty,flat,nls_append,List.length_append]
  have:=len_le a h.1 m (by lia)
  have:=len_le b h.2 m (by lia)
  rw [Nat.mul_add]
  lia
 | .br .nil,h,m,hm=>by simp [pretty,flat]
 | .br (.cons r rs),h,m,hm=>by
  simp only [dep,depRs] at hm
  cases m with
  | zero=>lia
  | succ m=>
   have h1:=len_le r h.1 m (by lia)
   have h2:=lenRs_le rs h.2.2 m (by lia)
   simp only [pretty,flat,nls,nls_append,indT,nls_ind,List.length_append,List.length_cons,List.length_nil,ind_len,if_true,if_neg (show (123:Nat)≠10 by decide),if_neg (show (32:Nat)≠10 by decide),if_neg (show (125:Nat)≠10 by decide)]
   generalize nls (pretty r)=x at*
   generalize nls (prettyRs rs)=y at*
   have e:4*(m+1)*(0+(1+(0+(0+(0+(0+(x+(1+0)))))+y+(0+0))))=4*m*x+4*m*y+4*x+4*y+8*m+8:=by
    have:0+(1+(0+(0+(0+(0+(x+(1+0)))))+y+(0+0)))=x+y+2:=by lia
    rw [this,Nat.mul_add,Nat.mul_add,Nat.mul_add 4 m 1,Nat.add_mul,Nat.add_mul,Nat.add_mul]
    lia
   have e3:(4*m+4)*y=4*m*y+4*y:=by rw [Nat.add_mul]
   rw [e]
   lia
theorem lenRs_le:∀ rs:DcL,WFs rs→∀ m,depRs rs≤m→(prettyRs rs).length≤(flatRs rs).length+(4*m+4)*nls (prettyRs rs)
 | .nil,h,m,hm=>by simp [prettyRs,flatRs]
 | .cons r rs,h,m,hm=>by
  simp only [depRs] at hm
  have h1:=len_le r h.1 m (by lia)
  have h2:=lenRs_le rs h.2.2 m (by lia)
  simp only [prettyRs,flatRs,nls,nls_append,indT,nls_ind,List.length_append,List.length_cons,List.length_nil,ind_len,if_true,if_neg (show (32:Nat)≠10 by decide)]
  generalize nls (pretty r)=x at*
  generalize nls (prettyRs rs)=y at*
  have e:(4*m+4)*(0+(0+(0+(0+(x+(1+0)))))+y)=4*m*x+4*x+4*m+4+(4*m+4)*y:=by
   have:0+(0+(0+(0+(x+(1+0)))))+y=x+1+y:=by lia
   rw [this,Nat.mul_add,Nat.mul_add,Nat.add_mul]
   lia
  rw [e]
  lia
end
theorem len_bound {d:Dc}(h:WF d){n:Nat}(hf:(flat d).length≤n) (hd:dep d≤8):(pretty d).length≤33*n:=by
 have h1:=len_le d h 8 hd
 have h2:=nls_le d h
 lia
end
section
open PySem
noncomputable def stL (st:List T×T) (c:Nat):List T×T:=if Unicode.isSpace c=true then (if st.2=[] then st else (st.1++[st.2],[])) else (st.1,st.2++[c])
noncomputable def finL (st:List T×T):List T:=if st.2=[] then st.1 else st.1++[st.2]
noncomputable def toL (st:List Str×Str):List T×T:=(st.1.map (·.cps.toList),st.2.cps.toList)
theorem len0_iff (x:Str):x.length=0↔x.cps.toList=[]:=by
 constructor
 ·intro h
  have:x.cps.toList.length=0:=by simpa [Str.length] using h
  exact List.length_eq_zero_iff.mp this
 ·intro h
  have:x.cps.size=0:=by simpa using congrArg List.length h
  exact this
theorem step_L (st:List Str×Str) (c:Nat):toL (KWd.step st c)=stL (toL st) c:=by
 obtain ⟨ws,run⟩:=st
 unfold KWd.step
 have e:stL (toL (ws,run)) c=if Unicode.isSpace c=true then (if run.cps.toList=[] then (ws.map (·.cps.toList),run.cps.toList) else (ws.map (·.cps.toList)++[run.cps.toList],[])) else (ws.map (·.cps.toList),run.cps.toList++[c]):=rfl
 rw [e]
 by_cases hc:Unicode.isSpace c=true
 ·rw [if_pos hc,if_pos hc]
  by_cases h:run.length=0
  ·have h':=(len0_iff _).mp h
   have h2:(ws,run).2.length=0:=h
   rw [if_pos h2,if_pos h']
   rfl
  ·have h':¬ run.cps.toList=[]:=fun e=>h ((len0_iff _).mpr e)
   have h2:¬ (ws,run).2.length=0:=h
   rw [if_neg h2,if_neg h']
   simp [toL,Str.empty]
 ·rw [if_neg hc,if_neg hc]
  simp [toL,Str.cps_append]
theorem scan_L (l:List Nat):∀ st:List Str×Str,toL (l.foldl KWd.step st)=l.foldl stL (toL st):=by
 induction l with
 | nil=>intro st;rfl
 | cons c l ih=>intro st;rw [List.foldl_cons,List.foldl_cons,ih,step_L]
theorem wordsT_eq (t:T):wordsT t=finL (t.foldl stL ([],[])):=by
 unfold wordsT
 rw [KWd.words_scan]
 have h:=scan_L t ([],Str.empty)
 have e:toL ([],Str.empty)=([],[]):=rfl
 rw [e] at h
 rw [←h]
 unfold KWd.scan KWd.fin
 show _=finL (toL (t.foldl KWd.step ([],Str.empty)))
 generalize t.foldl KWd.step ([],Str.empty)=st
 obtain ⟨ws,run⟩:=st
 have e:finL (toL (ws,run))=if run.cps.toList=[] then ws.map (·.cps.toList) else ws.map (·.cps.toList)++[run.cps.toList]:=rfl
 rw [e]
 by_cases hl:run.length=0
 ·have h2:(ws,run).2.length=0:=hl
  rw [if_pos h2,if_pos ((len0_iff _).mp hl)]
 ·have h2:¬ (ws,run).2.length=0:=hl
  rw [if_neg h2,if_neg (fun e=>hl ((len0_iff _).mpr e))]
  simp
theorem notSpace:∀ c < 127,33≤c→Unicode.isSpace c=false:=by decide +kernel
theorem space32:Unicode.isSpace 32=true:=by decide +kernel
theorem space10:Unicode.isSpace 10=true:=by decide +kernel
theorem foldl_blank:∀ {ws:T}(st:List T×T),(∀ c∈ws,c=32∨c=10)→ws≠[]→ws.foldl stL st=stL st 32
 | [],st,_,hn=>absurd rfl hn
 | c::ws,st,h,_=>by
  have hc:stL st c=stL st 32:=by
   rcases h c List.mem_cons_self with rfl | rfl
   ·rfl
   ·unfold stL;rw [space10,space32];simp only [if_true]
  rw [List.foldl_cons,hc]
  by_cases e:ws=[]
  ·subst e;rfl
  ·rw [foldl_blank _ (fun c hc=>h c (List.mem_cons_of_mem _ hc)) e]
   unfold stL
   rw [space32]
   simp only [if_true]
   by_cases e2:st.2=[]
   ·rw [if_pos e2,if_pos e2]
   ·rw [if_neg e2];simp
theorem Eqv.words {w f:T}(x:Eqv w f):∀ st:List T×T,w.foldl stL st=f.foldl stL st:=by
 induction x with
 | nil=>intro st;rfl
 | chr h x ih=>intro st;rw [List.foldl_cons,List.foldl_cons,ih]
 | sp hn h x ih=>intro st;rw [List.foldl_append,foldl_blank _ h hn,List.foldl_cons,ih]
theorem joinT_cons (s a b:T) (r:List T):joinT s (a::b::r)=a++s++joinT s (b::r):=rfl
theorem joinT_snoc (s:T):∀ (ws:List T) (a:T),ws≠[]→joinT s (ws++[a])=joinT s ws++s++a
 | [],_,h=>absurd rfl h
 | [w],a,_=>by simp [joinT]
 | w::v::ws,a,_=>by
  show joinT s (w::((v::ws)++[a]))=_
  have:=joinT_snoc s (v::ws) a (by simp)
  simp only [List.cons_append] at this ⊢
  rw [joinT_cons,this,joinT_cons]
  simp
theorem joinT_last (s:T):∀ (ws:List T) (a b:T),joinT s (ws++[a++b])=joinT s (ws++[a])++b
 | [],a,b=>by simp [joinT]
 | w::ws,a,b=>by
  rw [joinT_snoc s (w::ws) _ (by simp),joinT_snoc s (w::ws) _ (by simp)]
  simp
theorem nd_tail {c:Nat}{t:T}(h:nd (c::t)=true):nd t=true:=by
 simp only [nd,Bool.and_eq_true] at h;exact h.2
theorem words_join:∀ (t:T) (ws:List T) (run:T),(∀ c∈t,32≤c∧c≤126)→nd t=true→(t=[]∨∃ r c,t=r++[c]∧c≠32)→
  (run≠[]→joinT [32] (finL (t.foldl stL (ws,run)))=joinT [32] (ws++[run])++t)∧
  (run=[]→t≠[]→t.head?≠some 32→joinT [32] (finL (t.foldl stL (ws,run)))=(if ws=[] then t else joinT [32] ws++32::t))
 | [],ws,run,_,_,_=>⟨fun h=>by simp [finL,h],fun _ h=>absurd rfl h⟩
 | c::t,ws,run,hc,hnd,hl=>by
  have hc':∀ c∈t,32≤c∧c≤126:=fun d hd=>hc d (List.mem_cons_of_mem _ hd)
  have hl':c≠32→(t=[]∨∃ r c,t=r++[c]∧c≠32):=fun h=>by
   rcases hl with hl | ⟨r,d,hl,hd⟩
   ·cases hl
   ·cases r with
    | nil=>simp at hl;exact .inl hl.2
    | cons x r=>simp at hl;exact .inr ⟨r,d,hl.2,hd⟩
  have nonsp:c≠32→∀ st,stL st c=(st.1,st.2++[c]):=fun h st=>by
   have:=hc c List.mem_cons_self
   unfold stL
   rw [notSpace c (by lia) (by lia)]
   simp
  refine ⟨fun hr=>?_,fun hr _ hh=>?_⟩
  ·by_cases e:c=32
   ·subst e
    have ht:t≠[]∧t.head?≠some 32∧∃ r c,t=r++[c]∧c≠32:=by
     rcases hl with hl | ⟨r,d,hl,hd⟩
     ·cases hl
     ·cases r with
      | nil=>simp at hl;exact absurd hl.1.symm hd
      | cons x r=>
       simp at hl
       refine ⟨by rw [hl.2];simp,?_,r,d,hl.2,hd⟩
       simp only [nd,Bool.and_eq_true,beq_self_eq_true,Bool.true_and,Bool.not_eq_true',beq_eq_false_iff_ne] at hnd
       exact hnd.1
    have e1:stL (ws,run) 32=(ws++[run],[]):=by
     unfold stL;rw [space32];simp [hr]
    rw [List.foldl_cons,e1,(words_join t (ws++[run]) [] hc' (nd_tail hnd) (.inr ht.2.2)).2 rfl ht.1 ht.2.1]
    simp
   ·rw [List.foldl_cons,nonsp e,(words_join t ws (run++[c]) hc' (nd_tail hnd) (hl' e)).1 (by simp),joinT_last]
    simp
  ·have e:c≠32:=fun e=>hh (by simp [e])
   subst hr
   rw [List.foldl_cons,nonsp e,(words_join t ws ([]++[c]) hc' (nd_tail hnd) (hl' e)).1 (by simp)]
   split
   ·rename_i h;subst h;simp [joinT]
   ·rename_i h
    rw [joinT_snoc _ _ _ h];simp
theorem okT_mem {t:T}(h:okT t=true):∀ c∈t,32≤c∧c≤126:=fun c hc=>by
 have:=List.all_eq_true.mp h c hc
 simpa using this
theorem join_words {w f:T}(x:Eqv w f) (hf:okT f=true) (hd:∃ c r,f=c::r∧c≠32) (tl:∃ r c,f=r++[c]∧c≠32) (hn:nd f=true):joinT [32] (wordsT (w++[10]))=f:=by
 rw [wordsT_eq,List.foldl_append,x.words]
 have e:∀ st:List T×T,finL ([10].foldl stL st)=finL st:=fun st=>by
  show finL (stL st 10)=_
  unfold stL finL
  rw [space10]
  simp only [if_true]
  by_cases h:st.2=[]
  ·simp [h]
  ·simp [h]
 rw [e]
 obtain ⟨c,r,rfl,hc⟩:=hd
 have:=(words_join (c::r) [] [] (okT_mem hf) hn (.inr tl)).2 rfl (by simp) (by simpa using hc)
 simpa using this
noncomputable def lines:T→List T
 | []=>[[]]
 | c::t=>if c=10 then []::lines t else match lines t with
  | l::ls=>(c::l)::ls
  | []=>[[c]]
theorem lines_ne (t:T):lines t≠[]:=by
 cases t with
 | nil=>simp [lines]
 | cons c t=>
  simp only [lines]
  split
  ·simp
  ·split <;> simp
theorem lines_free {l:T}(h:10∉l):lines l=[l]:=by
 induction l with
 | nil=>rfl
 | cons c l ih=>
  simp only [List.mem_cons,not_or] at h
  simp only [lines,if_neg (Ne.symm h.1),ih h.2]
theorem lines_app {l:T}(h:10∉l) (t:T):lines (l++10::t)=l::lines t:=by
 induction l with
 | nil=>simp [lines]
 | cons c l ih=>
  simp only [List.mem_cons,not_or] at h
  simp only [List.cons_append,lines,if_neg (Ne.symm h.1),ih h.2]
theorem lines_join:∀ (ps:List T),ps≠[]→(∀ p∈ps,10∉p)→lines (joinT [10] ps)=ps
 | [],h,_=>absurd rfl h
 | [p],_,h=>by simp only [joinT];exact lines_free (h p (by simp))
 | p::q::ps,_,h=>by
  have e:joinT [10] (p::q::ps)=p++10::joinT [10] (q::ps):=by
   rw [joinT_cons];simp
  rw [e,lines_app (h p (by simp)),lines_join (q::ps) (by simp) fun p hp=>h p (List.mem_cons_of_mem _ hp)]
theorem join_toL (sep:Str):∀ ps:List Str,(Str.join sep ps).cps.toList=joinT sep.cps.toList (ps.map (·.cps.toList))
 | []=>rfl
 | [p]=>rfl
 | p::q::ps=>by
  show (p++sep++Str.join sep (q::ps)).cps.toList=_
  rw [Str.cps_append,Str.cps_append,Array.toList_append,Array.toList_append,join_toL sep (q::ps)]
  simp only [List.map_cons]
  rw [joinT_cons]
theorem splitT_eq (t:T):splitT t [10]=lines t:=by
 have hfree:∀ p∈splitT t [10],10∉p:=by
  intro p hp
  obtain ⟨q,hq,rfl⟩:=List.mem_map.mp hp
  exact StrLaws.split_free ⟨t.toArray⟩ 10 q hq
 have hjoin:joinT [10] (splitT t [10])=t∧splitT t [10]≠[]:=by
  unfold splitT Txt.split
  split
  ·simp [joinT]
  ·split
   ·simp [joinT]
   ·refine ⟨?_,?_⟩
    ·have:=StrLaws.glued_between_self ⟨t.toArray⟩ ⟨[10].toArray⟩ ((⟨t.toArray⟩:Str).length+1)
     rw [StrLaws.glued_eq_join] at this
     have h2:=congrArg (fun s:Str=>s.cps.toList) this
     simp only [join_toL] at h2
     simpa using h2
    ·rw [StrLaws.partsBetween_eq]
     obtain ⟨p,r,e⟩:=StrLaws.partsFrom_ne ⟨t.toArray⟩ (⟨[10].toArray⟩:Str).length 0 (Builtin.Str.occurrences ⟨t.toArray⟩ ⟨[10].toArray⟩ 0 (⟨t.toArray⟩:Str).length ((⟨t.toArray⟩:Str).length+1))
     rw [e];simp
 have:=lines_join _ hjoin.2 hfree
 rw [hjoin.1] at this
 exact this.symm
theorem lstripT_eq (k:Nat) (t:T) (h:t=[]∨∃ c r,t=c::r∧c≠32):lstripT (List.replicate k 32++t) [32]=t:=by
 unfold lstripT Txt.lstripChars
 rw [PyProof.Rows.stripBy_eq,StrLaws.strSub_toList]
 have e1:stripLo (([32]:T).toArray.contains) true (⟨(List.replicate k 32++t).toArray⟩:Str)=k:=by
  show (List.takeWhile (([32]:T).toArray.contains) (List.replicate k 32++t).toArray.toList).length=k
  have:(List.replicate k 32++t).toArray.toList=List.replicate k 32++t:=by simp
  rw [this]
  clear this
  induction k with
  | zero=>
   rcases h with rfl | ⟨c,r,rfl,hc⟩
   ·rfl
   ·simp [hc]
  | succ k ih=>
   have ih:(List.takeWhile (([32]:T).toArray.contains) (List.replicate k 32++t)).length=k:=ih
   rw [List.replicate_succ,List.cons_append,List.takeWhile_cons]
   rw [if_pos (by simp),List.length_cons,ih]
 have e2:∀ n,stripHi (([32]:T).toArray.contains) false (⟨(List.replicate k 32++t).toArray⟩:Str) n=k+t.length:=fun n=>by
  show (⟨(List.replicate k 32++t).toArray⟩:Str).length=_
  simp [Str.length]
 rw [e2,e1]
 simp
end
section
open PySem
noncomputable def sp (n:Nat):T:=List.replicate (4*n) 32
noncomputable def RowAt (d:Nat) (row:T) (d':Nat):Prop:=∃ inner here,(∃ c r,inner=c::r∧c≠32∧here+(if c=125 then 1 else 0)=d)∧(∃ r c,inner=r++[c]∧d'=here+(if c=123 then 1 else 0))∧row=sp here++inner
inductive Run:Nat→List T→Nat→Prop
 | nil (d):Run d [] d
 | cons {d d' d'':Nat}{row:T}{rows:List T}(h:RowAt d row d') (x:Run d' rows d''):Run d (row::rows) d''
theorem Run.append {d d' d'':Nat}{a b:List T}(x:Run d a d') (y:Run d' b d''):Run d (a++b) d'':=by
 induction x with
 | nil=>exact y
 | cons h x ih=>exact .cons h (ih y)
noncomputable def glue:List T→List T→List T
 | [],Y=>Y
 | [l],m::Y=>(l++m)::Y
 | [l],[]=>[l]
 | l::X,Y=>l::glue X Y
noncomputable def shift (L:List T):List T:=L.map fun l=>32::32::32::32::l
mutual
noncomputable def dl:Dc→List T
 | .txt t=>[t]
 | .cat a b=>glue (dl a) (dl b)
 | .br .nil=>[[123,125]]
 | .br (.cons r rs)=>[123]::(shift (dl r)++dlRs rs++[[125]])
noncomputable def dlRs:DcL→List T
 | .nil=>[]
 | .cons r rs=>shift (dl r)++dlRs rs
end
theorem glue_ne:∀ {X Y:List T},X≠[]→glue X Y≠[]
 | [],_,h=>absurd rfl h
 | [l],[],_=>by simp [glue]
 | [l],m::Y,_=>by simp [glue]
 | l::l'::X,Y,_=>by simp [glue]
theorem glue_cons (l l':T) (X Y:List T):glue (l::l'::X) Y=l::glue (l'::X) Y:=rfl
theorem joinT_ne (s a:T){r:List T}(h:r≠[]):joinT s (a::r)=a++s++joinT s r:=by
 cases r with
 | nil=>exact absurd rfl h
 | cons b r=>rfl
theorem glue_join:∀ {X Y:List T},X≠[]→Y≠[]→joinT [10] (glue X Y)=joinT [10] X++joinT [10] Y
 | [],_,h,_=>absurd rfl h
 | [l],[],_,h=>absurd rfl h
 | [l],[m],_,_=>by simp [glue,joinT]
 | [l],m::m'::Y,_,_=>by simp [glue,joinT_cons,joinT]
 | l::l'::X,Y,_,h=>by
  rw [glue_cons,joinT_ne _ _ (glue_ne (by simp)),glue_join (by simp) h,joinT_cons]
  simp
theorem glue_free:∀ {X Y:List T},(∀ p∈X,10∉p)→(∀ p∈Y,10∉p)→∀ p∈glue X Y,10∉p
 | [],Y,_,h=>h
 | [l],[],h,_=>h
 | [l],m::Y,h1,h2=>fun p hp=>by
  simp only [glue,List.mem_cons] at hp
  rcases hp with rfl | hp
  ·simp only [List.mem_append,not_or]
   exact ⟨h1 l (by simp),h2 m (by simp)⟩
  ·exact h2 p (by simp [hp])
 | l::l'::X,Y,h1,h2=>fun p hp=>by
  rw [glue_cons] at hp
  rcases List.mem_cons.mp hp with rfl | hp
  ·exact h1 p (by simp)
  ·exact glue_free (fun p hp=>h1 p (List.mem_cons_of_mem _ hp)) h2 p hp
noncomputable def lns (L:List T):T:=L.flatMap (·++[10])
theorem ind_free {t:T}(h:10∉t):ind t=t:=by
 induction t with
 | nil=>rfl
 | cons c t ih=>
  simp only [List.mem_cons,not_or] at h
  simp only [ind,if_neg (Ne.symm h.1),ih h.2]
theorem indT_join:∀ {L:List T},L≠[]→(∀ p∈L,10∉p)→indT (joinT [10] L)=lns (shift L)
 | [],h,_=>absurd rfl h
 | [l],_,h=>by simp [joinT,indT,lns,shift,ind_free (h l (by simp))]
 | l::l'::L,_,h=>by
  have ih:=indT_join (L:=l'::L) (by simp) fun p hp=>h p (List.mem_cons_of_mem _ hp)
  rw [joinT_cons]
  simp only [indT,ind_append,ind_free (h l (by simp))] at ih ⊢
  simp only [lns,shift,List.map_cons,List.flatMap_cons] at ih ⊢
  have e:ind [10]=[10,32,32,32,32]:=by simp [ind]
  rw [e,←ih]
  simp
theorem lns_append (a b:List T):lns (a++b)=lns a++lns b:=by simp [lns]
theorem lns_join (L:List T) (z:T):joinT [10] (L++[z])=lns L++z:=by
 induction L with
 | nil=>simp [joinT,lns]
 | cons l L ih=>
  rw [List.cons_append,joinT_ne _ _ (by simp),ih]
  simp [lns]
theorem shift_free {L:List T}(h:∀ p∈L,10∉p):∀ p∈shift L,10∉p:=by
 intro p hp
 obtain ⟨q,hq,rfl⟩:=List.mem_map.mp hp
 simp only [List.mem_cons,not_or]
 exact ⟨by decide,by decide,by decide,by decide,h q hq⟩
mutual
theorem dl_ok:∀ d:Dc,WF d→dl d≠[]∧(∀ p∈dl d,10∉p)∧pretty d=joinT [10] (dl d)
 | .txt t,h=>⟨by simp [dl],fun p hp=>by
   simp only [dl,List.mem_singleton] at hp
   subst hp
   exact fun q=>by have:=okT_mem h 10 q;lia,by simp [dl,joinT,pretty]⟩
 | .cat a b,h=>by
  obtain ⟨a1,a2,a3⟩:=dl_ok a h.1
  obtain ⟨b1,b2,b3⟩:=dl_ok b h.2
  exact ⟨glue_ne a1,glue_free a2 b2,by simp only [pretty,dl];rw [glue_join a1 b1,a3,b3]⟩
 | .br .nil,h=>⟨by simp [dl],fun p hp=>by simp [dl] at hp;subst hp;decide,by simp [dl,joinT,pretty]⟩
 | .br (.cons r rs),h=>by
  obtain ⟨a1,a2,a3⟩:=dl_ok r h.1
  obtain ⟨b2,b3⟩:=dlRs_ok rs h.2.2
  refine ⟨by simp [dl],fun p hp=>?_,?_⟩
  ·simp only [dl,List.mem_cons,List.mem_append,List.not_mem_nil,or_false] at hp
   rcases hp with rfl | (hp | hp) | rfl
   ·decide
   ·exact shift_free a2 p hp
   ·exact b2 p hp
   ·decide
  ·simp only [pretty,dl]
   rw [a3,indT_join a1 a2,b3,joinT_ne _ _ (by simp),lns_join,lns_append]
   simp
theorem dlRs_ok:∀ rs:DcL,WFs rs→(∀ p∈dlRs rs,10∉p)∧prettyRs rs=lns (dlRs rs)
 | .nil,h=>⟨fun p hp=>by simp [dlRs] at hp,rfl⟩
 | .cons r rs,h=>by
  obtain ⟨a1,a2,a3⟩:=dl_ok r h.1
  obtain ⟨b2,b3⟩:=dlRs_ok rs h.2.2
  refine ⟨fun p hp=>?_,?_⟩
  ·simp only [dlRs,List.mem_append] at hp
   rcases hp with hp | hp
   ·exact shift_free a2 p hp
   ·exact b2 p hp
  ·simp only [prettyRs,dlRs]
   rw [a3,indT_join a1 a2,b3,lns_append]
end
noncomputable def Shape (L:List T):Prop:=(∃ a,L=[a])∨∃ a ms z,L=(a++[123])::(ms++[125::z])∧∀ n,Run (n+1) (ms.map (sp n++·)) (n+1)
theorem glue_snoc (l m:T) (Y:List T):∀ (X:List T),glue (X++[l]) (m::Y)=X++(l++m)::Y
 | []=>rfl
 | [x]=>rfl
 | x::y::X=>by
  show glue (x::y::(X++[l])) (m::Y)=_
  rw [glue_cons]
  have:=glue_snoc l m Y (y::X)
  rw [List.cons_append] at this
  rw [this];rfl
theorem Shape.glue {X Y:List T}(x:Shape X) (y:Shape Y):Shape (glue X Y):=by
 rcases x with ⟨a,rfl⟩ | ⟨a,ms,z,rfl,hx⟩
 ·rcases y with ⟨b,rfl⟩ | ⟨b,ms',z',rfl,hy⟩
  ·exact .inl ⟨_,rfl⟩
  ·exact .inr ⟨a++b,ms',z',by simp [Mine.glue],hy⟩
 ·rcases y with ⟨b,rfl⟩ | ⟨b,ms',z',rfl,hy⟩
  ·refine .inr ⟨a,ms,z++b,?_,hx⟩
   have:=glue_snoc (125::z) b [] ((a++[123])::ms)
   simpa using this
  ·refine .inr ⟨a,ms++(125::(z++b++[123]))::ms',z',?_,fun n=>?_⟩
   ·have:=glue_snoc (125::z) (b++[123]) (ms'++[125::z']) ((a++[123])::ms)
    simpa using this
   ·rw [List.map_append,List.map_cons]
    refine (hx n).append (.cons ⟨125::(z++b++[123]),n,⟨125,_,rfl,by decide,by simp⟩,⟨125::(z++b),123,by simp,by simp⟩,rfl⟩ (hy n))
theorem Eqv.head {w f:T}(x:Eqv w f){c:Nat}{r:T}(h:f=c::r) (hc:c≠32):(33≤c∧c≤126)∧∃ r',w=c::r':=by
 cases x with
 | nil=>cases h
 | chr h2 x=>cases h;exact ⟨h2,_,rfl⟩
 | sp hn h2 x=>cases h;exact absurd rfl hc
theorem Eqv.last {w f:T}(x:Eqv w f):∀ {c:Nat}{r:T},f=r++[c]→c≠32→(33≤c∧c≤126)∧∃ r',w=r'++[c]:=by
 induction x with
 | nil=>intro c r h;simp at h
 | chr h2 x ih=>
  intro c r h hc
  cases r with
  | nil=>
   simp at h
   obtain ⟨rfl,rfl⟩:=h
   cases x
   exact ⟨h2,[],rfl⟩
  | cons d r=>
   simp at h
   obtain ⟨q,r',rfl⟩:=ih h.2 hc
   exact ⟨q,_::r',rfl⟩
 | sp hn h2 x ih=>
  intro c r h hc
  cases r with
  | nil=>simp at h;exact absurd h.1.symm hc
  | cons d r=>
   simp at h
   obtain ⟨q,r',rfl⟩:=ih h.2 hc
   exact ⟨q,_,by rw [←List.append_assoc]⟩
theorem join_head {l:T}{L:List T}{c:Nat}{r:T}(h:joinT [10] (l::L)=c::r) (hc:c≠10):∃ r',l=c::r':=by
 cases L with
 | nil=>exact ⟨r,h⟩
 | cons m L=>
  rw [joinT_cons] at h
  cases l with
  | nil=>simp at h;exact absurd h.1.symm hc
  | cons d l=>simp at h;exact ⟨l,by rw [h.1]⟩
theorem join_last {L:List T}{z:T}{c:Nat}{r:T}(h:joinT [10] (L++[z])=r++[c]) (hc:c≠10):∃ r',z=r'++[c]:=by
 rw [lns_join] at h
 rcases List.eq_nil_or_concat z with rfl | ⟨z',d,rfl⟩
 ·rcases List.eq_nil_or_concat L with rfl | ⟨L',l,rfl⟩
  ·simp [lns] at h
  ·rw [List.concat_eq_append,lns_append] at h
   simp only [lns,List.flatMap_cons,List.flatMap_nil,List.append_nil] at h
   rw [←List.append_assoc] at h
   have:=List.append_inj_right' h rfl
   simp at this
   exact absurd this.symm hc
 ·rw [List.concat_eq_append,←List.append_assoc] at h
  have:=List.append_inj_right' h rfl
  simp at this
  subst this
  exact ⟨z',by simp⟩
theorem run_row {d:Dc}(h:WF d) (hr:Row (flat d)) (hs:Shape (dl d)) (n:Nat):Run n ((dl d).map (sp n++·)) n:=by
 obtain ⟨c,r,e1,h32,h125⟩:=hr.hd
 obtain ⟨r2,c2,e2,g32,g123⟩:=hr.tl
 have x:=eqv d h
 obtain ⟨q1,w1,f1⟩:=x.head e1 h32
 obtain ⟨q2,w2,f2⟩:=x.last e2 g32
 have hj:=(dl_ok d h).2.2
 rcases hs with ⟨a,e⟩ | ⟨a,ms,z,e,hrun⟩
 ·rw [e] at hj ⊢
  have hja:pretty d=a:=by rw [hj];rfl
  rw [hja] at f1 f2
  exact .cons ⟨a,n,⟨c,w1,f1,h32,by simp [h125]⟩,⟨w2,c2,f2,by simp [g123]⟩,rfl⟩ (.nil n)
 ·rw [e] at hj ⊢
  rw [hj] at f1 f2
  obtain ⟨a',ha⟩:=join_head f1 (by lia)
  rw [←List.cons_append] at f2
  obtain ⟨z',hz⟩:=join_last f2 (by lia)
  rw [List.map_cons,List.map_append]
  refine .cons ⟨a++[123],n,⟨c,a',ha,h32,by simp [h125]⟩,⟨a,123,rfl,rfl⟩,rfl⟩ ((hrun n).append ?_)
  exact .cons ⟨125::z,n,⟨125,z,rfl,by decide,rfl⟩,⟨z',c2,hz,by simp [g123]⟩,rfl⟩ (.nil n)
theorem sp_shift (n:Nat) (L:List T):(shift L).map (sp n++·)=L.map (sp (n+1)++·):=by
 have e:sp (n+1)=sp n++[32,32,32,32]:=by
  unfold sp
  rw [Nat.mul_add,←List.replicate_append_replicate]
  rfl
 simp [shift,e,List.map_map,Function.comp_def]
mutual
theorem shape:∀ d:Dc,WF d→Shape (dl d)
 | .txt t,h=>.inl ⟨t,rfl⟩
 | .cat a b,h=>(shape a h.1).glue (shape b h.2)
 | .br .nil,h=>.inl ⟨_,rfl⟩
 | .br (.cons r rs),h=>by
  refine .inr ⟨[],shift (dl r)++dlRs rs,[],rfl,fun n=>?_⟩
  rw [List.map_append,sp_shift]
  exact (run_row h.1 h.2.1 (shape r h.1) (n+1)).append (shapeRs rs h.2.2 n)
theorem shapeRs:∀ rs:DcL,WFs rs→∀ n,Run (n+1) ((dlRs rs).map (sp n++·)) (n+1)
 | .nil,h,n=>.nil _
 | .cons r rs,h,n=>by
  simp only [dlRs]
  rw [List.map_append,sp_shift]
  exact (run_row h.1 h.2.1 (shape r h.1) (n+1)).append (shapeRs rs h.2.2 n)
end
theorem rows_right {d:Dc}(h:WF d) (hr:Row (flat d)):Run 0 (dl d) 0:=by
 have:=run_row h hr (shape d h) 0
 simpa [sp] using this
end
section
open PySem PySem.W
noncomputable abbrev i_write_angles:Nat:=116195194222048146608192513395
theorem g_write_angles:getF FN i_write_angles=some f_write_angles:=rfl
noncomputable abbrev i_write_path:Nat:=1772997958710451706623080
theorem g_write_path:getF FN i_write_path=some f_write_path:=rfl
noncomputable abbrev i_write_type:Nat:=1772997958710451775303781
theorem g_write_type:getF FN i_write_type=some f_write_type:=rfl
noncomputable abbrev i_write_row:Nat:=6925773276212702113655
theorem g_write_row:getF FN i_write_row=some f_write_row:=rfl
noncomputable abbrev i_write_generics:Nat:=7614968248536147765934460729123699
theorem g_write_generics:getF FN i_write_generics=some f_write_generics:=rfl
noncomputable abbrev i_write_pattern:Nat:=29745969720844329739584251720302
theorem g_write_pattern:getF FN i_write_pattern=some f_write_pattern:=rfl
noncomputable abbrev i_write_part:Nat:=1772997958710451706622580
theorem g_write_part:getF FN i_write_part=some f_write_part:=rfl
noncomputable abbrev i_write_referred:Nat:=7614968248536148558559199053899108
theorem g_write_referred:getF FN i_write_referred=some f_write_referred:=rfl
noncomputable abbrev i_write_literal:Nat:=29745969720844328622480187089260
theorem g_write_literal:getF FN i_write_literal=some f_write_literal:=rfl
noncomputable abbrev i_write_variant:Nat:=29745969720844331428425337237108
theorem g_write_variant:getF FN i_write_variant=some f_write_variant:=rfl
noncomputable abbrev i_is_long:Nat:=101739320270876263
theorem g_is_long:getF FN i_is_long=some f_is_long:=rfl
noncomputable abbrev i_write_fields:Nat:=116195194222048152084242261107
theorem g_write_fields:getF FN i_write_fields=some f_write_fields:=rfl
noncomputable abbrev i_level_of:Nat:=26257523380435513190
theorem g_level_of:getF FN i_level_of=some f_level_of:=rfl
noncomputable abbrev i_write_expr:Nat:=1772997958710451523580018
theorem g_write_expr:getF FN i_write_expr=some f_write_expr:=rfl
noncomputable abbrev i_written:Nat:=105678913517413742
theorem g_written:getF FN i_written=some f_written:=rfl
noncomputable abbrev i_write_ahead:Nat:=453887477429875572587454820
theorem g_write_ahead:getF FN i_write_ahead=some f_write_ahead:=rfl
noncomputable abbrev i_write_side:Nat:=1772997958710451757474917
theorem g_write_side:getF FN i_write_side=some f_write_side:=rfl
noncomputable abbrev i_write_operated:Nat:=7614968248536148345481597721797988
theorem g_write_operated:getF FN i_write_operated=some f_write_operated:=rfl
noncomputable abbrev i_write_list:Nat:=1772997958710451640038260
theorem g_write_list:getF FN i_write_list=some f_write_list:=rfl
noncomputable abbrev i_write_behind:Nat:=116195194222048147669066018404
theorem g_write_behind:getF FN i_write_behind=some f_write_behind:=rfl
noncomputable abbrev i_write_gathered:Nat:=7614968248536147764815170559436132
theorem g_write_gathered:getF FN i_write_gathered=some f_write_gathered:=rfl
noncomputable abbrev i_write_jump:Nat:=1772997958710451607268720
theorem g_write_jump:getF FN i_write_jump=some f_write_jump:=rfl
noncomputable abbrev i_write_condition:Nat:=1949431871625253755012820454215348078
theorem g_write_condition:getF FN i_write_condition=some f_write_condition:=rfl
noncomputable abbrev i_write_block_like:Nat:=499054559136064956505647099416295336805
theorem g_write_block_like:getF FN i_write_block_like=some f_write_block_like:=rfl
noncomputable abbrev i_write_bound:Nat:=453887477429875577000914532
theorem g_write_bound:getF FN i_write_bound=some f_write_bound:=rfl
noncomputable abbrev i_write_if:Nat:=27053801860205865318
theorem g_write_if:getF FN i_write_if=some f_write_if:=rfl
noncomputable abbrev i_write_match:Nat:=453887477429875624010605416
theorem g_write_match:getF FN i_write_match=some f_write_match:=rfl
noncomputable abbrev i_write_rows:Nat:=1772997958710451741095795
theorem g_write_rows:getF FN i_write_rows=some f_write_rows:=rfl
noncomputable abbrev i_indented:Nat:=26043864081937753444
theorem g_indented:getF FN i_indented=some f_indented:=rfl
noncomputable abbrev i_write_block:Nat:=453887477429875576950186859
theorem g_write_block:getF FN i_write_block=some f_write_block:=rfl
noncomputable abbrev i_write_statement:Nat:=1949431871625254050517372003949047412
theorem g_write_statement:getF FN i_write_statement=some f_write_statement:=rfl
noncomputable abbrev i_write_items:Nat:=453887477429875607148522867
theorem g_write_items:getF FN i_write_items=some f_write_items:=rfl
noncomputable abbrev i_write_item:Nat:=1772997958710451590423917
theorem g_write_item:getF FN i_write_item=some f_write_item:=rfl
noncomputable abbrev i_write_fn:Nat:=27053801860205864558
theorem g_write_fn:getF FN i_write_fn=some f_write_fn:=rfl
noncomputable abbrev i_write_form:Nat:=1772997958710451539767917
theorem g_write_form:getF FN i_write_form=some f_write_form:=rfl
noncomputable abbrev i_write_impl:Nat:=1772997958710451589967980
theorem g_write_impl:getF FN i_write_impl=some f_write_impl:=rfl
noncomputable abbrev i_law_pool:Nat:=6482616824352681717612
theorem g_law_pool:getF FN i_law_pool=some f_law_pool:=rfl
noncomputable abbrev i_law_take:Nat:=6482616824352747907941
theorem g_law_take:getF FN i_law_take=some f_law_take:=rfl
noncomputable abbrev i_law_one:Nat:=25322721970127597157
theorem g_law_one:getF FN i_law_one=some f_law_one:=rfl
noncomputable abbrev i_law_path:Nat:=6482616824352680801384
theorem g_law_path:getF FN i_law_path=some f_law_path:=rfl
noncomputable abbrev i_law_type:Nat:=6482616824352749482085
theorem g_law_type:getF FN i_law_type=some f_law_type:=rfl
noncomputable abbrev i_law_type_flat:Nat:=7127712576792175460668829040664948
theorem g_law_type_flat:getF FN i_law_type_flat=some f_law_type_flat:=rfl
noncomputable abbrev i_law_pattern:Nat:=108760262707398985984080441966
theorem g_law_pattern:getF FN i_law_pattern=some f_law_pattern:=rfl
noncomputable abbrev i_law_leaf:Nat:=6482616824352613949798
theorem g_law_leaf:getF FN i_law_leaf=some f_law_leaf:=rfl
noncomputable abbrev i_law_expr:Nat:=6482616824352497758322
theorem g_law_expr:getF FN i_law_expr=some f_law_expr:=rfl
noncomputable abbrev i_law_block_like:Nat:=1824694419658711675454248242656144229
theorem g_law_block_like:getF FN i_law_block_like=some f_law_block_like:=rfl
noncomputable abbrev i_law_block:Nat:=1659549907034226339832683
theorem g_law_block:getF FN i_law_block=some f_law_block:=rfl
noncomputable abbrev i_law_level:Nat:=1659549907034269172524396
theorem g_law_level:getF FN i_law_level=some f_law_level:=rfl
noncomputable abbrev i_law_flat:Nat:=6482616824352513745268
theorem g_law_flat:getF FN i_law_flat=some f_law_flat:=rfl
noncomputable abbrev i_law_list:Nat:=6482616824352614216564
theorem g_law_list:getF FN i_law_list=some f_law_list:=rfl
noncomputable abbrev i_law_side:Nat:=6482616824352731653221
theorem g_law_side:getF FN i_law_side=some f_law_side:=rfl
noncomputable abbrev i_law_bare_flat:Nat:=7127712576791841690456195311886708
theorem g_law_bare_flat:getF FN i_law_bare_flat=some f_law_bare_flat:=rfl
noncomputable abbrev i_law_long_flat:Nat:=7127712576792027165579548054806900
theorem g_law_long_flat:getF FN i_law_long_flat=some f_law_long_flat:=rfl
noncomputable abbrev i_law_pattern_flat:Nat:=119583173486757647878448095968971901919604
theorem g_law_pattern_flat:getF FN i_law_pattern_flat=some f_law_pattern_flat:=rfl
noncomputable abbrev i_law_row_flat:Nat:=27842627253094288470970699899252
theorem g_law_row_flat:getF FN i_law_row_flat=some f_law_row_flat:=rfl
noncomputable abbrev i_law_generics:Nat:=27842627253093493012816881869683
theorem g_law_generics:getF FN i_law_generics=some f_law_generics:=rfl
noncomputable abbrev i_law_form:Nat:=6482616824352513946221
theorem g_law_form:getF FN i_law_form=some f_law_form:=rfl
noncomputable abbrev i_law_function:Nat:=27842627253093425458813914935150
theorem g_law_function:getF FN i_law_function=some f_law_function:=rfl
noncomputable abbrev i_law_nested:Nat:=424844776200775107140150628
theorem g_law_nested:getF FN i_law_nested=some f_law_nested:=rfl
noncomputable abbrev i_law_item:Nat:=6482616824352564602221
theorem g_law_item:getF FN i_law_item=some f_law_item:=rfl
noncomputable abbrev i_law_are_rows_right:Nat:=7837002857627846317429081131406024461596977268
theorem g_law_are_rows_right:getF FN i_law_are_rows_right=some f_law_are_rows_right:=rfl
noncomputable def Bx (fn:Fn) (cf:Or) (ds:List D) (π:Pi) (k:D→Pi→Prop):Prop:=
 match fillD fn.ps.length fn.dfl ds with
 | none=>False
 | some ds=>match bindP fn.ps ds with
  | none=>False
  | some lc=>wSs fn.body cf ⟨lc.1,lc.2,none⟩ π (fun _ _=>False) k
theorem ret_fn {f:Nat}{fn:Fn}(h:getF FN f=some fn) (K:Nat) (ds:List D) (π:Pi) (k:D→Pi→Prop) (x:Bx fn (Ret FN K) ds π k):
  Ret FN (K+1) (.fn f) ds π k:=by
 unfold Ret
 simp only [h]
 exact x
noncomputable def Says (cf:Or) (f:Nat) (ds:List D) (r:D):Prop:=∀ π k,k r π→cf (.fn f) ds π k
noncomputable def Ev (N j:Nat) (P:Or→Prop):Prop:=∀ K,N+j≤K→P (Ret FN K)
noncomputable abbrev Sure (N j:Nat) (f:Nat) (ds:List D) (r:D):Prop:=Ev N j fun cf=>Says cf f ds r
section
variable {N j a1 a2 a3 a4 a5 a6:Nat}
theorem Ev.up {i:Nat}{P:Or→Prop}(h:Ev N i P) (le:Nat.ble i j=true):Ev N j P:=fun K hK=>h K (by have:=Nat.le_of_ble_eq_true le;lia)
theorem Ev.sh {P:Or→Prop}(h:Ev N j P):Ev (N+j) 0 P:=h
theorem Ev.mn {N':Nat}{P:Or→Prop}(h:Ev N j P) (le:N≤N'):Ev N' j P:=fun K hK=>h K (by lia)
theorem Ev.and {P Q:Or→Prop}(p:Ev N j P) (q:Ev N j Q):Ev N j fun cf=>P cf∧Q cf:=fun K hK=>⟨p K hK,q K hK⟩
theorem Ev.all {P:Or→Prop}(h:∀ cf,P cf):Ev N j P:=fun K _=>h _
theorem Sure.of {f:Nat}{fn:Fn}(g:getF FN f=some fn){P:Or→Prop}{ds:List D}{r:D}(p:Ev N a1 P)
  (h:∀ cf,P cf→∀ π k,k r π→Bx fn cf ds π k) (l1:Nat.ble a1 j=true:=by rfl):Sure N (j+1) f ds r:=by
 intro K hK π k hk
 obtain ⟨K,rfl⟩:∃ n,K=n+1:=⟨K - 1,by lia⟩
 exact ret_fn g K ds π k (h _ (p.up l1 K (by lia)) π k hk)
theorem Sure.of0 {f:Nat}{fn:Fn}(g:getF FN f=some fn){ds:List D}{r:D}(h:∀ cf π k,k r π→Bx fn cf ds π k):Sure N (j+1) f ds r:=
 Sure.of (a1:=0) g (P:=fun _=>True) (Ev.all fun _=>trivial) (fun cf _=>h cf) (Nat.ble_eq.mpr (Nat.zero_le _))
theorem Sure.of2 {f:Nat}{fn:Fn}(g:getF FN f=some fn){P Q:Or→Prop}{ds:List D}{r:D}(p1:Ev N a1 P) (p2:Ev N a2 Q)
  (h:∀ cf,P cf→Q cf→∀ π k,k r π→Bx fn cf ds π k) (l1:Nat.ble a1 j=true:=by rfl) (l2:Nat.ble a2 j=true:=by rfl):Sure N (j+1) f ds r:=Sure.of g ((p1.up l1).and (p2.up l2)) (fun cf x=>h cf x.1 x.2) (Nat.ble_eq.mpr (Nat.le_refl _))
theorem Sure.of3 {f:Nat}{fn:Fn}(g:getF FN f=some fn){P Q R:Or→Prop}{ds:List D}{r:D}(p1:Ev N a1 P) (p2:Ev N a2 Q) (p3:Ev N a3 R)
  (h:∀ cf,P cf→Q cf→R cf→∀ π k,k r π→Bx fn cf ds π k) (l1:Nat.ble a1 j=true:=by rfl) (l2:Nat.ble a2 j=true:=by rfl) (l3:Nat.ble a3 j=true:=by rfl):Sure N (j+1) f ds r:=Sure.of g ((p1.up l1).and ((p2.up l2).and (p3.up l3))) (fun cf x=>h cf x.1 x.2.1 x.2.2) (Nat.ble_eq.mpr (Nat.le_refl _))
theorem Sure.of4 {f:Nat}{fn:Fn}(g:getF FN f=some fn){P Q R S:Or→Prop}{ds:List D}{r:D}(p1:Ev N a1 P) (p2:Ev N a2 Q) (p3:Ev N a3 R) (p4:Ev N a4 S)
  (h:∀ cf,P cf→Q cf→R cf→S cf→∀ π k,k r π→Bx fn cf ds π k) (l1:Nat.ble a1 j=true:=by rfl) (l2:Nat.ble a2 j=true:=by rfl) (l3:Nat.ble a3 j=true:=by rfl) (l4:Nat.ble a4 j=true:=by rfl):Sure N (j+1) f ds r:=Sure.of g ((p1.up l1).and ((p2.up l2).and ((p3.up l3).and (p4.up l4)))) (fun cf x=>h cf x.1 x.2.1 x.2.2.1 x.2.2.2) (Nat.ble_eq.mpr (Nat.le_refl _))
theorem Sure.of5 {f:Nat}{fn:Fn}(g:getF FN f=some fn){P Q R S U:Or→Prop}{ds:List D}{r:D}(p1:Ev N a1 P) (p2:Ev N a2 Q) (p3:Ev N a3 R) (p4:Ev N a4 S) (p5:Ev N a5 U)
  (h:∀ cf,P cf→Q cf→R cf→S cf→U cf→∀ π k,k r π→Bx fn cf ds π k) (l1:Nat.ble a1 j=true:=by rfl) (l2:Nat.ble a2 j=true:=by rfl) (l3:Nat.ble a3 j=true:=by rfl) (l4:Nat.ble a4 j=true:=by rfl) (l5:Nat.ble a5 j=true:=by rfl):Sure N (j+1) f ds r:=Sure.of g ((p1.up l1).and ((p2.up l2).and ((p3.up l3).and ((p4.up l4).and (p5.up l5))))) (fun cf x=>h cf x.1 x.2.1 x.2.2.1 x.2.2.2.1 x.2.2.2.2) (Nat.ble_eq.mpr (Nat.le_refl _))
theorem Sure.of6 {f:Nat}{fn:Fn}(g:getF FN f=some fn){P Q R S U V:Or→Prop}{ds:List D}{r:D}(p1:Ev N a1 P) (p2:Ev N a2 Q) (p3:Ev N a3 R) (p4:Ev N a4 S) (p5:Ev N a5 U) (p6:Ev N a6 V)
  (h:∀ cf,P cf→Q cf→R cf→S cf→U cf→V cf→∀ π k,k r π→Bx fn cf ds π k) (l1:Nat.ble a1 j=true:=by rfl) (l2:Nat.ble a2 j=true:=by rfl) (l3:Nat.ble a3 j=true:=by rfl) (l4:Nat.ble a4 j=true:=by rfl) (l5:Nat.ble a5 j=true:=by rfl) (l6:Nat.ble a6 j=true:=by rfl):Sure N (j+1) f ds r:=Sure.of g ((p1.up l1).and ((p2.up l2).and ((p3.up l3).and ((p4.up l4).and ((p5.up l5).and (p6.up l6)))))) (fun cf x=>h cf x.1 x.2.1 x.2.2.1 x.2.2.2.1 x.2.2.2.2.1 x.2.2.2.2.2) (Nat.ble_eq.mpr (Nat.le_refl _))
theorem Sure.to {f:Nat}{ds:List D}{r r':D}(x:Sure N j f ds r) (e:r=r'):Sure N j f ds r':=e▸x
theorem Sure.str {f:Nat}{ds:List D}{r r':T}(x:Sure N j f ds (.str r)) (e:r=r'):Sure N j f ds (.str r'):=e▸x
end
theorem bl {x y:T}{n:Nat}(h:(x++y).length≤n):x.length≤n:=by rw [List.length_append] at h;lia
theorem br {x y:T}{n:Nat}(h:(x++y).length≤n):y.length≤n:=by rw [List.length_append] at h;lia
theorem onD_of {o:Option D}{d:D}{k:D→Prop}(h:o=some d) (x:k d):onD o k:=by rw [h];exact x
theorem e_write_angles {cf:Or}{p0:D}{π:Pi}{k:D→Pi→Prop}(h:wSs f_write_angles.body cf ⟨[(1582182855795,p0)],[],none⟩ π (fun _ _=>False) k):Bx f_write_angles cf [p0] π k:=h
theorem e_write_path {cf:Or}{p0 p1:D}{π:Pi}{k:D→Pi→Prop}(h:wSs f_write_path.body cf ⟨[(6180402280,p0),(99753692649317742,p1)],[],none⟩ π (fun _ _=>False) k):Bx f_write_path cf [p0,p1] π k:=h
theorem e1_write_path {cf:Or}{p0:D}{π:Pi}{k:D→Pi→Prop}(h:wSs f_write_path.body cf ⟨[(6180402280,p0),(99753692649317742,(.str []))],[],none⟩ π (fun _ _=>False) k):Bx f_write_path cf [p0] π k:=h
theorem e_write_type {cf:Or}{p0:D}{π:Pi}{k:D→Pi→Prop}(h:wSs f_write_type.body cf ⟨[(105678913517413742,p0)],[],none⟩ π (fun _ _=>False) k):Bx f_write_type cf [p0] π k:=h
theorem e_write_row {cf:Or}{p0:D}{π:Pi}{k:D→Pi→Prop}(h:wSs f_write_row.body cf ⟨[(1582182855795,p0)],[],none⟩ π (fun _ _=>False) k):Bx f_write_row cf [p0] π k:=h
theorem e_write_generics {cf:Or}{p0:D}{π:Pi}{k:D→Pi→Prop}(h:wSs f_write_generics.body cf ⟨[(25897226614254166899,p0)],[],none⟩ π (fun _ _=>False) k):Bx f_write_generics cf [p0] π k:=h
theorem e_write_pattern {cf:Or}{p0:D}{π:Pi}{k:D→Pi→Prop}(h:wSs f_write_pattern.body cf ⟨[(103689944226427502,p0)],[],none⟩ π (fun _ _=>False) k):Bx f_write_pattern cf [p0] π k:=h
theorem e_write_part {cf:Or}{p0:D}{π:Pi}{k:D→Pi→Prop}(h:wSs f_write_part.body cf ⟨[(103689944226427502,p0)],[],none⟩ π (fun _ _=>False) k):Bx f_write_part cf [p0] π k:=h
theorem e_write_referred {cf:Or}{p0:D}{π:Pi}{k:D→Pi→Prop}(h:wSs f_write_referred.body cf ⟨[(103689944226427502,p0)],[],none⟩ π (fun _ _=>False) k):Bx f_write_referred cf [p0] π k:=h
theorem e_write_literal {cf:Or}{p0:D}{π:Pi}{k:D→Pi→Prop}(h:wSs f_write_literal.body cf ⟨[(1607952266597,p0)],[],none⟩ π (fun _ _=>False) k):Bx f_write_literal cf [p0] π k:=h
theorem e_write_variant {cf:Or}{p0:D}{π:Pi}{k:D→Pi→Prop}(h:wSs f_write_variant.body cf ⟨[(103689944226427502,p0)],[],none⟩ π (fun _ _=>False) k):Bx f_write_variant cf [p0] π k:=h
theorem e_is_long {cf:Or}{p0:D}{π:Pi}{k:D→Pi→Prop}(h:wSs f_is_long.body cf ⟨[(6180402280,p0)],[],none⟩ π (fun _ _=>False) k):Bx f_is_long cf [p0] π k:=h
theorem e_write_fields {cf:Or}{p0:D}{π:Pi}{k:D→Pi→Prop}(h:wSs f_write_fields.body cf ⟨[(103689944226427502,p0)],[],none⟩ π (fun _ _=>False) k):Bx f_write_fields cf [p0] π k:=h
theorem e_level_of {cf:Or}{p0:D}{π:Pi}{k:D→Pi→Prop}(h:wSs f_level_of.body cf ⟨[(5997359218,p0)],[],none⟩ π (fun _ _=>False) k):Bx f_level_of cf [p0] π k:=h
theorem e_write_expr {cf:Or}{p0 p1 p2:D}{π:Pi}{k:D→Pi→Prop}(h:wSs f_write_expr.body cf ⟨[(5997359218,p0),(1565068981108,p1),(101739320102187621,p2)],[],none⟩ π (fun _ _=>False) k):Bx f_write_expr cf [p0,p1,p2] π k:=h
theorem e1_write_expr {cf:Or}{p0:D}{π:Pi}{k:D→Pi→Prop}(h:wSs f_write_expr.body cf ⟨[(5997359218,p0),(1565068981108,(.int 0)),(101739320102187621,(.bool false))],[],none⟩ π (fun _ _=>False) k):Bx f_write_expr cf [p0] π k:=h
theorem e2_write_expr {cf:Or}{p0 p1:D}{π:Pi}{k:D→Pi→Prop}(h:wSs f_write_expr.body cf ⟨[(5997359218,p0),(1565068981108,p1),(101739320102187621,(.bool false))],[],none⟩ π (fun _ _=>False) k):Bx f_write_expr cf [p0,p1] π k:=h
theorem e_written {cf:Or}{p0 p1:D}{π:Pi}{k:D→Pi→Prop}(h:wSs f_written.body cf ⟨[(5997359218,p0),(101739320102187621,p1)],[],none⟩ π (fun _ _=>False) k):Bx f_written cf [p0,p1] π k:=h
theorem e_write_ahead {cf:Or}{p0 p1:D}{π:Pi}{k:D→Pi→Prop}(h:wSs f_write_ahead.body cf ⟨[(5997359218,p0),(101739320102187621,p1)],[],none⟩ π (fun _ _=>False) k):Bx f_write_ahead cf [p0,p1] π k:=h
theorem e_write_side {cf:Or}{p0 p1 p2:D}{π:Pi}{k:D→Pi→Prop}(h:wSs f_write_side.body cf ⟨[(5997359218,p0),(1565068981108,p1),(101739320102187621,p2)],[],none⟩ π (fun _ _=>False) k):Bx f_write_side cf [p0,p1,p2] π k:=h
theorem e_write_operated {cf:Or}{p0 p1:D}{π:Pi}{k:D→Pi→Prop}(h:wSs f_write_operated.body cf ⟨[(5997359218,p0),(101739320102187621,p1)],[],none⟩ π (fun _ _=>False) k):Bx f_write_operated cf [p0,p1] π k:=h
theorem e_write_list {cf:Or}{p0:D}{π:Pi}{k:D→Pi→Prop}(h:wSs f_write_list.body cf ⟨[(1582182855795,p0)],[],none⟩ π (fun _ _=>False) k):Bx f_write_list cf [p0] π k:=h
theorem e_write_behind {cf:Or}{p0 p1:D}{π:Pi}{k:D→Pi→Prop}(h:wSs f_write_behind.body cf ⟨[(5997359218,p0),(101739320102187621,p1)],[],none⟩ π (fun _ _=>False) k):Bx f_write_behind cf [p0,p1] π k:=h
theorem e_write_gathered {cf:Or}{p0:D}{π:Pi}{k:D→Pi→Prop}(h:wSs f_write_gathered.body cf ⟨[(5997359218,p0)],[],none⟩ π (fun _ _=>False) k):Bx f_write_gathered cf [p0] π k:=h
theorem e_write_jump {cf:Or}{p0:D}{π:Pi}{k:D→Pi→Prop}(h:wSs f_write_jump.body cf ⟨[(5997359218,p0)],[],none⟩ π (fun _ _=>False) k):Bx f_write_jump cf [p0] π k:=h
theorem e_write_condition {cf:Or}{p0:D}{π:Pi}{k:D→Pi→Prop}(h:wSs f_write_condition.body cf ⟨[(5997359218,p0)],[],none⟩ π (fun _ _=>False) k):Bx f_write_condition cf [p0] π k:=h
theorem e_write_block_like {cf:Or}{p0:D}{π:Pi}{k:D→Pi→Prop}(h:wSs f_write_block_like.body cf ⟨[(5997359218,p0)],[],none⟩ π (fun _ _=>False) k):Bx f_write_block_like cf [p0] π k:=h
theorem e_write_bound {cf:Or}{p0:D}{π:Pi}{k:D→Pi→Prop}(h:wSs f_write_bound.body cf ⟨[(5997359218,p0)],[],none⟩ π (fun _ _=>False) k):Bx f_write_bound cf [p0] π k:=h
theorem e_write_if {cf:Or}{p0:D}{π:Pi}{k:D→Pi→Prop}(h:wSs f_write_if.body cf ⟨[(5997359218,p0)],[],none⟩ π (fun _ _=>False) k):Bx f_write_if cf [p0] π k:=h
theorem e_write_match {cf:Or}{p0:D}{π:Pi}{k:D→Pi→Prop}(h:wSs f_write_match.body cf ⟨[(5997359218,p0)],[],none⟩ π (fun _ _=>False) k):Bx f_write_match cf [p0] π k:=h
theorem e_write_rows {cf:Or}{p0:D}{π:Pi}{k:D→Pi→Prop}(h:wSs f_write_rows.body cf ⟨[(1582182855795,p0)],[],none⟩ π (fun _ _=>False) k):Bx f_write_rows cf [p0] π k:=h
theorem e_indented {cf:Or}{p0:D}{π:Pi}{k:D→Pi→Prop}(h:wSs f_indented.body cf ⟨[(6247774324,p0)],[],none⟩ π (fun _ _=>False) k):Bx f_indented cf [p0] π k:=h
theorem e_write_block {cf:Or}{p0:D}{π:Pi}{k:D→Pi→Prop}(h:wSs f_write_block.body cf ⟨[(1522237662059,p0)],[],none⟩ π (fun _ _=>False) k):Bx f_write_block cf [p0] π k:=h
theorem e_write_statement {cf:Or}{p0:D}{π:Pi}{k:D→Pi→Prop}(h:wSs f_write_statement.body cf ⟨[(6852128163306360106612,p0)],[],none⟩ π (fun _ _=>False) k):Bx f_write_statement cf [p0] π k:=h
theorem e_write_items {cf:Or}{p0:D}{π:Pi}{k:D→Pi→Prop}(h:wSs f_write_items.body cf ⟨[(1552435998067,p0)],[],none⟩ π (fun _ _=>False) k):Bx f_write_items cf [p0] π k:=h
theorem e_write_item {cf:Or}{p0:D}{π:Pi}{k:D→Pi→Prop}(h:wSs f_write_item.body cf ⟨[(6064203117,p0)],[],none⟩ π (fun _ _=>False) k):Bx f_write_item cf [p0] π k:=h
theorem e_write_fn {cf:Or}{p0:D}{π:Pi}{k:D→Pi→Prop}(h:wSs f_write_fn.body cf ⟨[(6064203117,p0)],[],none⟩ π (fun _ _=>False) k):Bx f_write_fn cf [p0] π k:=h
theorem e_write_form {cf:Or}{p0 p1:D}{π:Pi}{k:D→Pi→Prop}(h:wSs f_write_form.body cf ⟨[(6013547117,p0),(394077835912307,p1)],[],none⟩ π (fun _ _=>False) k):Bx f_write_form cf [p0,p1] π k:=h
theorem e_write_impl {cf:Or}{p0:D}{π:Pi}{k:D→Pi→Prop}(h:wSs f_write_impl.body cf ⟨[(6064203117,p0)],[],none⟩ π (fun _ _=>False) k):Bx f_write_impl cf [p0] π k:=h
theorem e_law_pool {cf:Or}{p0 p1:D}{π:Pi}{k:D→Pi→Prop}(h:wSs f_law_pool.body cf ⟨[(408345935179892,p0),(363,p1)],[],none⟩ π (fun _ _=>False) k):Bx f_law_pool cf [p0,p1] π k:=h
theorem e_law_take {cf:Or}{p0 p1:D}{π:Pi}{k:D→Pi→Prop}(h:wSs f_law_take.body cf ⟨[(408397525705573,p0),(24407920,p1)],[],none⟩ π (fun _ _=>False) k):Bx f_law_take cf [p0,p1] π k:=h
theorem e_law_one {cf:Or}{p0 p1:D}{π:Pi}{k:D→Pi→Prop}(h:wSs f_law_one.body cf ⟨[(408397525705573,p0),(409466770974579,p1)],[],none⟩ π (fun _ _=>False) k):Bx f_law_one cf [p0,p1] π k:=h
theorem e_law_path {cf:Or}{p0:D}{π:Pi}{k:D→Pi→Prop}(h:wSs f_law_path.body cf ⟨[(6146846053,p0)],[],none⟩ π (fun _ _=>False) k):Bx f_law_path cf [p0] π k:=h
theorem e_law_type {cf:Or}{p0:D}{π:Pi}{k:D→Pi→Prop}(h:wSs f_law_type.body cf ⟨[(408397525705573,p0)],[],none⟩ π (fun _ _=>False) k):Bx f_law_type cf [p0] π k:=h
theorem e_law_type_flat {cf:Or}{p0:D}{π:Pi}{k:D→Pi→Prop}(h:wSs f_law_type_flat.body cf ⟨[(6248426596,p0)],[],none⟩ π (fun _ _=>False) k):Bx f_law_type_flat cf [p0] π k:=h
theorem e_law_pattern {cf:Or}{p0:D}{π:Pi}{k:D→Pi→Prop}(h:wSs f_law_pattern.body cf ⟨[(408397525705573,p0)],[],none⟩ π (fun _ _=>False) k):Bx f_law_pattern cf [p0] π k:=h
theorem e_law_leaf {cf:Or}{p0:D}{π:Pi}{k:D→Pi→Prop}(h:wSs f_law_leaf.body cf ⟨[(408397525705573,p0)],[],none⟩ π (fun _ _=>False) k):Bx f_law_leaf cf [p0] π k:=h
theorem e_law_expr {cf:Or}{p0 p1:D}{π:Pi}{k:D→Pi→Prop}(h:wSs f_law_expr.body cf ⟨[(408397525705573,p0),(5979334000,p1)],[],none⟩ π (fun _ _=>False) k):Bx f_law_expr cf [p0,p1] π k:=h
theorem e_law_block_like {cf:Or}{p0 p1 p2 p3:D}{π:Pi}{k:D→Pi→Prop}(h:wSs f_law_block_like.body cf ⟨[(408397525705573,p0),(5979334000,p1),(24079973,p2),(1578205996402,p3)],[],none⟩ π (fun _ _=>False) k):Bx f_law_block_like cf [p0,p1,p2,p3] π k:=h
theorem e_law_block {cf:Or}{p0 p1:D}{π:Pi}{k:D→Pi→Prop}(h:wSs f_law_block.body cf ⟨[(408397525705573,p0),(5979334000,p1)],[],none⟩ π (fun _ _=>False) k):Bx f_law_block cf [p0,p1] π k:=h
theorem e_law_level {cf:Or}{p0:D}{π:Pi}{k:D→Pi→Prop}(h:wSs f_law_level.body cf ⟨[],[(5997359218,p0)],none⟩ π (fun _ _=>False) k):Bx f_law_level cf [p0] π k:=h
theorem e_law_flat {cf:Or}{p0 p1 p2:D}{π:Pi}{k:D→Pi→Prop}(h:wSs f_law_flat.body cf ⟨[(5997359218,p0),(412735325365604,p1),(101739320102187621,p2)],[],none⟩ π (fun _ _=>False) k):Bx f_law_flat cf [p0,p1,p2] π k:=h
theorem e_law_list {cf:Or}{p0:D}{π:Pi}{k:D→Pi→Prop}(h:wSs f_law_list.body cf ⟨[(6231649637,p0)],[],none⟩ π (fun _ _=>False) k):Bx f_law_list cf [p0] π k:=h
theorem e_law_side {cf:Or}{p0 p1 p2:D}{π:Pi}{k:D→Pi→Prop}(h:wSs f_law_side.body cf ⟨[(5997359218,p0),(412735325365604,p1),(101739320102187621,p2)],[],none⟩ π (fun _ _=>False) k):Bx f_law_side cf [p0,p1,p2] π k:=h
theorem e_law_bare_flat {cf:Or}{p0 p1:D}{π:Pi}{k:D→Pi→Prop}(h:wSs f_law_bare_flat.body cf ⟨[(101739320102187621,p1)],[(5997359218,p0)],none⟩ π (fun _ _=>False) k):Bx f_law_bare_flat cf [p0,p1] π k:=h
theorem e_law_long_flat {cf:Or}{p0:D}{π:Pi}{k:D→Pi→Prop}(h:wSs f_law_long_flat.body cf ⟨[(5997359218,p0)],[],none⟩ π (fun _ _=>False) k):Bx f_law_long_flat cf [p0] π k:=h
theorem e_law_pattern_flat {cf:Or}{p0:D}{π:Pi}{k:D→Pi→Prop}(h:wSs f_law_pattern_flat.body cf ⟨[],[(6248426596,p0)],none⟩ π (fun _ _=>False) k):Bx f_law_pattern_flat cf [p0] π k:=h
theorem e_law_row_flat {cf:Or}{p0:D}{π:Pi}{k:D→Pi→Prop}(h:wSs f_law_row_flat.body cf ⟨[(24276855,p0)],[],none⟩ π (fun _ _=>False) k):Bx f_law_row_flat cf [p0] π k:=h
theorem e_law_generics {cf:Or}{p0:D}{π:Pi}{k:D→Pi→Prop}(h:wSs f_law_generics.body cf ⟨[(408397525705573,p0)],[],none⟩ π (fun _ _=>False) k):Bx f_law_generics cf [p0] π k:=h
theorem e_law_form {cf:Or}{p0:D}{π:Pi}{k:D→Pi→Prop}(h:wSs f_law_form.body cf ⟨[(408397525705573,p0)],[],none⟩ π (fun _ _=>False) k):Bx f_law_form cf [p0] π k:=h
theorem e_law_function {cf:Or}{p0 p1:D}{π:Pi}{k:D→Pi→Prop}(h:wSs f_law_function.body cf ⟨[(408397525705573,p0),(5979334000,p1)],[],none⟩ π (fun _ _=>False) k):Bx f_law_function cf [p0,p1] π k:=h
theorem e_law_nested {cf:Or}{p0 p1:D}{π:Pi}{k:D→Pi→Prop}(h:wSs f_law_nested.body cf ⟨[(6046441828,p0),(6214874995,p1)],[],none⟩ π (fun _ _=>False) k):Bx f_law_nested cf [p0,p1] π k:=h
theorem e_law_item {cf:Or}{p0 p1:D}{π:Pi}{k:D→Pi→Prop}(h:wSs f_law_item.body cf ⟨[(5979334000,p1)],[(408397525705573,p0)],none⟩ π (fun _ _=>False) k):Bx f_law_item cf [p0,p1] π k:=h
theorem e_law_are_rows_right {cf:Or}{p0:D}{π:Pi}{k:D→Pi→Prop}(h:wSs f_law_are_rows_right.body cf ⟨[(6247774324,p0)],[],none⟩ π (fun _ _=>False) k):Bx f_law_are_rows_right cf [p0] π k:=h
end
section
open PySem PySem.W
noncomputable def clsH (c:Nat):Nat:=if c=32 then 0 else if c=125 then 1 else 2
noncomputable def clsL (c:Nat):Nat:=if c=32 then 0 else if c=123 then 1 else 2
noncomputable abbrev At:=Option Nat×Option Nat×Bool
noncomputable def attr (t:T):At:=(t.head?.map clsH,t.getLast?.map clsL,nd t)
noncomputable def mulA (a b:At):At:=(a.1.or b.1,b.2.1.or a.2.1,a.2.2&&b.2.2&&!(a.2.1==some 0&&b.1==some 0))
noncomputable def good:At:=(some 2,some 2,true)
theorem clsH0 (c:Nat):clsH c=0↔c=32:=by unfold clsH;split <;> (try split) <;> simp_all
theorem clsL0 (c:Nat):clsL c=0↔c=32:=by unfold clsL;split <;> (try split) <;> simp_all
theorem mapH (o:Option Nat):(o.map clsH==some 0)=(o==some 32):=by
 cases o with
 | none=>rfl
 | some c=>
  by_cases h:c=32
  ·subst h;rfl
  ·have h2:clsH c≠0:=fun e=>h ((clsH0 c).mp e)
   show (clsH c==0)=(c==32)
   rw [beq_eq_false_iff_ne.mpr h2,beq_eq_false_iff_ne.mpr h]
theorem mapL (o:Option Nat):(o.map clsL==some 0)=(o==some 32):=by
 cases o with
 | none=>rfl
 | some c=>
  by_cases h:c=32
  ·subst h;rfl
  ·have h2:clsL c≠0:=fun e=>h ((clsL0 c).mp e)
   show (clsL c==0)=(c==32)
   rw [beq_eq_false_iff_ne.mpr h2,beq_eq_false_iff_ne.mpr h]
theorem nd_app:∀ a b:T,nd (a++b)=(nd a&&nd b&&!(a.getLast?==some 32&&b.head?==some 32))
 | [],b=>by simp [nd]
 | [c],b=>by
  simp only [List.cons_append,List.nil_append,nd,List.getLast?_singleton,List.head?_nil]
  cases nd b <;> simp
 | c::d::a,b=>by
  have ih:=nd_app (d::a) b
  simp only [List.cons_append] at ih ⊢
  rw [nd,ih]
  have e:nd (c::d::a)=(!(c==32&&(some d==some 32))&&nd (d::a)):=rfl
  rw [e]
  simp only [List.head?_cons,List.getLast?_cons_cons]
  generalize (c==32)=p
  generalize (some d==some 32)=q
  cases p <;> cases q <;> simp [Bool.and_assoc]
theorem attr_app (a b:T):attr (a++b)=mulA (attr a) (attr b):=by
 unfold attr mulA
 simp only [nd_app,mapH,mapL,List.head?_append,List.getLast?_append,Option.map_or]
theorem attr_cat (a b:Dc):attr (flat (.cat a b))=mulA (attr (flat a)) (attr (flat b)):=attr_app _ _
theorem attr_txt (t:T):attr (flat (.txt t))=attr t:=rfl
theorem row_of {t:T}(h:attr t=good):Row t:=by
 unfold attr good at h
 simp only [Prod.mk.injEq] at h
 obtain ⟨h1,h2,h3⟩:=h
 refine ⟨?_,?_,h3⟩
 ·cases t with
  | nil=>simp at h1
  | cons c r=>
   simp only [List.head?_cons,Option.map_some,Option.some.injEq] at h1
   refine ⟨c,r,rfl,?_,?_⟩ <;> rintro rfl <;> simp [clsH] at h1
 ·rcases List.eq_nil_or_concat t with rfl | ⟨r,c,rfl⟩
  ·simp at h2
  ·rw [List.concat_eq_append] at h2 ⊢
   simp only [List.getLast?_append,List.getLast?_singleton,Option.some_or,Option.map_some,Option.some.injEq] at h2
   refine ⟨r,c,rfl,?_,?_⟩ <;> rintro rfl <;> simp [clsL] at h2
noncomputable def cats:List Dc→Dc
 | []=>.txt []
 | [d]=>d
 | d::e::r=>.cat d (cats (e::r))
noncomputable def inB (d:Dc):Dc:=.cat (.cat (.txt [40]) d) (.txt [41])
noncomputable def par (f:Bool→Dc) (l:Int) (o:Bool) (least:Int) (x:Bool):Dc:=if l < least∨(x&&o)=true then inB (f false) else f x
noncomputable def brk (f:Bool→Dc) (c:Bool) (l:Int) (o:Bool) (x:Bool):Dc:=if c=true then inB (par f l o 0 false) else par f l o 12 x
mutual
noncomputable def flatA:Dc→T→T
 | .txt t,r=>t++r
 | .cat a b,r=>flatA a (flatA b r)
 | .br .nil,r=>123::125::r
 | .br (.cons d rs),r=>123::32::flatA d (flatAs rs (32::125::r))
noncomputable def flatAs:DcL→T→T
 | .nil,r=>r
 | .cons d rs,r=>32::flatA d (flatAs rs r)
end
mutual
theorem flatA_eq:∀ (d:Dc) (r:T),flatA d r=flat d++r
 | .txt t,r=>rfl
 | .cat a b,r=>by simp only [flatA,flatA_eq a,flatA_eq b,flat,List.append_assoc]
 | .br .nil,r=>rfl
 | .br (.cons d rs),r=>by simp only [flatA,flatA_eq d,flatAs_eq rs,flat,List.append_assoc,List.cons_append,List.nil_append]
theorem flatAs_eq:∀ (d:DcL) (r:T),flatAs d r=flatRs d++r
 | .nil,r=>rfl
 | .cons d rs,r=>by simp only [flatAs,flatA_eq d,flatAs_eq rs,flatRs,List.append_assoc,List.cons_append]
end
theorem flat_eq {a b:Dc}(h:flatA a []=flatA b []):flat a=flat b:=by
 rw [flatA_eq,flatA_eq,List.append_nil,List.append_nil] at h;exact h
structure Ql (M k c d:Nat) (a:At) (x:Dc):Prop where
 wf:WF x
 at':attr (flat x)=a
 len:(flat x).length≤c*M+d
 dp:dep x≤k
section
variable {M k c d c' d' n:Nat}{p q a:At}{x y:Dc}{t:T}
theorem Ql.cat (h:Ql M k c d p x) (i:Ql M k c' d' q y):Ql M k (c+c') (d+d') (mulA p q) (.cat x y) where
 wf:=⟨h.wf,i.wf⟩
 at':=by rw [attr_cat,h.at',i.at']
 len:=by
  have:=h.len;have:=i.len
  simp only [flat,List.length_append,Nat.add_mul];lia
 dp:=by have:=h.dp;have:=i.dp;simp only [dep];lia
theorem Ql.txt (h:okT t=true):Ql M k 0 t.length (attr t) (.txt t) where
 wf:=h
 at':=rfl
 len:=by simp [flat]
 dp:=Nat.zero_le _
theorem Ql.var (h:okT t=true) (ha:attr t=a) (hl:t.length≤n):Ql M k 0 n a (.txt t) where
 wf:=h
 at':=ha
 len:=by simp only [flat];lia
 dp:=Nat.zero_le _
theorem Ql.up (h:Ql M k c d p x):Ql M (k+1) c d p x:=⟨h.wf,h.at',h.len,Nat.le_succ_of_le h.dp⟩
theorem Ql.wk (h:Ql M k c d p x){M' k':Nat}(hM:c*M+d≤M') (hk:k≤k'):Ql M' k' 1 0 p x:=⟨h.wf,h.at',by have:=h.len;lia,Nat.le_trans h.dp hk⟩
theorem Ql.inB (h:Ql M k c d good x):Ql M k c (d+2) good (inB x):=by
 have i:=((Ql.txt (M:=M) (k:=k) (t:=[40]) rfl).cat h).cat (Ql.txt (M:=M) (k:=k) (t:=[41]) rfl)
 refine ⟨i.wf,i.at'.trans (by decide),?_,i.dp⟩
 have:=i.len
 simp only [List.length_cons,List.length_nil] at this
 show _≤_
 have e:0+c+0=c:=by lia
 rw [e] at this
 exact Nat.le_trans this (by lia)
variable {f:Bool→Dc}(h:∀ x,Ql M k 1 0 good (f x)) (l:Int) (o:Bool) (least:Int) (b e:Bool)
include h
theorem Ql.par:Ql M k 1 2 good (par f l o least b):=by
 unfold Mine.par
 split
 ·exact (h false).inB
 ·have:=h b
  exact ⟨this.wf,this.at',by have:=this.len;lia,this.dp⟩
theorem Ql.brk:Ql M k 1 4 good (brk f e l o b):=by
 unfold Mine.brk
 split
 ·exact (Ql.par h l o 0 false).inB
 ·have:=Ql.par h l o 12 b
  exact ⟨this.wf,this.at',by have:=this.len;lia,this.dp⟩
end
structure Qls (M k c d:Nat) (rs:DcL):Prop where
 wf:WFs rs
 at':flatRs rs=[]∨attr (flatRs rs)=(some 0,some 2,true)
 len:(flatRs rs).length≤c*M+d
 dp:depRs rs≤k
section
variable {M k c d c' d':Nat}{x:Dc}{rs:DcL}
theorem Qls.nil:Qls M k 0 0 .nil:=⟨trivial,.inl rfl,by simp [flatRs],Nat.zero_le _⟩
theorem Qls.cons (h:Ql M k c d good x) (i:Qls M k c' d' rs):Qls M k (c+c') (d+d'+1) (.cons x rs) where
 wf:=⟨h.wf,row_of h.at',i.wf⟩
 at':=by
  refine .inr ?_
  have e:flatRs (.cons x rs)=[32]++(flat x++flatRs rs):=rfl
  rw [e,attr_app,attr_app,h.at']
  rcases i.at' with ih | ih
  ·rw [ih];decide
  ·rw [ih];decide
 len:=by
  have:=h.len;have:=i.len
  have e:flatRs (.cons x rs)=[32]++(flat x++flatRs rs):=rfl
  simp only [e,List.length_append,Nat.add_mul,List.length_cons,List.length_nil];lia
 dp:=by have:=h.dp;have:=i.dp;simp only [depRs];lia
theorem Ql.br (h:Qls M k c d rs):Ql M (k+1) c (d+4) good (.br rs):=by
 refine ⟨h.wf,?_,?_,by simp only [dep];have:=h.dp;lia⟩
 ·cases rs with
  | nil=>decide
  | cons r rs=>
   have e:flat (.br (.cons r rs))=[123]++(flatRs (.cons r rs)++[32,125]):=by simp [flat,flatRs]
   rw [e,attr_app,attr_app]
   rcases h.at' with ih | ih
   ·cases ih
   ·rw [ih];decide
 ·cases rs with
  | nil=>simp [flat];lia
  | cons r rs=>
   have e:flat (.br (.cons r rs))=[123]++(flatRs (.cons r rs)++[32,125]):=by simp [flat,flatRs]
   have:=h.len
   rw [e]
   simp only [List.length_append,List.length_cons,List.length_nil]
   lia
end
noncomputable def PB:Nat:=1089000
theorem Ql.pl {M k c d:Nat}{a:At}{x:Dc}(h:Ql M k c d a x) (hM:c*M+d≤33000) (hk:k≤8):(pretty x).length≤PB:=by
 have:=len_bound h.wf (Nat.le_trans h.len hM) (Nat.le_trans h.dp hk)
 unfold PB;lia
theorem Ql.fl {M k c d:Nat}{a:At}{x:Dc}(h:Ql M k c d a x) (hM:c*M+d≤33000):(flat x).length≤PB:=by
 have:=h.len
 unfold PB;lia
theorem PBS {n:Nat}(h:n≤PB):n≤strBound:=by have e:PB=1089000:=rfl;have e2:strBound=4000000:=rfl;lia
theorem app2 {a b:T}(h:a.length≤PB) (i:b.length≤PB):(a++b).length≤strBound:=by
 have e:PB=1089000:=rfl
 have e2:strBound=4000000:=rfl
 rw [List.length_append];lia
theorem jok0 {sep:T}:(([]:List D).all isStrD=true∧((([]:List D).map strOf).map (·.length)).sum+([]:List D).length*sep.length≤strBound):=⟨rfl,by simp⟩
theorem jok1 {a sep:T}(h:a.length≤PB) (hs:Nat.ble sep.length 8=true):([D.str a].all isStrD=true∧(([D.str a].map strOf).map (·.length)).sum+[D.str a].length*sep.length≤strBound):=by
 have e:PB=1089000:=rfl
 have e2:strBound=4000000:=rfl
 rw [Nat.ble_eq] at hs
 refine ⟨rfl,?_⟩
 simp [strOf];lia
theorem jok2 {a b sep:T}(h:a.length≤PB) (h2:b.length≤PB) (hs:Nat.ble sep.length 8=true):([D.str a,D.str b].all isStrD=true∧(([D.str a,D.str b].map strOf).map (·.length)).sum+[D.str a,D.str b].length*sep.length≤strBound):=by
 have e:PB=1089000:=rfl
 have e2:strBound=4000000:=rfl
 rw [Nat.ble_eq] at hs
 refine ⟨rfl,?_⟩
 simp [strOf];lia
theorem jok3 {a b c sep:T}(h:a.length≤PB) (h2:b.length≤PB) (h3:c.length≤PB) (hs:Nat.ble sep.length 8=true):([D.str a,D.str b,D.str c].all isStrD=true∧(([D.str a,D.str b,D.str c].map strOf).map (·.length)).sum+[D.str a,D.str b,D.str c].length*sep.length≤strBound):=by
 have e:PB=1089000:=rfl
 have e2:strBound=4000000:=rfl
 rw [Nat.ble_eq] at hs
 refine ⟨rfl,?_⟩
 simp [strOf];lia
theorem iteT {b:Bool}{A B:Prop}(h:b=true) (x:A):if b=true then A else B:=by rw [if_pos h];exact x
theorem iteF {b:Bool}{A B:Prop}(h:b=false) (x:B):if b=true then A else B:=by rw [if_neg (by rw [h];decide)];exact x
end
section
open PySem PySem.W
variable {N:Nat}
noncomputable abbrev pth (n:T):D:=.tup [.tup [.str n,.tup [],.tup []]]
noncomputable abbrev pathD (n:T):D:=.tup [.str [112,97,116,104],.int 0,pth n]
theorem sy_angles0:Sure N 1 i_write_angles [.lst []] (.str []):=Sure.of0 g_write_angles fun cf π k hk=>e_write_angles hk
theorem nb {n:T}(hn:n.length≤PB):(n++[]).length≤PB:=by rw [List.append_nil];exact hn
theorem sy_path {n:T}(hn:n.length≤PB):Sure N 2 i_write_path [pth n] (.str n):=
 Sure.str (Sure.of g_write_path sy_angles0 fun cf h π k hk=>e1_write_path (h π _ ⟨PBS (nb hn),jok1 (nb hn) rfl,hk⟩)) (List.append_nil n)
theorem sy_path2 {n:T}(hn:n.length≤PB):Sure N 2 i_write_path [pth n,.str [58,58]] (.str n):=
 Sure.str (Sure.of g_write_path sy_angles0 fun cf h π k hk=>e_write_path (h π _ ⟨PBS (nb hn),jok1 (nb hn) rfl,hk⟩)) (List.append_nil n)
theorem sy_tpath {n:T}(hn:n.length≤PB):Sure N 3 i_write_type [pathD n] (.str n):=Sure.of g_write_type (sy_path hn) fun cf h π k hk=>e_write_type (h π _ hk)
theorem ly_path {n:T}(hn:n.length≤PB):Sure N 1 i_law_type_flat [pathD n] (.str n):=
 Sure.str (Sure.of0 g_law_type_flat fun cf π k hk=>e_law_type_flat ⟨PBS (nb hn),hk⟩) (List.append_nil n)
noncomputable abbrev pA:D:=(.tup [(.tup [(.str [65]),(.tup [(.str [39,97])]),(.tup [(pathD [117,56]),(.tup [(.str [110,101,118,101,114]),(.int 0)])])])])
noncomputable abbrev tA:D:=.tup [.str [112,97,116,104],.int 0,pA]
noncomputable abbrev tNever:D:=(.tup [(.str [110,101,118,101,114]),(.int 0)])
noncomputable abbrev tRef:D:=(.tup [(.str [114,101,102]),(.int 0),.none,(.bool true),(pathD [84])])
noncomputable abbrev tTup:D:=(.tup [(.str [116,117,112,108,101]),(.int 0),(.tup [(pathD [117,56])])])
noncomputable abbrev tArr:D:=(.tup [(.str [97,114,114,97,121]),(.int 0),(pathD [98,111,111,108]),(.int 3)])
theorem sy_u8:Sure N 3 i_write_type [pathD [117,56]] (.str [117,56]):=sy_tpath (by decide)
theorem ly_u8:Sure N 1 i_law_type_flat [pathD [117,56]] (.str [117,56]):=ly_path (by decide)
theorem sy_T:Sure N 3 i_write_type [pathD [84]] (.str [84]):=sy_tpath (by decide)
theorem ly_T:Sure N 1 i_law_type_flat [pathD [84]] (.str [84]):=ly_path (by decide)
theorem sy_bool:Sure N 3 i_write_type [pathD [98,111,111,108]] (.str [98,111,111,108]):=sy_tpath (by decide)
theorem ly_bool:Sure N 1 i_law_type_flat [pathD [98,111,111,108]] (.str [98,111,111,108]):=ly_path (by decide)
theorem sy_never:Sure N 1 i_write_type [tNever] (.str [33]):=Sure.of0 g_write_type  fun cf  π k hk=>e_write_type (by
 (repeat (first | exact hk | refine And.intro (by decide) ?_)))
theorem sy_anglesA:Sure N 1 i_write_angles [(.lst [(.str [39,97]),(.str [117,56]),(.str [33])])] (.str [60,39,97,44,32,117,56,44,32,33,62]):=Sure.of0 g_write_angles  fun cf  π k hk=>e_write_angles (by
 (repeat (first | exact hk | refine And.intro (by decide) ?_)))
theorem sy_anglesU:Sure N 1 i_write_angles [(.lst [(.str [117,56])])] (.str [60,117,56,62]):=Sure.of0 g_write_angles  fun cf  π k hk=>e_write_angles (by
 (repeat (first | exact hk | refine And.intro (by decide) ?_)))
theorem sy_pathA:Sure N 4 i_write_path [pA] (.str [65,60,39,97,44,32,117,56,44,32,33,62]):=Sure.of3 g_write_path sy_u8 sy_never sy_anglesA fun cf h0 h1 h2 π k hk=>e1_write_path (by
 (repeat (first | exact hk | refine And.intro (by decide) ?_ | refine h0 π _ ?_ | refine h1 π _ ?_ | refine h2 π _ ?_)))
theorem sy_rowu:Sure N 1 i_write_row [(.lst [(.str [117,56])])] (.str [40,117,56,44,41]):=Sure.of0 g_write_row  fun cf  π k hk=>e_write_row (by
 (repeat (first | exact hk | refine And.intro (by decide) ?_)))
theorem sy_ref:Sure N 4 i_write_type [tRef] (.str [38,109,117,116,32,84]):=Sure.of g_write_type sy_T fun cf h0 π k hk=>e_write_type (by
 (repeat (first | exact hk | refine And.intro (by decide) ?_ | refine h0 π _ ?_)))
theorem sy_tup:Sure N 4 i_write_type [tTup] (.str [40,117,56,44,41]):=Sure.of2 g_write_type sy_u8 sy_rowu fun cf h0 h1 π k hk=>e_write_type (by
 (repeat (first | exact hk | refine And.intro (by decide) ?_ | refine h0 π _ ?_ | refine h1 π _ ?_)))
theorem sy_arr:Sure N 4 i_write_type [tArr] (.str [91,98,111,111,108,59,32,51,93]):=Sure.of g_write_type sy_bool fun cf h0 π k hk=>e_write_type (by
 (repeat (first | exact hk | refine And.intro (by decide) ?_ | refine h0 π _ ?_)))
theorem sy_tA:Sure N 5 i_write_type [tA] (.str [65,60,39,97,44,32,117,56,44,32,33,62]):=Sure.of g_write_type sy_pathA fun cf h0 π k hk=>e_write_type (by
 (repeat (first | exact hk | refine And.intro (by decide) ?_ | refine h0 π _ ?_)))
theorem ly_never:Sure N 1 i_law_type_flat [tNever] (.str [33]):=Sure.of0 g_law_type_flat  fun cf  π k hk=>e_law_type_flat (by
 (repeat (first | exact hk | refine And.intro (by decide) ?_)))
theorem ly_ref:Sure N 2 i_law_type_flat [tRef] (.str [38,109,117,116,32,84]):=Sure.of g_law_type_flat ly_T fun cf h0 π k hk=>e_law_type_flat (by
 (repeat (first | exact hk | refine And.intro (by decide) ?_ | refine h0 π _ ?_)))
theorem ly_tup:Sure N 2 i_law_type_flat [tTup] (.str [40,117,56,44,41]):=Sure.of g_law_type_flat ly_u8 fun cf h0 π k hk=>e_law_type_flat (by
 (repeat (first | exact hk | refine And.intro (by decide) ?_ | refine h0 π _ ?_)))
theorem ly_arr:Sure N 2 i_law_type_flat [tArr] (.str [91,98,111,111,108,59,32,51,93]):=Sure.of g_law_type_flat ly_bool fun cf h0 π k hk=>e_law_type_flat (by
 (repeat (first | exact hk | refine And.intro (by decide) ?_ | refine h0 π _ ?_)))
theorem ly_tA:Sure N 2 i_law_type_flat [tA] (.str [65,60,39,97,44,32,117,56,44,32,33,62]):=Sure.of2 g_law_type_flat ly_u8 ly_never fun cf h0 h1 π k hk=>e_law_type_flat (by
 (repeat (first | exact hk | refine And.intro (by decide) ?_ | refine h0 π _ ?_ | refine h1 π _ ?_)))
noncomputable abbrev pF:D:=(.tup [(.tup [(.str [102]),(.tup []),(.tup [(pathD [117,56])])])])
noncomputable abbrev pTr:D:=(.tup [(.tup [(.str [84,114]),(.tup []),(.tup [(pathD [117,56])])])])
noncomputable abbrev pEA:D:=(.tup [(.tup [(.str [69]),(.tup []),(.tup [])]),(.tup [(.str [65]),(.tup []),(.tup [])])])
theorem sy_pathF:Sure N 4 i_write_path [pF,(.str [58,58])] (.str [102,58,58,60,117,56,62]):=Sure.of2 g_write_path sy_u8 sy_anglesU fun cf h0 h1 π k hk=>e_write_path (by
 (repeat (first | exact hk | refine And.intro (by decide) ?_ | refine h0 π _ ?_ | refine h1 π _ ?_)))
theorem sy_pathTr:Sure N 4 i_write_path [pTr] (.str [84,114,60,117,56,62]):=Sure.of2 g_write_path sy_u8 sy_anglesU fun cf h0 h1 π k hk=>e1_write_path (by
 (repeat (first | exact hk | refine And.intro (by decide) ?_ | refine h0 π _ ?_ | refine h1 π _ ?_)))
theorem sy_pathEA:Sure N 2 i_write_path [pEA,(.str [58,58])] (.str [69,58,58,65]):=Sure.of g_write_path sy_angles0 fun cf h0 π k hk=>e_write_path (by
 (repeat (first | exact hk | refine And.intro (by decide) ?_ | refine h0 π _ ?_)))
noncomputable abbrev pt0:D:=(.tup [(.str [110,97,109,101]),(.int 0),(.str [120]),(.bool false),(.bool false),.none])
noncomputable abbrev px0:T:=[120]
noncomputable abbrev pt1:D:=(.tup [(.str [110,97,109,101]),(.int 0),(.str [120]),(.bool true),(.bool true),.none])
noncomputable abbrev px1:T:=[114,101,102,32,109,117,116,32,120]
noncomputable abbrev pt2:D:=(.tup [(.str [119,105,108,100]),(.int 0)])
noncomputable abbrev px2:T:=[95]
noncomputable abbrev pt3:D:=(.tup [(.str [116,117,112,108,101]),(.int 0),(.tup [(.tup [(.str [108,105,116]),(.int 0),(.int (-1))]),(.tup [(.str [114,97,110,103,101]),(.int 0),(.int 2),(.int 9)])])])
noncomputable abbrev px3:T:=[40,45,49,44,32,50,46,46,61,57,41]
noncomputable abbrev pt4:D:=(.tup [(.str [111,114]),(.int 0),(.tup [(.tup [(.str [108,105,116]),(.int 0),(.bool true)]),(.tup [(.str [119,105,108,100]),(.int 0)])])])
noncomputable abbrev px4:T:=[116,114,117,101,32,124,32,95]
noncomputable abbrev pt5:D:=(.tup [(.str [118,97,114,105,97,110,116]),(.int 0),(.tup [(.tup [(.str [69]),(.tup []),(.tup [])]),(.tup [(.str [65]),(.tup []),(.tup [])])]),(.tup [])])
noncomputable abbrev px5:T:=[69,58,58,65]
noncomputable abbrev pt6:D:=(.tup [(.str [118,97,114,105,97,110,116]),(.int 0),(.tup [(.tup [(.str [78]),(.tup []),(.tup [])])]),(.tup [])])
noncomputable abbrev px6:T:=[78,40,41]
noncomputable abbrev pt7:D:=(.tup [(.str [102,105,101,108,100,115]),(.int 0),(.tup [(.tup [(.str [80]),(.tup []),(.tup [])])]),(.tup [(.tup [(.str [97]),(.tup [(.str [119,105,108,100]),(.int 0)])])]),(.bool true)])
noncomputable abbrev px7:T:=[80,32,123,32,97,58,32,95,44,32,46,46,32,125]
noncomputable abbrev pt8:D:=(.tup [(.str [114,101,102]),(.int 0),(.bool false),(.tup [(.str [110,97,109,101]),(.int 0),(.str [121]),(.bool false),(.bool true),.none])])
noncomputable abbrev px8:T:=[38,40,109,117,116,32,121,41]
theorem sp_litm:Sure N 1 i_write_literal [(.int (-1))] (.str [45,49]):=Sure.of0 g_write_literal  fun cf  π k hk=>e_write_literal (by
 (repeat (first | exact hk | refine And.intro (by decide) ?_)))
theorem sp_litT:Sure N 1 i_write_literal [(.bool true)] (.str [116,114,117,101]):=Sure.of0 g_write_literal  fun cf  π k hk=>e_write_literal (by
 (repeat (first | exact hk | refine And.intro (by decide) ?_)))
theorem sp_part0:Sure N 1 i_write_part [pt0] (.str px0):=Sure.of0 g_write_part  fun cf  π k hk=>e_write_part (by
 (repeat (first | exact hk | refine And.intro (by decide) ?_)))
theorem sp_part1:Sure N 1 i_write_part [pt1] (.str px1):=Sure.of0 g_write_part  fun cf  π k hk=>e_write_part (by
 (repeat (first | exact hk | refine And.intro (by decide) ?_)))
theorem sp_part2:Sure N 1 i_write_part [pt2] (.str px2):=Sure.of0 g_write_part  fun cf  π k hk=>e_write_part (by
 (repeat (first | exact hk | refine And.intro (by decide) ?_)))
theorem sp_partm:Sure N 2 i_write_part [(.tup [(.str [108,105,116]),(.int 0),(.int (-1))])] (.str [45,49]):=Sure.of g_write_part sp_litm fun cf h0 π k hk=>e_write_part (by
 (repeat (first | exact hk | refine And.intro (by decide) ?_ | refine h0 π _ ?_)))
theorem sp_partT:Sure N 2 i_write_part [(.tup [(.str [108,105,116]),(.int 0),(.bool true)])] (.str [116,114,117,101]):=Sure.of g_write_part sp_litT fun cf h0 π k hk=>e_write_part (by
 (repeat (first | exact hk | refine And.intro (by decide) ?_ | refine h0 π _ ?_)))
theorem sp_partR:Sure N 1 i_write_part [(.tup [(.str [114,97,110,103,101]),(.int 0),(.int 2),(.int 9)])] (.str [50,46,46,61,57]):=Sure.of0 g_write_part  fun cf  π k hk=>e_write_part (by
 (repeat (first | exact hk | refine And.intro (by decide) ?_)))
theorem sp_patm:Sure N 3 i_write_pattern [(.tup [(.str [108,105,116]),(.int 0),(.int (-1))])] (.str [45,49]):=Sure.of g_write_pattern sp_partm fun cf h0 π k hk=>e_write_pattern (by
 (repeat (first | exact hk | refine And.intro (by decide) ?_ | refine h0 π _ ?_)))
theorem sp_patR:Sure N 2 i_write_pattern [(.tup [(.str [114,97,110,103,101]),(.int 0),(.int 2),(.int 9)])] (.str [50,46,46,61,57]):=Sure.of g_write_pattern sp_partR fun cf h0 π k hk=>e_write_pattern (by
 (repeat (first | exact hk | refine And.intro (by decide) ?_ | refine h0 π _ ?_)))
theorem sp_rowmR:Sure N 1 i_write_row [(.lst [(.str [45,49]),(.str [50,46,46,61,57])])] (.str [40,45,49,44,32,50,46,46,61,57,41]):=Sure.of0 g_write_row  fun cf  π k hk=>e_write_row (by
 (repeat (first | exact hk | refine And.intro (by decide) ?_)))
theorem sp_part3:Sure N 4 i_write_part [pt3] (.str px3):=Sure.of3 g_write_part sp_patm sp_patR sp_rowmR fun cf h0 h1 h2 π k hk=>e_write_part (by
 (repeat (first | exact hk | refine And.intro (by decide) ?_ | refine h0 π _ ?_ | refine h1 π _ ?_ | refine h2 π _ ?_)))
theorem sp_longEA:Sure N 1 i_is_long [pEA] (.bool true):=Sure.of0 g_is_long  fun cf  π k hk=>e_is_long (by
 (repeat (first | exact hk | refine And.intro (by decide) ?_)))
theorem sp_longN:Sure N 1 i_is_long [(pth [78])] (.bool false):=Sure.of0 g_is_long  fun cf  π k hk=>e_is_long (by
 (repeat (first | exact hk | refine And.intro (by decide) ?_)))
theorem sp_var5:Sure N 3 i_write_variant [pt5] (.str px5):=Sure.of2 g_write_variant sy_pathEA sp_longEA fun cf h0 h1 π k hk=>e_write_variant (by
 (repeat (first | exact hk | refine And.intro (by decide) ?_ | refine h0 π _ ?_ | refine h1 π _ ?_)))
theorem sp_var6:Sure N 3 i_write_variant [pt6] (.str px6):=Sure.of2 g_write_variant (sy_path2 (n:=[78]) (by decide)) sp_longN fun cf h0 h1 π k hk=>e_write_variant (by
 (repeat (first | exact hk | refine And.intro (by decide) ?_ | refine h0 π _ ?_ | refine h1 π _ ?_)))
theorem sp_part5:Sure N 4 i_write_part [pt5] (.str px5):=Sure.of g_write_part sp_var5 fun cf h0 π k hk=>e_write_part (by
 (repeat (first | exact hk | refine And.intro (by decide) ?_ | refine h0 π _ ?_)))
theorem sp_part6:Sure N 4 i_write_part [pt6] (.str px6):=Sure.of g_write_part sp_var6 fun cf h0 π k hk=>e_write_part (by
 (repeat (first | exact hk | refine And.intro (by decide) ?_ | refine h0 π _ ?_)))
theorem sp_pat2:Sure N 2 i_write_pattern [pt2] (.str px2):=Sure.of g_write_pattern sp_part2 fun cf h0 π k hk=>e_write_pattern (by
 (repeat (first | exact hk | refine And.intro (by decide) ?_ | refine h0 π _ ?_)))
theorem sp_fld:Sure N 3 i_write_fields [pt7] (.str px7):=Sure.of2 g_write_fields sp_pat2 (sy_path2 (n:=[80]) (by decide)) fun cf h0 h1 π k hk=>e_write_fields (by
 (repeat (first | exact hk | refine And.intro (by decide) ?_ | refine h0 π _ ?_ | refine h1 π _ ?_)))
theorem sp_part7:Sure N 4 i_write_part [pt7] (.str px7):=Sure.of g_write_part sp_fld fun cf h0 π k hk=>e_write_part (by
 (repeat (first | exact hk | refine And.intro (by decide) ?_ | refine h0 π _ ?_)))
theorem sp_partY:Sure N 1 i_write_part [(.tup [(.str [110,97,109,101]),(.int 0),(.str [121]),(.bool false),(.bool true),.none])] (.str [109,117,116,32,121]):=Sure.of0 g_write_part  fun cf  π k hk=>e_write_part (by
 (repeat (first | exact hk | refine And.intro (by decide) ?_)))
theorem sp_ref:Sure N 2 i_write_referred [pt8] (.str [40,109,117,116,32,121,41]):=Sure.of g_write_referred sp_partY fun cf h0 π k hk=>e_write_referred (by
 (repeat (first | exact hk | refine And.intro (by decide) ?_ | refine h0 π _ ?_)))
theorem sp_part8:Sure N 3 i_write_part [pt8] (.str px8):=Sure.of g_write_part sp_ref fun cf h0 π k hk=>e_write_part (by
 (repeat (first | exact hk | refine And.intro (by decide) ?_ | refine h0 π _ ?_)))
theorem sp_pat0:Sure N 2 i_write_pattern [pt0] (.str px0):=Sure.of g_write_pattern sp_part0 fun cf h0 π k hk=>e_write_pattern (by
 (repeat (first | exact hk | refine And.intro (by decide) ?_ | refine h0 π _ ?_)))
theorem sp_pat1:Sure N 2 i_write_pattern [pt1] (.str px1):=Sure.of g_write_pattern sp_part1 fun cf h0 π k hk=>e_write_pattern (by
 (repeat (first | exact hk | refine And.intro (by decide) ?_ | refine h0 π _ ?_)))
theorem sp_pat3:Sure N 5 i_write_pattern [pt3] (.str px3):=Sure.of g_write_pattern sp_part3 fun cf h0 π k hk=>e_write_pattern (by
 (repeat (first | exact hk | refine And.intro (by decide) ?_ | refine h0 π _ ?_)))
theorem sp_pat5:Sure N 5 i_write_pattern [pt5] (.str px5):=Sure.of g_write_pattern sp_part5 fun cf h0 π k hk=>e_write_pattern (by
 (repeat (first | exact hk | refine And.intro (by decide) ?_ | refine h0 π _ ?_)))
theorem sp_pat6:Sure N 5 i_write_pattern [pt6] (.str px6):=Sure.of g_write_pattern sp_part6 fun cf h0 π k hk=>e_write_pattern (by
 (repeat (first | exact hk | refine And.intro (by decide) ?_ | refine h0 π _ ?_)))
theorem sp_pat7:Sure N 5 i_write_pattern [pt7] (.str px7):=Sure.of g_write_pattern sp_part7 fun cf h0 π k hk=>e_write_pattern (by
 (repeat (first | exact hk | refine And.intro (by decide) ?_ | refine h0 π _ ?_)))
theorem sp_pat8:Sure N 4 i_write_pattern [pt8] (.str px8):=Sure.of g_write_pattern sp_part8 fun cf h0 π k hk=>e_write_pattern (by
 (repeat (first | exact hk | refine And.intro (by decide) ?_ | refine h0 π _ ?_)))
theorem sp_pat4:Sure N 3 i_write_pattern [pt4] (.str px4):=Sure.of2 g_write_pattern sp_partT sp_part2 fun cf h0 h1 π k hk=>e_write_pattern (by
 (repeat (first | exact hk | refine And.intro (by decide) ?_ | refine h0 π _ ?_ | refine h1 π _ ?_)))
end
section
open PySem PySem.W
noncomputable def SaysAt (cf:Or) (f:Nat) (ds:List D) (π:Pi) (r:D) (π':Pi):Prop:=∀ k,k r π'→cf (.fn f) ds π k
noncomputable abbrev SureAt (N j:Nat) (f:Nat) (ds:List D) (π:Pi) (r:D) (π':Pi):Prop:=Ev N j fun cf=>SaysAt cf f ds π r π'
variable {N j:Nat}
theorem SureAt.of {f:Nat}{fn:Fn}(g:getF FN f=some fn){P:Or→Prop}{ds:List D}{r:D}{π π':Pi}(p:Ev N j P)
  (h:∀ cf,P cf→∀ k,k r π'→Bx fn cf ds π k):SureAt N (j+1) f ds π r π':=by
 intro K hK k hk
 obtain ⟨K,rfl⟩:∃ n,K=n+1:=⟨K - 1,by lia⟩
 exact ret_fn g K ds π k (h _ (p K (by lia)) k hk)
theorem SureAt.of0 {f:Nat}{fn:Fn}(g:getF FN f=some fn){ds:List D}{r:D}{π π':Pi}
  (h:∀ cf k,k r π'→Bx fn cf ds π k):SureAt N (j+1) f ds π r π':=SureAt.of g (P:=fun _=>True) (Ev.all fun _=>trivial) fun cf _=>h cf
noncomputable abbrev ptL:List D:=[.tup [pt0,.str px0],.tup [pt1,.str px1],.tup [pt2,.str px2],.tup [pt3,.str px3],.tup [pt4,.str px4],.tup [pt5,.str px5],.tup [pt6,.str px6],.tup [pt7,.str px7],.tup [pt8,.str px8]]
theorem tk0:SureAt N 1 i_law_take [.pool,.int 9] (9000000000000000000,1) (.int 0) (1000000000000000000,1):=SureAt.of0 g_law_take fun cf k hk=>e_law_take (by
 repeat (first | exact hk | refine And.intro (by decide) ?_ | refine And.intro trivial ?_))
theorem on0:SureAt N 2 i_law_one [.pool,.lst ptL] (9000000000000000000,1) (.tup [pt0,.str px0]) (1000000000000000000,1):=SureAt.of g_law_one tk0 fun cf h k hk=>e_law_one (h _ hk)
theorem pa0:SureAt N 3 i_law_pattern [.pool] (9000000000000000000,1) (.tup [pt0,.str px0]) (1000000000000000000,1):=SureAt.of g_law_pattern on0 fun cf h k hk=>e_law_pattern (h _ hk)
theorem tk1:SureAt N 1 i_law_take [.pool,.int 9] (9000000000000000001,1) (.int 1) (1000000000000000000,1):=SureAt.of0 g_law_take fun cf k hk=>e_law_take (by
 repeat (first | exact hk | refine And.intro (by decide) ?_ | refine And.intro trivial ?_))
theorem on1:SureAt N 2 i_law_one [.pool,.lst ptL] (9000000000000000001,1) (.tup [pt1,.str px1]) (1000000000000000000,1):=SureAt.of g_law_one tk1 fun cf h k hk=>e_law_one (h _ hk)
theorem pa1:SureAt N 3 i_law_pattern [.pool] (9000000000000000001,1) (.tup [pt1,.str px1]) (1000000000000000000,1):=SureAt.of g_law_pattern on1 fun cf h k hk=>e_law_pattern (h _ hk)
theorem tk2:SureAt N 1 i_law_take [.pool,.int 9] (9000000000000000002,1) (.int 2) (1000000000000000000,1):=SureAt.of0 g_law_take fun cf k hk=>e_law_take (by
 repeat (first | exact hk | refine And.intro (by decide) ?_ | refine And.intro trivial ?_))
theorem on2:SureAt N 2 i_law_one [.pool,.lst ptL] (9000000000000000002,1) (.tup [pt2,.str px2]) (1000000000000000000,1):=SureAt.of g_law_one tk2 fun cf h k hk=>e_law_one (h _ hk)
theorem pa2:SureAt N 3 i_law_pattern [.pool] (9000000000000000002,1) (.tup [pt2,.str px2]) (1000000000000000000,1):=SureAt.of g_law_pattern on2 fun cf h k hk=>e_law_pattern (h _ hk)
theorem tk3:SureAt N 1 i_law_take [.pool,.int 9] (9000000000000000003,1) (.int 3) (1000000000000000000,1):=SureAt.of0 g_law_take fun cf k hk=>e_law_take (by
 repeat (first | exact hk | refine And.intro (by decide) ?_ | refine And.intro trivial ?_))
theorem on3:SureAt N 2 i_law_one [.pool,.lst ptL] (9000000000000000003,1) (.tup [pt3,.str px3]) (1000000000000000000,1):=SureAt.of g_law_one tk3 fun cf h k hk=>e_law_one (h _ hk)
theorem pa3:SureAt N 3 i_law_pattern [.pool] (9000000000000000003,1) (.tup [pt3,.str px3]) (1000000000000000000,1):=SureAt.of g_law_pattern on3 fun cf h k hk=>e_law_pattern (h _ hk)
theorem tk4:SureAt N 1 i_law_take [.pool,.int 9] (9000000000000000004,1) (.int 4) (1000000000000000000,1):=SureAt.of0 g_law_take fun cf k hk=>e_law_take (by
 repeat (first | exact hk | refine And.intro (by decide) ?_ | refine And.intro trivial ?_))
theorem on4:SureAt N 2 i_law_one [.pool,.lst ptL] (9000000000000000004,1) (.tup [pt4,.str px4]) (1000000000000000000,1):=SureAt.of g_law_one tk4 fun cf h k hk=>e_law_one (h _ hk)
theorem pa4:SureAt N 3 i_law_pattern [.pool] (9000000000000000004,1) (.tup [pt4,.str px4]) (1000000000000000000,1):=SureAt.of g_law_pattern on4 fun cf h k hk=>e_law_pattern (h _ hk)
theorem tk5:SureAt N 1 i_law_take [.pool,.int 9] (9000000000000000005,1) (.int 5) (1000000000000000000,1):=SureAt.of0 g_law_take fun cf k hk=>e_law_take (by
 repeat (first | exact hk | refine And.intro (by decide) ?_ | refine And.intro trivial ?_))
theorem on5:SureAt N 2 i_law_one [.pool,.lst ptL] (9000000000000000005,1) (.tup [pt5,.str px5]) (1000000000000000000,1):=SureAt.of g_law_one tk5 fun cf h k hk=>e_law_one (h _ hk)
theorem pa5:SureAt N 3 i_law_pattern [.pool] (9000000000000000005,1) (.tup [pt5,.str px5]) (1000000000000000000,1):=SureAt.of g_law_pattern on5 fun cf h k hk=>e_law_pattern (h _ hk)
theorem tk6:SureAt N 1 i_law_take [.pool,.int 9] (9000000000000000006,1) (.int 6) (1000000000000000000,1):=SureAt.of0 g_law_take fun cf k hk=>e_law_take (by
 repeat (first | exact hk | refine And.intro (by decide) ?_ | refine And.intro trivial ?_))
theorem on6:SureAt N 2 i_law_one [.pool,.lst ptL] (9000000000000000006,1) (.tup [pt6,.str px6]) (1000000000000000000,1):=SureAt.of g_law_one tk6 fun cf h k hk=>e_law_one (h _ hk)
theorem pa6:SureAt N 3 i_law_pattern [.pool] (9000000000000000006,1) (.tup [pt6,.str px6]) (1000000000000000000,1):=SureAt.of g_law_pattern on6 fun cf h k hk=>e_law_pattern (h _ hk)
theorem tk7:SureAt N 1 i_law_take [.pool,.int 9] (9000000000000000007,1) (.int 7) (1000000000000000000,1):=SureAt.of0 g_law_take fun cf k hk=>e_law_take (by
 repeat (first | exact hk | refine And.intro (by decide) ?_ | refine And.intro trivial ?_))
theorem on7:SureAt N 2 i_law_one [.pool,.lst ptL] (9000000000000000007,1) (.tup [pt7,.str px7]) (1000000000000000000,1):=SureAt.of g_law_one tk7 fun cf h k hk=>e_law_one (h _ hk)
theorem pa7:SureAt N 3 i_law_pattern [.pool] (9000000000000000007,1) (.tup [pt7,.str px7]) (1000000000000000000,1):=SureAt.of g_law_pattern on7 fun cf h k hk=>e_law_pattern (h _ hk)
theorem tk8:SureAt N 1 i_law_take [.pool,.int 9] (9000000000000000008,1) (.int 8) (1000000000000000000,1):=SureAt.of0 g_law_take fun cf k hk=>e_law_take (by
 repeat (first | exact hk | refine And.intro (by decide) ?_ | refine And.intro trivial ?_))
theorem on8:SureAt N 2 i_law_one [.pool,.lst ptL] (9000000000000000008,1) (.tup [pt8,.str px8]) (1000000000000000000,1):=SureAt.of g_law_one tk8 fun cf h k hk=>e_law_one (h _ hk)
theorem pa8:SureAt N 3 i_law_pattern [.pool] (9000000000000000008,1) (.tup [pt8,.str px8]) (1000000000000000000,1):=SureAt.of g_law_pattern on8 fun cf h k hk=>e_law_pattern (h _ hk)
noncomputable abbrev rp0:T:=[40,39,110,97,109,101,39,44,32,48,44,32,39,120,39,44,32,70,97,108,115,101,44,32,70,97,108,115,101,44,32,78,111,110,101,41]
theorem re0:reprT pt0=rp0:=by decide +kernel
theorem rq0:plainD pt0=true∧(reprT pt0).length≤strBound∧(pyD pt0).depth≤100:=by rw [re0];decide +kernel
noncomputable abbrev rp1:T:=[40,39,110,97,109,101,39,44,32,48,44,32,39,120,39,44,32,84,114,117,101,44,32,84,114,117,101,44,32,78,111,110,101,41]
theorem re1:reprT pt1=rp1:=by decide +kernel
theorem rq1:plainD pt1=true∧(reprT pt1).length≤strBound∧(pyD pt1).depth≤100:=by rw [re1];decide +kernel
noncomputable abbrev rp2:T:=[40,39,119,105,108,100,39,44,32,48,41]
theorem re2:reprT pt2=rp2:=by decide +kernel
theorem rq2:plainD pt2=true∧(reprT pt2).length≤strBound∧(pyD pt2).depth≤100:=by rw [re2];decide +kernel
noncomputable abbrev rp3:T:=[40,39,116,117,112,108,101,39,44,32,48,44,32,40,40,39,108,105,116,39,44,32,48,44,32,45,49,41,44,32,40,39,114,97,110,103,101,39,44,32,48,44,32,50,44,32,57,41,41,41]
theorem re3:reprT pt3=rp3:=by decide +kernel
theorem rq3:plainD pt3=true∧(reprT pt3).length≤strBound∧(pyD pt3).depth≤100:=by rw [re3];decide +kernel
noncomputable abbrev rp4:T:=[40,39,111,114,39,44,32,48,44,32,40,40,39,108,105,116,39,44,32,48,44,32,84,114,117,101,41,44,32,40,39,119,105,108,100,39,44,32,48,41,41,41]
theorem re4:reprT pt4=rp4:=by decide +kernel
theorem rq4:plainD pt4=true∧(reprT pt4).length≤strBound∧(pyD pt4).depth≤100:=by rw [re4];decide +kernel
noncomputable abbrev rp5:T:=[40,39,118,97,114,105,97,110,116,39,44,32,48,44,32,40,40,39,69,39,44,32,40,41,44,32,40,41,41,44,32,40,39,65,39,44,32,40,41,44,32,40,41,41,41,44,32,40,41,41]
theorem re5:reprT pt5=rp5:=by decide +kernel
theorem rq5:plainD pt5=true∧(reprT pt5).length≤strBound∧(pyD pt5).depth≤100:=by rw [re5];decide +kernel
noncomputable abbrev rp6:T:=[40,39,118,97,114,105,97,110,116,39,44,32,48,44,32,40,40,39,78,39,44,32,40,41,44,32,40,41,41,44,41,44,32,40,41,41]
theorem re6:reprT pt6=rp6:=by decide +kernel
theorem rq6:plainD pt6=true∧(reprT pt6).length≤strBound∧(pyD pt6).depth≤100:=by rw [re6];decide +kernel
noncomputable abbrev rp7:T:=[40,39,102,105,101,108,100,115,39,44,32,48,44,32,40,40,39,80,39,44,32,40,41,44,32,40,41,41,44,41,44,32,40,40,39,97,39,44,32,40,39,119,105,108,100,39,44,32,48,41,41,44,41,44,32,84,114,117,101,41]
theorem re7:reprT pt7=rp7:=by decide +kernel
theorem rq7:plainD pt7=true∧(reprT pt7).length≤strBound∧(pyD pt7).depth≤100:=by rw [re7];decide +kernel
noncomputable abbrev rp8:T:=[40,39,114,101,102,39,44,32,48,44,32,70,97,108,115,101,44,32,40,39,110,97,109,101,39,44,32,48,44,32,39,121,39,44,32,70,97,108,115,101,44,32,84,114,117,101,44,32,78,111,110,101,41,41]
theorem re8:reprT pt8=rp8:=by decide +kernel
theorem rq8:plainD pt8=true∧(reprT pt8).length≤strBound∧(pyD pt8).depth≤100:=by rw [re8];decide +kernel
end
section
open PySem PySem.W
theorem wMap_sel {α:Type}{f:D→Pi→(Option D→Pi→Prop)→Prop}(h:α→D) (g:α→Option D) (π:Pi) (k:List D→Pi→Prop) (L:List α):∀ acc:List D,
  (∀ p∈L,∀ k':Option D→Pi→Prop,k' (g p) π→f (h p) π k')→k (acc.reverse++L.filterMap g) π→wMap f (L.map h) acc π k:=by
 induction L with
 | nil=>intro acc _ hk;rw [List.filterMap_nil,List.append_nil] at hk;exact hk
 | cons p L ih=>
  intro acc hf hk
  refine hf p List.mem_cons_self _ ?_
  rw [List.filterMap_cons] at hk
  cases hg:g p with
  | none=>rw [hg] at hk;exact ih acc (fun q hq=>hf q (List.mem_cons_of_mem _ hq)) hk
  | some x=>rw [hg] at hk;exact ih (x::acc) (fun q hq=>hf q (List.mem_cons_of_mem _ hq)) (by rw [List.reverse_cons,List.append_assoc];exact hk)
theorem wMap_sel' {α:Type}{f:D→Pi→(Option D→Pi→Prop)→Prop}{X:List D}(h:α→D) (g:α→Option D){π:Pi}{k:List D→Pi→Prop}(L:List α) (hX:X=L.map h)
  (hf:∀ p∈L,∀ k':Option D→Pi→Prop,k' (g p) π→f (h p) π k') (hk:k (L.filterMap g) π):wMap f X [] π k:=hX▸wMap_sel h g π k L [] hf hk
structure Pt where
 i:Nat
 l:List D
 r:T
 x:T
noncomputable def Pt.d (p:Pt):D:=.tup [.tup p.l,.str p.x]
noncomputable def Pt.j (p:Pt):D:=.int p.i
structure Pt.Ok (p:Pt):Prop where
 e:reprT (.tup p.l)=p.r
 n:noPool p.d=true
 q:plainD (.tup p.l)=true∧(reprT (.tup p.l)).length≤strBound∧(pyD (.tup p.l)).depth≤100
noncomputable def unT:D→List D
 | .tup l=>l
 | _=>[]
noncomputable def pts:List Pt:=[⟨0,unT pt0,rp0,px0⟩,⟨1,unT pt1,rp1,px1⟩,⟨2,unT pt2,rp2,px2⟩,⟨3,unT pt3,rp3,px3⟩,⟨4,unT pt4,rp4,px4⟩,⟨5,unT pt5,rp5,px5⟩,⟨6,unT pt6,rp6,px6⟩,⟨7,unT pt7,rp7,px7⟩,⟨8,unT pt8,rp8,px8⟩]
theorem pts_ok:∀ p∈pts,p.Ok:=List.forall_mem_cons.mpr ⟨⟨re0,rfl,rq0⟩,List.forall_mem_cons.mpr ⟨⟨re1,rfl,rq1⟩,List.forall_mem_cons.mpr ⟨⟨re2,rfl,rq2⟩,List.forall_mem_cons.mpr ⟨⟨re3,rfl,rq3⟩,List.forall_mem_cons.mpr ⟨⟨re4,rfl,rq4⟩,List.forall_mem_cons.mpr ⟨⟨re5,rfl,rq5⟩,List.forall_mem_cons.mpr ⟨⟨re6,rfl,rq6⟩,List.forall_mem_cons.mpr ⟨⟨re7,rfl,rq7⟩,List.forall_mem_cons.mpr ⟨⟨re8,rfl,rq8⟩,nofun⟩⟩⟩⟩⟩⟩⟩⟩⟩
theorem pts_at {N:Nat}:Ev N 3 fun cf=>∀ p∈pts,SaysAt cf i_law_pattern [.pool] ((p.i:Int)+9000000000000000000,1) p.d (1000000000000000000,1):=fun K hK=>List.forall_mem_cons.mpr ⟨pa0 K hK,List.forall_mem_cons.mpr ⟨pa1 K hK,List.forall_mem_cons.mpr ⟨pa2 K hK,List.forall_mem_cons.mpr ⟨pa3 K hK,List.forall_mem_cons.mpr ⟨pa4 K hK,List.forall_mem_cons.mpr ⟨pa5 K hK,List.forall_mem_cons.mpr ⟨pa6 K hK,List.forall_mem_cons.mpr ⟨pa7 K hK,List.forall_mem_cons.mpr ⟨pa8 K hK,nofun⟩⟩⟩⟩⟩⟩⟩⟩⟩
noncomputable def Pt.sel (p q:Pt):Option D:=if eqT q.r p.r=true then some (.str q.x) else none
theorem pf {N:Nat}(p:Pt) (hp:p.Ok) (hs:pts.filterMap p.sel=[.str p.x]):Sure N 4 i_law_pattern_flat [.tup p.l] (.str p.x):=Sure.of g_law_pattern_flat pts_at fun cf h π k hk=>e_law_pattern_flat (by
 refine wMap_sel' Pt.j (fun q=>some q.d) pts rfl (fun q hq k' hk'=>?_) ?_
 ·refine And.intro (by decide) ?_
  refine And.intro (by decide) ?_
  exact h q hq _ (And.intro (pts_ok q hq).n hk')
 refine wMap_sel' Pt.d p.sel pts rfl (fun q hq k' hk'=>?_) ?_
 ·refine And.intro (pts_ok q hq).q ?_
  refine And.intro hp.q ?_
  show if eqT (reprT (.tup q.l)) (reprT (.tup p.l))=true then k' (some (.str q.x)) π else k' none π
  rw [(pts_ok q hq).e,hp.e]
  cases he:eqT q.r p.r with
  | true=>rw [Pt.sel,he] at hk';exact hk'
  | false=>rw [Pt.sel,he] at hk';exact hk'
 ·rw [hs];exact hk)
theorem pf0 {N:Nat}:Sure N 4 i_law_pattern_flat [pt0] (.str px0):=pf ⟨0,unT pt0,rp0,px0⟩ ⟨re0,rfl,rq0⟩ rfl
theorem pf1 {N:Nat}:Sure N 4 i_law_pattern_flat [pt1] (.str px1):=pf ⟨1,unT pt1,rp1,px1⟩ ⟨re1,rfl,rq1⟩ rfl
theorem pf2 {N:Nat}:Sure N 4 i_law_pattern_flat [pt2] (.str px2):=pf ⟨2,unT pt2,rp2,px2⟩ ⟨re2,rfl,rq2⟩ rfl
theorem pf3 {N:Nat}:Sure N 4 i_law_pattern_flat [pt3] (.str px3):=pf ⟨3,unT pt3,rp3,px3⟩ ⟨re3,rfl,rq3⟩ rfl
theorem pf4 {N:Nat}:Sure N 4 i_law_pattern_flat [pt4] (.str px4):=pf ⟨4,unT pt4,rp4,px4⟩ ⟨re4,rfl,rq4⟩ rfl
theorem pf5 {N:Nat}:Sure N 4 i_law_pattern_flat [pt5] (.str px5):=pf ⟨5,unT pt5,rp5,px5⟩ ⟨re5,rfl,rq5⟩ rfl
theorem pf6 {N:Nat}:Sure N 4 i_law_pattern_flat [pt6] (.str px6):=pf ⟨6,unT pt6,rp6,px6⟩ ⟨re6,rfl,rq6⟩ rfl
theorem pf7 {N:Nat}:Sure N 4 i_law_pattern_flat [pt7] (.str px7):=pf ⟨7,unT pt7,rp7,px7⟩ ⟨re7,rfl,rq7⟩ rfl
theorem pf8 {N:Nat}:Sure N 4 i_law_pattern_flat [pt8] (.str px8):=pf ⟨8,unT pt8,rp8,px8⟩ ⟨re8,rfl,rq8⟩ rfl
end
section
open PySem PySem.W
noncomputable def jmp (kd:T):Bool:=(eqT [98,114,101,97,107] kd||(eqT [99,111,110,116,105,110,117,101] kd||(eqT [114,101,116,117,114,110] kd||false)))
noncomputable def blk (kd:T):Bool:=(eqT [98,108,111,99,107] kd||(eqT [105,102] kd||(eqT [109,97,116,99,104] kd||(eqT [108,111,111,112] kd||(eqT [119,104,105,108,101] kd||(eqT [102,111,114] kd||false))))))
noncomputable def blk2 (kd:T):Bool:=(eqT [105,102] kd||(eqT [109,97,116,99,104] kd||(eqT [108,111,111,112] kd||(eqT [119,104,105,108,101] kd||(eqT [102,111,114] kd||(eqT [98,108,111,99,107] kd||false))))))
noncomputable def asg (kd:T):Bool:=(eqT [97,115,115,105,103,110] kd||(eqT [117,112,100,97,116,101] kd||false))
structure Kd (kd:T) (l:Int) (o:Bool):Prop where
 kk:∃ s j b au:Bool,eqT kd [115,116,114,117,99,116]=s∧jmp kd=j∧blk kd=b∧blk2 kd=b∧asg kd=au∧(s||(j||b))=o∧(s||(decide (l=0)&&!au))=o
 l0:nonneg l=true
structure EI (N M k:Nat) (kd:T) (r:List D) (l:Int) (o:Bool) (f:Bool→Dc):Prop where
 hM:M≤32900
 hk:k≤8
 kk:Kd kd l o
 q:∀ x,Ql M k 1 0 good (f x)
 lv:Sure N 0 i_level_of [.tup (.str kd::r)] (.int l)
 ll:Sure N 0 i_law_level [.tup (.str kd::r)] (.int l)
 wr:∀ x,Sure N 0 i_written [.tup (.str kd::r),.bool x] (.str (pretty (f x)))
 bf:∀ x,Sure N 0 i_law_bare_flat [.tup (.str kd::r),.bool x] (.str (flat (f x)))
section
variable {N M k:Nat}{kd:T}{r:List D}{l:Int}{o:Bool}{f:Bool→Dc}(E:EI N M k kd r l o f)
include E
theorem EI.p0:par f l o 0 false=f false:=by
 have h:=nonneg_iff.mp E.kk.l0
 unfold par
 rw [if_neg]
 simp only [Bool.false_and,Bool.false_eq_true,or_false]
 lia
theorem EI.qp (least:Int) (x:Bool):Ql (M+2) k 1 0 good (par f l o least x):=(Ql.par E.q l o least x).wk (by lia) (Nat.le_refl _)
theorem EI.pl (x:Bool):(pretty (f x)).length≤PB:=(E.q x).pl (by have:=E.hM;lia) E.hk
theorem EI.fl (x:Bool):(flat (f x)).length≤PB:=(E.q x).fl (by have:=E.hM;lia)
theorem EI.pls:(pretty (inB (f false))).length≤strBound:=PBS ((E.q false).inB.pl (by have:=E.hM;lia) E.hk)
theorem EI.fls:(flat (inB (f false))).length≤strBound:=PBS ((E.q false).inB.fl (by have:=E.hM;lia))
theorem EI.ppl (least:Int) (x:Bool):(pretty (par f l o least x)).length≤PB:=(E.qp least x).pl (by have:=E.hM;lia) E.hk
theorem EI.pfl (least:Int) (x:Bool):(flat (par f l o least x)).length≤PB:=(E.qp least x).fl (by have:=E.hM;lia)
theorem we (least:Int) (x:Bool):Sure N 1 i_write_expr [.tup (.str kd::r),.int least,.bool x] (.str (pretty (par f l o least x))):=by
 obtain ⟨s,j,b,au,h1,h2,h3,h4,h5,h6,h7⟩:=E.kk.kk
 have hb:=E.pls
 by_cases hl:l < least
 ·have e:par f l o least x=inB (f false):=if_pos (.inl hl)
  rw [e]
  have d:decide (l < least)=true:=decide_eq_true hl
  refine Sure.of2 g_write_expr E.lv (E.wr false) fun cf hv hw π k hk=>e_write_expr ?_
  cases x
  ·exact hv π _ (iteT d (iteT d (hw π _ ⟨bl hb,hb,hk⟩)))
  ·cases s
   ·cases j
    ·exact iteF h1 (iteF h2 (hv π _ (iteT d (iteT d (hw π _ ⟨bl hb,hb,hk⟩)))))
    ·exact iteF h1 (iteT h2 (hv π _ (iteT d (iteT d (hw π _ ⟨bl hb,hb,hk⟩)))))
   ·exact iteT h1 (hv π _ (iteT d (iteT d (hw π _ ⟨bl hb,hb,hk⟩))))
 ·have d:decide (l < least)=false:=decide_eq_false hl
  refine Sure.of3 g_write_expr E.lv (E.wr false) (E.wr x) fun cf hv hw hx π k hk=>e_write_expr ?_
  cases x
  ·have e:par f l o least false=f false:=if_neg (by simp [hl])
   rw [e] at hk
   exact hv π _ (iteF d (hx π _ hk))
  ·cases s
   ·cases j
    ·cases b
     ·have e:par f l o least true=f true:=if_neg (by rw [←h6];simp [hl])
      rw [e] at hk
      exact iteF h1 (iteF h2 (hv π _ (iteF d (iteF h3 (hx π _ hk)))))
     ·have e:par f l o least true=inB (f false):=if_pos (by rw [←h6];simp)
      rw [e] at hk
      exact iteF h1 (iteF h2 (hv π _ (iteF d (iteT h3 (hw π _ ⟨bl hb,hb,hk⟩)))))
    ·have e:par f l o least true=inB (f false):=if_pos (by rw [←h6];simp)
     rw [e] at hk
     exact iteF h1 (iteT h2 (hv π _ (iteF d (iteT h2 (hw π _ ⟨bl hb,hb,hk⟩)))))
   ·have e:par f l o least true=inB (f false):=if_pos (by rw [←h6];simp)
    rw [e] at hk
    exact iteT h1 (hv π _ (iteF d (iteT h1 (hw π _ ⟨bl hb,hb,hk⟩))))
theorem we2 (least:Int):Sure N 1 i_write_expr [.tup (.str kd::r),.int least] (.str (pretty (par f l o least false))):=by
 have h:=we E least false
 intro K hK π k hk
 have h:=h K hK π k hk
 cases K with
 | zero=>exact h
 | succ K=>exact h
theorem we1:Sure N 1 i_write_expr [.tup (.str kd::r)] (.str (pretty (f false))):=by
 have h:=we E 0 false
 rw [E.p0] at h
 intro K hK π k hk
 have h:=h K hK π k hk
 cases K with
 | zero=>exact h
 | succ K=>exact h
theorem lf (w:Int) (x:Bool):Sure N 1 i_law_flat [.tup (.str kd::r),.int w,.bool x] (.str (flat (par f l o w x))):=by
 obtain ⟨s,j,b,au,h1,h2,h3,h4,h5,h6,h7⟩:=E.kk.kk
 have hb:=E.fls
 by_cases hl:l < w
 ·have e:par f l o w x=inB (f false):=if_pos (.inl hl)
  rw [e]
  have d:decide (l < w)=true:=decide_eq_true hl
  refine Sure.of2 g_law_flat E.ll (E.bf false) fun cf hv hw π k hk=>e_law_flat ?_
  cases x
  ·exact hv π _ (iteT d (hw π _ ⟨bl hb,hb,hk⟩))
  ·cases s
   ·cases hz:decide (l=0)
    ·exact iteF h1 (hv π _ (iteF hz (iteF hz (hv π _ (iteT d (hw π _ ⟨bl hb,hb,hk⟩))))))
    ·cases au
     ·have hn:(!asg kd)=true:=by rw [h5];rfl
      exact iteF h1 (hv π _ (iteT hz (iteT hn (iteT hn (hw π _ ⟨bl hb,hb,hk⟩)))))
     ·have hn:(!asg kd)=false:=by rw [h5];rfl
      exact iteF h1 (hv π _ (iteT hz (iteF hn (hv π _ (iteT d (hw π _ ⟨bl hb,hb,hk⟩))))))
   ·exact iteT h1 (iteT h1 (iteT h1 (hw π _ ⟨bl hb,hb,hk⟩)))
 ·have d:decide (l < w)=false:=decide_eq_false hl
  refine Sure.of3 g_law_flat E.ll (E.bf false) (E.bf x) fun cf hv hw hx π k hk=>e_law_flat ?_
  cases x
  ·have e:par f l o w false=f false:=if_neg (by simp [hl])
   rw [e] at hk
   exact hv π _ (iteF d (hx π _ hk))
  ·cases s
   ·cases hz:decide (l=0)
    ·have e:par f l o w true=f true:=if_neg (by rw [←h7,hz];simp [hl])
     rw [e] at hk
     exact iteF h1 (hv π _ (iteF hz (iteF hz (hv π _ (iteF d (hx π _ hk))))))
    ·cases au
     ·have e:par f l o w true=inB (f false):=if_pos (by rw [←h7,hz];simp)
      rw [e] at hk
      have hn:(!asg kd)=true:=by rw [h5];rfl
      exact iteF h1 (hv π _ (iteT hz (iteT hn (iteT hn (hw π _ ⟨bl hb,hb,hk⟩)))))
     ·have e:par f l o w true=f true:=if_neg (by rw [←h7,hz];simp [hl])
      rw [e] at hk
      have hn:(!asg kd)=false:=by rw [h5];rfl
      exact iteF h1 (hv π _ (iteT hz (iteF hn (hv π _ (iteF d (hx π _ hk))))))
   ·have e:par f l o w true=inB (f false):=if_pos (by rw [←h7];simp)
    rw [e] at hk
    exact iteT h1 (iteT h1 (iteT h1 (hw π _ ⟨bl hb,hb,hk⟩)))
theorem lf0:Sure N 1 i_law_flat [.tup (.str kd::r),.int 0,.bool false] (.str (flat (f false))):=by
 have h:=lf E 0 false
 rw [E.p0] at h
 exact h
noncomputable def sd (kd:T) (least:Int):Int:=if eqT kd [99,97,115,116]=true then 11 else least
omit E in
theorem sdT {kd:T}{a:Int}(h:eqT kd [99,97,115,116]=true):sd kd a=11:=if_pos h
omit E in
theorem sdF {kd:T}{a:Int}(h:eqT kd [99,97,115,116]=false):sd kd a=a:=if_neg (by rw [h];decide)
theorem ws (least:Int) (x:Bool):Sure N 2 i_write_side [.tup (.str kd::r),.int least,.bool x] (.str (pretty (par f l o (sd kd least) x))):=by
 cases h:eqT kd [99,97,115,116]
 ·rw [sdF h];exact Sure.of g_write_side (we E least x) fun cf hh π k hk=>e_write_side (iteF h (hh π _ hk))
 ·rw [sdT h];exact Sure.of g_write_side (we E 11 x) fun cf hh π k hk=>e_write_side (iteT h (hh π _ hk))
theorem ls (least:Int) (x:Bool):Sure N 2 i_law_side [.tup (.str kd::r),.int least,.bool x] (.str (flat (par f l o (sd kd least) x))):=by
 cases h:eqT kd [99,97,115,116]
 ·rw [sdF h];exact Sure.of g_law_side (lf E least x) fun cf hh π k hk=>e_law_side (iteF h (hh π _ hk))
 ·rw [sdT h];exact Sure.of g_law_side (lf E 11 x) fun cf hh π k hk=>e_law_side (iteT h (hh π _ hk))
theorem wcond:Sure N 2 i_write_condition [.tup (.str kd::r)] (.str (pretty (par f l o 0 true))):=
 Sure.of g_write_condition (we E 0 true) fun cf hh π k hk=>e_write_condition (hh π _ hk)
theorem wbound:Sure N 3 i_write_bound [.tup (.str kd::r)] (.str (pretty (par f l o (sd kd 1) true))):=
 Sure.of g_write_bound (ws E 1 true) fun cf hh π k hk=>e_write_bound (hh π _ hk)
theorem wl1:Sure N 2 i_write_list [.tup [.tup (.str kd::r)]] (.str (pretty (f false))):=
 Sure.of g_write_list (we1 E) fun cf hh π k hk=>e_write_list (hh π _ ⟨jok1 (E.pl false) rfl,hk⟩)
theorem ll1:Sure N 2 i_law_list [.tup [.tup (.str kd::r)]] (.str (flat (f false))):=
 Sure.of g_law_list (lf0 E) fun cf hh π k hk=>e_law_list (hh π _ ⟨jok1 (E.fl false) rfl,hk⟩)
theorem ll1':Sure N 2 i_law_list [.lst [.tup (.str kd::r)]] (.str (flat (f false))):=
 Sure.of g_law_list (lf0 E) fun cf hh π k hk=>e_law_list (hh π _ ⟨jok1 (E.fl false) rfl,hk⟩)
theorem wro1:Sure N 1 i_write_row [.lst [.str (pretty (f false))]] (.str (pretty (.cat (.cat (.cat (.txt [40]) (f false)) (.txt [44])) (.txt [41])))):=by
 have hb:(pretty (.cat (.cat (.cat (.txt [40]) (f false)) (.txt [44])) (.txt [41]))).length≤strBound:=PBS ((((((Ql.txt (t:=[40]) rfl).cat (E.q false)).cat (Ql.txt (t:=[44]) rfl)).cat (Ql.txt (t:=[41]) rfl))).pl (by have:=E.hM;simp only [List.length_cons,List.length_nil];lia) E.hk)
 exact Sure.of0 g_write_row fun cf π k hk=>e_write_row ⟨jok1 (E.pl false) rfl,bl (bl hb),bl hb,hb,hk⟩
variable {M' k':Nat}{kd':T}{r':List D}{l':Int}{o':Bool}{f':Bool→Dc}(E':EI N M' k' kd' r' l' o' f')
include E'
theorem wl2:Sure N 2 i_write_list [.tup [.tup (.str kd::r),.tup (.str kd'::r')]] (.str (pretty (.cat (.cat (f false) (.txt [44,32])) (f' false)))):=
 Sure.of2 g_write_list (we1 E) (we1 E') fun cf hh h2 π k hk=>e_write_list (hh π _ (h2 π _ ⟨jok2 (E.pl false) (E'.pl false) rfl,hk⟩))
theorem ll2:Sure N 2 i_law_list [.tup [.tup (.str kd::r),.tup (.str kd'::r')]] (.str (flat (.cat (.cat (f false) (.txt [44,32])) (f' false)))):=
 Sure.of2 g_law_list (lf0 E) (lf0 E') fun cf hh h2 π k hk=>e_law_list (hh π _ (h2 π _ ⟨jok2 (E.fl false) (E'.fl false) rfl,hk⟩))
end
theorem wl0 {N:Nat}:Sure N 1 i_write_list [.tup []] (.str []):=Sure.of0 g_write_list fun cf π k hk=>e_write_list ⟨jok0,hk⟩
theorem ll0 {N:Nat}:Sure N 1 i_law_list [.tup []] (.str []):=Sure.of0 g_law_list fun cf π k hk=>e_law_list ⟨jok0,hk⟩
theorem Ql.fin {M k c d:Nat}{p:At}{x:Dc}(i:Ql M k c d p x) (hp:p=good){M' k':Nat}(hM:c*M+d≤M') (hk:k≤k'):Ql M' k' 1 0 good x:=by
 subst hp;exact i.wk hM hk
theorem Sure.wr {N j M k c d:Nat}{p:At}{a:Dc}{f:Nat}{ds:List D}(q:Ql M k c d p a) (hM:c*M+d≤33000) (hk:k≤8)
  (x:(pretty a).length≤PB→Sure N j f ds (.str (pretty a))):Sure N j f ds (.str (pretty a)):=x (q.pl hM hk)
theorem Sure.law {N j M k c d:Nat}{p:At}{a b:Dc}{f:Nat}{ds:List D}(q:Ql M k c d p a) (hM:c*M+d≤33000) (e:flatA b []=flatA a [])
  (x:(flat b).length≤PB→Sure N j f ds (.str (flat b))):Sure N j f ds (.str (flat a)):=
 flat_eq e▸x (by rw [flat_eq e];exact q.fl hM)
end
section
open PySem PySem.W
theorem wMap_run {f:D→Pi→(Option D→Pi→Prop)→Prop}(g:D→D) (π:Pi) (k:List D→Pi→Prop):∀ (L acc:List D),
  (∀ d∈L,∀ k':Option D→Pi→Prop,k' (some (g d)) π→f d π k')→k (acc.reverse++L.map g) π→wMap f L acc π k
 | [],acc,h,hk=>by simpa [wMap] using hk
 | d::L,acc,h,hk=>by
  refine h d List.mem_cons_self _ ?_
  exact wMap_run g π k L (g d::acc) (fun d hd=>h d (List.mem_cons_of_mem _ hd)) (by simpa using hk)
theorem joinT_nil:∀ l:List T,joinT [] l=l.flatten
 | []=>rfl
 | [t]=>by simp [joinT]
 | t::u::l=>by
  rw [joinT_cons,joinT_nil (u::l)];simp
theorem lines_ind:∀ t:T,((lines t).map fun l=>([32,32,32,32]++l)++[10]).flatten=indT t
 | []=>rfl
 | c::t=>by
  have ih:=lines_ind t
  have hn:=lines_ne t
  by_cases h:c=10
  ·subst h
   have e:lines (10::t)=[]::lines t:=by simp [lines]
   rw [e,List.map_cons,List.flatten_cons,ih]
   simp [indT,ind]
  ·obtain ⟨l,r,hr⟩:∃ l r,lines t=l::r:=by
    cases hl:lines t with
    | nil=>exact absurd hl hn
    | cons l r=>exact ⟨l,r,rfl⟩
   have e:lines (c::t)=(c::l)::r:=by simp [lines,h,hr]
   rw [hr,List.map_cons,List.flatten_cons] at ih
   rw [e,List.map_cons,List.flatten_cons]
   simp only [indT,ind,if_neg h] at ih ⊢
   simp at ih ⊢
   exact ih
theorem sum_mem:∀ {l:List Nat}{x:Nat},x∈l→x≤l.sum
 | a::l,x,h=>by
  rcases List.mem_cons.mp h with rfl | h
  ·simp
  ·have:=sum_mem h;simp;lia
theorem len_mem {L:List T}{x:T}(h:x∈L):x.length≤L.flatten.length:=by
 rw [List.length_flatten];exact sum_mem (List.mem_map_of_mem h)
theorem strOf_map (L:List T):(L.map D.str).map strOf=L:=by
 rw [List.map_map];simp [Function.comp_def,strOf]
theorem all_str (L:List T):(L.map D.str).all isStrD=true:=by simp [isStrD]
theorem count_le:∀ {L:List T},(∀ x∈L,1≤x.length)→L.length≤L.flatten.length
 | [],h=>Nat.le_refl _
 | x::L,h=>by
  have:=count_le fun x hx=>h x (List.mem_cons_of_mem _ hx)
  have:=h x List.mem_cons_self
  simp only [List.length_cons,List.flatten_cons,List.length_append];lia
theorem join_ok {L:List T}{n:Nat}(h:L.flatten.length≤n):((L.map D.str).all isStrD=true∧(((L.map D.str).map strOf).map (·.length)).sum+(L.map D.str).length*([]:T).length≤n):=by
 refine ⟨all_str L,?_⟩
 rw [strOf_map]
 rw [List.length_flatten] at h
 simpa using h
theorem ind_ev {N:Nat}:Ev N 1 fun cf=>∀ t:T,(indT t).length≤PB→Says cf i_indented [.str t] (.str (indT t)):=by
 intro K hK t ht π k hk
 obtain ⟨K,rfl⟩:∃ n,K=n+1:=⟨K - 1,by lia⟩
 refine ret_fn g_indented K _ π k (e_indented ?_)
 have e1:PB=1089000:=rfl
 have e2:strBound=4000000:=rfl
 have hl:=lines_ind t
 let G:T→T:=fun l=>([32,32,32,32]++l)++[10]
 have hG:∀ x∈lines t,(G x).length≤PB:=fun x hx=>by
  have:=len_mem (List.mem_map_of_mem (f:=G) hx)
  rw [hl] at this;lia
 have hG':∀ x∈lines t,x.length+5≤PB:=fun x hx=>by
  have:=hG x hx
  have e:(G x).length=x.length+5:=by simp [G]
  lia
 have hc:((lines t).map G).length≤PB:=by
  refine Nat.le_trans (count_le fun x hx=>?_) (by rw [hl];exact ht)
  obtain ⟨y,_,rfl⟩:=List.mem_map.mp hx
  simp [G]
 have htl:t.length≤PB:=by
  have:(ind t).length≤(indT t).length:=by simp [indT];lia
  have h2:∀ t:T,t.length≤(ind t).length:=by
   intro t
   induction t with
   | nil=>simp
   | cons c t ih=>simp only [ind];split <;> simp <;> lia
  have:=h2 t;lia
 refine And.intro ⟨by lia,fun x hx=>?_⟩ ?_
 ·rw [splitT_eq] at hx
  have:=hG' x hx;lia
 rw [splitT_eq]
 refine chkL_iff.mpr ⟨by rw [List.length_map] at hc ⊢;lia,?_⟩
 refine wMap_run (fun d=>.str (G (strOf d))) π _ _ _ (fun d hd k' hk'=>?_) ?_
 ·obtain ⟨x,hx,rfl⟩:=List.mem_map.mp hd
  have:=hG' x hx
  exact ⟨by simp;lia,by simp;lia,hk'⟩
 ·have e:(List.map (fun d=>D.str (G (strOf d))) (List.map D.str (lines t)))=((lines t).map G).map D.str:=by
   simp [Function.comp_def,strOf]
  have e2:joinT [] ((((lines t).map G).map D.str).map strOf)=indT t:=by rw [strOf_map,joinT_nil];exact hl
  show _
  rw [List.reverse_nil,List.nil_append,e]
  refine And.intro (join_ok (by rw [hl];lia)) ?_
  rw [e2]
  exact hk
noncomputable def rowsD:DcL→List D
 | .nil=>[]
 | .cons r rs=>.str (pretty r)::rowsD rs
noncomputable def rowsT:DcL→List T
 | .nil=>[]
 | .cons r rs=>indT (pretty r)::rowsT rs
theorem rowsT_eq:∀ rs,(rowsT rs).flatten=prettyRs rs
 | .nil=>rfl
 | .cons r rs=>by simp only [rowsT,List.flatten_cons,rowsT_eq rs,prettyRs]
theorem rowsD_map:∀ rs,(rowsD rs).map (fun d=>D.str (indT (strOf d)))=(rowsT rs).map D.str
 | .nil=>rfl
 | .cons r rs=>by
  have e:(rowsD (.cons r rs)).map (fun d=>D.str (indT (strOf d)))=D.str (indT (pretty r))::(rowsD rs).map (fun d=>D.str (indT (strOf d))):=rfl
  rw [e,rowsD_map rs];rfl
theorem rowsD_mem:∀ {rs:DcL}{d:D},d∈rowsD rs→∃ t,d=.str t∧indT t∈rowsT rs
 | .cons r rs,d,h=>by
  rcases List.mem_cons.mp h with rfl | h
  ·exact ⟨_,rfl,List.mem_cons_self⟩
  ·obtain ⟨t,e,m⟩:=rowsD_mem h
   exact ⟨t,e,List.mem_cons_of_mem _ m⟩
theorem rowsT_one:∀ {rs:DcL},∀ x∈rowsT rs,1≤x.length
 | .cons r rs,x,h=>by
  rcases List.mem_cons.mp h with rfl | h
  ·simp [indT]
  ·exact rowsT_one x h
theorem rowsT_len:∀ rs:DcL,(rowsD rs).length=(rowsT rs).length
 | .nil=>rfl
 | .cons r rs=>by simp only [rowsD,rowsT,List.length_cons,rowsT_len rs]
theorem wrows {N:Nat}(rs:DcL) (h:(pretty (.br rs)).length≤PB):Sure N 2 i_write_rows [.lst (rowsD rs)] (.str (pretty (.br rs))):=by
 have e1:PB=1089000:=rfl
 have e2:strBound=4000000:=rfl
 cases rs with
 | nil=>exact Sure.of0 g_write_rows fun cf π k hk=>e_write_rows hk
 | cons r rs=>
  refine Sure.of g_write_rows ind_ev fun cf hi π k hk=>e_write_rows ?_
  have hp:(prettyRs (.cons r rs)).length+3≤PB:=by
   have e:(pretty (.br (.cons r rs)))=123::10::(prettyRs (.cons r rs)++[125]):=rfl
   rw [e] at h;simp only [List.length_cons,List.length_append,List.length_nil] at h;lia
  have hT:=rowsT_eq (.cons r rs)
  have hJ:joinT [] (((rowsT (.cons r rs)).map D.str).map strOf)=prettyRs (.cons r rs):=by rw [strOf_map,joinT_nil,hT]
  refine chkL_iff.mpr ⟨?_,?_⟩
  ·have h1:=count_le (rowsT_one (rs:=.cons r rs))
   rw [hT] at h1
   rw [rowsT_len];lia
  refine wMap_run (fun d=>.str (indT (strOf d))) π _ _ _ (fun d hd k' hk'=>?_) ?_
  ·obtain ⟨t,rfl,m⟩:=rowsD_mem hd
   have:=len_mem m
   rw [hT] at this
   exact hi t (by lia) π _ hk'
  ·show _
   rw [List.reverse_nil,List.nil_append,rowsD_map]
   refine And.intro (join_ok (by rw [hT];lia)) ?_
   rw [hJ]
   exact ⟨by simp only [List.length_append,List.length_cons,List.length_nil];lia,by simp only [List.length_append,List.length_cons,List.length_nil];lia,hk⟩
end
section
open PySem PySem.W
noncomputable def SaysL (cf:Or) (b:Ex) (x:Nat) (d r:D):Prop:=∀ π k,k r π→cf (.lam b x d) [] π k
section
variable {N j a1 a2 a3:Nat}
theorem SureL.of {b:Ex}{x:Nat}{d r:D}{P:Or→Prop}(p:Ev N a1 P) (h:∀ cf,P cf→∀ (π:Pi) (k:D→Pi→Prop),k r π→wE b cf ⟨[],[(x,d)]⟩ π k) (l1:Nat.ble a1 j=true:=by rfl):Ev N (j+1) fun cf=>SaysL cf b x d r:=by
 intro K hK π k hk
 obtain ⟨K,rfl⟩:∃ n,K=n+1:=⟨K - 1,by lia⟩
 exact ⟨rfl,h _ (p.up l1 K (by lia)) π k hk⟩
theorem SureL.of0 {b:Ex}{x:Nat}{d r:D}(h:∀ cf,∀ (π:Pi) (k:D→Pi→Prop),k r π→wE b cf ⟨[],[(x,d)]⟩ π k):Ev N (j+1) fun cf=>SaysL cf b x d r:=
 SureL.of (a1:=0) (P:=fun _=>True) (Ev.all fun _=>trivial) (fun cf _=>h cf) (Nat.ble_eq.mpr (Nat.zero_le _))
end
theorem Ql.gd {M k c d:Nat}{p:At}{x:Dc}(i:Ql M k c d p x) (hp:p=good):Ql M k c d good x:=hp▸i
structure OpOk (op:T) (n:Int):Prop where
 lk:look [[124,124],[38,38],[61,61],[33,61],[60],[60,61],[62],[62,61],[124],[94],[38],[60,60],[62,62],[43],[45],[42],[47],[37]] [.int 1,.int 2,.int 3,.int 3,.int 3,.int 3,.int 3,.int 3,.int 4,.int 5,.int 6,.int 7,.int 7,.int 8,.int 8,.int 9,.int 9,.int 9] op=some (.int n)
 ll:∀ {N:Nat}(r:List D),Sure N 1 i_law_level [.tup (.str [98,105,110,97,114,121]::.int 0::.str op::r)] (.int n)
 hn:decide (n=0)=false
 l0:nonneg n=true
 ok:okT op=true
 at':attr op=good
 ln:op.length≤2
theorem slOk {l:List D}(h:l.length=4):(1:Int)≤3∧(3:Int)≤4∧(4:Int)≤l.length∧l.length≤1000:=by rw [h];decide
theorem wro2 {N:Nat}{a b:T}(h:(([40]++((a++[44,32])++b))++[]++[41]).length≤PB):Sure N 1 i_write_row [.lst [.str a,.str b]] (.str ((([40]++((a++[44,32])++b))++[])++[41])):=
 Sure.of0 g_write_row fun cf π k hk=>e_write_row ⟨jok2 (bl (bl (br (bl (bl h))))) (br (br (bl (bl h)))) rfl,PBS (bl (bl h)),PBS (bl h),PBS h,hk⟩
theorem op0:OpOk [124,124] 1:=⟨rfl,fun {N} r=>Sure.of0 g_law_level fun cf π k hk=>e_law_level hk,rfl,rfl,rfl,rfl,by decide⟩
theorem op1:OpOk [38,38] 2:=⟨rfl,fun {N} r=>Sure.of0 g_law_level fun cf π k hk=>e_law_level hk,rfl,rfl,rfl,rfl,by decide⟩
theorem op2:OpOk [61,61] 3:=⟨rfl,fun {N} r=>Sure.of0 g_law_level fun cf π k hk=>e_law_level hk,rfl,rfl,rfl,rfl,by decide⟩
theorem op3:OpOk [60] 3:=⟨rfl,fun {N} r=>Sure.of0 g_law_level fun cf π k hk=>e_law_level hk,rfl,rfl,rfl,rfl,by decide⟩
theorem op4:OpOk [124] 4:=⟨rfl,fun {N} r=>Sure.of0 g_law_level fun cf π k hk=>e_law_level hk,rfl,rfl,rfl,rfl,by decide⟩
theorem op5:OpOk [94] 5:=⟨rfl,fun {N} r=>Sure.of0 g_law_level fun cf π k hk=>e_law_level hk,rfl,rfl,rfl,rfl,by decide⟩
theorem op6:OpOk [38] 6:=⟨rfl,fun {N} r=>Sure.of0 g_law_level fun cf π k hk=>e_law_level hk,rfl,rfl,rfl,rfl,by decide⟩
theorem op7:OpOk [60,60] 7:=⟨rfl,fun {N} r=>Sure.of0 g_law_level fun cf π k hk=>e_law_level hk,rfl,rfl,rfl,rfl,by decide⟩
theorem op8:OpOk [43] 8:=⟨rfl,fun {N} r=>Sure.of0 g_law_level fun cf π k hk=>e_law_level hk,rfl,rfl,rfl,rfl,by decide⟩
theorem op9:OpOk [45] 8:=⟨rfl,fun {N} r=>Sure.of0 g_law_level fun cf π k hk=>e_law_level hk,rfl,rfl,rfl,rfl,by decide⟩
theorem op10:OpOk [42] 9:=⟨rfl,fun {N} r=>Sure.of0 g_law_level fun cf π k hk=>e_law_level hk,rfl,rfl,rfl,rfl,by decide⟩
theorem op11:OpOk [37] 9:=⟨rfl,fun {N} r=>Sure.of0 g_law_level fun cf π k hk=>e_law_level hk,rfl,rfl,rfl,rfl,by decide⟩
theorem we20 {N M k:Nat}{kd:T}{r:List D}{l:Int}{o:Bool}{f:Bool→Dc}(E:EI N M k kd r l o f):Sure N 1 i_write_expr [.tup (.str kd::r),.int 0] (.str (pretty (f false))):=by
 have h:=we2 E 0
 rw [E.p0] at h;exact h
theorem we2b {N M k:Nat}{kd:T}{r:List D}{l:Int}{o:Bool}{f:Bool→Dc}(E:EI N M k kd r l o f) (hl:l < 1):Sure N 1 i_write_expr [.tup (.str kd::r),.int 1] (.str (pretty (inB (f false)))):=by
 have h:=we2 E 1
 have e:par f l o 1 false=inB (f false):=if_pos (.inl hl)
 rw [e] at h;exact h
theorem EI.wk {N M k N' M' k':Nat}{kd:T}{r:List D}{l:Int}{o:Bool}{f:Bool→Dc}(E:EI N M k kd r l o f) (hN:N≤N') (h:M≤M') (h1:M'≤32900) (h2:k≤k') (h3:k'≤8):EI N' M' k' kd r l o f:=
 ⟨h1,h3,E.kk,fun x=>(E.q x).wk (by lia) h2,E.lv.mn hN,E.ll.mn hN,fun x=>(E.wr x).mn hN,fun x=>(E.bf x).mn hN⟩
structure BI (N M k:Nat) (r:List D) (b:Dc):Prop where
 E:EI N M k [98,108,111,99,107] r 0 true (fun _=>b)
 wb:Sure N 0 i_write_block [.tup (.str [98,108,111,99,107]::r)] (.str (pretty b))
 lb:Sure N 0 i_law_long_flat [.tup (.str [98,108,111,99,107]::r)] (.str (flat b))
theorem BI.wk {N M k N' M' k':Nat}{r:List D}{b:Dc}(B:BI N M k r b) (hN:N≤N') (h:M≤M') (h1:M'≤32900) (h2:k≤k') (h3:k'≤8):BI N' M' k' r b:=⟨B.E.wk hN h h1 h2 h3,B.wb.mn hN,B.lb.mn hN⟩
section
variable {N M k:Nat}
variable {kd:T}{r:List D}{l:Int}{o:Bool}{f:Bool→Dc}
variable {kd':T}{r':List D}{l':Int}{o':Bool}{f':Bool→Dc}
variable {rb:List D}{b:Dc}
section
variable (hk0:k≤8)
include hk0
theorem c_int7  (hM:0*M+1≤32900):EI (N+10) (0*M+1) (k) [105,110,116] ([.int 0,.int 7,.none]) 12 false (fun x=>(.cat (.txt [55]) (.txt []))):=by
 have q:∀ x:Bool,Ql M (k) 0 1 _ (.cat (.txt [55]) (.txt [])):=fun x=>((Ql.txt (t:=[55]) rfl).cat (Ql.txt (t:=[]) rfl))
 exact ⟨hM,hk0,⟨⟨_,_,_,_,rfl,rfl,rfl,rfl,rfl,rfl,rfl⟩,rfl⟩,fun x=>(q x).fin rfl (Nat.le_refl _) (Nat.le_refl _),Ev.sh (j:=10) (Sure.of0 g_level_of fun cf π k hk=>e_level_of hk),Ev.sh (j:=10) (Sure.of0 g_law_level fun cf π k hk=>e_law_level hk),
  fun x=>Ev.sh (j:=10) (Sure.wr (q x) (by lia) hk0 fun hb=>Sure.of0 g_written  fun cf  π k hk=>e_written ⟨PBS hb,hk⟩),fun x=>Ev.sh (j:=10) (Sure.law (b:=(.cat (.txt [55]) (.txt []))) (q x) (by lia) rfl fun hb=>Sure.of0 g_law_bare_flat  fun cf  π k hk=>e_law_bare_flat ⟨PBS hb,hk⟩)⟩
theorem c_int0  (hM:0*M+3≤32900):EI (N+10) (0*M+3) (k) [105,110,116] ([.int 0,.int 0,.str [117,56]]) 12 false (fun x=>(.cat (.txt [48]) (.txt [117,56]))):=by
 have q:∀ x:Bool,Ql M (k) 0 3 _ (.cat (.txt [48]) (.txt [117,56])):=fun x=>((Ql.txt (t:=[48]) rfl).cat (Ql.txt (t:=[117,56]) rfl))
 exact ⟨hM,hk0,⟨⟨_,_,_,_,rfl,rfl,rfl,rfl,rfl,rfl,rfl⟩,rfl⟩,fun x=>(q x).fin rfl (Nat.le_refl _) (Nat.le_refl _),Ev.sh (j:=10) (Sure.of0 g_level_of fun cf π k hk=>e_level_of hk),Ev.sh (j:=10) (Sure.of0 g_law_level fun cf π k hk=>e_law_level hk),
  fun x=>Ev.sh (j:=10) (Sure.wr (q x) (by lia) hk0 fun hb=>Sure.of0 g_written  fun cf  π k hk=>e_written ⟨PBS hb,hk⟩),fun x=>Ev.sh (j:=10) (Sure.law (b:=(.cat (.txt [48]) (.txt [117,56]))) (q x) (by lia) rfl fun hb=>Sure.of0 g_law_bare_flat  fun cf  π k hk=>e_law_bare_flat ⟨PBS hb,hk⟩)⟩
theorem c_bool  (hM:0*M+4≤32900):EI (N+10) (0*M+4) (k) [98,111,111,108] ([.int 0,.bool true]) 12 false (fun x=>(.txt [116,114,117,101])):=by
 have q:∀ x:Bool,Ql M (k) 0 4 _ (.txt [116,114,117,101]):=fun x=>(Ql.txt (t:=[116,114,117,101]) rfl)
 exact ⟨hM,hk0,⟨⟨_,_,_,_,rfl,rfl,rfl,rfl,rfl,rfl,rfl⟩,rfl⟩,fun x=>(q x).fin rfl (Nat.le_refl _) (Nat.le_refl _),Ev.sh (j:=10) (Sure.of0 g_level_of fun cf π k hk=>e_level_of hk),Ev.sh (j:=10) (Sure.of0 g_law_level fun cf π k hk=>e_law_level hk),
  fun x=>Ev.sh (j:=10) (Sure.wr (q x) (by lia) hk0 fun hb=>Sure.of g_written sp_litT fun cf h0 π k hk=>e_written (h0 π _ hk)),fun x=>Ev.sh (j:=10) (Sure.law (b:=(.txt [116,114,117,101])) (q x) (by lia) rfl fun hb=>Sure.of0 g_law_bare_flat  fun cf  π k hk=>e_law_bare_flat hk)⟩
theorem c_path_a  (hM:0*M+1≤32900):EI (N+10) (0*M+1) (k) [112,97,116,104] ([.int 0,pth [97]]) 12 false (fun x=>(.txt [97])):=by
 have q:∀ x:Bool,Ql M (k) 0 1 _ (.txt [97]):=fun x=>(Ql.txt (t:=[97]) rfl)
 exact ⟨hM,hk0,⟨⟨_,_,_,_,rfl,rfl,rfl,rfl,rfl,rfl,rfl⟩,rfl⟩,fun x=>(q x).fin rfl (Nat.le_refl _) (Nat.le_refl _),Ev.sh (j:=10) (Sure.of0 g_level_of fun cf π k hk=>e_level_of hk),Ev.sh (j:=10) (Sure.of0 g_law_level fun cf π k hk=>e_law_level hk),
  fun x=>Ev.sh (j:=10) (Sure.wr (q x) (by lia) hk0 fun hb=>Sure.of g_written (sy_path2 (n:=[97]) (by decide)) fun cf h0 π k hk=>e_written (h0 π _ hk)),fun x=>Ev.sh (j:=10) (Sure.law (b:=(.cat (.txt [97]) (.txt []))) (q x) (by lia) rfl fun hb=>Sure.of0 g_law_bare_flat  fun cf  π k hk=>e_law_bare_flat ⟨PBS hb,hk⟩)⟩
theorem c_path_b  (hM:0*M+1≤32900):EI (N+10) (0*M+1) (k) [112,97,116,104] ([.int 0,pth [98]]) 12 false (fun x=>(.txt [98])):=by
 have q:∀ x:Bool,Ql M (k) 0 1 _ (.txt [98]):=fun x=>(Ql.txt (t:=[98]) rfl)
 exact ⟨hM,hk0,⟨⟨_,_,_,_,rfl,rfl,rfl,rfl,rfl,rfl,rfl⟩,rfl⟩,fun x=>(q x).fin rfl (Nat.le_refl _) (Nat.le_refl _),Ev.sh (j:=10) (Sure.of0 g_level_of fun cf π k hk=>e_level_of hk),Ev.sh (j:=10) (Sure.of0 g_law_level fun cf π k hk=>e_law_level hk),
  fun x=>Ev.sh (j:=10) (Sure.wr (q x) (by lia) hk0 fun hb=>Sure.of g_written (sy_path2 (n:=[98]) (by decide)) fun cf h0 π k hk=>e_written (h0 π _ hk)),fun x=>Ev.sh (j:=10) (Sure.law (b:=(.cat (.txt [98]) (.txt []))) (q x) (by lia) rfl fun hb=>Sure.of0 g_law_bare_flat  fun cf  π k hk=>e_law_bare_flat ⟨PBS hb,hk⟩)⟩
theorem c_path_c  (hM:0*M+1≤32900):EI (N+10) (0*M+1) (k) [112,97,116,104] ([.int 0,pth [99]]) 12 false (fun x=>(.txt [99])):=by
 have q:∀ x:Bool,Ql M (k) 0 1 _ (.txt [99]):=fun x=>(Ql.txt (t:=[99]) rfl)
 exact ⟨hM,hk0,⟨⟨_,_,_,_,rfl,rfl,rfl,rfl,rfl,rfl,rfl⟩,rfl⟩,fun x=>(q x).fin rfl (Nat.le_refl _) (Nat.le_refl _),Ev.sh (j:=10) (Sure.of0 g_level_of fun cf π k hk=>e_level_of hk),Ev.sh (j:=10) (Sure.of0 g_law_level fun cf π k hk=>e_law_level hk),
  fun x=>Ev.sh (j:=10) (Sure.wr (q x) (by lia) hk0 fun hb=>Sure.of g_written (sy_path2 (n:=[99]) (by decide)) fun cf h0 π k hk=>e_written (h0 π _ hk)),fun x=>Ev.sh (j:=10) (Sure.law (b:=(.cat (.txt [99]) (.txt []))) (q x) (by lia) rfl fun hb=>Sure.of0 g_law_bare_flat  fun cf  π k hk=>e_law_bare_flat ⟨PBS hb,hk⟩)⟩
theorem c_path_d  (hM:0*M+1≤32900):EI (N+10) (0*M+1) (k) [112,97,116,104] ([.int 0,pth [100]]) 12 false (fun x=>(.txt [100])):=by
 have q:∀ x:Bool,Ql M (k) 0 1 _ (.txt [100]):=fun x=>(Ql.txt (t:=[100]) rfl)
 exact ⟨hM,hk0,⟨⟨_,_,_,_,rfl,rfl,rfl,rfl,rfl,rfl,rfl⟩,rfl⟩,fun x=>(q x).fin rfl (Nat.le_refl _) (Nat.le_refl _),Ev.sh (j:=10) (Sure.of0 g_level_of fun cf π k hk=>e_level_of hk),Ev.sh (j:=10) (Sure.of0 g_law_level fun cf π k hk=>e_law_level hk),
  fun x=>Ev.sh (j:=10) (Sure.wr (q x) (by lia) hk0 fun hb=>Sure.of g_written (sy_path2 (n:=[100]) (by decide)) fun cf h0 π k hk=>e_written (h0 π _ hk)),fun x=>Ev.sh (j:=10) (Sure.law (b:=(.cat (.txt [100]) (.txt []))) (q x) (by lia) rfl fun hb=>Sure.of0 g_law_bare_flat  fun cf  π k hk=>e_law_bare_flat ⟨PBS hb,hk⟩)⟩
theorem c_pathF  (hM:0*M+7≤32900):EI (N+10) (0*M+7) (k) [112,97,116,104] ([.int 0,pF]) 12 false (fun x=>(.txt [102,58,58,60,117,56,62])):=by
 have q:∀ x:Bool,Ql M (k) 0 7 _ (.txt [102,58,58,60,117,56,62]):=fun x=>(Ql.txt (t:=[102,58,58,60,117,56,62]) rfl)
 exact ⟨hM,hk0,⟨⟨_,_,_,_,rfl,rfl,rfl,rfl,rfl,rfl,rfl⟩,rfl⟩,fun x=>(q x).fin rfl (Nat.le_refl _) (Nat.le_refl _),Ev.sh (j:=10) (Sure.of0 g_level_of fun cf π k hk=>e_level_of hk),Ev.sh (j:=10) (Sure.of0 g_law_level fun cf π k hk=>e_law_level hk),
  fun x=>Ev.sh (j:=10) (Sure.wr (q x) (by lia) hk0 fun hb=>Sure.of g_written sy_pathF fun cf h0 π k hk=>e_written (h0 π _ hk)),fun x=>Ev.sh (j:=10) (Sure.law (b:=(.cat (.txt [102]) (.txt [58,58,60,117,56,62]))) (q x) (by lia) rfl fun hb=>Sure.of0 g_law_bare_flat  fun cf  π k hk=>e_law_bare_flat ⟨PBS hb,hk⟩)⟩
theorem c_ret0  (hM:0*M+6≤32900):EI (N+10) (0*M+6) (k) [114,101,116,117,114,110] ([.int 0,.none]) 0 true (fun x=>(.txt [114,101,116,117,114,110])):=by
 have q:∀ x:Bool,Ql M (k) 0 6 _ (.txt [114,101,116,117,114,110]):=fun x=>(Ql.txt (t:=[114,101,116,117,114,110]) rfl)
 exact ⟨hM,hk0,⟨⟨_,_,_,_,rfl,rfl,rfl,rfl,rfl,rfl,rfl⟩,rfl⟩,fun x=>(q x).fin rfl (Nat.le_refl _) (Nat.le_refl _),Ev.sh (j:=10) (Sure.of0 g_level_of fun cf π k hk=>e_level_of hk),Ev.sh (j:=10) (Sure.of0 g_law_level fun cf π k hk=>e_law_level hk),
  fun x=>Ev.sh (j:=10) (Sure.wr (q x) (by lia) hk0 fun hb=>Sure.of g_written (show Sure N 9 i_write_jump [.tup (.str [114,101,116,117,114,110]::[.int 0,.none])] (.str (pretty (.txt [114,101,116,117,114,110]))) from Sure.of0 g_write_jump  fun cf  π k hk=>e_write_jump hk) fun cf h π k hk=>e_written (h π _ hk)),fun x=>Ev.sh (j:=10) (Sure.law (b:=(.cat (.txt [114,101,116,117,114,110]) (.txt []))) (q x) (by lia) rfl fun hb=>Sure.of g_law_bare_flat (show Sure N 9 i_law_long_flat [.tup (.str [114,101,116,117,114,110]::[.int 0,.none])] (.str (flat (.cat (.txt [114,101,116,117,114,110]) (.txt [])))) from Sure.of0 g_law_long_flat  fun cf  π k hk=>e_law_long_flat ⟨PBS hb,hk⟩) fun cf h π k hk=>e_law_bare_flat (h π _ hk))⟩
theorem c_brk0  (hM:0*M+5≤32900):EI (N+10) (0*M+5) (k) [98,114,101,97,107] ([.int 0,.none,.none]) 0 true (fun x=>(.txt [98,114,101,97,107])):=by
 have q:∀ x:Bool,Ql M (k) 0 5 _ (.txt [98,114,101,97,107]):=fun x=>(Ql.txt (t:=[98,114,101,97,107]) rfl)
 exact ⟨hM,hk0,⟨⟨_,_,_,_,rfl,rfl,rfl,rfl,rfl,rfl,rfl⟩,rfl⟩,fun x=>(q x).fin rfl (Nat.le_refl _) (Nat.le_refl _),Ev.sh (j:=10) (Sure.of0 g_level_of fun cf π k hk=>e_level_of hk),Ev.sh (j:=10) (Sure.of0 g_law_level fun cf π k hk=>e_law_level hk),
  fun x=>Ev.sh (j:=10) (Sure.wr (q x) (by lia) hk0 fun hb=>Sure.of g_written (show Sure N 9 i_write_jump [.tup (.str [98,114,101,97,107]::[.int 0,.none,.none])] (.str (pretty (.txt [98,114,101,97,107]))) from Sure.of0 g_write_jump  fun cf  π k hk=>e_write_jump hk) fun cf h π k hk=>e_written (h π _ hk)),fun x=>Ev.sh (j:=10) (Sure.law (b:=(.cat (.txt [98,114,101,97,107]) (.txt []))) (q x) (by lia) rfl fun hb=>Sure.of g_law_bare_flat (show Sure N 9 i_law_long_flat [.tup (.str [98,114,101,97,107]::[.int 0,.none,.none])] (.str (flat (.cat (.txt [98,114,101,97,107]) (.txt [])))) from Sure.of0 g_law_long_flat  fun cf  π k hk=>e_law_long_flat ⟨PBS hb,hk⟩) fun cf h π k hk=>e_law_bare_flat (h π _ hk))⟩
theorem c_cont  (hM:0*M+11≤32900):EI (N+10) (0*M+11) (k) [99,111,110,116,105,110,117,101] ([.int 0,.str [39,97]]) 0 true (fun x=>(.cat (.txt [99,111,110,116,105,110,117,101]) (.cat (.txt [32]) (.txt [39,97])))):=by
 have q:∀ x:Bool,Ql M (k) 0 11 _ (.cat (.txt [99,111,110,116,105,110,117,101]) (.cat (.txt [32]) (.txt [39,97]))):=fun x=>((Ql.txt (t:=[99,111,110,116,105,110,117,101]) rfl).cat ((Ql.txt (t:=[32]) rfl).cat (Ql.txt (t:=[39,97]) rfl)))
 exact ⟨hM,hk0,⟨⟨_,_,_,_,rfl,rfl,rfl,rfl,rfl,rfl,rfl⟩,rfl⟩,fun x=>(q x).fin rfl (Nat.le_refl _) (Nat.le_refl _),Ev.sh (j:=10) (Sure.of0 g_level_of fun cf π k hk=>e_level_of hk),Ev.sh (j:=10) (Sure.of0 g_law_level fun cf π k hk=>e_law_level hk),
  fun x=>Ev.sh (j:=10) (Sure.wr (q x) (by lia) hk0 fun hb=>Sure.of g_written (show Sure N 9 i_write_jump [.tup (.str [99,111,110,116,105,110,117,101]::[.int 0,.str [39,97]])] (.str (pretty (.cat (.txt [99,111,110,116,105,110,117,101]) (.cat (.txt [32]) (.txt [39,97]))))) from Sure.of0 g_write_jump  fun cf  π k hk=>e_write_jump ⟨PBS (br hb),⟨PBS hb,hk⟩⟩) fun cf h π k hk=>e_written (h π _ hk)),fun x=>Ev.sh (j:=10) (Sure.law (b:=(.cat (.txt [99,111,110,116,105,110,117,101]) (.cat (.txt [32]) (.txt [39,97])))) (q x) (by lia) rfl fun hb=>Sure.of g_law_bare_flat (show Sure N 9 i_law_long_flat [.tup (.str [99,111,110,116,105,110,117,101]::[.int 0,.str [39,97]])] (.str (flat (.cat (.txt [99,111,110,116,105,110,117,101]) (.cat (.txt [32]) (.txt [39,97]))))) from Sure.of0 g_law_long_flat  fun cf  π k hk=>e_law_long_flat ⟨PBS (br hb),⟨PBS hb,hk⟩⟩) fun cf h π k hk=>e_law_bare_flat (h π _ hk))⟩
theorem c_struct0  (hM:0*M+4≤32900):EI (N+10) (0*M+4) (k) [115,116,114,117,99,116] ([.int 0,pth [80],.tup []]) 12 true (fun x=>(.cat (.txt [80]) (.txt [32,123,125]))):=by
 have q:∀ x:Bool,Ql M (k) 0 4 _ (.cat (.txt [80]) (.txt [32,123,125])):=fun x=>((Ql.txt (t:=[80]) rfl).cat (Ql.txt (t:=[32,123,125]) rfl))
 exact ⟨hM,hk0,⟨⟨_,_,_,_,rfl,rfl,rfl,rfl,rfl,rfl,rfl⟩,rfl⟩,fun x=>(q x).fin rfl (Nat.le_refl _) (Nat.le_refl _),Ev.sh (j:=10) (Sure.of0 g_level_of fun cf π k hk=>e_level_of hk),Ev.sh (j:=10) (Sure.of0 g_law_level fun cf π k hk=>e_law_level hk),
  fun x=>Ev.sh (j:=10) (Sure.wr (q x) (by lia) hk0 fun hb=>Sure.of g_written (show Sure N 9 i_write_gathered [.tup (.str [115,116,114,117,99,116]::[.int 0,pth [80],.tup []])] (.str (pretty (.cat (.txt [80]) (.txt [32,123,125])))) from Sure.of g_write_gathered (sy_path2 (n:=[80]) (by decide)) fun cf h0 π k hk=>e_write_gathered ⟨jok0,(h0 π _ ⟨PBS hb,hk⟩)⟩) fun cf h π k hk=>e_written (h π _ hk)),fun x=>Ev.sh (j:=10) (Sure.law (b:=(.txt [80,32,123,125])) (q x) (by lia) rfl fun hb=>Sure.of0 g_law_bare_flat  fun cf  π k hk=>e_law_bare_flat hk)⟩
end
theorem c_bin (E:EI N M k kd r l o f) (E':EI N M k kd' r' l' o' f'){op:T}{n:Int}(H:OpOk op n) (hM:2*M+8≤32900):EI (N+10) (2*M+8) (k) [98,105,110,97,114,121] ([.int 0,.str op,.tup (.str kd::r),.tup (.str kd'::r')]) n false (fun x=>(.cat (.cat (.cat (.cat (par f l o (sd kd (n+(if decide (n=3)=true then 1 else 0))) x) (.txt [32])) (.txt op)) (.txt [32])) (par f' l' o' (sd kd' (n+1)) x))):=by
 have q:∀ x:Bool,Ql M (k) 2 8 _ (.cat (.cat (.cat (.cat (par f l o (sd kd (n+(if decide (n=3)=true then 1 else 0))) x) (.txt [32])) (.txt op)) (.txt [32])) (par f' l' o' (sd kd' (n+1)) x)):=fun x=>(((((Ql.par E.q l o (sd kd (n+(if decide (n=3)=true then 1 else 0))) x).cat (Ql.txt (t:=[32]) rfl)).cat (Ql.var H.ok H.at' H.ln)).cat (Ql.txt (t:=[32]) rfl)).cat (Ql.par E'.q l' o' (sd kd' (n+1)) x))
 exact ⟨hM,E.hk,⟨⟨false,false,false,false,rfl,rfl,rfl,rfl,rfl,rfl,by rw [H.hn];rfl⟩,H.l0⟩,fun x=>(q x).fin rfl (Nat.le_refl _) (Nat.le_refl _),Ev.sh (j:=10) (Sure.of0 g_level_of fun cf π k hk=>e_level_of (onD_of H.lk hk)),Ev.sh (j:=10) (H.ll _),
  fun x=>Ev.sh (j:=10) (Sure.wr (q x) (by lia) E.hk fun hb=>Sure.of g_written (show Sure N 9 i_write_operated [.tup (.str [98,105,110,97,114,121]::[.int 0,.str op,.tup (.str kd::r),.tup (.str kd'::r')]),.bool x] (.str (pretty (.cat (.cat (.cat (.cat (par f l o (sd kd (n+(if decide (n=3)=true then 1 else 0))) x) (.txt [32])) (.txt op)) (.txt [32])) (par f' l' o' (sd kd' (n+1)) x)))) from Sure.of2 g_write_operated (ws E (n+(if decide (n=3)=true then 1 else 0)) x) (ws E' (n+1) x) fun cf h0 h1 π k hk=>e_write_operated (onD_of H.lk (h0 π _ ⟨PBS (bl (bl (bl hb))),⟨PBS (bl (bl hb)),⟨PBS (bl hb),(h1 π _ ⟨PBS hb,hk⟩)⟩⟩⟩))) fun cf h π k hk=>e_written (h π _ hk)),fun x=>Ev.sh (j:=10) (Sure.law (b:=(.cat (.cat (.cat (.cat (par f l o (sd kd (n+(if decide (n=3)=true then 1 else 0))) x) (.txt [32])) (.txt op)) (.txt [32])) (par f' l' o' (sd kd' (n+1)) x))) (q x) (by lia) rfl fun hb=>Sure.of3 g_law_bare_flat (H.ll [.tup (.str kd::r),.tup (.str kd'::r')]) (ls E (n+(if decide (n=3)=true then 1 else 0)) x) (ls E' (n+1) x) fun cf h0 h1 h2 π k hk=>e_law_bare_flat (h0 π _ (h1 π _ ⟨PBS (bl (bl (bl hb))),⟨PBS (bl (bl hb)),⟨PBS (bl hb),(h2 π _ ⟨PBS hb,hk⟩)⟩⟩⟩)))⟩
theorem c_un_neg (E:EI N M k kd r l o f) (hM:1*M+3≤32900):EI (N+10) (1*M+3) (k) [117,110,97,114,121] ([.int 0,.str [45],.tup (.str kd::r)]) 11 false (fun x=>(.cat (.txt [45]) (par f l o 11 x))):=by
 have q:∀ x:Bool,Ql M (k) 1 3 _ (.cat (.txt [45]) (par f l o 11 x)):=fun x=>((Ql.txt (t:=[45]) rfl).cat (Ql.par E.q l o 11 x))
 exact ⟨hM,E.hk,⟨⟨_,_,_,_,rfl,rfl,rfl,rfl,rfl,rfl,rfl⟩,rfl⟩,fun x=>(q x).fin rfl (Nat.le_refl _) (Nat.le_refl _),Ev.sh (j:=10) (Sure.of0 g_level_of fun cf π k hk=>e_level_of hk),Ev.sh (j:=10) (Sure.of0 g_law_level fun cf π k hk=>e_law_level hk),
  fun x=>Ev.sh (j:=10) (Sure.wr (q x) (by lia) E.hk fun hb=>Sure.of g_written (show Sure N 9 i_write_ahead [.tup (.str [117,110,97,114,121]::[.int 0,.str [45],.tup (.str kd::r)]),.bool x] (.str (pretty (.cat (.txt [45]) (par f l o 11 x)))) from Sure.of g_write_ahead (we E 11 x) fun cf h0 π k hk=>e_write_ahead (h0 π _ ⟨PBS hb,hk⟩)) fun cf h π k hk=>e_written (h π _ hk)),fun x=>Ev.sh (j:=10) (Sure.law (b:=(.cat (.txt [45]) (par f l o 11 x))) (q x) (by lia) rfl fun hb=>Sure.of g_law_bare_flat (lf E 11 x) fun cf h0 π k hk=>e_law_bare_flat (h0 π _ ⟨PBS hb,hk⟩))⟩
theorem c_un_not (E:EI N M k kd r l o f) (hM:1*M+3≤32900):EI (N+10) (1*M+3) (k) [117,110,97,114,121] ([.int 0,.str [33],.tup (.str kd::r)]) 11 false (fun x=>(.cat (.txt [33]) (par f l o 11 x))):=by
 have q:∀ x:Bool,Ql M (k) 1 3 _ (.cat (.txt [33]) (par f l o 11 x)):=fun x=>((Ql.txt (t:=[33]) rfl).cat (Ql.par E.q l o 11 x))
 exact ⟨hM,E.hk,⟨⟨_,_,_,_,rfl,rfl,rfl,rfl,rfl,rfl,rfl⟩,rfl⟩,fun x=>(q x).fin rfl (Nat.le_refl _) (Nat.le_refl _),Ev.sh (j:=10) (Sure.of0 g_level_of fun cf π k hk=>e_level_of hk),Ev.sh (j:=10) (Sure.of0 g_law_level fun cf π k hk=>e_law_level hk),
  fun x=>Ev.sh (j:=10) (Sure.wr (q x) (by lia) E.hk fun hb=>Sure.of g_written (show Sure N 9 i_write_ahead [.tup (.str [117,110,97,114,121]::[.int 0,.str [33],.tup (.str kd::r)]),.bool x] (.str (pretty (.cat (.txt [33]) (par f l o 11 x)))) from Sure.of g_write_ahead (we E 11 x) fun cf h0 π k hk=>e_write_ahead (h0 π _ ⟨PBS hb,hk⟩)) fun cf h π k hk=>e_written (h π _ hk)),fun x=>Ev.sh (j:=10) (Sure.law (b:=(.cat (.txt [33]) (par f l o 11 x))) (q x) (by lia) rfl fun hb=>Sure.of g_law_bare_flat (lf E 11 x) fun cf h0 π k hk=>e_law_bare_flat (h0 π _ ⟨PBS hb,hk⟩))⟩
theorem c_bor1 (E:EI N M k kd r l o f) (hM:1*M+7≤32900):EI (N+10) (1*M+7) (k) [98,111,114,114,111,119] ([.int 0,.bool true,.tup (.str kd::r)]) 11 false (fun x=>(.cat (.cat (.txt [38]) (.txt [109,117,116,32])) (par f l o 11 x))):=by
 have q:∀ x:Bool,Ql M (k) 1 7 _ (.cat (.cat (.txt [38]) (.txt [109,117,116,32])) (par f l o 11 x)):=fun x=>(((Ql.txt (t:=[38]) rfl).cat (Ql.txt (t:=[109,117,116,32]) rfl)).cat (Ql.par E.q l o 11 x))
 exact ⟨hM,E.hk,⟨⟨_,_,_,_,rfl,rfl,rfl,rfl,rfl,rfl,rfl⟩,rfl⟩,fun x=>(q x).fin rfl (Nat.le_refl _) (Nat.le_refl _),Ev.sh (j:=10) (Sure.of0 g_level_of fun cf π k hk=>e_level_of hk),Ev.sh (j:=10) (Sure.of0 g_law_level fun cf π k hk=>e_law_level hk),
  fun x=>Ev.sh (j:=10) (Sure.wr (q x) (by lia) E.hk fun hb=>Sure.of g_written (show Sure N 9 i_write_ahead [.tup (.str [98,111,114,114,111,119]::[.int 0,.bool true,.tup (.str kd::r)]),.bool x] (.str (pretty (.cat (.cat (.txt [38]) (.txt [109,117,116,32])) (par f l o 11 x)))) from Sure.of g_write_ahead (we E 11 x) fun cf h0 π k hk=>e_write_ahead ⟨PBS (bl hb),(h0 π _ ⟨PBS hb,hk⟩)⟩) fun cf h π k hk=>e_written (h π _ hk)),fun x=>Ev.sh (j:=10) (Sure.law (b:=(.cat (.txt [38,109,117,116,32]) (par f l o 11 x))) (q x) (by lia) rfl fun hb=>Sure.of g_law_bare_flat (lf E 11 x) fun cf h0 π k hk=>e_law_bare_flat (h0 π _ ⟨PBS hb,hk⟩))⟩
theorem c_bor0 (E:EI N M k kd r l o f) (hM:1*M+3≤32900):EI (N+10) (1*M+3) (k) [98,111,114,114,111,119] ([.int 0,.bool false,.tup (.str kd::r)]) 11 false (fun x=>(.cat (.cat (.txt [38]) (.txt [])) (par f l o 11 x))):=by
 have q:∀ x:Bool,Ql M (k) 1 3 _ (.cat (.cat (.txt [38]) (.txt [])) (par f l o 11 x)):=fun x=>(((Ql.txt (t:=[38]) rfl).cat (Ql.txt (t:=[]) rfl)).cat (Ql.par E.q l o 11 x))
 exact ⟨hM,E.hk,⟨⟨_,_,_,_,rfl,rfl,rfl,rfl,rfl,rfl,rfl⟩,rfl⟩,fun x=>(q x).fin rfl (Nat.le_refl _) (Nat.le_refl _),Ev.sh (j:=10) (Sure.of0 g_level_of fun cf π k hk=>e_level_of hk),Ev.sh (j:=10) (Sure.of0 g_law_level fun cf π k hk=>e_law_level hk),
  fun x=>Ev.sh (j:=10) (Sure.wr (q x) (by lia) E.hk fun hb=>Sure.of g_written (show Sure N 9 i_write_ahead [.tup (.str [98,111,114,114,111,119]::[.int 0,.bool false,.tup (.str kd::r)]),.bool x] (.str (pretty (.cat (.cat (.txt [38]) (.txt [])) (par f l o 11 x)))) from Sure.of g_write_ahead (we E 11 x) fun cf h0 π k hk=>e_write_ahead ⟨PBS (bl hb),(h0 π _ ⟨PBS hb,hk⟩)⟩) fun cf h π k hk=>e_written (h π _ hk)),fun x=>Ev.sh (j:=10) (Sure.law (b:=(.cat (.txt [38]) (par f l o 11 x))) (q x) (by lia) rfl fun hb=>Sure.of g_law_bare_flat (lf E 11 x) fun cf h0 π k hk=>e_law_bare_flat (h0 π _ ⟨PBS hb,hk⟩))⟩
theorem c_cast (E:EI N M k kd r l o f) (hM:1*M+8≤32900):EI (N+10) (1*M+8) (k) [99,97,115,116] ([.int 0,.tup (.str kd::r),pathD [117,56]]) 10 false (fun x=>(.cat (.cat (par f l o 10 x) (.txt [32,97,115,32])) (.txt [117,56]))):=by
 have q:∀ x:Bool,Ql M (k) 1 8 _ (.cat (.cat (par f l o 10 x) (.txt [32,97,115,32])) (.txt [117,56])):=fun x=>(((Ql.par E.q l o 10 x).cat (Ql.txt (t:=[32,97,115,32]) rfl)).cat (Ql.txt (t:=[117,56]) rfl))
 exact ⟨hM,E.hk,⟨⟨_,_,_,_,rfl,rfl,rfl,rfl,rfl,rfl,rfl⟩,rfl⟩,fun x=>(q x).fin rfl (Nat.le_refl _) (Nat.le_refl _),Ev.sh (j:=10) (Sure.of0 g_level_of fun cf π k hk=>e_level_of hk),Ev.sh (j:=10) (Sure.of0 g_law_level fun cf π k hk=>e_law_level hk),
  fun x=>Ev.sh (j:=10) (Sure.wr (q x) (by lia) E.hk fun hb=>Sure.of g_written (show Sure N 9 i_write_operated [.tup (.str [99,97,115,116]::[.int 0,.tup (.str kd::r),pathD [117,56]]),.bool x] (.str (pretty (.cat (.cat (par f l o 10 x) (.txt [32,97,115,32])) (.txt [117,56])))) from Sure.of2 g_write_operated (we E 10 x) sy_u8 fun cf h0 h1 π k hk=>e_write_operated (h0 π _ ⟨PBS (bl hb),(h1 π _ ⟨PBS hb,hk⟩)⟩)) fun cf h π k hk=>e_written (h π _ hk)),fun x=>Ev.sh (j:=10) (Sure.law (b:=(.cat (par f l o 10 x) (.txt [32,97,115,32,117,56]))) (q x) (by lia) rfl fun hb=>Sure.of g_law_bare_flat (lf E 10 x) fun cf h0 π k hk=>e_law_bare_flat (h0 π _ ⟨PBS hb,hk⟩))⟩
theorem c_assign (E:EI N M k kd r l o f) (E':EI N M k kd' r' l' o' f') (hM:2*M+7≤32900):EI (N+10) (2*M+7) (k) [97,115,115,105,103,110] ([.int 0,.tup (.str kd::r),.tup (.str kd'::r')]) 0 false (fun x=>(.cat (.cat (par f l o (sd kd 1) x) (.txt [32,61,32])) (par f' l' o' 0 x))):=by
 have q:∀ x:Bool,Ql M (k) 2 7 _ (.cat (.cat (par f l o (sd kd 1) x) (.txt [32,61,32])) (par f' l' o' 0 x)):=fun x=>(((Ql.par E.q l o (sd kd 1) x).cat (Ql.txt (t:=[32,61,32]) rfl)).cat (Ql.par E'.q l' o' 0 x))
 exact ⟨hM,E.hk,⟨⟨_,_,_,_,rfl,rfl,rfl,rfl,rfl,rfl,rfl⟩,rfl⟩,fun x=>(q x).fin rfl (Nat.le_refl _) (Nat.le_refl _),Ev.sh (j:=10) (Sure.of0 g_level_of fun cf π k hk=>e_level_of hk),Ev.sh (j:=10) (Sure.of0 g_law_level fun cf π k hk=>e_law_level hk),
  fun x=>Ev.sh (j:=10) (Sure.wr (q x) (by lia) E.hk fun hb=>Sure.of g_written (show Sure N 9 i_write_operated [.tup (.str [97,115,115,105,103,110]::[.int 0,.tup (.str kd::r),.tup (.str kd'::r')]),.bool x] (.str (pretty (.cat (.cat (par f l o (sd kd 1) x) (.txt [32,61,32])) (par f' l' o' 0 x)))) from Sure.of2 g_write_operated (ws E 1 x) (we E' 0 x) fun cf h0 h1 π k hk=>e_write_operated (h0 π _ ⟨PBS (bl hb),(h1 π _ ⟨PBS hb,hk⟩)⟩)) fun cf h π k hk=>e_written (h π _ hk)),fun x=>Ev.sh (j:=10) (Sure.law (b:=(.cat (.cat (par f l o (sd kd 1) x) (.txt [32,61,32])) (par f' l' o' 0 x))) (q x) (by lia) rfl fun hb=>Sure.of2 g_law_bare_flat (ls E 1 x) (lf E' 0 x) fun cf h0 h1 π k hk=>e_law_bare_flat (h0 π _ ⟨PBS (bl hb),(h1 π _ ⟨PBS hb,hk⟩)⟩))⟩
theorem c_update (E:EI N M k kd r l o f) (E':EI N M k kd' r' l' o' f') (hM:2*M+8≤32900):EI (N+10) (2*M+8) (k) [117,112,100,97,116,101] ([.int 0,.str [43],.tup (.str kd::r),.tup (.str kd'::r')]) 0 false (fun x=>(.cat (.cat (.cat (.cat (par f l o (sd kd 1) x) (.txt [32])) (.txt [43])) (.txt [61,32])) (par f' l' o' 0 x))):=by
 have q:∀ x:Bool,Ql M (k) 2 8 _ (.cat (.cat (.cat (.cat (par f l o (sd kd 1) x) (.txt [32])) (.txt [43])) (.txt [61,32])) (par f' l' o' 0 x)):=fun x=>(((((Ql.par E.q l o (sd kd 1) x).cat (Ql.txt (t:=[32]) rfl)).cat (Ql.txt (t:=[43]) rfl)).cat (Ql.txt (t:=[61,32]) rfl)).cat (Ql.par E'.q l' o' 0 x))
 exact ⟨hM,E.hk,⟨⟨_,_,_,_,rfl,rfl,rfl,rfl,rfl,rfl,rfl⟩,rfl⟩,fun x=>(q x).fin rfl (Nat.le_refl _) (Nat.le_refl _),Ev.sh (j:=10) (Sure.of0 g_level_of fun cf π k hk=>e_level_of hk),Ev.sh (j:=10) (Sure.of0 g_law_level fun cf π k hk=>e_law_level hk),
  fun x=>Ev.sh (j:=10) (Sure.wr (q x) (by lia) E.hk fun hb=>Sure.of g_written (show Sure N 9 i_write_operated [.tup (.str [117,112,100,97,116,101]::[.int 0,.str [43],.tup (.str kd::r),.tup (.str kd'::r')]),.bool x] (.str (pretty (.cat (.cat (.cat (.cat (par f l o (sd kd 1) x) (.txt [32])) (.txt [43])) (.txt [61,32])) (par f' l' o' 0 x)))) from Sure.of2 g_write_operated (ws E 1 x) (we E' 0 x) fun cf h0 h1 π k hk=>e_write_operated (h0 π _ ⟨PBS (bl (bl (bl hb))),⟨PBS (bl (bl hb)),⟨PBS (bl hb),(h1 π _ ⟨PBS hb,hk⟩)⟩⟩⟩)) fun cf h π k hk=>e_written (h π _ hk)),fun x=>Ev.sh (j:=10) (Sure.law (b:=(.cat (.cat (par f l o (sd kd 1) x) (.txt [32,43,61,32])) (par f' l' o' 0 x))) (q x) (by lia) rfl fun hb=>Sure.of2 g_law_bare_flat (ls E 1 x) (lf E' 0 x) fun cf h0 h1 π k hk=>e_law_bare_flat (h0 π _ ⟨PBS (bl hb),(h1 π _ ⟨PBS hb,hk⟩)⟩))⟩
theorem c_call1_S (E:EI N M k kd r l o f) (E':EI N M k kd' r' l' o' f') (hs:eqT kd [115,116,114,117,99,116]=true) (hf:eqT kd [102,105,101,108,100]=false) (hM:2*M+4≤32900):EI (N+10) (2*M+4) (k) [99,97,108,108] ([.int 0,.tup (.str kd::r),.tup [.tup (.str kd'::r')]]) 12 false (fun x=>(.cat (.cat (.cat (.cat (.cat (.txt [40]) (f false)) (.txt [41])) (.txt [40])) (f' false)) (.txt [41]))):=by
 have q:∀ x:Bool,Ql M (k) 2 4 _ (.cat (.cat (.cat (.cat (.cat (.txt [40]) (f false)) (.txt [41])) (.txt [40])) (f' false)) (.txt [41])):=fun x=>((((((Ql.txt (t:=[40]) rfl).cat (E.q false)).cat (Ql.txt (t:=[41]) rfl)).cat (Ql.txt (t:=[40]) rfl)).cat (E'.q false)).cat (Ql.txt (t:=[41]) rfl))
 exact ⟨hM,E.hk,⟨⟨_,_,_,_,rfl,rfl,rfl,rfl,rfl,rfl,rfl⟩,rfl⟩,fun x=>(q x).fin rfl (Nat.le_refl _) (Nat.le_refl _),Ev.sh (j:=10) (Sure.of0 g_level_of fun cf π k hk=>e_level_of hk),Ev.sh (j:=10) (Sure.of0 g_law_level fun cf π k hk=>e_law_level hk),
  fun x=>Ev.sh (j:=10) (Sure.wr (q x) (by lia) E.hk fun hb=>Sure.of g_written (show Sure N 9 i_write_behind [.tup (.str [99,97,108,108]::[.int 0,.tup (.str kd::r),.tup [.tup (.str kd'::r')]]),.bool x] (.str (pretty (.cat (.cat (.cat (.cat (.cat (.txt [40]) (f false)) (.txt [41])) (.txt [40])) (f' false)) (.txt [41])))) from Sure.of2 g_write_behind (we1 E) (wl1 E') fun cf h0 h1 π k hk=>e_write_behind (iteF hf (iteT hs (h0 π _ ⟨PBS (bl (bl (bl (bl hb)))),⟨PBS (bl (bl (bl hb))),⟨PBS (bl (bl hb)),(h1 π _ ⟨PBS (bl hb),⟨PBS hb,hk⟩⟩)⟩⟩⟩)))) fun cf h π k hk=>e_written (h π _ hk)),fun x=>Ev.sh (j:=10) (Sure.law (b:=(.cat (.cat (.cat (.txt [40]) (f false)) (.txt [41])) (.cat (.cat (.txt [40]) (f' false)) (.txt [41])))) (q x) (by lia) rfl fun hb=>Sure.of2 g_law_bare_flat (lf0 E) (show Ev N 5 (fun cf=>SaysL cf (.bin .Add (.bin .Add (.cst (.str [40])) (.call 6482616824352614216564 (.cons (.sub (.cel 5997359218) (.cst (.int 3))) .nil))) (.cst (.str [41]))) 5997359218 (.tup (.str [99,97,108,108]::[.int 0,.tup (.str kd::r),.tup [.tup (.str kd'::r')]])) (.str (flat (.cat (.cat (.txt [40]) (f' false)) (.txt [41]))))) from SureL.of (ll1 E') fun cf h0 π k hk=>(h0 π _ ⟨PBS (bl (br hb)),⟨PBS (br hb),hk⟩⟩)) fun cf h0 h1 π k hk=>e_law_bare_flat (iteT hs (iteT hs (h0 π _ ⟨PBS (bl (bl hb)),⟨PBS (bl hb),(h1 π _ ⟨PBS hb,hk⟩)⟩⟩))))⟩
theorem c_call0_S (E:EI N M k kd r l o f) (hs:eqT kd [115,116,114,117,99,116]=true) (hf:eqT kd [102,105,101,108,100]=false) (hM:1*M+4≤32900):EI (N+10) (1*M+4) (k) [99,97,108,108] ([.int 0,.tup (.str kd::r),.tup []]) 12 false (fun x=>(.cat (.cat (.cat (.cat (.cat (.txt [40]) (f false)) (.txt [41])) (.txt [40])) (.txt [])) (.txt [41]))):=by
 have q:∀ x:Bool,Ql M (k) 1 4 _ (.cat (.cat (.cat (.cat (.cat (.txt [40]) (f false)) (.txt [41])) (.txt [40])) (.txt [])) (.txt [41])):=fun x=>((((((Ql.txt (t:=[40]) rfl).cat (E.q false)).cat (Ql.txt (t:=[41]) rfl)).cat (Ql.txt (t:=[40]) rfl)).cat (Ql.txt (t:=[]) rfl)).cat (Ql.txt (t:=[41]) rfl))
 exact ⟨hM,E.hk,⟨⟨_,_,_,_,rfl,rfl,rfl,rfl,rfl,rfl,rfl⟩,rfl⟩,fun x=>(q x).fin rfl (Nat.le_refl _) (Nat.le_refl _),Ev.sh (j:=10) (Sure.of0 g_level_of fun cf π k hk=>e_level_of hk),Ev.sh (j:=10) (Sure.of0 g_law_level fun cf π k hk=>e_law_level hk),
  fun x=>Ev.sh (j:=10) (Sure.wr (q x) (by lia) E.hk fun hb=>Sure.of g_written (show Sure N 9 i_write_behind [.tup (.str [99,97,108,108]::[.int 0,.tup (.str kd::r),.tup []]),.bool x] (.str (pretty (.cat (.cat (.cat (.cat (.cat (.txt [40]) (f false)) (.txt [41])) (.txt [40])) (.txt [])) (.txt [41])))) from Sure.of2 g_write_behind (we1 E) wl0 fun cf h0 h1 π k hk=>e_write_behind (iteF hf (iteT hs (h0 π _ ⟨PBS (bl (bl (bl (bl hb)))),⟨PBS (bl (bl (bl hb))),⟨PBS (bl (bl hb)),(h1 π _ ⟨PBS (bl hb),⟨PBS hb,hk⟩⟩)⟩⟩⟩)))) fun cf h π k hk=>e_written (h π _ hk)),fun x=>Ev.sh (j:=10) (Sure.law (b:=(.cat (.cat (.cat (.txt [40]) (f false)) (.txt [41])) (.cat (.cat (.txt [40]) (.txt [])) (.txt [41])))) (q x) (by lia) rfl fun hb=>Sure.of2 g_law_bare_flat (lf0 E) (show Ev N 5 (fun cf=>SaysL cf (.bin .Add (.bin .Add (.cst (.str [40])) (.call 6482616824352614216564 (.cons (.sub (.cel 5997359218) (.cst (.int 3))) .nil))) (.cst (.str [41]))) 5997359218 (.tup (.str [99,97,108,108]::[.int 0,.tup (.str kd::r),.tup []])) (.str (flat (.cat (.cat (.txt [40]) (.txt [])) (.txt [41]))))) from SureL.of ll0 fun cf h0 π k hk=>(h0 π _ ⟨PBS (bl (br hb)),⟨PBS (br hb),hk⟩⟩)) fun cf h0 h1 π k hk=>e_law_bare_flat (iteT hs (iteT hs (h0 π _ ⟨PBS (bl (bl hb)),⟨PBS (bl hb),(h1 π _ ⟨PBS hb,hk⟩)⟩⟩))))⟩
theorem c_call1_F (E:EI N M k kd r l o f) (E':EI N M k kd' r' l' o' f') (hs:eqT kd [115,116,114,117,99,116]=false) (hf:eqT kd [102,105,101,108,100]=true) (hM:2*M+4≤32900):EI (N+10) (2*M+4) (k) [99,97,108,108] ([.int 0,.tup (.str kd::r),.tup [.tup (.str kd'::r')]]) 12 false (fun x=>(.cat (.cat (.cat (.cat (.cat (.txt [40]) (f false)) (.txt [41])) (.txt [40])) (f' false)) (.txt [41]))):=by
 have q:∀ x:Bool,Ql M (k) 2 4 _ (.cat (.cat (.cat (.cat (.cat (.txt [40]) (f false)) (.txt [41])) (.txt [40])) (f' false)) (.txt [41])):=fun x=>((((((Ql.txt (t:=[40]) rfl).cat (E.q false)).cat (Ql.txt (t:=[41]) rfl)).cat (Ql.txt (t:=[40]) rfl)).cat (E'.q false)).cat (Ql.txt (t:=[41]) rfl))
 exact ⟨hM,E.hk,⟨⟨_,_,_,_,rfl,rfl,rfl,rfl,rfl,rfl,rfl⟩,rfl⟩,fun x=>(q x).fin rfl (Nat.le_refl _) (Nat.le_refl _),Ev.sh (j:=10) (Sure.of0 g_level_of fun cf π k hk=>e_level_of hk),Ev.sh (j:=10) (Sure.of0 g_law_level fun cf π k hk=>e_law_level hk),
  fun x=>Ev.sh (j:=10) (Sure.wr (q x) (by lia) E.hk fun hb=>Sure.of g_written (show Sure N 9 i_write_behind [.tup (.str [99,97,108,108]::[.int 0,.tup (.str kd::r),.tup [.tup (.str kd'::r')]]),.bool x] (.str (pretty (.cat (.cat (.cat (.cat (.cat (.txt [40]) (f false)) (.txt [41])) (.txt [40])) (f' false)) (.txt [41])))) from Sure.of2 g_write_behind (we1 E) (wl1 E') fun cf h0 h1 π k hk=>e_write_behind (iteT hf (iteT hf (h0 π _ ⟨PBS (bl (bl (bl (bl hb)))),⟨PBS (bl (bl (bl hb))),⟨PBS (bl (bl hb)),(h1 π _ ⟨PBS (bl hb),⟨PBS hb,hk⟩⟩)⟩⟩⟩)))) fun cf h π k hk=>e_written (h π _ hk)),fun x=>Ev.sh (j:=10) (Sure.law (b:=(.cat (.cat (.cat (.txt [40]) (f false)) (.txt [41])) (.cat (.cat (.txt [40]) (f' false)) (.txt [41])))) (q x) (by lia) rfl fun hb=>Sure.of2 g_law_bare_flat (lf0 E) (show Ev N 5 (fun cf=>SaysL cf (.bin .Add (.bin .Add (.cst (.str [40])) (.call 6482616824352614216564 (.cons (.sub (.cel 5997359218) (.cst (.int 3))) .nil))) (.cst (.str [41]))) 5997359218 (.tup (.str [99,97,108,108]::[.int 0,.tup (.str kd::r),.tup [.tup (.str kd'::r')]])) (.str (flat (.cat (.cat (.txt [40]) (f' false)) (.txt [41]))))) from SureL.of (ll1 E') fun cf h0 π k hk=>(h0 π _ ⟨PBS (bl (br hb)),⟨PBS (br hb),hk⟩⟩)) fun cf h0 h1 π k hk=>e_law_bare_flat (iteF hs (iteT hf (h0 π _ ⟨PBS (bl (bl hb)),⟨PBS (bl hb),(h1 π _ ⟨PBS hb,hk⟩)⟩⟩))))⟩
theorem c_call0_F (E:EI N M k kd r l o f) (hs:eqT kd [115,116,114,117,99,116]=false) (hf:eqT kd [102,105,101,108,100]=true) (hM:1*M+4≤32900):EI (N+10) (1*M+4) (k) [99,97,108,108] ([.int 0,.tup (.str kd::r),.tup []]) 12 false (fun x=>(.cat (.cat (.cat (.cat (.cat (.txt [40]) (f false)) (.txt [41])) (.txt [40])) (.txt [])) (.txt [41]))):=by
 have q:∀ x:Bool,Ql M (k) 1 4 _ (.cat (.cat (.cat (.cat (.cat (.txt [40]) (f false)) (.txt [41])) (.txt [40])) (.txt [])) (.txt [41])):=fun x=>((((((Ql.txt (t:=[40]) rfl).cat (E.q false)).cat (Ql.txt (t:=[41]) rfl)).cat (Ql.txt (t:=[40]) rfl)).cat (Ql.txt (t:=[]) rfl)).cat (Ql.txt (t:=[41]) rfl))
 exact ⟨hM,E.hk,⟨⟨_,_,_,_,rfl,rfl,rfl,rfl,rfl,rfl,rfl⟩,rfl⟩,fun x=>(q x).fin rfl (Nat.le_refl _) (Nat.le_refl _),Ev.sh (j:=10) (Sure.of0 g_level_of fun cf π k hk=>e_level_of hk),Ev.sh (j:=10) (Sure.of0 g_law_level fun cf π k hk=>e_law_level hk),
  fun x=>Ev.sh (j:=10) (Sure.wr (q x) (by lia) E.hk fun hb=>Sure.of g_written (show Sure N 9 i_write_behind [.tup (.str [99,97,108,108]::[.int 0,.tup (.str kd::r),.tup []]),.bool x] (.str (pretty (.cat (.cat (.cat (.cat (.cat (.txt [40]) (f false)) (.txt [41])) (.txt [40])) (.txt [])) (.txt [41])))) from Sure.of2 g_write_behind (we1 E) wl0 fun cf h0 h1 π k hk=>e_write_behind (iteT hf (iteT hf (h0 π _ ⟨PBS (bl (bl (bl (bl hb)))),⟨PBS (bl (bl (bl hb))),⟨PBS (bl (bl hb)),(h1 π _ ⟨PBS (bl hb),⟨PBS hb,hk⟩⟩)⟩⟩⟩)))) fun cf h π k hk=>e_written (h π _ hk)),fun x=>Ev.sh (j:=10) (Sure.law (b:=(.cat (.cat (.cat (.txt [40]) (f false)) (.txt [41])) (.cat (.cat (.txt [40]) (.txt [])) (.txt [41])))) (q x) (by lia) rfl fun hb=>Sure.of2 g_law_bare_flat (lf0 E) (show Ev N 5 (fun cf=>SaysL cf (.bin .Add (.bin .Add (.cst (.str [40])) (.call 6482616824352614216564 (.cons (.sub (.cel 5997359218) (.cst (.int 3))) .nil))) (.cst (.str [41]))) 5997359218 (.tup (.str [99,97,108,108]::[.int 0,.tup (.str kd::r),.tup []])) (.str (flat (.cat (.cat (.txt [40]) (.txt [])) (.txt [41]))))) from SureL.of ll0 fun cf h0 π k hk=>(h0 π _ ⟨PBS (bl (br hb)),⟨PBS (br hb),hk⟩⟩)) fun cf h0 h1 π k hk=>e_law_bare_flat (iteF hs (iteT hf (h0 π _ ⟨PBS (bl (bl hb)),⟨PBS (bl hb),(h1 π _ ⟨PBS hb,hk⟩)⟩⟩))))⟩
theorem c_call1_O (E:EI N M k kd r l o f) (E':EI N M k kd' r' l' o' f') (hs:eqT kd [115,116,114,117,99,116]=false) (hf:eqT kd [102,105,101,108,100]=false) (hM:2*M+4≤32900):EI (N+10) (2*M+4) (k) [99,97,108,108] ([.int 0,.tup (.str kd::r),.tup [.tup (.str kd'::r')]]) 12 false (fun x=>(.cat (.cat (.cat (par f l o 12 x) (.txt [40])) (f' false)) (.txt [41]))):=by
 have q:∀ x:Bool,Ql M (k) 2 4 _ (.cat (.cat (.cat (par f l o 12 x) (.txt [40])) (f' false)) (.txt [41])):=fun x=>((((Ql.par E.q l o 12 x).cat (Ql.txt (t:=[40]) rfl)).cat (E'.q false)).cat (Ql.txt (t:=[41]) rfl))
 exact ⟨hM,E.hk,⟨⟨_,_,_,_,rfl,rfl,rfl,rfl,rfl,rfl,rfl⟩,rfl⟩,fun x=>(q x).fin rfl (Nat.le_refl _) (Nat.le_refl _),Ev.sh (j:=10) (Sure.of0 g_level_of fun cf π k hk=>e_level_of hk),Ev.sh (j:=10) (Sure.of0 g_law_level fun cf π k hk=>e_law_level hk),
  fun x=>Ev.sh (j:=10) (Sure.wr (q x) (by lia) E.hk fun hb=>Sure.of g_written (show Sure N 9 i_write_behind [.tup (.str [99,97,108,108]::[.int 0,.tup (.str kd::r),.tup [.tup (.str kd'::r')]]),.bool x] (.str (pretty (.cat (.cat (.cat (par f l o 12 x) (.txt [40])) (f' false)) (.txt [41])))) from Sure.of2 g_write_behind (we E 12 x) (wl1 E') fun cf h0 h1 π k hk=>e_write_behind (iteF hf (iteF hs (h0 π _ ⟨PBS (bl (bl hb)),(h1 π _ ⟨PBS (bl hb),⟨PBS hb,hk⟩⟩)⟩)))) fun cf h π k hk=>e_written (h π _ hk)),fun x=>Ev.sh (j:=10) (Sure.law (b:=(.cat (par f l o 12 x) (.cat (.cat (.txt [40]) (f' false)) (.txt [41])))) (q x) (by lia) rfl fun hb=>Sure.of2 g_law_bare_flat (lf E 12 x) (show Ev N 5 (fun cf=>SaysL cf (.bin .Add (.bin .Add (.cst (.str [40])) (.call 6482616824352614216564 (.cons (.sub (.cel 5997359218) (.cst (.int 3))) .nil))) (.cst (.str [41]))) 5997359218 (.tup (.str [99,97,108,108]::[.int 0,.tup (.str kd::r),.tup [.tup (.str kd'::r')]])) (.str (flat (.cat (.cat (.txt [40]) (f' false)) (.txt [41]))))) from SureL.of (ll1 E') fun cf h0 π k hk=>(h0 π _ ⟨PBS (bl (br hb)),⟨PBS (br hb),hk⟩⟩)) fun cf h0 h1 π k hk=>e_law_bare_flat (iteF hs (iteF hf (h0 π _ (h1 π _ ⟨PBS hb,hk⟩)))))⟩
theorem c_call0_O (E:EI N M k kd r l o f) (hs:eqT kd [115,116,114,117,99,116]=false) (hf:eqT kd [102,105,101,108,100]=false) (hM:1*M+4≤32900):EI (N+10) (1*M+4) (k) [99,97,108,108] ([.int 0,.tup (.str kd::r),.tup []]) 12 false (fun x=>(.cat (.cat (.cat (par f l o 12 x) (.txt [40])) (.txt [])) (.txt [41]))):=by
 have q:∀ x:Bool,Ql M (k) 1 4 _ (.cat (.cat (.cat (par f l o 12 x) (.txt [40])) (.txt [])) (.txt [41])):=fun x=>((((Ql.par E.q l o 12 x).cat (Ql.txt (t:=[40]) rfl)).cat (Ql.txt (t:=[]) rfl)).cat (Ql.txt (t:=[41]) rfl))
 exact ⟨hM,E.hk,⟨⟨_,_,_,_,rfl,rfl,rfl,rfl,rfl,rfl,rfl⟩,rfl⟩,fun x=>(q x).fin rfl (Nat.le_refl _) (Nat.le_refl _),Ev.sh (j:=10) (Sure.of0 g_level_of fun cf π k hk=>e_level_of hk),Ev.sh (j:=10) (Sure.of0 g_law_level fun cf π k hk=>e_law_level hk),
  fun x=>Ev.sh (j:=10) (Sure.wr (q x) (by lia) E.hk fun hb=>Sure.of g_written (show Sure N 9 i_write_behind [.tup (.str [99,97,108,108]::[.int 0,.tup (.str kd::r),.tup []]),.bool x] (.str (pretty (.cat (.cat (.cat (par f l o 12 x) (.txt [40])) (.txt [])) (.txt [41])))) from Sure.of2 g_write_behind (we E 12 x) wl0 fun cf h0 h1 π k hk=>e_write_behind (iteF hf (iteF hs (h0 π _ ⟨PBS (bl (bl hb)),(h1 π _ ⟨PBS (bl hb),⟨PBS hb,hk⟩⟩)⟩)))) fun cf h π k hk=>e_written (h π _ hk)),fun x=>Ev.sh (j:=10) (Sure.law (b:=(.cat (par f l o 12 x) (.cat (.cat (.txt [40]) (.txt [])) (.txt [41])))) (q x) (by lia) rfl fun hb=>Sure.of2 g_law_bare_flat (lf E 12 x) (show Ev N 5 (fun cf=>SaysL cf (.bin .Add (.bin .Add (.cst (.str [40])) (.call 6482616824352614216564 (.cons (.sub (.cel 5997359218) (.cst (.int 3))) .nil))) (.cst (.str [41]))) 5997359218 (.tup (.str [99,97,108,108]::[.int 0,.tup (.str kd::r),.tup []])) (.str (flat (.cat (.cat (.txt [40]) (.txt [])) (.txt [41]))))) from SureL.of ll0 fun cf h0 π k hk=>(h0 π _ ⟨PBS (bl (br hb)),⟨PBS (br hb),hk⟩⟩)) fun cf h0 h1 π k hk=>e_law_bare_flat (iteF hs (iteF hf (h0 π _ (h1 π _ ⟨PBS hb,hk⟩)))))⟩
theorem c_fld0_S (E:EI N M k kd r l o f) (hs:eqT kd [115,116,114,117,99,116]=true) (hM:1*M+4≤32900):EI (N+10) (1*M+4) (k) [102,105,101,108,100] ([.int 0,.tup (.str kd::r),.str [48]]) 12 false (fun x=>(.cat (.cat (.cat (.cat (.txt [40]) (f false)) (.txt [41])) (.txt [46])) (.txt [48]))):=by
 have q:∀ x:Bool,Ql M (k) 1 4 _ (.cat (.cat (.cat (.cat (.txt [40]) (f false)) (.txt [41])) (.txt [46])) (.txt [48])):=fun x=>(((((Ql.txt (t:=[40]) rfl).cat (E.q false)).cat (Ql.txt (t:=[41]) rfl)).cat (Ql.txt (t:=[46]) rfl)).cat (Ql.txt (t:=[48]) rfl))
 exact ⟨hM,E.hk,⟨⟨_,_,_,_,rfl,rfl,rfl,rfl,rfl,rfl,rfl⟩,rfl⟩,fun x=>(q x).fin rfl (Nat.le_refl _) (Nat.le_refl _),Ev.sh (j:=10) (Sure.of0 g_level_of fun cf π k hk=>e_level_of hk),Ev.sh (j:=10) (Sure.of0 g_law_level fun cf π k hk=>e_law_level hk),
  fun x=>Ev.sh (j:=10) (Sure.wr (q x) (by lia) E.hk fun hb=>Sure.of g_written (show Sure N 9 i_write_behind [.tup (.str [102,105,101,108,100]::[.int 0,.tup (.str kd::r),.str [48]]),.bool x] (.str (pretty (.cat (.cat (.cat (.cat (.txt [40]) (f false)) (.txt [41])) (.txt [46])) (.txt [48])))) from Sure.of g_write_behind (we1 E) fun cf h0 π k hk=>e_write_behind (iteT hs (h0 π _ ⟨PBS (bl (bl (bl hb))),⟨PBS (bl (bl hb)),⟨PBS (bl hb),⟨PBS hb,hk⟩⟩⟩⟩))) fun cf h π k hk=>e_written (h π _ hk)),fun x=>Ev.sh (j:=10) (Sure.law (b:=(.cat (.cat (.cat (.txt [40]) (f false)) (.txt [41])) (.cat (.txt [46]) (.txt [48])))) (q x) (by lia) rfl fun hb=>Sure.of2 g_law_bare_flat (lf0 E) (show Ev N 5 (fun cf=>SaysL cf (.bin .Add (.cst (.str [46])) (.sub (.cel 5997359218) (.cst (.int 3)))) 5997359218 (.tup (.str [102,105,101,108,100]::[.int 0,.tup (.str kd::r),.str [48]])) (.str (flat (.cat (.txt [46]) (.txt [48]))))) from SureL.of0  fun cf  π k hk=>⟨PBS (br hb),hk⟩) fun cf h0 h1 π k hk=>e_law_bare_flat (iteT hs (iteT hs (h0 π _ ⟨PBS (bl (bl hb)),⟨PBS (bl hb),(h1 π _ ⟨PBS hb,hk⟩)⟩⟩))))⟩
theorem c_fldx_S (E:EI N M k kd r l o f) (hs:eqT kd [115,116,114,117,99,116]=true) (hM:1*M+4≤32900):EI (N+10) (1*M+4) (k) [102,105,101,108,100] ([.int 0,.tup (.str kd::r),.str [120]]) 12 false (fun x=>(.cat (.cat (.cat (.cat (.txt [40]) (f false)) (.txt [41])) (.txt [46])) (.txt [120]))):=by
 have q:∀ x:Bool,Ql M (k) 1 4 _ (.cat (.cat (.cat (.cat (.txt [40]) (f false)) (.txt [41])) (.txt [46])) (.txt [120])):=fun x=>(((((Ql.txt (t:=[40]) rfl).cat (E.q false)).cat (Ql.txt (t:=[41]) rfl)).cat (Ql.txt (t:=[46]) rfl)).cat (Ql.txt (t:=[120]) rfl))
 exact ⟨hM,E.hk,⟨⟨_,_,_,_,rfl,rfl,rfl,rfl,rfl,rfl,rfl⟩,rfl⟩,fun x=>(q x).fin rfl (Nat.le_refl _) (Nat.le_refl _),Ev.sh (j:=10) (Sure.of0 g_level_of fun cf π k hk=>e_level_of hk),Ev.sh (j:=10) (Sure.of0 g_law_level fun cf π k hk=>e_law_level hk),
  fun x=>Ev.sh (j:=10) (Sure.wr (q x) (by lia) E.hk fun hb=>Sure.of g_written (show Sure N 9 i_write_behind [.tup (.str [102,105,101,108,100]::[.int 0,.tup (.str kd::r),.str [120]]),.bool x] (.str (pretty (.cat (.cat (.cat (.cat (.txt [40]) (f false)) (.txt [41])) (.txt [46])) (.txt [120])))) from Sure.of g_write_behind (we1 E) fun cf h0 π k hk=>e_write_behind (iteT hs (h0 π _ ⟨PBS (bl (bl (bl hb))),⟨PBS (bl (bl hb)),⟨PBS (bl hb),⟨PBS hb,hk⟩⟩⟩⟩))) fun cf h π k hk=>e_written (h π _ hk)),fun x=>Ev.sh (j:=10) (Sure.law (b:=(.cat (.cat (.cat (.txt [40]) (f false)) (.txt [41])) (.cat (.txt [46]) (.txt [120])))) (q x) (by lia) rfl fun hb=>Sure.of2 g_law_bare_flat (lf0 E) (show Ev N 5 (fun cf=>SaysL cf (.bin .Add (.cst (.str [46])) (.sub (.cel 5997359218) (.cst (.int 3)))) 5997359218 (.tup (.str [102,105,101,108,100]::[.int 0,.tup (.str kd::r),.str [120]])) (.str (flat (.cat (.txt [46]) (.txt [120]))))) from SureL.of0  fun cf  π k hk=>⟨PBS (br hb),hk⟩) fun cf h0 h1 π k hk=>e_law_bare_flat (iteT hs (iteT hs (h0 π _ ⟨PBS (bl (bl hb)),⟨PBS (bl hb),(h1 π _ ⟨PBS hb,hk⟩)⟩⟩))))⟩
theorem c_idx_S (E:EI N M k kd r l o f) (E':EI N M k kd' r' l' o' f') (hs:eqT kd [115,116,114,117,99,116]=true) (hM:2*M+4≤32900):EI (N+10) (2*M+4) (k) [105,110,100,101,120] ([.int 0,.tup (.str kd::r),.tup (.str kd'::r')]) 12 false (fun x=>(.cat (.cat (.cat (.cat (.cat (.txt [40]) (f false)) (.txt [41])) (.txt [91])) (f' false)) (.txt [93]))):=by
 have q:∀ x:Bool,Ql M (k) 2 4 _ (.cat (.cat (.cat (.cat (.cat (.txt [40]) (f false)) (.txt [41])) (.txt [91])) (f' false)) (.txt [93])):=fun x=>((((((Ql.txt (t:=[40]) rfl).cat (E.q false)).cat (Ql.txt (t:=[41]) rfl)).cat (Ql.txt (t:=[91]) rfl)).cat (E'.q false)).cat (Ql.txt (t:=[93]) rfl))
 exact ⟨hM,E.hk,⟨⟨_,_,_,_,rfl,rfl,rfl,rfl,rfl,rfl,rfl⟩,rfl⟩,fun x=>(q x).fin rfl (Nat.le_refl _) (Nat.le_refl _),Ev.sh (j:=10) (Sure.of0 g_level_of fun cf π k hk=>e_level_of hk),Ev.sh (j:=10) (Sure.of0 g_law_level fun cf π k hk=>e_law_level hk),
  fun x=>Ev.sh (j:=10) (Sure.wr (q x) (by lia) E.hk fun hb=>Sure.of g_written (show Sure N 9 i_write_behind [.tup (.str [105,110,100,101,120]::[.int 0,.tup (.str kd::r),.tup (.str kd'::r')]),.bool x] (.str (pretty (.cat (.cat (.cat (.cat (.cat (.txt [40]) (f false)) (.txt [41])) (.txt [91])) (f' false)) (.txt [93])))) from Sure.of2 g_write_behind (we1 E) (we1 E') fun cf h0 h1 π k hk=>e_write_behind (iteT hs (h0 π _ ⟨PBS (bl (bl (bl (bl hb)))),⟨PBS (bl (bl (bl hb))),⟨PBS (bl (bl hb)),(h1 π _ ⟨PBS (bl hb),⟨PBS hb,hk⟩⟩)⟩⟩⟩))) fun cf h π k hk=>e_written (h π _ hk)),fun x=>Ev.sh (j:=10) (Sure.law (b:=(.cat (.cat (.cat (.txt [40]) (f false)) (.txt [41])) (.cat (.cat (.txt [91]) (f' false)) (.txt [93])))) (q x) (by lia) rfl fun hb=>Sure.of2 g_law_bare_flat (lf0 E) (show Ev N 5 (fun cf=>SaysL cf (.bin .Add (.bin .Add (.cst (.str [91])) (.call 6482616824352614216564 (.cons (.slc (.cel 5997359218) (some 3) (.cst (.int 4))) .nil))) (.cst (.str [93]))) 5997359218 (.tup (.str [105,110,100,101,120]::[.int 0,.tup (.str kd::r),.tup (.str kd'::r')])) (.str (flat (.cat (.cat (.txt [91]) (f' false)) (.txt [93]))))) from SureL.of (ll1 E') fun cf h0 π k hk=>⟨slOk rfl,(h0 π _ ⟨PBS (bl (br hb)),⟨PBS (br hb),hk⟩⟩)⟩) fun cf h0 h1 π k hk=>e_law_bare_flat (iteT hs (iteT hs (h0 π _ ⟨PBS (bl (bl hb)),⟨PBS (bl hb),(h1 π _ ⟨PBS hb,hk⟩)⟩⟩))))⟩
theorem c_meth_S (E:EI N M k kd r l o f) (E':EI N M k kd' r' l' o' f') (hs:eqT kd [115,116,114,117,99,116]=true) (hM:2*M+12≤32900):EI (N+10) (2*M+12) (k) [109,101,116,104,111,100] ([.int 0,.tup (.str kd::r),.str [109],.tup [pathD [117,56]],.tup [.tup (.str kd'::r')]]) 12 false (fun x=>(.cat (.cat (.cat (.cat (.cat (.cat (.cat (.cat (.txt [40]) (f false)) (.txt [41])) (.txt [46])) (.txt [109])) (.cat (.txt [58,58]) (.txt [60,117,56,62]))) (.txt [40])) (f' false)) (.txt [41]))):=by
 have q:∀ x:Bool,Ql M (k) 2 12 _ (.cat (.cat (.cat (.cat (.cat (.cat (.cat (.cat (.txt [40]) (f false)) (.txt [41])) (.txt [46])) (.txt [109])) (.cat (.txt [58,58]) (.txt [60,117,56,62]))) (.txt [40])) (f' false)) (.txt [41])):=fun x=>(((((((((Ql.txt (t:=[40]) rfl).cat (E.q false)).cat (Ql.txt (t:=[41]) rfl)).cat (Ql.txt (t:=[46]) rfl)).cat (Ql.txt (t:=[109]) rfl)).cat ((Ql.txt (t:=[58,58]) rfl).cat (Ql.txt (t:=[60,117,56,62]) rfl))).cat (Ql.txt (t:=[40]) rfl)).cat (E'.q false)).cat (Ql.txt (t:=[41]) rfl))
 exact ⟨hM,E.hk,⟨⟨_,_,_,_,rfl,rfl,rfl,rfl,rfl,rfl,rfl⟩,rfl⟩,fun x=>(q x).fin rfl (Nat.le_refl _) (Nat.le_refl _),Ev.sh (j:=10) (Sure.of0 g_level_of fun cf π k hk=>e_level_of hk),Ev.sh (j:=10) (Sure.of0 g_law_level fun cf π k hk=>e_law_level hk),
  fun x=>Ev.sh (j:=10) (Sure.wr (q x) (by lia) E.hk fun hb=>Sure.of g_written (show Sure N 9 i_write_behind [.tup (.str [109,101,116,104,111,100]::[.int 0,.tup (.str kd::r),.str [109],.tup [pathD [117,56]],.tup [.tup (.str kd'::r')]]),.bool x] (.str (pretty (.cat (.cat (.cat (.cat (.cat (.cat (.cat (.cat (.txt [40]) (f false)) (.txt [41])) (.txt [46])) (.txt [109])) (.cat (.txt [58,58]) (.txt [60,117,56,62]))) (.txt [40])) (f' false)) (.txt [41])))) from Sure.of4 g_write_behind (we1 E) sy_u8 sy_anglesU (wl1 E') fun cf h0 h1 h2 h3 π k hk=>e_write_behind (iteT hs (h0 π _ ⟨PBS (bl (bl (bl (bl (bl (bl (bl hb))))))),⟨PBS (bl (bl (bl (bl (bl (bl hb)))))),(h1 π _ (h2 π _ ⟨PBS (bl (bl (bl (bl (bl hb))))),⟨PBS (bl (bl (bl (bl hb)))),⟨PBS (br (bl (bl (bl hb)))),⟨PBS (bl (bl (bl hb))),⟨PBS (bl (bl hb)),(h3 π _ ⟨PBS (bl hb),⟨PBS hb,hk⟩⟩)⟩⟩⟩⟩⟩))⟩⟩))) fun cf h π k hk=>e_written (h π _ hk)),fun x=>Ev.sh (j:=10) (Sure.law (b:=(.cat (.cat (.cat (.txt [40]) (f false)) (.txt [41])) (.cat (.cat (.txt [46,109,58,58,60,117,56,62,40]) (f' false)) (.txt [41])))) (q x) (by lia) rfl fun hb=>Sure.of2 g_law_bare_flat (lf0 E) (ll1 E') fun cf h0 h1 π k hk=>e_law_bare_flat (iteT hs (iteT hs (h0 π _ ⟨PBS (bl (bl hb)),⟨PBS (bl hb),(h1 π _ ⟨PBS (bl (br hb)),⟨PBS (br hb),⟨PBS hb,hk⟩⟩⟩)⟩⟩))))⟩
theorem c_fld0_O (E:EI N M k kd r l o f) (hs:eqT kd [115,116,114,117,99,116]=false) (hM:1*M+4≤32900):EI (N+10) (1*M+4) (k) [102,105,101,108,100] ([.int 0,.tup (.str kd::r),.str [48]]) 12 false (fun x=>(.cat (.cat (par f l o 12 x) (.txt [46])) (.txt [48]))):=by
 have q:∀ x:Bool,Ql M (k) 1 4 _ (.cat (.cat (par f l o 12 x) (.txt [46])) (.txt [48])):=fun x=>(((Ql.par E.q l o 12 x).cat (Ql.txt (t:=[46]) rfl)).cat (Ql.txt (t:=[48]) rfl))
 exact ⟨hM,E.hk,⟨⟨_,_,_,_,rfl,rfl,rfl,rfl,rfl,rfl,rfl⟩,rfl⟩,fun x=>(q x).fin rfl (Nat.le_refl _) (Nat.le_refl _),Ev.sh (j:=10) (Sure.of0 g_level_of fun cf π k hk=>e_level_of hk),Ev.sh (j:=10) (Sure.of0 g_law_level fun cf π k hk=>e_law_level hk),
  fun x=>Ev.sh (j:=10) (Sure.wr (q x) (by lia) E.hk fun hb=>Sure.of g_written (show Sure N 9 i_write_behind [.tup (.str [102,105,101,108,100]::[.int 0,.tup (.str kd::r),.str [48]]),.bool x] (.str (pretty (.cat (.cat (par f l o 12 x) (.txt [46])) (.txt [48])))) from Sure.of g_write_behind (we E 12 x) fun cf h0 π k hk=>e_write_behind (iteF hs (h0 π _ ⟨PBS (bl hb),⟨PBS hb,hk⟩⟩))) fun cf h π k hk=>e_written (h π _ hk)),fun x=>Ev.sh (j:=10) (Sure.law (b:=(.cat (par f l o 12 x) (.cat (.txt [46]) (.txt [48])))) (q x) (by lia) rfl fun hb=>Sure.of2 g_law_bare_flat (lf E 12 x) (show Ev N 5 (fun cf=>SaysL cf (.bin .Add (.cst (.str [46])) (.sub (.cel 5997359218) (.cst (.int 3)))) 5997359218 (.tup (.str [102,105,101,108,100]::[.int 0,.tup (.str kd::r),.str [48]])) (.str (flat (.cat (.txt [46]) (.txt [48]))))) from SureL.of0  fun cf  π k hk=>⟨PBS (br hb),hk⟩) fun cf h0 h1 π k hk=>e_law_bare_flat (iteF hs (h0 π _ (h1 π _ ⟨PBS hb,hk⟩))))⟩
theorem c_fldx_O (E:EI N M k kd r l o f) (hs:eqT kd [115,116,114,117,99,116]=false) (hM:1*M+4≤32900):EI (N+10) (1*M+4) (k) [102,105,101,108,100] ([.int 0,.tup (.str kd::r),.str [120]]) 12 false (fun x=>(.cat (.cat (par f l o 12 x) (.txt [46])) (.txt [120]))):=by
 have q:∀ x:Bool,Ql M (k) 1 4 _ (.cat (.cat (par f l o 12 x) (.txt [46])) (.txt [120])):=fun x=>(((Ql.par E.q l o 12 x).cat (Ql.txt (t:=[46]) rfl)).cat (Ql.txt (t:=[120]) rfl))
 exact ⟨hM,E.hk,⟨⟨_,_,_,_,rfl,rfl,rfl,rfl,rfl,rfl,rfl⟩,rfl⟩,fun x=>(q x).fin rfl (Nat.le_refl _) (Nat.le_refl _),Ev.sh (j:=10) (Sure.of0 g_level_of fun cf π k hk=>e_level_of hk),Ev.sh (j:=10) (Sure.of0 g_law_level fun cf π k hk=>e_law_level hk),
  fun x=>Ev.sh (j:=10) (Sure.wr (q x) (by lia) E.hk fun hb=>Sure.of g_written (show Sure N 9 i_write_behind [.tup (.str [102,105,101,108,100]::[.int 0,.tup (.str kd::r),.str [120]]),.bool x] (.str (pretty (.cat (.cat (par f l o 12 x) (.txt [46])) (.txt [120])))) from Sure.of g_write_behind (we E 12 x) fun cf h0 π k hk=>e_write_behind (iteF hs (h0 π _ ⟨PBS (bl hb),⟨PBS hb,hk⟩⟩))) fun cf h π k hk=>e_written (h π _ hk)),fun x=>Ev.sh (j:=10) (Sure.law (b:=(.cat (par f l o 12 x) (.cat (.txt [46]) (.txt [120])))) (q x) (by lia) rfl fun hb=>Sure.of2 g_law_bare_flat (lf E 12 x) (show Ev N 5 (fun cf=>SaysL cf (.bin .Add (.cst (.str [46])) (.sub (.cel 5997359218) (.cst (.int 3)))) 5997359218 (.tup (.str [102,105,101,108,100]::[.int 0,.tup (.str kd::r),.str [120]])) (.str (flat (.cat (.txt [46]) (.txt [120]))))) from SureL.of0  fun cf  π k hk=>⟨PBS (br hb),hk⟩) fun cf h0 h1 π k hk=>e_law_bare_flat (iteF hs (h0 π _ (h1 π _ ⟨PBS hb,hk⟩))))⟩
theorem c_idx_O (E:EI N M k kd r l o f) (E':EI N M k kd' r' l' o' f') (hs:eqT kd [115,116,114,117,99,116]=false) (hM:2*M+4≤32900):EI (N+10) (2*M+4) (k) [105,110,100,101,120] ([.int 0,.tup (.str kd::r),.tup (.str kd'::r')]) 12 false (fun x=>(.cat (.cat (.cat (par f l o 12 x) (.txt [91])) (f' false)) (.txt [93]))):=by
 have q:∀ x:Bool,Ql M (k) 2 4 _ (.cat (.cat (.cat (par f l o 12 x) (.txt [91])) (f' false)) (.txt [93])):=fun x=>((((Ql.par E.q l o 12 x).cat (Ql.txt (t:=[91]) rfl)).cat (E'.q false)).cat (Ql.txt (t:=[93]) rfl))
 exact ⟨hM,E.hk,⟨⟨_,_,_,_,rfl,rfl,rfl,rfl,rfl,rfl,rfl⟩,rfl⟩,fun x=>(q x).fin rfl (Nat.le_refl _) (Nat.le_refl _),Ev.sh (j:=10) (Sure.of0 g_level_of fun cf π k hk=>e_level_of hk),Ev.sh (j:=10) (Sure.of0 g_law_level fun cf π k hk=>e_law_level hk),
  fun x=>Ev.sh (j:=10) (Sure.wr (q x) (by lia) E.hk fun hb=>Sure.of g_written (show Sure N 9 i_write_behind [.tup (.str [105,110,100,101,120]::[.int 0,.tup (.str kd::r),.tup (.str kd'::r')]),.bool x] (.str (pretty (.cat (.cat (.cat (par f l o 12 x) (.txt [91])) (f' false)) (.txt [93])))) from Sure.of2 g_write_behind (we E 12 x) (we1 E') fun cf h0 h1 π k hk=>e_write_behind (iteF hs (h0 π _ ⟨PBS (bl (bl hb)),(h1 π _ ⟨PBS (bl hb),⟨PBS hb,hk⟩⟩)⟩))) fun cf h π k hk=>e_written (h π _ hk)),fun x=>Ev.sh (j:=10) (Sure.law (b:=(.cat (par f l o 12 x) (.cat (.cat (.txt [91]) (f' false)) (.txt [93])))) (q x) (by lia) rfl fun hb=>Sure.of2 g_law_bare_flat (lf E 12 x) (show Ev N 5 (fun cf=>SaysL cf (.bin .Add (.bin .Add (.cst (.str [91])) (.call 6482616824352614216564 (.cons (.slc (.cel 5997359218) (some 3) (.cst (.int 4))) .nil))) (.cst (.str [93]))) 5997359218 (.tup (.str [105,110,100,101,120]::[.int 0,.tup (.str kd::r),.tup (.str kd'::r')])) (.str (flat (.cat (.cat (.txt [91]) (f' false)) (.txt [93]))))) from SureL.of (ll1 E') fun cf h0 π k hk=>⟨slOk rfl,(h0 π _ ⟨PBS (bl (br hb)),⟨PBS (br hb),hk⟩⟩)⟩) fun cf h0 h1 π k hk=>e_law_bare_flat (iteF hs (h0 π _ (h1 π _ ⟨PBS hb,hk⟩))))⟩
theorem c_meth_O (E:EI N M k kd r l o f) (E':EI N M k kd' r' l' o' f') (hs:eqT kd [115,116,114,117,99,116]=false) (hM:2*M+12≤32900):EI (N+10) (2*M+12) (k) [109,101,116,104,111,100] ([.int 0,.tup (.str kd::r),.str [109],.tup [pathD [117,56]],.tup [.tup (.str kd'::r')]]) 12 false (fun x=>(.cat (.cat (.cat (.cat (.cat (.cat (par f l o 12 x) (.txt [46])) (.txt [109])) (.cat (.txt [58,58]) (.txt [60,117,56,62]))) (.txt [40])) (f' false)) (.txt [41]))):=by
 have q:∀ x:Bool,Ql M (k) 2 12 _ (.cat (.cat (.cat (.cat (.cat (.cat (par f l o 12 x) (.txt [46])) (.txt [109])) (.cat (.txt [58,58]) (.txt [60,117,56,62]))) (.txt [40])) (f' false)) (.txt [41])):=fun x=>(((((((Ql.par E.q l o 12 x).cat (Ql.txt (t:=[46]) rfl)).cat (Ql.txt (t:=[109]) rfl)).cat ((Ql.txt (t:=[58,58]) rfl).cat (Ql.txt (t:=[60,117,56,62]) rfl))).cat (Ql.txt (t:=[40]) rfl)).cat (E'.q false)).cat (Ql.txt (t:=[41]) rfl))
 exact ⟨hM,E.hk,⟨⟨_,_,_,_,rfl,rfl,rfl,rfl,rfl,rfl,rfl⟩,rfl⟩,fun x=>(q x).fin rfl (Nat.le_refl _) (Nat.le_refl _),Ev.sh (j:=10) (Sure.of0 g_level_of fun cf π k hk=>e_level_of hk),Ev.sh (j:=10) (Sure.of0 g_law_level fun cf π k hk=>e_law_level hk),
  fun x=>Ev.sh (j:=10) (Sure.wr (q x) (by lia) E.hk fun hb=>Sure.of g_written (show Sure N 9 i_write_behind [.tup (.str [109,101,116,104,111,100]::[.int 0,.tup (.str kd::r),.str [109],.tup [pathD [117,56]],.tup [.tup (.str kd'::r')]]),.bool x] (.str (pretty (.cat (.cat (.cat (.cat (.cat (.cat (par f l o 12 x) (.txt [46])) (.txt [109])) (.cat (.txt [58,58]) (.txt [60,117,56,62]))) (.txt [40])) (f' false)) (.txt [41])))) from Sure.of4 g_write_behind (we E 12 x) sy_u8 sy_anglesU (wl1 E') fun cf h0 h1 h2 h3 π k hk=>e_write_behind (iteF hs (h0 π _ (h1 π _ (h2 π _ ⟨PBS (bl (bl (bl (bl (bl hb))))),⟨PBS (bl (bl (bl (bl hb)))),⟨PBS (br (bl (bl (bl hb)))),⟨PBS (bl (bl (bl hb))),⟨PBS (bl (bl hb)),(h3 π _ ⟨PBS (bl hb),⟨PBS hb,hk⟩⟩)⟩⟩⟩⟩⟩))))) fun cf h π k hk=>e_written (h π _ hk)),fun x=>Ev.sh (j:=10) (Sure.law (b:=(.cat (par f l o 12 x) (.cat (.cat (.txt [46,109,58,58,60,117,56,62,40]) (f' false)) (.txt [41])))) (q x) (by lia) rfl fun hb=>Sure.of2 g_law_bare_flat (lf E 12 x) (ll1 E') fun cf h0 h1 π k hk=>e_law_bare_flat (iteF hs (h0 π _ (h1 π _ ⟨PBS (bl (br hb)),⟨PBS (br hb),⟨PBS hb,hk⟩⟩⟩))))⟩
theorem c_struct1 (E:EI N M k kd r l o f) (hM:1*M+9≤32900):EI (N+10) (1*M+9) (k) [115,116,114,117,99,116] ([.int 0,pth [80],.tup [.tup [.str [97],.tup (.str kd::r)]]]) 12 true (fun x=>(.cat (.txt [80]) (.cat (.cat (.txt [32,123,32]) (.cat (.cat (.txt [97]) (.txt [58,32])) (f false))) (.txt [32,125])))):=by
 have q:∀ x:Bool,Ql M (k) 1 9 _ (.cat (.txt [80]) (.cat (.cat (.txt [32,123,32]) (.cat (.cat (.txt [97]) (.txt [58,32])) (f false))) (.txt [32,125]))):=fun x=>((Ql.txt (t:=[80]) rfl).cat (((Ql.txt (t:=[32,123,32]) rfl).cat (((Ql.txt (t:=[97]) rfl).cat (Ql.txt (t:=[58,32]) rfl)).cat (E.q false))).cat (Ql.txt (t:=[32,125]) rfl)))
 exact ⟨hM,E.hk,⟨⟨_,_,_,_,rfl,rfl,rfl,rfl,rfl,rfl,rfl⟩,rfl⟩,fun x=>(q x).fin rfl (Nat.le_refl _) (Nat.le_refl _),Ev.sh (j:=10) (Sure.of0 g_level_of fun cf π k hk=>e_level_of hk),Ev.sh (j:=10) (Sure.of0 g_law_level fun cf π k hk=>e_law_level hk),
  fun x=>Ev.sh (j:=10) (Sure.wr (q x) (by lia) E.hk fun hb=>Sure.of g_written (show Sure N 9 i_write_gathered [.tup (.str [115,116,114,117,99,116]::[.int 0,pth [80],.tup [.tup [.str [97],.tup (.str kd::r)]]])] (.str (pretty (.cat (.txt [80]) (.cat (.cat (.txt [32,123,32]) (.cat (.cat (.txt [97]) (.txt [58,32])) (f false))) (.txt [32,125]))))) from Sure.of2 g_write_gathered (we1 E) (sy_path2 (n:=[80]) (by decide)) fun cf h0 h1 π k hk=>e_write_gathered ⟨PBS (bl (br (bl (br hb)))),(h0 π _ ⟨PBS (br (bl (br hb))),⟨jok1 (br (bl (br hb))) rfl,(h1 π _ ⟨PBS (bl (br hb)),⟨PBS (br hb),⟨PBS hb,hk⟩⟩⟩)⟩⟩)⟩) fun cf h π k hk=>e_written (h π _ hk)),fun x=>Ev.sh (j:=10) (Sure.law (b:=(.cat (.cat (.txt [80,32,123,32,97,58,32]) (f false)) (.txt [32,125]))) (q x) (by lia) rfl fun hb=>Sure.of g_law_bare_flat (ll1' E) fun cf h0 π k hk=>e_law_bare_flat (h0 π _ ⟨PBS (bl hb),⟨PBS hb,hk⟩⟩))⟩
theorem c_tup1 (E:EI N M k kd r l o f) (hM:1*M+3≤32900):EI (N+10) (1*M+3) (k) [116,117,112,108,101] ([.int 0,.tup [.tup (.str kd::r)]]) 12 false (fun x=>(.cat (.cat (.cat (.txt [40]) (f false)) (.txt [44])) (.txt [41]))):=by
 have q:∀ x:Bool,Ql M (k) 1 3 _ (.cat (.cat (.cat (.txt [40]) (f false)) (.txt [44])) (.txt [41])):=fun x=>(((((Ql.txt (t:=[40]) rfl).cat (E.q false)).cat (Ql.txt (t:=[44]) rfl)).cat (Ql.txt (t:=[41]) rfl)))
 exact ⟨hM,E.hk,⟨⟨_,_,_,_,rfl,rfl,rfl,rfl,rfl,rfl,rfl⟩,rfl⟩,fun x=>(q x).fin rfl (Nat.le_refl _) (Nat.le_refl _),Ev.sh (j:=10) (Sure.of0 g_level_of fun cf π k hk=>e_level_of hk),Ev.sh (j:=10) (Sure.of0 g_law_level fun cf π k hk=>e_law_level hk),
  fun x=>Ev.sh (j:=10) (Sure.wr (q x) (by lia) E.hk fun hb=>Sure.of g_written (show Sure N 9 i_write_gathered [.tup (.str [116,117,112,108,101]::[.int 0,.tup [.tup (.str kd::r)]])] (.str (pretty (.cat (.cat (.cat (.txt [40]) (f false)) (.txt [44])) (.txt [41])))) from Sure.of2 g_write_gathered (we1 E) (wro1 E) fun cf h0 h1 π k hk=>e_write_gathered (h0 π _ (h1 π _ hk))) fun cf h π k hk=>e_written (h π _ hk)),fun x=>Ev.sh (j:=10) (Sure.law (b:=(.cat (.cat (.cat (.txt [40]) (f false)) (.txt [44])) (.txt [41]))) (q x) (by lia) rfl fun hb=>Sure.of g_law_bare_flat (ll1 E) fun cf h0 π k hk=>e_law_bare_flat (h0 π _ ⟨PBS (bl (bl hb)),⟨PBS (bl hb),⟨PBS hb,hk⟩⟩⟩))⟩
theorem c_tup2 (E:EI N M k kd r l o f) (E':EI N M k kd' r' l' o' f') (hM:2*M+4≤32900):EI (N+10) (2*M+4) (k) [116,117,112,108,101] ([.int 0,.tup [.tup (.str kd::r),.tup (.str kd'::r')]]) 12 false (fun x=>(.cat (.cat (.cat (.txt [40]) (.cat (.cat (f false) (.txt [44,32])) (f' false))) (.txt [])) (.txt [41]))):=by
 have q:∀ x:Bool,Ql M (k) 2 4 _ (.cat (.cat (.cat (.txt [40]) (.cat (.cat (f false) (.txt [44,32])) (f' false))) (.txt [])) (.txt [41])):=fun x=>(((((Ql.txt (t:=[40]) rfl).cat (((E.q false).cat (Ql.txt (t:=[44,32]) rfl)).cat (E'.q false))).cat (Ql.txt (t:=[]) rfl)).cat (Ql.txt (t:=[41]) rfl)))
 exact ⟨hM,E.hk,⟨⟨_,_,_,_,rfl,rfl,rfl,rfl,rfl,rfl,rfl⟩,rfl⟩,fun x=>(q x).fin rfl (Nat.le_refl _) (Nat.le_refl _),Ev.sh (j:=10) (Sure.of0 g_level_of fun cf π k hk=>e_level_of hk),Ev.sh (j:=10) (Sure.of0 g_law_level fun cf π k hk=>e_law_level hk),
  fun x=>Ev.sh (j:=10) (Sure.wr (q x) (by lia) E.hk fun hb=>Sure.of g_written (show Sure N 9 i_write_gathered [.tup (.str [116,117,112,108,101]::[.int 0,.tup [.tup (.str kd::r),.tup (.str kd'::r')]])] (.str (pretty (.cat (.cat (.cat (.txt [40]) (.cat (.cat (f false) (.txt [44,32])) (f' false))) (.txt [])) (.txt [41])))) from Sure.of3 g_write_gathered (we1 E) (we1 E') (wro2 hb) fun cf h0 h1 h2 π k hk=>e_write_gathered (h0 π _ (h1 π _ (h2 π _ hk)))) fun cf h π k hk=>e_written (h π _ hk)),fun x=>Ev.sh (j:=10) (Sure.law (b:=(.cat (.cat (.cat (.txt [40]) (.cat (.cat (f false) (.txt [44,32])) (f' false))) (.txt [])) (.txt [41]))) (q x) (by lia) rfl fun hb=>Sure.of g_law_bare_flat (ll2 E E') fun cf h0 π k hk=>e_law_bare_flat (h0 π _ ⟨PBS (bl (bl hb)),⟨PBS (bl hb),⟨PBS hb,hk⟩⟩⟩))⟩
theorem c_arr2 (E:EI N M k kd r l o f) (E':EI N M k kd' r' l' o' f') (hM:2*M+4≤32900):EI (N+10) (2*M+4) (k) [97,114,114,97,121] ([.int 0,.tup [.tup (.str kd::r),.tup (.str kd'::r')]]) 12 false (fun x=>(.cat (.cat (.txt [91]) (.cat (.cat (f false) (.txt [44,32])) (f' false))) (.txt [93]))):=by
 have q:∀ x:Bool,Ql M (k) 2 4 _ (.cat (.cat (.txt [91]) (.cat (.cat (f false) (.txt [44,32])) (f' false))) (.txt [93])):=fun x=>(((Ql.txt (t:=[91]) rfl).cat (((E.q false).cat (Ql.txt (t:=[44,32]) rfl)).cat (E'.q false))).cat (Ql.txt (t:=[93]) rfl))
 exact ⟨hM,E.hk,⟨⟨_,_,_,_,rfl,rfl,rfl,rfl,rfl,rfl,rfl⟩,rfl⟩,fun x=>(q x).fin rfl (Nat.le_refl _) (Nat.le_refl _),Ev.sh (j:=10) (Sure.of0 g_level_of fun cf π k hk=>e_level_of hk),Ev.sh (j:=10) (Sure.of0 g_law_level fun cf π k hk=>e_law_level hk),
  fun x=>Ev.sh (j:=10) (Sure.wr (q x) (by lia) E.hk fun hb=>Sure.of g_written (show Sure N 9 i_write_gathered [.tup (.str [97,114,114,97,121]::[.int 0,.tup [.tup (.str kd::r),.tup (.str kd'::r')]])] (.str (pretty (.cat (.cat (.txt [91]) (.cat (.cat (f false) (.txt [44,32])) (f' false))) (.txt [93])))) from Sure.of g_write_gathered (wl2 E E') fun cf h0 π k hk=>e_write_gathered (h0 π _ ⟨PBS (bl hb),⟨PBS hb,hk⟩⟩)) fun cf h π k hk=>e_written (h π _ hk)),fun x=>Ev.sh (j:=10) (Sure.law (b:=(.cat (.cat (.txt [91]) (.cat (.cat (f false) (.txt [44,32])) (f' false))) (.txt [93]))) (q x) (by lia) rfl fun hb=>Sure.of g_law_bare_flat (ll2 E E') fun cf h0 π k hk=>e_law_bare_flat (h0 π _ ⟨PBS (bl hb),⟨PBS hb,hk⟩⟩))⟩
theorem c_rep (E:EI N M k kd r l o f) (hM:1*M+5≤32900):EI (N+10) (1*M+5) (k) [114,101,112,101,97,116] ([.int 0,.tup (.str kd::r),.int 4]) 12 false (fun x=>(.cat (.cat (.cat (.cat (.txt [91]) (f false)) (.txt [59,32])) (.txt [52])) (.txt [93]))):=by
 have q:∀ x:Bool,Ql M (k) 1 5 _ (.cat (.cat (.cat (.cat (.txt [91]) (f false)) (.txt [59,32])) (.txt [52])) (.txt [93])):=fun x=>(((((Ql.txt (t:=[91]) rfl).cat (E.q false)).cat (Ql.txt (t:=[59,32]) rfl)).cat (Ql.txt (t:=[52]) rfl)).cat (Ql.txt (t:=[93]) rfl))
 exact ⟨hM,E.hk,⟨⟨_,_,_,_,rfl,rfl,rfl,rfl,rfl,rfl,rfl⟩,rfl⟩,fun x=>(q x).fin rfl (Nat.le_refl _) (Nat.le_refl _),Ev.sh (j:=10) (Sure.of0 g_level_of fun cf π k hk=>e_level_of hk),Ev.sh (j:=10) (Sure.of0 g_law_level fun cf π k hk=>e_law_level hk),
  fun x=>Ev.sh (j:=10) (Sure.wr (q x) (by lia) E.hk fun hb=>Sure.of g_written (show Sure N 9 i_write_gathered [.tup (.str [114,101,112,101,97,116]::[.int 0,.tup (.str kd::r),.int 4])] (.str (pretty (.cat (.cat (.cat (.cat (.txt [91]) (f false)) (.txt [59,32])) (.txt [52])) (.txt [93])))) from Sure.of g_write_gathered (we1 E) fun cf h0 π k hk=>e_write_gathered (h0 π _ ⟨PBS (bl (bl (bl hb))),⟨PBS (bl (bl hb)),⟨PBS (bl hb),⟨PBS hb,hk⟩⟩⟩⟩)) fun cf h π k hk=>e_written (h π _ hk)),fun x=>Ev.sh (j:=10) (Sure.law (b:=(.cat (.cat (.txt [91]) (.cat (f false) (.txt [59,32,52]))) (.txt [93]))) (q x) (by lia) rfl fun hb=>Sure.of g_law_bare_flat (ll1' E) fun cf h0 π k hk=>e_law_bare_flat (h0 π _ ⟨PBS (br (bl hb)),⟨PBS (bl hb),⟨PBS hb,hk⟩⟩⟩))⟩
theorem c_macro (E:EI N M k kd r l o f) (hM:1*M+9≤32900):EI (N+10) (1*M+9) (k) [109,97,99,114,111] ([.int 0,.str [97,115,115,101,114,116],.tup [.tup (.str kd::r)]]) 12 false (fun x=>(.cat (.cat (.cat (.txt [97,115,115,101,114,116]) (.txt [33,40])) (f false)) (.txt [41]))):=by
 have q:∀ x:Bool,Ql M (k) 1 9 _ (.cat (.cat (.cat (.txt [97,115,115,101,114,116]) (.txt [33,40])) (f false)) (.txt [41])):=fun x=>((((Ql.txt (t:=[97,115,115,101,114,116]) rfl).cat (Ql.txt (t:=[33,40]) rfl)).cat (E.q false)).cat (Ql.txt (t:=[41]) rfl))
 exact ⟨hM,E.hk,⟨⟨_,_,_,_,rfl,rfl,rfl,rfl,rfl,rfl,rfl⟩,rfl⟩,fun x=>(q x).fin rfl (Nat.le_refl _) (Nat.le_refl _),Ev.sh (j:=10) (Sure.of0 g_level_of fun cf π k hk=>e_level_of hk),Ev.sh (j:=10) (Sure.of0 g_law_level fun cf π k hk=>e_law_level hk),
  fun x=>Ev.sh (j:=10) (Sure.wr (q x) (by lia) E.hk fun hb=>Sure.of g_written (show Sure N 9 i_write_gathered [.tup (.str [109,97,99,114,111]::[.int 0,.str [97,115,115,101,114,116],.tup [.tup (.str kd::r)]])] (.str (pretty (.cat (.cat (.cat (.txt [97,115,115,101,114,116]) (.txt [33,40])) (f false)) (.txt [41])))) from Sure.of g_write_gathered (wl1 E) fun cf h0 π k hk=>e_write_gathered ⟨PBS (bl (bl hb)),(h0 π _ ⟨PBS (bl hb),⟨PBS hb,hk⟩⟩)⟩) fun cf h π k hk=>e_written (h π _ hk)),fun x=>Ev.sh (j:=10) (Sure.law (b:=(.cat (.cat (.txt [97,115,115,101,114,116,33,40]) (f false)) (.txt [41]))) (q x) (by lia) rfl fun hb=>Sure.of g_law_bare_flat (ll1 E) fun cf h0 π k hk=>e_law_bare_flat (h0 π _ ⟨PBS (bl hb),⟨PBS hb,hk⟩⟩))⟩
theorem c_ret1_B (E:EI N M k kd r l o f) (hl:l < 1) (hb1:blk kd=true) (hb2:blk2 kd=true) (hM:1*M+9≤32900):EI (N+10) (1*M+9) (k) [114,101,116,117,114,110] ([.int 0,.tup (.str kd::r)]) 0 true (fun x=>(.cat (.cat (.txt [114,101,116,117,114,110]) (.txt [32])) (inB (f false)))):=by
 have q:∀ x:Bool,Ql M (k) 1 9 _ (.cat (.cat (.txt [114,101,116,117,114,110]) (.txt [32])) (inB (f false))):=fun x=>(((Ql.txt (t:=[114,101,116,117,114,110]) rfl).cat (Ql.txt (t:=[32]) rfl)).cat (E.q false).inB)
 exact ⟨hM,E.hk,⟨⟨_,_,_,_,rfl,rfl,rfl,rfl,rfl,rfl,rfl⟩,rfl⟩,fun x=>(q x).fin rfl (Nat.le_refl _) (Nat.le_refl _),Ev.sh (j:=10) (Sure.of0 g_level_of fun cf π k hk=>e_level_of hk),Ev.sh (j:=10) (Sure.of0 g_law_level fun cf π k hk=>e_law_level hk),
  fun x=>Ev.sh (j:=10) (Sure.wr (q x) (by lia) E.hk fun hb=>Sure.of g_written (show Sure N 9 i_write_jump [.tup (.str [114,101,116,117,114,110]::[.int 0,.tup (.str kd::r)])] (.str (pretty (.cat (.cat (.txt [114,101,116,117,114,110]) (.txt [32])) (inB (f false))))) from Sure.of g_write_jump (we2b E hl) fun cf h0 π k hk=>e_write_jump ⟨PBS (bl hb),(iteT hb1 (h0 π _ ⟨PBS hb,hk⟩))⟩) fun cf h π k hk=>e_written (h π _ hk)),fun x=>Ev.sh (j:=10) (Sure.law (b:=(.cat (.cat (.cat (.txt [114,101,116,117,114,110]) (.txt [])) (.txt [32])) (.cat (.cat (.txt [40]) (f false)) (.txt [41])))) (q x) (by lia) rfl fun hb=>Sure.of g_law_bare_flat (show Sure N 9 i_law_long_flat [.tup (.str [114,101,116,117,114,110]::[.int 0,.tup (.str kd::r)])] (.str (flat (.cat (.cat (.cat (.txt [114,101,116,117,114,110]) (.txt [])) (.txt [32])) (.cat (.cat (.txt [40]) (f false)) (.txt [41]))))) from Sure.of g_law_long_flat (lf0 E) fun cf h0 π k hk=>e_law_long_flat ⟨PBS (bl (bl hb)),⟨PBS (bl hb),(iteT hb2 (h0 π _ ⟨PBS (bl (br hb)),⟨PBS (br hb),⟨PBS hb,hk⟩⟩⟩))⟩⟩) fun cf h π k hk=>e_law_bare_flat (h π _ hk))⟩
theorem c_brk1_B (E:EI N M k kd r l o f) (hl:l < 1) (hb1:blk kd=true) (hb2:blk2 kd=true) (hM:1*M+11≤32900):EI (N+10) (1*M+11) (k) [98,114,101,97,107] ([.int 0,.str [39,97],.tup (.str kd::r)]) 0 true (fun x=>(.cat (.cat (.cat (.cat (.txt [98,114,101,97,107]) (.txt [32])) (.txt [39,97])) (.txt [32])) (inB (f false)))):=by
 have q:∀ x:Bool,Ql M (k) 1 11 _ (.cat (.cat (.cat (.cat (.txt [98,114,101,97,107]) (.txt [32])) (.txt [39,97])) (.txt [32])) (inB (f false))):=fun x=>(((((Ql.txt (t:=[98,114,101,97,107]) rfl).cat (Ql.txt (t:=[32]) rfl)).cat (Ql.txt (t:=[39,97]) rfl)).cat (Ql.txt (t:=[32]) rfl)).cat (E.q false).inB)
 exact ⟨hM,E.hk,⟨⟨_,_,_,_,rfl,rfl,rfl,rfl,rfl,rfl,rfl⟩,rfl⟩,fun x=>(q x).fin rfl (Nat.le_refl _) (Nat.le_refl _),Ev.sh (j:=10) (Sure.of0 g_level_of fun cf π k hk=>e_level_of hk),Ev.sh (j:=10) (Sure.of0 g_law_level fun cf π k hk=>e_law_level hk),
  fun x=>Ev.sh (j:=10) (Sure.wr (q x) (by lia) E.hk fun hb=>Sure.of g_written (show Sure N 9 i_write_jump [.tup (.str [98,114,101,97,107]::[.int 0,.str [39,97],.tup (.str kd::r)])] (.str (pretty (.cat (.cat (.cat (.cat (.txt [98,114,101,97,107]) (.txt [32])) (.txt [39,97])) (.txt [32])) (inB (f false))))) from Sure.of g_write_jump (we2b E hl) fun cf h0 π k hk=>e_write_jump ⟨PBS (bl (bl (bl hb))),⟨PBS (bl (bl hb)),⟨PBS (bl hb),(iteT hb1 (h0 π _ ⟨PBS hb,hk⟩))⟩⟩⟩) fun cf h π k hk=>e_written (h π _ hk)),fun x=>Ev.sh (j:=10) (Sure.law (b:=(.cat (.cat (.cat (.txt [98,114,101,97,107]) (.cat (.txt [32]) (.txt [39,97]))) (.txt [32])) (.cat (.cat (.txt [40]) (f false)) (.txt [41])))) (q x) (by lia) rfl fun hb=>Sure.of g_law_bare_flat (show Sure N 9 i_law_long_flat [.tup (.str [98,114,101,97,107]::[.int 0,.str [39,97],.tup (.str kd::r)])] (.str (flat (.cat (.cat (.cat (.txt [98,114,101,97,107]) (.cat (.txt [32]) (.txt [39,97]))) (.txt [32])) (.cat (.cat (.txt [40]) (f false)) (.txt [41]))))) from Sure.of g_law_long_flat (lf0 E) fun cf h0 π k hk=>e_law_long_flat ⟨PBS (br (bl (bl hb))),⟨PBS (bl (bl hb)),⟨PBS (bl hb),(iteT hb2 (h0 π _ ⟨PBS (bl (br hb)),⟨PBS (br hb),⟨PBS hb,hk⟩⟩⟩))⟩⟩⟩) fun cf h π k hk=>e_law_bare_flat (h π _ hk))⟩
theorem c_ret1_O (E:EI N M k kd r l o f) (hb1:blk kd=false) (hb2:blk2 kd=false) (hM:1*M+7≤32900):EI (N+10) (1*M+7) (k) [114,101,116,117,114,110] ([.int 0,.tup (.str kd::r)]) 0 true (fun x=>(.cat (.cat (.txt [114,101,116,117,114,110]) (.txt [32])) (f false))):=by
 have q:∀ x:Bool,Ql M (k) 1 7 _ (.cat (.cat (.txt [114,101,116,117,114,110]) (.txt [32])) (f false)):=fun x=>(((Ql.txt (t:=[114,101,116,117,114,110]) rfl).cat (Ql.txt (t:=[32]) rfl)).cat (E.q false))
 exact ⟨hM,E.hk,⟨⟨_,_,_,_,rfl,rfl,rfl,rfl,rfl,rfl,rfl⟩,rfl⟩,fun x=>(q x).fin rfl (Nat.le_refl _) (Nat.le_refl _),Ev.sh (j:=10) (Sure.of0 g_level_of fun cf π k hk=>e_level_of hk),Ev.sh (j:=10) (Sure.of0 g_law_level fun cf π k hk=>e_law_level hk),
  fun x=>Ev.sh (j:=10) (Sure.wr (q x) (by lia) E.hk fun hb=>Sure.of g_written (show Sure N 9 i_write_jump [.tup (.str [114,101,116,117,114,110]::[.int 0,.tup (.str kd::r)])] (.str (pretty (.cat (.cat (.txt [114,101,116,117,114,110]) (.txt [32])) (f false)))) from Sure.of g_write_jump (we20 E) fun cf h0 π k hk=>e_write_jump ⟨PBS (bl hb),(iteF hb1 (h0 π _ ⟨PBS hb,hk⟩))⟩) fun cf h π k hk=>e_written (h π _ hk)),fun x=>Ev.sh (j:=10) (Sure.law (b:=(.cat (.cat (.cat (.txt [114,101,116,117,114,110]) (.txt [])) (.txt [32])) (f false))) (q x) (by lia) rfl fun hb=>Sure.of g_law_bare_flat (show Sure N 9 i_law_long_flat [.tup (.str [114,101,116,117,114,110]::[.int 0,.tup (.str kd::r)])] (.str (flat (.cat (.cat (.cat (.txt [114,101,116,117,114,110]) (.txt [])) (.txt [32])) (f false)))) from Sure.of g_law_long_flat (lf0 E) fun cf h0 π k hk=>e_law_long_flat ⟨PBS (bl (bl hb)),⟨PBS (bl hb),(iteF hb2 (h0 π _ ⟨PBS hb,hk⟩))⟩⟩) fun cf h π k hk=>e_law_bare_flat (h π _ hk))⟩
theorem c_brk1_O (E:EI N M k kd r l o f) (hb1:blk kd=false) (hb2:blk2 kd=false) (hM:1*M+9≤32900):EI (N+10) (1*M+9) (k) [98,114,101,97,107] ([.int 0,.str [39,97],.tup (.str kd::r)]) 0 true (fun x=>(.cat (.cat (.cat (.cat (.txt [98,114,101,97,107]) (.txt [32])) (.txt [39,97])) (.txt [32])) (f false))):=by
 have q:∀ x:Bool,Ql M (k) 1 9 _ (.cat (.cat (.cat (.cat (.txt [98,114,101,97,107]) (.txt [32])) (.txt [39,97])) (.txt [32])) (f false)):=fun x=>(((((Ql.txt (t:=[98,114,101,97,107]) rfl).cat (Ql.txt (t:=[32]) rfl)).cat (Ql.txt (t:=[39,97]) rfl)).cat (Ql.txt (t:=[32]) rfl)).cat (E.q false))
 exact ⟨hM,E.hk,⟨⟨_,_,_,_,rfl,rfl,rfl,rfl,rfl,rfl,rfl⟩,rfl⟩,fun x=>(q x).fin rfl (Nat.le_refl _) (Nat.le_refl _),Ev.sh (j:=10) (Sure.of0 g_level_of fun cf π k hk=>e_level_of hk),Ev.sh (j:=10) (Sure.of0 g_law_level fun cf π k hk=>e_law_level hk),
  fun x=>Ev.sh (j:=10) (Sure.wr (q x) (by lia) E.hk fun hb=>Sure.of g_written (show Sure N 9 i_write_jump [.tup (.str [98,114,101,97,107]::[.int 0,.str [39,97],.tup (.str kd::r)])] (.str (pretty (.cat (.cat (.cat (.cat (.txt [98,114,101,97,107]) (.txt [32])) (.txt [39,97])) (.txt [32])) (f false)))) from Sure.of g_write_jump (we20 E) fun cf h0 π k hk=>e_write_jump ⟨PBS (bl (bl (bl hb))),⟨PBS (bl (bl hb)),⟨PBS (bl hb),(iteF hb1 (h0 π _ ⟨PBS hb,hk⟩))⟩⟩⟩) fun cf h π k hk=>e_written (h π _ hk)),fun x=>Ev.sh (j:=10) (Sure.law (b:=(.cat (.cat (.cat (.txt [98,114,101,97,107]) (.cat (.txt [32]) (.txt [39,97]))) (.txt [32])) (f false))) (q x) (by lia) rfl fun hb=>Sure.of g_law_bare_flat (show Sure N 9 i_law_long_flat [.tup (.str [98,114,101,97,107]::[.int 0,.str [39,97],.tup (.str kd::r)])] (.str (flat (.cat (.cat (.cat (.txt [98,114,101,97,107]) (.cat (.txt [32]) (.txt [39,97]))) (.txt [32])) (f false)))) from Sure.of g_law_long_flat (lf0 E) fun cf h0 π k hk=>e_law_long_flat ⟨PBS (br (bl (bl hb))),⟨PBS (bl (bl hb)),⟨PBS (bl hb),(iteF hb2 (h0 π _ ⟨PBS hb,hk⟩))⟩⟩⟩) fun cf h π k hk=>e_law_bare_flat (h π _ hk))⟩
end
end
section
open PySem PySem.W
structure TI (td:List D) (t:T):Prop where
 sw:∀ {N:Nat},Sure N 5 i_write_type [.tup td] (.str t)
 sl:∀ {N:Nat},Sure N 5 i_law_type_flat [.tup td] (.str t)
 ok:okT t=true
 at':attr t=good
 ln:t.length≤16
structure PI (d:D) (t:T):Prop where
 sw:∀ {N:Nat},Sure N 7 i_write_pattern [d] (.str t)
 sl:∀ {N:Nat},Sure N 5 i_law_pattern_flat [d] (.str t)
 ok:okT t=true
 at':attr t=good
 ln:t.length≤16
structure RI (N M k:Nat) (d:D) (g:Dc):Prop where
 hM:M≤32900
 hk:k≤8
 q:Ql M k 1 0 good g
 sw:Sure N 0 i_write_statement [d] (.str (pretty g))
 sl:Sure N 0 i_law_row_flat [d] (.str (flat g))
theorem RI.wk {N M k N' M' k':Nat}{d:D}{g:Dc}(R:RI N M k d g) (hN:N≤N') (h:M≤M') (h1:M'≤32900) (h2:k≤k') (h3:k'≤8):RI N' M' k' d g:=
 ⟨h1,h3,R.q.wk (by lia) h2,R.sw.mn hN,R.sl.mn hN⟩
theorem ti_u8:TI [.str [112,97,116,104],.int 0,pth [117,56]] [117,56]:=⟨sy_u8.up rfl,ly_u8.up rfl,rfl,rfl,by decide⟩
theorem ti_ref:TI [(.str [114,101,102]),(.int 0),.none,(.bool true),pathD [84]] [38,109,117,116,32,84]:=⟨sy_ref.up rfl,ly_ref.up rfl,rfl,rfl,by decide⟩
theorem ti_tup:TI [(.str [116,117,112,108,101]),(.int 0),(.tup [pathD [117,56]])] [40,117,56,44,41]:=⟨sy_tup.up rfl,ly_tup.up rfl,rfl,rfl,by decide⟩
theorem ti_arr:TI [(.str [97,114,114,97,121]),(.int 0),pathD [98,111,111,108],(.int 3)] [91,98,111,111,108,59,32,51,93]:=⟨sy_arr.up rfl,ly_arr.up rfl,rfl,rfl,by decide⟩
theorem ti_tA:TI [.str [112,97,116,104],.int 0,pA] [65,60,39,97,44,32,117,56,44,32,33,62]:=⟨sy_tA.up rfl,ly_tA.up rfl,rfl,rfl,by decide⟩
theorem pi_0:PI pt0 px0:=⟨sp_pat0.up rfl,pf0.up rfl,rfl,rfl,by decide⟩
theorem pi_1:PI pt1 px1:=⟨sp_pat1.up rfl,pf1.up rfl,rfl,rfl,by decide⟩
theorem pi_2:PI pt2 px2:=⟨sp_pat2.up rfl,pf2.up rfl,rfl,rfl,by decide⟩
theorem pi_3:PI pt3 px3:=⟨sp_pat3.up rfl,pf3.up rfl,rfl,rfl,by decide⟩
theorem pi_4:PI pt4 px4:=⟨sp_pat4.up rfl,pf4.up rfl,rfl,rfl,by decide⟩
theorem pi_5:PI pt5 px5:=⟨sp_pat5.up rfl,pf5.up rfl,rfl,rfl,by decide⟩
theorem pi_6:PI pt6 px6:=⟨sp_pat6.up rfl,pf6.up rfl,rfl,rfl,by decide⟩
theorem pi_7:PI pt7 px7:=⟨sp_pat7.up rfl,pf7.up rfl,rfl,rfl,by decide⟩
theorem pi_8:PI pt8 px8:=⟨sp_pat8.up rfl,pf8.up rfl,rfl,rfl,by decide⟩
section
variable {N M k:Nat}
variable {kd:T}{r:List D}{l:Int}{o:Bool}{f:Bool→Dc}
variable {kd':T}{r':List D}{l':Int}{o':Bool}{f':Bool→Dc}
variable {rb:List D}{b:Dc}
theorem r_do (E:EI N M k kd r l o f) (hM:1*M+1≤32900):RI (N+10) (1*M+1) k (.tup [.str [100,111],.int 0,.tup (.str kd::r)]) (.cat (f false) (.txt [59])) where
 hM:=hM
 hk:=E.hk
 q:=Ql.fin (show Ql M k 1 1 _ (.cat (f false) (.txt [59])) from ((E.q false).cat (Ql.txt (t:=[59]) rfl))) rfl (Nat.le_refl _) (Nat.le_refl _)
 sw:=Ev.sh (j:=10) (Sure.wr (show Ql M k 1 1 _ (.cat (f false) (.txt [59])) from ((E.q false).cat (Ql.txt (t:=[59]) rfl))) (by lia) E.hk fun hb=>Sure.of g_write_statement (we1 E) fun cf h0 π k hk=>e_write_statement (h0 π _ ⟨PBS hb,hk⟩))
 sl:=Ev.sh (j:=10) (Sure.law (b:=(.cat (f false) (.txt [59]))) (show Ql M k 1 1 _ (.cat (f false) (.txt [59])) from ((E.q false).cat (Ql.txt (t:=[59]) rfl))) (by lia) rfl fun hb=>Sure.of g_law_row_flat (lf0 E) fun cf h0 π k hk=>e_law_row_flat (h0 π _ ⟨PBS hb,hk⟩))
theorem r_let00 {pd:D}{pt:T}(P:PI pd pt) (hk:k≤8) (hM:0*M+21≤32900):RI (N+10) (0*M+21) k (.tup [.str [108,101,116],.int 0,pd,.none,.none]) (.cat (.cat (.cat (.cat (.txt [108,101,116,32]) (.txt pt)) (.txt [])) (.txt [])) (.txt [59])) where
 hM:=hM
 hk:=hk
 q:=Ql.fin (show Ql M k 0 21 _ (.cat (.cat (.cat (.cat (.txt [108,101,116,32]) (.txt pt)) (.txt [])) (.txt [])) (.txt [59])) from (((((Ql.txt (t:=[108,101,116,32]) rfl).cat (Ql.var P.ok P.at' P.ln)).cat (Ql.txt (t:=[]) rfl)).cat (Ql.txt (t:=[]) rfl)).cat (Ql.txt (t:=[59]) rfl))) rfl (Nat.le_refl _) (Nat.le_refl _)
 sw:=Ev.sh (j:=10) (Sure.wr (show Ql M k 0 21 _ (.cat (.cat (.cat (.cat (.txt [108,101,116,32]) (.txt pt)) (.txt [])) (.txt [])) (.txt [59])) from (((((Ql.txt (t:=[108,101,116,32]) rfl).cat (Ql.var P.ok P.at' P.ln)).cat (Ql.txt (t:=[]) rfl)).cat (Ql.txt (t:=[]) rfl)).cat (Ql.txt (t:=[59]) rfl))) (by lia) hk fun hb=>Sure.of g_write_statement P.sw fun cf h0 π k hk=>e_write_statement (h0 π _ ⟨PBS (bl (bl (bl hb))),⟨PBS (bl (bl hb)),⟨PBS (bl hb),⟨PBS hb,hk⟩⟩⟩⟩))
 sl:=Ev.sh (j:=10) (Sure.law (b:=(.cat (.cat (.cat (.cat (.txt [108,101,116,32]) (.txt pt)) (.txt [])) (.txt [])) (.txt [59]))) (show Ql M k 0 21 _ (.cat (.cat (.cat (.cat (.txt [108,101,116,32]) (.txt pt)) (.txt [])) (.txt [])) (.txt [59])) from (((((Ql.txt (t:=[108,101,116,32]) rfl).cat (Ql.var P.ok P.at' P.ln)).cat (Ql.txt (t:=[]) rfl)).cat (Ql.txt (t:=[]) rfl)).cat (Ql.txt (t:=[59]) rfl))) (by lia) rfl fun hb=>Sure.of g_law_row_flat P.sl fun cf h0 π k hk=>e_law_row_flat (h0 π _ ⟨PBS (bl (bl (bl hb))),⟨PBS (bl (bl hb)),⟨PBS (bl hb),⟨PBS hb,hk⟩⟩⟩⟩))
theorem r_let01 {pd:D}{pt:T}(P:PI pd pt) (E:EI N M k kd r l o f) (hM:1*M+24≤32900):RI (N+10) (1*M+24) k (.tup [.str [108,101,116],.int 0,pd,.none,.tup (.str kd::r)]) (.cat (.cat (.cat (.cat (.txt [108,101,116,32]) (.txt pt)) (.txt [])) (.cat (.txt [32,61,32]) (f false))) (.txt [59])) where
 hM:=hM
 hk:=E.hk
 q:=Ql.fin (show Ql M k 1 24 _ (.cat (.cat (.cat (.cat (.txt [108,101,116,32]) (.txt pt)) (.txt [])) (.cat (.txt [32,61,32]) (f false))) (.txt [59])) from (((((Ql.txt (t:=[108,101,116,32]) rfl).cat (Ql.var P.ok P.at' P.ln)).cat (Ql.txt (t:=[]) rfl)).cat ((Ql.txt (t:=[32,61,32]) rfl).cat (E.q false))).cat (Ql.txt (t:=[59]) rfl))) rfl (Nat.le_refl _) (Nat.le_refl _)
 sw:=Ev.sh (j:=10) (Sure.wr (show Ql M k 1 24 _ (.cat (.cat (.cat (.cat (.txt [108,101,116,32]) (.txt pt)) (.txt [])) (.cat (.txt [32,61,32]) (f false))) (.txt [59])) from (((((Ql.txt (t:=[108,101,116,32]) rfl).cat (Ql.var P.ok P.at' P.ln)).cat (Ql.txt (t:=[]) rfl)).cat ((Ql.txt (t:=[32,61,32]) rfl).cat (E.q false))).cat (Ql.txt (t:=[59]) rfl))) (by lia) E.hk fun hb=>Sure.of2 g_write_statement (we1 E) P.sw fun cf h0 h1 π k hk=>e_write_statement (h0 π _ ⟨PBS (br (bl hb)),(h1 π _ ⟨PBS (bl (bl (bl hb))),⟨PBS (bl (bl hb)),⟨PBS (bl hb),⟨PBS hb,hk⟩⟩⟩⟩)⟩))
 sl:=Ev.sh (j:=10) (Sure.law (b:=(.cat (.cat (.cat (.cat (.txt [108,101,116,32]) (.txt pt)) (.txt [])) (.cat (.txt [32,61,32]) (f false))) (.txt [59]))) (show Ql M k 1 24 _ (.cat (.cat (.cat (.cat (.txt [108,101,116,32]) (.txt pt)) (.txt [])) (.cat (.txt [32,61,32]) (f false))) (.txt [59])) from (((((Ql.txt (t:=[108,101,116,32]) rfl).cat (Ql.var P.ok P.at' P.ln)).cat (Ql.txt (t:=[]) rfl)).cat ((Ql.txt (t:=[32,61,32]) rfl).cat (E.q false))).cat (Ql.txt (t:=[59]) rfl))) (by lia) rfl fun hb=>Sure.of2 g_law_row_flat P.sl (lf0 E) fun cf h0 h1 π k hk=>e_law_row_flat (h0 π _ ⟨PBS (bl (bl (bl hb))),⟨PBS (bl (bl hb)),(h1 π _ ⟨PBS (br (bl hb)),⟨PBS (bl hb),⟨PBS hb,hk⟩⟩⟩)⟩⟩))
theorem r_let10 {pd:D}{pt:T}(P:PI pd pt){td:List D}{ty:T}(Y:TI td ty) (hk:k≤8) (hM:0*M+39≤32900):RI (N+10) (0*M+39) k (.tup [.str [108,101,116],.int 0,pd,.tup td,.none]) (.cat (.cat (.cat (.cat (.txt [108,101,116,32]) (.txt pt)) (.cat (.txt [58,32]) (.txt ty))) (.txt [])) (.txt [59])) where
 hM:=hM
 hk:=hk
 q:=Ql.fin (show Ql M k 0 39 _ (.cat (.cat (.cat (.cat (.txt [108,101,116,32]) (.txt pt)) (.cat (.txt [58,32]) (.txt ty))) (.txt [])) (.txt [59])) from (((((Ql.txt (t:=[108,101,116,32]) rfl).cat (Ql.var P.ok P.at' P.ln)).cat ((Ql.txt (t:=[58,32]) rfl).cat (Ql.var Y.ok Y.at' Y.ln))).cat (Ql.txt (t:=[]) rfl)).cat (Ql.txt (t:=[59]) rfl))) rfl (Nat.le_refl _) (Nat.le_refl _)
 sw:=Ev.sh (j:=10) (Sure.wr (show Ql M k 0 39 _ (.cat (.cat (.cat (.cat (.txt [108,101,116,32]) (.txt pt)) (.cat (.txt [58,32]) (.txt ty))) (.txt [])) (.txt [59])) from (((((Ql.txt (t:=[108,101,116,32]) rfl).cat (Ql.var P.ok P.at' P.ln)).cat ((Ql.txt (t:=[58,32]) rfl).cat (Ql.var Y.ok Y.at' Y.ln))).cat (Ql.txt (t:=[]) rfl)).cat (Ql.txt (t:=[59]) rfl))) (by lia) hk fun hb=>Sure.of2 g_write_statement Y.sw P.sw fun cf h0 h1 π k hk=>e_write_statement (h0 π _ ⟨PBS (br (bl (bl hb))),(h1 π _ ⟨PBS (bl (bl (bl hb))),⟨PBS (bl (bl hb)),⟨PBS (bl hb),⟨PBS hb,hk⟩⟩⟩⟩)⟩))
 sl:=Ev.sh (j:=10) (Sure.law (b:=(.cat (.cat (.cat (.cat (.txt [108,101,116,32]) (.txt pt)) (.cat (.txt [58,32]) (.txt ty))) (.txt [])) (.txt [59]))) (show Ql M k 0 39 _ (.cat (.cat (.cat (.cat (.txt [108,101,116,32]) (.txt pt)) (.cat (.txt [58,32]) (.txt ty))) (.txt [])) (.txt [59])) from (((((Ql.txt (t:=[108,101,116,32]) rfl).cat (Ql.var P.ok P.at' P.ln)).cat ((Ql.txt (t:=[58,32]) rfl).cat (Ql.var Y.ok Y.at' Y.ln))).cat (Ql.txt (t:=[]) rfl)).cat (Ql.txt (t:=[59]) rfl))) (by lia) rfl fun hb=>Sure.of2 g_law_row_flat Y.sl P.sl fun cf h0 h1 π k hk=>e_law_row_flat (h0 π _ ⟨PBS (br (bl (bl hb))),(h1 π _ ⟨PBS (bl (bl (bl hb))),⟨PBS (bl (bl hb)),⟨PBS (bl hb),⟨PBS hb,hk⟩⟩⟩⟩)⟩))
theorem r_let11 {pd:D}{pt:T}(P:PI pd pt){td:List D}{ty:T}(Y:TI td ty) (E:EI N M k kd r l o f) (hM:1*M+42≤32900):RI (N+10) (1*M+42) k (.tup [.str [108,101,116],.int 0,pd,.tup td,.tup (.str kd::r)]) (.cat (.cat (.cat (.cat (.txt [108,101,116,32]) (.txt pt)) (.cat (.txt [58,32]) (.txt ty))) (.cat (.txt [32,61,32]) (f false))) (.txt [59])) where
 hM:=hM
 hk:=E.hk
 q:=Ql.fin (show Ql M k 1 42 _ (.cat (.cat (.cat (.cat (.txt [108,101,116,32]) (.txt pt)) (.cat (.txt [58,32]) (.txt ty))) (.cat (.txt [32,61,32]) (f false))) (.txt [59])) from (((((Ql.txt (t:=[108,101,116,32]) rfl).cat (Ql.var P.ok P.at' P.ln)).cat ((Ql.txt (t:=[58,32]) rfl).cat (Ql.var Y.ok Y.at' Y.ln))).cat ((Ql.txt (t:=[32,61,32]) rfl).cat (E.q false))).cat (Ql.txt (t:=[59]) rfl))) rfl (Nat.le_refl _) (Nat.le_refl _)
 sw:=Ev.sh (j:=10) (Sure.wr (show Ql M k 1 42 _ (.cat (.cat (.cat (.cat (.txt [108,101,116,32]) (.txt pt)) (.cat (.txt [58,32]) (.txt ty))) (.cat (.txt [32,61,32]) (f false))) (.txt [59])) from (((((Ql.txt (t:=[108,101,116,32]) rfl).cat (Ql.var P.ok P.at' P.ln)).cat ((Ql.txt (t:=[58,32]) rfl).cat (Ql.var Y.ok Y.at' Y.ln))).cat ((Ql.txt (t:=[32,61,32]) rfl).cat (E.q false))).cat (Ql.txt (t:=[59]) rfl))) (by lia) E.hk fun hb=>Sure.of3 g_write_statement Y.sw (we1 E) P.sw fun cf h0 h1 h2 π k hk=>e_write_statement (h0 π _ ⟨PBS (br (bl (bl hb))),(h1 π _ ⟨PBS (br (bl hb)),(h2 π _ ⟨PBS (bl (bl (bl hb))),⟨PBS (bl (bl hb)),⟨PBS (bl hb),⟨PBS hb,hk⟩⟩⟩⟩)⟩)⟩))
 sl:=Ev.sh (j:=10) (Sure.law (b:=(.cat (.cat (.cat (.cat (.txt [108,101,116,32]) (.txt pt)) (.cat (.txt [58,32]) (.txt ty))) (.cat (.txt [32,61,32]) (f false))) (.txt [59]))) (show Ql M k 1 42 _ (.cat (.cat (.cat (.cat (.txt [108,101,116,32]) (.txt pt)) (.cat (.txt [58,32]) (.txt ty))) (.cat (.txt [32,61,32]) (f false))) (.txt [59])) from (((((Ql.txt (t:=[108,101,116,32]) rfl).cat (Ql.var P.ok P.at' P.ln)).cat ((Ql.txt (t:=[58,32]) rfl).cat (Ql.var Y.ok Y.at' Y.ln))).cat ((Ql.txt (t:=[32,61,32]) rfl).cat (E.q false))).cat (Ql.txt (t:=[59]) rfl))) (by lia) rfl fun hb=>Sure.of3 g_law_row_flat Y.sl P.sl (lf0 E) fun cf h0 h1 h2 π k hk=>e_law_row_flat (h0 π _ ⟨PBS (br (bl (bl hb))),(h1 π _ ⟨PBS (bl (bl (bl hb))),⟨PBS (bl (bl hb)),(h2 π _ ⟨PBS (br (bl hb)),⟨PBS (bl hb),⟨PBS hb,hk⟩⟩⟩)⟩⟩)⟩))
theorem b_00  (hM:0*M+4≤32900) (hk:k+1≤8):BI (N+10) (0*M+4) (k+1) [.int 0,.tup [],.none] (.br .nil):=by
 have q:=(show Ql M (k+1) 0 4 good (.br .nil) from (Ql.br Qls.nil))
 have wb:Sure N 8 i_write_block [.tup (.str [98,108,111,99,107]::[.int 0,.tup [],.none])] (.str (pretty (.br .nil))):=Sure.wr q (by lia) hk fun hb=>Sure.of g_write_block (wrows .nil hb) fun cf h0 π k hk=>e_write_block (h0 π _ hk)
 have lb:Sure N 8 i_law_long_flat [.tup (.str [98,108,111,99,107]::[.int 0,.tup [],.none])] (.str (flat (.br .nil))):=Sure.law (b:=(.txt [123,125])) q (by lia) rfl fun hb=>Sure.of0 g_law_long_flat  fun cf  π k hk=>e_law_long_flat hk
 exact ⟨⟨hM,hk,⟨⟨_,_,_,_,rfl,rfl,rfl,rfl,rfl,rfl,rfl⟩,rfl⟩,fun _=>Ql.fin q rfl (Nat.le_refl _) (Nat.le_refl _),Ev.sh (j:=10) (Sure.of0 g_level_of fun cf π k hk=>e_level_of hk),Ev.sh (j:=10) (Sure.of0 g_law_level fun cf π k hk=>e_law_level hk),
  fun x=>Ev.sh (j:=10) (Sure.of g_written (show Sure N 9 i_write_block_like [.tup (.str [98,108,111,99,107]::[.int 0,.tup [],.none])] (.str (pretty (.br .nil))) from Sure.of g_write_block_like wb fun cf h π k hk=>e_write_block_like (h π _ hk)) fun cf h π k hk=>e_written (h π _ hk)),
  fun x=>Ev.sh (j:=10) (Sure.of g_law_bare_flat lb fun cf h π k hk=>e_law_bare_flat (h π _ hk))⟩,Ev.sh (j:=10) (wb.up rfl),Ev.sh (j:=10) (lb.up rfl)⟩
theorem b_01  (E:EI N M k kd r l o f) (hM:1*M+5≤32900) (hk:k+1≤8):BI (N+10) (1*M+5) (k+1) [.int 0,.tup [],.tup (.str kd::r)] (.br (.cons (f false) .nil)):=by
 have q:=(show Ql M (k+1) 1 5 good (.br (.cons (f false) .nil)) from (Ql.br (Qls.cons (Ql.gd (E.q false) rfl) Qls.nil)))
 have wb:Sure N 8 i_write_block [.tup (.str [98,108,111,99,107]::[.int 0,.tup [],.tup (.str kd::r)])] (.str (pretty (.br (.cons (f false) .nil)))):=Sure.wr q (by lia) hk fun hb=>Sure.of2 g_write_block (we1 E) (wrows (.cons (f false) .nil) hb) fun cf h0 h1 π k hk=>e_write_block (h0 π _ (h1 π _ hk))
 have lb:Sure N 8 i_law_long_flat [.tup (.str [98,108,111,99,107]::[.int 0,.tup [],.tup (.str kd::r)])] (.str (flat (.br (.cons (f false) .nil)))):=Sure.law (b:=(.cat (.cat (.txt [123,32]) (f false)) (.txt [32,125]))) q (by lia) rfl fun hb=>Sure.of g_law_long_flat (lf0 E) fun cf h0 π k hk=>e_law_long_flat (h0 π _ ⟨jok1 (br (bl hb)) rfl,⟨PBS (bl hb),⟨PBS hb,hk⟩⟩⟩)
 exact ⟨⟨hM,hk,⟨⟨_,_,_,_,rfl,rfl,rfl,rfl,rfl,rfl,rfl⟩,rfl⟩,fun _=>Ql.fin q rfl (Nat.le_refl _) (Nat.le_refl _),Ev.sh (j:=10) (Sure.of0 g_level_of fun cf π k hk=>e_level_of hk),Ev.sh (j:=10) (Sure.of0 g_law_level fun cf π k hk=>e_law_level hk),
  fun x=>Ev.sh (j:=10) (Sure.of g_written (show Sure N 9 i_write_block_like [.tup (.str [98,108,111,99,107]::[.int 0,.tup [],.tup (.str kd::r)])] (.str (pretty (.br (.cons (f false) .nil)))) from Sure.of g_write_block_like wb fun cf h π k hk=>e_write_block_like (h π _ hk)) fun cf h π k hk=>e_written (h π _ hk)),
  fun x=>Ev.sh (j:=10) (Sure.of g_law_bare_flat lb fun cf h π k hk=>e_law_bare_flat (h π _ hk))⟩,Ev.sh (j:=10) (wb.up rfl),Ev.sh (j:=10) (lb.up rfl)⟩
theorem b_10 {d0:D}{g0:Dc}(R0:RI N M k d0 g0) (hM:1*M+5≤32900) (hk:k+1≤8):BI (N+10) (1*M+5) (k+1) [.int 0,.tup [d0],.none] (.br (.cons g0 .nil)):=by
 have q:=(show Ql M (k+1) 1 5 good (.br (.cons g0 .nil)) from (Ql.br (Qls.cons (Ql.gd R0.q rfl) Qls.nil)))
 have wb:Sure N 8 i_write_block [.tup (.str [98,108,111,99,107]::[.int 0,.tup [d0],.none])] (.str (pretty (.br (.cons g0 .nil)))):=Sure.wr q (by lia) hk fun hb=>Sure.of2 g_write_block R0.sw (wrows (.cons g0 .nil) hb) fun cf h0 h1 π k hk=>e_write_block (h0 π _ (h1 π _ hk))
 have lb:Sure N 8 i_law_long_flat [.tup (.str [98,108,111,99,107]::[.int 0,.tup [d0],.none])] (.str (flat (.br (.cons g0 .nil)))):=Sure.law (b:=(.cat (.cat (.txt [123,32]) g0) (.txt [32,125]))) q (by lia) rfl fun hb=>Sure.of g_law_long_flat R0.sl fun cf h0 π k hk=>e_law_long_flat (h0 π _ ⟨jok1 (br (bl hb)) rfl,⟨PBS (bl hb),⟨PBS hb,hk⟩⟩⟩)
 exact ⟨⟨hM,hk,⟨⟨_,_,_,_,rfl,rfl,rfl,rfl,rfl,rfl,rfl⟩,rfl⟩,fun _=>Ql.fin q rfl (Nat.le_refl _) (Nat.le_refl _),Ev.sh (j:=10) (Sure.of0 g_level_of fun cf π k hk=>e_level_of hk),Ev.sh (j:=10) (Sure.of0 g_law_level fun cf π k hk=>e_law_level hk),
  fun x=>Ev.sh (j:=10) (Sure.of g_written (show Sure N 9 i_write_block_like [.tup (.str [98,108,111,99,107]::[.int 0,.tup [d0],.none])] (.str (pretty (.br (.cons g0 .nil)))) from Sure.of g_write_block_like wb fun cf h π k hk=>e_write_block_like (h π _ hk)) fun cf h π k hk=>e_written (h π _ hk)),
  fun x=>Ev.sh (j:=10) (Sure.of g_law_bare_flat lb fun cf h π k hk=>e_law_bare_flat (h π _ hk))⟩,Ev.sh (j:=10) (wb.up rfl),Ev.sh (j:=10) (lb.up rfl)⟩
theorem b_11 {d0:D}{g0:Dc}(R0:RI N M k d0 g0) (E:EI N M k kd r l o f) (hM:2*M+6≤32900) (hk:k+1≤8):BI (N+10) (2*M+6) (k+1) [.int 0,.tup [d0],.tup (.str kd::r)] (.br (.cons g0 (.cons (f false) .nil))):=by
 have q:=(show Ql M (k+1) 2 6 good (.br (.cons g0 (.cons (f false) .nil))) from (Ql.br (Qls.cons (Ql.gd R0.q rfl) (Qls.cons (Ql.gd (E.q false) rfl) Qls.nil))))
 have wb:Sure N 8 i_write_block [.tup (.str [98,108,111,99,107]::[.int 0,.tup [d0],.tup (.str kd::r)])] (.str (pretty (.br (.cons g0 (.cons (f false) .nil))))):=Sure.wr q (by lia) hk fun hb=>Sure.of3 g_write_block R0.sw (we1 E) (wrows (.cons g0 (.cons (f false) .nil)) hb) fun cf h0 h1 h2 π k hk=>e_write_block (h0 π _ (h1 π _ (h2 π _ hk)))
 have lb:Sure N 8 i_law_long_flat [.tup (.str [98,108,111,99,107]::[.int 0,.tup [d0],.tup (.str kd::r)])] (.str (flat (.br (.cons g0 (.cons (f false) .nil))))):=Sure.law (b:=(.cat (.cat (.txt [123,32]) (.cat (.cat g0 (.txt [32])) (f false))) (.txt [32,125]))) q (by lia) rfl fun hb=>Sure.of2 g_law_long_flat R0.sl (lf0 E) fun cf h0 h1 π k hk=>e_law_long_flat (h0 π _ (h1 π _ ⟨jok2 (bl (bl (br (bl hb)))) (br (br (bl hb))) rfl,⟨PBS (bl hb),⟨PBS hb,hk⟩⟩⟩))
 exact ⟨⟨hM,hk,⟨⟨_,_,_,_,rfl,rfl,rfl,rfl,rfl,rfl,rfl⟩,rfl⟩,fun _=>Ql.fin q rfl (Nat.le_refl _) (Nat.le_refl _),Ev.sh (j:=10) (Sure.of0 g_level_of fun cf π k hk=>e_level_of hk),Ev.sh (j:=10) (Sure.of0 g_law_level fun cf π k hk=>e_law_level hk),
  fun x=>Ev.sh (j:=10) (Sure.of g_written (show Sure N 9 i_write_block_like [.tup (.str [98,108,111,99,107]::[.int 0,.tup [d0],.tup (.str kd::r)])] (.str (pretty (.br (.cons g0 (.cons (f false) .nil))))) from Sure.of g_write_block_like wb fun cf h π k hk=>e_write_block_like (h π _ hk)) fun cf h π k hk=>e_written (h π _ hk)),
  fun x=>Ev.sh (j:=10) (Sure.of g_law_bare_flat lb fun cf h π k hk=>e_law_bare_flat (h π _ hk))⟩,Ev.sh (j:=10) (wb.up rfl),Ev.sh (j:=10) (lb.up rfl)⟩
theorem b_20 {d0:D}{g0:Dc}(R0:RI N M k d0 g0){d1:D}{g1:Dc}(R1:RI N M k d1 g1) (hM:2*M+6≤32900) (hk:k+1≤8):BI (N+10) (2*M+6) (k+1) [.int 0,.tup [d0,d1],.none] (.br (.cons g0 (.cons g1 .nil))):=by
 have q:=(show Ql M (k+1) 2 6 good (.br (.cons g0 (.cons g1 .nil))) from (Ql.br (Qls.cons (Ql.gd R0.q rfl) (Qls.cons (Ql.gd R1.q rfl) Qls.nil))))
 have wb:Sure N 8 i_write_block [.tup (.str [98,108,111,99,107]::[.int 0,.tup [d0,d1],.none])] (.str (pretty (.br (.cons g0 (.cons g1 .nil))))):=Sure.wr q (by lia) hk fun hb=>Sure.of3 g_write_block R0.sw R1.sw (wrows (.cons g0 (.cons g1 .nil)) hb) fun cf h0 h1 h2 π k hk=>e_write_block (h0 π _ (h1 π _ (h2 π _ hk)))
 have lb:Sure N 8 i_law_long_flat [.tup (.str [98,108,111,99,107]::[.int 0,.tup [d0,d1],.none])] (.str (flat (.br (.cons g0 (.cons g1 .nil))))):=Sure.law (b:=(.cat (.cat (.txt [123,32]) (.cat (.cat g0 (.txt [32])) g1)) (.txt [32,125]))) q (by lia) rfl fun hb=>Sure.of2 g_law_long_flat R0.sl R1.sl fun cf h0 h1 π k hk=>e_law_long_flat (h0 π _ (h1 π _ ⟨jok2 (bl (bl (br (bl hb)))) (br (br (bl hb))) rfl,⟨PBS (bl hb),⟨PBS hb,hk⟩⟩⟩))
 exact ⟨⟨hM,hk,⟨⟨_,_,_,_,rfl,rfl,rfl,rfl,rfl,rfl,rfl⟩,rfl⟩,fun _=>Ql.fin q rfl (Nat.le_refl _) (Nat.le_refl _),Ev.sh (j:=10) (Sure.of0 g_level_of fun cf π k hk=>e_level_of hk),Ev.sh (j:=10) (Sure.of0 g_law_level fun cf π k hk=>e_law_level hk),
  fun x=>Ev.sh (j:=10) (Sure.of g_written (show Sure N 9 i_write_block_like [.tup (.str [98,108,111,99,107]::[.int 0,.tup [d0,d1],.none])] (.str (pretty (.br (.cons g0 (.cons g1 .nil))))) from Sure.of g_write_block_like wb fun cf h π k hk=>e_write_block_like (h π _ hk)) fun cf h π k hk=>e_written (h π _ hk)),
  fun x=>Ev.sh (j:=10) (Sure.of g_law_bare_flat lb fun cf h π k hk=>e_law_bare_flat (h π _ hk))⟩,Ev.sh (j:=10) (wb.up rfl),Ev.sh (j:=10) (lb.up rfl)⟩
theorem b_21 {d0:D}{g0:Dc}(R0:RI N M k d0 g0){d1:D}{g1:Dc}(R1:RI N M k d1 g1) (E:EI N M k kd r l o f) (hM:3*M+7≤32900) (hk:k+1≤8):BI (N+10) (3*M+7) (k+1) [.int 0,.tup [d0,d1],.tup (.str kd::r)] (.br (.cons g0 (.cons g1 (.cons (f false) .nil)))):=by
 have q:=(show Ql M (k+1) 3 7 good (.br (.cons g0 (.cons g1 (.cons (f false) .nil)))) from (Ql.br (Qls.cons (Ql.gd R0.q rfl) (Qls.cons (Ql.gd R1.q rfl) (Qls.cons (Ql.gd (E.q false) rfl) Qls.nil)))))
 have wb:Sure N 8 i_write_block [.tup (.str [98,108,111,99,107]::[.int 0,.tup [d0,d1],.tup (.str kd::r)])] (.str (pretty (.br (.cons g0 (.cons g1 (.cons (f false) .nil)))))):=Sure.wr q (by lia) hk fun hb=>Sure.of4 g_write_block R0.sw R1.sw (we1 E) (wrows (.cons g0 (.cons g1 (.cons (f false) .nil))) hb) fun cf h0 h1 h2 h3 π k hk=>e_write_block (h0 π _ (h1 π _ (h2 π _ (h3 π _ hk))))
 have lb:Sure N 8 i_law_long_flat [.tup (.str [98,108,111,99,107]::[.int 0,.tup [d0,d1],.tup (.str kd::r)])] (.str (flat (.br (.cons g0 (.cons g1 (.cons (f false) .nil)))))):=Sure.law (b:=(.cat (.cat (.txt [123,32]) (.cat (.cat g0 (.txt [32])) (.cat (.cat g1 (.txt [32])) (f false)))) (.txt [32,125]))) q (by lia) rfl fun hb=>Sure.of3 g_law_long_flat R0.sl R1.sl (lf0 E) fun cf h0 h1 h2 π k hk=>e_law_long_flat (h0 π _ (h1 π _ (h2 π _ ⟨jok3 (bl (bl (br (bl hb)))) (bl (bl (br (br (bl hb))))) (br (br (br (bl hb)))) rfl,⟨PBS (bl hb),⟨PBS hb,hk⟩⟩⟩)))
 exact ⟨⟨hM,hk,⟨⟨_,_,_,_,rfl,rfl,rfl,rfl,rfl,rfl,rfl⟩,rfl⟩,fun _=>Ql.fin q rfl (Nat.le_refl _) (Nat.le_refl _),Ev.sh (j:=10) (Sure.of0 g_level_of fun cf π k hk=>e_level_of hk),Ev.sh (j:=10) (Sure.of0 g_law_level fun cf π k hk=>e_law_level hk),
  fun x=>Ev.sh (j:=10) (Sure.of g_written (show Sure N 9 i_write_block_like [.tup (.str [98,108,111,99,107]::[.int 0,.tup [d0,d1],.tup (.str kd::r)])] (.str (pretty (.br (.cons g0 (.cons g1 (.cons (f false) .nil)))))) from Sure.of g_write_block_like wb fun cf h π k hk=>e_write_block_like (h π _ hk)) fun cf h π k hk=>e_written (h π _ hk)),
  fun x=>Ev.sh (j:=10) (Sure.of g_law_bare_flat lb fun cf h π k hk=>e_law_bare_flat (h π _ hk))⟩,Ev.sh (j:=10) (wb.up rfl),Ev.sh (j:=10) (lb.up rfl)⟩
theorem c_if0 (E:EI N M k kd r l o f) (B:BI N M k rb b) (hM:2*M+6≤32900):EI (N+10) (2*M+6) (k) [105,102] ([.int 0,.tup (.str kd::r),.tup (.str [98,108,111,99,107]::rb),.none]) 0 true (fun x=>(.cat (.cat (.cat (.txt [105,102,32]) (par f l o 0 true)) (.txt [32])) b)) where
 hM:=hM
 hk:=E.hk
 kk:=⟨⟨_,_,_,_,rfl,rfl,rfl,rfl,rfl,rfl,rfl⟩,rfl⟩
 q:=fun x=>Ql.fin (show Ql M (k) 2 6 _ (.cat (.cat (.cat (.txt [105,102,32]) (par f l o 0 true)) (.txt [32])) b) from ((((Ql.txt (t:=[105,102,32]) rfl).cat (Ql.par E.q l o 0 true)).cat (Ql.txt (t:=[32]) rfl)).cat (B.E.q false))) rfl (Nat.le_refl _) (Nat.le_refl _)
 lv:=Ev.sh (j:=10) (Sure.of0 g_level_of fun cf π k hk=>e_level_of hk)
 ll:=Ev.sh (j:=10) (Sure.of0 g_law_level fun cf π k hk=>e_law_level hk)
 wr:=fun x=>Ev.sh (j:=10) (Sure.wr (show Ql M (k) 2 6 _ (.cat (.cat (.cat (.txt [105,102,32]) (par f l o 0 true)) (.txt [32])) b) from ((((Ql.txt (t:=[105,102,32]) rfl).cat (Ql.par E.q l o 0 true)).cat (Ql.txt (t:=[32]) rfl)).cat (B.E.q false))) (by lia) E.hk fun hb=>Sure.of g_written (show Sure N 9 i_write_block_like [.tup (.str [105,102]::[.int 0,.tup (.str kd::r),.tup (.str [98,108,111,99,107]::rb),.none])] (.str (pretty (.cat (.cat (.cat (.txt [105,102,32]) (par f l o 0 true)) (.txt [32])) b))) from Sure.of g_write_block_like (show Sure N 8 i_write_if [.tup (.str [105,102]::[.int 0,.tup (.str kd::r),.tup (.str [98,108,111,99,107]::rb),.none])] (.str (pretty (.cat (.cat (.cat (.txt [105,102,32]) (par f l o 0 true)) (.txt [32])) b))) from Sure.of2 g_write_if (wcond E) B.wb fun cf h0 h1 π k hk=>e_write_if ⟨3,(h0 π _ ⟨PBS (bl (bl hb)),⟨PBS (bl hb),(h1 π _ ⟨PBS hb,⟨jok1 hb rfl,hk⟩⟩)⟩⟩)⟩) fun cf h π k hk=>e_write_block_like (h π _ hk)) fun cf h π k hk=>e_written (h π _ hk))
 bf:=fun x=>Ev.sh (j:=10) (Sure.law (b:=(.cat (.cat (.cat (.cat (.txt [105,102,32]) (par f l o 0 true)) (.txt [32])) b) (.txt []))) (show Ql M (k) 2 6 _ (.cat (.cat (.cat (.txt [105,102,32]) (par f l o 0 true)) (.txt [32])) b) from ((((Ql.txt (t:=[105,102,32]) rfl).cat (Ql.par E.q l o 0 true)).cat (Ql.txt (t:=[32]) rfl)).cat (B.E.q false))) (by lia) rfl fun hb=>Sure.of g_law_bare_flat (show Sure N 9 i_law_long_flat [.tup (.str [105,102]::[.int 0,.tup (.str kd::r),.tup (.str [98,108,111,99,107]::rb),.none])] (.str (flat (.cat (.cat (.cat (.cat (.txt [105,102,32]) (par f l o 0 true)) (.txt [32])) b) (.txt [])))) from Sure.of2 g_law_long_flat (lf E 0 true) B.lb fun cf h0 h1 π k hk=>e_law_long_flat (h0 π _ ⟨PBS (bl (bl (bl hb))),⟨PBS (bl (bl hb)),(h1 π _ ⟨PBS (bl hb),⟨PBS hb,hk⟩⟩)⟩⟩)) fun cf h π k hk=>e_law_bare_flat (h π _ hk))
theorem lif0 (E:EI N M k kd r l o f) (B:BI N M k rb b) (hM:2*M+6≤32900):Sure N 5 i_law_long_flat [.tup (.str [105,102]::[.int 0,.tup (.str kd::r),.tup (.str [98,108,111,99,107]::rb),.none])] (.str (flat (.cat (.cat (.cat (.txt [105,102,32]) (par f l o 0 true)) (.txt [32])) b))):=Sure.law (b:=(.cat (.cat (.cat (.cat (.txt [105,102,32]) (par f l o 0 true)) (.txt [32])) b) (.txt []))) (show Ql M k 2 6 _ (.cat (.cat (.cat (.txt [105,102,32]) (par f l o 0 true)) (.txt [32])) b) from ((((Ql.txt (t:=[105,102,32]) rfl).cat (Ql.par E.q l o 0 true)).cat (Ql.txt (t:=[32]) rfl)).cat (B.E.q false))) (by lia) rfl fun hb=>Sure.of2 g_law_long_flat (lf E 0 true) B.lb fun cf h0 h1 π k hk=>e_law_long_flat (h0 π _ ⟨PBS (bl (bl (bl hb))),⟨PBS (bl (bl hb)),(h1 π _ ⟨PBS (bl hb),⟨PBS hb,hk⟩⟩)⟩⟩)
theorem c_ifb (E:EI N M k kd r l o f) (B:BI N M k rb b) (hM:3*M+12≤32900):EI (N+10) (3*M+12) (k) [105,102] ([.int 0,.tup (.str kd::r),.tup (.str [98,108,111,99,107]::rb),.tup (.str [98,108,111,99,107]::rb)]) 0 true (fun x=>(.cat (.cat (.cat (.cat (.cat (.txt [105,102,32]) (par f l o 0 true)) (.txt [32])) b) (.txt [32,101,108,115,101,32])) b)) where
 hM:=hM
 hk:=E.hk
 kk:=⟨⟨_,_,_,_,rfl,rfl,rfl,rfl,rfl,rfl,rfl⟩,rfl⟩
 q:=fun x=>Ql.fin (show Ql M (k) 3 12 _ (.cat (.cat (.cat (.cat (.cat (.txt [105,102,32]) (par f l o 0 true)) (.txt [32])) b) (.txt [32,101,108,115,101,32])) b) from ((((((Ql.txt (t:=[105,102,32]) rfl).cat (Ql.par E.q l o 0 true)).cat (Ql.txt (t:=[32]) rfl)).cat (B.E.q false)).cat (Ql.txt (t:=[32,101,108,115,101,32]) rfl)).cat (B.E.q false))) rfl (Nat.le_refl _) (Nat.le_refl _)
 lv:=Ev.sh (j:=10) (Sure.of0 g_level_of fun cf π k hk=>e_level_of hk)
 ll:=Ev.sh (j:=10) (Sure.of0 g_law_level fun cf π k hk=>e_law_level hk)
 wr:=fun x=>Ev.sh (j:=10) (Sure.wr (show Ql M (k) 3 12 _ (.cat (.cat (.cat (.cat (.cat (.txt [105,102,32]) (par f l o 0 true)) (.txt [32])) b) (.txt [32,101,108,115,101,32])) b) from ((((((Ql.txt (t:=[105,102,32]) rfl).cat (Ql.par E.q l o 0 true)).cat (Ql.txt (t:=[32]) rfl)).cat (B.E.q false)).cat (Ql.txt (t:=[32,101,108,115,101,32]) rfl)).cat (B.E.q false))) (by lia) E.hk fun hb=>Sure.of g_written (show Sure N 9 i_write_block_like [.tup (.str [105,102]::[.int 0,.tup (.str kd::r),.tup (.str [98,108,111,99,107]::rb),.tup (.str [98,108,111,99,107]::rb)])] (.str (pretty (.cat (.cat (.cat (.cat (.cat (.txt [105,102,32]) (par f l o 0 true)) (.txt [32])) b) (.txt [32,101,108,115,101,32])) b))) from Sure.of g_write_block_like (show Sure N 8 i_write_if [.tup (.str [105,102]::[.int 0,.tup (.str kd::r),.tup (.str [98,108,111,99,107]::rb),.tup (.str [98,108,111,99,107]::rb)])] (.str (pretty (.cat (.cat (.cat (.cat (.cat (.txt [105,102,32]) (par f l o 0 true)) (.txt [32])) b) (.txt [32,101,108,115,101,32])) b))) from Sure.of2 g_write_if (wcond E) B.wb fun cf h0 h1 π k hk=>e_write_if ⟨3,(h0 π _ ⟨PBS (bl (bl (bl (bl hb)))),⟨PBS (bl (bl (bl hb))),(h1 π _ ⟨PBS (bl (bl hb)),(h1 π _ ⟨jok2 (bl (bl hb)) (br hb) rfl,hk⟩)⟩)⟩⟩)⟩) fun cf h π k hk=>e_write_block_like (h π _ hk)) fun cf h π k hk=>e_written (h π _ hk))
 bf:=fun x=>Ev.sh (j:=10) (Sure.law (b:=(.cat (.cat (.cat (.cat (.txt [105,102,32]) (par f l o 0 true)) (.txt [32])) b) (.cat (.txt [32,101,108,115,101,32]) b))) (show Ql M (k) 3 12 _ (.cat (.cat (.cat (.cat (.cat (.txt [105,102,32]) (par f l o 0 true)) (.txt [32])) b) (.txt [32,101,108,115,101,32])) b) from ((((((Ql.txt (t:=[105,102,32]) rfl).cat (Ql.par E.q l o 0 true)).cat (Ql.txt (t:=[32]) rfl)).cat (B.E.q false)).cat (Ql.txt (t:=[32,101,108,115,101,32]) rfl)).cat (B.E.q false))) (by lia) rfl fun hb=>Sure.of g_law_bare_flat (show Sure N 9 i_law_long_flat [.tup (.str [105,102]::[.int 0,.tup (.str kd::r),.tup (.str [98,108,111,99,107]::rb),.tup (.str [98,108,111,99,107]::rb)])] (.str (flat (.cat (.cat (.cat (.cat (.txt [105,102,32]) (par f l o 0 true)) (.txt [32])) b) (.cat (.txt [32,101,108,115,101,32]) b)))) from Sure.of2 g_law_long_flat B.lb (lf E 0 true) fun cf h0 h1 π k hk=>e_law_long_flat (h0 π _ ⟨PBS (br hb),(h1 π _ ⟨PBS (bl (bl (bl hb))),⟨PBS (bl (bl hb)),(h0 π _ ⟨PBS (bl hb),⟨PBS hb,hk⟩⟩)⟩⟩)⟩)) fun cf h π k hk=>e_law_bare_flat (h π _ hk))
theorem c_ifi (E:EI N M k kd r l o f) (E':EI N M k kd' r' l' o' f') (B:BI N M k rb b) (hM:4*M+18≤32900):EI (N+10) (4*M+18) (k) [105,102] ([.int 0,.tup (.str kd::r),.tup (.str [98,108,111,99,107]::rb),.tup (.str [105,102]::[.int 0,.tup (.str kd'::r'),.tup (.str [98,108,111,99,107]::rb),.none])]) 0 true (fun x=>(.cat (.cat (.cat (.cat (.cat (.txt [105,102,32]) (par f l o 0 true)) (.txt [32])) b) (.txt [32,101,108,115,101,32])) (.cat (.cat (.cat (.txt [105,102,32]) (par f' l' o' 0 true)) (.txt [32])) b))) where
 hM:=hM
 hk:=E.hk
 kk:=⟨⟨_,_,_,_,rfl,rfl,rfl,rfl,rfl,rfl,rfl⟩,rfl⟩
 q:=fun x=>Ql.fin (show Ql M (k) 4 18 _ (.cat (.cat (.cat (.cat (.cat (.txt [105,102,32]) (par f l o 0 true)) (.txt [32])) b) (.txt [32,101,108,115,101,32])) (.cat (.cat (.cat (.txt [105,102,32]) (par f' l' o' 0 true)) (.txt [32])) b)) from ((((((Ql.txt (t:=[105,102,32]) rfl).cat (Ql.par E.q l o 0 true)).cat (Ql.txt (t:=[32]) rfl)).cat (B.E.q false)).cat (Ql.txt (t:=[32,101,108,115,101,32]) rfl)).cat ((((Ql.txt (t:=[105,102,32]) rfl).cat (Ql.par E'.q l' o' 0 true)).cat (Ql.txt (t:=[32]) rfl)).cat (B.E.q false)))) rfl (Nat.le_refl _) (Nat.le_refl _)
 lv:=Ev.sh (j:=10) (Sure.of0 g_level_of fun cf π k hk=>e_level_of hk)
 ll:=Ev.sh (j:=10) (Sure.of0 g_law_level fun cf π k hk=>e_law_level hk)
 wr:=fun x=>Ev.sh (j:=10) (Sure.wr (show Ql M (k) 4 18 _ (.cat (.cat (.cat (.cat (.cat (.txt [105,102,32]) (par f l o 0 true)) (.txt [32])) b) (.txt [32,101,108,115,101,32])) (.cat (.cat (.cat (.txt [105,102,32]) (par f' l' o' 0 true)) (.txt [32])) b)) from ((((((Ql.txt (t:=[105,102,32]) rfl).cat (Ql.par E.q l o 0 true)).cat (Ql.txt (t:=[32]) rfl)).cat (B.E.q false)).cat (Ql.txt (t:=[32,101,108,115,101,32]) rfl)).cat ((((Ql.txt (t:=[105,102,32]) rfl).cat (Ql.par E'.q l' o' 0 true)).cat (Ql.txt (t:=[32]) rfl)).cat (B.E.q false)))) (by lia) E.hk fun hb=>Sure.of g_written (show Sure N 9 i_write_block_like [.tup (.str [105,102]::[.int 0,.tup (.str kd::r),.tup (.str [98,108,111,99,107]::rb),.tup (.str [105,102]::[.int 0,.tup (.str kd'::r'),.tup (.str [98,108,111,99,107]::rb),.none])])] (.str (pretty (.cat (.cat (.cat (.cat (.cat (.txt [105,102,32]) (par f l o 0 true)) (.txt [32])) b) (.txt [32,101,108,115,101,32])) (.cat (.cat (.cat (.txt [105,102,32]) (par f' l' o' 0 true)) (.txt [32])) b)))) from Sure.of g_write_block_like (show Sure N 8 i_write_if [.tup (.str [105,102]::[.int 0,.tup (.str kd::r),.tup (.str [98,108,111,99,107]::rb),.tup (.str [105,102]::[.int 0,.tup (.str kd'::r'),.tup (.str [98,108,111,99,107]::rb),.none])])] (.str (pretty (.cat (.cat (.cat (.cat (.cat (.txt [105,102,32]) (par f l o 0 true)) (.txt [32])) b) (.txt [32,101,108,115,101,32])) (.cat (.cat (.cat (.txt [105,102,32]) (par f' l' o' 0 true)) (.txt [32])) b)))) from Sure.of3 g_write_if (wcond E) B.wb (wcond E') fun cf h0 h1 h2 π k hk=>e_write_if ⟨3,(h0 π _ ⟨PBS (bl (bl (bl (bl hb)))),⟨PBS (bl (bl (bl hb))),(h1 π _ ⟨PBS (bl (bl hb)),(h2 π _ ⟨PBS (bl (bl (br hb))),⟨PBS (bl (br hb)),(h1 π _ ⟨PBS (br hb),⟨jok2 (bl (bl hb)) (br hb) rfl,hk⟩⟩)⟩⟩)⟩)⟩⟩)⟩) fun cf h π k hk=>e_write_block_like (h π _ hk)) fun cf h π k hk=>e_written (h π _ hk))
 bf:=fun x=>Ev.sh (j:=10) (Sure.law (b:=(.cat (.cat (.cat (.cat (.txt [105,102,32]) (par f l o 0 true)) (.txt [32])) b) (.cat (.txt [32,101,108,115,101,32]) (.cat (.cat (.cat (.txt [105,102,32]) (par f' l' o' 0 true)) (.txt [32])) b)))) (show Ql M (k) 4 18 _ (.cat (.cat (.cat (.cat (.cat (.txt [105,102,32]) (par f l o 0 true)) (.txt [32])) b) (.txt [32,101,108,115,101,32])) (.cat (.cat (.cat (.txt [105,102,32]) (par f' l' o' 0 true)) (.txt [32])) b)) from ((((((Ql.txt (t:=[105,102,32]) rfl).cat (Ql.par E.q l o 0 true)).cat (Ql.txt (t:=[32]) rfl)).cat (B.E.q false)).cat (Ql.txt (t:=[32,101,108,115,101,32]) rfl)).cat ((((Ql.txt (t:=[105,102,32]) rfl).cat (Ql.par E'.q l' o' 0 true)).cat (Ql.txt (t:=[32]) rfl)).cat (B.E.q false)))) (by lia) rfl fun hb=>Sure.of g_law_bare_flat (show Sure N 9 i_law_long_flat [.tup (.str [105,102]::[.int 0,.tup (.str kd::r),.tup (.str [98,108,111,99,107]::rb),.tup (.str [105,102]::[.int 0,.tup (.str kd'::r'),.tup (.str [98,108,111,99,107]::rb),.none])])] (.str (flat (.cat (.cat (.cat (.cat (.txt [105,102,32]) (par f l o 0 true)) (.txt [32])) b) (.cat (.txt [32,101,108,115,101,32]) (.cat (.cat (.cat (.txt [105,102,32]) (par f' l' o' 0 true)) (.txt [32])) b))))) from Sure.of3 g_law_long_flat (lif0 E' B (by lia)) (lf E 0 true) B.lb fun cf h0 h1 h2 π k hk=>e_law_long_flat (h0 π _ ⟨PBS (br hb),(h1 π _ ⟨PBS (bl (bl (bl hb))),⟨PBS (bl (bl hb)),(h2 π _ ⟨PBS (bl hb),⟨PBS hb,hk⟩⟩)⟩⟩)⟩)) fun cf h π k hk=>e_law_bare_flat (h π _ hk))
theorem c_loop0  (B:BI N M k rb b) (hM:1*M+5≤32900):EI (N+10) (1*M+5) (k) [108,111,111,112] ([.int 0,.none,.tup (.str [98,108,111,99,107]::rb)]) 0 true (fun x=>(.cat (.cat (.txt []) (.txt [108,111,111,112,32])) b)) where
 hM:=hM
 hk:=B.E.hk
 kk:=⟨⟨_,_,_,_,rfl,rfl,rfl,rfl,rfl,rfl,rfl⟩,rfl⟩
 q:=fun x=>Ql.fin (show Ql M (k) 1 5 _ (.cat (.cat (.txt []) (.txt [108,111,111,112,32])) b) from (((Ql.txt (t:=[]) rfl).cat (Ql.txt (t:=[108,111,111,112,32]) rfl)).cat (B.E.q false))) rfl (Nat.le_refl _) (Nat.le_refl _)
 lv:=Ev.sh (j:=10) (Sure.of0 g_level_of fun cf π k hk=>e_level_of hk)
 ll:=Ev.sh (j:=10) (Sure.of0 g_law_level fun cf π k hk=>e_law_level hk)
 wr:=fun x=>Ev.sh (j:=10) (Sure.wr (show Ql M (k) 1 5 _ (.cat (.cat (.txt []) (.txt [108,111,111,112,32])) b) from (((Ql.txt (t:=[]) rfl).cat (Ql.txt (t:=[108,111,111,112,32]) rfl)).cat (B.E.q false))) (by lia) B.E.hk fun hb=>Sure.of g_written (show Sure N 9 i_write_block_like [.tup (.str [108,111,111,112]::[.int 0,.none,.tup (.str [98,108,111,99,107]::rb)])] (.str (pretty (.cat (.cat (.txt []) (.txt [108,111,111,112,32])) b))) from Sure.of g_write_block_like B.wb fun cf h0 π k hk=>e_write_block_like ⟨PBS (bl hb),(h0 π _ ⟨PBS hb,hk⟩)⟩) fun cf h π k hk=>e_written (h π _ hk))
 bf:=fun x=>Ev.sh (j:=10) (Sure.law (b:=(.cat (.cat (.txt []) (.txt [108,111,111,112,32])) b)) (show Ql M (k) 1 5 _ (.cat (.cat (.txt []) (.txt [108,111,111,112,32])) b) from (((Ql.txt (t:=[]) rfl).cat (Ql.txt (t:=[108,111,111,112,32]) rfl)).cat (B.E.q false))) (by lia) rfl fun hb=>Sure.of g_law_bare_flat (show Sure N 9 i_law_long_flat [.tup (.str [108,111,111,112]::[.int 0,.none,.tup (.str [98,108,111,99,107]::rb)])] (.str (flat (.cat (.cat (.txt []) (.txt [108,111,111,112,32])) b))) from Sure.of g_law_long_flat B.lb fun cf h0 π k hk=>e_law_long_flat ⟨PBS (bl hb),(h0 π _ ⟨PBS hb,hk⟩)⟩) fun cf h π k hk=>e_law_bare_flat (h π _ hk))
theorem c_while0 (E:EI N M k kd r l o f) (B:BI N M k rb b) (hM:2*M+9≤32900):EI (N+10) (2*M+9) (k) [119,104,105,108,101] ([.int 0,.none,.tup (.str kd::r),.tup (.str [98,108,111,99,107]::rb)]) 0 true (fun x=>(.cat (.cat (.cat (.cat (.txt []) (.txt [119,104,105,108,101,32])) (par f l o 0 true)) (.txt [32])) b)) where
 hM:=hM
 hk:=E.hk
 kk:=⟨⟨_,_,_,_,rfl,rfl,rfl,rfl,rfl,rfl,rfl⟩,rfl⟩
 q:=fun x=>Ql.fin (show Ql M (k) 2 9 _ (.cat (.cat (.cat (.cat (.txt []) (.txt [119,104,105,108,101,32])) (par f l o 0 true)) (.txt [32])) b) from (((((Ql.txt (t:=[]) rfl).cat (Ql.txt (t:=[119,104,105,108,101,32]) rfl)).cat (Ql.par E.q l o 0 true)).cat (Ql.txt (t:=[32]) rfl)).cat (B.E.q false))) rfl (Nat.le_refl _) (Nat.le_refl _)
 lv:=Ev.sh (j:=10) (Sure.of0 g_level_of fun cf π k hk=>e_level_of hk)
 ll:=Ev.sh (j:=10) (Sure.of0 g_law_level fun cf π k hk=>e_law_level hk)
 wr:=fun x=>Ev.sh (j:=10) (Sure.wr (show Ql M (k) 2 9 _ (.cat (.cat (.cat (.cat (.txt []) (.txt [119,104,105,108,101,32])) (par f l o 0 true)) (.txt [32])) b) from (((((Ql.txt (t:=[]) rfl).cat (Ql.txt (t:=[119,104,105,108,101,32]) rfl)).cat (Ql.par E.q l o 0 true)).cat (Ql.txt (t:=[32]) rfl)).cat (B.E.q false))) (by lia) E.hk fun hb=>Sure.of g_written (show Sure N 9 i_write_block_like [.tup (.str [119,104,105,108,101]::[.int 0,.none,.tup (.str kd::r),.tup (.str [98,108,111,99,107]::rb)])] (.str (pretty (.cat (.cat (.cat (.cat (.txt []) (.txt [119,104,105,108,101,32])) (par f l o 0 true)) (.txt [32])) b))) from Sure.of2 g_write_block_like (wcond E) B.wb fun cf h0 h1 π k hk=>e_write_block_like ⟨PBS (bl (bl (bl hb))),(h0 π _ ⟨PBS (bl (bl hb)),⟨PBS (bl hb),(h1 π _ ⟨PBS hb,hk⟩)⟩⟩)⟩) fun cf h π k hk=>e_written (h π _ hk))
 bf:=fun x=>Ev.sh (j:=10) (Sure.law (b:=(.cat (.cat (.cat (.cat (.txt []) (.txt [119,104,105,108,101,32])) (par f l o 0 true)) (.txt [32])) b)) (show Ql M (k) 2 9 _ (.cat (.cat (.cat (.cat (.txt []) (.txt [119,104,105,108,101,32])) (par f l o 0 true)) (.txt [32])) b) from (((((Ql.txt (t:=[]) rfl).cat (Ql.txt (t:=[119,104,105,108,101,32]) rfl)).cat (Ql.par E.q l o 0 true)).cat (Ql.txt (t:=[32]) rfl)).cat (B.E.q false))) (by lia) rfl fun hb=>Sure.of g_law_bare_flat (show Sure N 9 i_law_long_flat [.tup (.str [119,104,105,108,101]::[.int 0,.none,.tup (.str kd::r),.tup (.str [98,108,111,99,107]::rb)])] (.str (flat (.cat (.cat (.cat (.cat (.txt []) (.txt [119,104,105,108,101,32])) (par f l o 0 true)) (.txt [32])) b))) from Sure.of2 g_law_long_flat (lf E 0 true) B.lb fun cf h0 h1 π k hk=>e_law_long_flat ⟨PBS (bl (bl (bl hb))),(h0 π _ ⟨PBS (bl (bl hb)),⟨PBS (bl hb),(h1 π _ ⟨PBS hb,hk⟩)⟩⟩)⟩) fun cf h π k hk=>e_law_bare_flat (h π _ hk))
theorem c_loop1  (B:BI N M k rb b) (hM:1*M+9≤32900):EI (N+10) (1*M+9) (k) [108,111,111,112] ([.int 0,.str [39,97],.tup (.str [98,108,111,99,107]::rb)]) 0 true (fun x=>(.cat (.cat (.cat (.txt [39,97]) (.txt [58,32])) (.txt [108,111,111,112,32])) b)) where
 hM:=hM
 hk:=B.E.hk
 kk:=⟨⟨_,_,_,_,rfl,rfl,rfl,rfl,rfl,rfl,rfl⟩,rfl⟩
 q:=fun x=>Ql.fin (show Ql M (k) 1 9 _ (.cat (.cat (.cat (.txt [39,97]) (.txt [58,32])) (.txt [108,111,111,112,32])) b) from ((((Ql.txt (t:=[39,97]) rfl).cat (Ql.txt (t:=[58,32]) rfl)).cat (Ql.txt (t:=[108,111,111,112,32]) rfl)).cat (B.E.q false))) rfl (Nat.le_refl _) (Nat.le_refl _)
 lv:=Ev.sh (j:=10) (Sure.of0 g_level_of fun cf π k hk=>e_level_of hk)
 ll:=Ev.sh (j:=10) (Sure.of0 g_law_level fun cf π k hk=>e_law_level hk)
 wr:=fun x=>Ev.sh (j:=10) (Sure.wr (show Ql M (k) 1 9 _ (.cat (.cat (.cat (.txt [39,97]) (.txt [58,32])) (.txt [108,111,111,112,32])) b) from ((((Ql.txt (t:=[39,97]) rfl).cat (Ql.txt (t:=[58,32]) rfl)).cat (Ql.txt (t:=[108,111,111,112,32]) rfl)).cat (B.E.q false))) (by lia) B.E.hk fun hb=>Sure.of g_written (show Sure N 9 i_write_block_like [.tup (.str [108,111,111,112]::[.int 0,.str [39,97],.tup (.str [98,108,111,99,107]::rb)])] (.str (pretty (.cat (.cat (.cat (.txt [39,97]) (.txt [58,32])) (.txt [108,111,111,112,32])) b))) from Sure.of g_write_block_like B.wb fun cf h0 π k hk=>e_write_block_like ⟨PBS (bl (bl hb)),⟨PBS (bl hb),(h0 π _ ⟨PBS hb,hk⟩)⟩⟩) fun cf h π k hk=>e_written (h π _ hk))
 bf:=fun x=>Ev.sh (j:=10) (Sure.law (b:=(.cat (.cat (.cat (.txt [39,97]) (.txt [58,32])) (.txt [108,111,111,112,32])) b)) (show Ql M (k) 1 9 _ (.cat (.cat (.cat (.txt [39,97]) (.txt [58,32])) (.txt [108,111,111,112,32])) b) from ((((Ql.txt (t:=[39,97]) rfl).cat (Ql.txt (t:=[58,32]) rfl)).cat (Ql.txt (t:=[108,111,111,112,32]) rfl)).cat (B.E.q false))) (by lia) rfl fun hb=>Sure.of g_law_bare_flat (show Sure N 9 i_law_long_flat [.tup (.str [108,111,111,112]::[.int 0,.str [39,97],.tup (.str [98,108,111,99,107]::rb)])] (.str (flat (.cat (.cat (.cat (.txt [39,97]) (.txt [58,32])) (.txt [108,111,111,112,32])) b))) from Sure.of g_law_long_flat B.lb fun cf h0 π k hk=>e_law_long_flat ⟨PBS (bl (bl hb)),⟨PBS (bl hb),(h0 π _ ⟨PBS hb,hk⟩)⟩⟩) fun cf h π k hk=>e_law_bare_flat (h π _ hk))
theorem c_while1 (E:EI N M k kd r l o f) (B:BI N M k rb b) (hM:2*M+13≤32900):EI (N+10) (2*M+13) (k) [119,104,105,108,101] ([.int 0,.str [39,97],.tup (.str kd::r),.tup (.str [98,108,111,99,107]::rb)]) 0 true (fun x=>(.cat (.cat (.cat (.cat (.cat (.txt [39,97]) (.txt [58,32])) (.txt [119,104,105,108,101,32])) (par f l o 0 true)) (.txt [32])) b)) where
 hM:=hM
 hk:=E.hk
 kk:=⟨⟨_,_,_,_,rfl,rfl,rfl,rfl,rfl,rfl,rfl⟩,rfl⟩
 q:=fun x=>Ql.fin (show Ql M (k) 2 13 _ (.cat (.cat (.cat (.cat (.cat (.txt [39,97]) (.txt [58,32])) (.txt [119,104,105,108,101,32])) (par f l o 0 true)) (.txt [32])) b) from ((((((Ql.txt (t:=[39,97]) rfl).cat (Ql.txt (t:=[58,32]) rfl)).cat (Ql.txt (t:=[119,104,105,108,101,32]) rfl)).cat (Ql.par E.q l o 0 true)).cat (Ql.txt (t:=[32]) rfl)).cat (B.E.q false))) rfl (Nat.le_refl _) (Nat.le_refl _)
 lv:=Ev.sh (j:=10) (Sure.of0 g_level_of fun cf π k hk=>e_level_of hk)
 ll:=Ev.sh (j:=10) (Sure.of0 g_law_level fun cf π k hk=>e_law_level hk)
 wr:=fun x=>Ev.sh (j:=10) (Sure.wr (show Ql M (k) 2 13 _ (.cat (.cat (.cat (.cat (.cat (.txt [39,97]) (.txt [58,32])) (.txt [119,104,105,108,101,32])) (par f l o 0 true)) (.txt [32])) b) from ((((((Ql.txt (t:=[39,97]) rfl).cat (Ql.txt (t:=[58,32]) rfl)).cat (Ql.txt (t:=[119,104,105,108,101,32]) rfl)).cat (Ql.par E.q l o 0 true)).cat (Ql.txt (t:=[32]) rfl)).cat (B.E.q false))) (by lia) E.hk fun hb=>Sure.of g_written (show Sure N 9 i_write_block_like [.tup (.str [119,104,105,108,101]::[.int 0,.str [39,97],.tup (.str kd::r),.tup (.str [98,108,111,99,107]::rb)])] (.str (pretty (.cat (.cat (.cat (.cat (.cat (.txt [39,97]) (.txt [58,32])) (.txt [119,104,105,108,101,32])) (par f l o 0 true)) (.txt [32])) b))) from Sure.of2 g_write_block_like (wcond E) B.wb fun cf h0 h1 π k hk=>e_write_block_like ⟨PBS (bl (bl (bl (bl hb)))),⟨PBS (bl (bl (bl hb))),(h0 π _ ⟨PBS (bl (bl hb)),⟨PBS (bl hb),(h1 π _ ⟨PBS hb,hk⟩)⟩⟩)⟩⟩) fun cf h π k hk=>e_written (h π _ hk))
 bf:=fun x=>Ev.sh (j:=10) (Sure.law (b:=(.cat (.cat (.cat (.cat (.cat (.txt [39,97]) (.txt [58,32])) (.txt [119,104,105,108,101,32])) (par f l o 0 true)) (.txt [32])) b)) (show Ql M (k) 2 13 _ (.cat (.cat (.cat (.cat (.cat (.txt [39,97]) (.txt [58,32])) (.txt [119,104,105,108,101,32])) (par f l o 0 true)) (.txt [32])) b) from ((((((Ql.txt (t:=[39,97]) rfl).cat (Ql.txt (t:=[58,32]) rfl)).cat (Ql.txt (t:=[119,104,105,108,101,32]) rfl)).cat (Ql.par E.q l o 0 true)).cat (Ql.txt (t:=[32]) rfl)).cat (B.E.q false))) (by lia) rfl fun hb=>Sure.of g_law_bare_flat (show Sure N 9 i_law_long_flat [.tup (.str [119,104,105,108,101]::[.int 0,.str [39,97],.tup (.str kd::r),.tup (.str [98,108,111,99,107]::rb)])] (.str (flat (.cat (.cat (.cat (.cat (.cat (.txt [39,97]) (.txt [58,32])) (.txt [119,104,105,108,101,32])) (par f l o 0 true)) (.txt [32])) b))) from Sure.of2 g_law_long_flat (lf E 0 true) B.lb fun cf h0 h1 π k hk=>e_law_long_flat ⟨PBS (bl (bl (bl (bl hb)))),⟨PBS (bl (bl (bl hb))),(h0 π _ ⟨PBS (bl (bl hb)),⟨PBS (bl hb),(h1 π _ ⟨PBS hb,hk⟩)⟩⟩)⟩⟩) fun cf h π k hk=>e_law_bare_flat (h π _ hk))
theorem c_for0 (E:EI N M k kd r l o f) (E':EI N M k kd' r' l' o' f') (B:BI N M k rb b) (hM:3*M+18≤32900):EI (N+10) (3*M+18) (k) [102,111,114] ([.int 0,.none,pt0,.tup (.str kd::r),.tup (.str kd'::r'),.bool false,.tup (.str [98,108,111,99,107]::rb)]) 0 true (fun x=>(.cat (.cat (.cat (.txt []) (.cat (.cat (.cat (.cat (.cat (.txt [102,111,114,32]) (.txt px0)) (.txt [32,105,110,32])) (par f l o (sd kd 1) true)) (.txt [32,46,46,32])) (par f' l' o' (sd kd' 1) true))) (.txt [32])) b)) where
 hM:=hM
 hk:=E.hk
 kk:=⟨⟨_,_,_,_,rfl,rfl,rfl,rfl,rfl,rfl,rfl⟩,rfl⟩
 q:=fun x=>Ql.fin (show Ql M (k) 3 18 _ (.cat (.cat (.cat (.txt []) (.cat (.cat (.cat (.cat (.cat (.txt [102,111,114,32]) (.txt px0)) (.txt [32,105,110,32])) (par f l o (sd kd 1) true)) (.txt [32,46,46,32])) (par f' l' o' (sd kd' 1) true))) (.txt [32])) b) from ((((Ql.txt (t:=[]) rfl).cat ((((((Ql.txt (t:=[102,111,114,32]) rfl).cat (Ql.txt (t:=px0) rfl)).cat (Ql.txt (t:=[32,105,110,32]) rfl)).cat (Ql.par E.q l o (sd kd 1) true)).cat (Ql.txt (t:=[32,46,46,32]) rfl)).cat (Ql.par E'.q l' o' (sd kd' 1) true))).cat (Ql.txt (t:=[32]) rfl)).cat (B.E.q false))) rfl (Nat.le_refl _) (Nat.le_refl _)
 lv:=Ev.sh (j:=10) (Sure.of0 g_level_of fun cf π k hk=>e_level_of hk)
 ll:=Ev.sh (j:=10) (Sure.of0 g_law_level fun cf π k hk=>e_law_level hk)
 wr:=fun x=>Ev.sh (j:=10) (Sure.wr (show Ql M (k) 3 18 _ (.cat (.cat (.cat (.txt []) (.cat (.cat (.cat (.cat (.cat (.txt [102,111,114,32]) (.txt px0)) (.txt [32,105,110,32])) (par f l o (sd kd 1) true)) (.txt [32,46,46,32])) (par f' l' o' (sd kd' 1) true))) (.txt [32])) b) from ((((Ql.txt (t:=[]) rfl).cat ((((((Ql.txt (t:=[102,111,114,32]) rfl).cat (Ql.txt (t:=px0) rfl)).cat (Ql.txt (t:=[32,105,110,32]) rfl)).cat (Ql.par E.q l o (sd kd 1) true)).cat (Ql.txt (t:=[32,46,46,32]) rfl)).cat (Ql.par E'.q l' o' (sd kd' 1) true))).cat (Ql.txt (t:=[32]) rfl)).cat (B.E.q false))) (by lia) E.hk fun hb=>Sure.of g_written (show Sure N 9 i_write_block_like [.tup (.str [102,111,114]::[.int 0,.none,pt0,.tup (.str kd::r),.tup (.str kd'::r'),.bool false,.tup (.str [98,108,111,99,107]::rb)])] (.str (pretty (.cat (.cat (.cat (.txt []) (.cat (.cat (.cat (.cat (.cat (.txt [102,111,114,32]) (.txt px0)) (.txt [32,105,110,32])) (par f l o (sd kd 1) true)) (.txt [32,46,46,32])) (par f' l' o' (sd kd' 1) true))) (.txt [32])) b))) from Sure.of4 g_write_block_like (wbound E) (wbound E') sp_pat0 B.wb fun cf h0 h1 h2 h3 π k hk=>e_write_block_like (h0 π _ (h1 π _ (h2 π _ ⟨PBS (bl (bl (bl (bl (br (bl (bl hb))))))),⟨PBS (bl (bl (bl (br (bl (bl hb)))))),⟨PBS (bl (bl (br (bl (bl hb))))),⟨PBS (bl (br (bl (bl hb)))),⟨PBS (br (bl (bl hb))),⟨PBS (bl (bl hb)),⟨PBS (bl hb),(h3 π _ ⟨PBS hb,hk⟩)⟩⟩⟩⟩⟩⟩⟩)))) fun cf h π k hk=>e_written (h π _ hk))
 bf:=fun x=>Ev.sh (j:=10) (Sure.law (b:=(.cat (.cat (.cat (.cat (.cat (.txt [102,111,114,32,120,32,105,110,32]) (par f l o (sd kd 1) true)) (.txt [32,46,46,32])) (par f' l' o' (sd kd' 1) true)) (.txt [32])) b)) (show Ql M (k) 3 18 _ (.cat (.cat (.cat (.txt []) (.cat (.cat (.cat (.cat (.cat (.txt [102,111,114,32]) (.txt px0)) (.txt [32,105,110,32])) (par f l o (sd kd 1) true)) (.txt [32,46,46,32])) (par f' l' o' (sd kd' 1) true))) (.txt [32])) b) from ((((Ql.txt (t:=[]) rfl).cat ((((((Ql.txt (t:=[102,111,114,32]) rfl).cat (Ql.txt (t:=px0) rfl)).cat (Ql.txt (t:=[32,105,110,32]) rfl)).cat (Ql.par E.q l o (sd kd 1) true)).cat (Ql.txt (t:=[32,46,46,32]) rfl)).cat (Ql.par E'.q l' o' (sd kd' 1) true))).cat (Ql.txt (t:=[32]) rfl)).cat (B.E.q false))) (by lia) rfl fun hb=>Sure.of g_law_bare_flat (show Sure N 9 i_law_long_flat [.tup (.str [102,111,114]::[.int 0,.none,pt0,.tup (.str kd::r),.tup (.str kd'::r'),.bool false,.tup (.str [98,108,111,99,107]::rb)])] (.str (flat (.cat (.cat (.cat (.cat (.cat (.txt [102,111,114,32,120,32,105,110,32]) (par f l o (sd kd 1) true)) (.txt [32,46,46,32])) (par f' l' o' (sd kd' 1) true)) (.txt [32])) b))) from Sure.of3 g_law_long_flat (ls E 1 true) (ls E' 1 true) B.lb fun cf h0 h1 h2 π k hk=>e_law_long_flat (h0 π _ ⟨PBS (bl (bl (bl (bl hb)))),⟨PBS (bl (bl (bl hb))),(h1 π _ ⟨PBS (bl (bl hb)),⟨PBS (bl hb),(h2 π _ ⟨PBS hb,hk⟩)⟩⟩)⟩⟩)) fun cf h π k hk=>e_law_bare_flat (h π _ hk))
theorem c_for1 (E:EI N M k kd r l o f) (E':EI N M k kd' r' l' o' f') (B:BI N M k rb b) (hM:3*M+19≤32900):EI (N+10) (3*M+19) (k) [102,111,114] ([.int 0,.none,pt0,.tup (.str kd::r),.tup (.str kd'::r'),.bool true,.tup (.str [98,108,111,99,107]::rb)]) 0 true (fun x=>(.cat (.cat (.cat (.txt []) (.cat (.cat (.cat (.cat (.cat (.txt [102,111,114,32]) (.txt px0)) (.txt [32,105,110,32])) (par f l o (sd kd 1) true)) (.txt [32,46,46,61,32])) (par f' l' o' (sd kd' 1) true))) (.txt [32])) b)) where
 hM:=hM
 hk:=E.hk
 kk:=⟨⟨_,_,_,_,rfl,rfl,rfl,rfl,rfl,rfl,rfl⟩,rfl⟩
 q:=fun x=>Ql.fin (show Ql M (k) 3 19 _ (.cat (.cat (.cat (.txt []) (.cat (.cat (.cat (.cat (.cat (.txt [102,111,114,32]) (.txt px0)) (.txt [32,105,110,32])) (par f l o (sd kd 1) true)) (.txt [32,46,46,61,32])) (par f' l' o' (sd kd' 1) true))) (.txt [32])) b) from ((((Ql.txt (t:=[]) rfl).cat ((((((Ql.txt (t:=[102,111,114,32]) rfl).cat (Ql.txt (t:=px0) rfl)).cat (Ql.txt (t:=[32,105,110,32]) rfl)).cat (Ql.par E.q l o (sd kd 1) true)).cat (Ql.txt (t:=[32,46,46,61,32]) rfl)).cat (Ql.par E'.q l' o' (sd kd' 1) true))).cat (Ql.txt (t:=[32]) rfl)).cat (B.E.q false))) rfl (Nat.le_refl _) (Nat.le_refl _)
 lv:=Ev.sh (j:=10) (Sure.of0 g_level_of fun cf π k hk=>e_level_of hk)
 ll:=Ev.sh (j:=10) (Sure.of0 g_law_level fun cf π k hk=>e_law_level hk)
 wr:=fun x=>Ev.sh (j:=10) (Sure.wr (show Ql M (k) 3 19 _ (.cat (.cat (.cat (.txt []) (.cat (.cat (.cat (.cat (.cat (.txt [102,111,114,32]) (.txt px0)) (.txt [32,105,110,32])) (par f l o (sd kd 1) true)) (.txt [32,46,46,61,32])) (par f' l' o' (sd kd' 1) true))) (.txt [32])) b) from ((((Ql.txt (t:=[]) rfl).cat ((((((Ql.txt (t:=[102,111,114,32]) rfl).cat (Ql.txt (t:=px0) rfl)).cat (Ql.txt (t:=[32,105,110,32]) rfl)).cat (Ql.par E.q l o (sd kd 1) true)).cat (Ql.txt (t:=[32,46,46,61,32]) rfl)).cat (Ql.par E'.q l' o' (sd kd' 1) true))).cat (Ql.txt (t:=[32]) rfl)).cat (B.E.q false))) (by lia) E.hk fun hb=>Sure.of g_written (show Sure N 9 i_write_block_like [.tup (.str [102,111,114]::[.int 0,.none,pt0,.tup (.str kd::r),.tup (.str kd'::r'),.bool true,.tup (.str [98,108,111,99,107]::rb)])] (.str (pretty (.cat (.cat (.cat (.txt []) (.cat (.cat (.cat (.cat (.cat (.txt [102,111,114,32]) (.txt px0)) (.txt [32,105,110,32])) (par f l o (sd kd 1) true)) (.txt [32,46,46,61,32])) (par f' l' o' (sd kd' 1) true))) (.txt [32])) b))) from Sure.of4 g_write_block_like (wbound E) (wbound E') sp_pat0 B.wb fun cf h0 h1 h2 h3 π k hk=>e_write_block_like (h0 π _ (h1 π _ (h2 π _ ⟨PBS (bl (bl (bl (bl (br (bl (bl hb))))))),⟨PBS (bl (bl (bl (br (bl (bl hb)))))),⟨PBS (bl (bl (br (bl (bl hb))))),⟨PBS (bl (br (bl (bl hb)))),⟨PBS (br (bl (bl hb))),⟨PBS (bl (bl hb)),⟨PBS (bl hb),(h3 π _ ⟨PBS hb,hk⟩)⟩⟩⟩⟩⟩⟩⟩)))) fun cf h π k hk=>e_written (h π _ hk))
 bf:=fun x=>Ev.sh (j:=10) (Sure.law (b:=(.cat (.cat (.cat (.cat (.cat (.txt [102,111,114,32,120,32,105,110,32]) (par f l o (sd kd 1) true)) (.txt [32,46,46,61,32])) (par f' l' o' (sd kd' 1) true)) (.txt [32])) b)) (show Ql M (k) 3 19 _ (.cat (.cat (.cat (.txt []) (.cat (.cat (.cat (.cat (.cat (.txt [102,111,114,32]) (.txt px0)) (.txt [32,105,110,32])) (par f l o (sd kd 1) true)) (.txt [32,46,46,61,32])) (par f' l' o' (sd kd' 1) true))) (.txt [32])) b) from ((((Ql.txt (t:=[]) rfl).cat ((((((Ql.txt (t:=[102,111,114,32]) rfl).cat (Ql.txt (t:=px0) rfl)).cat (Ql.txt (t:=[32,105,110,32]) rfl)).cat (Ql.par E.q l o (sd kd 1) true)).cat (Ql.txt (t:=[32,46,46,61,32]) rfl)).cat (Ql.par E'.q l' o' (sd kd' 1) true))).cat (Ql.txt (t:=[32]) rfl)).cat (B.E.q false))) (by lia) rfl fun hb=>Sure.of g_law_bare_flat (show Sure N 9 i_law_long_flat [.tup (.str [102,111,114]::[.int 0,.none,pt0,.tup (.str kd::r),.tup (.str kd'::r'),.bool true,.tup (.str [98,108,111,99,107]::rb)])] (.str (flat (.cat (.cat (.cat (.cat (.cat (.txt [102,111,114,32,120,32,105,110,32]) (par f l o (sd kd 1) true)) (.txt [32,46,46,61,32])) (par f' l' o' (sd kd' 1) true)) (.txt [32])) b))) from Sure.of3 g_law_long_flat (ls E 1 true) (ls E' 1 true) B.lb fun cf h0 h1 h2 π k hk=>e_law_long_flat (h0 π _ ⟨PBS (bl (bl (bl (bl hb)))),⟨PBS (bl (bl (bl hb))),(h1 π _ ⟨PBS (bl (bl hb)),⟨PBS (bl hb),(h2 π _ ⟨PBS hb,hk⟩)⟩⟩)⟩⟩)) fun cf h π k hk=>e_law_bare_flat (h π _ hk))
theorem c_match (E:EI N M k kd r l o f) (E':EI N M k kd' r' l' o' f') (B:BI N M k rb b){pd:D}{pt:T}(P:PI pd pt) (hM:4*M+46≤32900) (hk:k+1≤8):EI (N+10) (4*M+46) (k+1) [109,97,116,99,104] ([.int 0,.tup (.str kd::r),.tup [.tup [pd,.none,.tup (.str kd'::r')],.tup [pt2,.tup (.str kd'::r'),.tup (.str [98,108,111,99,107]::rb)]]]) 0 true (fun x=>(.cat (.cat (.cat (.txt [109,97,116,99,104,32]) (par f l o 0 true)) (.txt [32])) (.br (.cons (.cat (.cat (.cat (.cat (.txt pt) (.txt [])) (.txt [32,61,62,32])) (f' false)) (.txt [44])) (.cons (.cat (.cat (.cat (.cat (.txt px2) (.cat (.txt [32,105,102,32]) (f' false))) (.txt [32,61,62,32])) b) (.txt [44])) .nil))))) where
 hM:=hM
 hk:=hk
 kk:=⟨⟨_,_,_,_,rfl,rfl,rfl,rfl,rfl,rfl,rfl⟩,rfl⟩
 q:=fun x=>Ql.fin (show Ql M (k+1) 4 46 _ (.cat (.cat (.cat (.txt [109,97,116,99,104,32]) (par f l o 0 true)) (.txt [32])) (.br (.cons (.cat (.cat (.cat (.cat (.txt pt) (.txt [])) (.txt [32,61,62,32])) (f' false)) (.txt [44])) (.cons (.cat (.cat (.cat (.cat (.txt px2) (.cat (.txt [32,105,102,32]) (f' false))) (.txt [32,61,62,32])) b) (.txt [44])) .nil)))) from ((((Ql.txt (t:=[109,97,116,99,104,32]) rfl).cat (Ql.par E.q l o 0 true).up).cat (Ql.txt (t:=[32]) rfl)).cat (Ql.br (Qls.cons (Ql.gd (((((Ql.var P.ok P.at' P.ln).cat (Ql.txt (t:=[]) rfl)).cat (Ql.txt (t:=[32,61,62,32]) rfl)).cat (E'.q false)).cat (Ql.txt (t:=[44]) rfl)) rfl) (Qls.cons (Ql.gd (((((Ql.txt (t:=px2) rfl).cat ((Ql.txt (t:=[32,105,102,32]) rfl).cat (E'.q false))).cat (Ql.txt (t:=[32,61,62,32]) rfl)).cat (B.E.q false)).cat (Ql.txt (t:=[44]) rfl)) rfl) Qls.nil))))) rfl (Nat.le_refl _) (Nat.le_refl _)
 lv:=Ev.sh (j:=10) (Sure.of0 g_level_of fun cf π k hk=>e_level_of hk)
 ll:=Ev.sh (j:=10) (Sure.of0 g_law_level fun cf π k hk=>e_law_level hk)
 wr:=fun x=>Ev.sh (j:=10) (Sure.wr (show Ql M (k+1) 4 46 _ (.cat (.cat (.cat (.txt [109,97,116,99,104,32]) (par f l o 0 true)) (.txt [32])) (.br (.cons (.cat (.cat (.cat (.cat (.txt pt) (.txt [])) (.txt [32,61,62,32])) (f' false)) (.txt [44])) (.cons (.cat (.cat (.cat (.cat (.txt px2) (.cat (.txt [32,105,102,32]) (f' false))) (.txt [32,61,62,32])) b) (.txt [44])) .nil)))) from ((((Ql.txt (t:=[109,97,116,99,104,32]) rfl).cat (Ql.par E.q l o 0 true).up).cat (Ql.txt (t:=[32]) rfl)).cat (Ql.br (Qls.cons (Ql.gd (((((Ql.var P.ok P.at' P.ln).cat (Ql.txt (t:=[]) rfl)).cat (Ql.txt (t:=[32,61,62,32]) rfl)).cat (E'.q false)).cat (Ql.txt (t:=[44]) rfl)) rfl) (Qls.cons (Ql.gd (((((Ql.txt (t:=px2) rfl).cat ((Ql.txt (t:=[32,105,102,32]) rfl).cat (E'.q false))).cat (Ql.txt (t:=[32,61,62,32]) rfl)).cat (B.E.q false)).cat (Ql.txt (t:=[44]) rfl)) rfl) Qls.nil))))) (by lia) hk fun hb=>have ha1:(pretty (.cat (.cat (.cat (.cat (.txt pt) (.txt [])) (.txt [32,61,62,32])) (f' false)) (.txt [44]))).length≤PB:=(show Ql M k 1 21 _ (.cat (.cat (.cat (.cat (.txt pt) (.txt [])) (.txt [32,61,62,32])) (f' false)) (.txt [44])) from (((((Ql.var P.ok P.at' P.ln).cat (Ql.txt (t:=[]) rfl)).cat (Ql.txt (t:=[32,61,62,32]) rfl)).cat (E'.q false)).cat (Ql.txt (t:=[44]) rfl))).pl (by lia) E.hk;have ha2:(pretty (.cat (.cat (.cat (.cat (.txt px2) (.cat (.txt [32,105,102,32]) (f' false))) (.txt [32,61,62,32])) b) (.txt [44]))).length≤PB:=(show Ql M k 2 10 _ (.cat (.cat (.cat (.cat (.txt px2) (.cat (.txt [32,105,102,32]) (f' false))) (.txt [32,61,62,32])) b) (.txt [44])) from (((((Ql.txt (t:=px2) rfl).cat ((Ql.txt (t:=[32,105,102,32]) rfl).cat (E'.q false))).cat (Ql.txt (t:=[32,61,62,32]) rfl)).cat (B.E.q false)).cat (Ql.txt (t:=[44]) rfl))).pl (by lia) E.hk;Sure.of g_written (show Sure N 9 i_write_block_like [.tup (.str [109,97,116,99,104]::[.int 0,.tup (.str kd::r),.tup [.tup [pd,.none,.tup (.str kd'::r')],.tup [pt2,.tup (.str kd'::r'),.tup (.str [98,108,111,99,107]::rb)]]])] (.str (pretty (.cat (.cat (.cat (.txt [109,97,116,99,104,32]) (par f l o 0 true)) (.txt [32])) (.br (.cons (.cat (.cat (.cat (.cat (.txt pt) (.txt [])) (.txt [32,61,62,32])) (f' false)) (.txt [44])) (.cons (.cat (.cat (.cat (.cat (.txt px2) (.cat (.txt [32,105,102,32]) (f' false))) (.txt [32,61,62,32])) b) (.txt [44])) .nil)))))) from Sure.of g_write_block_like (show Sure N 8 i_write_match [.tup (.str [109,97,116,99,104]::[.int 0,.tup (.str kd::r),.tup [.tup [pd,.none,.tup (.str kd'::r')],.tup [pt2,.tup (.str kd'::r'),.tup (.str [98,108,111,99,107]::rb)]]])] (.str (pretty (.cat (.cat (.cat (.txt [109,97,116,99,104,32]) (par f l o 0 true)) (.txt [32])) (.br (.cons (.cat (.cat (.cat (.cat (.txt pt) (.txt [])) (.txt [32,61,62,32])) (f' false)) (.txt [44])) (.cons (.cat (.cat (.cat (.cat (.txt px2) (.cat (.txt [32,105,102,32]) (f' false))) (.txt [32,61,62,32])) b) (.txt [44])) .nil)))))) from Sure.of6 g_write_match P.sw (we1 E') sp_pat2 (we1 B.E) (wcond E) (wrows (.cons (.cat (.cat (.cat (.cat (.txt pt) (.txt [])) (.txt [32,61,62,32])) (f' false)) (.txt [44])) (.cons (.cat (.cat (.cat (.cat (.txt px2) (.cat (.txt [32,105,102,32]) (f' false))) (.txt [32,61,62,32])) b) (.txt [44])) .nil)) (br hb)) fun cf h0 h1 h2 h3 h4 h5 π k hk=>e_write_match (h0 π _ ⟨PBS (bl (bl (bl ha1))),⟨PBS (bl (bl ha1)),(h1 π _ ⟨PBS (bl ha1),⟨PBS ha1,(h2 π _ (h1 π _ ⟨PBS (br (bl (bl (bl ha2)))),⟨PBS (bl (bl (bl ha2))),⟨PBS (bl (bl ha2)),(h3 π _ ⟨PBS (bl ha2),⟨PBS ha2,(h4 π _ ⟨PBS (bl (bl hb)),⟨PBS (bl hb),(h5 π _ ⟨PBS hb,hk⟩)⟩⟩)⟩⟩)⟩⟩⟩))⟩⟩)⟩⟩)) fun cf h π k hk=>e_write_block_like (h π _ hk)) fun cf h π k hk=>e_written (h π _ hk))
 bf:=fun x=>Ev.sh (j:=10) (Sure.law (b:=(.cat (.cat (.cat (.cat (.txt [109,97,116,99,104,32]) (par f l o 0 true)) (.txt [32,123,32])) (.cat (.cat (.cat (.cat (.cat (.cat (.txt pt) (.txt [])) (.txt [32,61,62,32])) (f' false)) (.txt [44])) (.txt [32])) (.cat (.cat (.cat (.cat (.txt px2) (.cat (.txt [32,105,102,32]) (f' false))) (.txt [32,61,62,32])) b) (.txt [44])))) (.txt [32,125]))) (show Ql M (k+1) 4 46 _ (.cat (.cat (.cat (.txt [109,97,116,99,104,32]) (par f l o 0 true)) (.txt [32])) (.br (.cons (.cat (.cat (.cat (.cat (.txt pt) (.txt [])) (.txt [32,61,62,32])) (f' false)) (.txt [44])) (.cons (.cat (.cat (.cat (.cat (.txt px2) (.cat (.txt [32,105,102,32]) (f' false))) (.txt [32,61,62,32])) b) (.txt [44])) .nil)))) from ((((Ql.txt (t:=[109,97,116,99,104,32]) rfl).cat (Ql.par E.q l o 0 true).up).cat (Ql.txt (t:=[32]) rfl)).cat (Ql.br (Qls.cons (Ql.gd (((((Ql.var P.ok P.at' P.ln).cat (Ql.txt (t:=[]) rfl)).cat (Ql.txt (t:=[32,61,62,32]) rfl)).cat (E'.q false)).cat (Ql.txt (t:=[44]) rfl)) rfl) (Qls.cons (Ql.gd (((((Ql.txt (t:=px2) rfl).cat ((Ql.txt (t:=[32,105,102,32]) rfl).cat (E'.q false))).cat (Ql.txt (t:=[32,61,62,32]) rfl)).cat (B.E.q false)).cat (Ql.txt (t:=[44]) rfl)) rfl) Qls.nil))))) (by lia) rfl fun hb=>Sure.of g_law_bare_flat (show Sure N 9 i_law_long_flat [.tup (.str [109,97,116,99,104]::[.int 0,.tup (.str kd::r),.tup [.tup [pd,.none,.tup (.str kd'::r')],.tup [pt2,.tup (.str kd'::r'),.tup (.str [98,108,111,99,107]::rb)]]])] (.str (flat (.cat (.cat (.cat (.cat (.txt [109,97,116,99,104,32]) (par f l o 0 true)) (.txt [32,123,32])) (.cat (.cat (.cat (.cat (.cat (.cat (.txt pt) (.txt [])) (.txt [32,61,62,32])) (f' false)) (.txt [44])) (.txt [32])) (.cat (.cat (.cat (.cat (.txt px2) (.cat (.txt [32,105,102,32]) (f' false))) (.txt [32,61,62,32])) b) (.txt [44])))) (.txt [32,125])))) from Sure.of5 g_law_long_flat P.sl (lf0 E') pf2 (lf0 B.E) (lf E 0 true) fun cf h0 h1 h2 h3 h4 π k hk=>e_law_long_flat (h0 π _ ⟨PBS (bl (bl (bl (bl (bl (br (bl hb))))))),⟨PBS (bl (bl (bl (bl (br (bl hb)))))),(h1 π _ ⟨PBS (bl (bl (bl (br (bl hb))))),⟨PBS (bl (bl (br (bl hb)))),(h2 π _ (h1 π _ ⟨PBS (br (bl (bl (bl (br (br (bl hb))))))),⟨PBS (bl (bl (bl (br (br (bl hb)))))),⟨PBS (bl (bl (br (br (bl hb))))),(h3 π _ ⟨PBS (bl (br (br (bl hb)))),⟨PBS (br (br (bl hb))),(h4 π _ ⟨PBS (bl (bl (bl hb))),⟨PBS (bl (bl hb)),⟨jok2 (bl (bl (br (bl hb)))) (br (br (bl hb))) rfl,⟨PBS (bl hb),⟨PBS hb,hk⟩⟩⟩⟩⟩)⟩⟩)⟩⟩⟩))⟩⟩)⟩⟩)) fun cf h π k hk=>e_law_bare_flat (h π _ hk))
end
end
section
open PySem PySem.W
noncomputable def Pok (π:Pi):Prop:=0≤π.2∧π.2 < 2147483647
noncomputable def Gen (cf:Or) (f:Nat) (ds:List D) (P:D→Prop):Prop:=∀ π k,Pok π→(∀ d π',Pok π'→P d→k d π')→cf (.fn f) ds π k
noncomputable abbrev GenS (j:Nat) (f:Nat) (ds:List D) (P:D→Prop):Prop:=Ev 0 j fun cf=>Gen cf f ds P
theorem Ev.of {j f:Nat}{fn:Fn}(g:getF FN f=some fn){P:Or→Prop}{α:Type}{ds:α→List D}{Q:α→D→Prop}{A:α→Prop}(p:Ev 0 j P)
  (h:∀ cf,P cf→∀ a,A a→∀ π k,Pok π→(∀ d π',Pok π'→Q a d→k d π')→Bx fn cf (ds a) π k):Ev 0 (j+1) fun cf=>∀ a,A a→Gen cf f (ds a) (Q a):=by
 intro K hK a ha π k hπ hk
 obtain ⟨K,rfl⟩:∃ n,K=n+1:=⟨K - 1,by lia⟩
 exact ret_fn g K _ π k (h _ (p K (by lia)) a ha π k hπ hk)
theorem GenS.of {j f:Nat}{fn:Fn}(g:getF FN f=some fn){P:Or→Prop}{ds:List D}{Q:D→Prop}(p:Ev 0 j P)
  (h:∀ cf,P cf→∀ π k,Pok π→(∀ d π',Pok π'→Q d→k d π')→Bx fn cf ds π k):GenS (j+1) f ds Q:=by
 have:=Ev.of g (α:=Unit) (ds:=fun _=>ds) (Q:=fun _=>Q) (A:=fun _=>True) p fun cf hp a _=>h cf hp
 exact fun K hK=>this K hK () trivial
theorem Ev.sure {j f:Nat}{fn:Fn}(g:getF FN f=some fn){P:Or→Prop}{α:Type}{ds:α→List D}{r:α→D}{A:α→Prop}(p:Ev 0 j P)
  (h:∀ cf,P cf→∀ a,A a→∀ π k,k (r a) π→Bx fn cf (ds a) π k):Ev 0 (j+1) fun cf=>∀ a,A a→Says cf f (ds a) (r a):=by
 intro K hK a ha π k hk
 obtain ⟨K,rfl⟩:∃ n,K=n+1:=⟨K - 1,by lia⟩
 exact ret_fn g K _ π k (h _ (p K (by lia)) a ha π k hk)
noncomputable def Tk (t:Nat) (d:D):Prop:=∃ n:Nat,n < t∧d=.int (Int.ofNat n)
noncomputable def TakeOk (cf:Or):Prop:=∀ t:Nat,(0 < t∧t≤1000)→Gen cf i_law_take [.pool,.int (Int.ofNat t)] (Tk t)
theorem tk_of {x:Int}{t:Nat}(h:0 < t):Tk t (.int (x % Int.ofNat t)):=by
 have h1:(0:Int) < Int.ofNat t:=Int.ofNat_lt.mpr h
 have a:=Int.emod_nonneg x (Int.ne_of_gt h1)
 have b:=Int.emod_lt_of_pos x h1
 refine ⟨(x % Int.ofNat t).toNat,?_,?_⟩
 ·have e:((x % Int.ofNat t).toNat:Int)=x % Int.ofNat t:=Int.toNat_of_nonneg a
  have c:Int.ofNat t=(t:Int):=rfl
  lia
 ·have e:((x % Int.ofNat t).toNat:Int)=x % Int.ofNat t:=Int.toNat_of_nonneg a
  exact congrArg D.int e.symm
theorem take_ev:Ev 0 1 TakeOk:=Ev.of g_law_take (ds:=fun t:Nat=>[.pool,.int (Int.ofNat t)]) (Q:=Tk) (A:=fun t=>0 < t∧t≤1000) (Ev.all (P:=fun _=>True) fun _=>trivial) fun cf _ t ht π k hπ hk=>e_law_take (by
 have h1:(0:Int) < Int.ofNat t:=Int.ofNat_lt.mpr ht.1
 have h2:Int.ofNat t≤4294967296:=by have c:Int.ofNat t=(t:Int):=rfl;lia
 obtain ⟨h3,h4⟩:=hπ
 by_cases hp:π.1 > 0
 ·have d:decide (π.1 > 0)=true:=decide_eq_true hp
  exact iteT d ⟨h1,⟨⟨h1,h2⟩,⟨trivial,hk _ _ ⟨h3,h4⟩ (tk_of ht.1)⟩⟩⟩
 ·have d:decide (π.1 > 0)=false:=decide_eq_false hp
  have e:0≤(π.2*39373+7) % 2147483647∧(π.2*39373+7) % 2147483647 < 2147483647:=⟨Int.emod_nonneg _ (by decide),Int.emod_lt_of_pos _ (by decide)⟩
  exact iteF d ⟨⟨by lia,by lia⟩,⟨by decide,⟨trivial,⟨⟨by have:=e.1;exact Int.le_trans (by decide) this,by exact Int.le_of_lt (Int.lt_trans e.2 (by decide))⟩,⟨by decide,⟨by decide,⟨h1,hk _ _ e (tk_of ht.1)⟩⟩⟩⟩⟩⟩⟩)
noncomputable def AllL (P:D→Prop):List D→Prop
 | []=>True
 | d::l=>P d∧AllL P l
theorem AllL.get {P:D→Prop}:∀ {l:List D}{n:Nat}{d:D},AllL P l→l[n]?=some d→P d
 | _::_,0,d,h,e=>by cases e;exact h.1
 | _::_,n+1,d,h,e=>AllL.get h.2 e
noncomputable def OneOk (cf:Or):Prop:=∀ L:List D,(0 < L.length∧L.length≤1000)→∀ P:D→Prop,AllL P L→Gen cf i_law_one [.pool,.lst L] P
theorem one_ev:Ev 0 2 OneOk:=by
 have:=Ev.of g_law_one (α:=List D×(D→Prop)) (ds:=fun a=>[.pool,.lst a.1]) (Q:=fun a=>a.2) (A:=fun a=>(0 < a.1.length∧a.1.length≤1000)∧AllL a.2 a.1) take_ev fun cf ht a ha π k hπ hk=>e_law_one (chkL_iff.mpr ⟨by have e:strBound=4000000:=rfl;lia,ht a.1.length ha.1 π _ hπ fun d π' hp hd=>by
  obtain ⟨n,hn,rfl⟩:=hd
  have hs:small (Int.ofNat n)=true:=by show Nat.ble n 1000=true;rw [Nat.ble_eq];lia
  obtain ⟨d,hd⟩:∃ d,a.1[n]?=some d:=⟨_,List.getElem?_eq_getElem hn⟩
  refine chk_iff.mpr ⟨hs,?_⟩
  exact onD_of hd (hk _ _ hp (ha.2.get hd))⟩)
 exact fun K hK L hL P hP=>this K hK (L,P) ⟨hL,hP⟩
noncomputable def PathOk (cf:Or):Prop:=∀ n:T,Says cf i_law_path [.str n] (pathD n)
theorem path_ev:Ev 0 1 PathOk:=by
 have:=Ev.sure (j:=0) g_law_path (ds:=fun n:T=>[.str n]) (r:=fun n=>pathD n) (A:=fun _=>True) (Ev.all (P:=fun _=>True) fun _=>trivial) fun cf _ n _ π k hk=>e_law_path hk
 exact fun K hK n=>this K hK n trivial
noncomputable def TX (d:D):Prop:=∃ td ty,d=.tup td∧TI td ty
noncomputable def PX (d:D):Prop:=∃ pd pt,d=.tup [pd,.str pt]∧PI pd pt
theorem type_ev:GenS 3 i_law_type [.pool] TX:=GenS.of g_law_type ((path_ev.up rfl).and one_ev) fun cf h π k hπ hk=>e_law_type
 (h.1 _ π _ (h.1 _ π _ (h.1 _ π _ (h.1 _ π _ (h.1 _ π _ (by refine h.2 _ ⟨Nat.le_of_ble_eq_true rfl,Nat.le_of_ble_eq_true rfl⟩ TX ?_ π _ hπ hk;exact ⟨⟨_,_,rfl,ti_u8⟩,⟨_,_,rfl,ti_ref⟩,⟨_,_,rfl,ti_tup⟩,⟨_,_,rfl,ti_arr⟩,⟨_,_,rfl,ti_tA⟩,trivial⟩))))))
theorem pattern_ev:GenS 3 i_law_pattern [.pool] PX:=GenS.of g_law_pattern one_ev fun cf h π k hπ hk=>e_law_pattern
 (by refine h _ ⟨Nat.le_of_ble_eq_true rfl,Nat.le_of_ble_eq_true rfl⟩ PX ?_ π _ hπ hk;exact ⟨⟨pt0,_,rfl,pi_0⟩,⟨pt1,_,rfl,pi_1⟩,⟨pt2,_,rfl,pi_2⟩,⟨pt3,_,rfl,pi_3⟩,⟨pt4,_,rfl,pi_4⟩,⟨pt5,_,rfl,pi_5⟩,⟨pt6,_,rfl,pi_6⟩,⟨pt7,_,rfl,pi_7⟩,⟨pt8,_,rfl,pi_8⟩,trivial⟩)
noncomputable def EX (N M k:Nat) (d:D):Prop:=∃ kd r l o f,d=.tup (.str kd::r)∧EI N M k kd r l o f
noncomputable def BX (N M k:Nat) (d:D):Prop:=∃ r b,d=.tup (.str [98,108,111,99,107]::r)∧BI N M k r b
noncomputable def RX (N M k:Nat) (d:D):Prop:=∃ g,RI N M k d g
theorem EX.of {N M k N' M' k':Nat}{kd:T}{r:List D}{l:Int}{o:Bool}{f:Bool→Dc}(E:EI N M k kd r l o f) (hN:N≤N') (h:M≤M') (h1:M'≤32900) (h2:k≤k') (h3:k'≤8):EX N' M' k' (.tup (.str kd::r)):=
 ⟨kd,r,l,o,f,rfl,E.wk hN h h1 h2 h3⟩
theorem leaf_ev:GenS 3 i_law_leaf [.pool] (EX 10 10 0):=GenS.of g_law_leaf ((path_ev.up rfl).and one_ev) fun cf h π k hπ hk=>e_law_leaf
 (h.1 _ π _ (h.1 _ π _ (h.1 _ π _ (by refine h.2 _ ⟨Nat.le_of_ble_eq_true rfl,Nat.le_of_ble_eq_true rfl⟩ (EX 10 10 0) ?_ π _ hπ hk;exact ⟨
  EX.of (c_int7 (N:=0) (M:=0) (k:=0) (by decide) (by decide)) (by decide) (by decide) (by decide) (by decide) (by decide),
  EX.of (c_int0 (N:=0) (M:=0) (k:=0) (by decide) (by decide)) (by decide) (by decide) (by decide) (by decide) (by decide),
  EX.of (c_bool (N:=0) (M:=0) (k:=0) (by decide) (by decide)) (by decide) (by decide) (by decide) (by decide) (by decide),
  EX.of (c_path_a (N:=0) (M:=0) (k:=0) (by decide) (by decide)) (by decide) (by decide) (by decide) (by decide) (by decide),
  EX.of (c_path_b (N:=0) (M:=0) (k:=0) (by decide) (by decide)) (by decide) (by decide) (by decide) (by decide) (by decide),
  EX.of (c_pathF (N:=0) (M:=0) (k:=0) (by decide) (by decide)) (by decide) (by decide) (by decide) (by decide) (by decide),trivial⟩))))
theorem expr0_ev:GenS 4 i_law_expr [.pool,.int 0] (EX 10 10 0):=GenS.of g_law_expr leaf_ev fun cf h π k hπ hk=>e_law_expr (h π _ hπ hk)
end
section
open PySem PySem.W
theorem EX.wk {N M k N' M' k':Nat}{d:D}(h:EX N M k d) (hN:N≤N') (h1:M≤M') (h2:M'≤32900) (h3:k≤k') (h4:k'≤8):EX N' M' k' d:=by
 obtain ⟨kd,r,l,o,f,rfl,E⟩:=h
 exact ⟨kd,r,l,o,f,rfl,E.wk hN h1 h2 h3 h4⟩
theorem BX.wk {N M k N' M' k':Nat}{d:D}(h:BX N M k d) (hN:N≤N') (h1:M≤M') (h2:M'≤32900) (h3:k≤k') (h4:k'≤8):BX N' M' k' d:=by
 obtain ⟨r,b,rfl,B⟩:=h
 exact ⟨r,b,rfl,B.wk hN h1 h2 h3 h4⟩
theorem RX.wk {N M k N' M' k':Nat}{d:D}(h:RX N M k d) (hN:N≤N') (h1:M≤M') (h2:M'≤32900) (h3:k≤k') (h4:k'≤8):RX N' M' k' d:=by
 obtain ⟨g,R⟩:=h
 exact ⟨g,R.wk hN h1 h2 h3 h4⟩
theorem Kd.b {kd:T}{l:Int}{o:Bool}(h:Kd kd l o) (hb:blk kd=true):l < 1∧blk2 kd=true:=by
 obtain ⟨⟨s,j,b,au,h1,h2,h3,h4,h5,h6,h7⟩,_⟩:=h
 have hbt:b=true:=h3.symm.trans hb
 have e:s=false:=by
  cases s with
  | false=>rfl
  | true=>have:=eqT_iff.mp h1;subst this;exact absurd hb (by decide)
 subst hbt;subst e
 refine ⟨?_,h4⟩
 cases hl:decide (l=0) with
 | true=>have:=of_decide_eq_true hl;lia
 | false=>rw [hl] at h7;subst h6;cases j <;> cases h7
theorem Kd.nb {kd:T}{l:Int}{o:Bool}(h:Kd kd l o) (hb:blk kd=false):blk2 kd=false:=by
 obtain ⟨⟨s,j,b,au,h1,h2,h3,h4,h5,h6,h7⟩,_⟩:=h
 exact h4.trans (h3.symm.trans hb)
theorem not_both {kd:T}(h1:eqT kd [115,116,114,117,99,116]=true) (h2:eqT kd [102,105,101,108,100]=true):False:=by
 have a:=eqT_iff.mp h1;have b:=eqT_iff.mp h2;rw [a] at b;exact absurd b (by decide)
noncomputable def OpX (d:D):Prop:=∃ op n,d=.str op∧OpOk op n
noncomputable def Opt (P:D→Prop) (d:D):Prop:=d=.none∨P d
section
variable {N M k:Nat}{a b c t p:D}(hM:4*M+60≤32900) (hk8:k+1≤8)
include hM hk8 in
theorem ex_bin (ha:EX N M k a)(hb:EX N M k b) (ho:OpX p):EX (N+20) (4*M+60) (k+1) (.tup [.str [98,105,110,97,114,121],.int 0,p,a,b]):=by
 obtain ⟨kd1,r1,l1,o1,f1,rfl,E1⟩:=ha
 obtain ⟨kd2,r2,l2,o2,f2,rfl,E2⟩:=hb
 obtain ⟨op,n,rfl,H⟩:=ho
 exact EX.of (c_bin E1 E2 H (by lia)) (by lia) (by lia) (by lia) (by lia) (by lia)
include hM hk8 in
theorem ex_neg (ha:EX N M k a):EX (N+20) (4*M+60) (k+1) (.tup [.str [117,110,97,114,121],.int 0,.str [45],a]):=by
 obtain ⟨kd1,r1,l1,o1,f1,rfl,E1⟩:=ha
 exact EX.of (c_un_neg E1 (by lia)) (by lia) (by lia) (by lia) (by lia) (by lia)
include hM hk8 in
theorem ex_not (ha:EX N M k a):EX (N+20) (4*M+60) (k+1) (.tup [.str [117,110,97,114,121],.int 0,.str [33],a]):=by
 obtain ⟨kd1,r1,l1,o1,f1,rfl,E1⟩:=ha
 exact EX.of (c_un_not E1 (by lia)) (by lia) (by lia) (by lia) (by lia) (by lia)
include hM hk8 in
theorem ex_bor1 (ha:EX N M k a):EX (N+20) (4*M+60) (k+1) (.tup [.str [98,111,114,114,111,119],.int 0,.bool true,a]):=by
 obtain ⟨kd1,r1,l1,o1,f1,rfl,E1⟩:=ha
 exact EX.of (c_bor1 E1 (by lia)) (by lia) (by lia) (by lia) (by lia) (by lia)
include hM hk8 in
theorem ex_bor0 (ha:EX N M k a):EX (N+20) (4*M+60) (k+1) (.tup [.str [98,111,114,114,111,119],.int 0,.bool false,a]):=by
 obtain ⟨kd1,r1,l1,o1,f1,rfl,E1⟩:=ha
 exact EX.of (c_bor0 E1 (by lia)) (by lia) (by lia) (by lia) (by lia) (by lia)
include hM hk8 in
theorem ex_cast (ha:EX N M k a):EX (N+20) (4*M+60) (k+1) (.tup [.str [99,97,115,116],.int 0,a,pathD [117,56]]):=by
 obtain ⟨kd1,r1,l1,o1,f1,rfl,E1⟩:=ha
 exact EX.of (c_cast E1 (by lia)) (by lia) (by lia) (by lia) (by lia) (by lia)
include hM hk8 in
theorem ex_assign (ha:EX N M k a)(hb:EX N M k b):EX (N+20) (4*M+60) (k+1) (.tup [.str [97,115,115,105,103,110],.int 0,a,b]):=by
 obtain ⟨kd1,r1,l1,o1,f1,rfl,E1⟩:=ha
 obtain ⟨kd2,r2,l2,o2,f2,rfl,E2⟩:=hb
 exact EX.of (c_assign E1 E2 (by lia)) (by lia) (by lia) (by lia) (by lia) (by lia)
include hM hk8 in
theorem ex_update (ha:EX N M k a)(hb:EX N M k b):EX (N+20) (4*M+60) (k+1) (.tup [.str [117,112,100,97,116,101],.int 0,.str [43],a,b]):=by
 obtain ⟨kd1,r1,l1,o1,f1,rfl,E1⟩:=ha
 obtain ⟨kd2,r2,l2,o2,f2,rfl,E2⟩:=hb
 exact EX.of (c_update E1 E2 (by lia)) (by lia) (by lia) (by lia) (by lia) (by lia)
include hM hk8 in
theorem ex_call1 (ha:EX N M k a)(hb:EX N M k b):EX (N+20) (4*M+60) (k+1) (.tup [.str [99,97,108,108],.int 0,a,.tup [b]]):=by
 obtain ⟨kd1,r1,l1,o1,f1,rfl,E1⟩:=ha
 obtain ⟨kd2,r2,l2,o2,f2,rfl,E2⟩:=hb
 cases hs:eqT kd1 [115,116,114,117,99,116] with
 | true=>cases hf:eqT kd1 [102,105,101,108,100] with
  | true=>exact (not_both hs hf).elim
  | false=>exact EX.of (c_call1_S E1 E2 hs hf (by lia)) (by lia) (by lia) (by lia) (by lia) (by lia)
 | false=>cases hf:eqT kd1 [102,105,101,108,100] with
  | true=>exact EX.of (c_call1_F E1 E2 hs hf (by lia)) (by lia) (by lia) (by lia) (by lia) (by lia)
  | false=>exact EX.of (c_call1_O E1 E2 hs hf (by lia)) (by lia) (by lia) (by lia) (by lia) (by lia)
include hM hk8 in
theorem ex_callf (ha:EX N M k a):EX (N+20) (4*M+60) (k+1) (.tup [.str [99,97,108,108],.int 0,.tup [.str [102,105,101,108,100],.int 0,a,.str [120]],.tup []]):=by
 obtain ⟨kd1,r1,l1,o1,f1,rfl,E1⟩:=ha
 have q:EX (N+10) (M+10) k (.tup (.str [102,105,101,108,100]::[.int 0,.tup (.str kd1::r1),.str [120]])):=by
  cases hs:eqT kd1 [115,116,114,117,99,116] with
  | true=>exact EX.of (c_fldx_S E1 hs (by lia)) (by lia) (by lia) (by lia) (by lia) (by lia)
  | false=>exact EX.of (c_fldx_O E1 hs (by lia)) (by lia) (by lia) (by lia) (by lia) (by lia)
 obtain ⟨kd2,r2,l2,o2,f2,e,E2⟩:=q
 cases e
 exact EX.of (c_call0_F E2 (by decide) (by decide) (by lia)) (by lia) (by lia) (by lia) (by lia) (by lia)
include hM hk8 in
theorem ex_meth (ha:EX N M k a)(hb:EX N M k b):EX (N+20) (4*M+60) (k+1) (.tup [.str [109,101,116,104,111,100],.int 0,a,.str [109],.tup [pathD [117,56]],.tup [b]]):=by
 obtain ⟨kd1,r1,l1,o1,f1,rfl,E1⟩:=ha
 obtain ⟨kd2,r2,l2,o2,f2,rfl,E2⟩:=hb
 cases hs:eqT kd1 [115,116,114,117,99,116] with
 | true=>exact EX.of (c_meth_S E1 E2 hs (by lia)) (by lia) (by lia) (by lia) (by lia) (by lia)
 | false=>exact EX.of (c_meth_O E1 E2 hs (by lia)) (by lia) (by lia) (by lia) (by lia) (by lia)
include hM hk8 in
theorem ex_fld0 (ha:EX N M k a):EX (N+20) (4*M+60) (k+1) (.tup [.str [102,105,101,108,100],.int 0,a,.str [48]]):=by
 obtain ⟨kd1,r1,l1,o1,f1,rfl,E1⟩:=ha
 cases hs:eqT kd1 [115,116,114,117,99,116] with
 | true=>exact EX.of (c_fld0_S E1 hs (by lia)) (by lia) (by lia) (by lia) (by lia) (by lia)
 | false=>exact EX.of (c_fld0_O E1 hs (by lia)) (by lia) (by lia) (by lia) (by lia) (by lia)
include hM hk8 in
theorem ex_idx (ha:EX N M k a)(hb:EX N M k b):EX (N+20) (4*M+60) (k+1) (.tup [.str [105,110,100,101,120],.int 0,a,b]):=by
 obtain ⟨kd1,r1,l1,o1,f1,rfl,E1⟩:=ha
 obtain ⟨kd2,r2,l2,o2,f2,rfl,E2⟩:=hb
 cases hs:eqT kd1 [115,116,114,117,99,116] with
 | true=>exact EX.of (c_idx_S E1 E2 hs (by lia)) (by lia) (by lia) (by lia) (by lia) (by lia)
 | false=>exact EX.of (c_idx_O E1 E2 hs (by lia)) (by lia) (by lia) (by lia) (by lia) (by lia)
include hM hk8 in
theorem ex_struct1 (ha:EX N M k a):EX (N+20) (4*M+60) (k+1) (.tup [.str [115,116,114,117,99,116],.int 0,pth [80],.tup [.tup [.str [97],a]]]):=by
 obtain ⟨kd1,r1,l1,o1,f1,rfl,E1⟩:=ha
 exact EX.of (c_struct1 E1 (by lia)) (by lia) (by lia) (by lia) (by lia) (by lia)
include hM hk8 in
theorem ex_struct0 :EX (N+20) (4*M+60) (k+1) (.tup [.str [115,116,114,117,99,116],.int 0,pth [80],.tup []]):=by
 exact EX.of (c_struct0 (N:=N) (M:=M) (k:=k) (by lia) (by lia)) (by lia) (by lia) (by lia) (by lia) (by lia)
include hM hk8 in
theorem ex_tup1 (ha:EX N M k a):EX (N+20) (4*M+60) (k+1) (.tup [.str [116,117,112,108,101],.int 0,.tup [a]]):=by
 obtain ⟨kd1,r1,l1,o1,f1,rfl,E1⟩:=ha
 exact EX.of (c_tup1 E1 (by lia)) (by lia) (by lia) (by lia) (by lia) (by lia)
include hM hk8 in
theorem ex_tup2 (ha:EX N M k a)(hb:EX N M k b):EX (N+20) (4*M+60) (k+1) (.tup [.str [116,117,112,108,101],.int 0,.tup [a,b]]):=by
 obtain ⟨kd1,r1,l1,o1,f1,rfl,E1⟩:=ha
 obtain ⟨kd2,r2,l2,o2,f2,rfl,E2⟩:=hb
 exact EX.of (c_tup2 E1 E2 (by lia)) (by lia) (by lia) (by lia) (by lia) (by lia)
include hM hk8 in
theorem ex_arr2 (ha:EX N M k a)(hb:EX N M k b):EX (N+20) (4*M+60) (k+1) (.tup [.str [97,114,114,97,121],.int 0,.tup [a,b]]):=by
 obtain ⟨kd1,r1,l1,o1,f1,rfl,E1⟩:=ha
 obtain ⟨kd2,r2,l2,o2,f2,rfl,E2⟩:=hb
 exact EX.of (c_arr2 E1 E2 (by lia)) (by lia) (by lia) (by lia) (by lia) (by lia)
include hM hk8 in
theorem ex_rep (ha:EX N M k a):EX (N+20) (4*M+60) (k+1) (.tup [.str [114,101,112,101,97,116],.int 0,a,.int 4]):=by
 obtain ⟨kd1,r1,l1,o1,f1,rfl,E1⟩:=ha
 exact EX.of (c_rep E1 (by lia)) (by lia) (by lia) (by lia) (by lia) (by lia)
include hM hk8 in
theorem ex_macro (ha:EX N M k a):EX (N+20) (4*M+60) (k+1) (.tup [.str [109,97,99,114,111],.int 0,.str [97,115,115,101,114,116],.tup [a]]):=by
 obtain ⟨kd1,r1,l1,o1,f1,rfl,E1⟩:=ha
 exact EX.of (c_macro E1 (by lia)) (by lia) (by lia) (by lia) (by lia) (by lia)
include hM hk8 in
theorem ex_ret0 :EX (N+20) (4*M+60) (k+1) (.tup [.str [114,101,116,117,114,110],.int 0,.none]):=by
 exact EX.of (c_ret0 (N:=N) (M:=M) (k:=k) (by lia) (by lia)) (by lia) (by lia) (by lia) (by lia) (by lia)
include hM hk8 in
theorem ex_brk0 :EX (N+20) (4*M+60) (k+1) (.tup [.str [98,114,101,97,107],.int 0,.none,.none]):=by
 exact EX.of (c_brk0 (N:=N) (M:=M) (k:=k) (by lia) (by lia)) (by lia) (by lia) (by lia) (by lia) (by lia)
include hM hk8 in
theorem ex_cont :EX (N+20) (4*M+60) (k+1) (.tup [.str [99,111,110,116,105,110,117,101],.int 0,.str [39,97]]):=by
 exact EX.of (c_cont (N:=N) (M:=M) (k:=k) (by lia) (by lia)) (by lia) (by lia) (by lia) (by lia) (by lia)
include hM hk8 in
theorem ex_ret1 (ha:EX N M k a):EX (N+20) (4*M+60) (k+1) (.tup [.str [114,101,116,117,114,110],.int 0,a]):=by
 obtain ⟨kd1,r1,l1,o1,f1,rfl,E1⟩:=ha
 cases hb:blk kd1 with
 | true=>exact EX.of (c_ret1_B E1 (E1.kk.b hb).1 hb (E1.kk.b hb).2 (by lia)) (by lia) (by lia) (by lia) (by lia) (by lia)
 | false=>exact EX.of (c_ret1_O E1 hb (E1.kk.nb hb) (by lia)) (by lia) (by lia) (by lia) (by lia) (by lia)
include hM hk8 in
theorem ex_brk1 (ha:EX N M k a):EX (N+20) (4*M+60) (k+1) (.tup [.str [98,114,101,97,107],.int 0,.str [39,97],a]):=by
 obtain ⟨kd1,r1,l1,o1,f1,rfl,E1⟩:=ha
 cases hb:blk kd1 with
 | true=>exact EX.of (c_brk1_B E1 (E1.kk.b hb).1 hb (E1.kk.b hb).2 (by lia)) (by lia) (by lia) (by lia) (by lia) (by lia)
 | false=>exact EX.of (c_brk1_O E1 hb (E1.kk.nb hb) (by lia)) (by lia) (by lia) (by lia) (by lia) (by lia)
include hM hk8 in
theorem ex_if0 (ha:EX N M k a)(hc:BX N M k c):EX (N+20) (4*M+60) (k+1) (.tup [.str [105,102],.int 0,a,c,.none]):=by
 obtain ⟨kd1,r1,l1,o1,f1,rfl,E1⟩:=ha
 obtain ⟨rb,bb,rfl,B⟩:=hc
 exact EX.of (c_if0 E1 B (by lia)) (by lia) (by lia) (by lia) (by lia) (by lia)
include hM hk8 in
theorem ex_ifb (ha:EX N M k a)(hc:BX N M k c):EX (N+20) (4*M+60) (k+1) (.tup [.str [105,102],.int 0,a,c,c]):=by
 obtain ⟨kd1,r1,l1,o1,f1,rfl,E1⟩:=ha
 obtain ⟨rb,bb,rfl,B⟩:=hc
 exact EX.of (c_ifb E1 B (by lia)) (by lia) (by lia) (by lia) (by lia) (by lia)
include hM hk8 in
theorem ex_ifi (ha:EX N M k a)(hb:EX N M k b)(hc:BX N M k c):EX (N+20) (4*M+60) (k+1) (.tup [.str [105,102],.int 0,a,c,.tup [.str [105,102],.int 0,b,c,.none]]):=by
 obtain ⟨kd1,r1,l1,o1,f1,rfl,E1⟩:=ha
 obtain ⟨kd2,r2,l2,o2,f2,rfl,E2⟩:=hb
 obtain ⟨rb,bb,rfl,B⟩:=hc
 exact EX.of (c_ifi E1 E2 B (by lia)) (by lia) (by lia) (by lia) (by lia) (by lia)
include hM hk8 in
theorem ex_loop0 (hc:BX N M k c):EX (N+20) (4*M+60) (k+1) (.tup [.str [108,111,111,112],.int 0,.none,c]):=by
 obtain ⟨rb,bb,rfl,B⟩:=hc
 exact EX.of (c_loop0 B (by lia)) (by lia) (by lia) (by lia) (by lia) (by lia)
include hM hk8 in
theorem ex_loop1 (hc:BX N M k c):EX (N+20) (4*M+60) (k+1) (.tup [.str [108,111,111,112],.int 0,.str [39,97],c]):=by
 obtain ⟨rb,bb,rfl,B⟩:=hc
 exact EX.of (c_loop1 B (by lia)) (by lia) (by lia) (by lia) (by lia) (by lia)
include hM hk8 in
theorem ex_while0 (ha:EX N M k a)(hc:BX N M k c):EX (N+20) (4*M+60) (k+1) (.tup [.str [119,104,105,108,101],.int 0,.none,a,c]):=by
 obtain ⟨kd1,r1,l1,o1,f1,rfl,E1⟩:=ha
 obtain ⟨rb,bb,rfl,B⟩:=hc
 exact EX.of (c_while0 E1 B (by lia)) (by lia) (by lia) (by lia) (by lia) (by lia)
include hM hk8 in
theorem ex_while1 (ha:EX N M k a)(hc:BX N M k c):EX (N+20) (4*M+60) (k+1) (.tup [.str [119,104,105,108,101],.int 0,.str [39,97],a,c]):=by
 obtain ⟨kd1,r1,l1,o1,f1,rfl,E1⟩:=ha
 obtain ⟨rb,bb,rfl,B⟩:=hc
 exact EX.of (c_while1 E1 B (by lia)) (by lia) (by lia) (by lia) (by lia) (by lia)
include hM hk8 in
theorem ex_for0 (ha:EX N M k a)(hb:EX N M k b)(hc:BX N M k c):EX (N+20) (4*M+60) (k+1) (.tup [.str [102,111,114],.int 0,.none,pt0,a,b,.bool false,c]):=by
 obtain ⟨kd1,r1,l1,o1,f1,rfl,E1⟩:=ha
 obtain ⟨kd2,r2,l2,o2,f2,rfl,E2⟩:=hb
 obtain ⟨rb,bb,rfl,B⟩:=hc
 exact EX.of (c_for0 E1 E2 B (by lia)) (by lia) (by lia) (by lia) (by lia) (by lia)
include hM hk8 in
theorem ex_for1 (ha:EX N M k a)(hb:EX N M k b)(hc:BX N M k c):EX (N+20) (4*M+60) (k+1) (.tup [.str [102,111,114],.int 0,.none,pt0,a,b,.bool true,c]):=by
 obtain ⟨kd1,r1,l1,o1,f1,rfl,E1⟩:=ha
 obtain ⟨kd2,r2,l2,o2,f2,rfl,E2⟩:=hb
 obtain ⟨rb,bb,rfl,B⟩:=hc
 exact EX.of (c_for1 E1 E2 B (by lia)) (by lia) (by lia) (by lia) (by lia) (by lia)
include hM hk8 in
theorem ex_match (ha:EX N M k a)(hb:EX N M k b)(hc:BX N M k c){pt:T}(P:PI p pt):EX (N+20) (4*M+60) (k+1) (.tup [.str [109,97,116,99,104],.int 0,a,.tup [.tup [p,.none,b],.tup [pt2,b,c]]]):=by
 obtain ⟨kd1,r1,l1,o1,f1,rfl,E1⟩:=ha
 obtain ⟨kd2,r2,l2,o2,f2,rfl,E2⟩:=hb
 obtain ⟨rb,bb,rfl,B⟩:=hc
 exact EX.of (c_match E1 E2 B P (by lia) (by lia)) (by lia) (by lia) (by lia) (by lia) (by lia)
include hM hk8 in
theorem ex_blk (hc:BX N M k c):EX (N+20) (4*M+60) (k+1) c:=by
 obtain ⟨rb,bb,rfl,B⟩:=hc
 exact EX.of (B.E) (by lia) (by lia) (by lia) (by lia) (by lia)
end
section
variable {N M k:Nat}{a t p:D}(hM:M+50≤32900) (hk8:k≤8)
include hM hk8
theorem rx_do (ha:EX N M k a):RX (N+10) (M+50) k (.tup [.str [100,111],.int 0,a]):=by
 obtain ⟨kd1,r1,l1,o1,f1,rfl,E1⟩:=ha
 exact ⟨_,(r_do E1 (by lia)).wk (by lia) (by lia) (by lia) (by lia) (by lia)⟩
theorem rx_let {pt:T}(P:PI p pt) (ht:Opt TX t) (ha:Opt (EX N M k) a):RX (N+10) (M+50) k (.tup [.str [108,101,116],.int 0,p,t,a]):=by
 rcases ht with rfl | ⟨td,ty,rfl,Y⟩
 ·rcases ha with rfl | ha
  ·exact ⟨_,(r_let00 (N:=N) (M:=M) P hk8 (by lia)).wk (by lia) (by lia) (by lia) (by lia) (by lia)⟩
  ·obtain ⟨kd1,r1,l1,o1,f1,rfl,E1⟩:=ha
   exact ⟨_,(r_let01 P E1 (by lia)).wk (by lia) (by lia) (by lia) (by lia) (by lia)⟩
 ·rcases ha with rfl | ha
  ·exact ⟨_,(r_let10 (N:=N) (M:=M) P Y hk8 (by lia)).wk (by lia) (by lia) (by lia) (by lia) (by lia)⟩
  ·obtain ⟨kd1,r1,l1,o1,f1,rfl,E1⟩:=ha
   exact ⟨_,(r_let11 P Y E1 (by lia)).wk (by lia) (by lia) (by lia) (by lia) (by lia)⟩
end
section
variable {N M k:Nat}{a d e:D}(hM:3*M+10≤32900) (hk8:k+1≤8)
include hM hk8
theorem bx_0  (ha:Opt (EX N M k) a):BX (N+10) (3*M+10) (k+1) (.tup [.str [98,108,111,99,107],.int 0,.tup [],a]):=by
 rcases ha with rfl | ha
 ·exact ⟨_,_,rfl,(b_00 (N:=N) (M:=M) (k:=k)  (by lia) (by lia)).wk (by lia) (by lia) (by lia) (by lia) (by lia)⟩
 ·obtain ⟨kd1,r1,l1,o1,f1,rfl,E1⟩:=ha
  exact ⟨_,_,rfl,(b_01  E1 (by lia) (by lia)).wk (by lia) (by lia) (by lia) (by lia) (by lia)⟩
theorem bx_1 (h0:RX N M k d) (ha:Opt (EX N M k) a):BX (N+10) (3*M+10) (k+1) (.tup [.str [98,108,111,99,107],.int 0,.tup [d],a]):=by
 obtain ⟨g0,R0⟩:=h0
 rcases ha with rfl | ha
 ·exact ⟨_,_,rfl,(b_10 R0 (by lia) (by lia)).wk (by lia) (by lia) (by lia) (by lia) (by lia)⟩
 ·obtain ⟨kd1,r1,l1,o1,f1,rfl,E1⟩:=ha
  exact ⟨_,_,rfl,(b_11 R0 E1 (by lia) (by lia)).wk (by lia) (by lia) (by lia) (by lia) (by lia)⟩
theorem bx_2 (h0:RX N M k d) (h1:RX N M k e) (ha:Opt (EX N M k) a):BX (N+10) (3*M+10) (k+1) (.tup [.str [98,108,111,99,107],.int 0,.tup [d,e],a]):=by
 obtain ⟨g0,R0⟩:=h0
 obtain ⟨g1,R1⟩:=h1
 rcases ha with rfl | ha
 ·exact ⟨_,_,rfl,(b_20 R0 R1 (by lia) (by lia)).wk (by lia) (by lia) (by lia) (by lia) (by lia)⟩
 ·obtain ⟨kd1,r1,l1,o1,f1,rfl,E1⟩:=ha
  exact ⟨_,_,rfl,(b_21 R0 R1 E1 (by lia) (by lia)).wk (by lia) (by lia) (by lia) (by lia) (by lia)⟩
end
end
section
open PySem PySem.W
theorem Ev.le {N i j:Nat}{P:Or→Prop}(h:Ev N i P) (le:i≤j):Ev N j P:=fun K hK=>h K (by lia)
theorem blike_ev {j N M k:Nat}(n:Int) (hj:3≤j) (hM:4*M+60≤32900) (hk8:k+1≤8) (hB:GenS j i_law_block [.pool,.int (n - 1)] (BX N M k)):
  Ev 0 (j+1) fun cf=>∀ a:D×D,(EX N M k a.1∧EX N M k a.2)→Gen cf i_law_block_like [.pool,.int n,a.1,a.2] (EX (N+20) (4*M+60) (k+1)):=
 Ev.of g_law_block_like (ds:=fun a:D×D=>[.pool,.int n,a.1,a.2]) (Q:=fun _=>EX (N+20) (4*M+60) (k+1)) (A:=fun a=>EX N M k a.1∧EX N M k a.2)
  (hB.and ((take_ev.le (by lia)).and ((one_ev.le (by lia)).and (pattern_ev.le hj)))) fun cf h a ha π k' hπ hk=>e_law_block_like (h.1 π _ hπ fun c π1 h1 hc=>h.2.1 6 ⟨by decide,by decide⟩ π1 _ h1 fun d π2 h2 hd=>by
   obtain ⟨a,b⟩:=a
   obtain ⟨ha,hb⟩:=ha
   have ho:=h.2.2.1
   have hp:=h.2.2.2
   obtain ⟨w,hw,rfl⟩:=hd
   match w,hw with
   | 0,_=>
    refine ho _ ⟨Nat.le_of_ble_eq_true rfl,Nat.le_of_ble_eq_true rfl⟩ (fun x=>EX (N+20) (4*M+60) (k+1) (.tup [.str [105,102],.int 0,a,c,x])) ?_ π2 _ h2 fun x π3 h3 hx=>hk _ _ h3 hx
    exact ⟨ex_if0 hM hk8 ha hc,ex_ifb hM hk8 ha hc,ex_ifi hM hk8 ha hb hc,trivial⟩
   | 1,_=>
    refine hp π2 _ h2 fun x π3 h3 hx=>?_
    obtain ⟨pd,px,rfl,P⟩:=hx
    exact hk _ _ h3 (ex_match hM hk8 ha hb hc P)
   | 2,_=>
    refine ho _ ⟨Nat.le_of_ble_eq_true rfl,Nat.le_of_ble_eq_true rfl⟩ (fun x=>EX (N+20) (4*M+60) (k+1) (.tup [.str [108,111,111,112],.int 0,x,c])) ?_ π2 _ h2 fun x π3 h3 hx=>hk _ _ h3 hx
    exact ⟨ex_loop0 hM hk8 hc,ex_loop1 hM hk8 hc,trivial⟩
   | 3,_=>
    refine ho _ ⟨Nat.le_of_ble_eq_true rfl,Nat.le_of_ble_eq_true rfl⟩ (fun x=>EX (N+20) (4*M+60) (k+1) (.tup [.str [119,104,105,108,101],.int 0,x,a,c])) ?_ π2 _ h2 fun x π3 h3 hx=>hk _ _ h3 hx
    exact ⟨ex_while0 hM hk8 ha hc,ex_while1 hM hk8 ha hc,trivial⟩
   | 4,_=>
    refine h.2.1 2 ⟨by decide,by decide⟩ π2 _ h2 fun x π3 h3 hx=>?_
    obtain ⟨m,hm,rfl⟩:=hx
    match m,hm with
    | 0,_=>exact hk _ _ h3 (ex_for1 hM hk8 ha hb hc)
    | 1,_=>exact hk _ _ h3 (ex_for0 hM hk8 ha hb hc)
   | 5,_=>exact hk _ _ h2 (ex_blk hM hk8 hc))
end
section
open PySem PySem.W
theorem st_ite {x y:Nat}{n:Int}{a b:Ex}{ss:Sts}{cf:Or}{σ:Sg}{π:Pi}{k:Sg→Pi→Prop}{r:D→Pi→Prop}(hv:getV σ.l y=some (.int n)) (hn:decide (n > 0)=true)
  (h:wE a cf (σ.frz false).env π fun d π=>wSs ss cf (σ.asg false false x d) π k r):wSs (.cons (.assign false false x (.ite (.cmp .Gt (.loc y) (.cst (.int 0))) a b)) ss) cf σ π k r:=by
 exact onD_of (o:=getV σ.l y) hv (iteT hn h)
noncomputable def exprRest:Sts:=match f_law_expr.body with
 | .cons _ r=>r
 | .nil=>.nil
theorem expr_body:f_law_expr.body=.cons (.assign false false 24600953 (.ite (.cmp .Gt (.loc 5979334000) (.cst (.int 0))) (.call 6482616824352747907941 (.cons (.loc 408397525705573) (.cons (.cst (.int 13)) .nil))) (.cst (.int 0)))) exprRest:=rfl
theorem e_expr_pos {n:Int}{cf:Or}{π:Pi}{k:D→Pi→Prop}(hn:decide (n > 0)=true)
  (h:cf (.fn i_law_take) [.pool,.int 13] π fun d π=>wSs exprRest cf ⟨[(24600953,d),(408397525705573,.pool),(5979334000,.int n)],[],none⟩ π (fun _ _=>False) k):Bx f_law_expr cf [.pool,.int n] π k:=by
 refine e_law_expr ?_
 rw [expr_body]
 exact st_ite rfl hn h
theorem expr_ev {j N M k:Nat}(n:Int) (hj:3≤j) (hN:10≤N) (hn:decide (n > 0)=true) (h10:10≤M) (hM:4*M+60≤32900) (hk8:k+1≤8)
  (hE:GenS j i_law_expr [.pool,.int (n - 1)] (EX N M k)) (hB:GenS j i_law_block [.pool,.int (n - 1)] (BX N M k)):GenS (j+2) i_law_expr [.pool,.int n] (EX (N+20) (4*M+60) (k+1)):=
 GenS.of g_law_expr ((hE.le (by lia)).and ((take_ev.le (by lia)).and ((one_ev.le (by lia)).and ((path_ev.le (by lia)).and ((leaf_ev.le (by lia)).and (blike_ev n hj hM hk8 hB)))))) fun cf h π k' hπ hk=>e_expr_pos hn (h.2.1 13 ⟨by decide,by decide⟩ π _ hπ fun d π1 h1 hd=>by
 obtain ⟨he,_,ho,hpa,hl,hb2⟩:=h
 obtain ⟨w,hw,rfl⟩:=hd
 match w,hw with
 | 0,_=>exact hl π1 _ h1 fun x π2 h2 hx=>hk _ _ h2 (hx.wk (by lia) (by lia) (by lia) (by lia) (by lia))
 | 1,_=>exact he π1 _ h1 fun a π1' h1' ha=>he π1' _ h1' fun b π2 h2 hb=>by refine ho _ ⟨Nat.le_of_ble_eq_true rfl,Nat.le_of_ble_eq_true rfl⟩ (fun x=>EX (N+20) (4*M+60) (k+1) (.tup [.str [98,105,110,97,114,121],.int 0,x,a,b])) ?_ π2 _ h2 fun x π3 h3 hx=>hk _ _ h3 hx;exact ⟨ex_bin hM hk8 ha hb ⟨_,_,rfl,op9⟩,ex_bin hM hk8 ha hb ⟨_,_,rfl,op3⟩,ex_bin hM hk8 ha hb ⟨_,_,rfl,op1⟩,ex_bin hM hk8 ha hb ⟨_,_,rfl,op10⟩,ex_bin hM hk8 ha hb ⟨_,_,rfl,op0⟩,ex_bin hM hk8 ha hb ⟨_,_,rfl,op2⟩,ex_bin hM hk8 ha hb ⟨_,_,rfl,op4⟩,ex_bin hM hk8 ha hb ⟨_,_,rfl,op7⟩,ex_bin hM hk8 ha hb ⟨_,_,rfl,op6⟩,ex_bin hM hk8 ha hb ⟨_,_,rfl,op5⟩,ex_bin hM hk8 ha hb ⟨_,_,rfl,op11⟩,ex_bin hM hk8 ha hb ⟨_,_,rfl,op8⟩,trivial⟩
 | 2,_=>exact he π1 _ h1 fun a π1' h1' ha=>he π1' _ h1' fun b π2 h2 hb=>by refine ho _ ⟨Nat.le_of_ble_eq_true rfl,Nat.le_of_ble_eq_true rfl⟩ (fun x=>EX (N+20) (4*M+60) (k+1) (.tup [.str [98,105,110,97,114,121],.int 0,x,a,b])) ?_ π2 _ h2 fun x π3 h3 hx=>hk _ _ h3 hx;exact ⟨ex_bin hM hk8 ha hb ⟨_,_,rfl,op9⟩,ex_bin hM hk8 ha hb ⟨_,_,rfl,op3⟩,ex_bin hM hk8 ha hb ⟨_,_,rfl,op1⟩,ex_bin hM hk8 ha hb ⟨_,_,rfl,op10⟩,ex_bin hM hk8 ha hb ⟨_,_,rfl,op0⟩,ex_bin hM hk8 ha hb ⟨_,_,rfl,op2⟩,ex_bin hM hk8 ha hb ⟨_,_,rfl,op4⟩,ex_bin hM hk8 ha hb ⟨_,_,rfl,op7⟩,ex_bin hM hk8 ha hb ⟨_,_,rfl,op6⟩,ex_bin hM hk8 ha hb ⟨_,_,rfl,op5⟩,ex_bin hM hk8 ha hb ⟨_,_,rfl,op11⟩,ex_bin hM hk8 ha hb ⟨_,_,rfl,op8⟩,trivial⟩
 | 3,_=>exact he π1 _ h1 fun a π1' h1' ha=>he π1' _ h1' fun b π2 h2 hb=>by refine ho _ ⟨Nat.le_of_ble_eq_true rfl,Nat.le_of_ble_eq_true rfl⟩ (fun x=>EX (N+20) (4*M+60) (k+1) (.tup [.str [98,105,110,97,114,121],.int 0,x,a,b])) ?_ π2 _ h2 fun x π3 h3 hx=>hk _ _ h3 hx;exact ⟨ex_bin hM hk8 ha hb ⟨_,_,rfl,op9⟩,ex_bin hM hk8 ha hb ⟨_,_,rfl,op3⟩,ex_bin hM hk8 ha hb ⟨_,_,rfl,op1⟩,ex_bin hM hk8 ha hb ⟨_,_,rfl,op10⟩,ex_bin hM hk8 ha hb ⟨_,_,rfl,op0⟩,ex_bin hM hk8 ha hb ⟨_,_,rfl,op2⟩,ex_bin hM hk8 ha hb ⟨_,_,rfl,op4⟩,ex_bin hM hk8 ha hb ⟨_,_,rfl,op7⟩,ex_bin hM hk8 ha hb ⟨_,_,rfl,op6⟩,ex_bin hM hk8 ha hb ⟨_,_,rfl,op5⟩,ex_bin hM hk8 ha hb ⟨_,_,rfl,op11⟩,ex_bin hM hk8 ha hb ⟨_,_,rfl,op8⟩,trivial⟩
 | 4,_=>exact he π1 _ h1 fun a π1' h1' ha=>he π1' _ h1' fun b π2 h2 hb=>by refine ho _ ⟨Nat.le_of_ble_eq_true rfl,Nat.le_of_ble_eq_true rfl⟩ (EX (N+20) (4*M+60) (k+1)) ?_ π2 _ h2 fun x π3 h3 hx=>hk _ _ h3 hx;exact ⟨ex_neg hM hk8 ha,ex_not hM hk8 ha,ex_bor1 hM hk8 ha,ex_bor0 hM hk8 ha,trivial⟩
 | 5,_=>exact he π1 _ h1 fun a π1' h1' ha=>he π1' _ h1' fun b π2 h2 hb=>by exact hpa _ π2 _ (hk _ _ h2 (ex_cast hM hk8 ha))
 | 6,_=>exact he π1 _ h1 fun a π1' h1' ha=>he π1' _ h1' fun b π2 h2 hb=>by exact hpa _ π2 _ (by refine ho _ ⟨Nat.le_of_ble_eq_true rfl,Nat.le_of_ble_eq_true rfl⟩ (EX (N+20) (4*M+60) (k+1)) ?_ π2 _ h2 fun x π3 h3 hx=>hk _ _ h3 hx;exact ⟨ex_call1 hM hk8 ha hb,ex_callf hM hk8 ha,ex_meth hM hk8 ha hb,trivial⟩)
 | 7,_=>exact he π1 _ h1 fun a π1' h1' ha=>he π1' _ h1' fun b π2 h2 hb=>by refine ho _ ⟨Nat.le_of_ble_eq_true rfl,Nat.le_of_ble_eq_true rfl⟩ (EX (N+20) (4*M+60) (k+1)) ?_ π2 _ h2 fun x π3 h3 hx=>hk _ _ h3 hx;exact ⟨ex_fld0 hM hk8 ha,ex_idx hM hk8 ha hb,ex_struct1 hM hk8 ha,ex_struct0 hM hk8,trivial⟩
 | 8,_=>exact he π1 _ h1 fun a π1' h1' ha=>he π1' _ h1' fun b π2 h2 hb=>by refine ho _ ⟨Nat.le_of_ble_eq_true rfl,Nat.le_of_ble_eq_true rfl⟩ (EX (N+20) (4*M+60) (k+1)) ?_ π2 _ h2 fun x π3 h3 hx=>hk _ _ h3 hx;exact ⟨ex_tup1 hM hk8 ha,ex_tup2 hM hk8 ha hb,ex_arr2 hM hk8 ha hb,ex_rep hM hk8 ha,ex_macro hM hk8 ha,trivial⟩
 | 9,_=>exact he π1 _ h1 fun a π1' h1' ha=>he π1' _ h1' fun b π2 h2 hb=>by refine ho _ ⟨Nat.le_of_ble_eq_true rfl,Nat.le_of_ble_eq_true rfl⟩ (EX (N+20) (4*M+60) (k+1)) ?_ π2 _ h2 fun x π3 h3 hx=>hk _ _ h3 hx;exact ⟨ex_assign hM hk8 ha hb,ex_update hM hk8 ha hb,trivial⟩
 | 10,_=>exact he π1 _ h1 fun a π1' h1' ha=>he π1' _ h1' fun b π2 h2 hb=>by refine ho _ ⟨Nat.le_of_ble_eq_true rfl,Nat.le_of_ble_eq_true rfl⟩ (EX (N+20) (4*M+60) (k+1)) ?_ π2 _ h2 fun x π3 h3 hx=>hk _ _ h3 hx;exact ⟨ex_ret0 hM hk8,ex_ret1 hM hk8 ha,ex_brk1 hM hk8 ha,ex_brk0 hM hk8,ex_cont hM hk8,trivial⟩
 | 11,_=>exact he π1 _ h1 fun a π1' h1' ha=>he π1' _ h1' fun b π2 h2 hb=>by exact hb2 (a,b) ⟨ha,hb⟩ π2 _ h2 hk
 | 12,_=>exact he π1 _ h1 fun a π1' h1' ha=>he π1' _ h1' fun b π2 h2 hb=>by exact hb2 (a,b) ⟨ha,hb⟩ π2 _ h2 hk)
end
section
open PySem PySem.W
theorem block_ev {j N M k:Nat}(n:Int) (hj:3≤j) (hB:3*(M+50)+10≤32900) (hk8:k+1≤8)
  (hE:GenS j i_law_expr [.pool,.int n] (EX N M k)):GenS (j+1) i_law_block [.pool,.int n] (BX (N+20) (3*(M+50)+10) (k+1)):=
 GenS.of g_law_block (hE.and ((take_ev.le (by lia)).and ((one_ev.le (by lia)).and ((type_ev.le hj).and (pattern_ev.le hj))))) fun cf h π k' hπ hk=>e_law_block (by
 obtain ⟨he,ht,ho,hty,hpat⟩:=h
 refine ht 3 ⟨by decide,by decide⟩ π _ hπ fun d π1 h1 hd=>?_
 obtain ⟨w,hw,rfl⟩:=hd
 match w,hw with
 | 0,_=>
  refine he π1 _ h1 fun z πz hz1 hz=>?_
  refine ho _ ⟨Nat.le_of_ble_eq_true rfl,Nat.le_of_ble_eq_true rfl⟩ (fun x=>BX (N+20) (3*(M+50)+10) (k+1) (.tup [.str [98,108,111,99,107],.int 0,.tup [],x])) ?_ πz _ hz1 fun x πy hy hx=>hk _ _ hy hx
  exact ⟨bx_0 (N:=N+10) (M:=M+50) hB hk8  (.inl rfl),bx_0 (N:=N+10) (M:=M+50) hB hk8  (.inr (hz.wk (by lia) (by lia) (by lia) (by lia) (by lia))),trivial⟩
 | 1,_=>
  refine ht 2 ⟨by decide,by decide⟩ π1 _ h1 fun d π0a h0a hd=>?_
  obtain ⟨m,hm,rfl⟩:=hd
  match m,hm with
  | 0,_=>
   refine hty π0a _ h0a fun y π0b h0b hy=>?_
   refine ho _ ⟨Nat.le_of_ble_eq_true rfl,Nat.le_of_ble_eq_true rfl⟩ (Opt TX) ?_ π0b _ h0b fun t0 π0c h0c ht0=>?_
   ·exact ⟨.inl rfl,.inr hy,trivial⟩
   refine hpat π0c _ h0c fun q π0d h0d hq=>?_
   obtain ⟨pd0,px0,rfl,P0⟩:=hq
   refine he π0d _ h0d fun z π0e h0e hz=>?_
   refine ho _ ⟨Nat.le_of_ble_eq_true rfl,Nat.le_of_ble_eq_true rfl⟩ (Opt (EX N M k)) ?_ π0e _ h0e fun v0 π0f h0f hv0=>?_
   ·exact ⟨.inl rfl,.inr hz,trivial⟩
   have hr0:RX (N+10) (M+50) k (.tup [.str [108,101,116],.int 0,pd0,t0,v0]):=rx_let (by lia) (by lia) P0 ht0 hv0
   refine he π0f _ h0f fun z πz hz1 hz=>?_
   refine ho _ ⟨Nat.le_of_ble_eq_true rfl,Nat.le_of_ble_eq_true rfl⟩ (fun x=>BX (N+20) (3*(M+50)+10) (k+1) (.tup [.str [98,108,111,99,107],.int 0,.tup [_],x])) ?_ πz _ hz1 fun x πy hy hx=>hk _ _ hy hx
   exact ⟨bx_1 (N:=N+10) (M:=M+50) hB hk8 hr0 (.inl rfl),bx_1 (N:=N+10) (M:=M+50) hB hk8 hr0 (.inr (hz.wk (by lia) (by lia) (by lia) (by lia) (by lia))),trivial⟩
  | 1,_=>
   refine he π0a _ h0a fun z0 π0b h0b hz0=>?_
   have hr0:RX (N+10) (M+50) k (.tup [.str [100,111],.int 0,z0]):=rx_do (by lia) (by lia) hz0
   refine he π0b _ h0b fun z πz hz1 hz=>?_
   refine ho _ ⟨Nat.le_of_ble_eq_true rfl,Nat.le_of_ble_eq_true rfl⟩ (fun x=>BX (N+20) (3*(M+50)+10) (k+1) (.tup [.str [98,108,111,99,107],.int 0,.tup [_],x])) ?_ πz _ hz1 fun x πy hy hx=>hk _ _ hy hx
   exact ⟨bx_1 (N:=N+10) (M:=M+50) hB hk8 hr0 (.inl rfl),bx_1 (N:=N+10) (M:=M+50) hB hk8 hr0 (.inr (hz.wk (by lia) (by lia) (by lia) (by lia) (by lia))),trivial⟩
 | 2,_=>
  refine ht 2 ⟨by decide,by decide⟩ π1 _ h1 fun d π0a h0a hd=>?_
  obtain ⟨m,hm,rfl⟩:=hd
  match m,hm with
  | 0,_=>
   refine hty π0a _ h0a fun y π0b h0b hy=>?_
   refine ho _ ⟨Nat.le_of_ble_eq_true rfl,Nat.le_of_ble_eq_true rfl⟩ (Opt TX) ?_ π0b _ h0b fun t0 π0c h0c ht0=>?_
   ·exact ⟨.inl rfl,.inr hy,trivial⟩
   refine hpat π0c _ h0c fun q π0d h0d hq=>?_
   obtain ⟨pd0,px0,rfl,P0⟩:=hq
   refine he π0d _ h0d fun z π0e h0e hz=>?_
   refine ho _ ⟨Nat.le_of_ble_eq_true rfl,Nat.le_of_ble_eq_true rfl⟩ (Opt (EX N M k)) ?_ π0e _ h0e fun v0 π0f h0f hv0=>?_
   ·exact ⟨.inl rfl,.inr hz,trivial⟩
   have hr0:RX (N+10) (M+50) k (.tup [.str [108,101,116],.int 0,pd0,t0,v0]):=rx_let (by lia) (by lia) P0 ht0 hv0
   refine ht 2 ⟨by decide,by decide⟩ π0f _ h0f fun d π1a h1a hd=>?_
   obtain ⟨m,hm,rfl⟩:=hd
   match m,hm with
   | 0,_=>
    refine hty π1a _ h1a fun y π1b h1b hy=>?_
    refine ho _ ⟨Nat.le_of_ble_eq_true rfl,Nat.le_of_ble_eq_true rfl⟩ (Opt TX) ?_ π1b _ h1b fun t1 π1c h1c ht1=>?_
    ·exact ⟨.inl rfl,.inr hy,trivial⟩
    refine hpat π1c _ h1c fun q π1d h1d hq=>?_
    obtain ⟨pd1,px1,rfl,P1⟩:=hq
    refine he π1d _ h1d fun z π1e h1e hz=>?_
    refine ho _ ⟨Nat.le_of_ble_eq_true rfl,Nat.le_of_ble_eq_true rfl⟩ (Opt (EX N M k)) ?_ π1e _ h1e fun v1 π1f h1f hv1=>?_
    ·exact ⟨.inl rfl,.inr hz,trivial⟩
    have hr1:RX (N+10) (M+50) k (.tup [.str [108,101,116],.int 0,pd1,t1,v1]):=rx_let (by lia) (by lia) P1 ht1 hv1
    refine he π1f _ h1f fun z πz hz1 hz=>?_
    refine ho _ ⟨Nat.le_of_ble_eq_true rfl,Nat.le_of_ble_eq_true rfl⟩ (fun x=>BX (N+20) (3*(M+50)+10) (k+1) (.tup [.str [98,108,111,99,107],.int 0,.tup [_,_],x])) ?_ πz _ hz1 fun x πy hy hx=>hk _ _ hy hx
    exact ⟨bx_2 (N:=N+10) (M:=M+50) hB hk8 hr0 hr1 (.inl rfl),bx_2 (N:=N+10) (M:=M+50) hB hk8 hr0 hr1 (.inr (hz.wk (by lia) (by lia) (by lia) (by lia) (by lia))),trivial⟩
   | 1,_=>
    refine he π1a _ h1a fun z1 π1b h1b hz1=>?_
    have hr1:RX (N+10) (M+50) k (.tup [.str [100,111],.int 0,z1]):=rx_do (by lia) (by lia) hz1
    refine he π1b _ h1b fun z πz hz1 hz=>?_
    refine ho _ ⟨Nat.le_of_ble_eq_true rfl,Nat.le_of_ble_eq_true rfl⟩ (fun x=>BX (N+20) (3*(M+50)+10) (k+1) (.tup [.str [98,108,111,99,107],.int 0,.tup [_,_],x])) ?_ πz _ hz1 fun x πy hy hx=>hk _ _ hy hx
    exact ⟨bx_2 (N:=N+10) (M:=M+50) hB hk8 hr0 hr1 (.inl rfl),bx_2 (N:=N+10) (M:=M+50) hB hk8 hr0 hr1 (.inr (hz.wk (by lia) (by lia) (by lia) (by lia) (by lia))),trivial⟩
  | 1,_=>
   refine he π0a _ h0a fun z0 π0b h0b hz0=>?_
   have hr0:RX (N+10) (M+50) k (.tup [.str [100,111],.int 0,z0]):=rx_do (by lia) (by lia) hz0
   refine ht 2 ⟨by decide,by decide⟩ π0b _ h0b fun d π1a h1a hd=>?_
   obtain ⟨m,hm,rfl⟩:=hd
   match m,hm with
   | 0,_=>
    refine hty π1a _ h1a fun y π1b h1b hy=>?_
    refine ho _ ⟨Nat.le_of_ble_eq_true rfl,Nat.le_of_ble_eq_true rfl⟩ (Opt TX) ?_ π1b _ h1b fun t1 π1c h1c ht1=>?_
    ·exact ⟨.inl rfl,.inr hy,trivial⟩
    refine hpat π1c _ h1c fun q π1d h1d hq=>?_
    obtain ⟨pd1,px1,rfl,P1⟩:=hq
    refine he π1d _ h1d fun z π1e h1e hz=>?_
    refine ho _ ⟨Nat.le_of_ble_eq_true rfl,Nat.le_of_ble_eq_true rfl⟩ (Opt (EX N M k)) ?_ π1e _ h1e fun v1 π1f h1f hv1=>?_
    ·exact ⟨.inl rfl,.inr hz,trivial⟩
    have hr1:RX (N+10) (M+50) k (.tup [.str [108,101,116],.int 0,pd1,t1,v1]):=rx_let (by lia) (by lia) P1 ht1 hv1
    refine he π1f _ h1f fun z πz hz1 hz=>?_
    refine ho _ ⟨Nat.le_of_ble_eq_true rfl,Nat.le_of_ble_eq_true rfl⟩ (fun x=>BX (N+20) (3*(M+50)+10) (k+1) (.tup [.str [98,108,111,99,107],.int 0,.tup [_,_],x])) ?_ πz _ hz1 fun x πy hy hx=>hk _ _ hy hx
    exact ⟨bx_2 (N:=N+10) (M:=M+50) hB hk8 hr0 hr1 (.inl rfl),bx_2 (N:=N+10) (M:=M+50) hB hk8 hr0 hr1 (.inr (hz.wk (by lia) (by lia) (by lia) (by lia) (by lia))),trivial⟩
   | 1,_=>
    refine he π1a _ h1a fun z1 π1b h1b hz1=>?_
    have hr1:RX (N+10) (M+50) k (.tup [.str [100,111],.int 0,z1]):=rx_do (by lia) (by lia) hz1
    refine he π1b _ h1b fun z πz hz1 hz=>?_
    refine ho _ ⟨Nat.le_of_ble_eq_true rfl,Nat.le_of_ble_eq_true rfl⟩ (fun x=>BX (N+20) (3*(M+50)+10) (k+1) (.tup [.str [98,108,111,99,107],.int 0,.tup [_,_],x])) ?_ πz _ hz1 fun x πy hy hx=>hk _ _ hy hx
    exact ⟨bx_2 (N:=N+10) (M:=M+50) hB hk8 hr0 hr1 (.inl rfl),bx_2 (N:=N+10) (M:=M+50) hB hk8 hr0 hr1 (.inr (hz.wk (by lia) (by lia) (by lia) (by lia) (by lia))),trivial⟩)
theorem GenS.wk {j j' f:Nat}{ds:List D}{P Q:D→Prop}(h:GenS j f ds P) (le:Nat.ble j j'=true) (hq:∀ d,P d→Q d):GenS j' f ds Q:=
 fun K hK π k hπ hk=>h.up le K hK π k hπ fun d π' h1 h2=>hk d π' h1 (hq d h2)
theorem block0_ev:GenS 5 i_law_block [.pool,.int 0] (BX 30 190 1):=block_ev (N:=10) (M:=10) 0 (by decide) (by decide) (by decide) expr0_ev
theorem expr0w_ev:GenS 5 i_law_expr [.pool,.int 0] (EX 30 190 1):=expr0_ev.wk rfl fun d h=>h.wk (by decide) (by decide) (by decide) (by decide) (by decide)
theorem expr1_ev:GenS 7 i_law_expr [.pool,.int 1] (EX 50 820 2):=expr_ev (N:=30) (M:=190) 1 (by decide) (by decide) rfl (by decide) (by decide) (by decide) expr0w_ev block0_ev
theorem block1_ev:GenS 8 i_law_block [.pool,.int 1] (BX 70 2620 3):=block_ev (N:=50) (M:=820) 1 (by decide) (by decide) (by decide) expr1_ev
theorem expr1w_ev:GenS 8 i_law_expr [.pool,.int 1] (EX 70 2620 3):=expr1_ev.wk rfl fun d h=>h.wk (by decide) (by decide) (by decide) (by decide) (by decide)
theorem expr2_ev:GenS 10 i_law_expr [.pool,.int 2] (EX 90 10540 4):=expr_ev (N:=70) (M:=2620) 2 (by decide) (by decide) rfl (by decide) (by decide) (by decide) expr1w_ev block1_ev
theorem block2_ev:GenS 11 i_law_block [.pool,.int 2] (BX 110 31780 5):=block_ev (N:=90) (M:=10540) 2 (by decide) (by decide) (by decide) expr2_ev
end
section
open PySem PySem.W
section
variable {N:Nat}
noncomputable abbrev gd0:D:=(.tup [(.tup []),(.tup [])])
noncomputable abbrev gd1:D:=(.tup [(.tup [(.str [39,97])]),(.tup [(.tup [(.str [84]),(.tup [])]),(.tup [(.str [85]),(.tup [(pth [65]),(pth [66])])])])])
theorem sy_anglesG:Sure N 1 i_write_angles [(.lst [(.str [39,97]),(.str [84]),(.str [85,58,32,65,32,43,32,66])])] (.str [60,39,97,44,32,84,44,32,85,58,32,65,32,43,32,66,62]):=Sure.of0 g_write_angles  fun cf  π k hk=>e_write_angles (by
 (repeat (first | exact hk | refine And.intro (by decide) ?_)))
theorem sy_gen0:Sure N 2 i_write_generics [gd0] (.str []):=Sure.of g_write_generics sy_angles0 fun cf h0 π k hk=>e_write_generics (by
 (repeat (first | exact hk | refine And.intro (by decide) ?_ | refine h0 π _ ?_)))
theorem sy_gen1:Sure N 3 i_write_generics [gd1] (.str [60,39,97,44,32,84,44,32,85,58,32,65,32,43,32,66,62]):=Sure.of3 g_write_generics (sy_path (n:=[65]) (by decide)) (sy_path (n:=[66]) (by decide)) sy_anglesG fun cf h0 h1 h2 π k hk=>e_write_generics (by
 (repeat (first | exact hk | refine And.intro (by decide) ?_ | refine h0 π _ ?_ | refine h1 π _ ?_ | refine h2 π _ ?_)))
end
structure TxOk (t:T) (n:Nat):Prop where
 ok:okT t=true
 at':attr t=good
 ln:t.length≤n
structure TlOk (t:T) (n:Nat):Prop where
 ok:okT t=true
 at':t=[]∨attr t=good∨attr t=(some 0,some 2,true)
 ln:t.length≤n
theorem okT_app {x y:T}(h:okT x=true) (i:okT y=true):okT (x++y)=true:=by
 unfold okT at*
 rw [List.all_append,h,i];rfl
theorem TxOk.app {x y:T}{n m:Nat}(h:TxOk x n) (i:TlOk y m):TxOk (x++y) (n+m):=by
 refine ⟨okT_app h.ok i.ok,?_,by rw [List.length_append];have:=h.ln;have:=i.ln;lia⟩
 rcases i.at' with e | e | e
 ·rw [e,List.append_nil];exact h.at'
 ·rw [attr_app,h.at',e];rfl
 ·rw [attr_app,h.at',e];rfl
theorem TxOk.tl {x:T}{n:Nat}(h:TxOk x n):TlOk x n:=⟨h.ok,.inr (.inl h.at'),h.ln⟩
theorem TlOk.nil {n:Nat}:TlOk [] n:=⟨rfl,.inl rfl,Nat.zero_le _⟩
theorem TxOk.sp {s x:T}{n m:Nat}(h:TxOk x n) (hs:okT s=true) (ha:attr s=(some 0,some 0,true)∨attr s=(some 2,some 0,true)) (hl:s.length≤m):TlOk (s++x) (m+n):=by
 refine ⟨okT_app hs h.ok,.inr ?_,by rw [List.length_append];have:=h.ln;lia⟩
 rcases ha with e | e
 ·exact .inr (by rw [attr_app,h.at',e];rfl)
 ·exact .inl (by rw [attr_app,h.at',e];rfl)
structure GI (gd:D) (gt:T):Prop where
 sw:∀ {N:Nat},Sure N 5 i_write_generics [gd] (.str gt)
 tx:TlOk gt 17
theorem gi_0:GI gd0 []:=⟨sy_gen0.up rfl,.nil⟩
theorem gi_1:GI gd1 [60,39,97,44,32,84,44,32,85,58,32,65,32,43,32,66,62]:=⟨sy_gen1.up rfl,⟨rfl,.inr (.inl rfl),by decide⟩⟩
structure SI (s st:T):Prop where
 lk:look [[118,97,108,117,101],[114,101,102],[109,117,116]] [.str [115,101,108,102],.str [38,115,101,108,102],.str [38,109,117,116,32,115,101,108,102]] s=some (.str st)
 tx:TxOk st 9
 ne:(!eqT st [])=true
theorem si_0:SI [118,97,108,117,101] [115,101,108,102]:=⟨rfl,⟨rfl,rfl,by decide⟩,rfl⟩
theorem si_1:SI [114,101,102] [38,115,101,108,102]:=⟨rfl,⟨rfl,rfl,by decide⟩,rfl⟩
theorem si_2:SI [109,117,116] [38,109,117,116,32,115,101,108,102]:=⟨rfl,⟨rfl,rfl,by decide⟩,rfl⟩
theorem PI.tx {d:D}{t:T}(P:PI d t):TxOk t 16:=⟨P.ok,P.at',P.ln⟩
theorem TI.tx {d:List D}{t:T}(P:TI d t):TxOk t 16:=⟨P.ok,P.at',P.ln⟩
noncomputable def tl:Sts→Sts
 | .cons _ r=>r
 | .nil=>.nil
noncomputable abbrev tl2 (s:Sts):=tl (tl s)
noncomputable def SelfOk (sd:D) (sl:List T):Prop:=(sd=.none∧sl=[])∨∃ s st,sd=.str s∧sl=[st]∧SI s st
noncomputable def prmT (pt ty:T):T:=pt++[58,32]++ty
noncomputable def PrmOk (prm:List D) (pl:List T):Prop:=(prm=[]∧pl=[])∨∃ pd pt td ty,PI pd pt∧TI td ty∧((prm=[.tup [pd,.tup td]]∧pl=[prmT pt ty])∨(prm=[.tup [pd,.tup td],.tup [pd,.tup td]]∧pl=[prmT pt ty,prmT pt ty]))
noncomputable def ResOk (rd:D) (rt:T):Prop:=(rd=.none∧rt=[])∨∃ td ty,rd=.tup td∧rt=[32,45,62,32]++ty∧TI td ty
noncomputable def BodyOk (cf:Or) (bd:D) (bt:T):Prop:=(bd=.none∧bt=[59])∨∃ r tb,bd=.tup (.str [98,108,111,99,107]::r)∧bt=[32]++tb∧Says cf i_write_block [bd] (.str tb)
noncomputable abbrev fnD (gd sd:D) (prm:List D) (rd bd:D) (pb:Bool):D:=.tup [.str [102,110],.int 0,.str [102],gd,sd,.tup prm,rd,bd,.bool pb]
noncomputable abbrev jn (ds:List D):T:=joinT [44,32] (ds.map strOf)
noncomputable abbrev hdT (gt pj rt:T):T:=[102,110,32,102]++gt++[40]++pj++[41]++rt
noncomputable abbrev JOk (ds:List D):Prop:=ds.all isStrD=true∧((ds.map strOf).map (·.length)).sum+ds.length*([44,32]:T).length≤strBound
section
variable {cf:Or}{gd sd rd bd:D}{gt rt bt:T}{prm:List D}{pb:Bool}{l:List (Nat×D)}{ds:List D}{π:Pi}{r:D→Pi→Prop}
theorem fn_t3 (hi:getV l 6064203117=some (fnD gd sd prm rd bd pb)) (hr:getV l 407255031049332=some (.str rt)) (hg:Says cf i_write_generics [gd] (.str gt)) (hj:JOk ds)
  (hb:(hdT gt (jn ds) rt++bt).length≤PB) (hbd:BodyOk cf bd bt) (hk:r (.str (hdT gt (jn ds) rt++bt)) π):
  wSs (tl (tl2 (tl f_write_fn.body))) cf ⟨l,[],some (405038809836915,ds)⟩ π (fun _ _=>False) r:=by
 have q1:=bl hb
 have q2:=bl q1
 have q3:=bl q2
 have q4:=bl q3
 have q5:=bl q4
 refine onD_of hi ⟨PBS (bl q5),onD_of hi (hg π _ ⟨PBS q5,PBS q4,hj,PBS q3,PBS q2,onD_of hr ⟨PBS q1,onD_of hi ?_⟩⟩)⟩
 rcases hbd with ⟨rfl,rfl⟩ | ⟨rb,tb,rfl,rfl,hw⟩
 ·exact ⟨PBS hb,hk⟩
 ·exact onD_of hi (hw π _ ⟨PBS (br hb),PBS hb,hk⟩)
theorem fn_t2 (hi:getV l 6064203117=some (fnD gd sd prm rd bd pb)) (hR:ResOk rd rt) (ht:∀ td ty,TI td ty→Says cf i_write_type [.tup td] (.str ty)) (hg:Says cf i_write_generics [gd] (.str gt)) (hj:JOk ds)
  (hb:(hdT gt (jn ds) rt++bt).length≤PB) (hbd:BodyOk cf bd bt) (hk:r (.str (hdT gt (jn ds) rt++bt)) π):
  wSs (tl (tl2 f_write_fn.body)) cf ⟨l,[],some (405038809836915,ds)⟩ π (fun _ _=>False) r:=by
 refine onD_of hi ?_
 rcases hR with ⟨rfl,rfl⟩ | ⟨td,ty,rfl,rfl,Y⟩
 ·exact fn_t3 (l:=(407255031049332,.str [])::l) hi rfl hg hj hb hbd hk
 ·exact onD_of hi (ht _ _ Y π _ ⟨PBS (br (bl hb)),fn_t3 (l:=(407255031049332,.str _)::l) hi rfl hg hj hb hbd hk⟩)
end
theorem prm_len {d:D}{pt:T}{td:List D}{ty:T}(P:PI d pt) (Y:TI td ty):(pt++[58,32]).length≤strBound∧(prmT pt ty).length≤34:=by
 have e:strBound=4000000:=rfl
 have h1:=P.ln;have h2:=Y.ln
 simp only [prmT,List.length_append,List.length_cons,List.length_nil]
 lia
theorem prm_len2 {d:D}{pt:T}{td:List D}{ty:T}(P:PI d pt) (Y:TI td ty):(prmT pt ty).length≤strBound:=by
 have e:strBound=4000000:=rfl
 have:=(prm_len P Y).2
 lia
theorem ch9 {α:Type}{l:List α}{p:Prop}(h:l.length≤9) (x:p):chkL l.length p:=chkL_iff.mpr ⟨by have e:strBound=4000000:=rfl;lia,x⟩
theorem app_ok {x:Nat}{ds:List D}{d:D}{l c:List (Nat×D)}{k:Sg→Prop}(h:ds.length≤9) (hk:k ⟨l,c,some (x,ds++[d])⟩):appW ⟨l,c,some (x,ds)⟩ x d k:=by
 unfold appW
 exact chk_iff.mpr ⟨Nat.beq_refl x,ch9 h hk⟩
noncomputable abbrev PaOk (cf:Or):Prop:=∀ d t,PI d t→Says cf i_write_pattern [d] (.str t)
noncomputable abbrev TyOk (cf:Or):Prop:=∀ td ty,TI td ty→Says cf i_write_type [.tup td] (.str ty)
section
variable {cf:Or}{gd sd rd bd:D}{gt rt bt:T}{prm:List D}{pl sl:List T}{pb:Bool}{l:List (Nat×D)}{ds:List D}{π:Pi}{r:D→Pi→Prop}
theorem fn_t1 (hds:ds.length≤1) (hi:getV l 6064203117=some (fnD gd sd prm rd bd pb)) (hP:PrmOk prm pl) (hp:PaOk cf) (hR:ResOk rd rt) (ht:TyOk cf) (hg:Says cf i_write_generics [gd] (.str gt)) (hj:JOk (ds++pl.map .str))
  (hb:(hdT gt (jn (ds++pl.map .str)) rt++bt).length≤PB) (hbd:BodyOk cf bd bt) (hk:r (.str (hdT gt (jn (ds++pl.map .str)) rt++bt)) π):
  wSs (tl2 f_write_fn.body) cf ⟨l,[],some (405038809836915,ds)⟩ π (fun _ _=>False) r:=by
 refine onD_of hi ?_
 rcases hP with ⟨rfl,rfl⟩ | ⟨pd,pt,td,ty,P,Y,⟨rfl,rfl⟩ | ⟨rfl,rfl⟩⟩
 ·have e:ds++List.map D.str []=ds:=List.append_nil _
  rw [e] at hj hb hk
  exact fn_t2 hi hR ht hg hj hb hbd hk
 ·refine hp _ _ P π _ ⟨(prm_len P Y).1,ht _ _ Y π _ ⟨prm_len2 P Y,?_⟩⟩
  exact app_ok (by lia) (fn_t2 (l:=(6248426596,.tup td)::(103689944226427502,pd)::l) hi hR ht hg hj hb hbd hk)
 ·have e:ds++List.map D.str [prmT pt ty,prmT pt ty]=(ds++[.str (prmT pt ty)])++[.str (prmT pt ty)]:=by simp
  rw [e] at hj hb hk
  refine hp _ _ P π _ ⟨(prm_len P Y).1,ht _ _ Y π _ ⟨prm_len2 P Y,?_⟩⟩
  refine app_ok (by lia) (hp _ _ P π _ ⟨(prm_len P Y).1,ht _ _ Y π _ ⟨prm_len2 P Y,?_⟩⟩)
  exact app_ok (by rw [List.length_append];simp only [List.length_cons,List.length_nil];lia) (fn_t2 (l:=(6248426596,.tup td)::(103689944226427502,pd)::(6248426596,.tup td)::(103689944226427502,pd)::l) hi hR ht hg hj hb hbd hk)
theorem fn_t0 (hS:SelfOk sd sl) (hP:PrmOk prm pl) (hp:PaOk cf) (hR:ResOk rd rt) (ht:TyOk cf) (hg:Says cf i_write_generics [gd] (.str gt)) (hj:JOk ((sl++pl).map .str))
  (hb:(hdT gt (jn ((sl++pl).map .str)) rt++bt).length≤PB) (hbd:BodyOk cf bd bt) (hk:r (.str (hdT gt (jn ((sl++pl).map .str)) rt++bt)) π):
  wSs f_write_fn.body cf ⟨[(6064203117,fnD gd sd prm rd bd pb)],[],none⟩ π (fun _ _=>False) r:=by
 rcases hS with ⟨rfl,rfl⟩ | ⟨s,st,rfl,rfl,S⟩
 ·exact fn_t1 (l:=[(6064203117,fnD gd _ prm rd bd pb)]) (ds:=[]) (by decide) rfl hP hp hR ht hg hj hb hbd hk
 ·exact onD_of S.lk (fn_t1 (l:=[(6064203117,fnD gd _ prm rd bd pb)]) (ds:=[.str st]) (by simp) rfl hP hp hR ht hg hj hb hbd hk)
theorem w_fn {N:Nat}(hS:SelfOk sd sl) (hP:PrmOk prm pl) (hR:ResOk rd rt) (G:GI gd gt) (hj:JOk ((sl++pl).map .str))
  (hb:(hdT gt (jn ((sl++pl).map .str)) rt++bt).length≤PB) (hbd:(bd=.none∧bt=[59])∨∃ r tb,bd=.tup (.str [98,108,111,99,107]::r)∧bt=[32]++tb∧Sure N 7 i_write_block [bd] (.str tb)):
  Sure N 8 i_write_fn [fnD gd sd prm rd bd pb] (.str (hdT gt (jn ((sl++pl).map .str)) rt++bt)):=by
 refine Sure.of (a1:=7) g_write_fn (P:=fun cf=>PaOk cf∧TyOk cf∧Says cf i_write_generics [gd] (.str gt)∧BodyOk cf bd bt) (fun K hK=>⟨fun d t P=>P.sw K hK,fun d t Y=>Y.sw.up (j:=7) rfl K hK,G.sw.up (j:=7) rfl K hK,?_⟩)
  fun cf h π k hk=>e_write_fn (fn_t0 hS hP h.1 hR h.2.1 h.2.2.1 hj hb h.2.2.2 hk)
 rcases hbd with h | ⟨r,tb,h1,h2,h3⟩
 ·exact .inl h
 ·exact .inr ⟨r,tb,h1,h2,h3 K hK⟩
end
end
section
open PySem PySem.W
noncomputable def pubT:Bool→T
 | true=>[112,117,98,32]
 | false=>[]
theorem pub_tx {pb:Bool}{x:T}{n:Nat}(h:TxOk x n):TxOk (pubT pb++x) (4+n):=by
 cases pb
 ·exact ⟨h.ok,h.at',by have:=h.ln;show x.length≤_;lia⟩
 ·refine ⟨okT_app rfl h.ok,?_,?_⟩
  ·show attr ([112,117,98,32]++x)=good
   rw [attr_app,h.at'];rfl
  ·show ([112,117,98,32]++x).length≤_
   have:=h.ln
   rw [List.length_append];simp only [List.length_cons,List.length_nil];lia
structure II (N M k:Nat) (it:D) (g:Dc):Prop where
 hM:M≤32950
 hk:k≤8
 q:Ql M k 1 0 good g
 sw:Sure N 0 i_write_item [it] (.str (pretty g))
theorem II.wk {N M k N' M' k':Nat}{d:D}{g:Dc}(R:II N M k d g) (hN:N≤N') (h:M≤M') (h1:M'≤32950) (h2:k≤k') (h3:k'≤8):II N' M' k' d g:=
 ⟨h1,h3,R.q.wk (by lia) h2,R.sw.mn hN⟩
structure TlD (k n:Nat) (x:Dc):Prop where
 wf:WF x
 at':flat x=[]∨attr (flat x)=good∨attr (flat x)=(some 0,some 2,true)
 ln:(flat x).length≤n
 dp:dep x≤k
theorem TlOk.d {k n:Nat}{t:T}(h:TlOk t n):TlD k n (.txt t):=⟨h.ok,h.at',h.ln,Nat.zero_le _⟩
theorem TxOk.q {M k n:Nat}{t:T}(h:TxOk t n):Ql M k 0 n good (.txt t):=Ql.var h.ok h.at' h.ln
theorem Ql.tl {M k c d n:Nat}{x y:Dc}(h:Ql M k c d good x) (i:TlD k n y):Ql M k c (d+n) good (.cat x y) where
 wf:=⟨h.wf,i.wf⟩
 at':=by
  rw [attr_cat,h.at']
  rcases i.at' with e | e | e
  ·have e2:attr (flat y)=(none,none,true):=by rw [e];rfl
   rw [e2];rfl
  ·rw [e];rfl
  ·rw [e];rfl
 len:=by have:=h.len;have:=i.ln;simp only [flat,List.length_append];lia
 dp:=by have:=h.dp;have:=i.dp;simp only [dep];lia
theorem Ql.rows {M k c d c' d':Nat}{x:Dc}{rs:DcL}(h:Ql M (k+1) c d good x) (i:Qls M k c' d' rs):Ql M (k+1) (c+0+c') (d+1+(d'+4)) good (.cat (.cat x (.txt [32])) (.br rs)):=by
 have q:=(h.cat (Ql.txt (t:=[32]) rfl)).cat (Ql.br i)
 exact ⟨q.wf,q.at'.trans rfl,q.len,q.dp⟩
section
variable {cf:Or}{its:List D}{kd:T}{pb:Bool}{π:Pi}{r:D→Pi→Prop}
theorem wi_head (h0:its[0]?=some (.str kd)) (hi:eqT kd [105,109,112,108]=false) (hl:idxO its (-1)=some (.bool pb))
  (h:wSs (tl (tl2 f_write_item.body)) cf ⟨[(24147298,.str (pubT pb)),(6097038948,.str kd),(6064203117,.tup its)],[],none⟩ π (fun _ _=>False) r):
  wSs f_write_item.body cf ⟨[(6064203117,.tup its)],[],none⟩ π (fun _ _=>False) r:=by
 refine onD_of h0 (iteF hi (onD_of hl ?_))
 cases pb
 ·exact h
 ·exact h
end
section
variable {N M k:Nat}{gd sd rd bd:D}{gt rt bt:T}{prm:List D}{pl sl:List T}{pb fp:Bool}{td:List D}{ty:T}
theorem w_ifn {t:T}(h:Sure N 8 i_write_fn [fnD gd sd prm rd bd pb] (.str t)) (hb:(pubT pb++t).length≤PB):Sure N 9 i_write_item [fnD gd sd prm rd bd pb] (.str (pubT pb++t)):=
 Sure.of g_write_item h fun cf hf π k hk=>e_write_item (wi_head rfl rfl rfl (hf π _ ⟨PBS hb,hk⟩))
structure FoI (fm:T) (fs:D) (gf:Dc):Prop where
 sw:∀ {N:Nat},Sure N 8 i_write_form [.str fm,fs] (.str (pretty gf))
 q:TlD 1 60 gf
noncomputable abbrev fT (fp:Bool) (ty:T):T:=pubT fp++[97]++[58,32]++ty++[44]
theorem fi_0:FoI [117,110,105,116] (.tup []) (.txt []):=⟨Sure.of0 g_write_form fun cf π k hk=>e_write_form hk,TlOk.nil.d⟩
theorem ty_len {a b:T}(h:TxOk b 16) (ha:a.length≤20):(a++b).length≤36:=by
 have:=h.ln;rw [List.length_append];lia
theorem le_PB {n m:Nat}(h:n≤m) (hm:Nat.ble m 1000=true):n≤PB:=by
 have e:PB=1089000:=rfl
 have:=Nat.le_of_ble_eq_true hm;lia
theorem fi_1 (Y:TI td ty):FoI [116,117,112,108,101] (.tup [.tup [.str [48],.tup td,.bool fp],.tup [.str [49],.tup td,.bool false]]) (.txt ([40]++(pubT fp++ty++[44,32]++([]++ty))++[41])):=by
 have t1:TxOk (pubT fp++ty) 20:=pub_tx Y.tx
 have t2:TxOk (pubT fp++ty++[44,32]++([]++ty)) 38:=by
  rw [List.append_assoc]
  exact t1.app (Y.tx.sp (s:=[44,32]) (m:=2) rfl (.inr rfl) (by decide))
 have t3:TxOk ([40]++(pubT fp++ty++[44,32]++([]++ty))++[41]) 40:=
  TxOk.app (n:=39) (m:=1) (TxOk.app (x:=[40]) (n:=1) (m:=38) ⟨rfl,rfl,by decide⟩ t2.tl) ⟨rfl,.inr (.inl rfl),by decide⟩
 have hb:([40]++(pubT fp++ty++[44,32]++([]++ty))++[41]).length≤PB:=le_PB t3.ln rfl
 refine ⟨fun {N}=>?_,TlOk.d ⟨t3.ok,.inr (.inl t3.at'),Nat.le_trans t3.ln (by decide)⟩⟩
 refine Sure.of g_write_form Y.sw fun cf hy π k hk=>e_write_form ?_
 have w1:(pubT fp++ty).length≤PB:=le_PB t1.ln rfl
 have w2:(([]:T)++ty).length≤PB:=le_PB Y.tx.ln rfl
 cases fp
 ·exact hy π _ ⟨PBS w1,hy π _ ⟨PBS w2,jok2 w1 w2 rfl,PBS (bl hb),PBS hb,hk⟩⟩
 ·exact hy π _ ⟨PBS w1,hy π _ ⟨PBS w2,jok2 w1 w2 rfl,PBS (bl hb),PBS hb,hk⟩⟩
theorem fT_tx (fp:Bool) (Y:TI td ty):TxOk (fT fp ty) 24:=by
 have t1:TxOk (pubT fp++[97]) 5:=pub_tx (n:=1) ⟨rfl,rfl,by decide⟩
 have t2:TxOk (fT fp ty) (5+(2+16)+1):=by
  show TxOk ((pubT fp++[97]++[58,32]++ty)++[44]) _
  rw [List.append_assoc (pubT fp++[97])]
  exact (t1.app (Y.tx.sp (s:=[58,32]) (m:=2) rfl (.inr rfl) (by decide))).app ⟨rfl,.inr (.inl rfl),by decide⟩
 exact t2
theorem br_tl {rs:DcL}{d:Nat}(i:Qls 0 0 0 d rs):TlD 1 (1+(d+4)) (.cat (.txt [32]) (.br rs)):=by
 have q:=(Ql.txt (M:=0) (k:=1) (t:=[32]) rfl).cat (Ql.br i)
 refine ⟨q.wf,.inr (.inr (q.at'.trans rfl)),?_,q.dp⟩
 have:=q.len
 simp only [List.length_cons,List.length_nil] at this
 lia
theorem fi_2 (Y:TI td ty):FoI [110,97,109,101,100] (.tup [.tup [.str [97],.tup td,.bool fp]]) (.cat (.txt [32]) (.br (.cons (.txt (fT fp ty)) .nil))):=by
 have t:=fT_tx fp Y
 have i:Qls 0 0 0 (24+0+1) (.cons (.txt (fT fp ty)) .nil):=Qls.cons (Ql.var (n:=24) t.ok t.at' t.ln) Qls.nil
 have hb:(pretty (.br (.cons (.txt (fT fp ty)) .nil))).length≤PB:=(Ql.br i).pl (by decide) (by decide)
 have h2:([32]++pretty (.br (.cons (.txt (fT fp ty)) .nil))).length≤PB:=((Ql.txt (M:=0) (k:=1) (t:=[32]) rfl).cat (Ql.br i)).pl (by decide) (by decide)
 have f:(fT fp ty).length≤PB:=le_PB t.ln rfl
 have q:=br_tl i
 refine ⟨fun {N}=>?_,q.wf,q.at',Nat.le_trans q.ln (by decide),q.dp⟩
 refine Sure.of2 g_write_form Y.sw (wrows _ hb) fun cf hy hw π k hk=>e_write_form ?_
 cases fp
 ·exact ⟨PBS (bl (bl (bl f))),PBS (bl (bl f)),hy π _ ⟨PBS (bl f),PBS f,hw π _ ⟨PBS h2,hk⟩⟩⟩
 ·exact ⟨PBS (bl (bl (bl f))),PBS (bl (bl f)),hy π _ ⟨PBS (bl f),PBS f,hw π _ ⟨PBS h2,hk⟩⟩⟩
theorem fi_3:FoI [110,97,109,101,100] (.tup []) (.cat (.txt [32]) (.br .nil)):=by
 have hb:(pretty (.br .nil)).length≤PB:=(Ql.br Qls.nil (M:=0) (k:=0)).pl (by decide) (by decide)
 have h2:([32]++pretty (.br .nil)).length≤PB:=((Ql.txt (M:=0) (k:=1) (t:=[32]) rfl).cat (Ql.br Qls.nil)).pl (by decide) (by decide)
 have q:=br_tl Qls.nil
 exact ⟨fun {N}=>Sure.of g_write_form (wrows _ hb) fun cf hw π k hk=>e_write_form (hw π _ ⟨PBS h2,hk⟩),q.wf,q.at',Nat.le_trans q.ln (by decide),q.dp⟩
theorem hd_tx {w:T}{n:Nat}(G:GI gd gt) (h:TxOk w n):TxOk (pubT pb++w++gt) (4+n+17):=(pub_tx h).app G.tx
noncomputable def endT (fm:T):T:=if eqT fm [110,97,109,101,100]=true then [] else [59]
theorem end_tl (fm:T):TlD 1 1 (.txt (endT fm)):=by
 unfold endT
 split
 ·exact TlOk.nil.d
 ·exact TlOk.d ⟨rfl,.inr (.inl rfl),by decide⟩
theorem i_struct {fm:T}{fs:D}{gf:Dc}(F:FoI fm fs gf) (G:GI gd gt):II (N+10) 200 1 (.tup [.str [115,116,114,117,99,116],.int 0,.str [83],gd,.str fm,fs,.bool pb]) (.cat (.cat (.txt (pubT pb++[115,116,114,117,99,116,32,83]++gt)) gf) (.txt (endT fm))):=by
 have q:Ql 0 1 0 (4+8+17+60+1) good (.cat (.cat (.txt (pubT pb++[115,116,114,117,99,116,32,83]++gt)) gf) (.txt (endT fm))):=((hd_tx G ⟨rfl,rfl,by decide⟩).q.tl F.q).tl (end_tl fm)
 have hb:=q.pl (by decide) (by decide)
 refine ⟨by decide,by decide,q.wk (by decide) (by decide),Ev.sh (j:=10) ?_⟩
 refine Sure.of2 g_write_item G.sw F.sw fun cf hg hf π k hk=>e_write_item ?_
 have q1:=bl hb
 have q2:=bl q1
 have q3:(pubT pb++[115,116,114,117,99,116,32,83]).length≤PB:=bl q2
 have e1:pubT pb++[115,116,114,117,99,116,32,83]=pubT pb++[115,116,114,117,99,116,32]++[83]:=by cases pb <;> rfl
 refine wi_head rfl rfl rfl ?_
 have q4:=q3
 rw [e1] at q4
 have hp:pretty (.cat (.cat (.txt (pubT pb++[115,116,114,117,99,116,32,83]++gt)) gf) (.txt (endT fm)))=pubT pb++[115,116,114,117,99,116,32]++[83]++gt++pretty gf++endT fm:=by rw [←e1];rfl
 rw [hp] at hb hk
 have q5:=bl hb
 cases h:eqT fm [110,97,109,101,100]
 ·have e:endT fm=[59]:=if_neg (by rw [h];decide)
  rw [e] at hk hb
  exact iteF h ⟨PBS (bl q4),PBS q4,hg π _ ⟨PBS (bl q5),hf π _ ⟨PBS q5,PBS hb,hk⟩⟩⟩
 ·have e:endT fm=[]:=if_pos h
  rw [e] at hk hb
  exact iteT h ⟨PBS (bl q4),PBS q4,hg π _ ⟨PBS (bl q5),hf π _ ⟨PBS q5,PBS hb,hk⟩⟩⟩
end
end
section
open PySem PySem.W
section
variable {N M k:Nat}{gd sd rd bd:D}{gt rt bt:T}{prm:List D}{pl sl:List T}{pb fp:Bool}{td:List D}{ty:T}
theorem prm_tx {d:D}{pt:T}(P:PI d pt) (Y:TI td ty):TxOk (prmT pt ty) 34:=by
 show TxOk (pt++[58,32]++ty) _
 rw [List.append_assoc]
 exact P.tx.app (Y.tx.sp (s:=[58,32]) (m:=2) rfl (.inr rfl) (by decide))
theorem j2_tx {a b:T}{n m:Nat}(h:TxOk a n) (i:TxOk b m):TxOk (a++[44,32]++b) (n+(2+m)):=by
 rw [List.append_assoc]
 exact h.app (i.sp (s:=[44,32]) (m:=2) rfl (.inr rfl) (by decide))
theorem TxOk.wk {t:T}{n m:Nat}(h:TxOk t n) (l:n≤m):TxOk t m:=⟨h.ok,h.at',Nat.le_trans h.ln l⟩
theorem TxOk.b {t:T}{n:Nat}(h:TxOk t n) (l:Nat.ble n 1000=true):t.length≤PB:=le_PB h.ln l
theorem pj_ok (hS:SelfOk sd sl) (hP:PrmOk prm pl):TlOk (jn ((sl++pl).map .str)) 85∧JOk ((sl++pl).map .str):=by
 rcases hS with ⟨rfl,rfl⟩ | ⟨s,st,rfl,rfl,S⟩
 ·rcases hP with ⟨rfl,rfl⟩ | ⟨pd,pt,td,ty,P,Y,⟨rfl,rfl⟩ | ⟨rfl,rfl⟩⟩
  ·exact ⟨.nil,jok0⟩
  ·have t:=prm_tx P Y
   exact ⟨(t.wk (by decide)).tl,jok1 (t.b rfl) rfl⟩
  ·have t:=prm_tx P Y
   exact ⟨((j2_tx t t).wk (by decide)).tl,jok2 (t.b rfl) (t.b rfl) rfl⟩
 ·have u:=S.tx
  rcases hP with ⟨rfl,rfl⟩ | ⟨pd,pt,td,ty,P,Y,⟨rfl,rfl⟩ | ⟨rfl,rfl⟩⟩
  ·exact ⟨(u.wk (by decide)).tl,jok1 (u.b rfl) rfl⟩
  ·have t:=prm_tx P Y
   exact ⟨((j2_tx u t).wk (by decide)).tl,jok2 (u.b rfl) (t.b rfl) rfl⟩
  ·have t:=prm_tx P Y
   exact ⟨((j2_tx u (j2_tx t t)).wk (by decide)).tl,jok3 (u.b rfl) (t.b rfl) (t.b rfl) rfl⟩
theorem rt_ok (hR:ResOk rd rt):TlOk rt 20:=by
 rcases hR with ⟨rfl,rfl⟩ | ⟨td,ty,rfl,rfl,Y⟩
 ·exact .nil
 ·exact Y.tx.sp (s:=[32,45,62,32]) (m:=4) rfl (.inl rfl) (by decide)
theorem hdT_tx (G:GI gd gt){pj:T}(hj:TlOk pj 85) (hr:TlOk rt 20):TxOk (hdT gt pj rt) (4+17+1+85+1+20):=
 ((((TxOk.app (x:=[102,110,32,102]) (n:=4) ⟨rfl,rfl,by decide⟩ G.tx).app (y:=[40]) (m:=1) ⟨rfl,.inr (.inl rfl),by decide⟩).app hj).app (y:=[41]) (m:=1) ⟨rfl,.inr (.inl rfl),by decide⟩).app hr
theorem pub_as (pb:Bool) (a b:T):pubT pb++(a++b)=pubT pb++a++b:=(List.append_assoc _ _ _).symm
theorem i_fn0 (hS:SelfOk sd sl) (hP:PrmOk prm pl) (hR:ResOk rd rt) (G:GI gd gt):
  II (N+10) 200 1 (fnD gd sd prm rd .none pb) (.cat (.txt (pubT pb++hdT gt (jn ((sl++pl).map .str)) rt)) (.txt [59])):=by
 obtain ⟨hj,hJ⟩:=pj_ok hS hP
 have t:=pub_tx (pb:=pb) (hdT_tx G hj (rt_ok hR))
 have q:Ql 0 1 0 _ good (.cat (.txt (pubT pb++hdT gt (jn ((sl++pl).map .str)) rt)) (.txt [59])):=t.q.tl (TlOk.d (n:=1) ⟨rfl,.inr (.inl rfl),by decide⟩)
 have hb:=q.pl (by decide) (by decide)
 refine ⟨by decide,by decide,q.wk (by decide) (by decide),Ev.sh (j:=10) ?_⟩
 have e:pretty (.cat (.txt (pubT pb++hdT gt (jn ((sl++pl).map .str)) rt)) (.txt [59]))=pubT pb++(hdT gt (jn ((sl++pl).map .str)) rt++[59]):=(pub_as pb _ _).symm
 rw [e] at hb ⊢
 exact (w_ifn (w_fn hS hP hR G hJ (br hb) (.inl ⟨rfl,rfl⟩)) hb).up rfl
theorem i_fn1 {r:List D}{b:Dc}(B:BI N M k r b) (hM:M+140≤32950) (hS:SelfOk sd sl) (hP:PrmOk prm pl) (hR:ResOk rd rt) (G:GI gd gt):
  II (N+10) (M+140) k (fnD gd sd prm rd (.tup (.str [98,108,111,99,107]::r)) pb) (.cat (.txt (pubT pb++hdT gt (jn ((sl++pl).map .str)) rt)) (.cat (.txt [32]) b)):=by
 obtain ⟨hj,hJ⟩:=pj_ok hS hP
 have t:=pub_tx (pb:=pb) (hdT_tx G hj (rt_ok hR))
 have q0:=(t.q (M:=M) (k:=k)).cat ((Ql.txt (t:=[32]) rfl).cat (B.E.q false))
 have q:Ql M k 1 133 good (.cat (.txt (pubT pb++hdT gt (jn ((sl++pl).map .str)) rt)) (.cat (.txt [32]) b)):=⟨q0.wf,q0.at'.trans rfl,q0.len,q0.dp⟩
 have hb:=q.pl (by lia) B.E.hk
 refine ⟨hM,B.E.hk,q.wk (by lia) (Nat.le_refl _),Ev.sh (j:=10) ?_⟩
 have e:pretty (.cat (.txt (pubT pb++hdT gt (jn ((sl++pl).map .str)) rt)) (.cat (.txt [32]) b))=pubT pb++(hdT gt (jn ((sl++pl).map .str)) rt++([32]++pretty b)):=(pub_as pb _ _).symm
 rw [e] at hb ⊢
 exact (w_ifn (w_fn hS hP hR G hJ (br hb) (.inr ⟨_,_,rfl,rfl,B.wb.up rfl⟩)) hb).up rfl
noncomputable abbrev enD (h:T) (rs:DcL):Dc:=.cat (.cat (.txt h) (.txt [32])) (.br rs)
noncomputable abbrev uA:D:=.tup [.str [65],.str [117,110,105,116],.tup []]
theorem i_enum0 (G:GI gd gt):II (N+10) 200 1 (.tup [.str [101,110,117,109],.int 0,.str [69],gd,.tup [],.bool pb]) (enD (pubT pb++[101,110,117,109,32,69]++gt) .nil):=by
 have q:=Ql.rows (M:=0) (k:=0) (hd_tx (pb:=pb) (w:=[101,110,117,109,32,69]) (n:=6) G ⟨rfl,rfl,by decide⟩).q Qls.nil
 have hb:=q.pl (by decide) (by decide)
 have hr:(pretty (.br .nil)).length≤PB:=br hb
 have q3:=bl (bl (bl hb))
 have e1:pubT pb++[101,110,117,109,32,69]=pubT pb++[101,110,117,109,32]++[69]:=by cases pb <;> rfl
 refine ⟨by decide,by decide,q.wk (by decide) (by decide),Ev.sh (j:=10) ?_⟩
 refine Sure.of2 g_write_item G.sw (wrows _ hr) fun cf hg hw π k hk=>e_write_item ?_
 have hp:pretty (enD (pubT pb++[101,110,117,109,32,69]++gt) .nil)=pubT pb++[101,110,117,109,32]++[69]++gt++[32]++pretty (.br .nil):=by rw [←e1];rfl
 rw [hp] at hb hk
 rw [e1] at q3
 exact wi_head rfl rfl rfl ⟨PBS (bl q3),PBS q3,hg π _ ⟨PBS (bl (bl hb)),PBS (bl hb),hw π _ ⟨PBS hb,hk⟩⟩⟩
theorem i_enum1 (G:GI gd gt):II (N+10) 200 1 (.tup [.str [101,110,117,109],.int 0,.str [69],gd,.tup [uA],.bool pb]) (enD (pubT pb++[101,110,117,109,32,69]++gt) (.cons (.txt [65,44]) .nil)):=by
 have q:=Ql.rows (M:=0) (k:=0) (hd_tx (pb:=pb) (w:=[101,110,117,109,32,69]) (n:=6) G ⟨rfl,rfl,by decide⟩).q (Qls.cons (Ql.txt (t:=[65,44]) rfl) Qls.nil)
 have hb:=q.pl (by decide) (by decide)
 have hr:(pretty (.br (.cons (.txt [65,44]) .nil))).length≤PB:=br hb
 have q3:=bl (bl (bl hb))
 have e1:pubT pb++[101,110,117,109,32,69]=pubT pb++[101,110,117,109,32]++[69]:=by cases pb <;> rfl
 refine ⟨by decide,by decide,q.wk (by decide) (by decide),Ev.sh (j:=10) ?_⟩
 refine Sure.of3 g_write_item G.sw (wrows _ hr) fi_0.sw fun cf hg hw hf π k hk=>e_write_item ?_
 have hp:pretty (enD (pubT pb++[101,110,117,109,32,69]++gt) (.cons (.txt [65,44]) .nil))=pubT pb++[101,110,117,109,32]++[69]++gt++[32]++pretty (.br (.cons (.txt [65,44]) .nil)):=by rw [←e1];rfl
 rw [hp] at hb hk
 rw [e1] at q3
 exact wi_head rfl rfl rfl (hf π _ ⟨by decide,by decide,PBS (bl q3),PBS q3,hg π _ ⟨PBS (bl (bl hb)),PBS (bl hb),hw π _ ⟨PBS hb,hk⟩⟩⟩)
noncomputable abbrev bRow (gf:Dc):Dc:=.cat (.cat (.txt [66]) gf) (.txt [44])
theorem i_enum2 {fm:T}{fs:D}{gf:Dc}(F:FoI fm fs gf) (G:GI gd gt):II (N+10) 200 2 (.tup [.str [101,110,117,109],.int 0,.str [69],gd,.tup [uA,.tup [.str [66],.str fm,fs]],.bool pb]) (enD (pubT pb++[101,110,117,109,32,69]++gt) (.cons (.txt [65,44]) (.cons (bRow gf) .nil))):=by
 have qb:Ql 0 1 0 62 good (bRow gf):=((Ql.txt (t:=[66]) rfl).tl F.q).tl (TlOk.d (n:=1) ⟨rfl,.inr (.inl rfl),by decide⟩)
 have q:=Ql.rows (M:=0) (k:=1) (hd_tx (pb:=pb) (w:=[101,110,117,109,32,69]) (n:=6) G ⟨rfl,rfl,by decide⟩).q (Qls.cons (Ql.txt (t:=[65,44]) rfl) (Qls.cons qb Qls.nil))
 have hb:=q.pl (by decide) (by decide)
 have hB:(pretty (bRow gf)).length≤PB:=qb.pl (by decide) (by decide)
 have hr:(pretty (.br (.cons (.txt [65,44]) (.cons (bRow gf) .nil)))).length≤PB:=br hb
 have q3:=bl (bl (bl hb))
 have e1:pubT pb++[101,110,117,109,32,69]=pubT pb++[101,110,117,109,32]++[69]:=by cases pb <;> rfl
 refine ⟨by decide,by decide,q.wk (by decide) (by decide),Ev.sh (j:=10) ?_⟩
 refine Sure.of4 g_write_item G.sw (wrows _ hr) fi_0.sw F.sw fun cf hg hw hf hF π k hk=>e_write_item ?_
 have hp:pretty (enD (pubT pb++[101,110,117,109,32,69]++gt) (.cons (.txt [65,44]) (.cons (bRow gf) .nil)))=pubT pb++[101,110,117,109,32]++[69]++gt++[32]++pretty (.br (.cons (.txt [65,44]) (.cons (bRow gf) .nil))):=by rw [←e1];rfl
 rw [hp] at hb hk
 rw [e1] at q3
 exact wi_head rfl rfl rfl (hf π _ ⟨by decide,by decide,hF π _ ⟨PBS (bl hB),PBS hB,PBS (bl q3),PBS q3,hg π _ ⟨PBS (bl (bl hb)),PBS (bl hb),hw π _ ⟨PBS hb,hk⟩⟩⟩⟩)
noncomputable def ItsOk (N M k:Nat) (its:List D) (rs:DcL):Prop:=(its=[]∧rs=.nil)∨∃ it g,its=[it]∧rs=.cons g .nil∧II N M k it g
theorem ItsOk.q {its:List D}{rs:DcL}(h:ItsOk N M k its rs):Qls M k 1 1 rs:=by
 rcases h with ⟨rfl,rfl⟩ | ⟨it,g,rfl,rfl,I⟩
 ·have q:=Qls.nil (M:=M) (k:=k)
  exact ⟨q.wf,q.at',Nat.le_trans q.len (by lia),q.dp⟩
 ·exact Qls.cons I.q Qls.nil
theorem i_trait {its:List D}{rs:DcL}(I:ItsOk N M k its rs) (hM:M+50≤32950) (hk8:k+1≤8) (G:GI gd gt):
  II (N+10) (M+50) (k+1) (.tup [.str [116,114,97,105,116],.int 0,.str [84,114],gd,.tup its,.bool pb]) (enD (pubT pb++[116,114,97,105,116,32,84,114]++gt) rs):=by
 have q:=Ql.rows (hd_tx (pb:=pb) (w:=[116,114,97,105,116,32,84,114]) (n:=8) G ⟨rfl,rfl,by decide⟩).q I.q
 have hb:=q.pl (by lia) hk8
 have hr:(pretty (.br rs)).length≤PB:=br hb
 have q3:=bl (bl (bl hb))
 have e1:pubT pb++[116,114,97,105,116,32,84,114]=pubT pb++[116,114,97,105,116,32]++[84,114]:=by cases pb <;> rfl
 refine ⟨hM,hk8,q.wk (by lia) (Nat.le_refl _),Ev.sh (j:=10) ?_⟩
 have hp:pretty (enD (pubT pb++[116,114,97,105,116,32,84,114]++gt) rs)=pubT pb++[116,114,97,105,116,32]++[84,114]++gt++[32]++pretty (.br rs):=by rw [←e1];rfl
 rw [e1] at q3
 rw [hp] at hb ⊢
 rcases I with ⟨rfl,rfl⟩ | ⟨it,g,rfl,rfl,I⟩
 ·refine Sure.of2 g_write_item G.sw (wrows _ hr) fun cf hg hw π k hk=>e_write_item ?_
  exact wi_head rfl rfl rfl ⟨PBS (bl q3),PBS q3,hg π _ ⟨PBS (bl (bl hb)),PBS (bl hb),hw π _ ⟨PBS hb,hk⟩⟩⟩
 ·refine Sure.of3 g_write_item G.sw (wrows _ hr) I.sw fun cf hg hw hi π k hk=>e_write_item ?_
  exact wi_head rfl rfl rfl ⟨PBS (bl q3),PBS q3,hg π _ ⟨PBS (bl (bl hb)),PBS (bl hb),hi π _ (hw π _ ⟨PBS hb,hk⟩)⟩⟩
theorem i_mod {its:List D}{rs:DcL}(I:ItsOk N M k its rs) (hM:M+50≤32950) (hk8:k+1≤8):
  II (N+10) (M+50) (k+1) (.tup [.str [109,111,100],.int 0,.str [109],.tup its,.bool pb]) (enD (pubT pb++[109,111,100,32,109]) rs):=by
 have q:=Ql.rows (TxOk.q (pub_tx (pb:=pb) (x:=[109,111,100,32,109]) (n:=5) ⟨rfl,rfl,by decide⟩)) I.q
 have hb:=q.pl (by lia) hk8
 have hr:(pretty (.br rs)).length≤PB:=br hb
 have q3:=bl (bl hb)
 have e1:pubT pb++[109,111,100,32,109]=pubT pb++[109,111,100,32]++[109]:=by cases pb <;> rfl
 refine ⟨hM,hk8,q.wk (by lia) (Nat.le_refl _),Ev.sh (j:=10) ?_⟩
 have hp:pretty (enD (pubT pb++[109,111,100,32,109]) rs)=pubT pb++[109,111,100,32]++[109]++[32]++pretty (.br rs):=by rw [←e1];rfl
 rw [e1] at q3
 rw [hp] at hb ⊢
 rcases I with ⟨rfl,rfl⟩ | ⟨it,g,rfl,rfl,I⟩
 ·refine Sure.of g_write_item (wrows _ hr) fun cf hw π k hk=>e_write_item ?_
  exact wi_head rfl rfl rfl ⟨PBS (bl q3),PBS q3,PBS (bl hb),hw π _ ⟨PBS hb,hk⟩⟩
 ·refine Sure.of2 g_write_item (wrows _ hr) I.sw fun cf hw hi π k hk=>e_write_item ?_
  exact wi_head rfl rfl rfl ⟨PBS (bl q3),PBS q3,PBS (bl hb),hi π _ (hw π _ ⟨PBS hb,hk⟩)⟩
noncomputable def TrOk (trd:D) (tt:T):Prop:=(trd=.none∧tt=[])∨(trd=pTr∧tt=[84,114,60,117,56,62,32,102,111,114,32])
theorem i_impl {its:List D}{rs:DcL}{trd:D}{tt:T}(I:ItsOk N M k its rs) (hM:M+80≤32950) (hk8:k+1≤8) (G:GI gd gt) (R:TrOk trd tt) (Y:TI td ty):
  II (N+10) (M+80) (k+1) (.tup [.str [105,109,112,108],.int 0,gd,trd,.tup td,.tup its]) (enD ([105,109,112,108]++gt++[32]++tt++ty) rs):=by
 have ht:TxOk ([105,109,112,108]++gt++[32]++tt++ty) (4+17+(13+16)):=by
  have e:[105,109,112,108]++gt++[32]++tt++ty=([105,109,112,108]++gt)++(([32]++tt)++ty):=by rw [List.append_assoc ([105,109,112,108]++gt) [32] tt,List.append_assoc]
  rw [e]
  refine TxOk.app (TxOk.app (n:=4) ⟨rfl,rfl,by decide⟩ G.tx) ?_
  rcases R with ⟨rfl,rfl⟩ | ⟨rfl,rfl⟩
  ·exact Y.tx.sp (m:=13) rfl (.inl rfl) (by decide)
  ·exact Y.tx.sp (m:=13) rfl (.inl rfl) (by decide)
 have q:=Ql.rows ht.q I.q
 have hb:=q.pl (by lia) hk8
 have hr:(pretty (.br rs)).length≤PB:=br hb
 have q1:=bl (bl hb)
 have q2:=bl q1
 have q3:=bl q2
 have key:Sure N 9 i_write_impl [.tup [.str [105,109,112,108],.int 0,gd,trd,.tup td,.tup its]] (.str (pretty (enD ([105,109,112,108]++gt++[32]++tt++ty) rs))):=by
  rcases R with ⟨rfl,rfl⟩ | ⟨rfl,rfl⟩
  ·rcases I with ⟨rfl,rfl⟩ | ⟨it,g,rfl,rfl,I⟩
   ·exact Sure.of3 g_write_impl G.sw Y.sw (wrows _ hr) fun cf hg hy hw π k hk=>e_write_impl (hg π _ ⟨PBS (bl q3),PBS q3,PBS q2,hy π _ ⟨PBS q1,PBS (bl hb),hw π _ ⟨PBS hb,hk⟩⟩⟩)
   ·exact Sure.of4 g_write_impl G.sw Y.sw (wrows _ hr) I.sw fun cf hg hy hw hi π k hk=>e_write_impl (hg π _ ⟨PBS (bl q3),PBS q3,PBS q2,hy π _ ⟨PBS q1,PBS (bl hb),hi π _ (hw π _ ⟨PBS hb,hk⟩)⟩⟩)
  ·rcases I with ⟨rfl,rfl⟩ | ⟨it,g,rfl,rfl,I⟩
   ·exact Sure.of4 g_write_impl G.sw Y.sw (wrows _ hr) sy_pathTr fun cf hg hy hw hp π k hk=>e_write_impl (hp π _ ⟨by decide,hg π _ ⟨PBS (bl q3),PBS q3,PBS q2,hy π _ ⟨PBS q1,PBS (bl hb),hw π _ ⟨PBS hb,hk⟩⟩⟩⟩)
   ·exact Sure.of5 g_write_impl G.sw Y.sw (wrows _ hr) I.sw sy_pathTr fun cf hg hy hw hi hp π k hk=>e_write_impl (hp π _ ⟨by decide,hg π _ ⟨PBS (bl q3),PBS q3,PBS q2,hy π _ ⟨PBS q1,PBS (bl hb),hi π _ (hw π _ ⟨PBS hb,hk⟩)⟩⟩⟩)
 exact ⟨hM,hk8,q.wk (by lia) (Nat.le_refl _),Ev.sh (j:=10) (Sure.of g_write_item key fun cf h π k hk=>e_write_item (h π _ hk))⟩
end
end
section
open PySem PySem.W
noncomputable abbrev PL:List D:=[.str [99,114,97,116,101],.str [97],.str [98]]
section
variable {N M k:Nat}{gd sd rd bd:D}{gt rt bt:T}{prm:List D}{pl sl:List T}{pb fp:Bool}{td:List D}{ty:T}
theorem i_use0:II (N+10) 200 1 (.tup [.str [117,115,101],.int 0,.tup PL,.str [98],.bool pb]) (.txt (pubT pb++[117,115,101,32,99,114,97,116,101,58,58,97,58,58,98,59])):=by
 have t:=pub_tx (pb:=pb) (x:=[117,115,101,32,99,114,97,116,101,58,58,97,58,58,98,59]) (n:=16) ⟨rfl,rfl,by decide⟩
 refine ⟨by decide,by decide,(t.q (M:=0) (k:=0)).wk (by decide) (by decide),Ev.sh (j:=10) ?_⟩
 refine Sure.of0 g_write_item fun cf π k hk=>e_write_item (wi_head rfl rfl rfl ?_)
 cases pb
 ·exact ⟨by decide,jok3 (by decide) (by decide) (by decide) rfl,by decide,by decide,by decide,hk⟩
 ·exact ⟨by decide,jok3 (by decide) (by decide) (by decide) rfl,by decide,by decide,by decide,hk⟩
theorem i_use1:II (N+10) 200 1 (.tup [.str [117,115,101],.int 0,.tup PL,.str [99],.bool pb]) (.txt (pubT pb++[117,115,101,32,99,114,97,116,101,58,58,97,58,58,98,32,97,115,32,99,59])):=by
 have t:=pub_tx (pb:=pb) (x:=[117,115,101,32,99,114,97,116,101,58,58,97,58,58,98,32,97,115,32,99,59]) (n:=21) ⟨rfl,rfl,by decide⟩
 refine ⟨by decide,by decide,(t.q (M:=0) (k:=0)).wk (by decide) (by decide),Ev.sh (j:=10) ?_⟩
 refine Sure.of0 g_write_item fun cf π k hk=>e_write_item (wi_head rfl rfl rfl ?_)
 cases pb
 ·exact ⟨by decide,by decide,jok3 (by decide) (by decide) (by decide) rfl,by decide,by decide,by decide,hk⟩
 ·exact ⟨by decide,by decide,jok3 (by decide) (by decide) (by decide) rfl,by decide,by decide,by decide,hk⟩
theorem i_const {kd:T}{r:List D}{l:Int}{o:Bool}{f:Bool→Dc}(E:EI N M k kd r l o f) (hM:M+50≤32950):
  II (N+10) (M+50) k (.tup [.str [99,111,110,115,116],.int 0,.str [67],pathD [117,56],.tup (.str kd::r),.bool pb]) (.cat (.cat (.txt (pubT pb++[99,111,110,115,116,32,67,58,32,117,56,32,61,32])) (f false)) (.txt [59])):=by
 have q:Ql M k 1 21 good (.cat (.cat (.txt (pubT pb++[99,111,110,115,116,32,67,58,32,117,56,32,61,32])) (f false)) (.txt [59])):=by
  cases pb
  ·have q:=((Ql.txt (t:=[99,111,110,115,116,32,67,58,32,117,56,32,61,32]) rfl).cat (E.q false)).cat (Ql.txt (t:=[59]) rfl)
   exact ⟨q.wf,q.at'.trans rfl,Nat.le_trans q.len (by simp only [List.length_cons,List.length_nil];lia),q.dp⟩
  ·have q:=((Ql.txt (t:=[112,117,98,32,99,111,110,115,116,32,67,58,32,117,56,32,61,32]) rfl).cat (E.q false)).cat (Ql.txt (t:=[59]) rfl)
   exact ⟨q.wf,q.at'.trans rfl,Nat.le_trans q.len (by simp only [List.length_cons,List.length_nil];lia),q.dp⟩
 have hb:=q.pl (by lia) E.hk
 refine ⟨hM,E.hk,q.wk (by lia) (Nat.le_refl _),Ev.sh (j:=10) ?_⟩
 refine Sure.of2 g_write_item (we1 E) sy_u8 fun cf he hy π k hk=>e_write_item (wi_head rfl rfl rfl ?_)
 cases pb
 ·exact ⟨by decide,by decide,by decide,hy π _ ⟨by decide,by decide,he π _ ⟨PBS (bl hb),PBS hb,hk⟩⟩⟩
 ·exact ⟨by decide,by decide,by decide,hy π _ ⟨by decide,by decide,he π _ ⟨PBS (bl hb),PBS hb,hk⟩⟩⟩
end
noncomputable def IX (N M k:Nat) (d:D):Prop:=∃ it g,d=.lst [it,.str (flat g)]∧II N M k it g
theorem IX.of {N M k N' M' k':Nat}{it:D}{g:Dc}{t:T}(I:II N M k it g) (e:t=flat g) (hN:N≤N') (h:M≤M') (h1:M'≤32950) (h2:k≤k') (h3:k'≤8):IX N' M' k' (.lst [it,.str t]):=
 ⟨it,g,by rw [e],I.wk hN h h1 h2 h3⟩
noncomputable def GX (d:D):Prop:=∃ gd gt,d=.tup [gd,.str gt]∧GI gd gt
theorem generics_ev:GenS 3 i_law_generics [.pool] GX:=GenS.of g_law_generics one_ev fun cf h π k hπ hk=>e_law_generics
 (by refine h _ ⟨Nat.le_of_ble_eq_true rfl,Nat.le_of_ble_eq_true rfl⟩ GX ?_ π _ hπ hk;exact ⟨⟨_,_,rfl,gi_0⟩,⟨_,_,rfl,gi_1⟩,trivial⟩)
noncomputable def FX (d:D):Prop:=∃ fm fs gf,d=.tup [.str fm,fs,.str (flat gf)]∧FoI fm fs gf
noncomputable abbrev TyF (cf:Or):Prop:=∀ td ty,TI td ty→Says cf i_law_type_flat [.tup td] (.str ty)
theorem tyf_ev:Ev 0 5 TyF:=fun K hK td ty Y=>Y.sl K hK
theorem fm1_len {ty:T}(Y:TxOk ty 16) (fp:Bool):([40]++pubT fp++ty++[44,32]++ty++[41]).length≤PB∧([32,123,32]++pubT fp++[97,58,32]++ty++[44,32,125]).length≤PB:=by
 have e:PB=1089000:=rfl
 have h:=Y.ln
 cases fp <;> (simp only [pubT,List.length_append,List.length_cons,List.length_nil];lia)
theorem form_ev:GenS 6 i_law_form [.pool] FX:=GenS.of g_law_form (((type_ev.up (j:=5) rfl)).and ((take_ev.up rfl).and ((one_ev.up rfl).and tyf_ev))) fun cf h π k hπ hk=>e_law_form
 (h.1 π _ hπ fun d π1 h1 hd=>h.2.1 2 ⟨by decide,by decide⟩ π1 _ h1 fun d2 π2 h2 hd2=>by
  obtain ⟨td,ty,rfl,Y⟩:=hd
  obtain ⟨m,hm,rfl⟩:=hd2
  have ho:=h.2.2.1
  have hy:=h.2.2.2 td ty Y
  have e1:∀ fp:Bool,[40]++pubT fp++ty++[44,32]++ty++[41]=flat (.txt ([40]++(pubT fp++ty++[44,32]++([]++ty))++[41])):=fun fp=>by simp [flat]
  have e2:∀ fp:Bool,[32,123,32]++pubT fp++[97,58,32]++ty++[44,32,125]=flat (.cat (.txt [32]) (.br (.cons (.txt (fT fp ty)) .nil))):=fun fp=>by simp [flat,flatRs]
  have fin:∀ fp:Bool,AllL FX [.tup [.str [117,110,105,116],.tup [],.str []],.tup [.str [116,117,112,108,101],.tup [.tup [.str [48],.tup td,.bool fp],.tup [.str [49],.tup td,.bool false]],.str ([40]++pubT fp++ty++[44,32]++ty++[41])],
    .tup [.str [110,97,109,101,100],.tup [.tup [.str [97],.tup td,.bool fp]],.str ([32,123,32]++pubT fp++[97,58,32]++ty++[44,32,125])],.tup [.str [110,97,109,101,100],.tup [],.str [32,123,125]]]:=fun fp=>
   ⟨⟨_,_,_,rfl,fi_0⟩,⟨_,_,_,by rw [e1],fi_1 Y⟩,⟨_,_,_,by rw [e2],fi_2 Y⟩,⟨_,_,_,rfl,fi_3⟩,trivial⟩
  match m,hm with
  | 0,_=>
   have l:=fm1_len Y.tx true
   refine ⟨by decide,hy π2 _ ⟨PBS (bl (bl (bl l.1))),PBS (bl (bl l.1)),hy π2 _ ⟨PBS (bl l.1),PBS l.1,⟨by decide,by decide,hy π2 _ ⟨PBS (bl l.2),PBS l.2,?_⟩⟩⟩⟩⟩
   exact ho _ ⟨Nat.le_of_ble_eq_true rfl,Nat.le_of_ble_eq_true rfl⟩ FX (fin true) π2 _ h2 hk
  | 1,_=>
   have l:=fm1_len Y.tx false
   refine ⟨by decide,hy π2 _ ⟨PBS (bl (bl (bl l.1))),PBS (bl (bl l.1)),hy π2 _ ⟨PBS (bl l.1),PBS l.1,⟨by decide,by decide,hy π2 _ ⟨PBS (bl l.2),PBS l.2,?_⟩⟩⟩⟩⟩
   exact ho _ ⟨Nat.le_of_ble_eq_true rfl,Nat.le_of_ble_eq_true rfl⟩ FX (fin false) π2 _ h2 hk)
end
section
open PySem PySem.W
noncomputable abbrev lawT (pb:Bool) (gt J rt:T):T:=pubT pb++[102,110,32,102]++gt++[40]++J++[41]++rt
noncomputable def rep3 (d:D) (n:Nat):List D:=repL [d] n
noncomputable abbrev prD (pd:D) (px:T) (td:List D):D:=.tup [.tup [pd,.str px],.tup td]
noncomputable def repT (t:T):Nat→List T
 | 0=>[]
 | n+1=>t::repT t n
noncomputable def SelfL (sd:D) (st:T) (sl:List T):Prop:=(sd=.none∧st=[]∧sl=[])∨∃ s,sd=.str s∧sl=[st]∧SI s st
noncomputable def ResL (rd:D) (td:List D) (ty rt:T):Prop:=(rd=.none∧rt=[])∨(rd=.tup td∧rt=[32,45,62,32]++ty)
noncomputable def BodyL (cf:Or) (bd:D) (bt:T):Prop:=(bd=.none∧bt=[59])∨∃ r tb,bd=.tup (.str [98,108,111,99,107]::r)∧bt=[32]++tb∧Says cf i_law_long_flat [bd] (.str tb)
section
variable {cf:Or}{gd sd rd bd pd:D}{gt st rt bt px ty tx:T}{td:List D}{pl sl:List T}{pb:Bool}{l:List (Nat×D)}{c:List (Nat×D)}{ds tl':List D}{π:Pi}{r:D→Pi→Prop}{n:Nat}
theorem lf_t8 (h1:getV l 25897226614254166899=some (.tup [gd,.str gt])) (h2:getV l 26761915547662839671=some (.tup [sd,.str st])) (h3:getV l 6248426596=some (.tup tl')) (h4:getV l 407255031049332=some rd) (h5:getV l 5946434681=some bd) (h6:getV l 397419220071778=some (.bool pb)) (h7:getV l 6247774324=some (.str tx))
  (hB:BodyL cf bd bt) (hb:(tx++bt).length≤PB) (hk:r (.lst [fnD gd sd tl' rd bd pb,.str (tx++bt)]) π):
  wSs (tl (tl (tl (tl (tl (tl (tl (tl f_law_function.body)))))))) cf ⟨l,c,none⟩ π (fun _ _=>False) r:=by
 refine onD_of h1 (onD_of h2 (onD_of h3 (onD_of h4 (onD_of h5 (onD_of h6 (onD_of h7 (onD_of h5 ?_)))))))
 rcases hB with ⟨rfl,rfl⟩ | ⟨rb,tb,rfl,rfl,hw⟩
 ·exact ⟨PBS hb,hk⟩
 ·exact onD_of h5 (hw π _ ⟨PBS (br hb),PBS hb,hk⟩)
theorem lf_t7 (hn:n < 3) (h0:getV l 405038809836915=some (.lst (rep3 (prD pd px td) n))) (hc:getV c 6097038948=some (.tup td)) (h1:getV l 25897226614254166899=some (.tup [gd,.str gt])) (h2:getV l 26761915547662839671=some (.tup [sd,.str st])) (h4:getV l 407255031049332=some rd) (h5:getV l 5946434681=some bd) (h6:getV l 397419220071778=some (.bool pb)) (h7:getV l 6247774324=some (.str tx))
  (hB:BodyL cf bd bt) (hb:(tx++bt).length≤PB) (hk:r (.lst [fnD gd sd (rep3 (.tup [pd,.tup td]) n) rd bd pb,.str (tx++bt)]) π):
  wSs (tl (tl (tl (tl (tl (tl (tl f_law_function.body))))))) cf ⟨l,c,none⟩ π (fun _ _=>False) r:=by
 refine onD_of h0 ?_
 match n,hn with
 | 0,_=>exact lf_t8 (l:=(6248426596,.tup _)::l) h1 h2 rfl h4 h5 h6 h7 hB hb hk
 | 1,_=>exact onD_of hc (lf_t8 (l:=(6248426596,.tup _)::l) h1 h2 rfl h4 h5 h6 h7 hB hb hk)
 | 2,_=>exact onD_of hc (onD_of hc (lf_t8 (l:=(6248426596,.tup _)::l) h1 h2 rfl h4 h5 h6 h7 hB hb hk))
theorem lf_t6 (hn:n < 3) (hx:getV l 1599430227059=some (.lst ds)) (hj:JOk ds) (h0:getV l 405038809836915=some (.lst (rep3 (prD pd px td) n))) (hc:getV c 6097038948=some (.tup td)) (h1:getV l 25897226614254166899=some (.tup [gd,.str gt])) (h2:getV l 26761915547662839671=some (.tup [sd,.str st])) (h4:getV l 407255031049332=some rd) (h5:getV l 5946434681=some bd) (h6:getV l 397419220071778=some (.bool pb))
  (hR:ResL rd td ty rt) (hy:Says cf i_law_type_flat [.tup td] (.str ty)) (hB:BodyL cf bd bt) (hb:(lawT pb gt (jn ds) rt++bt).length≤PB) (hk:r (.lst [fnD gd sd (rep3 (.tup [pd,.tup td]) n) rd bd pb,.str (lawT pb gt (jn ds) rt++bt)]) π):
  wSs (tl (tl (tl (tl (tl (tl f_law_function.body)))))) cf ⟨l,c,none⟩ π (fun _ _=>False) r:=by
 have q1:=bl hb
 have q2:=bl q1
 have q3:=bl q2
 have q4:=bl q3
 have q5:=bl q4
 have q6:=bl q5
 refine onD_of h6 ?_
 have key:∀ b:Bool,b=pb→onD (getV l 25897226614254166899) (fun d=>subW d (.int 1) π fun d=>binW .Add (.str (pubT b++[102,110,32,102])) d fun d=>binW .Add d (.str [40]) fun d=>onD (getV l 1599430227059) fun e=>joinW [44,32] e fun e=>binW .Add d e fun d=>binW .Add d (.str [41]) fun d=>
   onD (getV l 407255031049332) fun e=>isD e .none |> fun o=>onB o fun t=>onB (truth (.bool (!t))) fun t=>
    if t=true then onD (getV c 6097038948) fun e=>cf (.fn i_law_type_flat) [e] π fun e π=>binW .Add (.str [32,45,62,32]) e fun e=>binW .Add d e fun d=>wSs (tl (tl (tl (tl (tl (tl (tl f_law_function.body))))))) cf ⟨(6247774324,d)::l,c,none⟩ π (fun _ _=>False) r
    else binW .Add d (.str []) fun d=>wSs (tl (tl (tl (tl (tl (tl (tl f_law_function.body))))))) cf ⟨(6247774324,d)::l,c,none⟩ π (fun _ _=>False) r):=by
  rintro b rfl
  refine onD_of h1 ⟨PBS q5,PBS q4,onD_of hx ⟨hj,PBS q3,PBS q2,onD_of h4 ?_⟩⟩
  rcases hR with ⟨rfl,rfl⟩ | ⟨rfl,rfl⟩
  ·exact ⟨PBS q1,lf_t7 (l:=(6247774324,.str _)::l) hn h0 hc h1 h2 h4 h5 h6 rfl hB hb hk⟩
  ·exact onD_of hc (hy π _ ⟨PBS (br q1),PBS q1,lf_t7 (l:=(6247774324,.str _)::l) hn h0 hc h1 h2 h4 h5 h6 rfl hB hb hk⟩)
 cases pb
 ·exact ⟨PBS q6,key false rfl⟩
 ·exact ⟨PBS q6,key true rfl⟩
end
end
section
open PySem PySem.W
section
variable {cf:Or}{gd sd rd bd pd:D}{gt st rt bt px ty tx:T}{td:List D}{pl sl:List T}{pb:Bool}{l:List (Nat×D)}{c:List (Nat×D)}{ds tl':List D}{π:Pi}{r:D→Pi→Prop}{n:Nat}
theorem lf_t5 (hn:n < 3) (hS:SelfL sd st sl) (P:PI pd px) (Y:TI td ty) (hj:JOk ((sl++repT (prmT px ty) n).map .str)) (h0:getV l 405038809836915=some (.lst (rep3 (prD pd px td) n))) (hc:getV c 6097038948=some (.tup td)) (h1:getV l 25897226614254166899=some (.tup [gd,.str gt])) (h2:getV l 26761915547662839671=some (.tup [sd,.str st])) (h4:getV l 407255031049332=some rd) (h5:getV l 5946434681=some bd) (h6:getV l 397419220071778=some (.bool pb))
  (hR:ResL rd td ty rt) (hy:Says cf i_law_type_flat [.tup td] (.str ty)) (hB:BodyL cf bd bt) (hb:(lawT pb gt (jn ((sl++repT (prmT px ty) n).map .str)) rt++bt).length≤PB) (hk:r (.lst [fnD gd sd (rep3 (.tup [pd,.tup td]) n) rd bd pb,.str (lawT pb gt (jn ((sl++repT (prmT px ty) n).map .str)) rt++bt)]) π):
  wSs (tl (tl (tl (tl (tl f_law_function.body))))) cf ⟨l,c,none⟩ π (fun _ _=>False) r:=by
 have p:=prm_len P Y
 have p2:=prm_len2 P Y
 refine onD_of h2 ?_
 rcases hS with ⟨rfl,rfl,rfl⟩ | ⟨s,rfl,rfl,S⟩
 ·refine onD_of h0 ?_
  match n,hn with
  | 0,h=>exact lf_t6 (l:=(1599430227059,.lst _)::l) h rfl hj h0 hc h1 h2 h4 h5 h6 hR hy hB hb hk
  | 1,h=>exact ⟨p.1,onD_of hc (hy π _ ⟨p2,lf_t6 (l:=(1599430227059,.lst _)::l) h rfl hj h0 hc h1 h2 h4 h5 h6 hR hy hB hb hk⟩)⟩
  | 2,h=>exact ⟨p.1,onD_of hc (hy π _ ⟨p2,p.1,onD_of hc (hy π _ ⟨p2,lf_t6 (l:=(1599430227059,.lst _)::l) h rfl hj h0 hc h1 h2 h4 h5 h6 hR hy hB hb hk⟩)⟩)⟩
 ·refine iteT S.ne (onD_of h0 ?_)
  match n,hn with
  | 0,h=>exact lf_t6 (l:=(1599430227059,.lst _)::l) h rfl hj h0 hc h1 h2 h4 h5 h6 hR hy hB hb hk
  | 1,h=>exact ⟨p.1,onD_of hc (hy π _ ⟨p2,lf_t6 (l:=(1599430227059,.lst _)::l) h rfl hj h0 hc h1 h2 h4 h5 h6 hR hy hB hb hk⟩)⟩
  | 2,h=>exact ⟨p.1,onD_of hc (hy π _ ⟨p2,p.1,onD_of hc (hy π _ ⟨p2,lf_t6 (l:=(1599430227059,.lst _)::l) h rfl hj h0 hc h1 h2 h4 h5 h6 hR hy hB hb hk⟩)⟩)⟩
end
theorem lawT_eq (pb:Bool) (gt J rt:T):lawT pb gt J rt=pubT pb++hdT gt J rt:=by
 simp only [lawT,hdT,List.append_assoc]
theorem prmOk_rep {pd:D}{px:T}{td:List D}{ty:T}{n:Nat}(hn:n < 3) (P:PI pd px) (Y:TI td ty):PrmOk (rep3 (.tup [pd,.tup td]) n) (repT (prmT px ty) n):=by
 match n,hn with
 | 0,_=>exact .inl ⟨rfl,rfl⟩
 | 1,_=>exact .inr ⟨pd,px,td,ty,P,Y,.inl ⟨rfl,rfl⟩⟩
 | 2,_=>exact .inr ⟨pd,px,td,ty,P,Y,.inr ⟨rfl,rfl⟩⟩
theorem SelfL.ok {sd:D}{st:T}{sl:List T}(h:SelfL sd st sl):SelfOk sd sl:=by
 rcases h with ⟨h1,_,h2⟩ | ⟨s,h1,h2,h3⟩
 ·exact .inl ⟨h1,h2⟩
 ·exact .inr ⟨s,st,h1,h2,h3⟩
theorem ResL.ok {rd:D}{td:List D}{ty rt:T}(h:ResL rd td ty rt) (Y:TI td ty):ResOk rd rt:=by
 rcases h with ⟨h1,h2⟩ | ⟨h1,h2⟩
 ·exact .inl ⟨h1,h2⟩
 ·exact .inr ⟨td,ty,h1,h2,Y⟩
noncomputable def SX (d:D):Prop:=∃ sd st sl,d=.tup [sd,.str st]∧SelfL sd st sl
theorem ofN_le {n:Nat}(h:n < 3):Int.ofNat n≤1000:=by have e:Int.ofNat n=(n:Int):=rfl;lia
noncomputable abbrev LongF (N M k:Nat) (cf:Or):Prop:=∀ r b,BI N M k r b→Says cf i_law_long_flat [.tup (.str [98,108,111,99,107]::r)] (.str (flat b))
theorem function_ev {j N M k:Nat}(n:Int) (hj:6≤j) (hN:N≤j) (hM:M+140≤32950) (hM2:60≤M) (hk:1≤k) (hk8:k≤8) (hB:GenS j i_law_block [.pool,.int n] (BX N M k)):GenS (j+1) i_law_function [.pool,.int n] (IX (N+10) (M+140) k):=
 GenS.of g_law_function ((hB.and (tyf_ev.le (by lia))).and ((take_ev.le (by lia)).and ((one_ev.le (by lia)).and ((type_ev.le (by lia)).and ((pattern_ev.le (by lia)).and ((generics_ev.le (by lia)).and (show Ev 0 j (LongF N M k) from fun K hK r b B=>B.lb K (by lia)))))))) fun cf h π k' hπ hk'=>e_law_function (by
 obtain ⟨⟨hblk,htf⟩,ht,ho,hty,hpat,hgen,hlong⟩:=h
 refine hgen π _ hπ fun g π1 h1 hg=>?_
 refine ho _ ⟨Nat.le_of_ble_eq_true rfl,Nat.le_of_ble_eq_true rfl⟩ SX ?_ π1 _ h1 fun s π2 h2 hs=>?_
 ·exact ⟨⟨_,_,_,rfl,.inl ⟨rfl,rfl,rfl⟩⟩,⟨_,_,_,rfl,.inr ⟨_,rfl,rfl,si_0⟩⟩,⟨_,_,_,rfl,.inr ⟨_,rfl,rfl,si_1⟩⟩,⟨_,_,_,rfl,.inr ⟨_,rfl,rfl,si_2⟩⟩,trivial⟩
 refine hty π2 _ h2 fun y π3 h3 hy=>?_
 refine ht 2 ⟨by decide,by decide⟩ π3 _ h3 fun m2 π4 h4 hm2=>?_
 obtain ⟨m2,_,rfl⟩:=hm2
 refine hpat π4 _ h4 fun p π5 h5 hp=>?_
 refine ht 3 ⟨by decide,by decide⟩ π5 _ h5 fun m3 π6 h6 hm3=>?_
 obtain ⟨n3,hn3,rfl⟩:=hm3
 obtain ⟨gd,gt,rfl,G⟩:=hg
 obtain ⟨sd,st,sl,rfl,S⟩:=hs
 obtain ⟨td,ty,rfl,Y⟩:=hy
 obtain ⟨pd,px,rfl,P⟩:=hp
 refine And.intro ⟨Int.ofNat_nonneg _,ofN_le hn3,Nat.le_of_ble_eq_true rfl⟩ ?_
 refine ht 4 ⟨by decide,by decide⟩ π6 _ h6 fun m4 π7 h7 hm4=>?_
 obtain ⟨m4,hm4,rfl⟩:=hm4
 have hP:=prmOk_rep hn3 P Y
 obtain ⟨hj1,hj2⟩:=pj_ok S.ok hP
 have none_way:∀ π8,Pok π8→∀ rd rt,ResL rd td ty rt→k' (.lst [fnD gd sd (rep3 (.tup [pd,.tup td]) n3) rd .none (decide (Int.ofNat m2=0)),.str (lawT (decide (Int.ofNat m2=0)) gt (jn ((sl++repT (prmT px ty) n3).map .str)) rt++[59])]) π8∧(lawT (decide (Int.ofNat m2=0)) gt (jn ((sl++repT (prmT px ty) n3).map .str)) rt++[59]).length≤PB:=fun π8 h8 rd rt hR=>by
  have I:=i_fn0 (N:=N) (pb:=decide (Int.ofNat m2=0)) S.ok hP (hR.ok Y) G
  have hb:=I.q.fl (by decide)
  have e:lawT (decide (Int.ofNat m2=0)) gt (jn ((sl++repT (prmT px ty) n3).map .str)) rt++[59]=flat (.cat (.txt (pubT (decide (Int.ofNat m2=0))++hdT gt (jn ((sl++repT (prmT px ty) n3).map .str)) rt)) (.txt [59])):=by rw [lawT_eq];rfl
  exact ⟨hk' _ _ h8 (IX.of I e (by lia) (by lia) hM hk hk8),by rw [e];exact hb⟩
 have some_way:∀ π8,Pok π8→∀ r b,BI N M k r b→∀ rd rt,ResL rd td ty rt→k' (.lst [fnD gd sd (rep3 (.tup [pd,.tup td]) n3) rd (.tup (.str [98,108,111,99,107]::r)) (decide (Int.ofNat m2=0)),.str (lawT (decide (Int.ofNat m2=0)) gt (jn ((sl++repT (prmT px ty) n3).map .str)) rt++([32]++flat b))]) π8∧(lawT (decide (Int.ofNat m2=0)) gt (jn ((sl++repT (prmT px ty) n3).map .str)) rt++([32]++flat b)).length≤PB:=fun π8 h8 r b B rd rt hR=>by
  have I:=i_fn1 (pb:=decide (Int.ofNat m2=0)) B hM S.ok hP (hR.ok Y) G
  have hb:=I.q.fl (by lia)
  have e:lawT (decide (Int.ofNat m2=0)) gt (jn ((sl++repT (prmT px ty) n3).map .str)) rt++([32]++flat b)=flat (.cat (.txt (pubT (decide (Int.ofNat m2=0))++hdT gt (jn ((sl++repT (prmT px ty) n3).map .str)) rt)) (.cat (.txt [32]) b)):=by rw [lawT_eq];rfl
  exact ⟨hk' _ _ h8 (IX.of I e (Nat.le_refl _) (Nat.le_refl _) hM (Nat.le_refl _) B.E.hk),by rw [e];exact hb⟩
 have last:∀ π8,Pok π8→∀ bd,(bd=.none∨BX N M k bd)→wSs (tl (tl (tl (tl f_law_function.body)))) cf ⟨[(5946434681,bd),(405038809836915,.lst (rep3 (prD pd px td) n3)),(397419220071778,.bool (decide (Int.ofNat m2=0))),(25897226614254166899,.tup [gd,.str gt]),(26761915547662839671,.tup [sd,.str st]),(408397525705573,.pool),(5979334000,.int n)],[(6097038948,.tup td)],none⟩ π8 (fun _ _=>False) k':=fun π8 h8 bd hbd=>by
  refine ho _ ⟨Nat.le_of_ble_eq_true rfl,Nat.le_of_ble_eq_true rfl⟩ (fun rd=>∃ rt,ResL rd td ty rt) ?_ π8 _ h8 fun rd π9 h9 hrd=>?_
  ·exact ⟨⟨[],.inl ⟨rfl,rfl⟩⟩,⟨_,.inr ⟨rfl,rfl⟩⟩,trivial⟩
  obtain ⟨rt,hR⟩:=hrd
  rcases hbd with rfl | ⟨r,b,rfl,B⟩
  ·have q:=none_way π9 h9 rd rt hR
   exact lf_t5 (l:=(407255031049332,rd)::[(5946434681,.none),(405038809836915,.lst (rep3 (prD pd px td) n3)),(397419220071778,.bool (decide (Int.ofNat m2=0))),(25897226614254166899,.tup [gd,.str gt]),(26761915547662839671,.tup [sd,.str st]),(408397525705573,.pool),(5979334000,.int n)]) (c:=[(6097038948,.tup td)]) hn3 S P Y hj2 rfl rfl rfl rfl rfl rfl rfl hR (htf _ _ Y) (.inl ⟨rfl,rfl⟩) q.2 q.1
  ·have q:=some_way π9 h9 r b B rd rt hR
   exact lf_t5 (l:=(407255031049332,rd)::[(5946434681,.tup (.str [98,108,111,99,107]::r)),(405038809836915,.lst (rep3 (prD pd px td) n3)),(397419220071778,.bool (decide (Int.ofNat m2=0))),(25897226614254166899,.tup [gd,.str gt]),(26761915547662839671,.tup [sd,.str st]),(408397525705573,.pool),(5979334000,.int n)]) (c:=[(6097038948,.tup td)]) hn3 S P Y hj2 rfl rfl rfl rfl rfl rfl rfl hR (htf _ _ Y) (.inr ⟨r,flat b,rfl,rfl,hlong r b B⟩) q.2 q.1
 match m4,hm4 with
 | 0,_=>exact last π7 h7 .none (.inl rfl)
 | 1,_=>exact hblk π7 _ h7 fun bd π8 h8 hbd=>last π8 h8 bd (.inr hbd)
 | 2,_=>exact hblk π7 _ h7 fun bd π8 h8 hbd=>last π8 h8 bd (.inr hbd)
 | 3,_=>exact hblk π7 _ h7 fun bd π8 h8 hbd=>last π8 h8 bd (.inr hbd))
end
section
open PySem PySem.W
noncomputable abbrev nT0 (h:T):T:=h++[32,123,125]
noncomputable abbrev nT (h t:T):T:=h++([32,123,32]++t++[32,125])
structure NestOk (cf:Or):Prop where
 n0:∀ h,(nT0 h).length≤PB→Says cf i_law_nested [.str h,.lst []] (.str (nT0 h))
 n1:∀ h it t,(nT h t).length≤PB→Says cf i_law_nested [.str h,.lst [.lst [it,.str t]]] (.str (nT h t))
 m1:∀ h it t,(nT h t).length≤PB→Says cf i_law_nested [.str h,.lst [.tup [it,.str t]]] (.str (nT h t))
 m2:∀ h it t it' t',(nT h (t++[32]++t')).length≤PB→Says cf i_law_nested [.str h,.lst [.tup [it,.str t],.tup [it',.str t']]] (.str (nT h (t++[32]++t')))
section
variable {h t t':T}{it it':D}
theorem nes0 (hb:(nT0 h).length≤PB):Sure 0 1 i_law_nested [.str h,.lst []] (.str (nT0 h)):=Sure.of0 g_law_nested fun cf π k hk=>e_law_nested ⟨PBS hb,hk⟩
theorem nes1 (hb:(nT h t).length≤PB):Sure 0 1 i_law_nested [.str h,.lst [.lst [it,.str t]]] (.str (nT h t)):=Sure.of0 g_law_nested fun cf π k hk=>e_law_nested ⟨jok1 (br (bl (br hb))) rfl,PBS (bl (br hb)),PBS (br hb),PBS hb,hk⟩
theorem nesm (hb:(nT h t).length≤PB):Sure 0 1 i_law_nested [.str h,.lst [.tup [it,.str t]]] (.str (nT h t)):=Sure.of0 g_law_nested fun cf π k hk=>e_law_nested ⟨jok1 (br (bl (br hb))) rfl,PBS (bl (br hb)),PBS (br hb),PBS hb,hk⟩
theorem nesn (hb:(nT h (t++[32]++t')).length≤PB):Sure 0 1 i_law_nested [.str h,.lst [.tup [it,.str t],.tup [it',.str t']]] (.str (nT h (t++[32]++t'))):=Sure.of0 g_law_nested fun cf π k hk=>e_law_nested
 ⟨jok2 (bl (bl (br (bl (br hb))))) (br (br (bl (br hb)))) rfl,PBS (bl (br hb)),PBS (br hb),PBS hb,hk⟩
end
theorem nest_ev:Ev 0 1 NestOk:=fun K hK=>{
 n0:=fun h hb=>nes0 hb K hK
 n1:=fun h it t hb=>nes1 hb K hK
 m1:=fun h it t hb=>nesm hb K hK
 m2:=fun h it t it' t' hb=>nesn hb K hK}
noncomputable def SomeOk (N M k:Nat) (rows its:List D) (rs:DcL):Prop:=(rows=[]∧its=[]∧rs=.nil)∨∃ it g,rows=[.lst [it,.str (flat g)]]∧its=[it]∧rs=.cons g .nil∧II N M k it g
theorem SomeOk.its {N M k:Nat}{rows its:List D}{rs:DcL}(h:SomeOk N M k rows its rs):ItsOk N M k its rs:=by
 rcases h with ⟨_,h1,h2⟩ | ⟨it,g,_,h1,h2,h3⟩
 ·exact .inl ⟨h1,h2⟩
 ·exact .inr ⟨it,g,h1,h2,h3⟩
theorem flat_en0 (h:T):nT0 h=flat (enD h .nil):=by simp [flat]
theorem flat_en1 (h:T) (g:Dc):nT h (flat g)=flat (enD h (.cons g .nil)):=by simp [flat,flatRs]
theorem flat_en2 (h:T) (g g':Dc):nT h (flat g++[32]++flat g')=flat (enD h (.cons g (.cons g' .nil))):=by simp [flat,flatRs]
section
variable {cf:Or}{N M k:Nat}{gd:D}{gt:T}{rows its:List D}{rs:DcL}{pb:Bool}{dp:Int}{π:Pi}{k':D→Pi→Prop}
noncomputable abbrev stI (rows:List D) (w:Int) (pb:Bool) (gd:D) (gt:T) (dp:Int):Sg:=⟨[(6231649637,.lst rows),(24147298,.str (pubT pb)),(24600953,.int w),(397419220071778,.bool pb),(25897226614254166899,.tup [gd,.str gt]),(5979334000,.int dp)],[(408397525705573,.pool)],none⟩
theorem it5 (G:GI gd gt) (S:SomeOk N M k rows its rs) (hM:M+80≤32950) (hk8:k+1≤8) (hn:NestOk cf) (hπ:Pok π) (hk:∀ d π',Pok π'→IX (N+10) (M+80) (k+1) d→k' d π'):wSs (tl (tl (tl (tl (tl (tl f_law_item.body)))))) cf (stI rows 5 pb gd gt dp) π (fun _ _=>False) k':=by
 have I:=i_trait (pb:=pb) S.its (by lia) hk8 G
 have hb:=I.q.fl (by lia)
 have q1:=bl (bl hb)
 have q2:(pubT pb++[116,114,97,105,116,32,84,114]).length≤PB:=bl q1
 rcases S with ⟨rfl,rfl,rfl⟩ | ⟨it,g,rfl,rfl,rfl,_⟩
 ·rw [←flat_en0] at hb
  exact ⟨PBS q2,PBS q1,hn.n0 _ hb π _ (hk _ _ hπ (IX.of I (flat_en0 _) (Nat.le_refl _) (by lia) hM (Nat.le_refl _) hk8))⟩
 ·rw [←flat_en1] at hb
  exact ⟨PBS q2,PBS q1,hn.n1 _ _ _ hb π _ (hk _ _ hπ (IX.of I (flat_en1 _ _) (Nat.le_refl _) (by lia) hM (Nat.le_refl _) hk8))⟩
noncomputable def TX2 (d:D):Prop:=∃ trd tt,d=.tup [trd,.str tt]∧TrOk trd tt
theorem it4 (G:GI gd gt) (S:SomeOk N M k rows its rs) (hM:M+80≤32950) (hk8:k+1≤8) (hn:NestOk cf) (hpa:PathOk cf) (ho:OneOk cf) (hty:Gen cf i_law_type [.pool] TX) (htf:TyF cf) (hπ:Pok π) (hk:∀ d π',Pok π'→IX (N+10) (M+80) (k+1) d→k' d π'):wSs (tl (tl (tl (tl (tl (tl f_law_item.body)))))) cf (stI rows 4 pb gd gt dp) π (fun _ _=>False) k':=by
 refine hpa _ π _ ?_
 refine ho _ ⟨Nat.le_of_ble_eq_true rfl,Nat.le_of_ble_eq_true rfl⟩ TX2 ?_ π _ hπ fun t π1 h1 ht=>?_
 ·exact ⟨⟨_,_,rfl,.inl ⟨rfl,rfl⟩⟩,⟨_,_,rfl,.inr ⟨rfl,rfl⟩⟩,trivial⟩
 refine hty π1 _ h1 fun y π2 h2 hy=>?_
 obtain ⟨trd,tt,rfl,R⟩:=ht
 obtain ⟨td,ty,rfl,Y⟩:=hy
 have I:=i_impl S.its hM hk8 G R Y
 have hb:=I.q.fl (by lia)
 have q1:=bl (bl hb)
 have q2:=bl q1
 have q3:=bl q2
 rcases S with ⟨rfl,rfl,rfl⟩ | ⟨it,g,rfl,rfl,rfl,_⟩
 ·rw [←flat_en0] at hb
  exact ⟨PBS (bl q3),PBS q3,PBS q2,htf _ _ Y π2 _ ⟨PBS q1,hn.n0 _ hb π2 _ (hk _ _ h2 (IX.of I (flat_en0 _) (Nat.le_refl _) (Nat.le_refl _) hM (Nat.le_refl _) hk8))⟩⟩
 ·rw [←flat_en1] at hb
  exact ⟨PBS (bl q3),PBS q3,PBS q2,htf _ _ Y π2 _ ⟨PBS q1,hn.n1 _ _ _ hb π2 _ (hk _ _ h2 (IX.of I (flat_en1 _ _) (Nat.le_refl _) (Nat.le_refl _) hM (Nat.le_refl _) hk8))⟩⟩
theorem it7 {d:Int}(h0:decide (d > 0)=false) (hn:NestOk cf) (hπ:Pok π) (hk:∀ d π',Pok π'→IX 10 80 1 d→k' d π'):wSs (tl (tl (tl (tl (tl (tl f_law_item.body)))))) cf (stI rows 7 pb gd gt d) π (fun _ _=>False) k':=by
 have I:=i_mod (N:=0) (M:=0) (k:=0) (pb:=pb) (its:=[]) (rs:=.nil) (.inl ⟨rfl,rfl⟩) (by decide) (by decide)
 have hb:=I.q.fl (by decide)
 have q1:(pubT pb++[109,111,100,32,109]).length≤PB:=bl (bl hb)
 rw [←flat_en0] at hb
 exact iteF h0 ⟨PBS q1,hn.n0 _ hb π _ (hk _ _ hπ (IX.of I (flat_en0 _) (by decide) (by decide) (by decide) (by decide) (by decide)))⟩
theorem it7s {d:Int}(h0:decide (d > 0)=true) (hM:M+80≤32950) (hk8:k+1≤8) (hI:Gen cf i_law_item [.pool,.int (d - 1)] (IX N M k)) (hn:NestOk cf) (hπ:Pok π) (hk:∀ d π',Pok π'→IX (N+10) (M+80) (k+1) d→k' d π'):wSs (tl (tl (tl (tl (tl (tl f_law_item.body)))))) cf (stI rows 7 pb gd gt d) π (fun _ _=>False) k':=by
 refine iteT h0 (hI π _ hπ fun e π1 h1 he=>?_)
 obtain ⟨it,g,rfl,J⟩:=he
 have I:=i_mod (pb:=pb) (.inr ⟨it,g,rfl,rfl,J⟩) (by lia) hk8
 have hb:=I.q.fl (by lia)
 have q1:(pubT pb++[109,111,100,32,109]).length≤PB:=bl (bl hb)
 rw [←flat_en1] at hb
 exact ⟨PBS q1,hn.n1 _ _ _ hb π1 _ (hk _ _ h1 (IX.of I (flat_en1 _ _) (Nat.le_refl _) (by lia) hM (Nat.le_refl _) hk8))⟩
noncomputable abbrev FlatF (N M k:Nat) (cf:Or):Prop:=∀ kd r l o f,EI N M k kd r l o f→Says cf i_law_flat [.tup (.str kd::r),.int 0,.bool false] (.str (flat (f false)))
theorem it6 (hM:M+80≤32950) (hM2:120≤M) (hk1:1≤k) (hk8:k≤8) (hE:Gen cf i_law_expr [.pool,.int 1] (EX N M k)) (hf:FlatF N M k cf) (hpa:PathOk cf) (ho:OneOk cf) (hπ:Pok π) (hk:∀ d π',Pok π'→IX (N+10) (M+80) k d→k' d π'):wSs (tl (tl (tl (tl (tl (tl f_law_item.body)))))) cf (stI rows 6 pb gd gt dp) π (fun _ _=>False) k':=by
 refine ho _ ⟨Nat.le_of_ble_eq_true rfl,Nat.le_of_ble_eq_true rfl⟩ (fun d=>(d=.str [98]∨d=.str [99])) ?_ π _ hπ fun al π1 h1 hal=>?_
 ·exact ⟨.inl rfl,.inr rfl,trivial⟩
 refine hE π1 _ h1 fun e π2 h2 he=>?_
 obtain ⟨kd,r,l,o,f,rfl,E⟩:=he
 have I:=i_const (pb:=pb) E (by lia)
 have hb:=I.q.fl (by lia)
 have t0:=pub_tx (pb:=pb) (x:=[117,115,101,32,99,114,97,116,101,58,58,97,58,58,98,59]) (n:=16) ⟨rfl,rfl,by decide⟩
 have t1:=pub_tx (pb:=pb) (x:=[117,115,101,32,99,114,97,116,101,58,58,97,58,58,98,32,97,115,32,99,59]) (n:=21) ⟨rfl,rfl,by decide⟩
 have u0:(pubT pb++[117,115,101,32,99,114,97,116,101,58,58,97,58,58,98]++[59]).length≤PB:=by rw [List.append_assoc];exact t0.b rfl
 have u1:(pubT pb++[117,115,101,32,99,114,97,116,101,58,58,97,58,58,98]++[32,97,115,32,99,59]).length≤PB:=by rw [List.append_assoc];exact t1.b rfl
 have hc:IX (N+10) (M+80) k (.lst [.tup [.str [99,111,110,115,116],.int 0,.str [67],pathD [117,56],.tup (.str kd::r),.bool pb],.str (pubT pb++[99,111,110,115,116,32,67,58,32,117,56,32,61,32]++flat (f false)++[59])]):=IX.of I rfl (Nat.le_refl _) (by lia) hM (Nat.le_refl _) hk8
 rcases hal with rfl | rfl
 ·refine ⟨PBS (bl u0),PBS u0,hpa _ π2 _ ⟨PBS (bl (bl hb)),hf _ _ _ _ _ E π2 _ ⟨PBS (bl hb),PBS hb,?_⟩⟩⟩
  refine ho _ ⟨Nat.le_of_ble_eq_true rfl,Nat.le_of_ble_eq_true rfl⟩ (IX (N+10) (M+80) k) ?_ π2 _ h2 hk
  exact ⟨IX.of (i_use0 (N:=N) (pb:=pb)) (by rw [List.append_assoc];rfl) (Nat.le_refl _) (by lia) hM hk1 hk8,hc,trivial⟩
 ·refine ⟨PBS (bl u1),PBS u1,hpa _ π2 _ ⟨PBS (bl (bl hb)),hf _ _ _ _ _ E π2 _ ⟨PBS (bl hb),PBS hb,?_⟩⟩⟩
  refine ho _ ⟨Nat.le_of_ble_eq_true rfl,Nat.le_of_ble_eq_true rfl⟩ (IX (N+10) (M+80) k) ?_ π2 _ h2 hk
  exact ⟨IX.of (i_use1 (N:=N) (pb:=pb)) (by rw [List.append_assoc];rfl) (Nat.le_refl _) (by lia) hM hk1 hk8,hc,trivial⟩
end
end
section
open PySem PySem.W
theorem IX.wk {N M k N' M' k':Nat}{d:D}(h:IX N M k d) (hN:N≤N') (h1:M≤M') (h2:M'≤32950) (h3:k≤k') (h4:k'≤8):IX N' M' k' d:=by
 obtain ⟨it,g,rfl,I⟩:=h
 exact ⟨it,g,rfl,I.wk hN h1 h2 h3 h4⟩
theorem pub_step {b:Bool}(A:T→Prop) (h:A (pubT b)):if b=true then A [112,117,98,32] else A []:=by
 cases b
 ·exact h
 ·exact h
theorem f2_ev:GenS 111 i_law_function [.pool,.int 2] (IX 120 31920 5):=function_ev (j:=110) (N:=110) 2 (by decide) (by decide) (by decide) (by decide) (by decide) (by decide) (block2_ev.wk rfl fun d h=>h)
theorem f0_ev:GenS 111 i_law_function [.pool,.int 0] (IX 40 330 1):=function_ev (j:=110) (N:=30) (M:=190) 0 (by decide) (by decide) (by decide) (by decide) (by decide) (by decide) (block0_ev.wk rfl fun d h=>h)
theorem flatF_ev:Ev 0 111 (FlatF 50 820 2):=fun K hK kd r l o f E=>lf0 E K (by lia)
theorem bRow_len {k n:Nat}{gf:Dc}(h:TlD k n gf) (hn:n≤100):([66]++flat gf++[44]).length≤PB:=by
 have e:PB=1089000:=rfl
 have:=h.ln
 simp only [List.length_append,List.length_cons,List.length_nil];lia
noncomputable abbrev Tail7 (N M k:Nat) (d:Int) (cf:Or):Prop:=∀ (rows:List D) (pb:Bool) (gd:D) (gt:T) (π:Pi) (k':D→Pi→Prop),Pok π→(∀ d π',Pok π'→IX N M k d→k' d π')→wSs (tl (tl (tl (tl (tl (tl f_law_item.body)))))) cf (stI rows 7 pb gd gt d) π (fun _ _=>False) k'
theorem item_ev {j N M k:Nat}(d:Int) (hj:111≤j) (hN:120≤N) (hM2:31920≤M) (hM:M≤32950) (hk5:5≤k) (hk8:k≤8) (h7:Ev 0 j (Tail7 N M k d)):GenS (j+1) i_law_item [.pool,.int d] (IX N M k):=
 GenS.of g_law_item ((f2_ev.le hj).and ((f0_ev.le hj).and ((form_ev.le (by lia)).and ((generics_ev.le (by lia)).and ((take_ev.le (by lia)).and ((one_ev.le (by lia)).and ((path_ev.le (by lia)).and ((type_ev.le (by lia)).and ((tyf_ev.le (by lia)).and ((nest_ev.le (by lia)).and ((expr1_ev.le (by lia)).and ((flatF_ev.le hj).and h7)))))))))))) fun cf h π k' hπ hk=>e_law_item (by
 obtain ⟨hf2,hf0,hform,hgen,ht,ho,hpa,hty,htf,hnest,hE,hfl,h7⟩:=h
 refine ht 8 ⟨by decide,by decide⟩ π _ hπ fun w π1 h1 hw=>?_
 refine ht 2 ⟨by decide,by decide⟩ π1 _ h1 fun m π2 h2 hm=>?_
 obtain ⟨m,_,rfl⟩:=hm
 refine hgen π2 _ h2 fun g π3 h3 hg=>?_
 obtain ⟨w,hw,rfl⟩:=hw
 obtain ⟨gd,gt,rfl,G⟩:=hg
 refine pub_step (b:=decide (Int.ofNat m=0)) (fun t=>wSs (tl (tl f_law_item.body)) cf ⟨[(24147298,.str t),(24600953,.int (Int.ofNat w)),(397419220071778,.bool (decide (Int.ofNat m=0))),(25897226614254166899,.tup [gd,.str gt]),(5979334000,.int d)],[(408397525705573,.pool)],none⟩ π3 (fun _ _=>False) k') ?_
 generalize decide (Int.ofNat m=0)=pb
 match w,hw with
 | 0,_=>exact hf2 π3 _ h3 fun e π4 h4 he=>hk _ _ h4 (he.wk hN hM2 hM hk5 hk8)
 | 1,_=>exact hf2 π3 _ h3 fun e π4 h4 he=>hk _ _ h4 (he.wk hN hM2 hM hk5 hk8)
 | 2,_=>
  refine hform π3 _ h3 fun e π4 h4 he=>?_
  obtain ⟨fm,fs,gf,rfl,Fi⟩:=he
  have I:=i_struct (N:=0) (pb:=pb) Fi G
  have hb:=I.q.fl (by decide)
  have q1:=bl hb
  have q2:=bl q1
  have q3:(pubT pb++[115,116,114,117,99,116,32,83]).length≤PB:=bl q2
  refine ⟨PBS q3,PBS q2,PBS q1,?_⟩
  cases h:eqT fm [110,97,109,101,100]
  ·have e:endT fm=[59]:=if_neg (by rw [h];decide)
   have hb':((pubT pb++[115,116,114,117,99,116,32,83]++gt++flat gf)++endT fm).length≤PB:=hb
   rw [e] at hb'
   exact iteF h ⟨PBS hb',hk _ _ h4 (IX.of I (by rw [e];rfl) (by lia) (by lia) hM (by lia) hk8)⟩
  ·have e:endT fm=[]:=if_pos h
   have hb':((pubT pb++[115,116,114,117,99,116,32,83]++gt++flat gf)++endT fm).length≤PB:=hb
   rw [e] at hb'
   exact iteT h ⟨PBS hb',hk _ _ h4 (IX.of I (by rw [e];rfl) (by lia) (by lia) hM (by lia) hk8)⟩
 | 3,_=>
  refine hform π3 _ h3 fun e π4 h4 he=>?_
  obtain ⟨fm,fs,gf,rfl,Fi⟩:=he
  have lB:=bRow_len Fi.q (by decide)
  refine ht 3 ⟨by decide,by decide⟩ π4 _ h4 fun n π5 h5 hn=>?_
  obtain ⟨n,hn,rfl⟩:=hn
  match n,hn with
  | 0,_=>
   have I:=i_enum0 (N:=0) (pb:=pb) G
   have hb:=I.q.fl (by decide)
   have q1:=bl (bl hb)
   have q2:(pubT pb++[101,110,117,109,32,69]).length≤PB:=bl q1
   rw [←flat_en0] at hb
   exact ⟨Nat.le_of_ble_eq_true rfl,PBS q2,PBS q1,PBS (bl lB),PBS lB,Nat.le_of_ble_eq_true rfl,hnest.n0 _ hb π5 _ (hk _ _ h5 (IX.of I (flat_en0 _) (by lia) (by lia) hM (by lia) hk8))⟩
  | 1,_=>
   have I:=i_enum1 (N:=0) (pb:=pb) G
   have hb:=I.q.fl (by decide)
   have q1:=bl (bl hb)
   have q2:(pubT pb++[101,110,117,109,32,69]).length≤PB:=bl q1
   rw [←flat_en1] at hb
   exact ⟨Nat.le_of_ble_eq_true rfl,PBS q2,PBS q1,PBS (bl lB),PBS lB,Nat.le_of_ble_eq_true rfl,hnest.m1 _ _ _ hb π5 _ (hk _ _ h5 (IX.of I (flat_en1 _ _) (by lia) (by lia) hM (by lia) hk8))⟩
  | 2,_=>
   have I:=i_enum2 (N:=0) (pb:=pb) Fi G
   have hb:=I.q.fl (by decide)
   have q1:=bl (bl hb)
   have q2:(pubT pb++[101,110,117,109,32,69]).length≤PB:=bl q1
   rw [←flat_en2] at hb
   exact ⟨Nat.le_of_ble_eq_true rfl,PBS q2,PBS q1,PBS (bl lB),PBS lB,Nat.le_of_ble_eq_true rfl,hnest.m2 _ _ _ _ _ hb π5 _ (hk _ _ h5 (IX.of I (flat_en2 _ _ _) (by lia) (by lia) hM (by lia) hk8))⟩
 | 4,_=>
  refine ht 2 ⟨by decide,by decide⟩ π3 _ h3 fun n π4 h4 hn=>?_
  obtain ⟨n,hn,rfl⟩:=hn
  match n,hn with
  | 0,_=>exact it4 (N:=40) (M:=330) (k:=1) (rows:=[]) G (.inl ⟨rfl,rfl,rfl⟩) (by decide) (by decide) hnest hpa ho hty htf h4 (fun d π6 h6 hd=>hk _ _ h6 (hd.wk (by lia) (by lia) hM (by lia) hk8))
  | 1,_=>
   refine hf0 π4 _ h4 fun e π5 h5 he=>?_
   obtain ⟨it,g,rfl,J⟩:=he
   exact it4 (N:=40) (M:=330) (k:=1) (rows:=[.lst [it,.str (flat g)]]) G (.inr ⟨it,g,rfl,rfl,rfl,J⟩) (by decide) (by decide) hnest hpa ho hty htf h5 (fun d π6 h6 hd=>hk _ _ h6 (hd.wk (by lia) (by lia) hM (by lia) hk8))
 | 5,_=>
  refine ht 2 ⟨by decide,by decide⟩ π3 _ h3 fun n π4 h4 hn=>?_
  obtain ⟨n,hn,rfl⟩:=hn
  match n,hn with
  | 0,_=>exact it5 (N:=40) (M:=330) (k:=1) (rows:=[]) G (.inl ⟨rfl,rfl,rfl⟩) (by decide) (by decide) hnest h4 (fun d π6 h6 hd=>hk _ _ h6 (hd.wk (by lia) (by lia) hM (by lia) hk8))
  | 1,_=>
   refine hf0 π4 _ h4 fun e π5 h5 he=>?_
   obtain ⟨it,g,rfl,J⟩:=he
   exact it5 (N:=40) (M:=330) (k:=1) (rows:=[.lst [it,.str (flat g)]]) G (.inr ⟨it,g,rfl,rfl,rfl,J⟩) (by decide) (by decide) hnest h5 (fun d π6 h6 hd=>hk _ _ h6 (hd.wk (by lia) (by lia) hM (by lia) hk8))
 | 6,_=>
  refine ht 2 ⟨by decide,by decide⟩ π3 _ h3 fun n π4 h4 hn=>?_
  obtain ⟨n,hn,rfl⟩:=hn
  match n,hn with
  | 0,_=>exact it6 (N:=50) (M:=820) (k:=2) (rows:=[]) (by decide) (by decide) (by decide) (by decide) hE hfl hpa ho h4 (fun d π6 h6 hd=>hk _ _ h6 (hd.wk (by lia) (by lia) hM (by lia) hk8))
  | 1,_=>
   refine hf0 π4 _ h4 fun e π5 h5 he=>?_
   obtain ⟨it,g,rfl,J⟩:=he
   exact it6 (N:=50) (M:=820) (k:=2) (rows:=[.lst [it,.str (flat g)]]) (by decide) (by decide) (by decide) (by decide) hE hfl hpa ho h5 (fun d π6 h6 hd=>hk _ _ h6 (hd.wk (by lia) (by lia) hM (by lia) hk8))
 | 7,_=>
  refine ht 2 ⟨by decide,by decide⟩ π3 _ h3 fun n π4 h4 hn=>?_
  obtain ⟨n,hn,rfl⟩:=hn
  match n,hn with
  | 0,_=>exact h7 [] pb gd gt _ k' h4 hk
  | 1,_=>
   refine hf0 π4 _ h4 fun e π5 h5 he=>?_
   obtain ⟨it,g,rfl,J⟩:=he
   exact h7 [.lst [it,.str (flat g)]] pb gd gt _ k' h5 hk
 )
theorem item0_ev:GenS 112 i_law_item [.pool,.int 0] (IX 120 31920 5):=item_ev 0 (by decide) (by decide) (by decide) (by decide) (by decide) (by decide)
 (show Ev 0 111 _ from fun K hK rows pb gd gt π k' hπ hk=>it7 (d:=0) rfl (nest_ev K (by lia)) hπ fun d π' h1 h2=>hk d π' h1 (h2.wk (by decide) (by decide) (by decide) (by decide) (by decide)))
theorem item1_ev:GenS 113 i_law_item [.pool,.int 1] (IX 130 32000 6):=item_ev 1 (by decide) (by decide) (by decide) (by decide) (by decide) (by decide)
 (show Ev 0 112 _ from fun K hK rows pb gd gt π k' hπ hk=>it7s (d:=1) (N:=120) (M:=31920) (k:=5) rfl (by decide) (by decide) (item0_ev K hK) (nest_ev K (by lia)) hπ fun d π' h1 h2=>hk d π' h1 h2)
end
section
open PySem PySem.W
theorem join_lns:∀ {L:List T},L≠[]→joinT [10] L++[10]=lns L
 | [],h=>absurd rfl h
 | [a],_=>by simp [joinT,lns]
 | a::b::L,_=>by
  have ih:=join_lns (L:=b::L) (by simp)
  rw [joinT_cons,List.append_assoc,List.append_assoc,ih]
  simp [lns]
theorem lines_lns {L:List T}(h:∀ p∈L,10∉p):lines (lns L)=L++[[]]:=by
 have e:=lns_join L []
 rw [List.append_nil] at e
 rw [←e,lines_join _ (by simp)]
 intro p hp
 rcases List.mem_append.mp hp with hp | hp
 ·exact h p hp
 ·simp at hp;subst hp;simp
theorem pretty_lns {g:Dc}(h:WF g):pretty g++[10]=lns (dl g):=by
 obtain ⟨h1,_,h3⟩:=dl_ok g h
 rw [h3,join_lns h1]
theorem lns_mem {L:List T}{p:T}(h:p∈L):p.length+1≤(lns L).length:=by
 have:(p++[10]).length≤(L.map (·++[10])).flatten.length:=len_mem (List.mem_map_of_mem (f:=(·++[10])) h)
 rw [List.length_append] at this
 have e:lns L=(L.map (·++[10])).flatten:=by simp [lns,List.flatMap]
 rw [e];exact this
theorem lns_count (L:List T):L.length≤(lns L).length:=by
 have e:lns L=(L.map (·++[10])).flatten:=by simp [lns,List.flatMap]
 rw [e]
 have:=count_le (L:=L.map (·++[10])) (fun x hx=>by obtain ⟨y,_,rfl⟩:=List.mem_map.mp hx;simp)
 simpa using this
theorem strip_sp (n:Nat){inner:T}{c:Nat}{r:T}(e:inner=c::r) (h:c≠32):lstripT (sp n++inner) [32]=inner:=lstripT_eq (4*n) inner (.inr ⟨c,r,e,h⟩)
theorem rep_sp:∀ n:Nat,repL ([32,32,32,32]:T) n=sp n
 | 0=>rfl
 | n+1=>by
  have:sp (n+1)=[32,32,32,32]++sp n:=by
   unfold sp
   rw [show 4*(n+1)=4+4*n by lia,←List.replicate_append_replicate];rfl
  rw [this,←rep_sp n];rfl
theorem one_iff {c d:Nat}:eqT [c] [d]=decide (c=d):=by unfold eqT;simp
theorem last_at {r:T}{c:Nat}:(r++[c])[((-1:Int)+((r++[c]).length:Int)).toNat]?=some c:=by
 have e:((-1:Int)+((r++[c]).length:Int)).toNat=r.length:=by rw [List.length_append];simp only [List.length_cons,List.length_nil];lia
 rw [e];simp
noncomputable def rrB:Sts:=match f_law_are_rows_right.body with
 | .cons _ (.cons (.for _ _ _ _ b) _)=>b
 | _=>.nil
noncomputable abbrev rrF (cf:Or) (d:D) (σ:Sg) (π:Pi) (k':Sg→Pi→Prop):Prop:=tgW true [24276855] d fun l=>wSs rrB cf (σ.setAll l) π k' fun _ _=>False
theorem st_asg {x:Nat}{e:Ex}{ss:Sts}{cf:Or}{σ:Sg}{π:Pi}{k:Sg→Pi→Prop}{r:D→Pi→Prop}(h:wE e cf σ.env π fun d π=>wSs ss cf (σ.set x d) π k r):wSs (.cons (.assign false false x e) ss) cf σ π k r:=h
section
variable {cf:Or}{π:Pi}{k:Sg→Pi→Prop}{d d':Nat}{l:List (Nat×D)}{row:T}
theorem rr_body (h:RowAt d row d') (hl:row.length≤2200000) (hd:getV l 1530710226024=some (.int d))
  (hk:∀ l':List (Nat×D),(∀ x,x≠24276855→x≠1552335922546→x≠6046446181→x≠1530710226024→getV l' x=getV l x)→getV l' 1530710226024=some (.int d')→k ⟨l',[],none⟩ π):
  rrF cf (.str row) ⟨l,[],none⟩ π k:=by
 have eB:strBound=4000000:=rfl
 obtain ⟨inner,here,⟨c,r,e1,h32,hh⟩,⟨r2,c2,e2,hd'⟩,rfl⟩:=h
 have hs:=strip_sp here e1 h32
 have hln:(sp here).length+inner.length≤2200000:=by rw [List.length_append] at hl;exact hl
 have hsp:(sp here).length=4*here:=by unfold sp;rw [List.length_replicate]
 refine And.intro ⟨by lia,by rw [hs];lia⟩ ?_
 rw [hs]
 refine onD_of hd ?_
 subst e1
 have e3:(here:Int)=(d:Int) - (if eqT [c] [125]=true then 1 else 0):=by
  rw [one_iff]
  by_cases hc:c=125
  ·simp [hc] at hh ⊢;lia
  ·simp [hc] at hh ⊢;lia
 refine And.intro rfl ?_
 show wSs _ cf ⟨(6046446181,.int ((d:Int) - (if eqT [c] [125]=true then 1 else 0)))::(1552335922546,.str (c::r))::(24276855,.str (sp here++c::r))::l,[],none⟩ π _ _
 rw [←e3]
 have er:repL ([32,32,32,32]:T) ((here:Int)).toNat=sp here:=rep_sp here
 have eq1:eqT (sp here++c::r) (sp here++c::r)=true:=eqT_iff.mpr rfl
 refine And.intro ⟨by lia,by lia,Nat.le_of_ble_eq_true rfl⟩ ?_
 rw [er]
 refine And.intro (by rw [List.length_append];lia) (iteF (by rw [eq1];rfl) ?_)
 refine And.intro ⟨by decide,by decide⟩ ?_
 have em:strAt (c::r) (-1)=some c2:=by
  rw [e2];unfold strAt;rw [ if_neg (by decide),if_pos (by rw [List.length_append];simp only [List.length_cons,List.length_nil];lia)]
  exact last_at
 rw [em]
 have e4:((d':Nat):Int)=(here:Int)+(if eqT [c2] [123]=true then 1 else 0):=by
  rw [one_iff,hd']
  by_cases hc:c2=123
  ·simp [hc]
  ·simp [hc]
 refine hk ((1530710226024,.int ((here:Int)+(if eqT [c2] [123]=true then 1 else 0)))::(6046446181,.int here)::(1552335922546,.str (c::r))::(24276855,.str (sp here++c::r))::l) (fun x x1 x2 x3 x4=>?_) (by rw [←e4];rfl)
 simp only [getV,if_neg x1,if_neg x2,if_neg x3,if_neg x4]
theorem rr_loop {L:List T}(R:Run d L d'):(∀ p∈L,p.length≤2200000)→∀ (l:List (Nat×D)),getV l 1530710226024=some (.int d)→
  (∀ l':List (Nat×D),(∀ x,x≠24276855→x≠1552335922546→x≠6046446181→x≠1530710226024→getV l' x=getV l x)→getV l' 1530710226024=some (.int d')→k ⟨l',[],none⟩ π)→
  wFor (rrF cf) (L.map .str) ⟨l,[],none⟩ π k:=by
 induction R with
 | nil d=>exact fun _ l hd hk=>hk l (fun _ _ _ _ _=>rfl) hd
 | cons h x ih=>
  intro hl l hd hk
  refine rr_body h (hl _ List.mem_cons_self) hd fun l' q1 q2=>?_
  exact ih (fun p hp=>hl p (List.mem_cons_of_mem _ hp)) l' q2 fun l'' r1 r2=>hk l'' (fun x x1 x2 x3 x4=>(r1 x x1 x2 x3 x4).trans (q1 x x1 x2 x3 x4)) r2
theorem rr_ok {N:Nat}{L:List T}(R:Run 0 L 0) (hn:L≠[]) (hf:∀ p∈L,10∉p) (hl:(lns L).length≤2200000):Sure N 1 i_law_are_rows_right [.str (lns L)] (.bool true):=by
 have eB:strBound=4000000:=rfl
 have hlin:splitT (lns L) [10]=L++[[]]:=by rw [splitT_eq,lines_lns hf]
 have hc:=lns_count L
 refine Sure.of0 g_law_are_rows_right fun cf π k hk=>e_law_are_rows_right ?_
 refine And.intro ⟨by lia,fun x hx=>?_⟩ ?_
 ·rw [hlin] at hx
  rcases List.mem_append.mp hx with hx | hx
  ·have:=lns_mem hx;lia
  ·simp at hx;subst hx;simp
 rw [hlin]
 refine And.intro (by simp;lia) ?_
 have et:((L++[[]]).map D.str).take (cutAt (-1) ((L++[[]]).map D.str).length)=L.map D.str:=by
  have e:cutAt (-1) ((L++[[]]).map D.str).length=(L.map D.str).length:=by
   unfold cutAt
   rw [if_neg (by decide)]
   simp
   lia
  rw [e,List.map_append,List.take_left]
 rw [et]
 refine chkL_iff.mpr ⟨by rw [List.length_map];lia,?_⟩
 refine rr_loop (k:=_) R (fun p hp=>by have:=lns_mem hp;lia) ((1530710226024,.int 0)::[(6247774324,.str (lns L))]) rfl fun l' q1 q2=>?_
 have qt:getV l' 6247774324=some (.str (lns L)):=q1 6247774324 (by decide) (by decide) (by decide) (by decide)
 obtain ⟨r,hr⟩:∃ r,lns L=r++[10]:=⟨_,(join_lns hn).symm⟩
 have e1:eqT (lns L) []=false:=by
  cases h:eqT (lns L) [] with
  | false=>rfl
  | true=>have:=eqT_iff.mp h;rw [hr] at this;simp at this
 refine onD_of q2 (onD_of qt (iteF e1 (onD_of qt ?_)))
 rw [hr]
 refine And.intro ⟨by decide,by decide⟩ ?_
 have em:strAt (r++[10]) (-1)=some 10:=by
  unfold strAt;rw [if_neg (by decide),if_pos (by rw [List.length_append];simp only [List.length_cons,List.length_nil];lia)]
  exact last_at
 rw [em]
 exact hk
end
end
section
open PySem PySem.W
noncomputable def pe0:Ex:=(.ite (.cmp .Lt (.loc 363) (.bi 23881070 (.cons (.loc 408345935179892) .nil))) (.sub (.loc 408345935179892) (.loc 363)) (.cst (.int 0)))
noncomputable def pe1:Ex:=(.bi 23945592 (.cons (.loc 5962558572) (.cons (.bin .Sub (.neg (.cst (.int 1))) (.loc 5962558572)) .nil)))
noncomputable def pe2:Ex:=(.bin .Mod (.bin .Mult (.bin .Add (.bin .Add (.bin .Add (.bin .Mod (.loc 23226727) (.cst (.int 2147483629))) (.bin .Mult (.bin .Mult (.cst (.int 7919)) (.loc 363)) (.loc 363))) (.bin .Mult (.cst (.int 31)) (.loc 363))) (.cst (.int 17))) (.cst (.int 48271))) (.cst (.int 2147483647)))
noncomputable def pe3:Ex:=(.list (.cons (.ite (.cmp .GtE (.loc 23226727) (.bin .Pow (.cst (.int 10)) (.cst (.int 18)))) (.loc 23226727) (.cst (.int 0))) (.cons (.loc 1522237009508) .nil)))
theorem pool_body:f_law_pool.body=.cons (.assign false false 5962558572 pe0) (.cons (.assign false false 23226727 pe1) (.cons (.assign false false 1522237009508 pe2) (.cons (.ret pe3) .nil))):=rfl
theorem ite_any {t:Bool}{A B:Prop}(a:A) (b:B):if t=true then A else B:=by
 cases t
 ·exact b
 ·exact a
theorem pool_t0 {cf:Or}{xs:List Int}{π:Pi}{k:D→Pi→Prop}(hl:xs.length≤1000) (hk:∀ c,k (.int c) π):wE pe0 cf ⟨[(408345935179892,.lst (xs.map .int)),(363,.int 0)],[]⟩ π k:=by
 have eB:strBound=4000000:=rfl
 refine chkL_iff.mpr ⟨by rw [List.length_map];lia,?_⟩
 cases xs with
 | nil=>exact hk 0
 | cons x xs=>exact ite_any (hk x) (hk 0)
theorem pool_t1 {cf:Or}{ρ:List (Nat×D)}{c:Int}{π:Pi}{k:D→Pi→Prop}(hk:∀ c,k (.int c) π):wE pe1 cf ⟨(5962558572,.int c)::ρ,[]⟩ π k:=hk _
theorem pool_t2 {cf:Or}{ρ:List (Nat×D)}{b:Int}{π:Pi}{k:D→Pi→Prop}(hρ:getV ρ 363=some (.int 0)) (hk:∀ i:Int,0≤i∧i < 2147483647→k (.int i) π):wE pe2 cf ⟨(23226727,.int b)::ρ,[]⟩ π k:=by
 have h1:0≤b % 2147483629:=Int.emod_nonneg _ (by decide)
 have h2:b % 2147483629 < 2147483629:=Int.emod_lt_of_pos _ (by decide)
 refine And.intro (by decide) (onD_of hρ ?_)
 refine And.intro ⟨by decide,by decide⟩ (onD_of hρ ?_)
 refine And.intro ⟨by decide,by decide⟩ (onD_of hρ ?_)
 refine And.intro ⟨by decide,by decide⟩ ?_
 refine And.intro ⟨?_,?_⟩ ?_
 ·show (-4294967296:Int)≤b % 2147483629+0+0+17
  lia
 ·show b % 2147483629+0+0+17≤(4294967296:Int)
  lia
 refine And.intro (by decide) ?_
 exact hk _ ⟨Int.emod_nonneg _ (by decide),Int.emod_lt_of_pos _ (by decide)⟩
theorem pool_t3 {cf:Or}{b i:Int}{π:Pi}{ρ:List (Nat×D)}{k:D→Pi→Prop}(hk:k (.lst [.int b,.int i]) π∧k (.lst [.int 0,.int i]) π):wE pe3 cf ⟨(1522237009508,.int i)::(23226727,.int b)::ρ,[]⟩ π k:=by
 refine And.intro ⟨rfl,rfl⟩ ?_
 exact ite_any hk.1 hk.2
noncomputable abbrev poolL (xs:List Int):List (Nat×D):=[(408345935179892,.lst (xs.map .int)),(363,.int 0)]
theorem pool_run {cf:Or}{xs:List Int}{π:Pi}{kn:Sg→Pi→Prop}{r:D→Pi→Prop}(hl:xs.length≤1000)
  (hk:∀ b c i:Int,0≤i∧i < 2147483647→kn ⟨(1522237009508,.int i)::(23226727,.int b)::(5962558572,.int c)::poolL xs,[],none⟩ π):
  wSs (.cons (.assign false false 5962558572 pe0) (.cons (.assign false false 23226727 pe1) (.cons (.assign false false 1522237009508 pe2) .nil))) cf ⟨poolL xs,[],none⟩ π kn r:=
 st_asg (pool_t0 hl fun c=>st_asg (pool_t1 fun b=>st_asg (pool_t2 rfl fun i hi=>hk b c i hi)))
theorem pool_end {cf:Or}{xs:List Int}{π:Pi}{b c i:Int}{r:D→Pi→Prop}(hi:0≤i∧i < 2147483647) (hk:∀ i j:Int,Pok (i,j)→r (.lst [.int i,.int j]) π):
  wE pe3 cf ⟨(1522237009508,.int i)::(23226727,.int b)::(5962558572,.int c)::poolL xs,[]⟩ π r:=pool_t3 ⟨hk _ _ hi,hk _ _ hi⟩
theorem w_items1 {N M k:Nat}{it:D}{g:Dc}(I:II N M k it g):Sure N 1 i_write_items [.tup [it]] (.str (pretty g++[10])):=by
 have h:=I.q.pl (by have:=I.hM;lia) I.hk
 have h2:(pretty g++[10]).length≤1089001:=by have e:PB=1089000:=rfl;rw [List.length_append];simp only [List.length_cons,List.length_nil];lia
 have eB:strBound=4000000:=rfl
 exact Sure.of g_write_items I.sw fun cf hw π k hk=>e_write_items (hw π _ ⟨by lia,⟨⟨rfl,by simp [strOf] at h2 ⊢;lia⟩,hk⟩⟩)
theorem w_items2 {N M k:Nat}{it it':D}{g g':Dc}(I:II N M k it g) (I':II N M k it' g'):Sure N 1 i_write_items [.tup [it,it']] (.str ((pretty g++[10])++[]++(pretty g'++[10]))):=by
 have h:=I.q.pl (by have:=I.hM;lia) I.hk
 have h':=I'.q.pl (by have:=I'.hM;lia) I'.hk
 have e:PB=1089000:=rfl
 have h2:(pretty g++[10]).length≤1089001:=by rw [List.length_append];simp only [List.length_cons,List.length_nil];lia
 have h3:(pretty g'++[10]).length≤1089001:=by rw [List.length_append];simp only [List.length_cons,List.length_nil];lia
 have eB:strBound=4000000:=rfl
 exact Sure.of2 g_write_items I.sw I'.sw fun cf hw hw' π k hk=>e_write_items (hw π _ ⟨by lia,hw' π _ ⟨by lia,⟨⟨rfl,by simp [strOf] at h2 h3 ⊢;lia⟩,hk⟩⟩⟩)
theorem Eqv.ok {w f:T}(x:Eqv w f):okT f=true:=by
 induction x with
 | nil=>rfl
 | chr h x ih=>simp only [okT,List.all_cons,Bool.and_eq_true,decide_eq_true_eq] at ih ⊢;exact ⟨⟨by lia,by lia⟩,ih⟩
 | sp hn h x ih=>simp only [okT,List.all_cons,Bool.and_eq_true,decide_eq_true_eq] at ih ⊢;exact ⟨by decide,ih⟩
theorem mem_join {s:T}:∀ {ws:List T}{x:T},x∈ws→x.length≤(joinT s ws).length
 | [a],x,h=>by simp at h;subst h;simp [joinT]
 | a::b::r,x,h=>by
  rw [joinT_cons]
  rcases List.mem_cons.mp h with rfl | h
  ·simp only [List.length_append];lia
  ·have:=mem_join (s:=s) h;simp only [List.length_append];lia
theorem join_sum {s:T}:∀ (ws:List T),(ws.map (·.length)).sum+ws.length*s.length≤(joinT s ws).length+s.length
 | []=>by simp
 | [a]=>by simp [joinT]
 | a::b::r=>by
  have ih:=join_sum (s:=s) (b::r)
  rw [joinT_cons]
  simp only [List.map_cons,List.sum_cons,List.length_cons,List.length_append,Nat.add_mul,Nat.one_mul] at ih ⊢
  lia
structure TextOk (W f:T):Prop where
 wl:W.length≤2200000
 fl:f.length≤2200000
 jn:joinT [32] (wordsT W)=f
 rr:∀ {N:Nat},Sure N 1 i_law_are_rows_right [.str W] (.bool true)
theorem text1 {N M k:Nat}{it:D}{g:Dc}(I:II N M k it g):TextOk (pretty g++[10]) (flat g):=by
 have e:PB=1089000:=rfl
 have hM:=I.hM
 have h:=I.q.pl (by lia) I.hk
 have h2:=I.q.fl (by lia)
 have hr:=row_of I.q.at'
 have ev:=eqv g I.q.wf
 have hl:(pretty g++[10]).length≤2200000:=by rw [List.length_append];simp only [List.length_cons,List.length_nil];lia
 obtain ⟨c,r,e1,h32,_⟩:=hr.hd
 obtain ⟨r2,c2,e2,g32,_⟩:=hr.tl
 refine ⟨hl,by lia,join_words ev ev.ok ⟨c,r,e1,h32⟩ ⟨r2,c2,e2,g32⟩ hr.nd,fun {N}=>?_⟩
 rw [pretty_lns I.q.wf] at hl ⊢
 exact rr_ok (rows_right I.q.wf hr) (dl_ok g I.q.wf).1 (dl_ok g I.q.wf).2.1 hl
theorem text2 {N M k:Nat}{it it':D}{g g':Dc}(I:II N M k it g) (I':II N M k it' g'):TextOk ((pretty g++[10])++[]++(pretty g'++[10])) (flat g++[32]++flat g'):=by
 have e:PB=1089000:=rfl
 have hM:=I.hM
 have h:=I.q.pl (by lia) I.hk
 have h2:=I.q.fl (by lia)
 have h':=I'.q.pl (by lia) I'.hk
 have h2':=I'.q.fl (by lia)
 have hr:=row_of I.q.at'
 have hr':=row_of I'.q.at'
 have ev:=eqv g I.q.wf
 have ev':=eqv g' I'.q.wf
 have ev2:Eqv (pretty g++([10]++pretty g')) (flat g++(32::flat g')):=ev.append (Eqv.lead (by simp) (by simp) ev')
 have hl:((pretty g++[10])++[]++(pretty g'++[10])).length≤2200000:=by simp only [List.length_append,List.length_cons,List.length_nil];lia
 have ew:(pretty g++[10])++[]++(pretty g'++[10])=(pretty g++([10]++pretty g'))++[10]:=by simp
 have ef:flat g++[32]++flat g'=flat g++(32::flat g'):=by simp
 have at2:attr (flat g++[32]++flat g')=good:=by rw [attr_app,attr_app,I.q.at',I'.q.at'];rfl
 have hr2:=row_of at2
 obtain ⟨c,r,e1,h32,_⟩:=hr2.hd
 obtain ⟨r2,c2,e2,g32,_⟩:=hr2.tl
 refine ⟨hl,by simp only [List.length_append,List.length_cons,List.length_nil];lia,?_,fun {N}=>?_⟩
 ·rw [ew]
  rw [ef] at e1 e2 hr2 ⊢
  exact join_words ev2 ev2.ok ⟨c,r,e1,h32⟩ ⟨r2,c2,e2,g32⟩ hr2.nd
 ·have el:(pretty g++[10])++[]++(pretty g'++[10])=lns (dl g++dl g'):=by rw [pretty_lns I.q.wf,pretty_lns I'.q.wf,List.append_nil,lns_append]
  rw [el] at hl ⊢
  refine rr_ok ((rows_right I.q.wf hr).append (rows_right I'.q.wf hr')) (by simp [(dl_ok g I.q.wf).1]) (fun p hp=>?_) hl
  rcases List.mem_append.mp hp with hp | hp
  ·exact (dl_ok g I.q.wf).2.1 p hp
  ·exact (dl_ok g' I'.q.wf).2.1 p hp
end
section
open PySem PySem.W
noncomputable def lawA:Sts:=(.cons (.assign false false 6113551988 (.tup (.cons (.cst (.str [98,105,110,97,114,121])) (.cons (.cst (.int 0)) (.cons (.cst (.str [45])) (.cons (.call 6482616824352680801384 (.cons (.cst (.str [97])) .nil)) (.cons (.call 6482616824352680801384 (.cons (.cst (.str [98])) .nil)) .nil))))))) (.cons (.assign false false 1539367789924 (.tup (.cons (.cst (.str [99,111,110,115,116])) (.cons (.cst (.int 0)) (.cons (.cst (.str [67])) (.cons (.call 6482616824352680801384 (.cons (.cst (.str [117,56])) .nil)) (.cons (.tup (.cons (.cst (.str [98,105,110,97,114,121])) (.cons (.cst (.int 0)) (.cons (.cst (.str [45])) (.cons (.loc 6113551988) (.cons (.tup (.cons (.cst (.str [98,105,110,97,114,121])) (.cons (.cst (.int 0)) (.cons (.cst (.str [45])) (.cons (.call 6482616824352680801384 (.cons (.cst (.str [99])) .nil)) (.cons (.call 6482616824352680801384 (.cons (.cst (.str [100])) .nil)) .nil)))))) .nil)))))) (.cons (.cst (.bool false)) .nil)))))))) (.cons (.ite (.cmp .NotEq (.call 453887477429875607148522867 (.cons (.tup (.cons (.loc 1539367789924) .nil)) .nil)) (.cst (.str [99,111,110,115,116,32,67,58,32,117,56,32,61,32,97,32,45,32,98,32,45,32,40,99,32,45,32,100,41,59,10]))) (.cons (.ret (.cst (.bool false))) .nil) .nil) .nil)))
noncomputable def lawB:Sts:=(.cons (.assign false false 6231649637 (.comp (.call 6482616824352564602221 (.cons (.cel 408397525705573) (.cons (.cst (.int 1)) .nil))) true [6248821358] .rng (.bin .Add (.cst (.int 1)) (.call 6482616824352747907941 (.cons (.cel 408397525705573) (.cons (.cst (.int 2)) .nil)))) .nil)) (.cons (.assign false false 6247774324 (.call 453887477429875607148522867 (.cons (.bi 1599698136165 (.cons (.comp (.sub (.loc 24079973) (.cst (.int 0))) true [24079973] .val (.loc 6231649637) .nil) .nil)) .nil))) (.cons (.ret (.and (.cmp .Eq (.join [32] (.meth 1595319019892 (.loc 6247774324) none)) (.join [32] (.comp (.sub (.loc 24079973) (.cst (.int 1))) true [24079973] .val (.loc 6231649637) .nil))) (.call 7837002857627846317429081131406024461596977268 (.cons (.loc 6247774324) .nil)))) .nil)))
theorem fixed_expr:∃ kd r l o f,EI 30 60 1 kd r l o f∧(.tup (.str kd::r):D)=.tup [.str [98,105,110,97,114,121],.int 0,.str [45],.tup [.str [98,105,110,97,114,121],.int 0,.str [45],pathD [97],pathD [98]],.tup [.str [98,105,110,97,114,121],.int 0,.str [45],pathD [99],pathD [100]]]∧pretty (f false)=[97,32,45,32,98,32,45,32,40,99,32,45,32,100,41]:=by
 have a:=(c_path_a (N:=0) (M:=0) (k:=0) (by decide) (by decide))
 have b:=(c_path_b (N:=0) (M:=0) (k:=0) (by decide) (by decide))
 have c:=(c_path_c (N:=0) (M:=0) (k:=0) (by decide) (by decide))
 have d:=(c_path_d (N:=0) (M:=0) (k:=0) (by decide) (by decide))
 have e:=c_bin a b (op:=[45]) (n:=8) op9 (by decide)
 have f:=c_bin c d (op:=[45]) (n:=8) op9 (by decide)
 have g:=c_bin e f (op:=[45]) (n:=8) op9 (by decide)
 exact ⟨_,_,_,_,_,g.wk (by decide) (by decide) (by decide) (by decide) (by decide),rfl,by decide +kernel⟩
noncomputable abbrev fixedD:D:=.tup [.str [99,111,110,115,116],.int 0,.str [67],pathD [117,56],.tup [.str [98,105,110,97,114,121],.int 0,.str [45],.tup [.str [98,105,110,97,114,121],.int 0,.str [45],pathD [97],pathD [98]],.tup [.str [98,105,110,97,114,121],.int 0,.str [45],pathD [99],pathD [100]]],.bool false]
theorem fixed_ok:Sure 130 1 i_write_items [.tup [fixedD]] (.str ([99,111,110,115,116,32,67,58,32,117,56,32,61,32,97,32,45,32,98,32,45,32,40,99,32,45,32,100,41,59]++[10])):=by
 obtain ⟨kd,r,l,o,f,E,e,hp⟩:=fixed_expr
 have I:=i_const (pb:=false) E (by decide)
 have h:=w_items1 (I.wk (N':=130) (by decide) (Nat.le_refl _) (by decide) (Nat.le_refl _) (by decide))
 have hd:(.tup [.str [99,111,110,115,116],.int 0,.str [67],pathD [117,56],.tup (.str kd::r),.bool false]:D)=fixedD:=by rw [e]
 have ht:pretty (.cat (.cat (.txt (pubT false++[99,111,110,115,116,32,67,58,32,117,56,32,61,32])) (f false)) (.txt [59]))=[99,111,110,115,116,32,67,58,32,117,56,32,61,32,97,32,45,32,98,32,45,32,40,99,32,45,32,100,41,59]:=by
  show ([99,111,110,115,116,32,67,58,32,117,56,32,61,32]++pretty (f false))++[59]=_
  rw [hp];rfl
 rw [hd,ht] at h
 exact h
section
variable {cf:Or}{π:Pi}{kn:Sg→Pi→Prop}{r:D→Pi→Prop}
theorem law_head {d:D}(hp:PathOk cf) (hw:Says cf i_write_items [.tup [fixedD]] (.str ([99,111,110,115,116,32,67,58,32,117,56,32,61,32,97,32,45,32,98,32,45,32,40,99,32,45,32,100,41,59]++[10]))) (hk:∀ l',getV l' 408345935179892=some d→kn ⟨l',[],none⟩ π):
  wSs lawA cf ⟨[(408345935179892,d)],[],none⟩ π kn r:=
 hp _ π _ (hp _ π _ (hp _ π _ (hp _ π _ (hp _ π _ (hw π _ (hk _ rfl))))))
structure LawOr (cf:Or):Prop where
 take:TakeOk cf
 item:Gen cf i_law_item [.pool,.int 1] (IX 130 32000 6)
 sure:∀ f ds r,Sure 130 1 f ds r→Says cf f ds r
theorem law_end {l:List (Nat×D)}{c:List (Nat×D)}{W f:T}{ds:List D}(h:LawOr cf) (X:TextOk W f) (h1:getV l 6247774324=some (.str W)) (h2:getV l 6231649637=some (.lst ds))
  (hf:∀ k:D→Pi→Prop,k (.str f) π→wE (.join [32] (.comp (.sub (.loc 24079973) (.cst (.int 1))) true [24079973] .val (.loc 6231649637) .nil)) cf ⟨l,c⟩ π k) (hk:r (.bool true) π):
  wSs (tl (tl lawB)) cf ⟨l,c,none⟩ π kn r:=by
 have eB:strBound=4000000:=rfl
 have hw:∀ x∈wordsT W,x.length≤strBound:=fun x hx=>by
  have:=mem_join (s:=[32]) hx
  rw [X.jn] at this
  have:=X.fl;lia
 have hs:=join_sum (s:=[32]) (wordsT W)
 rw [X.jn] at hs
 have hfl:=X.fl
 have hwl:=X.wl
 refine onD_of h1 ⟨⟨by lia,hw⟩,⟨⟨all_str _,?_⟩,?_⟩⟩
 ·rw [strOf_map]
  simp only [List.length_map,List.length_cons,List.length_nil] at hs ⊢
  lia
 have ej:joinT [32] (((wordsT W).map D.str).map strOf)=f:=by rw [strOf_map];exact X.jn
 rw [ej]
 refine hf _ (iteT (b:=eqT f f) (eqT_iff.mpr rfl) (onD_of h1 ?_))
 exact h.sure _ _ _ X.rr π _ hk
theorem law_tail (h:LawOr cf) (hπ:Pok π) (hk:∀ π',r (.bool true) π'):wSs lawB cf ⟨[],[(408397525705573,.pool)],none⟩ π kn r:=by
 refine h.take 2 ⟨by decide,by decide⟩ π _ hπ fun n π1 h1 hn=>?_
 obtain ⟨n,hn,rfl⟩:=hn
 match n,hn with
 | 0,_=>
  refine h.item π1 _ h1 fun d π2 h2 hd=>?_
  obtain ⟨it,g,rfl,I⟩:=hd
  have X:=text1 I
  refine h.sure _ _ _ (w_items1 I) π2 _ ?_
  exact law_end (l:=[(6247774324,.str _),(6231649637,.lst [.lst [it,.str (flat g)]])]) (c:=[(408397525705573,.pool)]) h X rfl rfl (fun k hk=>⟨jok1 (by have e:PB=1089000:=rfl;have:=I.q.fl (by have:=I.hM;lia);lia) rfl,hk⟩) (hk _)
 | 1,_=>
  refine h.item π1 _ h1 fun d π2 h2 hd=>?_
  refine h.item π2 _ h2 fun d' π3 h3 hd'=>?_
  obtain ⟨it,g,rfl,I⟩:=hd
  obtain ⟨it',g',rfl,I'⟩:=hd'
  have X:=text2 I I'
  refine h.sure _ _ _ (w_items2 I I') π3 _ ?_
  exact law_end (l:=[(6247774324,.str _),(6231649637,.lst [.lst [it,.str (flat g)],.lst [it',.str (flat g')]])]) (c:=[(408397525705573,.pool)]) h X rfl rfl (fun k hk=>⟨jok2 (by have e:PB=1089000:=rfl;have:=I.q.fl (by have:=I.hM;lia);lia) (by have e:PB=1089000:=rfl;have:=I'.q.fl (by have:=I'.hM;lia);lia) rfl,hk⟩) (hk _)
theorem law_or {K:Nat}(hK:200≤K):LawOr (Ret FN K):=⟨take_ev K (by lia),item1_ev K (by lia),fun f ds r s=>s K (by lia)⟩
end
end
noncomputable def fourL {α:Type}(l:List α):Option (α×α×α×α):=
 match l with
 | []=>none
 | a::l=>match l with
  | []=>none
  | b::l=>match l with
   | []=>none
   | c::l=>(oneL l).map fun d=>(a,b,c,d)
theorem fourL_inv {α:Type}{l:List α}{q:α×α×α×α}(h:fourL l=some q):l=[q.1,q.2.1,q.2.2.1,q.2.2.2]:=by
 cases l with
 | nil=>cases h
 | cons a l=>cases l with
  | nil=>cases h
  | cons b l=>cases l with
   | nil=>cases h
   | cons c l=>obtain ⟨d,h1,rfl⟩:=mapI h;rw [oneL_inv h1]
noncomputable def sRet (p:Stmt):Option (Expr×Pos):=
 match p with
 | .Return e q=>e.map fun e=>(e,q)
 | _=>none
theorem sRet_inv {p:Stmt}{r:Expr×Pos}(h:sRet p=some r):p=.Return (some r.1) r.2:=by
 cases p with
 | Return e q=>obtain ⟨e',rfl,rfl⟩:=mapI h;rfl
 | _=>cases h
noncomputable def poolB (body:List Stmt):Option ((Stmt×Stmt×Stmt×Stmt)×(Expr×Pos)×(List Expr×Pos)):=
 (fourL body).bind fun q=>(sRet q.2.2.2).bind fun r=>(eList r.1).map fun l=>(q,r,l)
noncomputable def poolShape (K:Frag) (name:Str):Bool:=
 ((nsIn K mainGlobals name).bind fun r=>r.bind fun v=>(vRef v).bind fun a=>(K.lookup a).bind fun o=>(dFunc o.data).bind fun f=>(bodyS f.body).bind fun body=>poolB body).isSome
inductive PoolI (body:List Stmt):Prop
 | mk (p1 p2 p3:Stmt) (es:List Expr) (p q:Pos) (e:body=[p1,p2,p3,.Return (some (.List es p)) q])
theorem poolShape_inv {K:Frag}{name:Str}{a:Addr}{o:Obj}{f:FuncData}{body:List Stmt}(h:poolShape K name=true) (hns:nsIn K mainGlobals name=some (some (.ref a))) (hl:K.lookup a=some o) (hd:o.data=.func f) (hb:f.body=.stmts body):PoolI body:=by
 obtain ⟨x,h⟩:=Option.isSome_iff_exists.mp h
 rw [hns] at h
 obtain ⟨o',h1,h⟩:=bindI (x:=K.lookup a) h
 rw [←Option.some.inj (hl.symm.trans h1),hd] at h
 obtain ⟨b,h2,h⟩:=bindI (x:=bodyS f.body) h
 rw [hb] at h2
 rw [←Option.some.inj h2] at h
 obtain ⟨q,h3,h⟩:=bindI h
 obtain ⟨r,h4,h⟩:=bindI h
 obtain ⟨l,h5,_⟩:=mapI h
 exact ⟨q.1,q.2.1,q.2.2.1,l.1,l.2,r.2,by rw [fourL_inv h3,sRet_inv h4,eList_inv h5]⟩
theorem cons_of {f:Stmt→Option St}{p:Stmt}{ps:List Stmt}{s:St}{ss:Sts}(h:compS.compSs f (p::ps)=some (Sts.cons s ss)):f p=some s∧compS.compSs f ps=some ss:=by
 obtain ⟨s',ss',h1,h2,e⟩:=compSs_inv h
 cases e
 exact ⟨h1,h2⟩
theorem of_cons {f:Stmt→Option St}{p:Stmt}{ps:List Stmt}{s:St}{ss:Sts}(h1:f p=some s) (h2:compS.compSs f ps=some ss):compS.compSs f (p::ps)=some (Sts.cons s ss):=by
 show (f p).bind (fun s'=>(compS.compSs f ps).bind fun ss'=>some (Sts.cons s' ss'))=_
 rw [h1,h2];rfl
section
variable {prog:Program}{w:World}{fns:List Nat}{h₀:Heap}{k:Nat}{K:Frag}{mg mb:Str→Option Value}
theorem ints2 {src M h}{vs:List Value}{i j:Int}(r:RepL prog w fns src M h vs [.int i,.int j]):∃ t1 t2,vs=[.int i t1,.int j t2]:=by
 obtain ⟨v,us,rfl,h1,r1⟩:=r.cons_inv
 obtain ⟨v2,rfl,h2⟩:=r1.one_inv
 obtain ⟨t1,rfl⟩:=h1.int_inv
 obtain ⟨t2,rfl⟩:=h2.int_inv
 exact ⟨t1,t2,rfl⟩
inductive PoolC (h₀:Heap) (M:List Addr) (s:Shared) (v:Value) (s':Shared):Prop
 | mk (Dl:Addr) (i j:Int) (t1 t2:Tok) (π':Pi) (e:v=.ref Dl) (hp:Pok (i,j)) (hL:s'.heap.PlainList Dl #[.int i t1,.int j t2]) (st:Step none s s') (W:WI h₀ none (Dl::M) s' π') (hD:Dl∉M)
theorem pool_ret (G:Gd prog w fns K mg mb h₀){sc:Scope}{es:List Expr}{p q:Pos}(h:compS fns [] [] (compE fns 40) 40 sc (.Return (some (.List es p)) q)=some (.ret pe3)):SndF prog w fns h₀ k sc (.List es p) pe3:=by
 obtain ⟨e4,hE,q4⟩:=mapI (x:=compE fns 40 sc (.List es p)) h
 obtain rfl:e4=pe3:=St.ret.inj q4
 obtain ⟨hz,hE⟩:=gdI hE
 obtain ⟨es4,hc4,q5⟩:=bindI hE
 exact Option.some.inj q5▸snd_lstF (fun pe e h=>(snd_all G (calls_ok G k).1 (calls_ok G k).2 39 sc pe e h).1) hc4 (of_decide_eq_true hz)
theorem pool_body' (G:Gd prog w fns K mg mb h₀){env:PySem.Env}{A:Around}{s s₁ s₂:Shared}{M:List Addr}{π:Pi}{L:Addr}{xs:List Int}{sc:Scope}{body:List Stmt}(I:PoolI body) (hst:compS.compSs (compS fns [] [] (compE fns 40) 40 sc) body=some f_law_pool.body) (hsc:env.scope=sc) (hA:Good A k) (hl:xs.length≤1000)
  (st:Step none s s₁) (X:SF prog w fns h₀ none M s₁ [] env (L::M) ⟨poolL xs,[],none⟩ s₂ π):wpAny (model prog w) A (execs body env) (fun fl s'=>∃ v,fl=.ret v∧PoolC h₀ M s v s') (fun _ _=>False) s₂:=by
 obtain ⟨p1,p2,p3,es,p,q,rfl⟩:=I
 rw [pool_body] at hst
 obtain ⟨c1,hst⟩:=cons_of hst
 obtain ⟨c2,hst⟩:=cons_of hst
 obtain ⟨c3,hst⟩:=cons_of hst
 obtain ⟨c4,hst⟩:=cons_of hst
 have IHs:∀ ps st,compS fns [] [] (compE fns 40) 40 sc ps=some st→SndS prog w fns h₀ k sc ps st:=fun ps st h=>snd_stmt G (calls_ok G k).1 (calls_ok G k).2 40 sc ps st h
 refine sndSs_then (ps:=[p1,p2,p3]) (kn:=fun σ _=>∃ b c i,(0≤i∧i < 2147483647)∧σ=⟨(1522237009508,.int i)::(23226727,.int b)::(5962558572,.int c)::poolL xs,[],none⟩) IHs hsc hA (fun σ' π' M' s' hkn X'=>?_) (of_cons c1 (of_cons c2 (of_cons c3 rfl))) _ s₂ _ π X (pool_run hl fun b c i hi=>⟨b,c,i,hi,rfl⟩)
 clear X c1 c2 c3 hst IHs
 obtain ⟨b,c,i,hi,rfl⟩:=hkn
 refine wpAny_execs_cons (wpAny_Return_some (wpAny_mono (pool_ret G c4 none M' env _ s' ⟨(1522237009508,.int i)::(23226727,.int b)::(5962558572,.int c)::poolL xs,[]⟩ π' (fun d _=>∃ i j,Pok (i,j)∧d=.lst [.int i,.int j]) hsc hA X'.W X'.F (pool_end hi fun i j hp=>⟨i,j,hp,rfl⟩)) (fun v s₃ p=>?_) fun _ _ x=>x))
 obtain ⟨Dl,vs,ds,π₃,ev,⟨i,j,hp,hd⟩,hPL,hr,hW,hst3,_,hDM,hDn⟩:=p
 rw [D.lst.inj hd] at hr
 obtain ⟨u1,u2,hv⟩:=ints2 hr
 rw [show vs=#[.int i u1,.int j u2] from Array.ext' hv] at hPL
 exact ⟨v,rfl,Dl,i,j,u1,u2,π₃,ev,hp,hPL,st.trans (X'.st.trans hst3),hW.less (List.forall_mem_cons.mpr ⟨List.mem_cons_self,fun a ha=>List.mem_cons_of_mem _ (X'.sub a ha)⟩) (List.mem_cons_of_mem _ X'.tab₀) (fun a q=>nomatch q),fun q=>hDM (X'.sub _ q)⟩
theorem pool_call (G:Gd prog w fns K mg mb h₀){sc:Scope}{env:PySem.Env}{A:Around}{s:Shared}{M:List Addr}{ρ:Env}{π:Pi}{gp pos:Pos}{es:List Expr}{es':Exs}{xs:List Int}
  (hcf:compFn fns [] [] K "_law_pool"=some f_law_pool) (hsh:poolShape K "_law_pool"=true) (hg:gName sc "_law_pool"=some i_law_pool) (hc:compL (compE fns 40 sc) es=some es') (hne:es≠[]) (hsc:env.scope=sc) (hA:Good A (k+1))
  (W:WI h₀ none M s π) (F:FI prog w fns none M env s ρ) (hev:∀ Q:List D→Pi→Prop,Q [.lst (xs.map .int),.int 0] π→wEs es' (Ret FN (k+1)) ρ π Q) (hl:xs.length≤1000):
  wpAny (model prog w) A (eval (.Call (.Name "_law_pool" gp) es [] pos) env) (PoolC h₀ M s) (fun _ _=>False) s:=by
 obtain ⟨hdb,hk,he⟩:=gName_data hg
 obtain ⟨hid,a,o,fd,body,hns,hlk,hd,_⟩:=compFn_data hcf
 refine wpAny_Call_Name_kw ?_
 refine Name_function_global F.kind ((congrArg (fun sc:Scope=>sc.names.lookup ("_law_pool":Str)) hsc).trans hk) (loadGlobal_global (env:=env) (F.glob▸G.g.keeps W.base) (mg_of G.X G.g hns) ?_) hdb
 rw [kw_nil]
 refine callWith_function (o:=o) (fd:=fd) (wpAny_mono (evalArgs_each (fun pe e h=>(snd_all G (calls_ok G (k+1)).1 (calls_ok G (k+1)).2 40 sc pe e h).1) hc hne _ none M env A s ρ π (fun ds π'=>ds=[.lst (xs.map .int),.int 0]∧π'=π) hsc hA W F (hev _ ⟨rfl,rfl⟩)) (fun x s₁ p=>?_) fun _ _ x=>x)
 obtain ⟨hkw,hl',ds,π₁,⟨rfl,rfl⟩,r1,st1,W1⟩:=p
 refine ⟨⟨W1.base _ _ (G.X _ _ hlk),hd⟩,?_⟩
 rw [hkw]
 exact call_enter (k:=k) G hA W1 hcf hns r1 (ds':=[.lst (xs.map .int),.int 0]) (lc:=(poolL xs,[])) rfl rfl fun env' s₂ o' f body hlk' hd' hbody hst hsc' hA' X=>pool_body' G (poolShape_inv hsh hns hlk' hd' hbody) hst hsc' hA' hl st1 X
theorem reframe {M₀ M:List Addr}{s₀ s:Shared}{env:PySem.Env}{σ:Sg}{π π':Pi}{Dl c:Addr}{i j:Int}{t1 t2:Tok}{n:Str}{e:Nat}(X:SF prog w fns h₀ none M₀ s₀ [] env M σ s π) (W2:WI h₀ none (Dl::M) s π') (hL:s.heap.PlainList Dl #[.int i t1,.int j t2]) (hDM:Dl∉M)
  (hone:∀ x,env.scope.names.lookup x=some .cell→x=n) (hn:env.scope.names.lookup n=some .cell) (he:encS n=some e) (hc:env.cells.lookup n=some c) (hσ:getV σ.c e=none){h':Heap}(hcell:h'.IsCell c (some (.ref Dl))) (hs:Heap.SameBut c s.heap h'):
  SF prog w fns h₀ (some Dl) [Dl,lamTab] {s with heap:=hideAll h' [env.locals,c]} [] env [env.locals,Dl,lamTab] ⟨[],[(e,.pool)],none⟩ {s with heap:=h'} (i,j):=by
 obtain ⟨⟨oc,hoc,hdc⟩,hcM,hc0⟩:=X.cells n e c he hn hc hσ
 have hk:∀ a o,a≠c→s.heap.get? a=some o→h'.get? a=some o:=fun a o q e=>hs.extBut a o q e
 have hDc:Dl≠c:=fun q=>cell_seq hoc hdc (q▸hL)
 have hb0:∀ {a o},h₀.get? a=some o→a≠c:=fun e q=>nosome hc0 (X.base₀ _ _ (q▸e))
 have hcM2:c∉Dl::M:=List.not_mem_cons_of_ne_of_not_mem hDc.symm hcM
 have hMc:∀ {a},a∈Dl::M→a≠c:=fun ha q=>hcM2 (q▸ha)
 have kp:Kept (Dl::M) s.heap h':=fun a o hm hd e=>hk a o (fun q=>hd (Option.some.inj (e.symm.trans (q▸hoc))▸hdc)) e
 have hL1:env.locals∈Dl::M:=List.mem_cons_of_mem _ X.L
 have ht1:lamTab∈Dl::M:=List.mem_cons_of_mem _ X.W.tabM
 have hDt:Dl≠lamTab:=fun q=>hDM (q▸X.W.tabM)
 have hDL:Dl≠env.locals:=fun q=>hDM (q▸X.L)
 have sub:∀ a∈[env.locals,Dl,lamTab],a∈Dl::M:=List.forall_mem_cons.mpr ⟨hL1,List.forall_mem_cons.mpr ⟨List.mem_cons_self,all_one ht1⟩⟩
 have hhide:∀ {a o},a≠env.locals→a≠c→h'.get? a=some o→(hideAll h' [env.locals,c]).get? a=some o:=fun q1 q2 h=>hideAll_get _ h (List.not_mem_cons_of_ne_of_not_mem q1 (one_ne q2))
 have hL':=plain_keep hL (hk _ · hDc)
 have W3:WI h₀ (some Dl) [env.locals,Dl,lamTab] {s with heap:=h'} (i,j):=
  ⟨fun a o e=>hk a o (hb0 e) (W2.base a o e),fun a ha=>⟨(W2.fresh a (sub a ha)).1,let ⟨o,e⟩:=(W2.fresh a (sub a ha)).2;⟨o,hk _ _ (hMc (sub a ha)) e⟩⟩,List.mem_cons_of_mem _ (List.mem_cons_of_mem _ (List.mem_singleton_self _)),
   let ⟨ps,q1,q2,q3⟩:=W2.tab;⟨ps,hk _ _ (hMc ht1) q1,q2,fun ps' cv q=>let ⟨cc,q4,q5,q6⟩:=q3 ps' cv q;⟨cc,q4,fun z=>q5 (sub _ z),kp.code q4 q6 q5⟩⟩,
   fun a q=>Option.some.inj q▸⟨List.mem_cons_of_mem _ List.mem_cons_self,hDt,t1,t2,hL'.isList⟩⟩
 have F3:FI prog w fns (some Dl) [env.locals,Dl,lamTab] env {s with heap:=h'} ⟨[],[(e,.pool)]⟩:=
  ⟨X.F.kind,X.F.glob,X.F.bi,⟨X.F.L.1,fun q=>hDL (Option.some.inj q)⟩,let ⟨m,hn,_⟩:=X.F.ns;⟨m,ns_keep hn fun o=>hk _ o (hMc hL1),fun y i d q1 q2=>(nomatch q2)⟩,fun y i' d q1 q2 c' q3=>by
   rw [getV_cons] at q2
   by_cases z:i'=e
   ·rw [if_pos z] at q2
    rw [encS_inj q1 (z▸he),hc] at q3
    rw [←Option.some.inj q3,←Option.some.inj q2]
    exact ⟨fun q=>hcM2 (sub _ q),_,hcell,.pool rfl⟩
   ·rw [if_neg z] at q2;exact (nomatch q2),
   X.F.cd,X.F.lam⟩
 exact ⟨fun a ha=>List.mem_cons_of_mem _ ha,List.forall_mem_cons.mpr ⟨let ⟨n,e⟩:=hL';⟨_,hhide hDL hDc e⟩,all_one (let ⟨ps,q1,_,_⟩:=W3.tab;⟨_,hhide X.F.L.1.symm (hMc ht1) q1⟩)⟩,List.mem_cons_of_mem _ (List.mem_singleton_self _),
  fun a o e=>hhide (fun q=>nosome (W2.fresh _ hL1).1 (q▸e)) (hb0 e) (W3.base a o e),fun a q=>Option.some.inj q▸List.mem_cons_self,List.mem_cons_self,hideAll_none _ List.mem_cons_self,W3,F3,⟨rfl,rfl,fun a o _ _ e=>of_hideAll _ e⟩,fun i ds q=>(nomatch q),
  fun y i' c' q1 q2 q3 q4=>by
   rw [hone y q2] at q1
   rw [getV_cons,if_pos (Option.some.inj (q1.symm.trans he))] at q4
   exact (nomatch q4),
  fun y z c' q1 q2 _ _=>(hone y q1).trans (hone z q2).symm,fun p hp=>absurd hp List.not_mem_nil⟩
end
noncomputable def lawSc (sc:Scope):Bool:=decide (sc.kind=.function)&&decide ((sc.names.filter fun p=>p.2==.cell||p.2==.free)=[(("source":Str),NameKind.cell)])&&!lamScope sc&&sc.names.lookup ("source":Str)==some NameKind.cell
structure LawSc (sc:Scope):Prop where
 kind:sc.kind=.function
 one:∀ x,sc.names.lookup x=some .cell∨sc.names.lookup x=some .free→x=("source":Str)
 lam:lamScope sc=false
 src:sc.names.lookup ("source":Str)=some NameKind.cell
theorem lawSc_data {sc:Scope}(h:lawSc sc=true):LawSc sc:=by
 obtain ⟨h,h4⟩:=band h
 obtain ⟨h,h3⟩:=band h
 obtain ⟨h1,h2⟩:=band h
 have h2:=of_decide_eq_true h2
 have key:∀ {x:Str}{k:NameKind},(k==.cell||k==.free)=true→(x,k)∈sc.names→x="source":=fun {x k} hk hm=>by
  have:(x,k)∈sc.names.filter (fun p=>p.2==.cell||p.2==.free):=List.mem_filter.mpr ⟨hm,hk⟩
  rw [h2] at this
  exact congrArg Prod.fst (List.mem_singleton.mp this)
 exact ⟨of_decide_eq_true h1,fun x hx=>hx.elim (fun hx=>key rfl (lookup_mem' hx)) fun hx=>key rfl (lookup_mem' hx),bnot h3,eq_of_beq h4⟩
section
variable {prog:Program}{w:World}{fns:List Nat}{h₀:Heap}{K:Frag}{mg mb:Str→Option Value}
theorem ints_rep {src M h}{vs:List Value}{xs:List Int}(r:IntsAre vs xs):RepL prog w fns src M h vs (xs.map .int):=by
 induction r with
 | nil=>exact .nil
 | cons n t r ih=>exact .cons (.int n t) ih
theorem e_script:encS "script"=some 408345935179892:=by decide +kernel
theorem e_source:encS "source"=some 408397525705573:=by decide +kernel
theorem law_start {env:PySem.Env}{s s₁:Shared}{L a:Addr}{m:Str→Option Value}{its:Array Value}{xs:List Int}{oc:Obj}(S:LawSc env.scope)
  (hEL:env.locals=L) (hgl:env.globals=mainGlobals) (hbi:env.builtins=builtinsNs) (hcl:env.cells.lookup ("source":Str)=some (L+1)) (hL:L=s₁.heap.objs.size)
  (base₁:∀ a o,h₀.get? a=some o→s₁.heap.get? a=some o) (ghost:∀ a o,a≠lamTab→s₁.heap.get? a=some o→h₀.get? a=some o) (tab1:s₁.heap.get? lamTab=some (tabObj #[])) (h0tab:h₀.get? lamTab=none)
  (F:Fr h₀ L s.heap m) (hm:m "script"=some (.ref a)) (hcellO:s.heap.get? (L+1)=some oc) (hcd:oc.data=.cell none) (htab:s.heap.get? lamTab=some (tabObj #[]))
  (hlist:h₀.IsList a its) (hI:IntsAre its.toList xs) (hg:s.gens=s₁.gens) (ho:s.os=s₁.os):
  SF prog w fns h₀ none [lamTab] s₁ [] env [L,lamTab] ⟨[(408345935179892,.lst (xs.map .int))],[],none⟩ s (0,0):=by
 have hL0:s₁.heap.get? L=none:=hL▸fresh_none (Nat.le_refl _)
 have hLt:L≠lamTab:=fun q=>nosome hL0 (q▸tab1)
 have hLb:h₀.get? L=none:=by
  cases q:h₀.get? L with
  | none=>rfl
  | some o=>exact nosome hL0 (base₁ L o q)
 have hc0:s₁.heap.get? (L+1)=none:=hL▸fresh_none (Nat.le_succ _)
 have hct:L+1≠lamTab:=fun q=>nosome hc0 (q▸tab1)
 have inL:lamTab∈[L,lamTab]:=List.mem_cons_of_mem _ (List.mem_singleton_self _)
 have W:WI h₀ none [L,lamTab] s (0,0):=
  ⟨F.keep,List.forall_mem_cons.mpr ⟨⟨hLb,ns_at F.ns⟩,all_one ⟨h0tab,_,htab⟩⟩,inL,⟨#[],htab,trivial,fun pos cv q=>nomatch (show none=some cv from q)⟩,fun a q=>nomatch q⟩
 have ham:a∉[L,lamTab]:=let ⟨o,e,_⟩:=hlist;List.not_mem_cons_of_ne_of_not_mem (fun q=>nosome hLb (q▸e)) (one_ne fun q=>nosome h0tab (q▸e))
 have hlist2:s.heap.IsList a its:=let ⟨o,e,r⟩:=hlist;⟨o,F.keep _ _ e,r⟩
 have FF:FI prog w fns none [L,lamTab] env s ⟨[(408345935179892,.lst (xs.map .int))],[]⟩:=
  ⟨S.kind,hgl,hbi,⟨hEL▸hLt,fun q=>(nomatch q)⟩,⟨m,hEL.symm▸F.ns,fun y i d q1 q2=>by
   rw [getV_cons] at q2
   by_cases z:i=408345935179892
   ·rw [if_pos z] at q2
    rw [encS_inj q1 (z▸e_script),←Option.some.inj q2]
    exact ⟨_,hm,.lst hlist2 ham (ints_rep hI)⟩
   ·rw [if_neg z] at q2;exact (nomatch q2)⟩,fun y i d q1 q2=>(nomatch q2),fun y q=>⟨_,S.one y q▸hcl⟩,fun q=>(nomatch S.lam.symm.trans q)⟩
 exact ⟨fun a ha=>List.mem_cons_of_mem _ ha,all_one ⟨_,tab1⟩,List.mem_singleton_self _,base₁,fun a q=>(nomatch q),hEL▸List.mem_cons_self,hEL▸hL0,W,FF,⟨hg,ho,fun a o h1 _ e=>F.keep _ _ (ghost a o h1 e)⟩,fun i ds q=>(nomatch q),
  fun y i c q1 q2 q3 q4=>by
   rw [S.one y (.inl q2)] at q3
   rw [←Option.some.inj (hcl.symm.trans q3)]
   exact ⟨⟨oc,hcellO,hcd⟩,List.not_mem_cons_of_ne_of_not_mem (Nat.succ_ne_self _) (one_ne hct),hc0⟩,
  fun y z c q1 q2 _ _=>(S.one y (.inl q1)).trans (S.one z (.inl q2)).symm,fun p hp=>absurd hp List.not_mem_nil⟩
theorem swaps_call (f:Expr) (as:List Expr) (ks:List Keyword) (p:Pos) (t:Option Expr) (l:Nat) (env:PySem.Env):swapsWith (.Call f as ks p) t l env=pure false:=swaps_other (v:=.Call f as ks p) (show 16≠8 by decide) (show 16≠9 by decide) (show 16≠10 by decide) _ _ _
theorem law_fin (G:Gd prog w fns K mg mb h₀){env:PySem.Env}{A:Around}{s s₁:Shared}{L:Addr}{xs:List Int}{p1 p2 p3 p5 p6 p7:Stmt}{sp gp cp ap:Pos}{es:List Expr}
  (hsk:lawSc env.scope=true) (X:SF prog w fns h₀ none [lamTab] s₁ [] env [L,lamTab] ⟨[(408345935179892,.lst (xs.map .int))],[],none⟩ s (0,0)) (hlen:xs.length≤1000) (hA:Good A 301)
  (hcf:compFn fns [] [] K "_law_pool"=some f_law_pool) (hsh:poolShape K "_law_pool"=true) (hgn:gName env.scope "_law_pool"=some i_law_pool)
  (c1:compS.compSs (compS fns [] [] (compE fns 40) 40 env.scope) [p1,p2,p3]=some lawA) (c2:compS.compSs (compS fns [] [] (compE fns 40) 40 env.scope) [p5,p6,p7]=some lawB)
  (hc:compL (compE fns 40 env.scope) es=some (.cons (.loc 408345935179892) (.cons (.cst (.int 0)) .nil))) (hne:es≠[]):
  wpAny (model prog w) A (execs [p1,p2,p3,.Assign [.Name "source" sp] (.Call (.Name "_law_pool" gp) es [] cp) ap,p5,p6,p7] env)
   (fun f s'=>f=.ret (.bool true)∧(∀ b o,h₀.get? b=some o→s'.heap.get? b=some o)∧s'.os=s₁.os∧s'.gens=s₁.gens∧∃ ps,s'.heap.get? lamTab=some (tabObj ps)) (fun _ _=>False) s:=by
 have S:=lawSc_data hsk
 have O:=law_or (K:=301) (by decide)
 have IHs:∀ ps st,compS fns [] [] (compE fns 40) 40 env.scope ps=some st→SndS prog w fns h₀ 301 env.scope ps st:=fun ps st h=>snd_stmt G (calls_ok G 301).1 (calls_ok G 301).2 40 env.scope ps st h
 refine sndSs_then (ps:=[p1,p2,p3]) (kn:=fun σ _=>∃ l',σ=⟨l',[],none⟩∧getV l' 408345935179892=some (.lst (xs.map .int))) IHs rfl hA (fun σ' π' M' s' hkn X'=>?_) c1 _ s _ (0,0) X (law_head (path_ev 301 (by decide)) (O.sure _ _ _ fixed_ok) fun l' h=>⟨l',rfl,h⟩)
 clear X c1
 obtain ⟨l',rfl,hl'⟩:=hkn
 refine wpAny_execs_cons (wpAny_Assign_Name (wpAny_mono (pool_call (k:=300) (xs:=xs) G hcf hsh hgn hc hne rfl hA X'.W X'.F (fun Q hQ=>onD_of hl' hQ) hlen) (fun v s₃ p=>?_) fun _ _ x=>x) (swaps_call _ _ _ _ _ _ _))
 obtain ⟨Dl,i,j,t1,t2,π₃,rfl,hp,hPL,st3,W3,hDM⟩:=p
 have X3:=X'.step st3 (WI.drop1 X'.W W3)
 clear X'
 obtain ⟨c,hcc⟩:=X3.F.cd "source" (.inl S.src)
 refine wpAny_storeName_cell S.kind S.src hcc (X3.cells _ _ c e_source S.src hcc rfl).1 fun h' hc' hs=>?_
 have X4:=reframe X3 W3 hPL hDM (fun x hx=>S.one x (.inl hx)) S.src e_source hcc rfl hc' hs
 refine wpAny_mono (sndSs_of IHs c2 (some Dl) _ _ _ [] env A _ _ (i,j) (fun _ _=>False) (fun d _=>d=.bool true) rfl hA X4 (law_tail O hp fun _=>rfl)) (fun fl s₄ p=>?_) fun _ _ x=>x
 cases fl with
 | next=>obtain ⟨_,_,_,q,_⟩:=p;exact q.elim
 | ret v=>
  obtain ⟨d,π₄,hd,hr,st4,W4⟩:=p
  rw [hd] at hr
  obtain ⟨ps,q,_,_⟩:=W4.tab
  exact ⟨congrArg _ hr.bool_inv,W4.base,st4.os.trans X3.st.os,st4.gens.trans X3.st.gens,ps,q⟩
 | cont=>exact p.elim
 | brk=>exact p.elim
end
noncomputable def AllM {α:Type}(P:α→Prop):List α→Prop
 | []=>True
 | a::l=>P a∧AllM P l
theorem AllM.get {α:Type}{P:α→Prop}{l:List α}{a:α}(h:AllM P l) (m:a∈l):P a:=by
 induction l with
 | nil=>exact absurd m List.not_mem_nil
 | cons b l ih=>exact (List.mem_cons.mp m).elim (fun e=>e▸h.1) (ih h.2)
theorem getV_mem {l:List (Nat×D)}{i:Nat}{d:D}(h:getV l i=some d):(i,d)∈l:=by
 induction l with
 | nil=>cases h
 | cons p l ih=>
  rw [getV_cons i p.1 p.2] at h
  by_cases q:i=p.1
  ·rw [if_pos q] at h
   rw [q,←Option.some.inj h];exact List.mem_cons_self
  ·rw [if_neg q] at h;exact List.mem_cons_of_mem _ (ih h)
noncomputable def isTy (c:Value) (n:String):Bool:=
 match c with
 | .type m=>m==n
 | _=>false
theorem isTy_iff {c:Value}{n:String}(h:isTy c n=true):c=.type n:=by
 cases c with
 | type m=>exact congrArg _ (eq_of_beq h)
 | _=>cases h
noncomputable def vInt:Value→Option Int
 | .int i _=>some i
 | _=>none
noncomputable def vStr:Value→Option Str
 | .str x _=>some x
 | _=>none
theorem vInt_inv {v:Value}{i:Int}(h:vInt v=some i):∃ t,v=.int i t:=by
 cases v with
 | int j t=>exact ⟨t,Option.some.inj h▸rfl⟩
 | _=>cases h
theorem vStr_inv {v:Value}{x:Str}(h:vStr v=some x):∃ t,v=.str x t:=by
 cases v with
 | str j t=>exact ⟨t,Option.some.inj h▸rfl⟩
 | _=>cases h
noncomputable def dDict:Data→Option (Array DictEntry)
 | .dict es _=>some es
 | _=>none
theorem dDict_inv {d:Data}{es:Array DictEntry}(h:dDict d=some es):∃ n,d=.dict es n:=by
 cases d with
 | dict vs n=>exact ⟨n,Option.some.inj h▸rfl⟩
 | _=>cases h
theorem any_inv {α:Type}{o:Option α}{p:α→Bool}(h:o.any p=true):∃ x,o=some x∧p x=true:=by
 cases o with
 | none=>cases h
 | some x=>exact ⟨x,rfl,h⟩
noncomputable def all2 {α β:Type}(f:α→β→Bool):List α→List β→Bool
 | [],[]=>true
 | v::vs,d::ds=>f v d&&all2 f vs ds
 | _,_=>false
noncomputable def seqOf (K:Frag) (v:Value):Option (Addr×Value×Array Value):=(vRef v).bind fun a=>(K.lookup a).bind fun o=>(dSeq o.data).map fun us=>(a,o.cls,us)
noncomputable def repV (K:Frag):Nat→Value→D→Bool
 | 0,_,_=>false
 | n+1,v,d=>match d with
  | .int j=>(vInt v).any fun i=>decide (i=j)
  | .str t=>(vStr v).any fun x=>decide (x.cps.toList=t)&&decide (t.length≤100)
  | .tup ds=>(seqOf K v).any fun q=>isTy q.2.1 "tuple"&&all2 (repV K n) q.2.2.toList ds
  | .lst ds=>(seqOf K v).any fun q=>isTy q.2.1 "list"&&all2 (repV K n) q.2.2.toList ds
  | _=>false
inductive SeqI (h₀:Heap) (v:Value) (c:Value) (us:Array Value) (a:Addr):Prop
 | mk (o:Obj) (n:_) (e:v=.ref a) (ho:h₀.get? a=some o) (hc:o.cls=c) (hd:o.data=.seq us n)
section
variable {prog:Program}{w:World}{fns:List Nat}{h₀:Heap}{K:Frag}{src:Option Addr}{M:List Addr}{h:Heap}
theorem seqOf_inv (X:K.In h₀){v:Value}{q:Addr×Value×Array Value}(e:seqOf K v=some q):SeqI h₀ v q.2.1 q.2.2 q.1:=by
 obtain ⟨a,h1,e⟩:=bindI e
 obtain ⟨o,h2,e⟩:=bindI e
 obtain ⟨us,h3,e⟩:=mapI e
 obtain ⟨n,h4⟩:=dSeq_inv h3
 exact e▸⟨o,n,vRef_inv h1,X _ _ h2,rfl,h4⟩
theorem all2_ok {n:Nat}(ih:∀ v d,repV K n v d=true→Rep prog w fns src M h v d){vs:List Value}:∀ {ds:List D},all2 (repV K n) vs ds=true→RepL prog w fns src M h vs ds:=by
 induction vs with
 | nil=>intro ds e;cases ds with
  | nil=>exact .nil
  | cons _ _=>cases e
 | cons v vs ihv=>intro ds e;cases ds with
  | nil=>cases e
  | cons d ds=>obtain ⟨e1,e2⟩:=band e;exact .cons (ih v d e1) (ihv e2)
theorem repV_ok (X:K.In h₀) (hM:∀ a∈M,h₀.get? a=none) (hk:∀ a o,h₀.get? a=some o→h.get? a=some o) (n:Nat):∀ v d,repV K n v d=true→Rep prog w fns src M h v d:=by
 induction n with
 | zero=>exact fun _ _ e=>nomatch e
 | succ n ih=>
  intro v d e
  cases d with
  | int j=>
   obtain ⟨i,h1,h2⟩:=any_inv e
   obtain ⟨t,rfl⟩:=vInt_inv h1
   exact of_decide_eq_true h2▸.int _ _
  | str x=>
   obtain ⟨y,h1,h2⟩:=any_inv e
   obtain ⟨t,rfl⟩:=vStr_inv h1
   obtain ⟨h3,h4⟩:=band h2
   rw [T.s_inj (of_decide_eq_true h3)]
   exact .str _ _ (Nat.le_trans (of_decide_eq_true h4) (by decide))
  | tup ds=>
   obtain ⟨q,h1,h2⟩:=any_inv e
   obtain ⟨o,n',e1,e2,e3,e4⟩:=seqOf_inv X h1
   obtain ⟨h3,h4⟩:=band h2
   rw [e1]
   exact .tup ⟨o,hk _ _ e2,e3.trans (isTy_iff h3),n',e4⟩ (fun q=>nosome (hM _ q) e2) (all2_ok ih h4)
  | lst ds=>
   obtain ⟨q,h1,h2⟩:=any_inv e
   obtain ⟨o,n',e1,e2,e3,e4⟩:=seqOf_inv X h1
   obtain ⟨h3,h4⟩:=band h2
   rw [e1]
   exact .lst ⟨o,hk _ _ e2,e3.trans (isTy_iff h3),n',e4⟩ (fun q=>nosome (hM _ q) e2) (all2_ok ih h4)
  | _=>cases e
end
noncomputable def globV (K:Frag) (name:Str):Option Value:=(nsIn K mainGlobals name).bind id
theorem globV_inv {K:Frag}{name:Str}{v:Value}(h:globV K name=some v):nsIn K mainGlobals name=some (some v):=by
 obtain ⟨r,h1,h2⟩:=bindI h
 exact h1.trans (congrArg some h2)
noncomputable def dictAt (K:Frag) (name:Str):Option (Addr×Obj):=(globV K name).bind fun v=>(vRef v).bind fun a=>(K.lookup a).map fun o=>(a,o)
noncomputable def entsOf (K:Frag) (name:Str):List DictEntry:=(((dictAt K name).bind fun q=>dDict q.2.data).getD #[]).toList
noncomputable def keysAre (l:List DictEntry) (ks:List T):Bool:=all2 (fun e k=>(vStr e.key).any fun y=>decide (y.cps.toList=k)) l ks
noncomputable def hashOf (P:Params) (v:Value):Int:=((vStr v).map fun x=>PyData.keyHash P x).getD 0
noncomputable def dictOk (K:Frag) (name:Str) (ks:List T) (ds:List D):Bool:=
 (dictAt K name).any fun q=>(dDict q.2.data).any fun es=>isTy q.2.cls "dict"&&(q.2.dict.isNone&&(q.2.slots.isEmpty&&(keysAre es.toList ks&&(all2 (repV K 3) (es.toList.map (·.val)) ds&&!(q.1==sysModules)))))
noncomputable def globOk (K:Frag) (name:Str) (d:D):Bool:=
 match d with
 | .dict ks ds=>dictOk K name ks ds&&name==("LEVELS":Str)
 | d=>(globV K name).any fun v=>repV K 8 v d
theorem keys_cons {e:DictEntry}{l:List DictEntry}{k:T}{ks:List T}(h:keysAre (e::l) (k::ks)=true):(∃ t,e.key=.str (T.s k) t)∧keysAre l ks=true:=by
 obtain ⟨h1,h2⟩:=band h
 obtain ⟨y,h3,h4⟩:=any_inv h1
 obtain ⟨t,h5⟩:=vStr_inv h3
 exact ⟨⟨t,by rw [h5,T.s_inj (of_decide_eq_true h4)]⟩,h2⟩
theorem keysLit {P:Params}{l:List DictEntry}:∀ {ks:List T},keysAre l ks=true→l.map (·.hash)=l.map (fun e=>hashOf P e.key)→KeysLit P l:=by
 induction l with
 | nil=>exact fun _ _=>trivial
 | cons e l ih=>intro ks h q;cases ks with
  | nil=>cases h
  | cons k ks=>
   obtain ⟨⟨t,h1⟩,h2⟩:=keys_cons h
   obtain ⟨q1,q2⟩:=List.cons.inj q
   exact ⟨⟨_,t,h1,q1.trans (congrArg (hashOf P) h1)⟩,ih h2 q2⟩
theorem keys_len {l:List DictEntry}:∀ {ks:List T},keysAre l ks=true→ks.length=l.length:=by
 induction l with
 | nil=>intro ks h;cases ks with
  | nil=>rfl
  | cons _ _=>cases h
 | cons e l ih=>intro ks h;cases ks with
  | nil=>cases h
  | cons k ks=>exact congrArg Nat.succ (ih (keys_cons h).2)
theorem keys_find {l:List DictEntry}(x:Str):∀ {ks:List T},keysAre l ks=true→((l.find? fun e=>Value.isStrOf x e.key).map (·.val))=(ks.zip (l.map (·.val))).lookup x.cps.toList:=by
 induction l with
 | nil=>intro ks h;cases ks with
  | nil=>rfl
  | cons _ _=>cases h
 | cons e l ih=>intro ks h;cases ks with
  | nil=>cases h
  | cons k ks=>
   obtain ⟨⟨t,h1⟩,h2⟩:=keys_cons h
   have e1:Value.isStrOf x e.key=(T.s k==x):=by rw [h1];rfl
   rw [List.map_cons,List.zip_cons_cons,List.lookup_cons]
   by_cases hx:x.cps.toList=k
   ·rw [List.find?_cons_of_pos (p:=fun e:DictEntry=>Value.isStrOf x e.key) (e1.trans (by rw [T.s_inj hx];exact beq_self_eq_true _)),hx,beq_self_eq_true];rfl
   ·rw [List.find?_cons_of_neg (p:=fun e:DictEntry=>Value.isStrOf x e.key) (fun q=>hx ((congrArg (fun z:Str=>z.cps.toList) (eq_of_beq (e1.symm.trans q))).symm.trans (toList_s k))),ih h2,beq_eq_false_iff_ne.mpr hx]
noncomputable def gN:List Str:=["LEVELS","BLOCKS","JUMPS","WHOLE","CAST","UNARY","POSTFIX","COMPARED","INDENT","_law_levels"]
noncomputable def bN:List Str:=["len","list","tuple","str","int","max","isinstance","repr","bool","range","enumerate"]
noncomputable def factsOk (K:Frag):Bool:=all2 (fun n p=>globOk K n p.2) gN globT&&(bN.all (fun x=>(nsIn K mainGlobals x).any Option.isNone)&&poolShape K "_law_pool")
structure Facts (K:Frag) (P:Params):Prop where
 cf:AllM (fun r=>compFn fns0 r.2.1 r.2.2.1 K r.1=some r.2.2.2) cfT
 pool:compFn fns0 [] [] K "_law_pool"=some f_law_pool
 ok:factsOk K=true
 hash:(entsOf K "LEVELS").map (·.hash)=(entsOf K "LEVELS").map (fun e=>hashOf P e.key)
theorem encN:gN.map encS=globT.map fun p=>some p.1:=by decide +kernel
theorem fnT:fns0=cfT.map fun r=>r.2.2.2.id:=rfl
theorem fnG:cfT.map (fun r=>getF FN r.2.2.2.id)=cfT.map fun r=>some r.2.2.2:=by kernel_rfl
theorem map_mem {α β:Type}{f g:α→β}{l:List α}(h:l.map f=l.map g){a:α}(m:a∈l):f a=g a:=List.map_inj_left.mp h a m
noncomputable abbrev GlP (prog:Program) (w:World) (h₀:Heap) (K:Frag) (i:Nat) (d:D):Prop:=∃ name v,encS name=some i∧nsIn K mainGlobals name=some (some v)∧
 ∀ src M h,(∀ a∈M,h₀.get? a=none)→(∀ a o,h₀.get? a=some o→h.get? a=some o)→Rep prog w fns0 src M h v d
section
variable {prog:Program}{w:World}{h₀:Heap}{K:Frag}
theorem gl_dict (X:K.In h₀){name:Str}{i:Nat}{ks:List T}{ds:List D}(he:encS name=some i) (h:dictOk K name ks ds=true) (hh:(entsOf K name).map (·.hash)=(entsOf K name).map (fun e=>hashOf w.params e.key)):GlP prog w h₀ K i (.dict ks ds):=by
 obtain ⟨⟨a,o⟩,h1,h⟩:=any_inv h
 obtain ⟨es,h2,h⟩:=any_inv h
 have hE:entsOf K name=es.toList:=by unfold entsOf;rw [h1];exact congrArg (fun z:Option (Array DictEntry)=>(z.getD #[]).toList) h2
 rw [hE] at hh
 obtain ⟨v,h3,h1⟩:=bindI h1
 obtain ⟨a',h4,h1⟩:=bindI h1
 obtain ⟨o',h5,h1⟩:=mapI h1
 cases h1
 obtain ⟨a1,h⟩:=band h
 obtain ⟨a2,h⟩:=band h
 obtain ⟨a3,h⟩:=band h
 obtain ⟨a4,h⟩:=band h
 obtain ⟨a5,a6⟩:=band h
 obtain ⟨n,h6⟩:=dDict_inv h2
 obtain ⟨c,dc,dt,sl⟩:=o
 rw [show c=.type "dict" from isTy_iff a1,show dc=none from isNone_inv a2,show dt=.dict es n from h6,show sl=#[] from Array.isEmpty_iff.mp a3] at h5
 refine ⟨name,v,he,globV_inv h3,fun src M h' hM hk=>?_⟩
 rw [vRef_inv h4]
 refine .dict _ (mapOf_K (prog:=prog) (fun a o e=>hk _ _ (X a o e)) h5 (keysLit a4 hh)) (fun z=>nosome (hM _ z) (X _ _ h5)) (bnot a6) (fun x=>?_) ((keys_len a4).trans (List.length_map _).symm) (all2_ok (repV_ok X hM hk 3) a5)
 unfold findBy
 rw [←Array.find?_toList]
 exact keys_find x a4
theorem gl_of (X:K.In h₀){name:Str}{i:Nat}{d:D}(he:encS name=some i) (h:globOk K name d=true) (hh:(entsOf K "LEVELS").map (·.hash)=(entsOf K "LEVELS").map (fun e=>hashOf w.params e.key)):GlP prog w h₀ K i d:=by
 have go:(globV K name).any (fun v=>repV K 8 v d)=true→GlP prog w h₀ K i d:=fun h=>let ⟨v,h1,h2⟩:=any_inv h;⟨name,v,he,globV_inv h1,fun src M h' hM hk=>repV_ok X hM hk 8 v d h2⟩
 cases d with
 | dict ks ds=>obtain ⟨h1,h2⟩:=band h;exact gl_dict X he h1 (eq_of_beq h2▸hh)
 | _=>exact go h
theorem gl_all (X:K.In h₀) (hh:(entsOf K "LEVELS").map (·.hash)=(entsOf K "LEVELS").map (fun e=>hashOf w.params e.key)){ns:List Str}:∀ {ps:List (Nat×D)},all2 (fun n p=>globOk K n p.2) ns ps=true→ns.map encS=ps.map (fun p=>some p.1)→∀ p∈ps,GlP prog w h₀ K p.1 p.2:=by
 induction ns with
 | nil=>intro ps h e;cases ps with
  | nil=>exact fun _ q=>absurd q List.not_mem_nil
  | cons _ _=>cases h
 | cons n ns ih=>intro ps h e;cases ps with
  | nil=>cases h
  | cons p ps=>
   obtain ⟨h1,h2⟩:=band h
   obtain ⟨e1,e2⟩:=List.cons.inj e
   exact List.forall_mem_cons.mpr ⟨gl_of X e1 h1 hh,ih h2 e2⟩
theorem gd_of {mg mb:Str→Option Value}{loose:List Str}{mean:ExcName→Option Value}(X:K.In h₀) (Fa:Facts K w.params) (T:Top topProg loose mean mg mb h₀) (C:CodeHd h₀ lamCode lamTab) (ht:h₀.get? lamTab=none):Gd prog w fns0 K mg mb h₀:=by
 obtain ⟨f1,f2⟩:=band Fa.ok
 obtain ⟨f2,_⟩:=band f2
 refine ⟨X,T.g,T.b,T.nolimit,T.builtins,?_,C,by decide,fun i hi=>?_,fun i d h=>gl_all X Fa.hash f1 encN _ (getV_mem h),fun x hx=>?_⟩
 ·obtain ⟨bm,ob,h1,h2,h3,h4,h5,h6⟩:=T.bmain
  refine ⟨bm,ob,h1,h2,fun q=>?_,fun q=>nosome ht (q▸h3),h3,h4,h5,h6⟩
  obtain ⟨o,es,ep,e,hd,_⟩:=T.g
  rw [q] at h3
  rw [Option.some.inj (e.symm.trans h3),h6] at hd
  cases hd
 ·have hi:=List.contains_iff_mem.mp hi
  rw [fnT] at hi
  obtain ⟨r,hr,e⟩:=List.mem_map.mp hi
  exact ⟨r.2.2.2,r.1,r.2.1,r.2.2.1,e▸map_mem fnG hr,e,Fa.cf.get hr⟩
 ·have hm:x∈bN:=by rcases hx with rfl | rfl | rfl | rfl | rfl | rfl | rfl | rfl | rfl | rfl | rfl <;> decide
  obtain ⟨r,h1,h2⟩:=any_inv (List.all_eq_true.mp f2 x hm)
  rw [h1,isNone_inv h2]
end
theorem good_post {mean:ExcName→Option Value}{cl:Str→Option Addr}{xs:List Int}{h₀:Heap}{s₁ s' s0:Shared}{f:Flow}(hg:s₁.gens=#[]) (h0:s0.heap=h₀∧s0.os=s₁.os):
  (f=.ret (.bool true)∧(∀ b o,h₀.get? b=some o→s'.heap.get? b=some o)∧s'.os=s₁.os∧s'.gens=s₁.gens∧∃ ps,s'.heap.get? lamTab=some (tabObj ps))→
  GoodW PySem.Challenge.rw_ot0025_01.row.claim cl mean [ofPy (PyData.list (xs.map PyData.int))] s0 (Except.ok (Flow.ret (match f with | .ret v=>v | x=>Value.none))) s'∧GrownAll [(353,349)] s'.heap:=by
 rintro ⟨rfl,q1,q2,q3,q4⟩
 obtain ⟨r1,r2⟩:=h0
 refine ⟨⟨.inl ⟨_,.bool true,[],rfl,raisesW_false (by wrow_none_raised),.bool true,?_,fun _=>⟨List.nodup_nil,fun _ q=>absurd q List.not_mem_nil⟩⟩,by rw [r1];exact q1,q2.trans r2.symm,q3.trans hg⟩,q4,trivial⟩
 refine' postW_of ?s ?v ?e
 case s=>o_shape
 case v=>wtm_val
 case e=>w_fin
theorem good_caller (env:PySem.Env):Good (callerA.deeper env) 301:=⟨rfl,rfl,Nat.le_of_ble_eq_true rfl,Nat.le_of_ble_eq_true rfl⟩
theorem law_close {prog:Program}{w:World}{h₀:Heap}{K:Frag}{mg mb:Str→Option Value}{loose:List Str}{mean:ExcName→Option Value}{env:PySem.Env}{A:Around}{s s₁:Shared}{L a:Addr}{m:Str→Option Value}{its:Array Value}{xs:List Int}{oc:Obj}{p1 p2 p3 p5 p6 p7:Stmt}{sp gp cp ap:Pos}{es:List Expr}
  (X:K.In h₀) (T:Top topProg loose mean mg mb h₀) (C:CodeHd h₀ lamCode lamTab) (h0tab:h₀.get? lamTab=none)
  (hEL:env.locals=L) (hgl:env.globals=mainGlobals) (hbi:env.builtins=builtinsNs) (hcl:env.cells.lookup ("source":Str)=some (L+1)) (hL:L=s₁.heap.objs.size)
  (base₁:∀ a o,h₀.get? a=some o→s₁.heap.get? a=some o) (ghost:∀ a o,a≠lamTab→s₁.heap.get? a=some o→h₀.get? a=some o) (tab1:s₁.heap.get? lamTab=some (tabObj #[]))
  (F:Fr h₀ L s.heap m) (hm:m "script"=some (.ref a)) (hcellO:s.heap.get? (L+1)=some oc) (hcd:oc.data=.cell none) (htab:s.heap.get? lamTab=some (tabObj #[]))
  (hlist:h₀.IsList a its) (hI:IntsAre its.toList xs) (hlen:xs.length≤1000) (hg:s.gens=s₁.gens) (ho:s.os=s₁.os) (hA:Good A 301) (hsk:lawSc env.scope=true) (Fa:Facts K w.params) (hgn:gName env.scope "_law_pool"=some i_law_pool)
  (c1:compS.compSs (compS fns0 [] [] (compE fns0 40) 40 env.scope) [p1,p2,p3]=some lawA) (c2:compS.compSs (compS fns0 [] [] (compE fns0 40) 40 env.scope) [p5,p6,p7]=some lawB)
  (hc:compL (compE fns0 40 env.scope) es=some (.cons (.loc 408345935179892) (.cons (.cst (.int 0)) .nil))) (hne:es≠[]):
  wpAny (model prog w) A (execs [p1,p2,p3,.Assign [.Name "source" sp] (.Call (.Name "_law_pool" gp) es [] cp) ap,p5,p6,p7] env)
   (fun f s'=>f=.ret (.bool true)∧(∀ b o,h₀.get? b=some o→s'.heap.get? b=some o)∧s'.os=s₁.os∧s'.gens=s₁.gens∧∃ ps,s'.heap.get? lamTab=some (tabObj ps)) (fun _ _=>False) s:=
 law_fin (gd_of X Fa T C h0tab) hsk (law_start (lawSc_data hsk) hEL hgl hbi hcl hL base₁ ghost tab1 h0tab F hm hcellO hcd htab hlist hI hg ho) hlen hA Fa.pool (band (band Fa.ok).2).2 hgn c1 c2 hc hne
namespace whole
theorem tw17692944630003236201:True:=⟨⟩
theorem tw1470681187219097129:True:=⟨⟩
theorem tw2498416867848481842:True:=⟨⟩
theorem tw14466220344212395855:True:=⟨⟩
theorem tw5107446512722659286:True:=⟨⟩
theorem tw10946530811898944155:True:=⟨⟩
theorem tw12720060588376569060:True:=⟨⟩
theorem tw15618681303557448877:True:=⟨⟩
theorem tw1238777103288622858:True:=⟨⟩
theorem tw14838141120960337517:True:=⟨⟩
theorem tw2843944359611042395:True:=⟨⟩
theorem tw13908726913738637837:True:=⟨⟩
theorem tw14302830165969023719:True:=⟨⟩
theorem tw12384909515848061526:True:=⟨⟩
theorem tw9725988738643398560:True:=⟨⟩
theorem tw4689585835679557668:True:=⟨⟩
theorem tw14173393766343599159:True:=⟨⟩
theorem tw16467933323881711526:True:=⟨⟩
theorem tw12652121759503069753:True:=⟨⟩
theorem tw13156973312945586846:True:=⟨⟩
theorem tw7645621925510333512:True:=⟨⟩
theorem tw4163455835068889971:True:=⟨⟩
theorem tw10832908153356258463:True:=⟨⟩
theorem tw12976933641374925533:True:=⟨⟩
theorem tw3270133029678145397:True:=⟨⟩
theorem tw3860174431591174066:True:=⟨⟩
theorem tw5015864234111024480:True:=⟨⟩
theorem tw16986268789631483586:True:=⟨⟩
theorem tw17075553230084287909:True:=⟨⟩
theorem tw9315315907157715723:True:=⟨⟩
theorem tw3909395182359919685:True:=⟨⟩
theorem tw18162983195158539490:True:=⟨⟩
theorem tw5532809562029925614:True:=⟨⟩
theorem tw7078629122812257199:True:=⟨⟩
theorem tw17659150536888882668:True:=⟨⟩
theorem tw356215775963413058:True:=⟨⟩
theorem tw8243020233432551205:True:=⟨⟩
theorem tw6772379921613518395:True:=⟨⟩
theorem tw2649048575011448004:True:=⟨⟩
theorem tw13334927893685096626:True:=⟨⟩
theorem tw17463027529269885953:True:=⟨⟩
theorem tw5649241889958590350:True:=⟨⟩
theorem tw5360207378560713126:True:=⟨⟩
theorem tw5201323674647411954:True:=⟨⟩
theorem tw4357746044423742650:True:=⟨⟩
theorem tw10467399731503315703:True:=⟨⟩
theorem tw6734874506966982255:True:=⟨⟩
theorem tw1242133270297695508:True:=⟨⟩
theorem tw7073311072910153293:True:=⟨⟩
theorem tw17789319016849944305:True:=⟨⟩
theorem tw12761472262123182041:True:=⟨⟩
theorem tw17092094596097150618:True:=⟨⟩
theorem tw11401351377558187561:True:=⟨⟩
theorem tw15206955865107345967:True:=⟨⟩
theorem tw15462414832971340256:True:=⟨⟩
theorem tw14395644662136614805:True:=⟨⟩
theorem tw437534634077163847:True:=⟨⟩
theorem tw8341004590406740810:True:=⟨⟩
theorem tw6888942637506950926:True:=⟨⟩
theorem tw4487652198498899664:True:=⟨⟩
theorem tw6049599900894316688:True:=⟨⟩
theorem tw9046693723037758376:True:=⟨⟩
theorem tw17128258169734466478:True:=⟨⟩
theorem tw9200330197067421115:True:=⟨⟩
theorem tw8101450032967502455:True:=⟨⟩
theorem tw16731332320388202666:True:=⟨⟩
theorem tw1640677438868554593:True:=⟨⟩
theorem tw8884531897199943920:True:=⟨⟩
theorem tw6891315699540082446:True:=⟨⟩
theorem tw10590843552420965350:True:=⟨⟩
theorem tw17948893368442150300:True:=⟨⟩
theorem tw12219512705738599021:True:=⟨⟩
theorem tw2290268214366725154:True:=⟨⟩
theorem tw2912573282932879776:True:=⟨⟩
theorem tw15338273372565686330:True:=⟨⟩
theorem tw15657491793718945610:True:=⟨⟩
theorem tw2168223474955763204:True:=⟨⟩
theorem tw10332575325313852403:True:=⟨⟩
theorem tw13962616709173656972:True:=⟨⟩
theorem tw8799044985600393684:True:=⟨⟩
theorem tw7977878525754885090:True:=⟨⟩
theorem tw15103685750691789098:True:=⟨⟩
theorem tw8181180424491326830:True:=⟨⟩
theorem tw17843127513448600897:True:=⟨⟩
theorem tw4337987958061720545:True:=⟨⟩
theorem tw5879479702872096659:True:=⟨⟩
theorem tw9787344453429475573:True:=⟨⟩
theorem tw14857529406646634625:True:=⟨⟩
theorem tw5277582801102665213:True:=⟨⟩
theorem tw7545654013535254480:True:=⟨⟩
theorem tw4162360135600614074:True:=⟨⟩
theorem tw6896427876366098391:True:=⟨⟩
theorem tw16738726308800667447:True:=⟨⟩
theorem tw6097748072631727781:True:=⟨⟩
theorem tw5477020428343274486:True:=⟨⟩
theorem tw4725433933799282014:True:=⟨⟩
theorem tw11791088910183784695:True:=⟨⟩
theorem tw12381228794656768651:True:=⟨⟩
theorem tw11966515284280811977:True:=⟨⟩
theorem tw5297632933804744799:True:=⟨⟩
theorem tw7910221479046277610:True:=⟨⟩
theorem tw14398828562116658018:True:=⟨⟩
theorem tw8894826161267586577:True:=⟨⟩
theorem tw4234479992401935053:True:=⟨⟩
theorem tw1692622564874605650:True:=⟨⟩
theorem tw13829708278779851847:True:=⟨⟩
theorem tw1587768003098754325:True:=⟨⟩
theorem tw8983667203327932493:True:=⟨⟩
theorem tw10301362462094837657:True:=⟨⟩
theorem tw12928932934922122878:True:=⟨⟩
theorem tw8615399842404961663:True:=⟨⟩
theorem tw6084657873442493111:True:=⟨⟩
theorem tw715978364194892080:True:=⟨⟩
theorem tw9733464779038806419:True:=⟨⟩
theorem tw1021466310418864216:True:=⟨⟩
theorem tw9170513070990267023:True:=⟨⟩
theorem tw18135788421098096370:True:=⟨⟩
theorem tw13749801708979339770:True:=⟨⟩
theorem tw2349701861695252166:True:=⟨⟩
theorem tw7280849871689594849:True:=⟨⟩
theorem tw15835130817642446534:True:=⟨⟩
theorem tw10344827342348678470:True:=⟨⟩
theorem tw4934077235998201596:True:=⟨⟩
theorem tw3166543957339863982:True:=⟨⟩
theorem tw11409993775148365219:True:=⟨⟩
theorem tw12742087137024979937:True:=⟨⟩
theorem tw10178181129370835086:True:=⟨⟩
theorem tw9347626172496877827:True:=⟨⟩
theorem tw6065093676875020208:True:=⟨⟩
theorem tw14621228733418778453:True:=⟨⟩
theorem tw13974613887430780637:True:=⟨⟩
theorem tw16588625043399567139:True:=⟨⟩
theorem tw18174217711786252908:True:=⟨⟩
theorem tw5438831827131416888:True:=⟨⟩
theorem tw1072497446573119103:True:=⟨⟩
theorem tw14390007995909808975:True:=⟨⟩
theorem tw16151222146762293071:True:=⟨⟩
theorem tw9625973628771424018:True:=⟨⟩
theorem tw14407849266092530191:True:=⟨⟩
theorem tw3162365515331879682:True:=⟨⟩
theorem tw6823266097380344784:True:=⟨⟩
theorem tw16062187612904122858:True:=⟨⟩
theorem tw3479739002732855021:True:=⟨⟩
theorem tw5259332797254343937:True:=⟨⟩
theorem tw12967805889597932581:True:=⟨⟩
theorem tw17814491789457634051:True:=⟨⟩
theorem tw9235561108164731721:True:=⟨⟩
theorem tw14916202748087371944:True:=⟨⟩
theorem tw2081632904089052959:True:=⟨⟩
theorem tw14776171463994254414:True:=⟨⟩
theorem tw10472183733418339316:True:=⟨⟩
theorem tw9501391760213346845:True:=⟨⟩
theorem tw12478609949429157409:True:=⟨⟩
theorem tw1219099391390118749:True:=⟨⟩
theorem tw675793542917168019:True:=⟨⟩
theorem tw7187317218736086229:True:=⟨⟩
theorem tw3125283655325999989:True:=⟨⟩
theorem tw1266484639899004939:True:=⟨⟩
theorem tw3935972832432928633:True:=⟨⟩
theorem tw13463558215457259582:True:=⟨⟩
theorem tw1329479340354266572:True:=⟨⟩
theorem tw12698311456782994138:True:=⟨⟩
theorem tw8868806382682364411:True:=⟨⟩
theorem tw11836910150536664915:True:=⟨⟩
theorem tw5171116725156735389:True:=⟨⟩
theorem tw16595449952281916149:True:=⟨⟩
theorem tw10805158454514937742:True:=⟨⟩
theorem tw7545590854473540767:True:=⟨⟩
theorem tw13329942582686594379:True:=⟨⟩
theorem tw18315055452531851272:True:=⟨⟩
theorem tw7185185305316088854:True:=⟨⟩
theorem tw4447922135398794285:True:=⟨⟩
theorem tw11841974853317911985:True:=⟨⟩
theorem tw17992364426957274132:True:=⟨⟩
theorem tw8444963059077079450:True:=⟨⟩
theorem tw11384259339768038936:True:=⟨⟩
theorem tw10144505478992762587:True:=⟨⟩
theorem tw10838650209671834137:True:=⟨⟩
theorem tw6866068747796929802:True:=⟨⟩
theorem tw7056001396292377188:True:=⟨⟩
theorem tw5233578499609466721:True:=⟨⟩
theorem tw536816803628104207:True:=⟨⟩
theorem tw4180466227808675834:True:=⟨⟩
theorem tw15564212434770411261:True:=⟨⟩
theorem tw13285438998962464343:True:=⟨⟩
theorem tw2021854409746315462:True:=⟨⟩
theorem tw17819583843959417973:True:=⟨⟩
theorem tw16912792503757511054:True:=⟨⟩
theorem tw3947618128840659280:True:=⟨⟩
theorem tw10002100669626812175:True:=⟨⟩
theorem tw7525632177321363660:True:=⟨⟩
theorem tw1859146779660683823:True:=⟨⟩
theorem tw14592908492388784131:True:=⟨⟩
theorem tw14756447051001558117:True:=⟨⟩
theorem tw14381574177426341226:True:=⟨⟩
theorem tw978456291528864041:True:=⟨⟩
theorem tw11357175057958205107:True:=⟨⟩
theorem tw7101197657001211085:True:=⟨⟩
theorem tw4338333698743118245:True:=⟨⟩
theorem tw14661705875561194100:True:=⟨⟩
theorem tw12562849145585476731:True:=⟨⟩
theorem tw13760198194640045919:True:=⟨⟩
theorem tw1934810232205804993:True:=⟨⟩
theorem tw3390907139478361160:True:=⟨⟩
theorem tw1765076044715932963:True:=⟨⟩
theorem tw1256279898242784606:True:=⟨⟩
theorem tw12384220206497402333:True:=⟨⟩
theorem tw3150075250938504248:True:=⟨⟩
theorem tw2781955308351554444:True:=⟨⟩
theorem tw6356627984389668255:True:=⟨⟩
theorem tw8572516506043022915:True:=⟨⟩
theorem tw10339747121181971505:True:=⟨⟩
theorem tw17980908128825299112:True:=⟨⟩
theorem tw12066178620653064874:True:=⟨⟩
theorem tw7588574119468234827:True:=⟨⟩
theorem tw2665807779830099079:True:=⟨⟩
theorem tw5542149417468696053:True:=⟨⟩
theorem tw3141554390599180669:True:=⟨⟩
theorem tw2439357469168130064:True:=⟨⟩
theorem tw17179786008130999086:True:=⟨⟩
theorem tw6525215580464160042:True:=⟨⟩
theorem tw4535560162481520197:True:=⟨⟩
theorem tw590541238101311183:True:=⟨⟩
theorem tw4918820536221260690:True:=⟨⟩
theorem tw4909349585908861296:True:=⟨⟩
theorem tw15652777202477211125:True:=⟨⟩
theorem tw7576292583959916747:True:=⟨⟩
theorem tw10616696396452150886:True:=⟨⟩
theorem tw15015764479258077956:True:=⟨⟩
theorem tw13018183266405097566:True:=⟨⟩
theorem tw12762855891700095494:True:=⟨⟩
theorem tw8719548228035378133:True:=⟨⟩
theorem tw8602141644225615130:True:=⟨⟩
theorem tw5001923725869043736:True:=⟨⟩
theorem tw4672207989499910625:True:=⟨⟩
theorem tw13000713063990318526:True:=⟨⟩
theorem tw12179455670472476543:True:=⟨⟩
theorem tw1699034841665187622:True:=⟨⟩
theorem tw16576061068926947915:True:=⟨⟩
theorem tw14192229110069238088:True:=⟨⟩
theorem tw10118140284582671090:True:=⟨⟩
theorem tw11124209341801176217:True:=⟨⟩
theorem tw10654317064775040509:True:=⟨⟩
theorem tw5408107943391738:True:=⟨⟩
theorem tw12852820008105578649:True:=⟨⟩
theorem tw3802398583823018356:True:=⟨⟩
theorem tw1902754551582867561:True:=⟨⟩
theorem tw16845944245580146995:True:=⟨⟩
theorem tw9654072969724333583:True:=⟨⟩
theorem tw12092817750456807627:True:=⟨⟩
theorem tw3127163415804763599:True:=⟨⟩
theorem tw369943808078234791:True:=⟨⟩
theorem tw17475311184863085016:True:=⟨⟩
theorem tw15716183405302250479:True:=⟨⟩
theorem tw2536362301702204066:True:=⟨⟩
theorem tw113900542113845248:True:=⟨⟩
theorem tw16668768811381343612:True:=⟨⟩
theorem tw6396017553259284124:True:=⟨⟩
theorem tw10007520593648235073:True:=⟨⟩
theorem tw11678933692714762019:True:=⟨⟩
theorem tw17529894129228449367:True:=⟨⟩
theorem tw9446046918361872579:True:=⟨⟩
theorem tw4605417425148642151:True:=⟨⟩
theorem tw14875044017630859624:True:=⟨⟩
theorem tw9838295914634562783:True:=⟨⟩
theorem tw6150244297128479101:True:=⟨⟩
theorem tw6714927969197098277:True:=⟨⟩
theorem tw2777902329107566167:True:=⟨⟩
theorem tw10461253832287612282:True:=⟨⟩
theorem tw15274856360797078626:True:=⟨⟩
theorem tw6711224856247384401:True:=⟨⟩
theorem tw8184708281838074206:True:=⟨⟩
theorem tw17870853324313594786:True:=⟨⟩
theorem tw13213058742666125385:True:=⟨⟩
theorem tw6266228650988000492:True:=⟨⟩
theorem tw14031613983174702221:True:=⟨⟩
theorem tw5081031077709457048:True:=⟨⟩
theorem tw7856580471358416282:True:=⟨⟩
theorem tw2013318861076662011:True:=⟨⟩
theorem tw9851385603074314742:True:=⟨⟩
theorem tw43722865635132848:True:=⟨⟩
theorem tw620233503781600244:True:=⟨⟩
theorem tw3085902745639715626:True:=⟨⟩
theorem tw6872907005359335961:True:=⟨⟩
theorem tw13989200534822022692:True:=⟨⟩
theorem tw11423436602419212718:True:=⟨⟩
theorem tw5189780602208921310:True:=⟨⟩
theorem tw17395194986337826024:True:=⟨⟩
theorem tw7564407027854533171:True:=⟨⟩
theorem tw7452821578398259720:True:=⟨⟩
theorem tw4479364801722962140:True:=⟨⟩
theorem tw8699793337390238261:True:=⟨⟩
theorem tw1114806542021703131:True:=⟨⟩
theorem tw13730376311393935369:True:=⟨⟩
theorem tw2608646628457097981:True:=⟨⟩
theorem tw4603890583814415204:True:=⟨⟩
theorem tw11690859581915506653:True:=⟨⟩
theorem tw12808456870637180559:True:=⟨⟩
theorem tw9775085227918541326:True:=⟨⟩
theorem tw14671651394210877623:True:=⟨⟩
theorem tw3869719713472690019:True:=⟨⟩
theorem tw3028004478679740547:True:=⟨⟩
theorem tw4772658413541480157:True:=⟨⟩
theorem tw3306209509626126654:True:=⟨⟩
theorem tw12207685810698929643:True:=⟨⟩
theorem tw1488662743745869538:True:=⟨⟩
theorem tw17991299263585117788:True:=⟨⟩
theorem tw17037309529492816295:True:=⟨⟩
theorem tw12117460353608821864:True:=⟨⟩
theorem tw3945383572190744343:True:=⟨⟩
theorem tw203428145850139289:True:=⟨⟩
theorem tw5942346508108547180:True:=⟨⟩
theorem tw11792362355297244138:True:=⟨⟩
theorem tw2989192609971925910:True:=⟨⟩
theorem tw1182916100746360932:True:=⟨⟩
theorem tw3798757254938238448:True:=⟨⟩
theorem tw6933715213461094250:True:=⟨⟩
theorem tw10488504414272976643:True:=⟨⟩
theorem tw12920395458479335663:True:=⟨⟩
theorem tw8109663874093803249:True:=⟨⟩
theorem tw12012580348766612465:True:=⟨⟩
theorem tw18060336119277286115:True:=⟨⟩
theorem tw13110515450571257733:True:=⟨⟩
theorem tw15001587830400145190:True:=⟨⟩
theorem tw14138553856905868755:True:=⟨⟩
theorem tw9841425051670495895:True:=⟨⟩
theorem tw17195952149560314771:True:=⟨⟩
theorem tw16342273516520970692:True:=⟨⟩
theorem tw12442016628978143412:True:=⟨⟩
theorem tw12850242359631670003:True:=⟨⟩
theorem tw10354518954362131899:True:=⟨⟩
theorem tw13142167418276237254:True:=⟨⟩
theorem tw9951143050096045611:True:=⟨⟩
theorem tw18382394861701510011:True:=⟨⟩
theorem tw9416693575131194153:True:=⟨⟩
theorem tw842793390314483620:True:=⟨⟩
theorem tw6453619897266653623:True:=⟨⟩
theorem tw9464417701048127947:True:=⟨⟩
theorem tw16741440440132755172:True:=⟨⟩
theorem tw7499365098147365621:True:=⟨⟩
theorem tw14890280090424698046:True:=⟨⟩
theorem tw6648197116569056673:True:=⟨⟩
theorem tw16316554137538487329:True:=⟨⟩
theorem tw6472696656209681604:True:=⟨⟩
theorem tw7248877203947682478:True:=⟨⟩
theorem tw11018331769982298155:True:=⟨⟩
theorem tw8258574867067344367:True:=⟨⟩
theorem tw381110514646162275:True:=⟨⟩
theorem tw16529046165737248422:True:=⟨⟩
theorem tw9722750020625992282:True:=⟨⟩
theorem tw13675596732203519343:True:=⟨⟩
theorem tw1469495571348798126:True:=⟨⟩
theorem tw16505068655815891843:True:=⟨⟩
theorem tw13155097880312403346:True:=⟨⟩
theorem tw18145388855558949900:True:=⟨⟩
theorem tw3280129329062278201:True:=⟨⟩
theorem tw14239292526413980002:True:=⟨⟩
theorem tw17295703372945214271:True:=⟨⟩
theorem tw16304597587823193687:True:=⟨⟩
theorem tw9685896690342822935:True:=⟨⟩
theorem tw1633898876240874773:True:=⟨⟩
theorem tw3099485228618234346:True:=⟨⟩
theorem tw11116944545036436439:True:=⟨⟩
theorem tw829771041575555240:True:=⟨⟩
theorem tw17722656257916794322:True:=⟨⟩
end whole
set_option Elab.async true in
set_option maxRecDepth 100000 in
set_option maxHeartbeats 8000000 in
theorem whole:PySem.Challenge.rw_ot0025_01.Holds:=by
 w_on;o_law;k_head
 case hw=>w_witness2
 k_go0
 rename_i s₁ mg mb G Y fa o pm cd doc ho hcd hg X V T B TE TW xs hs hlay0 hL hr hl2 as1 as2 a vs as3 hL2 ra w1 r0 hI hr2 hcond htrue hD h₁ tk₁ wo hwo X0 X' T' K' F' N' l0
 exact wpAny_mono (law_close (L:=s₁.heap.objs.size) (s₁:=s₁) X' T' codeHd (hideAll_none _ (by decide)) rfl rfl rfl rfl rfl (fun a o e=>of_hideAll _ e) (fun a o q e=>ghost_ne e (fun m=>q (List.mem_singleton.mp m))) (hT8 349 (by simp))
  F' rfl (N' (s₁.heap.objs.size+1,wo) (by simp)).1 (hwo.trans rfl) (N' (349,tabObj #[]) (by simp)).1 lifted hI (by lia) rfl rfl (good_caller _) (by kernel_rfl)
  ⟨⟨by kernel_rfl,by kernel_rfl,by kernel_rfl,by kernel_rfl,by kernel_rfl,by kernel_rfl,by kernel_rfl,by kernel_rfl,by kernel_rfl,by kernel_rfl,by kernel_rfl,by kernel_rfl,by kernel_rfl,by kernel_rfl,by kernel_rfl,by kernel_rfl,by kernel_rfl,by kernel_rfl,by kernel_rfl,by kernel_rfl,by kernel_rfl,by kernel_rfl,by kernel_rfl,by kernel_rfl,by kernel_rfl,by kernel_rfl,by kernel_rfl,by kernel_rfl,by kernel_rfl,by kernel_rfl,by kernel_rfl,by kernel_rfl,by kernel_rfl,by kernel_rfl,by kernel_rfl,by kernel_rfl,by kernel_rfl,by kernel_rfl,by kernel_rfl,by kernel_rfl,by kernel_rfl,by kernel_rfl,by kernel_rfl,by kernel_rfl,by kernel_rfl,by kernel_rfl,by kernel_rfl,by kernel_rfl,by kernel_rfl,by kernel_rfl,by kernel_rfl,by kernel_rfl,by kernel_rfl,by kernel_rfl,by kernel_rfl,by kernel_rfl,by kernel_rfl,by kernel_rfl,by kernel_rfl,by kernel_rfl,by kernel_rfl,trivial⟩,by kernel_rfl,by kernel_rfl,by kernel_rfl⟩
  (by kernel_rfl) (by kernel_rfl) (by kernel_rfl) (by kernel_rfl) (by simp)) (fun f s' p=>good_post hg ⟨rfl,rfl⟩ p) (fun e s' x=>x.elim)
end Mine
theorem PySem.Challenge.cw_ot0025_01_holds : PySem.Challenge.rw_ot0025_01.Holds := by
 exact Mine.whole
